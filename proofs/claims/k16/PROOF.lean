import PyProof.Rows.All
import Wide.All
import OpenK.AllK
import Wide.FinOn
import HandS.ForMost
import HandS.IsInst
import HandS.Deep
import HandS.RaiseMore
import HandS.Style
import KE.DatumIndex
import HandS.ForExc
import HandS.ExcIs

import KE.GoesMore
import HandS.More
import PySem.Challenge.RW_besidesay_k16_whole_seen_by_neighbours_a
set_option Elab.async false
set_option linter.all false
set_option maxRecDepth 100000
namespace B
open PySem PySem.Spec L2

/-! ### heaps that only grow -/
theorem same_tup {K : PySem.W.Frag} {H H' : Hp} {a : Addr} {xs : List V} (e : Same H H') (h : SqT K H a xs) : SqT K H' a xs := by
  rcases h with (h | ⟨o, h⟩) | h
  · exact .inl (.inl (e _ _ h))
  · exact .inl (.inr ⟨o, e _ _ h⟩)
  · exact .inr h
theorem same_at {H H' : Hp} {a : Addr} {o : HO} (e : Same H H') (h : H a = some o) : H' a = some o := e _ _ h
mutual
theorem same_dp {K : PySem.W.Frag} {H H' : Hp} (e : Same H H') : ∀ {v : V} {d : PyData}, Dp K H v d → Dp K H' v d
  | _, _, .non => .non
  | _, _, .bl b => .bl b
  | _, _, .int i => .int i
  | _, _, .str x => .str x
  | _, _, .lst h t => .lst (e.seq h) (same_dps e t)
  | _, _, .tup h t => .tup (same_tup e h) (same_dps e t)
theorem same_dps {K : PySem.W.Frag} {H H' : Hp} (e : Same H H') : ∀ {vs : List V} {ds : List PyData}, DpAll K H vs ds → DpAll K H' vs ds
  | _, _, .nil => .nil
  | _, _, .cons h t => .cons (same_dp e h) (same_dps e t)
end
theorem same_new {H : Hp} {p : Addr} {o : HO} (h : H p = none) : Same H (upd H p o) := fun b x e => by
  rw [upd_ne (ne_of_none e h)]
  exact e
/-- the heap without what stands at l -/
def hide (l : Addr) (H : Hp) : Hp := fun b => if b = l then none else H b
theorem hide_self (l : Addr) (H : Hp) : hide l H l = none := by unfold hide; rw [if_pos rfl]
theorem hide_ne {l b : Addr} {H : Hp} (h : b ≠ l) : hide l H b = H b := by unfold hide; rw [if_neg h]
theorem same_hide (l : Addr) (H : Hp) : Same (hide l H) H := fun b x e => by
  by_cases h : b = l
  · subst h; rw [hide_self] at e; cases e
  · rw [hide_ne h] at e; exact e
theorem hide_mono {l : Addr} {H H' : Hp} (s : Same H H') : Same (hide l H) (hide l H') := fun b x e => by
  by_cases h : b = l
  · subst h; rw [hide_self] at e; cases e
  · rw [hide_ne h] at e ⊢; exact s _ _ e
theorem hide_upd {l : Addr} {H : Hp} {o : HO} : Same (hide l H) (hide l (upd H l o)) := fun b x e => by
  by_cases h : b = l
  · subst h; rw [hide_self] at e; cases e
  · rw [hide_ne h] at e ⊢; rw [upd_ne h]; exact e
theorem same_to_hide {l : Addr} {H H' : Hp} (n : H l = none) (s : Same H H') : Same H (hide l H') := fun b x e => by
  have h : b ≠ l := ne_of_none e n
  rw [hide_ne h]; exact s _ _ e
theorem hide_none {l b : Addr} {H : Hp} (h : H b = none) : hide l H b = none := by
  unfold hide; split
  · rfl
  · exact h

/-! ### what the top leaves -/
structure Fn (K : PySem.W.Frag) (mg : Str → Option Value) (name : Str) (st : Stmt) (ps : List Str) where
  f : Addr
  fd : FuncData
  F : Fun K name name st f fd
  g : mg name = some (.ref f)
  b : Binds K fd ps []
/-- a whole number or a text of the module -/
structure Cn (mg : Str → Option Value) (name : Str) (v : V) where
  u : Value
  g : mg name = some u
  r : RelV v u
/-- a tuple of the module -/
structure CnT (K : PySem.W.Frag) (mg : Str → Option Value) (name : Str) (xs : List V) where
  a : Addr
  u : Value
  g : mg name = some u
  r : RelV (.ref a) u
  t : ∀ H, SqT K H a xs

theorem hu65_of {A : Around} {k : Nat} (hr : Room k A) : A.units + 65 < cLine := by have := hr.un; omega

/-! ### rules for operations on more than one kind of things -/
section
variable {X : Cx}
def rAddU : R2 := fun x y H Q => rI0 (fun i j => .int (i + j)) x y H Q ∨ (fun x y H Q => ∃ i j, x = .str i ∧ y = .str j ∧ i.length + j.length ≤ sizeLine ∧ Q (.str (i ++ j)) H) x y H Q ∨ rCat x y H Q
theorem uAdd : OpR X (binaryOp .Add) rAddU := op_add.or (op_add_str.or op_cat)
theorem uMul : OpR X (binaryOp .Mult) (rI CMul fun i j => .int (i * j)) := op_mul
def rEqU (K : PySem.W.Frag) : R2 := fun x y H Q => rEq x y H Q ∨ rEqD K x y H Q
def rNeU (K : PySem.W.Frag) : R2 := fun x y H Q => rNe x y H Q ∨ rNeD K x y H Q
theorem uEq (hu : X.A.units + 64 < cLine) : OpR X (compareOp .Eq) (rEqU X.K) := op_eq.or (op_eqD hu)
theorem uNe (hu : X.A.units + 64 < cLine) : OpR X (compareOp .NotEq) (rNeU X.K) := op_ne.or (op_neD hu)
def rInStr : R2 := fun x y H Q => ∃ (c : Nat) (z : Str), x = .str ⟨#[c]⟩ ∧ y = .str z ∧ Q (.bl (decide (c ∈ z.cps.toList))) H
def rNotInStr : R2 := fun x y H Q => ∃ (c : Nat) (z : Str), x = .str ⟨#[c]⟩ ∧ y = .str z ∧ Q (.bl (!decide (c ∈ z.cps.toList))) H
def rInU (K : PySem.W.Frag) : R2 := fun x y H Q => rIn K false x y H Q ∨ rInD K x y H Q ∨ rInStr x y H Q
def rNotInU (K : PySem.W.Frag) : R2 := fun x y H Q => rIn K true x y H Q ∨ rNotInD K x y H Q ∨ rNotInStr x y H Q
theorem uIn (hu : X.A.units + 65 < cLine) : OpR X (compareOp .In) (rInU X.K) := op_in_seq.or ((op_inD hu).or op_in_sign)
theorem uNotIn (hu : X.A.units + 65 < cLine) : OpR X (compareOp .NotIn) (rNotInU X.K) := op_notIn_seq.or ((op_notInD hu).or op_notIn_sign)
def rIsNU : R2 := fun x y H Q => y = .non ∧ Q (.bl (decide (x = .non))) H
theorem uIsN : OpR X (compareOp .Is) rIsNU := op_isN
def rNotNU : R2 := fun x y H Q => y = .non ∧ Q (.bl (!decide (x = .non))) H
theorem uNotN : OpR X (compareOp .IsNot) rNotNU := op_notN
def rSlU (K : PySem.W.Frag) : V → Option Int → Option Int → Hp → VK → Prop := fun x lo hi H Q => rSlL K x lo hi H Q ∨ rSlT K x lo hi H Q ∨ rSlS x lo hi H Q
theorem uSl : SlR X (rSlU X.K) := sl_list.or (sl_tup.or sl_str)
theorem CallR.or {f : Value} {r r' : List V → Hp → VK → Prop} (h : CallR X f r) (h' : CallR X f r') : CallR X f (fun xs H Q => r xs H Q ∨ r' xs H Q) := by
  intro pins s σ H xs us Q I rs q
  rcases q with q | q
  · exact h pins s σ H xs us Q I rs q
  · exact h' pins s σ H xs us Q I rs q
def rStrU : List V → Hp → VK → Prop := fun xs H Q => (∃ i, xs = [.int i] ∧ i.natAbs.log2 < 1920 ∧ Q (.str (toString i)) H) ∨ ∃ a, xs = [.str a] ∧ Q (.str a) H
theorem uStr : CallR X (.type "str") rStrU := CallR.or call_str_int SkE.call_str_str
def rInt1 : List V → Hp → VK → Prop := fun xs H Q => (∃ i, xs = [.int i] ∧ Q (.int i) H) ∨ ∃ k, xs = [.bl k] ∧ Q (.int (if k then 1 else 0)) H
def rIntU : List V → Hp → VK → Prop := fun xs H Q => rInt1 xs H Q ∨ ∃ a n, xs = [.str a] ∧ PySem.intText? a = some n ∧ a.length ≤ 640 ∧ Q (.int n) H
theorem uInt : CallR X (.type "int") rIntU := CallR.or call_int1 call_int_str
def rLenU (K : PySem.W.Frag) : List V → Hp → VK → Prop := fun xs H Q => (∃ x n, xs = [x] ∧ LenV K x H n ∧ Q (.int n) H) ∨ ∃ d kvs, xs = [.ref d] ∧ H d = some (.dK kvs) ∧ Q (.int kvs.length) H
theorem uLen : CallR X (.builtin "len") (rLenU X.K) := by
  refine CallR.or call_len ?_
  intro pins s σ H xs us Q I rs q
  obtain ⟨d, kvs, e, h, q⟩ := q
  exact call_lenD pins s σ H xs us Q I rs ⟨d, kvs, e, h, q⟩
/-- t.index(x) of data at any depth -/
def rIndexTD (K : PySem.W.Frag) : V → List V → Hp → VK → Prop := fun x xs H Q => ∃ (a : Addr) (y : V) (d : PyData) (ds : List PyData), x = V.ref a ∧ xs = [y] ∧ Dp K H (V.ref a) (.tuple ds) ∧ Dp K H y d ∧
  SeqAt.shaped (.tuple ds) = true ∧ SeqAt.shaped d = true ∧ true ∈ ds.map (fun z => PyData.eqv z d) ∧ Q (.int ((ds.map fun z => PyData.eqv z d).idxOf true : Nat)) H
theorem mt_indexTD (hu : X.A.units + 65 < cLine) : MtR X "tuple.index" (rIndexTD X.K) := by
  intro pins s σ H x xs v us Q I rx rxs h
  obtain ⟨a, y, d, ds, rfl, rfl, hl, hy, sl, sd, hm, q⟩ := h
  cases rx
  cases rxs with
  | cons ry rt =>
    rename_i uy ut
    cases rt
    obtain ⟨bs, r1⟩ := Dp.reads I d y uy hy ry
    have hxs : PyData.canLayAll0 ds = true := SeqAt.canLay_of_shaped sl
    have hroom : X.A.units + 1 + min (PyData.depthAll ds) d.depth < cLine := PyProof.Rows.room_in_shaped sd hu
    cases hl with
    | tup hs ha =>
      obtain ⟨its, rv, ht, hlen⟩ := I.tuple hs
      obtain ⟨as, h4⟩ := Dp.readsAll I ds _ its ha rv
      have hn : its.length = ds.length := SeqAt.ReadsAll.length ds its as h4
      have hmap : its.map (SeqAt.readOf s.heap) = ds := SeqAt.readsAll_map ds its as hxs h4
      refine SeqAt.call_tuple_index (k := true) ht ⟨?_, fun j h1 h2 => ?_⟩ hm ⟨.int _, H, I.tok _, ⟨_, rfl⟩, q⟩
      · rw [List.length_map]; exact hn
      · have hq := SeqAt.items_eqAt (vs := its.toArray) (show ReadsAll s.heap its.toArray.toList ds as from h4) r1 hxs (SeqAt.canLay_of_shaped sd) hroom its[j] (by simp)
        have hjd : j < ds.length := by omega
        have e1 : SeqAt.readOf s.heap its[j] = ds[j] := by
          have : (its.map (SeqAt.readOf s.heap))[j]? = ds[j]? := by rw [hmap]
          rw [List.getElem?_map, List.getElem?_eq_getElem h1, List.getElem?_eq_getElem hjd] at this
          exact Option.some.inj this
        rw [e1] at hq
        rw [List.getElem_map]
        have e3 : PyData.eqv ds[j] d = decide (PyData.eqv ds[j] d = true) := by cases PyData.eqv ds[j] d <;> rfl
        exact e3 ▸ hq
end

/-- a new object: o -/
def Al (o : HO) (H : Hp) (Q : VK) : Prop := ∀ p, H p = none → Q (.ref p) (upd H p o)
section
variable {X : Cx}
def rPartU : V → List V → Hp → VK → Prop := fun x xs H Q => ∃ a b, x = .str a ∧ xs = [.str b] ∧ (b.length == 0) = false ∧ a.length ≤ sizeLine ∧ Al (.tup [.str (Txt.partition a b).1, .str (Txt.partition a b).2.1, .str (Txt.partition a b).2.2]) H Q
theorem mt_partU : MtR X "str.partition" rPartU := mt_partition
def rStartsU : V → List V → Hp → VK → Prop := fun x xs H Q => ∃ a b, x = .str a ∧ xs = [.str b] ∧ Q (.bl (Txt.startswith a b)) H
theorem mt_startsU : MtR X "str.startswith" rStartsU := mt_startswith
def rJoinU (K : PySem.W.Frag) : V → List V → Hp → VK → Prop := fun x xs H Q => ∃ a p, ∃ ys : List Str, x = .str a ∧ xs = [.ref p] ∧ (SqL K H p (ys.map V.str) ∨ SqT K H p (ys.map V.str)) ∧ (ys.map (·.length)).sum + ys.length * a.length ≤ 16777216 ∧ Q (.str (Txt.join a ys)) H
theorem mt_joinU : MtR X "str.join" (rJoinU X.K) := mt_join
theorem mt_appendU : MtR X "list.append" rAppend := mt_append
end

/-! ### rules whose reading names the written part by a letter of one's own (within comprehensions too) -/
section
variable {X : Cx} {tg o e e2 l : Expr} {es : List Expr} {te tl to : TE} {ta t : TA} {pos p tpos apos cpos : Pos} (K : PySem.W.Frag) (hK : X.K = K)
include hK
theorem pi_listK (hl : PE X l tl) : PI X tg l (iList K tl) := by subst hK; exact pi_list hl
theorem pi_tupK (hl : PE X l tl) : PI X tg l (iTup K tl) := by subst hK; exact pi_tup hl
theorem pg_tupK {es : List Expr} {k : Nat} {t : TGs} {n : Nat} (hc : X.calm = true) (h : PGs X es t)
    (hn : (assignEach es X.env).length = n := by rfl) (hst : (assignEach es X.env).findIdx? (·.1) = none := by rfl) : PG X (.Tuple es k pos) (gTup K n t) := by
  subst hK; exact pg_tup hc h hn hst
theorem pi_enumK {elts : List Expr} {kk : Nat} (hg : Gl X "enumerate") (hm : X.mg "enumerate" = none) (ha : PA X [e] ta) (hs : starEach [e] X.env = [(false, eval e X.env)] := by rfl) :
    PI X (.Tuple elts kk tpos) (.Call (.Name "enumerate" p) [e] [] pos) (iEnum K ta) := by subst hK; exact pi_enum hg hm ha hs
theorem pi_zipK {elts : List Expr} {kk : Nat} (hg : Gl X "zip") (hm : X.mg "zip" = none) (ha : PA X [e, e2] ta)
    (hs : starEach [e, e2] X.env = (false, eval e X.env) :: starEach [e2] X.env := by rfl) (hpl : (backTo pos (starEach [e2] X.env)).any (·.1) = false := by rfl) :
    PI X (.Tuple elts kk tpos) (.Call (.Name "zip" p) [e, e2] [] pos) (iZip K ta) := by subst hK; exact pi_zip hg hm ha hs hpl
theorem pe_bm0K {name : Str} {T id : String} {r : V → List V → Hp → VK → Prop} (pa : PlainAttrs T) (slot : Slot T name id) (hty : typeOf (.builtin id) = pure (.type "method_descriptor")) (hm : MtR X id r) (ho : PE X o to)
    (hbase : attributeBase o name X.env (eval o X.env) = eval o X.env := by rfl) (hline : (apos.endLine == cpos.line) = true := by rfl) : PE X (.Call (.Attribute o name apos) [] [] cpos) (tBM0 K T r to) := by
  subst hK; exact pe_bm0 pa slot hty hm ho hbase hline
theorem pe_bmK {name : Str} {T id : String} {r : V → List V → Hp → VK → Prop} (pa : PlainAttrs T) (slot : Slot T name id) (hty : typeOf (.builtin id) = pure (.type "method_descriptor")) (hm : MtR X id r) (ho : PE X o to) (ha : PA X (e :: es) t)
    (hbase : attributeBase o name X.env (eval o X.env) = eval o X.env := by rfl)
    (hfew : ((backTo cpos (starEach (e :: es) X.env)).all (fun x => !x.1) && (backToKw cpos (keywordEach [] X.env)).all (fun x => x.1.isSome)
      && decide ((e :: es).length + ([] : List Keyword).length + (if ([] : List Keyword).isEmpty then 0 else 1) < 30)) = true := by rfl)
    (hline : (apos.endLine == cpos.line) = true := by rfl) (hs : starEach (e :: es) X.env = (false, eval e X.env) :: starEach es X.env := by rfl) (hplain : (backTo cpos (starEach es X.env)).any (·.1) = false := by rfl) :
    PE X (.Call (.Attribute o name apos) (e :: es) [] cpos) (tBM K T r to t) := by
  subst hK; exact pe_bm pa slot hty hm ho ha hbase hfew hline hs hplain
theorem pt_truthK {a : Expr} {ta : TE} (ha : PE X a ta) (he : ∀ whole, isTrue a X.env whole = (do let v ← whole; standAt a.pos; holding [v] (truthy v))) : PT X a (fun σ H Q => ta σ H fun x H' => ∃ k, TruV K x H' k ∧ Q k H') := by
  subst hK; exact pt_truth ha he
end

/-! ### the readings, step by step -/
section
variable {σ : St} {H : Hp} {Q : VK} {D : Ends} {K : PySem.W.Frag}
theorem j_al {o : HO} (q : ∀ p H2, H p = none → Same H H2 → H2 p = some o → Q (.ref p) H2) : Al o H Q := fun p n => q p _ n (same_new n) upd_same
theorem j_var {i : Nat} {v : V} (h : σ[i]? = some (some v)) (q : Q v H) : tVar i σ H Q := ⟨v, h, q⟩
theorem j_C {v : V} (q : Q v H) : tC v σ H Q := q
theorem j_op {r : R2} {ta tb : TE} (q : ta σ H fun x H1 => tb σ H1 fun y H2 => r x y H2 Q) : tOp r ta tb σ H Q := q
theorem j_un {r : V → Hp → VK → Prop} {ta : TE} (q : ta σ H fun x H1 => r x H1 Q) : tUn r ta σ H Q := q
theorem j_neg {i : Int} (q : Q (.int (-i)) H) : rU (fun i => .int (-i)) (.int i) H Q := ⟨i, rfl, q⟩
theorem j_test {t : TE} {Q : Bool → Hp → Prop} (q : t σ H fun x H' => ∃ k, x = .bl k ∧ Q k H') : tTest t σ H Q := q
theorem j_tB {t : TE} {Q : Bool → Hp → Prop} (q : t σ H fun x H' => ∃ k, x = .bl k ∧ Q k H') : tB t σ H Q := q
theorem j_bl {k : Bool} {P : Bool → Prop} (q : P k) : ∃ k', V.bl k = .bl k' ∧ P k' := ⟨k, rfl, q⟩
theorem j_and {t u : TT} {Q : Bool → Hp → Prop} (q : t σ H fun c H1 => if c = true then u σ H1 Q else Q false H1) : tAnd t u σ H Q := q
theorem j_or {t u : TT} {Q : Bool → Hp → Prop} (q : t σ H fun c H1 => if c = true then Q true H1 else u σ H1 Q) : tOr t u σ H Q := q
theorem j_not {t : TT} {Q : Bool → Hp → Prop} (q : t σ H fun c H1 => Q (!c) H1) : tNot t σ H Q := q
theorem j_andV {ta tb : TE} (q : ta σ H fun x H1 => ∃ c, x = .bl c ∧ if c = true then tb σ H1 Q else Q (.bl false) H1) : tAndV ta tb σ H Q := q
theorem j_orV {ta tb : TE} (q : ta σ H fun x H1 => ∃ c, x = .bl c ∧ if c = true then Q (.bl true) H1 else tb σ H1 Q) : tOrV ta tb σ H Q := q
theorem j_notV {ta : TE} (q : ta σ H fun x H1 => ∃ c, x = .bl c ∧ Q (.bl (!c)) H1) : tNotV ta σ H Q := q
theorem j_blV {k : Bool} {Q : Bool → Prop} (q : Q k) : ∃ c, V.bl k = .bl c ∧ Q c := ⟨k, rfl, q⟩
theorem j_if {t : TT} {ta tb : TE} (q : t σ H fun c H1 => if c = true then ta σ H1 Q else tb σ H1 Q) : tIf t ta tb σ H Q := q
theorem j_nil {Q : List V → Hp → Prop} (q : Q [] H) : tNil σ H Q := q
theorem j_cons {ta : TE} {tr : TA} {Q : List V → Hp → Prop} (q : ta σ H fun x H1 => tr σ H1 fun xs H2 => Q (x :: xs) H2) : tCons ta tr σ H Q := q
theorem j_tup {t : TA} (q : t σ H fun xs H1 => xs.length ≤ sizeLine ∧ Al (.tup xs) H1 Q) : tTup t σ H Q := q
theorem j_lst {t : TA} (q : t σ H fun xs H1 => xs.length ≤ sizeLine ∧ Al (.lst xs) H1 Q) : tLst t σ H Q := q
theorem j_call {sp : Sp} {dvs : List V} {E : XK} {t : TA} (q : t σ H fun vs H1 => sp (vs ++ dvs) H1 Q E) : tCall sp dvs E t σ H Q := q
theorem j_cb {r : List V → Hp → VK → Prop} {t : TA} (q : t σ H fun vs H1 => r vs H1 Q) : tCB r t σ H Q := q
theorem j_sl {r : V → Option Int → Option Int → Hp → VK → Prop} {te : TE} {tl th : TO} (q : te σ H fun x H1 => tl σ H1 fun l H2 => th σ H2 fun u H3 => r x l u H3 Q) : tSl r te tl th σ H Q := q
theorem j_part {te : TE} {Q : Option Int → Hp → Prop} (q : te σ H fun x H1 => ∃ i, x = .int i ∧ Q (some i) H1) : tPart te σ H Q := q
theorem j_int {i : Int} {P : Int → Prop} (q : P i) : ∃ j, V.int i = .int j ∧ P j := ⟨i, rfl, q⟩
theorem j_nopart {Q : Option Int → Hp → Prop} (q : Q none H) : tNoPart σ H Q := q
theorem j_m1 {r : V → List V → Hp → VK → Prop} {to te : TE} (q : to σ H fun x H1 => (∃ a, x = .str a) ∧ te σ H1 fun y H2 => r x [y] H2 Q) : tM1 r to te σ H Q := q
theorem j_m0 {r : V → List V → Hp → VK → Prop} {to : TE} (q : to σ H fun x H1 => (∃ a, x = .str a) ∧ r x [] H1 Q) : tM0 r to σ H Q := q
theorem j_strv {a : Str} {P : Prop} (q : P) : (∃ b, V.str a = .str b) ∧ P := ⟨⟨a, rfl⟩, q⟩
theorem j_bm {T : String} {r : V → List V → Hp → VK → Prop} {to : TE} {t : TA} (q : to σ H fun x H1 => tyV K T x H1 ∧ t σ H1 fun xs H2 => r x xs H2 Q) : tBM K T r to t σ H Q := q
theorem j_bm0 {T : String} {r : V → List V → Hp → VK → Prop} {to : TE} (q : to σ H fun x H1 => tyV K T x H1 ∧ r x [] H1 Q) : tBM0 K T r to σ H Q := q
theorem j_chain {r r' : R2} {ta tb tc : TE} (q : ta σ H fun x H1 => tb σ H1 fun y H2 => r x y H2 fun z H3 => ∃ k, z = .bl k ∧ (if k = true then tc σ H3 fun w' H4 => r' y w' H4 Q else Q (.bl false) H3)) : tChain r r' ta tb tc σ H Q := q
theorem j_ex1 {a : Str} {P : Str → Prop} (q : P a) : ∃ x, [V.str a] = [V.str x] ∧ P x := ⟨a, rfl, q⟩
theorem j_ex2 {a : Str} {P : Str → Prop} (q : P a) : ∃ x, V.str a = V.str x ∧ P x := ⟨a, rfl, q⟩
theorem j_ex3 {a : Addr} {P : Addr → Prop} (q : P a) : ∃ x, V.ref a = V.ref x ∧ P x := ⟨a, rfl, q⟩
theorem j_partit {a b : Str} (h0 : (b.length == 0) = false) (h : a.length ≤ sizeLine) (q : Al (.tup [.str (Txt.partition a b).1, .str (Txt.partition a b).2.1, .str (Txt.partition a b).2.2]) H Q) : rPartU (.str a) [.str b] H Q := ⟨a, b, rfl, rfl, h0, h, q⟩
theorem j_starts {a b : Str} (q : Q (.bl (Txt.startswith a b)) H) : rStartsU (.str a) [.str b] H Q := ⟨a, b, rfl, rfl, q⟩
theorem j_joinL {a : Str} {p : Addr} {xs : List V} (ys : List Str) (h : SqL K H p xs) (e : xs = ys.map V.str) (hs : (ys.map (·.length)).sum + ys.length * a.length ≤ 16777216) (q : Q (.str (Txt.join a ys)) H) : rJoinU K (.str a) [.ref p] H Q := ⟨a, p, ys, rfl, rfl, .inl (e ▸ h), hs, q⟩
theorem j_ifP {c A B : Prop} [Decidable c] (h : c) (q : A) : if c then A else B := by rw [if_pos h]; exact q
theorem j_ifN {c A B : Prop} [Decidable c] (h : ¬ c) (q : B) : if c then A else B := by rw [if_neg h]; exact q
-- statements
theorem j_seq {t u : TS} (q : t { D with nx := u D } σ H) : tSeq t u D σ H := q
theorem j_asg {te : TE} {g : TG} (q : te σ H fun x H1 => g x σ H1 D.nx) : tAsg te g D σ H := q
theorem j_drop {te : TE} (q : te σ H fun _ H1 => D.nx σ H1) : tDrop te D σ H := q
theorem j_ret {te : TE} (q : te σ H D.rt) : tRet te D σ H := q
theorem j_retN (q : D.rt .non H) : tRetN D σ H := q
theorem j_next (q : D.nx σ H) : tNext D σ H := q
theorem j_brk (q : D.bk σ H) : tBreak D σ H := q
theorem j_cont (q : D.ct σ H) : tCont D σ H := q
theorem j_ifS {c : TT} {t u : TS} (q : c σ H fun b H1 => if b = true then t D σ H1 else u D σ H1) : tIfS c t u D σ H := q
theorem j_gn {i : Nat} {v : V} {Q : St → Hp → Prop} {σ' : St} (e : σ.set i (some v) = σ') (q : Q σ' H) : gName i v σ H Q := by subst e; exact q
theorem j_gt {n : Nat} {t : TGs} {a : Addr} {xs : List V} {Q : St → Hp → Prop} (h : SqT K H a xs) (hl : xs.length = n) (q : t xs σ H Q) : gTup K n t (.ref a) σ H Q := ⟨a, xs, rfl, h, hl, q⟩
theorem j_gc {t : TG} {u : TGs} {v : V} {r : List V} {Q : St → Hp → Prop} (q : t v σ H fun σ' H' => u r σ' H' Q) : gCons t u (v :: r) σ H Q := ⟨v, r, rfl, q⟩
theorem j_g0 {Q : St → Hp → Prop} (q : Q σ H) : gNil [] σ H Q := ⟨rfl, q⟩
theorem j_gsub {to ti : TE} {t : TSet} {v : V} {Q : St → Hp → Prop} (q : to σ H fun o H1 => ti σ H1 fun i H2 => t o i v H2 fun H3 => Q σ H3) : gSub to ti t v σ H Q := q
-- operations by values
theorem j_add {i j : Int} (q : Q (.int (i + j)) H) : rAddU (.int i) (.int j) H Q := .inl ⟨i, j, rfl, rfl, q⟩
theorem j_addS {i j : Str} (h : i.length + j.length ≤ sizeLine) (q : Q (.str (i ++ j)) H) : rAddU (.str i) (.str j) H Q := .inr (.inl ⟨i, j, rfl, rfl, h, q⟩)
theorem j_addL {l b : Addr} {xs zs : List V} (h1 : H l = some (.lst xs)) (h2 : H b = some (.lst zs)) (h : xs.length + zs.length ≤ sizeLine) (q : Al (.lst (xs ++ zs)) H Q) : rAddU (.ref l) (.ref b) H Q := .inr (.inr ⟨l, b, xs, zs, rfl, rfl, h1, h2, h, q⟩)
theorem j_rI0 {g : Int → Int → V} {i j : Int} (q : Q (g i j) H) : rI0 g (.int i) (.int j) H Q := ⟨i, j, rfl, rfl, q⟩
theorem j_rI {C : Int → Int → Prop} {g : Int → Int → V} {i j : Int} (c : C i j) (q : Q (g i j) H) : rI C g (.int i) (.int j) H Q := ⟨i, j, rfl, rfl, c, q⟩
theorem j_mulL {g : Int → Int → V} {i j : Int} (h1 : -(2 ^ 64) < i) (h2 : i < 2 ^ 64) (q : Q (g i j) H) : rI CMul g (.int i) (.int j) H Q := ⟨i, j, rfl, rfl, .inl ⟨h1, h2⟩, q⟩
theorem j_mulR {g : Int → Int → V} {i j : Int} (h1 : -(2 ^ 64) < j) (h2 : j < 2 ^ 64) (q : Q (g i j) H) : rI CMul g (.int i) (.int j) H Q := ⟨i, j, rfl, rfl, .inr ⟨h1, h2⟩, q⟩
theorem j_eq {x y : V} (h : scal x y = true) (q : Q (.bl (decide (x = y))) H) : rEqU K x y H Q := .inl ⟨h, q⟩
theorem j_ne {x y : V} (h : scal x y = true) (q : Q (.bl (!decide (x = y))) H) : rNeU K x y H Q := .inl ⟨h, q⟩
theorem j_eqD {x y : V} {d e : PyData} (h1 : Dp K H x d) (h2 : Dp K H y e) (s1 : SeqAt.shaped d = true) (s2 : SeqAt.shaped e = true) (q : Q (.bl (PyData.eqv d e)) H) : rEqU K x y H Q := .inr ⟨d, e, h1, h2, s1, s2, q⟩
theorem j_neD {x y : V} {d e : PyData} (h1 : Dp K H x d) (h2 : Dp K H y e) (s1 : SeqAt.shaped d = true) (s2 : SeqAt.shaped e = true) (q : Q (.bl (!PyData.eqv d e)) H) : rNeU K x y H Q := .inr ⟨d, e, h1, h2, s1, s2, q⟩
theorem j_isN {x : V} (q : Q (.bl (decide (x = .non))) H) : rIsNU x .non H Q := ⟨rfl, q⟩
theorem j_notN {x : V} (q : Q (.bl (!decide (x = .non))) H) : rNotNU x .non H Q := ⟨rfl, q⟩
theorem j_ixL {p : Addr} {i : Int} {xs : List V} {v : V} (h : SqL K H p xs) (e : atI xs i = some v) (q : Q v H) : rIx K (.ref p) (.int i) H Q := .inl ⟨p, xs, i, v, rfl, rfl, h, e, q⟩
theorem j_ixT {p : Addr} {i : Int} {xs : List V} {v : V} (h : SqT K H p xs) (e : atI xs i = some v) (q : Q v H) : rIx K (.ref p) (.int i) H Q := .inr (.inl ⟨p, xs, i, v, rfl, rfl, h, e, q⟩)
theorem j_ixS {z : Str} {i : Int} {c : Nat} (h : z.length ≤ sizeLine) (e : atI z.cps.toList i = some c) (q : Q (.str ⟨#[c]⟩) H) : rIx K (.str z) (.int i) H Q := .inr (.inr ⟨z, i, c, rfl, rfl, h, e, q⟩)
theorem j_setL {p : Addr} {k : Int} {v : V} {xs : List V} {j : Nat} {Q : Hp → Prop} (h : H p = some (.lst xs)) (e : ixN xs.length k = some j) (q : ∀ H2, Same (hide p H) (hide p H2) → H2 p = some (.lst (xs.set j v)) → Q H2) : rSetL (.ref p) (.int k) v H Q := ⟨p, xs, k, j, rfl, rfl, h, e, q _ hide_upd upd_same⟩
theorem j_app {l : Addr} {xs : List V} {y : V} (h : H l = some (.lst xs)) (hz : xs.length < sizeLine) (q : ∀ H2, Same (hide l H) (hide l H2) → H2 l = some (.lst (xs ++ [y])) → Q .non H2) : rAppend (.ref l) [y] H Q := ⟨l, xs, y, rfl, rfl, h, hz, q _ hide_upd upd_same⟩
theorem j_inT {x : V} {p : Addr} {xs : List V} (h : SqT K H p xs) (fx : flatV x = true) (fs : xs.all flatV = true) (q : Q (.bl (inV x xs)) H) : rInU K x (.ref p) H Q := .inl ⟨p, xs, rfl, .inr h, fx, fs, q⟩
theorem j_inL {x : V} {p : Addr} {xs : List V} (h : SqL K H p xs) (fx : flatV x = true) (fs : xs.all flatV = true) (q : Q (.bl (inV x xs)) H) : rInU K x (.ref p) H Q := .inl ⟨p, xs, rfl, .inl h, fx, fs, q⟩
theorem j_ninT {x : V} {p : Addr} {xs : List V} (h : SqT K H p xs) (fx : flatV x = true) (fs : xs.all flatV = true) (q : Q (.bl (!inV x xs)) H) : rNotInU K x (.ref p) H Q := .inl ⟨p, xs, rfl, .inr h, fx, fs, q⟩
theorem j_ninL {x : V} {p : Addr} {xs : List V} (h : SqL K H p xs) (fx : flatV x = true) (fs : xs.all flatV = true) (q : Q (.bl (!inV x xs)) H) : rNotInU K x (.ref p) H Q := .inl ⟨p, xs, rfl, .inl h, fx, fs, q⟩
theorem j_ninS {c : Nat} {z : Str} (q : Q (.bl (!decide (c ∈ z.cps.toList))) H) : rNotInU K (.str ⟨#[c]⟩) (.str z) H Q := .inr (.inr ⟨c, z, rfl, rfl, q⟩)
theorem j_inS {c : Nat} {z : Str} (q : Q (.bl (decide (c ∈ z.cps.toList))) H) : rInU K (.str ⟨#[c]⟩) (.str z) H Q := .inr (.inr ⟨c, z, rfl, rfl, q⟩)
theorem j_slL {a : Addr} {xs : List V} {lo hi : Option Int} (h : SqL K H a xs) (q : Al (.lst (cutV xs lo hi)) H Q) : rSlU K (.ref a) lo hi H Q := .inl ⟨a, xs, rfl, h, q⟩
theorem j_slT {a : Addr} {xs : List V} {lo hi : Option Int} (h : SqT K H a xs) (hn : ¬ (HT.sIx xs.length 0 lo = 0 ∧ HT.sIx xs.length xs.length hi = xs.length)) (q : Al (.tup (cutV xs lo hi)) H Q) : rSlU K (.ref a) lo hi H Q := .inr (.inl ⟨a, xs, rfl, h, hn, q⟩)
theorem j_slS {z : Str} {lo hi : Option Int} (h : z.length ≤ sizeLine) (q : Q (.str (cutS z lo hi)) H) : rSlU K (.str z) lo hi H Q := .inr (.inr ⟨z, rfl, h, q⟩)
theorem j_strI {i : Int} (h : i.natAbs.log2 < 1920) (q : Q (.str (toString i)) H) : rStrU [.int i] H Q := .inl ⟨i, rfl, h, q⟩
theorem j_strS {a : Str} (q : Q (.str a) H) : rStrU [.str a] H Q := .inr ⟨a, rfl, q⟩
theorem j_intI {i : Int} (q : Q (.int i) H) : rIntU [.int i] H Q := .inl (.inl ⟨i, rfl, q⟩)
theorem j_intB {k : Bool} (q : Q (.int (if k then 1 else 0)) H) : rIntU [.bl k] H Q := .inl (.inr ⟨k, rfl, q⟩)
theorem j_intS {a : Str} {n : Int} (h : PySem.intText? a = some n) (hl : a.length ≤ 640) (q : Q (.int n) H) : rIntU [.str a] H Q := .inr ⟨a, n, rfl, h, hl, q⟩
theorem j_lenL {a : Addr} {xs : List V} (h : SqL K H a xs) (q : Q (.int xs.length) H) : rLenU K [.ref a] H Q := .inl ⟨.ref a, xs.length, rfl, .inl ⟨xs, h, rfl⟩, q⟩
theorem j_lenT {a : Addr} {xs : List V} (h : SqT K H a xs) (q : Q (.int xs.length) H) : rLenU K [.ref a] H Q := .inl ⟨.ref a, xs.length, rfl, .inr ⟨xs, h, rfl⟩, q⟩
theorem j_lenS {z : Str} (h : z.length ≤ sizeLine) (q : Q (.int z.length) H) : rLenU K [.str z] H Q := .inl ⟨.str z, z.length, rfl, ⟨h, rfl⟩, q⟩
theorem j_lenD {d : Addr} {kvs : List (Key × V)} (h : H d = some (.dK kvs)) (q : Q (.int kvs.length) H) : rLenU K [.ref d] H Q := .inr ⟨d, kvs, rfl, h, q⟩
theorem j_isi {x c : V} {t u : Value} {b : Bool} (h1 : ClsV c u) (h2 : TyX K H x t) (h3 : PySem.W.kitOne K t u = some b) (q : Q (.bl b) H) : rIsi K [x, c] H Q := ⟨x, c, t, u, b, rfl, h1, h2, h3, q⟩
end
theorem inV_str (x : Str) : ∀ l : List Str, inV (.str x) (l.map V.str) = decide (x ∈ l)
  | [] => rfl
  | y :: l => by
    have ih := inV_str x l
    unfold inV at ih ⊢
    rw [List.map_cons, List.any_cons, ih]
    show ((y == x) || _) = _
    by_cases h : y = x
    · subst h; simp
    · have h1 : (y == x) = false := beq_eq_false_iff_ne.mpr h
      have h2 : ¬ x = y := fun z => h z.symm
      rw [h1, Bool.false_or]
      simp [h2]
theorem flat_strs : ∀ l : List Str, (l.map V.str).all flatV = true
  | [] => rfl
  | _ :: l => by rw [List.map_cons, List.all_cons, flat_strs l]; rfl
section
variable {H : Hp} {Q : VK} {K : PySem.W.Frag}
theorem j_inTS {x : Str} {p : Addr} {xs : List V} (l : List Str) (h : SqT K H p xs) (e : xs = l.map V.str) (q : Q (.bl (decide (x ∈ l))) H) : rInU K (.str x) (.ref p) H Q := by
  subst e
  rw [← inV_str] at q
  exact j_inT h rfl (flat_strs l) q
theorem j_inLS {x : Str} {p : Addr} {xs : List V} (l : List Str) (h : SqL K H p xs) (e : xs = l.map V.str) (q : Q (.bl (decide (x ∈ l))) H) : rInU K (.str x) (.ref p) H Q := by
  subst e
  rw [← inV_str] at q
  exact j_inL h rfl (flat_strs l) q
theorem j_ninTS {x : Str} {p : Addr} {xs : List V} (l : List Str) (h : SqT K H p xs) (e : xs = l.map V.str) (q : Q (.bl (!decide (x ∈ l))) H) : rNotInU K (.str x) (.ref p) H Q := by
  subst e
  rw [← inV_str] at q
  exact j_ninT h rfl (flat_strs l) q
theorem j_ninLS {x : Str} {p : Addr} {xs : List V} (l : List Str) (h : SqL K H p xs) (e : xs = l.map V.str) (q : Q (.bl (!decide (x ∈ l))) H) : rNotInU K (.str x) (.ref p) H Q := by
  subst e
  rw [← inV_str] at q
  exact j_ninL h rfl (flat_strs l) q
end
end B

namespace B
open PySem PySem.Spec L2
/-! ### for i, c in enumerate(text) -/
section
open PySem PySem.Spec PyProof.Rows
/-- the text's signs, each in a new pair -/
def Ites (x : Str) : It := ⟨fun i _ => i < x.cps.size, fun i H v H' => ∃ T c, v = .ref T ∧ H T = none ∧ H' = upd H T (.tup [.int (i : Nat), .str ⟨#[c]⟩]) ∧ x.cps[i]? = some c, fun i _ => x.cps.size ≤ i⟩
theorem turn_enumS {P : Program} {w : World} {K : PySem.W.Frag} {elts : List Expr} {kk : Nat} {tpos : PySem.Pos} (e it : Addr) (x : Str) (t : Tok) :
    Turn P w K (.Tuple elts kk tpos) (Ites x) [e, it] e (fun i h => (∃ old, IsEnum h e it ((i : Nat) : Int) old) ∧ h.IsStrIter it (PySem.strIterType x) x t i ∧ e ≠ it ∧ i ≤ x.cps.size) where
  mem := by simp
  obj := fun i h st b hb => by
    obtain ⟨⟨old, he⟩, ⟨o, ho, hc, hd⟩, _⟩ := st
    have e' : b = e ∨ b = it := by simpa using hb
    rcases e' with z | z
    · rw [z]; exact ⟨_, he, fun v q => nomatch q⟩
    · rw [z]; exact ⟨o, ho, fun v q => by rw [hd] at q; cases q⟩
  keep := fun i h h' st k => by
    obtain ⟨⟨old, he⟩, ⟨o, ho, hr⟩, hne, hi⟩ := st
    exact ⟨⟨old, k e (by simp) _ he⟩, ⟨o, k it (by simp) o ho, hr⟩, hne, hi⟩
  item := by
    intro X hP hw hK hc i pins s σ H E I hf st hg
    subst hP hw hK
    obtain ⟨⟨old, he⟩, hit, hne, hi⟩ := st
    have hel : e < s.heap.objs.size := Heap.lt_size he
    have hil : it < s.heap.objs.size := by obtain ⟨_, q, _⟩ := hit; exact Heap.lt_size q
    have D := Draws.text (prog := X.prog) (w := X.w) (A := X.A.in1) (I.ok.hd hc) it x t
    refine wpAny_pyNext_enum_itemD D he hit hg hne (by simpa using hne) fun u h' tk hP ho hit' hT hsz hk => ?_
    refine ⟨_, rfl, wpAny_letOwnedTupleGo_enum (s := { s with heap := h', toks := tk + 1 }) ho fun h'' he' sb => ?_⟩
    obtain ⟨c, tc, hcx, rfl⟩ := hP
    have hT2 : h''.get? s.heap.objs.size = some { cls := .type "tuple", data := .seq #[.int i tk, .str ⟨#[c]⟩ tc] } := (sb.2 _ (Nat.ne_of_gt hel)).trans hT
    have new : ObjOk X.prog X.w (upd H s.heap.objs.size (.tup [.int (i : Nat), .str ⟨#[c]⟩])) h'' s.heap.objs.size (.tup [.int (i : Nat), .str ⟨#[c]⟩]) :=
      ⟨by show 2 ≤ sizeLine; decide, [.int i tk, .str ⟨#[c]⟩ tc], .cons ⟨_, rfl⟩ (.cons ⟨_, rfl⟩ .nil), ⟨_, hT2, rfl, _, rfl⟩⟩
    have I1 : Inv X pins σ (upd H s.heap.objs.size (.tup [.int (i : Nat), .str ⟨#[c]⟩])) { s with heap := h'', toks := tk + 1 } :=
      I.turnedNew (ch := [e, it]) (fun b ob hb q => (sb.2 b (fun z => hb (by simp [z]))).trans (hk b ob (fun z => hb (by simp [z])) (fun z => hb (by simp [z])) q)) hf (Nat.le_refl _) new
    refine ⟨.ref s.heap.objs.size, _, I1, rfl, ⟨_, c, rfl, I.hok.fresh (Nat.le_refl _), rfl, hcx⟩, ⟨⟨Value.str ⟨#[c]⟩ tc, ?_⟩, ?_, hne, hg⟩, fun b hb => ?_⟩
    · have e1 : ((i + 1 : Nat) : Int) = (i : Int) + 1 := by omega
      rw [e1]; exact he'
    · obtain ⟨o, ho', hr⟩ := hit'
      exact ⟨o, (sb.2 it (Ne.symm hne)).trans ho', hr⟩
    · have hb' : b < s.heap.objs.size := by
        have e' : b = e ∨ b = it := by simpa using hb
        rcases e' with z | z
        · rw [z]; exact hel
        · rw [z]; exact hil
      rw [upd_ne (Nat.ne_of_lt hb')]
      exact (hf b hb).1
  done := by
    intro X hP hw hK hc i pins s σ H E I hf st hg
    subst hP hw hK
    obtain ⟨⟨old, he⟩, hit, hne, hi⟩ := st
    have ei : i = x.cps.size := Nat.le_antisymm hi hg
    subst ei
    obtain ⟨f0, f1, f2, f3, f4, f5⟩ := hf it (by simp)
    have D := Draws.text (prog := X.prog) (w := X.w) (A := X.A.in1) (I.ok.hd hc) it x t
    exact wpAny_pyNext_enum_endD D he hit fun h' eb => ⟨rfl, I.turned (t' := s.toks) (fun b o hb q => eb b o hb q) f0 f1 f3 f4 f5⟩
  self := fun A i s Q E st h => let ⟨⟨_, he⟩, _⟩ := st; wpAny_pyIter_enum he h
def iEnumS (ta : TA) : TI := fun σ H R => ta σ H fun vs H1 => ∃ x, vs = [.str x] ∧ R (Ites x) H1
theorem pi_enumS {X : Cx} {e : Expr} {ta : TA} {p pos tpos : PySem.Pos} {elts : List Expr} {kk : Nat} (hg : Gl X "enumerate") (hm : X.mg "enumerate" = none) (ha : PA X [e] ta) (hs : starEach [e] X.env = [(false, eval e X.env)] := by rfl) :
    PI X (.Tuple elts kk tpos) (.Call (.Name "enumerate" p) [e] [] pos) (iEnumS ta) := by
  refine ⟨fun pins s σ H R I h => ?_⟩
  refine Call_ (ld_blt I hg hm boot_enumerate (PyProof.Rows.callWith_type1 (thn (ha.run pos pins s σ H _ I h) fun us s1 ⟨vs, H1, I1, r1, q1⟩ => ?_) hs rfl))
  obtain ⟨x, ex, q⟩ := q1
  subst ex
  cases r1 with
  | cons r rr =>
    cases rr
    obtain ⟨t, rfl⟩ := r
    refine call_enumerate_str fun h' he hit hsz hk => wpAny_pyIter_enum he ?_
    have I2 : Inv X pins σ H1 { s1 with heap := h' } := I1.kept (t' := s1.toks) hk
    refine ⟨s1.heap.objs.size + 1, [s1.heap.objs.size + 1, s1.heap.objs.size], _, _, H1, rfl, I2, turn_enumS (s1.heap.objs.size + 1) s1.heap.objs.size x t, ⟨⟨.none, he⟩, hit, Nat.succ_ne_self _, Nat.zero_le _⟩, fun b hb => ?_, q⟩
    have e' : b = s1.heap.objs.size + 1 ∨ b = s1.heap.objs.size := by simpa using hb
    have hle : s1.heap.objs.size ≤ b := by
      rcases e' with z | z
      · rw [z]; exact Nat.le_add_right _ _
      · rw [z]; exact Nat.le_refl _
    exact I1.fpOk hle (I1.hok.fresh hle)
/-- the signs with their places, one by one -/
theorem for_enumS {x : Str} {g : TG} {tb : TS} {D : Ends} {σ : L2.St} {H : Hp} (Pv : Nat → L2.St → Hp → Prop) (h0 : Pv 0 σ H)
    (hs : ∀ i c σ H T H2, x.cps[i]? = some c → Pv i σ H → H T = none → Same H H2 → H2 T = some (.tup [.int (i : Nat), .str ⟨#[c]⟩]) → g (.ref T) σ H2 fun σ2 H2 => tb { D with nx := Pv (i + 1), ct := Pv (i + 1), bk := D.nx } σ2 H2) (hd : ∀ σ H, Pv x.cps.size σ H → D.nx σ H) :
    ∃ W : Nat → Nat → L2.St → Hp → Prop, (∃ m, W 0 m σ H) ∧ ∀ i m σ H, W i m σ H →
      ((Ites x).stop i H ∧ D.nx σ H) ∨ ((Ites x).go i H ∧ ∃ N : L2.St → Hp → Prop, (∀ σ' H', N σ' H' → ∃ m', m' < m ∧ W (i + 1) m' σ' H') ∧ ∀ v H', (Ites x).yld i H v H' → g v σ H' fun σ2 H2 => tb { D with nx := N, ct := N, bk := D.nx } σ2 H2) := by
  refine ⟨fun i m σ H => m = x.cps.size - i ∧ i ≤ x.cps.size ∧ Pv i σ H, ⟨x.cps.size, by simp, Nat.zero_le _, h0⟩, ?_⟩
  rintro i m σ H ⟨rfl, hi, p⟩
  by_cases hlt : i < x.cps.size
  · refine .inr ⟨hlt, Pv (i + 1), fun σ' H' p' => ⟨x.cps.size - (i + 1), by omega, rfl, hlt, p'⟩, fun v H' y => ?_⟩
    obtain ⟨T, c, rfl, hT, rfl, hc⟩ := y
    exact hs i c σ H T _ hc p hT (same_new hT) upd_same
  · have e : i = x.cps.size := by omega
    subst e
    exact .inl ⟨Nat.le_refl _, hd σ H p⟩
end

/-! ### tuples never change -/
/-- all tuples of H stand in H' -/
structure TSm (H H' : Hp) : Prop where
  t : ∀ b xs, H b = some (.tup xs) → H' b = some (.tup xs)
  z : ∀ b o xs, H b = some (.frz o (.tup xs)) → H' b = some (.frz o (.tup xs))
theorem TSm.refl (H : Hp) : TSm H H := ⟨fun _ _ h => h, fun _ _ _ h => h⟩
theorem TSm.trans {H H1 H2 : Hp} (a : TSm H H1) (b : TSm H1 H2) : TSm H H2 := ⟨fun c o h => b.t c o (a.t c o h), fun c o u h => b.z c o u (a.z c o u h)⟩
theorem ts_same {H H' : Hp} (s : Same H H') : TSm H H' := ⟨fun b _ h => s b _ h, fun b _ _ h => s b _ h⟩
theorem ts_hide {l : Addr} {H : Hp} {xs : List V} (h : H l = some (.lst xs)) : TSm H (hide l H) := by
  refine ⟨fun b ys e => ?_, fun b o ys e => ?_⟩
  · have n : b ≠ l := fun z => by subst z; rw [h] at e; cases e
    rw [hide_ne n]; exact e
  · have n : b ≠ l := fun z => by subst z; rw [h] at e; cases e
    rw [hide_ne n]; exact e
theorem ts_mut {l : Addr} {H H2 : Hp} {xs : List V} (h : H l = some (.lst xs)) (s : Same (hide l H) (hide l H2)) : TSm H H2 := (ts_hide h).trans ((ts_same s).trans (ts_same (same_hide l H2)))
/-- a tuple, tracked or of the module -/
def TpK (K : PySem.W.Frag) (H : Hp) (a : Addr) (xs : List V) : Prop :=
  H a = some (.tup xs) ∨ (∃ o, H a = some (.frz o (.tup xs))) ∨ ∃ (o : Obj) (its : Array Value) (n : Nat), K.lookup a = some o ∧ o.cls = .type "tuple" ∧ o.data = .seq its n ∧ its.size ≤ sizeLine ∧ Vals xs its.toList
theorem TpK.sq {K : PySem.W.Frag} {H : Hp} {a : Addr} {xs : List V} (h : TpK K H a xs) : SqT K H a xs := by
  rcases h with h | h | h
  · exact .inl (.inl h)
  · exact .inl (.inr h)
  · exact .inr h
theorem ts_tp {K : PySem.W.Frag} {H H' : Hp} {a : Addr} {xs : List V} (s : TSm H H') (h : TpK K H a xs) : TpK K H' a xs := by
  rcases h with h | ⟨o, h⟩ | h
  · exact .inl (s.t _ _ h)
  · exact .inr (.inl ⟨o, s.z _ _ _ h⟩)
  · exact .inr (.inr h)
mutual
/-- data of tuples and flat things -/
inductive Dt (K : PySem.W.Frag) (H : Hp) : V → PyData → Prop
  | non : Dt K H .non .none
  | bl (b : Bool) : Dt K H (.bl b) (.bool b)
  | int (i : Int) : Dt K H (.int i) (.int i)
  | str (x : Str) : Dt K H (.str x) (.str x)
  | tup {a : Addr} {xs : List V} {ds : List PyData} : TpK K H a xs → DtAll K H xs ds → Dt K H (.ref a) (.tuple ds)
inductive DtAll (K : PySem.W.Frag) (H : Hp) : List V → List PyData → Prop
  | nil : DtAll K H [] []
  | cons {v : V} {vs : List V} {d : PyData} {ds : List PyData} : Dt K H v d → DtAll K H vs ds → DtAll K H (v :: vs) (d :: ds)
end
mutual
theorem ts_dt {K : PySem.W.Frag} {H H' : Hp} (s : TSm H H') : ∀ {v : V} {d : PyData}, Dt K H v d → Dt K H' v d
  | _, _, .non => .non
  | _, _, .bl b => .bl b
  | _, _, .int i => .int i
  | _, _, .str x => .str x
  | _, _, .tup h t => .tup (ts_tp s h) (ts_dts s t)
theorem ts_dts {K : PySem.W.Frag} {H H' : Hp} (s : TSm H H') : ∀ {vs : List V} {ds : List PyData}, DtAll K H vs ds → DtAll K H' vs ds
  | _, _, .nil => .nil
  | _, _, .cons h t => .cons (ts_dt s h) (ts_dts s t)
end
mutual
theorem Dt.dp {K : PySem.W.Frag} {H : Hp} : ∀ {v : V} {d : PyData}, Dt K H v d → Dp K H v d
  | _, _, .non => .non
  | _, _, .bl b => .bl b
  | _, _, .int i => .int i
  | _, _, .str x => .str x
  | _, _, .tup h t => .tup h.sq (DtAll.dp t)
theorem DtAll.dp {K : PySem.W.Frag} {H : Hp} : ∀ {vs : List V} {ds : List PyData}, DtAll K H vs ds → DpAll K H vs ds
  | _, _, .nil => .nil
  | _, _, .cons h t => .cons h.dp (DtAll.dp t)
end

/-! ### loops -/
def Fo (J : It) (g : TG) (tb : TS) (D : Ends) (σ : L2.St) (H1 : Hp) : Prop := ∃ W : Nat → Nat → L2.St → Hp → Prop, (∃ m, W 0 m σ H1) ∧ ∀ i m σ H, W i m σ H →
  (J.stop i H ∧ D.nx σ H) ∨ (J.go i H ∧ ∃ N : L2.St → Hp → Prop, (∀ σ' H', N σ' H' → ∃ m', m' < m ∧ W (i + 1) m' σ' H') ∧ ∀ x H', J.yld i H x H' → g x σ H' fun σ2 H2 => tb { D with nx := N, ct := N, bk := D.nx } σ2 H2)
def Lo (J : It) (g : TG) (tt : TT) (te : TE) (vs : List Nat) (σ : L2.St) (Dl : Addr) (Q : Hp → Prop) (H1 : Hp) : Prop := ∃ W : Nat → Nat → Hp → Prop, (∃ m, W 0 m (upd H1 Dl (.lst []))) ∧ ∀ i m H, W i m H →
  (J.stop i H ∧ Q H) ∨ (J.go i H ∧ ∃ Nx : Hp → Prop, (∀ H', Nx H' → ∃ m', m' < m ∧ W (i + 1) m' H') ∧ ∀ x H', J.yld i H x H' → g x (wipe σ vs) H' fun σ2 H2 => wipe σ2 vs = wipe σ vs ∧ tt σ2 H2 fun b H3 =>
    if b = true then te σ2 H3 fun y H4 => ∃ acc, H4 Dl = some (.lst acc) ∧ acc.length < sizeLine ∧ Nx (upd H4 Dl (.lst (acc ++ [y]))) else Nx H3)
section
variable {σ : L2.St} {H : Hp} {Q : VK} {D : Ends} {K : PySem.W.Frag}
theorem j_for {wi : TI} {g : TG} {tb : TS} (q : wi σ H fun J H1 => Fo J g tb D σ H1) : tFor wi g tb D σ H := q
theorem j_lc {wi : TI} {g : TG} {tt : TT} {te : TE} {vs : List Nat} (q : wi σ H fun J H1 => ∀ Dl, H1 Dl = none → Lo J g tt te vs σ Dl (Q (.ref Dl)) H1) : tLc wi g tt te vs σ H Q := q
theorem j_iList {tl : TE} {R : It → Hp → Prop} (q : tl σ H fun x H1 => ∃ a, x = .ref a ∧ (∃ xs, SqL K H1 a xs) ∧ R (Itl K a) H1) : iList K tl σ H R := q
theorem j_iTup {tl : TE} {R : It → Hp → Prop} (q : tl σ H fun x H1 => ∃ a, x = .ref a ∧ (∃ xs, SqT K H1 a xs) ∧ R (Itt K a) H1) : iTup K tl σ H R := q
theorem j_iEnumS {ta : TA} {R : It → Hp → Prop} (q : ta σ H fun vs H1 => ∃ x, vs = [.str x] ∧ R (Ites x) H1) : iEnumS ta σ H R := q
theorem j_iStr {te : TE} {R : It → Hp → Prop} (q : te σ H fun v H1 => ∃ x, v = .str x ∧ R (Its x) H1) : iStr te σ H R := q
theorem j_iRng1 {ta : TA} {R : It → Hp → Prop} (q : ta σ H fun vs H1 => ∃ j : Int, vs = [.int j] ∧ -(2 ^ 62) ≤ j ∧ j < 2 ^ 62 ∧ R (Itr 0 j.toNat) H1) : iRng1 ta σ H R := q
theorem j_iRng2 {ta : TA} {R : It → Hp → Prop} (q : ta σ H fun vs H1 => ∃ i j : Int, vs = [.int i, .int j] ∧ (-(2 ^ 62) ≤ i ∧ i < 2 ^ 62 ∧ -(2 ^ 62) ≤ j ∧ j < 2 ^ 62) ∧ R (Itr i (j - i).toNat) H1) : iRng2 ta σ H R := q
theorem j_yes {Q : Bool → Hp → Prop} (q : Q true H) : tYes σ H Q := q
/-- a text's signs, one by one -/
theorem for_str {x : Str} {g : TG} {tb : TS} {D : Ends} {σ : L2.St} {H : Hp} (Pv : Nat → L2.St → Hp → Prop) (h0 : Pv 0 σ H)
    (hs : ∀ i c σ H, x.cps[i]? = some c → Pv i σ H → g (.str ⟨#[c]⟩) σ H fun σ2 H2 => tb { D with nx := Pv (i + 1), ct := Pv (i + 1), bk := D.nx } σ2 H2) (hd : ∀ σ H, Pv x.cps.size σ H → D.nx σ H) :
    Fo (Its x) g tb D σ H := by
  refine ⟨fun i m σ H => m = x.cps.size - i ∧ i ≤ x.cps.size ∧ Pv i σ H, ⟨x.cps.size, by simp, Nat.zero_le _, h0⟩, ?_⟩
  rintro i m σ H ⟨rfl, hi, p⟩
  by_cases hlt : i < x.cps.size
  · refine .inr ⟨hlt, Pv (i + 1), fun σ' H' p' => ⟨x.cps.size - (i + 1), by omega, rfl, hlt, p'⟩, fun v H' y => ?_⟩
    obtain ⟨rfl, c, hc, rfl⟩ := y
    exact hs i c σ H' hc p
  · have e : i = x.cps.size := by omega
    subst e
    exact .inl ⟨Nat.le_refl _, hd σ H p⟩
/-- what a comprehension has made: for each kept turn its item -/
def Made (Rel : Nat → V → Hp → Prop) (js : List Nat) (ys : List V) (G : Hp) : Prop := ys.length = js.length ∧ ∀ (k j : Nat) (y : V), js[k]? = some j → ys[k]? = some y → Rel j y G
theorem Made.nil {Rel : Nat → V → Hp → Prop} {G : Hp} : Made Rel [] [] G := ⟨rfl, fun k j y h => by simp at h⟩
theorem Made.snoc {Rel : Nat → V → Hp → Prop} {js : List Nat} {ys : List V} {G : Hp} (m : Made Rel js ys G) {j : Nat} {y : V} (r : Rel j y G) : Made Rel (js ++ [j]) (ys ++ [y]) G := by
  obtain ⟨e, h⟩ := m
  refine ⟨by simp [e], fun k j' y' h1 h2 => ?_⟩
  by_cases hk : k < js.length
  · rw [List.getElem?_append_left hk] at h1
    rw [List.getElem?_append_left (by omega)] at h2
    exact h k j' y' h1 h2
  · have hk' : k = js.length := by
      have := (List.getElem?_eq_some_iff.mp h1).1
      rw [List.length_append, List.length_singleton] at this
      omega
    subst hk'
    have h1' : j = j' := by simpa using h1
    have h2' : y = y' := by rw [← e] at h2; simpa using h2
    subst h1' h2'
    exact r
theorem Made.mono {Rel : Nat → V → Hp → Prop} {js : List Nat} {ys : List V} {G G' : Hp} (m : Made Rel js ys G) (f : ∀ j y, Rel j y G → Rel j y G') : Made Rel js ys G' := ⟨m.1, fun k j y h1 h2 => f j y (m.2 k j y h1 h2)⟩
theorem range_keep (keep : Nat → Bool) (i : Nat) : (List.range (i + 1)).filter keep = (List.range i).filter keep ++ (if keep i = true then [i] else []) := by
  rw [List.range_succ, List.filter_append]
  congr 1
  by_cases h : keep i = true
  · rw [if_pos h, List.filter_cons, if_pos h, List.filter_nil]
  · rw [if_neg h, List.filter_cons, if_neg h, List.filter_nil]
/-- the body of every comprehension rule: one turn -/
structure LcTurn (g : TG) (tt : TT) (te : TE) (vs : List Nat) (σ : L2.St) (Dl : Addr) (H1 : Hp) (Rel : Nat → V → Hp → Prop) (keep : Nat → Bool) (i : Nat) (x : V) : Prop where
  turn : ∀ (H' : Hp) (C : V → Hp → Prop) (N : Hp → Prop), Same H1 (hide Dl H') → (∃ acc, H' Dl = some (.lst acc)) →
    (keep i = true → ∀ y H4, Same H' H4 → Rel i y (hide Dl H4) → C y H4) → (keep i = false → ∀ H3, Same H' H3 → N H3) →
    g x (wipe σ vs) H' fun σ2 H2 => wipe σ2 vs = wipe σ vs ∧ tt σ2 H2 fun b H3 => if b = true then te σ2 H3 C else N H3
def LcInv (Dl : Addr) (H1 : Hp) (Rel : Nat → V → Hp → Prop) (keep : Nat → Bool) (i : Nat) (H' : Hp) : Prop :=
  Same H1 (hide Dl H') ∧ ∃ acc, H' Dl = some (.lst acc) ∧ Made Rel ((List.range i).filter keep) acc (hide Dl H')
theorem LcInv.zero {Dl : Addr} {H1 : Hp} {Rel : Nat → V → Hp → Prop} {keep : Nat → Bool} (hD : H1 Dl = none) : LcInv Dl H1 Rel keep 0 (upd H1 Dl (.lst [])) :=
  ⟨same_to_hide hD (same_new hD), [], upd_same, .nil⟩
theorem filter_range_len (keep : Nat → Bool) (i : Nat) : ((List.range i).filter keep).length ≤ i := by
  have := List.length_filter_le keep (List.range i)
  rwa [List.length_range] at this
theorem LcInv.step {Dl : Addr} {H1 : Hp} {Rel : Nat → V → Hp → Prop} {keep : Nat → Bool} {g : TG} {tt : TT} {te : TE} {vs : List Nat} {σ : L2.St} (mono : ∀ i y G G', Same G G' → Rel i y G → Rel i y G') {n i : Nat} {x : V} (hi : i < n) (hn : n ≤ 100000)
    (t : LcTurn g tt te vs σ Dl H1 Rel keep i x) {H' : Hp} (p : LcInv Dl H1 Rel keep i H') :
    g x (wipe σ vs) H' fun σ2 H2 => wipe σ2 vs = wipe σ vs ∧ tt σ2 H2 fun b H3 => if b = true then te σ2 H3 fun y H4 => ∃ acc, H4 Dl = some (.lst acc) ∧ acc.length < sizeLine ∧ LcInv Dl H1 Rel keep (i + 1) (upd H4 Dl (.lst (acc ++ [y]))) else LcInv Dl H1 Rel keep (i + 1) H3 := by
  obtain ⟨s1, acc, e, m⟩ := p
  have hl : acc.length ≤ i := by rw [m.1]; exact filter_range_len keep i
  refine t.turn H' _ _ s1 ⟨acc, e⟩ (fun hk y H4 s4 r => ⟨acc, s4 _ _ e, ?_, ?_, acc ++ [y], upd_same, ?_⟩) (fun hk H3 s3 => ⟨?_, acc, s3 _ _ e, ?_⟩)
  · rw [sizeLine_eq]; omega
  · exact s1.trans ((hide_mono s4).trans hide_upd)
  · rw [range_keep, if_pos hk]
    have m4 : Made Rel ((List.range i).filter keep) acc (hide Dl H4) := m.mono fun j y r => mono j y _ _ (hide_mono s4) r
    exact (m4.snoc r).mono fun j y r => mono j y _ _ hide_upd r
  · exact s1.trans (hide_mono s3)
  · rw [range_keep, if_neg (by rw [hk]; exact Bool.false_ne_true), List.append_nil]
    exact m.mono fun j y r => mono j y _ _ (hide_mono s3) r
theorem lc_genT {a : Addr} {xs : List V} {g : TG} {tt : TT} {te : TE} {vs : List Nat} {σ : L2.St} {H1 : Hp} {Dl : Addr} {Qd : Hp → Prop} (Rel : Nat → V → Hp → Prop) (keep : Nat → Bool)
    (hD : H1 Dl = none) (hS : SqT K H1 a xs) (hn : xs.length ≤ 100000) (mono : ∀ i y G G', Same G G' → Rel i y G → Rel i y G')
    (hs : ∀ i x, xs[i]? = some x → LcTurn g tt te vs σ Dl H1 Rel keep i x)
    (hd : ∀ H' ys, Same H1 (hide Dl H') → H' Dl = some (.lst ys) → Made Rel ((List.range xs.length).filter keep) ys (hide Dl H') → Qd H') : Lo (Itt K a) g tt te vs σ Dl Qd H1 :=
  lc_tup (K := K) (xs := xs) (LcInv Dl H1 Rel keep) (LcInv.zero hD) (fun i H _ p => same_tup (p.1.trans (same_hide _ _)) hS)
    (fun i x H hx p => LcInv.step mono (List.getElem?_eq_some_iff.mp hx).1 hn (hs i x hx) p) (fun H p => hd H _ p.1 p.2.choose_spec.1 p.2.choose_spec.2)
theorem lc_genL {a : Addr} {xs : List V} {g : TG} {tt : TT} {te : TE} {vs : List Nat} {σ : L2.St} {H1 : Hp} {Dl : Addr} {Qd : Hp → Prop} (Rel : Nat → V → Hp → Prop) (keep : Nat → Bool)
    (hD : H1 Dl = none) (hS : SqL K H1 a xs) (hn : xs.length ≤ 100000) (mono : ∀ i y G G', Same G G' → Rel i y G → Rel i y G')
    (hs : ∀ i x, xs[i]? = some x → LcTurn g tt te vs σ Dl H1 Rel keep i x)
    (hd : ∀ H' ys, Same H1 (hide Dl H') → H' Dl = some (.lst ys) → Made Rel ((List.range xs.length).filter keep) ys (hide Dl H') → Qd H') : Lo (Itl K a) g tt te vs σ Dl Qd H1 :=
  lc_list (K := K) (xs := xs) (LcInv Dl H1 Rel keep) (LcInv.zero hD) (fun i H _ p => (p.1.trans (same_hide _ _)).seq hS)
    (fun i x H hx p => LcInv.step mono (List.getElem?_eq_some_iff.mp hx).1 hn (hs i x hx) p) (fun H p => hd H _ p.1 p.2.choose_spec.1 p.2.choose_spec.2)
theorem lc_genR {lo : Int} {n : Nat} {g : TG} {tt : TT} {te : TE} {vs : List Nat} {σ : L2.St} {H1 : Hp} {Dl : Addr} {Qd : Hp → Prop} (Rel : Nat → V → Hp → Prop) (keep : Nat → Bool)
    (hD : H1 Dl = none) (hn : n ≤ 100000) (mono : ∀ i y G G', Same G G' → Rel i y G → Rel i y G')
    (hs : ∀ i, i < n → LcTurn g tt te vs σ Dl H1 Rel keep i (.int (lo + i)))
    (hd : ∀ H' ys, Same H1 (hide Dl H') → H' Dl = some (.lst ys) → Made Rel ((List.range n).filter keep) ys (hide Dl H') → Qd H') : Lo (Itr lo n) g tt te vs σ Dl Qd H1 :=
  lc_range (LcInv Dl H1 Rel keep) (LcInv.zero hD)
    (fun i H hi p => LcInv.step mono hi hn (hs i hi) p) (fun H p => hd H _ p.1 p.2.choose_spec.1 p.2.choose_spec.2)
theorem keep_all (n : Nat) : (List.range n).filter (fun _ => true) = List.range n := List.filter_eq_self.mpr fun _ _ => rfl
theorem Made.all {Rel : Nat → V → Hp → Prop} {n : Nat} {ys : List V} {G : Hp} (m : Made Rel ((List.range n).filter fun _ => true) ys G) : ys.length = n ∧ ∀ k y, ys[k]? = some y → Rel k y G := by
  rw [keep_all] at m
  refine ⟨m.1.trans List.length_range, fun k y h => ?_⟩
  have hk : k < n := by
    have := (List.getElem?_eq_some_iff.mp h).1
    rw [m.1, List.length_range] at this
    exact this
  exact m.2 k k y (by rw [List.getElem?_range hk]) h
end

/-! ### exceptions that are kept: an except suite with the exception among what is tracked -/
section
open PySem PySem.Spec PyProof.Rows
/-- an exception's object at a: its class, its own dict's address -/
def ExK (cls : Value) (d : Option Addr) (a : Addr) : HO := .ext fun h => ∃ oe : Obj, h.get? a = some oe ∧ Zc cls d oe ∧ ∃ vs, oe.data = .fields vs
theorem exk_ok {P : Program} {w : World} {H : Hp} {h : Heap} {a : Addr} {cls : Value} {d : Option Addr} {oe : Obj} (e : h.get? a = some oe) (z : Zc cls d oe) (f : ∃ vs, oe.data = .fields vs) : ObjOk P w H h a (ExK cls d a) :=
  ⟨⟨oe, e, z, f⟩, ⟨oe, e⟩, fun _ _ ⟨o, q, r⟩ k => ⟨o, k o q, r⟩⟩
section
variable {X : Cx} {pins : List (Addr × Obj)} {σ : L2.St} {H : Hp} {s s4 sI : Shared} {a : Addr} {o : HO}
/-- an object that came behind sI is tracked from now on -/
theorem track (J : Inv X pins σ H sI) (hn : sI.heap.get? a = none) (I : Inv X pins σ H s) (na : H a = none) (new : ObjOk X.prog X.w (upd H a o) s.heap a o) : Inv X pins σ (upd H a o) s := by
  have older : ∀ b u, sI.heap.get? b = some u → b ≠ a := fun b u e z => by rw [z, hn] at e; cases e
  have first : ∀ b u, X.s_0.heap.get? b = some u → b ∉ X.ex → b ≠ a := fun b u e hx => by
    obtain ⟨u', e'⟩ := J.base.there b u e hx
    exact older b u' e'
  have stay : ∀ b u, H b = some u → b ≠ a := fun b u e => ne_of_none e na
  have up : ∀ b u, H b = some u → upd H a o b = some u := fun b u e => by rw [upd_ne (stay b u e)]; exact e
  obtain ⟨mJ, ⟨oL, _, _, hoL, _⟩, _⟩ := id J.loc
  refine ⟨I.ok, I.os, I.bare, ⟨I.base.keep, I.base.slot, fun b u e n hx => ?_, I.base.there, fun b xs e => up _ _ (I.base.tups b xs e), fun b u xs e => up _ _ (I.base.frzs b u xs e), fun b ps e => ?_⟩, I.loc, I.cell, ?_, fun x c e => ?_, fun p hp => ?_, fun b u e => ?_, I.len⟩
  · rw [upd_ne (first b u e hx)]
    exact I.base.free b u e n hx
  · obtain ⟨more, q⟩ := I.base.tbls b ps e
    exact ⟨more, up _ _ q⟩
  · rw [upd_ne (older _ _ hoL)]
    exact I.free
  · obtain ⟨v, oc, hoc, _⟩ := J.cell x c e
    rw [upd_ne (older _ _ hoc)]
    exact I.freeC x c e
  · obtain ⟨e, n, r⟩ := I.pin p hp
    have hq := (J.pin p hp).1
    refine ⟨e, ?_, r⟩
    rw [upd_ne (older _ _ hq)]
    exact n
  · by_cases hb : b = a
    · subst hb
      rw [upd_same] at e
      cases e
      exact new
    · rw [upd_ne hb] at e
      exact (I.hok b u e).stay (fun _ _ _ q => q) (fun c q => up _ _ q) fun c xs q => up _ _ q
theorem into_suite (I : Inv X pins σ H s) (a : Addr) : Inv (X.suite a (X.pn ++ pins)) [] σ H s :=
  ⟨I.ok.suite _ _, I.os, I.bare, I.base, I.loc, I.cell, I.free, I.freeC, fun p hp => I.pin p (by rw [List.append_nil] at hp; exact hp), I.hok, I.len⟩
theorem out_of_suite {pn' : List (Addr × Obj)} (I : Inv (X.suite a (X.pn ++ pins)) pn' σ H s) (ok : X.Ok) : Inv X pins σ H s :=
  ⟨ok, I.os, I.bare, I.base, I.loc, I.cell, I.free, I.freeC, fun p hp => I.pin p (List.mem_append_left _ hp), I.hok, I.len⟩
end
/-- what the clause asks: the suite reads the exception at a, which is tracked; behind it slot i is empty -/
def wKeep (K : PySem.W.Frag) (c : Value) (i : Nat) (ts : TS) (Wout : WX) (D : Ends) : WX := fun cls d σ H =>
  ∃ b, PySem.W.exmOne K cls c = some b ∧ (b = true → ∀ a H2, H a = none → Same H H2 → H2 a = some (ExK cls d a) →
    ts { nx := fun σ' H' => D.nx (σ'.set i none) H', rt := D.rt, bk := fun σ' H' => D.bk (σ'.set i none) H', ct := fun σ' H' => D.ct (σ'.set i none) H' } (σ.set i (some (.ref a))) H2) ∧ (b = false → Wout cls d σ H)
section
variable {X : Cx} {x n : Str} {c : Value} {i : Nat} {body suite : List Stmt} {b₀ : Stmt} {np pos pos' : PySem.Pos} {tb : WX → TS} {ts : TS} {Wout : WX}
theorem ps_try_keep (hs : X.stack = X.env :: X.outer) (hf : X.env.frame = some X.env.locals) (hN : X.N.Nodup) (hi : X.N[i]? = some n) (hln : X.env.kindOf n = some .local) (hc : Names X x c) (tk : Takes X Wout)
    (hb : ∀ (W : WX) (pn : List (Addr × Obj)) (xe : Value → Shared → Prop), Takes (X.tr pn xe) W → PassesOwn (model X.prog X.w) X.A X.env xe → PSs (X.tr pn xe) body (tb W))
    (hsu : ∀ (a : Addr) (pn : List (Addr × Obj)), PSs (X.suite a pn) (b₀ :: suite) ts) :
    PS X (.Try body [.ExceptHandler (some (.Name x np)) (some n) (b₀ :: suite) pos'] [] [] pos) (fun D σ H => tb (wKeep X.K c i ts Wout D) D σ H) := by
  refine ⟨fun pins s σ H D I h => ?_⟩
  have ok := I.ok
  have stk : X.A.frames = some (X.env :: X.outer) := by rw [ok.frames, hs]
  refine wpAny_Try_except ?_
  have run := (hb (wKeep X.K c i ts Wout D) (X.pn ++ pins) (fun e s₁ => wpAny (model X.prog X.w) X.A (noteFrame e X.env) (fun _ s₂ => wpAny (model X.prog X.w) X.A (setFlight e none) (fun _ s₃ =>
    wpAny (model X.prog X.w) X.A (handleBy e X.env [.ExceptHandler (some (.Name x np)) (some n) (b₀ :: suite) pos']) (SP X pins D) X.xe s₃) X.xe s₂) X.xe s₁) ?caught PassesOwn.looking).run [] s σ H D (I.toTry _) h
  case caught =>
    intro u s' air
    obtain ⟨a, B, sI, pinsI, σ', H', cls, d, rfl, JI, ground, upI, sky, na, os, ag, b, hb1, yes, no⟩ := air
    have J : Inv X pins σ' H' sI := JI.ofTry ok
    have sky' : Sky B (X.env :: X.outer) a (Zc cls d) X.env.locals s'.heap := by rw [← hs]; exact sky
    show wpAny (model X.prog X.w) X.A (noteFrame (.ref a) X.env) _ _ _
    refine Sky.land Zc.steady stk hf sky' fun h3 fl3 up3 => ?_
    obtain ⟨o3, vs3, he3, hz3, hd3⟩ := fl3.there
    have offFrames : a ∉ frs (X.env :: X.outer) := fun hm => by
      obtain ⟨_, o', e', plain⟩ := fl3.2.2.1.mem hm
      rw [he3] at e'
      cases e'
      exact plain _ hd3
    have hnew : sI.heap.get? a = none := by
      cases q : sI.heap.get? a with
      | none => rfl
      | some u =>
        have z := ground a u q (by rw [hs]; exact offFrames)
        rw [fl3.2.1] at z
        cases z
    have J3 : Inv X pins σ' H' { s' with heap := h3 } := J.landed ground fl3.1 (upI.trans up3) os ag
    have J3' : Inv X pins σ' _ { s' with heap := h3 } := track J hnew J3 na (exk_ok he3 hz3 ⟨_, hd3⟩)
    refine wpAny_handleBy_cons (codeAny_handlers_test ?_) (by intro q; cases q)
    have look : PySem.W.Looks (model X.prog X.w) h3 (typeOf (.ref a)) cls := fun A Q E s k q => wpAny_typeOf_ref (k _ _ he3) (by rw [hz3.1]; exact q)
    have matches_ := PySem.W.exm_one (M := model X.prog X.w) J3.kIn look hb1
    have named : ∀ {Q : Value → Shared → Prop} {E : Value → Shared → Prop}, Q c { s' with heap := h3 } → wpAny (model X.prog X.w) (X.A.mark (some (.ref a))) (eval (.Name x np) X.env) Q E { s' with heap := h3 } := fun {Q E} q => by
      obtain ⟨hg, hdbg, hm | ⟨hm, hv, hnn⟩⟩ := hc
      · exact ld_glob (X := X.suite a (X.pn ++ pins)) (into_suite J3 a) hg hm q hdbg
      · exact ld_blt (X := X.suite a (X.pn ++ pins)) (into_suite J3 a) hg hm hv q hnn hdbg
    refine named (matches_.here ?_)
    cases b with
    | false =>
      show wpAny _ X.A (handleBy (.ref a) X.env []) _ _ _
      refine wpAny_handleBy_nil ?_
      obtain ⟨k1, k2, k3, oe, vs, T, oT, ts', he, hz, hd, h1, hr⟩ := id fl3
      unfold PySem.passOn
      refine wpAny_bind (wpAny_field he hd h1 ?_)
      rw [if_neg (show ¬ ((Value.ref T == Value.none) = true) from by simp)]
      have on : wpAny (model X.prog X.w) X.A (setFlight (.ref a) X.env.frame) (fun _ s4 => wpAny (model X.prog X.w) X.A (throw (.ref a) : Sem Flow) (SP X pins D) X.xe s4) X.xe { s' with heap := h3 } := by
        rw [hf]
        refine HandSPX.setFlight_upZ fl3 fun h4 held4 up4 => wpAny_throw (tk _ _ ?_)
        exact ⟨a, B, sI, pins, σ', H', cls, d, rfl, J, ground, (upI.trans up3).trans up4, .inr (.inr (by rw [hs]; exact held4)), na, os, ag, no rfl⟩
      first
        | exact wpAny_bind (wpAny_pure (wpAny_bind on))
        | exact wpAny_bind on
    | true =>
      refine codeAny_handlers_suite_as ?_
      refine HandSPX.lands_againZ fl3 fun h4 fl4 up4 => ?_
      obtain ⟨o4, vs4, he4, hz4, hd4⟩ := fl4.there
      have J4 : Inv X pins σ' H' { s' with heap := h4 } := J.landed ground fl4.1 ((upI.trans up3).trans up4) os ag
      have J4' : Inv X pins σ' (upd H' a (ExK cls d a)) { s' with heap := h4 } := track J hnew J4 na (exk_ok he4 hz4 ⟨_, hd4⟩)
      refine store_ok (X := X.suite a (X.pn ++ pins)) (v := .ref a) (into_suite J4' a) hN hi (.inl hln) rfl (fun s5 S5 => ?_) (.inr hln)
      have go := (hsu a (X.pn ++ pins)).run [] s5 _ _ _ S5 (yes rfl a _ na (same_new na) upd_same)
      have leave : ∀ {s6 : Shared} {σ6 : L2.St} {H6 : Hp} {Q : Shared → Prop}, Inv (X.suite a (X.pn ++ pins)) [] σ6 H6 s6 → (∀ s7, Inv X pins (σ6.set i none) H6 s7 → Q s7) →
          wpAny (model X.prog X.w) X.A (do bindName X.env n .none; unbindBehindTheSuite X.env n pos') (fun _ s7 => Q s7) X.xe s6 := fun {s6 σ6 H6 Q} S6 hq => gone_ok (out_of_suite S6 ok) hN hi hln hq
      refine wpAny_mono go (fun f s6 hsp => ?_) (fun _ _ z => False.elim z)
      cases f with
      | next => obtain ⟨σ6, H6, S6, q6⟩ := hsp; exact leave S6 fun s7 J7 => ⟨_, _, J7, q6⟩
      | brk => obtain ⟨σ6, H6, S6, q6⟩ := hsp; exact leave S6 fun s7 J7 => ⟨_, _, J7, q6⟩
      | cont => obtain ⟨σ6, H6, S6, q6⟩ := hsp; exact leave S6 fun s7 J7 => ⟨_, _, J7, q6⟩
      | ret u => obtain ⟨v6, σ6, H6, S6, r6, q6⟩ := hsp; exact leave S6 fun s7 J7 => ⟨_, _, _, J7, r6, q6⟩
  refine wpAny_mono run (fun f s1 hsp => ?_) (fun e s1 he => he)
  cases f with
  | next => obtain ⟨σ', H', J', q⟩ := hsp; exact wpAny_execs_nil ⟨σ', H', J'.ofTry ok, q⟩
  | brk => obtain ⟨σ', H', J', q⟩ := hsp; exact ⟨σ', H', J'.ofTry ok, q⟩
  | cont => obtain ⟨σ', H', J', q⟩ := hsp; exact ⟨σ', H', J'.ofTry ok, q⟩
  | ret u => obtain ⟨v, σ', H', J', r, q⟩ := hsp; exact ⟨v, σ', H', J'.ofTry ok, r, q⟩
end
/-- isinstance of a kept exception -/
def rIsX (K : PySem.W.Frag) : List V → Hp → VK → Prop := fun xs H Q => ∃ (a D : Addr) (c : V) (u : Value) (b : Bool), xs = [.ref a, c] ∧ H a = some (ExK (.ref D) none a) ∧ ExcC K D ∧ ClsV c u ∧ PySem.W.kitOne K (.ref D) u = some b ∧ Q (.bl b) H
def rIsXT (K : PySem.W.Frag) : List V → Hp → VK → Prop := fun xs H Q => ∃ (a D tp : Addr) (cs : List V) (us : List Value) (b : Bool), xs = [.ref a, .ref tp] ∧ H a = some (ExK (.ref D) none a) ∧ ExcC K D ∧ H tp = some (.tup cs) ∧ Paired ClsV cs us ∧ PySem.W.kitAny K (.ref D) us = some b ∧ Q (.bl b) H
section
variable {X : Cx}
theorem exk_inst {pins : List (Addr × Obj)} {σ : L2.St} {H : Hp} {s : Shared} {a D : Addr} (I : Inv X pins σ H s) (h : H a = some (ExK (.ref D) none a)) : ∃ ox, PySem.W.InstAt s.heap a ox D none := by
  obtain ⟨⟨⟨oc, od, oda, osl⟩, e, ⟨z1, z2⟩, vs, hv⟩, _⟩ := I.hok a _ h
  dsimp only at z1 z2 hv
  subst z1 z2 hv
  exact ⟨_, e, rfl, rfl, trivial⟩
theorem call_isX : CallR X (.builtin "isinstance") (rIsX X.K) := by
  intro pins s σ H xs us Q I r h
  obtain ⟨a, D, c, u, b, rfl, ha, C, k, e, q⟩ := h
  obtain ⟨u1, u2, rfl, r1, r2⟩ := vals2 r
  have e2 := k.eq r2
  subst e2
  cases (show u1 = Value.ref a from r1)
  obtain ⟨ox, J⟩ := exk_inst I ha
  exact PySem.W.kia_one (PySem.W.handS_kitx_exc C.hg C.hk C.hs C.hd C.ha C.hn C.ht C.hm) I.kIn J e (fun z => nomatch z) fun tk => ⟨.bl b, H, I.tok tk, rfl, q⟩
theorem call_isXT : CallR X (.builtin "isinstance") (rIsXT X.K) := by
  intro pins s σ H xs us Q I r h
  obtain ⟨a, D, tp, cs, ws, b, rfl, ha, C, hT, k, e, q⟩ := h
  obtain ⟨u1, u2, rfl, r1, r2⟩ := vals2 r
  cases (show u1 = Value.ref a from r1)
  cases (show u2 = Value.ref tp from r2)
  obtain ⟨ox, J⟩ := exk_inst I ha
  obtain ⟨_, its, rv, o, h1, h2, n, h3⟩ := (show ObjOk X.prog X.w H s.heap tp (.tup cs) from I.hok tp _ hT)
  have e3 := ClsV.all k rv
  subst e3
  obtain ⟨oc, od, dt, sl⟩ := o
  simp only at h2 h3
  subst h2 h3
  exact PySem.W.kia_tup (PySem.W.handS_kitx_exc C.hg C.hk C.hs C.hd C.ha C.hn C.ht C.hm) I.kIn J h1 e (fun z => nomatch z) fun tk => ⟨.bl b, H, I.tok tk, rfl, q⟩
def rIsiU (K : PySem.W.Frag) : List V → Hp → VK → Prop := fun xs H Q => rIsi K xs H Q ∨ rIsiT K xs H Q ∨ rIsX K xs H Q ∨ rIsXT K xs H Q
theorem uIsi : CallR X (.builtin "isinstance") (rIsiU X.K) := CallR.or call_isi (CallR.or call_isiT (CallR.or call_isX call_isXT))
end
section
variable {H : Hp} {Q : VK} {K : PySem.W.Frag}
theorem j_isiU {x c : V} {t u : Value} {b : Bool} (h1 : ClsV c u) (h2 : TyX K H x t) (h3 : PySem.W.kitOne K t u = some b) (q : Q (.bl b) H) : rIsiU K [x, c] H Q := .inl ⟨x, c, t, u, b, rfl, h1, h2, h3, q⟩
theorem j_isX {a D : Addr} {c : V} {u : Value} {b : Bool} (ha : H a = some (ExK (.ref D) none a)) (C : ExcC K D) (k : ClsV c u) (e : PySem.W.kitOne K (.ref D) u = some b) (q : Q (.bl b) H) : rIsiU K [.ref a, c] H Q := .inr (.inr (.inl ⟨a, D, c, u, b, rfl, ha, C, k, e, q⟩))
theorem j_isXT {a D tp : Addr} {cs : List V} {us : List Value} {b : Bool} (ha : H a = some (ExK (.ref D) none a)) (C : ExcC K D) (hT : H tp = some (.tup cs)) (k : Paired ClsV cs us) (e : PySem.W.kitAny K (.ref D) us = some b) (q : Q (.bl b) H) : rIsiU K [.ref a, .ref tp] H Q := .inr (.inr (.inr ⟨a, D, tp, cs, us, b, rfl, ha, C, hT, k, e, q⟩))
end
/-- an own exception class without an __init__ -/
structure Xc (K : PySem.W.Frag) (mg : Str → Option Value) (name : Str) where
  C : Addr
  g : mg name = some (.ref C)
  x : PySem.W.excIn K C [.type "ValueError", .type "Exception", .type "BaseException", .type "object"] "ValueError.__new__" = true
  k : PySem.W.keepIn K (.ref C) = true
  b : PySem.W.subIn K (.ref C) (.type "BaseException") = some true
  t : PySem.W.typeIn K (.ref C) = some (.type "type")
  i : PySem.W.isClsIn K C = true
  e : ExcC K C
  v : PySem.W.subIn K (.ref C) (.type "ValueError") = some true
/-- one that is asked for alone -/
structure Xa (K : PySem.W.Frag) (mg : Str → Option Value) (name : Str) where
  C : Addr
  g : mg name = some (.ref C)
  b : PySem.W.subIn K (.ref C) (.type "BaseException") = some true
  t : PySem.W.typeIn K (.ref C) = some (.type "type")
  i : PySem.W.isClsIn K C = true
theorem kit_ref {K : PySem.W.Frag} {D C : Addr} {b : Bool} (t : PySem.W.typeIn K (.ref C) = some (.type "type")) (i : PySem.W.isClsIn K C = true) (s : PySem.W.subIn K (.ref D) (.ref C) = some b) (self : D = C → b = true) : PySem.W.kitOne K (.ref D) (.ref C) = some b := by
  unfold PySem.W.kitOne
  by_cases h : D = C
  · subst h
    rw [if_pos (by simp), self rfl]
  · rw [if_neg (by simpa using h)]
    show (if ((PySem.W.clsIn K C).isSome && PySem.W.typeIn K (.ref C) == some (.type "type")) = true then PySem.W.subIn K (.ref D) (.ref C) else none) = some b
    have hi : (PySem.W.clsIn K C).isSome = true := i
    rw [hi, t]
    exact (if_pos rfl).trans s
theorem kit_ve {K : PySem.W.Frag} {D : Addr} {b : Bool} (s : PySem.W.subIn K (.ref D) (.type "ValueError") = some b) : PySem.W.kitOne K (.ref D) (.type "ValueError") = some b := by
  unfold PySem.W.kitOne
  rw [if_neg (by simp)]
  show (if PySem.W.kitMeta "ValueError" = true then PySem.W.subIn K (.ref D) (.type "ValueError") else none) = some b
  rw [if_pos (by decide +kernel)]
  exact s
theorem exm_by {K : PySem.W.Frag} {C D : Addr} {b : Bool} (hb : PySem.W.subIn K (.ref C) (.type "BaseException") = some true) (t : PySem.W.typeIn K (.ref C) = some (.type "type")) (i : PySem.W.isClsIn K C = true) (s : PySem.W.subIn K (.ref D) (.ref C) = some b) : PySem.W.exmOne K (.ref D) (.ref C) = some b := by
  unfold PySem.W.exmOne
  rw [hb, if_pos (by rfl)]
  show (if ((PySem.W.clsIn K C).isSome && PySem.W.typeIn K (.ref C) == some (.type "type")) = true then PySem.W.subIn K (.ref D) (.ref C) else none) = some b
  have hi : (PySem.W.clsIn K C).isSome = true := i
  rw [hi, t]
  exact (if_pos rfl).trans s
end
section
theorem j_callS {sp : Sp} {E : L2.St → XK} {t : TA} {σ : L2.St} {H : Hp} {Q : VK} (q : t σ H fun vs H1 => sp vs H1 Q (E σ)) : tCallS sp E t σ H Q := q
theorem j_keep {K : PySem.W.Frag} {cls c : Value} {i : Nat} {ts : TS} {Wout : WX} {D : Ends} {d : Option Addr} {σ : L2.St} {H : Hp} (hb : PySem.W.exmOne K cls c = some true)
    (q : ∀ a H2, H a = none → Same H H2 → H2 a = some (ExK cls d a) → ts { nx := fun σ' H' => D.nx (σ'.set i none) H', rt := D.rt, bk := fun σ' H' => D.bk (σ'.set i none) H', ct := fun σ' H' => D.ct (σ'.set i none) H' } (σ.set i (some (.ref a))) H2) :
    wKeep K c i ts Wout D cls d σ H := ⟨true, hb, fun _ => q, fun z => nomatch z⟩
end

/-! ### dicts by names, frames, locks -/
/-- all but S stays -/
def Kp (S : Addr → Prop) (H H2 : Hp) : Prop := ∀ b o, ¬ S b → H b = some o → H2 b = some o
theorem kp_same {S : Addr → Prop} {H H2 : Hp} (s : Same H H2) : Kp S H H2 := fun b o _ e => s b o e
theorem kp_hide {l : Addr} {H H2 : Hp} (s : Same (hide l H) (hide l H2)) : Kp (· = l) H H2 := fun b o n e => by
  have := s b o (by rw [hide_ne n]; exact e)
  rwa [hide_ne n] at this
theorem hide_kp {l : Addr} {H H2 : Hp} (k : Kp (· = l) H H2) : Same (hide l H) (hide l H2) := fun b o e => by
  by_cases n : b = l
  · subst n; rw [hide_self] at e; cases e
  · rw [hide_ne n] at e ⊢; exact k b o n e
theorem Kp.trans {S S' S2 : Addr → Prop} {H H1 H2 : Hp} (a : Kp S H H1) (b : Kp S' H1 H2) (f : ∀ b, S' b → S2 b ∨ H b = none) (g : ∀ b, S b → S2 b ∨ H b = none) : Kp S2 H H2 := fun c o n e => by
  have n1 : ¬ S c := fun z => by
    rcases g c z with q | q
    · exact n q
    · rw [q] at e; cases e
  have n2 : ¬ S' c := fun z => by
    rcases f c z with q | q
    · exact n q
    · rw [q] at e; cases e
  exact b c o n2 (a c o n1 e)
theorem Kp.tr {S : Addr → Prop} {H H1 H2 : Hp} (a : Kp S H H1) (b : Kp S H1 H2) : Kp S H H2 := a.trans b (fun _ z => .inl z) fun _ z => .inl z
theorem Kp.wide {S S2 : Addr → Prop} {H H1 : Hp} (a : Kp S H H1) (f : ∀ b, S b → S2 b) : Kp S2 H H1 := fun b o n e => a b o (fun z => n (f b z)) e
/-- a dict by names -/
def kvI (ks : List Int) (f : Int → V) : List (Key × V) := ks.map fun k => (Sum.inl k, f k)
theorem kv_len (ks : List Int) (f : Int → V) : (kvI ks f).length = ks.length := List.length_map _
theorem kv_get {ks : List Int} {f : Int → V} {k : Int} : k ∈ ks → valV (kvI ks f) (Sum.inl k) = some (f k) := by
  induction ks with
  | nil => intro h; cases h
  | cons a r ih =>
    intro h
    by_cases e : a = k
    · subst e
      exact valV_pos rfl
    · have hr : k ∈ r := by
        rcases List.mem_cons.mp h with q | q
        · exact absurd q.symm e
        · exact q
      exact (valV_neg (p := (Sum.inl a, f a)) (r := kvI r f) (fun z => e (Sum.inl.inj z))).trans (ih hr)
theorem kv_none {ks : List Int} {f : Int → V} {k : Int} : k ∉ ks → valV (kvI ks f) (Sum.inl k) = none := by
  induction ks with
  | nil => intro _; rfl
  | cons a r ih =>
    intro h
    exact (valV_neg (p := (Sum.inl a, f a)) (r := kvI r f) (fun z => h (by rw [Sum.inl.inj z]; exact List.mem_cons_self))).trans (ih fun z => h (List.mem_cons_of_mem _ z))
theorem kv_put {ks : List Int} {f : Int → V} {k : Int} {v : V} (h : k ∈ ks) : putK (kvI ks f) (Sum.inl k) v = kvI ks (fun j => if j = k then v else f j) := by
  unfold putK
  rw [valV_any, kv_get h]
  rw [if_pos (by rfl)]
  unfold kvI
  rw [List.map_map]
  refine List.map_congr_left fun j _ => ?_
  show (if (Sum.inl j : Key) = Sum.inl k then ((Sum.inl j : Key), v) else (Sum.inl j, f j)) = (Sum.inl j, if j = k then v else f j)
  by_cases e : j = k
  · subst e; rw [if_pos rfl, if_pos rfl]
  · rw [if_neg e, if_neg (fun z => e (Sum.inl.inj z))]
theorem kv_new {ks : List Int} {f : Int → V} {k : Int} {v : V} (h : k ∉ ks) : putK (kvI ks f) (Sum.inl k) v = kvI (ks ++ [k]) (fun j => if j = k then v else f j) := by
  rw [putK_new v (kv_none h)]
  unfold kvI
  rw [List.map_append]
  congr 1
  · refine List.map_congr_left fun j hj => ?_
    have e : j ≠ k := fun z => h (z ▸ hj)
    show ((Sum.inl j : Key), f j) = (Sum.inl j, if j = k then v else f j)
    rw [if_neg e]
  · show [((Sum.inl k : Key), v)] = [(Sum.inl k, if k = k then v else f k)]
    rw [if_pos rfl]
theorem kv_congr {ks : List Int} {f g : Int → V} (h : ∀ k ∈ ks, f k = g k) : kvI ks f = kvI ks g := List.map_congr_left fun k hk => by rw [h k hk]
theorem merge_go (f : Int → V) : ∀ (r ks : List Int), (ks ++ r).Nodup → mergeK (kvI ks f) (kvI r f) = kvI (ks ++ r) f
  | [], ks, _ => by rw [List.append_nil]; rfl
  | a :: r, ks, h => by
    have ha : a ∉ ks := fun z => by
      have := (List.nodup_append.mp h).2.2 a z a List.mem_cons_self
      exact this rfl
    show mergeK (putK (kvI ks f) (Sum.inl a) (f a)) (kvI r f) = _
    rw [kv_new ha, kv_congr (g := f) (fun k _ => by by_cases e : k = a; rw [if_pos e, e]; rw [if_neg e])]
    have e : ks ++ a :: r = (ks ++ [a]) ++ r := by simp
    rw [merge_go f r (ks ++ [a]) (by rw [← e]; exact h), e]
theorem merge_kv (f : Int → V) (ks : List Int) (h : ks.Nodup) : mergeK [] (kvI ks f) = kvI ks f := merge_go f ks [] (by simpa using h)
section
variable {X : Cx}
def tLockM (t : TS) : TS := fun D σ H => ((∃ d o u, H d = some (.frz o u)) ∧ t D σ H) ∨ tLock t D σ H
theorem ps_lockM {st : Stmt} {t : TS} (h : PS X st t) : PS X st (tLockM t) := by
  refine ⟨fun pins s σ H D I hw => ?_⟩
  rcases hw with ⟨_, hw⟩ | hw
  · exact h.run pins s σ H D I hw
  · exact (ps_lock h).run pins s σ H D I hw
def rDictU (K : PySem.W.Frag) : List V → Hp → VK → Prop := fun xs H Q => (∃ (a : Addr) (ps : List Addr) (kvs : List (Key × V)), xs = [.ref a] ∧ SqL K H a (ps.map V.ref) ∧ Paired (fun p kv => SqT K H p [kV kv.1, kv.2]) ps kvs ∧
    Al (.dK (mergeK [] kvs)) H Q) ∨ ∃ (a : Addr) (kvs : List (Key × V)), xs = [.ref a] ∧ Rd H a (.dK kvs) ∧ Al (.dK kvs) H Q
theorem uDict (hc : X.calm = true) : CallR X (.type "dict") (rDictU X.K) := CallR.or (call_dictP hc) call_dictD
def rSortDI : List V → Hp → VK → Prop := fun xs H Q => ∃ (a : Addr) (kvs : List (Key × V)) (ks : List Int), xs = [.ref a] ∧ Rd H a (.dK kvs) ∧ kvs.map (·.1) = ks.map Sum.inl ∧ ks.length < 64 ∧
    ∀ (ys : List Int) (p : Addr), ys.Perm ks → ys.Pairwise (· ≤ ·) → H p = none → Q (.ref p) (upd H p (.lst (ys.map V.int)))
theorem uSortDI (hc : X.calm = true) : CallR X (.builtin "sorted") rSortDI := call_sortedDI hc
def rLenR (K : PySem.W.Frag) : List V → Hp → VK → Prop := fun xs H Q => rLenU K xs H Q ∨ ∃ (d : Addr) (kvs : List (Key × V)), xs = [.ref d] ∧ Rd H d (.dK kvs) ∧ Q (.int kvs.length) H
theorem uLenR : CallR X (.builtin "len") (rLenR X.K) := by
  refine CallR.or uLen ?_
  intro pins s σ H xs us Q I r h
  obtain ⟨a, kvs, rfl, ha, q⟩ := h
  obtain ⟨u, rfl, ru⟩ := vals1 r
  cases ru
  exact d_len I ha fun t s' I' => ⟨.int kvs.length, H, I', ⟨t, rfl⟩, q⟩
def rInsert : V → List V → Hp → VK → Prop := fun x vs H Q => ∃ (l : Addr) (xs : List V) (i : Int) (y : V), x = .ref l ∧ vs = [.int i, y] ∧ H l = some (.lst xs) ∧ xs.length < sizeLine ∧ 0 ≤ i ∧ i < 2 ^ 63 ∧ Q .non (upd H l (.lst (xs.take i.toNat ++ [y] ++ xs.drop i.toNat)))
theorem mt_insertU : MtR X "list.insert" rInsert := mt_insert
end
section
variable {σ : L2.St} {H : Hp} {Q : VK} {D : Ends} {K : PySem.W.Frag}
theorem j_dget {td ty : TE} (q : td σ H fun x H1 => ty σ H1 fun y H2 => ∃ a v, x = .ref a ∧ DGet H2 a y (some v) ∧ Q v H2) : tDGet td ty σ H Q := q
theorem j_dgetI {d : Addr} {n : Int} {ks : List Int} {f : Int → V} {v : V} {R : V → Prop} (h : Rd H d (.dK (kvI ks f))) (hn : n ∈ ks) (hv : f n = v) (q : R v) : ∃ a v, V.ref d = .ref a ∧ DGet H a (.int n) (some v) ∧ R v :=
  ⟨d, f n, rfl, .inl ⟨_, Sum.inl n, h, rfl, (kv_get hn).symm⟩, hv ▸ q⟩
theorem j_din {td ty : TE} (q : ty σ H fun y H1 => td σ H1 fun x H2 => ∃ a o, x = .ref a ∧ DGet H2 a y o ∧ Q (.bl o.isSome) H2) : tDIn ty td σ H Q := q
theorem j_dnin {td ty : TE} (q : ty σ H fun y H1 => td σ H1 fun x H2 => ∃ a o, x = .ref a ∧ DGet H2 a y o ∧ Q (.bl (!o.isSome)) H2) : tDNotIn ty td σ H Q := q
theorem j_dhas {d : Addr} {n : Int} {ks : List Int} {f : Int → V} {R : Option V → Prop} (h : Rd H d (.dK (kvI ks f))) (hn : n ∈ ks) (q : R (some (f n))) : ∃ a o, V.ref d = .ref a ∧ DGet H a (.int n) o ∧ R o :=
  ⟨d, _, rfl, .inl ⟨_, Sum.inl n, h, rfl, (kv_get hn).symm⟩, q⟩
theorem j_dput {td ty tv : TE} (q : tv σ H fun v H1 => td σ H1 fun x H2 => ty σ H2 fun y H3 => ∃ a H4, x = .ref a ∧ DPut H3 a y v H4 ∧ D.nx σ H4) : sDPut td ty tv D σ H := q
theorem j_dputI {d : Addr} {n : Int} {ks : List Int} {f : Int → V} {v : V} {R : Hp → Prop} (h : H d = some (.dK (kvI ks f))) (hl : ks.length < sizeLine) (q : R (upd H d (.dK (putK (kvI ks f) (Sum.inl n) v)))) : ∃ a H4, V.ref d = .ref a ∧ DPut H a (.int n) v H4 ∧ R H4 :=
  ⟨d, _, rfl, .inl ⟨_, Sum.inl n, h, rfl, by rw [kv_len]; exact hl, rfl⟩, q⟩
theorem j_insert {l : Addr} {xs : List V} {i : Int} {y : V} (h : H l = some (.lst xs)) (hz : xs.length < sizeLine) (h0 : 0 ≤ i) (h1 : i < 2 ^ 63) (q : Q .non (upd H l (.lst (xs.take i.toNat ++ [y] ++ xs.drop i.toNat)))) : rInsert (.ref l) [.int i, y] H Q := ⟨l, xs, i, y, rfl, rfl, h, hz, h0, h1, q⟩
theorem j_dictP {a : Addr} {ps : List Addr} {ks : List Int} {f : Int → V} (nd : ks.Nodup) (h : SqL K H a (ps.map V.ref)) (hp : Paired (fun p k => SqT K H p [V.int k, f k]) ps ks) (q : Al (.dK (kvI ks f)) H Q) : rDictU K [.ref a] H Q := by
  refine .inl ⟨a, ps, kvI ks f, rfl, h, ?_, by rw [merge_kv f ks nd]; exact q⟩
  clear q nd h
  induction hp with
  | nil => exact .nil
  | cons h _ ih => exact .cons h ih
theorem j_dictD {a : Addr} {kvs : List (Key × V)} (h : Rd H a (.dK kvs)) (q : Al (.dK kvs) H Q) : rDictU K [.ref a] H Q := .inr ⟨a, kvs, rfl, h, q⟩
theorem j_sortD {a : Addr} {ks : List Int} {f : Int → V} (h : Rd H a (.dK (kvI ks f))) (hl : ks.length < 64) (q : ∀ (ys : List Int) (p : Addr) (H2 : Hp), ys.Perm ks → ys.Pairwise (· ≤ ·) → H p = none → Same H H2 → H2 p = some (.lst (ys.map V.int)) → Q (.ref p) H2) : rSortDI [.ref a] H Q :=
  ⟨a, _, ks, rfl, h, by unfold kvI; rw [List.map_map]; rfl, hl, fun ys p h1 h2 n => q ys p _ h1 h2 n (same_new n) upd_same⟩
theorem j_lockF {t : TS} {d : Addr} {o : Obj} {u : HO} (h : H d = some (.frz o u)) (q : t D σ H) : tLockM t D σ H := .inl ⟨⟨d, o, u, h⟩, q⟩
theorem j_lockU {t : TS} {d : Addr} {u : HO} (h : H d = some u) (mu : Mut (some u))
    (q : ∀ od H1, H1 = upd H d (.frz od u) → t ⟨fun σ' H' => H' d = some (.frz od u) ∧ D.nx σ' (upd H' d u), fun v H' => H' d = some (.frz od u) ∧ D.rt v (upd H' d u), fun σ' H' => H' d = some (.frz od u) ∧ D.bk σ' (upd H' d u), fun σ' H' => H' d = some (.frz od u) ∧ D.ct σ' (upd H' d u)⟩ σ H1) : tLockM t D σ H :=
  .inr ⟨d, u, h, mu, fun od => q od _ rfl⟩
theorem unlock_same {d : Addr} {u : HO} {od : Obj} {H' : Hp} (h : H d = some u) (s : Same (upd H d (.frz od u)) H') : Same H (upd H' d u) := fun b o e => by
  by_cases n : b = d
  · subst n
    rw [h] at e
    cases e
    exact upd_same
  · rw [upd_ne n]
    exact s b o (by rw [upd_ne n]; exact e)
theorem j_iKeys {td : TE} {R : It → Hp → Prop} (q : td σ H fun x H1 => ∃ d o, x = .ref d ∧ ((∃ kvs, H1 d = some (.frz o (.dK kvs)) ∧ R (Itk d o kvs) H1) ∨ ∃ kvs, H1 d = some (.frz o (.dT kvs)) ∧ R (Itkt d o kvs) H1)) : iKeys td σ H R := q
theorem j_iKeysI {d : Addr} {o : Obj} {kvs : List (Key × V)} {R : Addr → Obj → List (Key × V) → Prop} {R2 : Addr → Obj → List (List Key × V) → Prop} (h : H d = some (.frz o (.dK kvs))) (q : R d o kvs) : ∃ d' o', V.ref d = .ref d' ∧ ((∃ kvs, H d' = some (.frz o' (.dK kvs)) ∧ R d' o' kvs) ∨ ∃ kvs, H d' = some (.frz o' (.dT kvs)) ∧ R2 d' o' kvs) :=
  ⟨d, o, rfl, .inl ⟨kvs, h, q⟩⟩
theorem j_iRng3 {ta : TA} {R : It → Hp → Prop} (q : ta σ H fun vs H1 => ∃ (i j c : Int) (n : Nat), vs = [.int i, .int j, .int c] ∧ RgC i j c n ∧ R (Itc i c n) H1) : iRng3 ta σ H R := q
theorem for_keys {d : Addr} {o : Obj} {ks : List Int} {f : Int → V} {g : TG} {tb : TS} (Pv : Nat → L2.St → Hp → Prop) (h0 : Pv 0 σ H) (hl : ∀ i σ H, Pv i σ H → H d = some (.frz o (.dK (kvI ks f))))
    (hs : ∀ i k σ H, ks[i]? = some k → Pv i σ H → g (.int k) σ H fun σ2 H2 => tb { D with nx := Pv (i + 1), ct := Pv (i + 1), bk := D.nx } σ2 H2) (hd : ∀ σ H, Pv ks.length σ H → D.nx σ H) :
    Fo (Itk d o (kvI ks f)) g tb D σ H := by
  refine ⟨fun i m σ H => m = ks.length - i ∧ i ≤ ks.length ∧ Pv i σ H, ⟨ks.length, by simp, Nat.zero_le _, h0⟩, ?_⟩
  rintro i m σ H ⟨rfl, hi, p⟩
  by_cases hlt : i < ks.length
  · refine .inr ⟨⟨hl i σ H p, by rw [kv_len]; exact hlt⟩, Pv (i + 1), fun σ' H' p' => ⟨ks.length - (i + 1), by omega, rfl, hlt, p'⟩, fun v H' y => ?_⟩
    obtain ⟨rfl, k, w, hk, rfl⟩ := y
    unfold kvI at hk
    rw [List.getElem?_map] at hk
    cases e : ks[i]? with
    | none => rw [e] at hk; cases hk
    | some n =>
      rw [e] at hk
      have hk := Option.some.inj hk
      have e1 : Sum.inl n = k := congrArg Prod.fst hk
      subst e1
      exact hs i n σ _ e p
  · have e : i = ks.length := by omega
    subst e
    exact .inl ⟨⟨hl _ σ H p, by rw [kv_len]; exact Nat.le_refl _⟩, hd σ H p⟩
theorem lc_genK {d : Addr} {o : Obj} {ks : List Int} {f : Int → V} {g : TG} {tt : TT} {te : TE} {vs : List Nat} {H1 : Hp} {Dl : Addr} {Qd : Hp → Prop} (Rel : Nat → V → Hp → Prop) (keep : Nat → Bool)
    (hD : H1 Dl = none) (hn : ks.length ≤ 100000) (hk : H1 d = some (.frz o (.dK (kvI ks f)))) (mono : ∀ i y G G', Same G G' → Rel i y G → Rel i y G')
    (hs : ∀ i k, ks[i]? = some k → LcTurn g tt te vs σ Dl H1 Rel keep i (.int k))
    (hd : ∀ H' ys, Same H1 (hide Dl H') → H' Dl = some (.lst ys) → Made Rel ((List.range ks.length).filter keep) ys (hide Dl H') → Qd H') : Lo (Itk d o (kvI ks f)) g tt te vs σ Dl Qd H1 := by
  refine ⟨fun i m H => m = ks.length - i ∧ i ≤ ks.length ∧ LcInv Dl H1 Rel keep i H, ⟨ks.length, by simp, Nat.zero_le _, LcInv.zero hD⟩, ?_⟩
  rintro i m H ⟨rfl, hi, p⟩
  have hf : H d = some (.frz o (.dK (kvI ks f))) := same_hide _ _ _ _ (p.1 _ _ hk)
  by_cases hlt : i < ks.length
  · refine .inr ⟨⟨hf, by rw [kv_len]; exact hlt⟩, LcInv Dl H1 Rel keep (i + 1), fun H' p' => ⟨ks.length - (i + 1), by omega, rfl, hlt, p'⟩, fun v H' y => ?_⟩
    obtain ⟨rfl, k, w, hk, rfl⟩ := y
    unfold kvI at hk
    rw [List.getElem?_map] at hk
    cases e : ks[i]? with
    | none => rw [e] at hk; cases hk
    | some n =>
      rw [e] at hk
      have hk := Option.some.inj hk
      have e1 : Sum.inl n = k := congrArg Prod.fst hk
      subst e1
      exact LcInv.step mono hlt hn (hs i n e) p
  · have e : i = ks.length := by omega
    subst e
    exact .inl ⟨⟨hf, by rw [kv_len]; exact Nat.le_refl _⟩, hd H _ p.1 p.2.choose_spec.1 p.2.choose_spec.2⟩
end
/-! ### webs -/
abbrev End := Int × Int × Bool
def EndV (H : Hp) (v : V) (e : End) : Prop := ∃ p, v = .ref p ∧ H p = some (.tup [.int e.1, .int e.2.1, .bl e.2.2])
def EndVs (H : Hp) (vs : List V) (es : List End) : Prop := Paired (EndV H) vs es
theorem EndV.ts {H H2 : Hp} {v : V} {e : End} (s : TSm H H2) (h : EndV H v e) : EndV H2 v e := let ⟨p, a, b⟩ := h; ⟨p, a, s.t _ _ b⟩
theorem EndVs.ts {H H2 : Hp} {vs : List V} {es : List End} (s : TSm H H2) (h : EndVs H vs es) : EndVs H2 vs es := by
  unfold EndVs at *
  induction h with
  | nil => exact .nil
  | cons a _ ih => exact .cons (a.ts s) ih
structure WebAt (H : Hp) (d : Addr) (ns : List Int) (B : Int → Int) (E : Int → List End) (f : Int → V) : Prop where
  dict : H d = some (.dK (kvI ns f))
  at_ : ∀ n ∈ ns, ∃ t l vs, f n = .ref t ∧ H t = some (.tup [.int (B n), .ref l]) ∧ H l = some (.lst vs) ∧ EndVs H vs (E n)
structure EndsAt (H : Hp) (D : Addr) (A : Int → Addr) (ns : List Int) (E : Int → List End) : Prop where
  dict : H D = some (.dK (kvI ns fun n => .ref (A n)))
  at_ : ∀ n ∈ ns, ∃ vs, H (A n) = some (.lst vs) ∧ EndVs H vs (E n)
  inj : ∀ n ∈ ns, ∀ m ∈ ns, A n = A m → n = m
/-- the ties of a web -/
structure GoodE (ns : List Int) (E : Int → List End) : Prop where
  inn : ∀ n ∈ ns, ∀ e ∈ E n, e.1 ∈ ns ∧ e.1 ≠ n ∧ 1 ≤ e.2.1 ∧ e.2.1 ≤ 60
  sym : ∀ n ∈ ns, ∀ e ∈ E n, (n, e.2.1, e.2.2) ∈ E e.1
  one : ∀ n ∈ ns, ((E n).map (·.1)).Nodup
theorem Paired.app {α β : Type} {F : α → β → Prop} : ∀ {a : List α} {b : List β} {c : List α} {d : List β}, Paired F a b → Paired F c d → Paired F (a ++ c) (b ++ d)
  | _, _, _, _, .nil, q => q
  | _, _, _, _, .cons h t, q => .cons h (Paired.app t q)
theorem Paired.tk {α β : Type} {F : α → β → Prop} : ∀ (n : Nat) {a : List α} {b : List β}, Paired F a b → Paired F (a.take n) (b.take n)
  | 0, _, _, _ => .nil
  | _ + 1, _, _, .nil => .nil
  | n + 1, _, _, .cons h t => .cons h (Paired.tk n t)
theorem Paired.dp {α β : Type} {F : α → β → Prop} : ∀ (n : Nat) {a : List α} {b : List β}, Paired F a b → Paired F (a.drop n) (b.drop n)
  | 0, _, _, h => h
  | _ + 1, _, _, .nil => .nil
  | n + 1, _, _, .cons _ t => Paired.dp n t
theorem ts_kp {S : Addr → Prop} {H H2 : Hp} (k : Kp S H H2) (f : ∀ b, S b → H b = none ∨ ∃ xs, H b = some (.lst xs)) : TSm H H2 := by
  refine ⟨fun b o e => k b _ (fun z => ?_) e, fun b o u e => k b _ (fun z => ?_) e⟩
  · rcases f b z with q | ⟨xs, q⟩ <;> rw [q] at e <;> cases e
  · rcases f b z with q | ⟨xs, q⟩ <;> rw [q] at e <;> cases e
def insAt (i : Nat) (e : End) (es : List End) : List End := es.take i ++ [e] ++ es.drop i
theorem ins_perm (i : Nat) (e : End) (es : List End) : (insAt i e es).Perm (e :: es) := by
  unfold insAt
  have h := List.take_append_drop i es
  rw [List.append_assoc]
  conv => rhs; rw [← h]
  exact List.perm_middle
def setE (E : Int → List End) (n : Int) (es : List End) : Int → List End := fun m => if m = n then es else E m
theorem setE_same {E : Int → List End} {n : Int} {es : List End} : setE E n es n = es := if_pos rfl
theorem setE_ne {E : Int → List End} {n m : Int} {es : List End} (h : m ≠ n) : setE E n es m = E m := if_neg h
theorem EndsAt.kp {H H2 : Hp} {S : Addr → Prop} {D : Addr} {A : Int → Addr} {ns : List Int} {E : Int → List End} (W : EndsAt H D A ns E) (k : Kp S H H2) (ts : TSm H H2) (n1 : ¬ S D) (n2 : ∀ n ∈ ns, ¬ S (A n)) : EndsAt H2 D A ns E :=
  ⟨k _ _ n1 W.dict, fun n hn => let ⟨vs, e, p⟩ := W.at_ n hn; ⟨vs, k _ _ (n2 n hn) e, p.ts ts⟩, W.inj⟩
theorem EndsAt.same {H H2 : Hp} {D : Addr} {A : Int → Addr} {ns : List Int} {E : Int → List End} (W : EndsAt H D A ns E) (s : Same H H2) : EndsAt H2 D A ns E :=
  W.kp (S := fun _ => False) (kp_same s) (ts_same s) id fun _ _ => id
theorem EndsAt.ne {H : Hp} {D : Addr} {A : Int → Addr} {ns : List Int} {E : Int → List End} (W : EndsAt H D A ns E) {b : Addr} {xs : List V} (h : H b = some (.lst xs)) : D ≠ b := fun z => by
  have := W.dict
  rw [z, h] at this
  cases this
theorem EndsAt.pool {H H2 : Hp} {l : Addr} {xs : List V} {D : Addr} {A : Int → Addr} {ns : List Int} {E : Int → List End} (W : EndsAt H D A ns E) (hl : H l = some (.lst xs)) (na : ∀ n ∈ ns, A n ≠ l) (s : Same (hide l H) (hide l H2)) : EndsAt H2 D A ns E :=
  W.kp (kp_hide s) (ts_mut hl s) (W.ne hl) na
theorem EndsAt.ins {H : Hp} {D p : Addr} {A : Int → Addr} {ns : List Int} {E : Int → List End} (W : EndsAt H D A ns E) {n : Int} (hn : n ∈ ns) {vs : List V} (hv : H (A n) = some (.lst vs)) {e : End} (he : H p = some (.tup [.int e.1, .int e.2.1, .bl e.2.2])) (i : Nat) :
    EndsAt (upd H (A n) (.lst (vs.take i ++ [.ref p] ++ vs.drop i))) D A ns (setE E n (insAt i e (E n))) := by
  have k : Kp (· = A n) H (upd H (A n) (.lst (vs.take i ++ [.ref p] ++ vs.drop i))) := fun b o nb e => by
    rw [upd_ne nb]; exact e
  have ts := ts_kp k fun b z => .inr ⟨vs, by rw [z]; exact hv⟩
  refine ⟨k _ _ (W.ne hv) W.dict, fun m hm => ?_, W.inj⟩
  by_cases hmn : m = n
  · subst hmn
    refine ⟨_, upd_same, ?_⟩
    obtain ⟨vs', e', pr⟩ := W.at_ m hm
    rw [hv] at e'
    cases e'
    rw [setE_same]
    have pr' : Paired (EndV (upd H (A m) (.lst (vs.take i ++ [.ref p] ++ vs.drop i)))) vs (E m) := pr.ts ts
    exact Paired.app (Paired.app (Paired.tk i pr') (.cons ⟨p, rfl, ts.t _ _ he⟩ .nil)) (Paired.dp i pr')
  · obtain ⟨vs', e', pr⟩ := W.at_ m hm
    rw [setE_ne hmn]
    exact ⟨vs', k _ _ (fun z => hmn (W.inj m hm n hn z)) e', pr.ts ts⟩
section
variable {X : Cx}
def rListU (K : PySem.W.Frag) : List V → Hp → VK → Prop := fun xs H Q => (∃ p ys, xs = [.ref p] ∧ (SqL K H p ys ∨ SqT K H p ys) ∧ Al (.lst ys) H Q) ∨ (∃ (a : Addr) (kvs : List (Key × V)), xs = [.ref a] ∧ Rd H a (.dK kvs) ∧ Al (.lst (kvs.map fun kv => kV kv.1)) H Q)
theorem uList (hc : X.calm = true) : CallR X (.type "list") (rListU X.K) := CallR.or call_list_of (call_listD hc)
end
theorem j_listL {K : PySem.W.Frag} {H : Hp} {Q : VK} {p : Addr} {ys : List V} (h : SqL K H p ys) (q : Al (.lst ys) H Q) : rListU K [.ref p] H Q := .inl ⟨p, ys, rfl, .inl h, q⟩
theorem tyV_lst {K : PySem.W.Frag} {H : Hp} {p : Addr} {xs : List V} (h : H p = some (.lst xs)) : tyV K "list" (.ref p) H := .inl ⟨rfl, xs, .of h⟩
theorem nott {b : Bool} (h : (!b) = true) : b = false := by cases b; rfl; exact absurd h Bool.false_ne_true
theorem notf {b : Bool} (h : ¬ (!b) = true) : b = true := by cases b; exact absurd rfl h; rfl
theorem lineB {n : Nat} (h : n ≤ 100000) : n ≤ sizeLine := by rw [sizeLine_eq]; omega
theorem j_dnew {σ : L2.St} {H : Hp} {Q : VK} (q : Al (.dK []) H Q) : tDNewK σ H Q := q
theorem j_lenR {K : PySem.W.Frag} {H : Hp} {Q : VK} {d : Addr} {kvs : List (Key × V)} (h : Rd H d (.dK kvs)) (q : Q (.int kvs.length) H) : rLenR K [.ref d] H Q := .inr ⟨d, kvs, rfl, h, q⟩
theorem rd_same {H H2 : Hp} {d : Addr} {u : HO} (s : Same H H2) (h : Rd H d u) : Rd H2 d u := by
  rcases h with h | ⟨o, h⟩
  · exact .inl (s _ _ h)
  · exact .inr ⟨o, s _ _ h⟩
/-- a read-only block over a dict -/
theorem j_lockR {σ : L2.St} {H : Hp} {D : Ends} {t : TS} {d : Addr} {u : HO} (h : Rd H d u) (mu : Mut (some u))
    (q : ∀ o H1 D1, H1 d = some (.frz o u) → (∀ b, b ≠ d → H1 b = H b) → (∀ σ' H', Same H1 H' → (∀ H2, Same H H2 → (∀ b, b ≠ d → H2 b = H' b) → Rd H2 d u → D.nx σ' H2) → D1.nx σ' H') →
      (∀ v H', Same H1 H' → (∀ H2, Same H H2 → (∀ b, b ≠ d → H2 b = H' b) → Rd H2 d u → D.rt v H2) → D1.rt v H') → t D1 σ H1) : tLockM t D σ H := by
  rcases h with h | ⟨o, h⟩
  · refine .inr ⟨d, u, h, mu, fun od => q od _ _ upd_same (fun b hb => upd_ne hb) (fun σ' H' s k => ?_) (fun v H' s k => ?_)⟩
    · exact ⟨s _ _ upd_same, k _ (unlock_same h s) (fun b hb => upd_ne hb) (.inl upd_same)⟩
    · exact ⟨s _ _ upd_same, k _ (unlock_same h s) (fun b hb => upd_ne hb) (.inl upd_same)⟩
  · exact .inl ⟨⟨d, o, u, h⟩, q o H D h (fun _ _ => rfl) (fun σ' H' s k => k H' s (fun _ _ => rfl) (.inr ⟨o, s _ _ h⟩)) (fun v H' s k => k H' s (fun _ _ => rfl) (.inr ⟨o, s _ _ h⟩))⟩
/-- as WebAt, read alone -/
structure WebR (H : Hp) (d : Addr) (ns : List Int) (B : Int → Int) (E : Int → List End) (f : Int → V) : Prop where
  dict : Rd H d (.dK (kvI ns f))
  at_ : ∀ n ∈ ns, ∃ t l vs, f n = .ref t ∧ H t = some (.tup [.int (B n), .ref l]) ∧ H l = some (.lst vs) ∧ EndVs H vs (E n)
theorem WebAt.r {H : Hp} {d : Addr} {ns : List Int} {B : Int → Int} {E : Int → List End} {f : Int → V} (h : WebAt H d ns B E f) : WebR H d ns B E f := ⟨.inl h.dict, h.at_⟩
theorem ats_of {H H2 : Hp} {ns : List Int} {B : Int → Int} {E : Int → List End} {f : Int → V} (t : ∀ b xs, H b = some (.tup xs) → H2 b = some (.tup xs)) (l : ∀ b xs, H b = some (.lst xs) → H2 b = some (.lst xs))
    (h : ∀ n ∈ ns, ∃ t l vs, f n = .ref t ∧ H t = some (.tup [.int (B n), .ref l]) ∧ H l = some (.lst vs) ∧ EndVs H vs (E n)) : ∀ n ∈ ns, ∃ t l vs, f n = .ref t ∧ H2 t = some (.tup [.int (B n), .ref l]) ∧ H2 l = some (.lst vs) ∧ EndVs H2 vs (E n) := fun n hn => by
  obtain ⟨a, b, vs, e, x, y, z⟩ := h n hn
  exact ⟨a, b, vs, e, t _ _ x, l _ _ y, z.mono fun v e ⟨p, ep, hp⟩ => ⟨p, ep, t _ _ hp⟩⟩
theorem WebAt.same {H H2 : Hp} {d : Addr} {ns : List Int} {B : Int → Int} {E : Int → List End} {f : Int → V} (h : WebAt H d ns B E f) (s : Same H H2) : WebAt H2 d ns B E f :=
  ⟨s _ _ h.dict, ats_of (fun _ _ e => s _ _ e) (fun _ _ e => s _ _ e) h.at_⟩
theorem WebR.same {H H2 : Hp} {d : Addr} {ns : List Int} {B : Int → Int} {E : Int → List End} {f : Int → V} (h : WebR H d ns B E f) (s : Same H H2) : WebR H2 d ns B E f :=
  ⟨rd_same s h.dict, ats_of (fun _ _ e => s _ _ e) (fun _ _ e => s _ _ e) h.at_⟩
/-- the web while it is locked -/
theorem WebR.lock {H H1 : Hp} {d : Addr} {o : Obj} {ns : List Int} {B : Int → Int} {E : Int → List End} {f : Int → V} (h : WebR H d ns B E f) (e : H1 d = some (.frz o (.dK (kvI ns f)))) (s : ∀ b, b ≠ d → H1 b = H b) : WebR H1 d ns B E f := by
  have nt : ∀ b xs, H b = some (.tup xs) → H1 b = some (.tup xs) := fun b xs hb => by
    rw [s b (fun z => ?_)]; exact hb
    rw [z] at hb
    rcases h.dict with q | ⟨_, q⟩ <;> rw [q] at hb <;> cases hb
  have nl : ∀ b xs, H b = some (.lst xs) → H1 b = some (.lst xs) := fun b xs hb => by
    rw [s b (fun z => ?_)]; exact hb
    rw [z] at hb
    rcases h.dict with q | ⟨_, q⟩ <;> rw [q] at hb <;> cases hb
  exact ⟨.inr ⟨o, e⟩, ats_of nt nl h.at_⟩
theorem rd_lock {H H1 : Hp} {d m : Addr} {u w : HO} {o : Obj} (h : Rd H m u) (e : H1 d = some (.frz o w)) (hd : Rd H d w) (s : ∀ b, b ≠ d → H1 b = H b) (du : ∃ k, u = .dK k) (dw : ∃ k, w = .dK k) : Rd H1 m u := by
  by_cases z : m = d
  · subst z
    obtain ⟨k, rfl⟩ := du
    obtain ⟨k2, rfl⟩ := dw
    have : k = k2 := by
      rcases h with h | ⟨_, h⟩ <;> rcases hd with q | ⟨_, q⟩ <;> rw [h] at q <;> cases q <;> rfl
    subst this
    exact .inr ⟨o, e⟩
  · rcases h with h | ⟨o2, h⟩
    · exact .inl (by rw [s m z]; exact h)
    · exact .inr ⟨o2, by rw [s m z]; exact h⟩

/-! ### ties put in: no program here -/
def hasE (E : Int → List End) (n o : Int) : Prop := ∃ e ∈ E n, e.1 = o
theorem good_link {ns : List Int} {E E2 : Int → List End} (G : GoodE ns E) {n o : Int} (hn : n ∈ ns) (ho : o ∈ ns) (hno : n ≠ o) (free : ¬ hasE E n o) {p : Int} {t : Bool} (p1 : 1 ≤ p) (p2 : p ≤ 60)
    (same : ∀ m, m ≠ n → m ≠ o → E2 m = E m) (e1 : (E2 n).Perm ((o, p, t) :: E n)) (e2 : (E2 o).Perm ((n, p, t) :: E o)) : GoodE ns E2 := by
  have free2 : ¬ hasE E o n := fun ⟨e, he, hq⟩ => free ⟨(o, e.2.1, e.2.2), hq ▸ G.sym o ho e he, rfl⟩
  have mem : ∀ m e, e ∈ E2 m ↔ e ∈ E m ∨ (m = n ∧ e = (o, p, t)) ∨ (m = o ∧ e = (n, p, t)) := fun m e => by
    by_cases hm : m = n
    · subst hm
      rw [e1.mem_iff, List.mem_cons]
      constructor
      · rintro (h | h)
        · exact .inr (.inl ⟨rfl, h⟩)
        · exact .inl h
      · rintro (h | ⟨_, h⟩ | ⟨h, _⟩)
        · exact .inr h
        · exact .inl h
        · exact absurd h hno
    · by_cases hm2 : m = o
      · subst hm2
        rw [e2.mem_iff, List.mem_cons]
        constructor
        · rintro (h | h)
          · exact .inr (.inr ⟨rfl, h⟩)
          · exact .inl h
        · rintro (h | ⟨h, _⟩ | ⟨_, h⟩)
          · exact .inr h
          · exact absurd h hm
          · exact .inl h
      · rw [same m hm hm2]
        constructor
        · exact .inl
        · rintro (h | ⟨h, _⟩ | ⟨h, _⟩)
          · exact h
          · exact absurd h hm
          · exact absurd h hm2
  refine ⟨fun m hm e he => ?_, fun m hm e he => ?_, fun m hm => ?_⟩
  · rcases (mem m e).mp he with h | ⟨rfl, rfl⟩ | ⟨rfl, rfl⟩
    · exact G.inn m hm e h
    · exact ⟨ho, Ne.symm hno, p1, p2⟩
    · exact ⟨hn, hno, p1, p2⟩
  · rcases (mem m e).mp he with h | ⟨rfl, rfl⟩ | ⟨rfl, rfl⟩
    · exact (mem _ _).mpr (.inl (G.sym m hm e h))
    · exact (mem _ _).mpr (.inr (.inr ⟨rfl, rfl⟩))
    · exact (mem _ _).mpr (.inr (.inl ⟨rfl, rfl⟩))
  · by_cases h1 : m = n
    · subst h1
      rw [(e1.map (·.1)).nodup_iff, List.map_cons, List.nodup_cons]
      exact ⟨fun z => free (by obtain ⟨e, h1, h2⟩ := List.mem_map.mp z; exact ⟨e, h1, h2⟩), G.one _ hm⟩
    · by_cases h2 : m = o
      · subst h2
        rw [(e2.map (·.1)).nodup_iff, List.map_cons, List.nodup_cons]
        exact ⟨fun z => free2 (by obtain ⟨e, h1, h2⟩ := List.mem_map.mp z; exact ⟨e, h1, h2⟩), G.one _ hm⟩
      · rw [same m h1 h2]
        exact G.one m hm
theorem has_link {E E2 : Int → List End} {n o : Int} {p : Int} {t : Bool} (same : ∀ m, m ≠ n → m ≠ o → E2 m = E m) (e1 : (E2 n).Perm ((o, p, t) :: E n)) (e2 : (E2 o).Perm ((n, p, t) :: E o)) {m k : Int} (h : hasE E m k) : hasE E2 m k := by
  obtain ⟨e, he, hk⟩ := h
  by_cases h1 : m = n
  · subst h1; exact ⟨e, e1.mem_iff.mpr (List.mem_cons_of_mem _ he), hk⟩
  · by_cases h2 : m = o
    · subst h2; exact ⟨e, e2.mem_iff.mpr (List.mem_cons_of_mem _ he), hk⟩
    · exact ⟨e, by rw [same m h1 h2]; exact he, hk⟩
def Conn (ns : List Int) (E : Int → List End) (k : Nat) : Prop := ∀ j n, 1 ≤ j → j < k → ns[j]? = some n → ∃ o ∈ ns.take j, hasE E n o
theorem atI_intsL {l : List Int} {r : Int} {n : Nat} (h0 : 0 ≤ r) (h1 : r < n) (hn : n ≤ l.length) : ∃ (j : Nat) (w : Int), r = (j : Int) ∧ j < n ∧ l[j]? = some w ∧ w ∈ l.take n ∧ atI (l.map V.int) r = some (.int w) := by
  obtain ⟨j, rfl⟩ := Int.eq_ofNat_of_zero_le h0
  have hj : j < l.length := by omega
  refine ⟨j, l[j], rfl, by omega, List.getElem?_eq_getElem hj, ?_, atI_nat (by rw [List.getElem?_map, List.getElem?_eq_getElem hj]; rfl)⟩
  have h2 : j < (l.take n).length := by rw [List.length_take]; omega
  have h3 : (l.take n)[j] = l[j] := List.getElem_take
  rw [← h3]
  exact List.getElem_mem h2
theorem inV_int (x : Int) : ∀ l : List Int, inV (.int x) (l.map V.int) = decide (x ∈ l)
  | [] => rfl
  | y :: l => by
    have ih := inV_int x l
    unfold inV at ih ⊢
    rw [List.map_cons, List.any_cons, ih]
    show ((y == x) || _) = _
    by_cases h : y = x
    · subst h; simp
    · have h1 : (y == x) = false := beq_eq_false_iff_ne.mpr h
      have h2 : ¬ x = y := fun z => h z.symm
      rw [h1, Bool.false_or]
      simp [h2]
theorem flat_ints : ∀ l : List Int, (l.map V.int).all flatV = true
  | [] => rfl
  | _ :: r => by rw [List.map_cons, List.all_cons, flat_ints r]; rfl


theorem j_szAl {xs : List V} {o : HO} {H : Hp} {Q : VK} (h : Nat.ble xs.length 1000 = true) (q : Al o H Q) : xs.length ≤ sizeLine ∧ Al o H Q := ⟨Nat.le_of_lt (small1000 (Nat.le_of_ble_eq_true h)), q⟩
local macro_rules | `(tactic| walk_at "s") => `(tactic| first
  | with_reducible refine j_seq ?_
  | with_reducible refine j_asg ?_
  | ((with_reducible refine' j_gn ?e ?q); (case e => exact rfl))
  | with_reducible refine j_op ?_
  | ((with_reducible refine' j_var ?e ?q); (case e => exact rfl))
  | with_reducible refine j_C ?_
  | with_reducible refine j_cons ?_
  | with_reducible refine j_nil ?_
  | with_reducible refine j_call ?_
  | with_reducible refine j_cb ?_
  | with_reducible refine j_ret ?_
  | with_reducible refine j_ifS ?_
  | with_reducible refine j_test ?_
  | with_reducible refine j_bl ?_
  | with_reducible refine j_tB ?_
  | with_reducible refine j_and ?_
  | with_reducible refine j_or ?_
  | with_reducible refine j_not ?_
  | with_reducible refine iteT ?_
  | with_reducible refine iteF ?_
  | with_reducible refine j_add ?_
  | with_reducible refine j_rI0 ?_
  | ((with_reducible refine j_eq ?e ?q); (case e => exact rfl))
  | ((with_reducible refine j_ne ?e ?q); (case e => exact rfl))
  | with_reducible refine j_tup ?_
  | with_reducible refine j_lst ?_
  | ((with_reducible refine j_szAl ?e ?q); (case e => exact rfl))
  | with_reducible refine j_drop ?_
  | with_reducible refine j_retN ?_
  | with_reducible refine j_next ?_
  | with_reducible refine j_cont ?_
  | with_reducible refine j_brk ?_
  | with_reducible refine j_un ?_
  | with_reducible refine j_neg ?_
  | with_reducible refine j_andV ?_
  | with_reducible refine j_orV ?_
  | with_reducible refine j_notV ?_
  | with_reducible refine j_blV ?_
  | with_reducible refine j_if ?_
  | with_reducible refine j_sl ?_
  | with_reducible refine j_part ?_
  | with_reducible refine j_int ?_
  | with_reducible refine j_nopart ?_
  | with_reducible refine j_m1 ?_
  | with_reducible refine j_m0 ?_
  | with_reducible refine j_strv ?_
  | with_reducible refine j_bm ?_
  | with_reducible refine j_bm0 ?_
  | with_reducible refine j_gc ?_
  | with_reducible refine j_g0 ?_
  | with_reducible refine j_gsub ?_
  | with_reducible refine j_strS ?_
  | with_reducible refine j_intI ?_
  | with_reducible refine j_intB ?_
  | with_reducible refine j_chain ?_
  | with_reducible refine j_for ?_
  | with_reducible refine j_lc ?_
  | with_reducible refine j_iList ?_
  | with_reducible refine j_iTup ?_
  | with_reducible refine j_iEnumS ?_
  | with_reducible refine j_iStr ?_
  | with_reducible refine j_iRng1 ?_
  | with_reducible refine j_iRng2 ?_
  | with_reducible refine j_yes ?_
  | with_reducible refine j_ex1 ?_
  | with_reducible refine j_ex2 ?_
  | with_reducible refine j_ex3 ?_
  | with_reducible refine j_starts ?_
  | with_reducible refine j_isN ?_
  | with_reducible refine j_notN ?_
  | ((with_reducible refine j_ifP ?h ?q); (case h => decide +kernel))
  | ((with_reducible refine j_ifN ?h ?q); (case h => first | decide +kernel | (intro z; have z2 := of_decide_eq_true z; cases z2; done))))
local macro_rules | `(tactic| walk_at "go") => `(tactic| repeat (walk_at "s"))

local macro_rules | `(tactic| walk_at "s") => `(tactic| first
  | with_reducible refine j_dget ?_
  | with_reducible refine j_din ?_
  | with_reducible refine j_dnin ?_
  | with_reducible refine j_dput ?_
  | with_reducible refine j_iKeys ?_
  | with_reducible refine j_iRng3 ?_
  | with_reducible refine j_dnew ?_
  | with_reducible refine j_callS ?_)

def topS (i : Nat) : Stmt := PySem.Challenge.pw_besidesay_k16_whole_seen_by_neighbours_a.main.body.getD i (.Pass ⟨0, 0, 0, 0⟩)
abbrev s_is_mark : Stmt := topS 2
abbrev names_is_mark : List Str := ["thing", "sign"]
abbrev ps_is_mark : List Str := ["thing"]
theorem sc_is_mark : FnScope names_is_mark ps_is_mark (defScope s_is_mark) := ⟨rfl, rfl, rfl, by decide +kernel, rfl, by decide +kernel, by decide +kernel⟩
abbrev s_look_at_marks : Stmt := topS 7
abbrev names_look_at_marks : List Str := ["web", "thing", "name"]
abbrev ps_look_at_marks : List Str := ["web", "thing"]
theorem sc_look_at_marks : FnScope names_look_at_marks ps_look_at_marks (defScope s_look_at_marks) := ⟨rfl, rfl, rfl, by decide +kernel, rfl, by decide +kernel, by decide +kernel⟩
abbrev s_sight_of : Stmt := topS 8
abbrev names_sight_of : List Str := ["thing"]
abbrev ps_sight_of : List Str := ["thing"]
theorem sc_sight_of : FnScope names_sight_of ps_sight_of (defScope s_sight_of) := ⟨rfl, rfl, rfl, by decide +kernel, rfl, by decide +kernel, by decide +kernel⟩
abbrev s_view_of : Stmt := topS 9
abbrev names_view_of : List Str := ["web", "marks", "name", "badge", "ends", "beside", "other", "price", "told"]
abbrev ps_view_of : List Str := ["web", "marks", "name"]
theorem sc_view_of : FnScope names_view_of ps_view_of (defScope s_view_of) := ⟨rfl, rfl, rfl, by decide +kernel, rfl, by decide +kernel, by decide +kernel⟩
abbrev s__law_cell_at : Stmt := topS 11
abbrev names__law_cell_at : List Str := ["_law_script", "_law_k"]
abbrev ps__law_cell_at : List Str := ["_law_script", "_law_k"]
theorem sc__law_cell_at : FnScope names__law_cell_at ps__law_cell_at (defScope s__law_cell_at) := ⟨rfl, rfl, rfl, by decide +kernel, rfl, by decide +kernel, by decide +kernel⟩
abbrev s__law_pool : Stmt := topS 12
abbrev names__law_pool : List Str := ["_law_script", "_law_k", "_law_cell", "_law_seed"]
abbrev ps__law_pool : List Str := ["_law_script", "_law_k"]
theorem sc__law_pool : FnScope names__law_pool ps__law_pool (defScope s__law_pool) := ⟨rfl, rfl, rfl, by decide +kernel, rfl, by decide +kernel, by decide +kernel⟩
abbrev s__law_take : Stmt := topS 13
abbrev names__law_take : List Str := ["_law_pool_here", "_law_many", "_law_found"]
abbrev ps__law_take : List Str := ["_law_pool_here", "_law_many"]
theorem sc__law_take : FnScope names__law_take ps__law_take (defScope s__law_take) := ⟨rfl, rfl, rfl, by decide +kernel, rfl, by decide +kernel, by decide +kernel⟩
abbrev s__law_names : Stmt := topS 14
abbrev names__law_names : List Str := ["_law_pool_here", "_law_many", "_law_start", "_law_step", "_law_k"]
abbrev ps__law_names : List Str := ["_law_pool_here", "_law_many"]
theorem sc__law_names : FnScope names__law_names ps__law_names (defScope s__law_names) := ⟨rfl, rfl, rfl, by decide +kernel, rfl, by decide +kernel, by decide +kernel⟩
abbrev s__law_link : Stmt := topS 15
abbrev names__law_link : List Str := ["_law_ends", "_law_pool_here", "_law_one", "_law_other", "_law_told_here", "_law_price"]
abbrev ps__law_link : List Str := ["_law_ends", "_law_pool_here", "_law_one", "_law_other", "_law_told_here"]
theorem sc__law_link : FnScope names__law_link ps__law_link (defScope s__law_link) := ⟨rfl, rfl, rfl, by decide +kernel, rfl, by decide +kernel, by decide +kernel⟩
abbrev s__law_told : Stmt := topS 16
abbrev names__law_told : List Str := ["_law_pool_here", "_law_way", "_law_amid", "_law_drawn"]
abbrev ps__law_told : List Str := ["_law_pool_here", "_law_way", "_law_amid"]
theorem sc__law_told : FnScope names__law_told ps__law_told (defScope s__law_told) := ⟨rfl, rfl, rfl, by decide +kernel, rfl, by decide +kernel, by decide +kernel⟩
abbrev s__law_web : Stmt := topS 17
abbrev names__law_web : List Str := ["_law_pool_here", "_law_most", "_law_more", "_law_many", "_law_way", "_law_names_here", "_law_ends", "_law_name", "_law_k", "_law_other", "_law_one", "_law_full", "_law_end", "_law_first", "_law_badges", "_law_found", "_law_badge"]
abbrev ps__law_web : List Str := ["_law_pool_here", "_law_most", "_law_more"]
theorem sc__law_web : FnScope names__law_web ps__law_web (defScope s__law_web) := ⟨rfl, rfl, rfl, by decide +kernel, rfl, by decide +kernel, by decide +kernel⟩
abbrev s__law_copy : Stmt := topS 18
abbrev names__law_copy : List Str := ["_law_web_here", "_law_name"]
abbrev ps__law_copy : List Str := ["_law_web_here"]
theorem sc__law_copy : FnScope names__law_copy ps__law_copy (defScope s__law_copy) := ⟨rfl, rfl, rfl, by decide +kernel, rfl, by decide +kernel, by decide +kernel⟩
abbrev s__law_mark : Stmt := topS 19
abbrev names__law_mark : List Str := ["_law_pool_here", "_law_k"]
abbrev ps__law_mark : List Str := ["_law_pool_here"]
theorem sc__law_mark : FnScope names__law_mark ps__law_mark (defScope s__law_mark) := ⟨rfl, rfl, rfl, by decide +kernel, rfl, by decide +kernel, by decide +kernel⟩
abbrev s__law_changed : Stmt := topS 20
abbrev names__law_changed : List Str := ["_law_web_here", "_law_marks", "_law_pool_here", "_law_name", "_law_badge", "_law_ends", "_law_way", "_law_end", "_law_at", "_law_other", "_law_price", "_law_told_here", "_law_there"]
abbrev ps__law_changed : List Str := ["_law_web_here", "_law_marks", "_law_pool_here"]
theorem sc__law_changed : FnScope names__law_changed ps__law_changed (defScope s__law_changed) := ⟨rfl, rfl, rfl, by decide +kernel, rfl, by decide +kernel, by decide +kernel⟩
abbrev s_law : Stmt := topS 21
abbrev names_law : List Str := ["_law_script", "_law_k", "_law_web_here", "_law_pool_here", "_law_marks", "_law_name", "_law_views", "_law_other", "_law_others", "_law_touched"]
abbrev ps_law : List Str := ["_law_script"]
theorem sc_law : FnScope names_law ps_law (defScope s_law) := ⟨rfl, rfl, rfl, by decide +kernel, rfl, by decide +kernel, by decide +kernel⟩
/-- what the top leaves -/
structure Txt (K : PySem.W.Frag) (mg : Str → Option Value) where
  is_mark : Fn K mg "is_mark" s_is_mark ps_is_mark
  look_at_marks : Fn K mg "look_at_marks" s_look_at_marks ps_look_at_marks
  sight_of : Fn K mg "sight_of" s_sight_of ps_sight_of
  view_of : Fn K mg "view_of" s_view_of ps_view_of
  _law_cell_at : Fn K mg "_law_cell_at" s__law_cell_at ps__law_cell_at
  _law_pool : Fn K mg "_law_pool" s__law_pool ps__law_pool
  _law_take : Fn K mg "_law_take" s__law_take ps__law_take
  _law_names : Fn K mg "_law_names" s__law_names ps__law_names
  _law_link : Fn K mg "_law_link" s__law_link ps__law_link
  _law_told : Fn K mg "_law_told" s__law_told ps__law_told
  _law_web : Fn K mg "_law_web" s__law_web ps__law_web
  _law_copy : Fn K mg "_law_copy" s__law_copy ps__law_copy
  _law_mark : Fn K mg "_law_mark" s__law_mark ps__law_mark
  _law_changed : Fn K mg "_law_changed" s__law_changed ps__law_changed
  law : Fn K mg "law" s_law ps_law
  g_LONGEST : Cn mg "LONGEST" (V.int 9000)
  n_bool : mg "bool" = none
  n_dict : mg "dict" = none
  n_int : mg "int" = none
  n_isinstance : mg "isinstance" = none
  n_len : mg "len" = none
  n_list : mg "list" = none
  n_max : mg "max" = none
  n_min : mg "min" = none
  n_range : mg "range" = none
  n_sorted : mg "sorted" = none
  n_str : mg "str" = none
  BesideError : Xa K mg "BesideError"
  NoMarks : Xa K mg "NoMarks"
/-! ### the law's draws: any numbers, for all that is asked -/
/-- a pool stands at l: two whole numbers, neither below 0, the other below 2^31 -/
def PoolAt (H : Hp) (l : Addr) : Prop := ∃ c s : Int, H l = some (.lst [.int c, .int s]) ∧ 0 ≤ c ∧ 0 ≤ s ∧ s < 2147483647
def spCell (K : PySem.W.Frag) : Sp := fun vs H Q _ => ∃ (a : Addr) (ns : List Int) (k : Int), vs = [.ref a, .int k] ∧ SqL K H a (ns.map V.int) ∧ 0 ≤ k ∧ ∀ v : Int, Q (.int v) H
def spPool (K : PySem.W.Frag) : Sp := fun vs H Q _ => ∃ (a : Addr) (ns : List Int) (k : Int), vs = [.ref a, .int k] ∧ SqL K H a (ns.map V.int) ∧ 0 ≤ k ∧ k < 1000 ∧ ∀ l H2, H l = none → Same H H2 → PoolAt H2 l → Q (.ref l) H2
def spTake : Sp := fun vs H Q _ => ∃ (l : Addr) (n : Int), vs = [.ref l, .int n] ∧ PoolAt H l ∧ 0 < n ∧ n < 1073741824 ∧ ∀ (r : Int) (H2 : Hp), 0 ≤ r → r < n → PoolAt H2 l → Same (hide l H) (hide l H2) → Q (.int r) H2
section
variable {P : Program} {w : World} {K : PySem.W.Frag} {mg : Str → Option Value} {base : Heap}
theorem atI_map {ns : List Int} {k : Int} (h0 : 0 ≤ k) (h1 : k < ns.length) : ∃ v : Int, atI (ns.map V.int) k = some (.int v) := by
  obtain ⟨j, rfl⟩ := Int.eq_ofNat_of_zero_le h0
  have hj : j < ns.length := by omega
  refine ⟨ns[j], atI_nat ?_⟩
  rw [List.getElem?_map, List.getElem?_eq_getElem hj]
  rfl
theorem ok__law_cell_at (T : Txt K mg) : FnOk P w K mg base CX0 1 T._law_cell_at.f T._law_cell_at.fd ps__law_cell_at (spCell K) := by
  refine T._law_cell_at.F.ok sc__law_cell_at (fun vs H Q E h => ?_) (fun cdv A outer s H vs Q E hr h => ?_)
  · obtain ⟨a, ns, k, rfl, _⟩ := h
    rfl
  · obtain ⟨a, ns, k, rfl, hS, h0, q⟩ := h
    have hu := hu_of hr
    have hu4 := hr.units
    refine ⟨_, (pss_cons (ps_if (pt_cmpR op_lt (pv 1) (pe_callB (r := rLenU K) uLen (by rfl) T.n_len (by decide +kernel) (pa_cons (pv 0) pa_nil)) (nomark _)) (pss_one (ps_ret (pe_ix (r := rIx K) ix_seq (pv 0) (pv 1) (fun _ _ => rfl)))) pss_nil)
  (pss_one (ps_ret pe_int))), ?_⟩
    walk_at "go"
    refine j_lenL hS ?_
    walk_at "go"
    refine ite2 (fun c => ?_) (fun c => ?_)
    · walk_at "go"
      have c' : k < ns.length := by simpa using c
      obtain ⟨v, e⟩ := atI_map h0 c'
      exact j_ixL hS e (q v)
    · walk_at "go"
      exact q 0
theorem ok__law_pool (T : Txt K mg) : FnOk P w K mg base CX0 2 T._law_pool.f T._law_pool.fd ps__law_pool (spPool K) := by
  have G__law_cell_at := ok__law_cell_at (P := P) (w := w) (base := base) T
  refine T._law_pool.F.ok sc__law_pool (fun vs H Q E h => ?_) (fun cdv A outer s H vs Q E hr h => ?_)
  · obtain ⟨a, ns, k, rfl, _⟩ := h
    rfl
  · obtain ⟨a, ns, k, rfl, hS, h0, h1, q⟩ := h
    have hu := hu_of hr
    have hu4 := hr.units
    refine ⟨_, (pss_cons (ps_set (i := 2) sc__law_pool.nd rfl (Or.inl rfl) (pe_call G__law_cell_at (hr.mono (by omega)) (by rfl) T._law_cell_at.g T._law_cell_at.F.kp T._law_cell_at.b .nil pass0 (pa_cons (pv 0) (pa_cons (pv 1) pa_nil))))
  (pss_cons (ps_set (i := 3) sc__law_pool.nd rfl (Or.inl rfl) (pe_op op_modN (pe_op uMul (pe_op uAdd (pe_op uAdd (pe_op op_modN (pv 2) pe_int) (pe_op uMul (pe_op uMul pe_int (pv 1)) (pv 1))) pe_int) pe_int) pe_int))
  (pss_cons (ps_if (pt_cmpR op_lt (pv 2) (pe_op op_pow pe_int pe_int) (nomark _)) (pss_one (ps_set (i := 2) sc__law_pool.nd rfl (Or.inl rfl) pe_int)) pss_nil)
  (pss_one (ps_ret (pe_lst (pa_cons (pv 2) (pa_cons (pe_op op_modN (pe_op uMul (pv 3) (pv 3)) pe_int) pa_nil)))))))), ?_⟩
    walk_at "go"
    refine ⟨a, ns, k, rfl, hS, h0, fun v => ?_⟩
    walk_at "go"
    refine j_rI (by decide) ?_
    walk_at "go"
    refine j_mulL (by decide) (by decide) ?_
    walk_at "go"
    refine j_mulR (by omega) (by omega) ?_
    walk_at "go"
    refine j_mulR (by decide) (by decide) ?_
    walk_at "go"
    refine j_rI (by decide) ?_
    walk_at "go"
    refine j_rI ⟨by decide, by decide, by decide⟩ ?_
    walk_at "go"
    have f1 : ∀ (m : Int) (v : Int), 0 < m → 0 ≤ v.fmod m ∧ v.fmod m < m := fun m v hm => ⟨Int.fmod_nonneg_of_pos _ hm, Int.fmod_lt_of_pos _ hm⟩
    generalize (v.fmod 2147483629 + 7919 * k * k + 1) * 48271 = z
    obtain ⟨z0, z1⟩ := f1 2147483647 z (by decide)
    generalize z.fmod 2147483647 = y at z0 z1
    have fin : ∀ c : Int, 0 ≤ c → Al (.lst [.int c, .int ((y * y).fmod 2147483629)]) H Q := fun c hc => by
      obtain ⟨y0, y1⟩ := f1 2147483629 (y * y) (by decide)
      exact j_al fun l H2 n s2 e => q l H2 n s2 ⟨c, _, e, hc, y0, by omega⟩
    refine ite2 (fun c => ?_) (fun c => ?_)
    · walk_at "go"
      refine j_mulL (by omega) (by omega) ?_
      walk_at "go"
      refine j_rI (by decide) ?_
      walk_at "go"
      exact fin 0 (by decide)
    · walk_at "go"
      refine j_mulL (by omega) (by omega) ?_
      walk_at "go"
      refine j_rI (by decide) ?_
      walk_at "go"
      have c' : ¬ v < 10 ^ 18 := by simpa using c
      exact fin v (by omega)
theorem ok__law_take (T : Txt K mg) : FnOk P w K mg base CX0 1 T._law_take.f T._law_take.fd ps__law_take spTake := by
  refine T._law_take.F.ok sc__law_take (fun vs H Q E h => ?_) (fun cdv A outer s H vs Q E hr h => ?_)
  · obtain ⟨l, n, rfl, _⟩ := h
    rfl
  · obtain ⟨l, n, rfl, ⟨c, z, hl, c0, z0, z1⟩, n0, n1, q⟩ := h
    have hu := hu_of hr
    have hu4 := hr.units
    have f1 : ∀ (m : Int) (v : Int), 0 < m → 0 ≤ v.fmod m ∧ v.fmod m < m := fun m v hm => ⟨Int.fmod_nonneg_of_pos _ hm, Int.fmod_lt_of_pos _ hm⟩
    refine ⟨_, (pss_cons (ps_if (pt_cmpR op_gt (pe_ix (r := rIx K) ix_seq (pv 0) pe_int (fun _ _ => rfl)) pe_int (nomark _)) (pss_cons (ps_set (i := 2) sc__law_take.nd rfl (Or.inl rfl) (pe_op op_modN (pe_ix (r := rIx K) ix_seq (pv 0) pe_int (fun _ _ => rfl)) (pv 1)))
  (pss_cons (ps_asg (pe_op op_fdivN (pe_ix (r := rIx K) ix_seq (pv 0) pe_int (fun _ _ => rfl)) (pv 1)) (pg_sub (pv 0) pe_int set_list))
  (pss_one (ps_ret (pv 2))))) pss_nil)
  (pss_cons (ps_asg (pe_op op_modN (pe_op uAdd (pe_op uMul (pe_ix (r := rIx K) ix_seq (pv 0) pe_int (fun _ _ => rfl)) pe_int) pe_int) pe_int) (pg_sub (pv 0) pe_int set_list))
  (pss_one (ps_ret (pe_op op_modN (pe_op op_fdivN (pe_op op_modN (pe_op uMul (pe_ix (r := rIx K) ix_seq (pv 0) pe_int (fun _ _ => rfl)) (pe_ix (r := rIx K) ix_seq (pv 0) pe_int (fun _ _ => rfl))) pe_int) pe_int) (pv 1)))))), ?_⟩
    walk_at "go"
    refine j_ixL (.of hl) rfl ?_
    walk_at "go"
    refine ite2 (fun hc => ?_) (fun hc => ?_)
    · walk_at "go"
      refine j_ixL (.of hl) rfl ?_
      walk_at "go"
      refine j_rI (by omega) ?_
      walk_at "go"
      refine j_ixL (.of hl) rfl ?_
      walk_at "go"
      refine j_rI ⟨by omega, by omega⟩ ?_
      walk_at "go"
      refine j_setL hl rfl fun H2 s2 e2 => ?_
      walk_at "go"
      obtain ⟨r0, r1⟩ := f1 n c n0
      refine q _ H2 r0 r1 ⟨_, _, e2, ?_, z0, z1⟩ s2
      rw [Int.fdiv_eq_ediv_of_nonneg _ (by omega)]
      exact Int.ediv_nonneg c0 (by omega)
    · walk_at "go"
      refine j_ixL (.of hl) rfl ?_
      walk_at "go"
      refine j_mulR (by decide) (by decide) ?_
      walk_at "go"
      refine j_rI (by decide) ?_
      walk_at "go"
      refine j_setL hl rfl fun H2 s2 e2 => ?_
      walk_at "go"
      obtain ⟨y0, y1⟩ := f1 2147483647 (z * 48271 + 11) (by decide)
      refine j_ixL (.of e2) rfl ?_
      walk_at "go"
      refine j_ixL (.of e2) rfl ?_
      walk_at "go"
      refine j_mulL (by omega) (by omega) ?_
      walk_at "go"
      refine j_rI (by decide) ?_
      walk_at "go"
      refine j_rI ⟨by decide, by decide⟩ ?_
      walk_at "go"
      refine j_rI (by omega) ?_
      obtain ⟨r0, r1⟩ := f1 n _ n0
      exact q _ H2 r0 r1 ⟨_, _, e2, c0, y0, y1⟩ s2
end

theorem PoolAt.lst {H : Hp} {l : Addr} (h : PoolAt H l) : ∃ xs, H l = some (.lst xs) := let ⟨_, _, e, _⟩ := h; ⟨_, e⟩
theorem PoolAt.same {H H' : Hp} {l : Addr} (h : PoolAt H l) (s : Same H H') : PoolAt H' l := let ⟨c, z, e, r⟩ := h; ⟨c, z, s _ _ e, r⟩
theorem pool_ne {H : Hp} {l p : Addr} (h : PoolAt H l) (n : H p = none) : p ≠ l := fun e => by
  obtain ⟨xs, q⟩ := h.lst
  rw [e, q] at n
  cases n
/-- what stands elsewhere stays -/
theorem hid_at {H H' : Hp} {l p : Addr} {o : HO} (s : Same (hide l H) (hide l H')) (n : p ≠ l) (h : H p = some o) : H' p = some o := by
  have := s p o (by rw [hide_ne n]; exact h)
  rwa [hide_ne n] at this
theorem atI_strs {l : List Str} {r : Int} (h0 : 0 ≤ r) (h1 : r < l.length) : ∃ w ∈ l, atI (l.map V.str) r = some (.str w) := by
  obtain ⟨j, rfl⟩ := Int.eq_ofNat_of_zero_le h0
  have hj : j < l.length := by omega
  exact ⟨l[j], List.getElem_mem hj, atI_nat (by rw [List.getElem?_map, List.getElem?_eq_getElem hj]; rfl)⟩
theorem atI_ints {l : List Int} {r : Int} (h0 : 0 ≤ r) (h1 : r < l.length) : ∃ w ∈ l, atI (l.map V.int) r = some (.int w) := by
  obtain ⟨j, rfl⟩ := Int.eq_ofNat_of_zero_le h0
  have hj : j < l.length := by omega
  exact ⟨l[j], List.getElem_mem hj, atI_nat (by rw [List.getElem?_map, List.getElem?_eq_getElem hj]; rfl)⟩

/-! ### names, ties, webs drawn -/
theorem odd_dvd {s d : Nat} (hs : s % 2 = 1) (h : 4096 ∣ s * d) : 4096 ∣ d := by
  have c2 : Nat.Coprime 2 s := by
    show Nat.gcd 2 s = 1
    rw [Nat.gcd_rec, hs]
    rfl
  have c : Nat.Coprime (2 ^ 12) s := Nat.Coprime.pow_left 12 c2
  exact Nat.Coprime.dvd_of_dvd_mul_left c h
theorem name_inj {a t : Int} {i j : Nat} (ht : 0 ≤ t) (hij : i < j) (hj : j < 4096) : (a + (1 + 2 * t) * (i : Int)).fmod 4096 ≠ (a + (1 + 2 * t) * (j : Int)).fmod 4096 := fun h => by
  rw [Int.fmod_eq_emod_of_nonneg _ (by decide), Int.fmod_eq_emod_of_nonneg _ (by decide)] at h
  have h2 := Int.emod_emod_of_dvd
  have h3 : ((a + (1 + 2 * t) * (j : Int)) - (a + (1 + 2 * t) * (i : Int))) % 4096 = 0 := by
    exact Int.emod_eq_emod_iff_emod_sub_eq_zero.mp h.symm
  have e : (a + (1 + 2 * t) * (j : Int)) - (a + (1 + 2 * t) * (i : Int)) = (((1 + 2 * t.toNat) * (j - i) : Nat) : Int) := by
    obtain ⟨u, rfl⟩ := Int.eq_ofNat_of_zero_le ht
    rw [Int.toNat_natCast]
    have e2 : ((j - i : Nat) : Int) = (j : Int) - (i : Int) := by omega
    rw [Int.natCast_mul, e2]
    push_cast
    rw [Int.mul_sub]
    omega
  rw [e] at h3
  have h4 : 4096 ∣ (1 + 2 * t.toNat) * (j - i) := by
    have := Int.dvd_of_emod_eq_zero h3
    exact Int.ofNat_dvd.mp this
  have h5 := odd_dvd (by omega) h4
  have := Nat.le_of_dvd (by omega) h5
  omega
def spNames : Sp := fun vs H Q _ => ∃ (l : Addr) (m : Nat), vs = [.ref l, .int m] ∧ PoolAt H l ∧ m ≤ 64 ∧ ∀ (p : Addr) (ns : List Int) (H2 : Hp), PoolAt H2 l → Same (hide l H) (hide l H2) → (hide l H2) p = some (.lst (ns.map V.int)) → ns.length = m → ns.Nodup → (∀ n ∈ ns, 0 ≤ n ∧ n < 4096) → Q (.ref p) H2
def spToldB : Sp := fun vs H Q _ => ∃ (l : Addr) (w : Int) (b : Bool), vs = [.ref l, .int w, .bl b] ∧ PoolAt H l ∧ 0 ≤ w ∧ w < 4 ∧ ∀ (t : Bool) H2, PoolAt H2 l → Same (hide l H) (hide l H2) → Q (.bl t) H2
section
variable {P : Program} {w : World} {K : PySem.W.Frag} {mg : Str → Option Value} {base : Heap}
theorem ok__law_names (T : Txt K mg) : FnOk P w K mg base CX0 2 T._law_names.f T._law_names.fd ps__law_names spNames := by
  have G__law_take := ok__law_take (P := P) (w := w) (base := base) T
  refine T._law_names.F.ok sc__law_names (fun vs H Q E h => ?_) (fun cdv A outer s H vs Q E hr h => ?_)
  · obtain ⟨l, m, rfl, _⟩ := h
    rfl
  obtain ⟨l, m, rfl, hp, hm, q⟩ := h
  have hu := hu_of hr
  have hu4 := hr.units
  have hu65 := hu65_of hr
  refine ⟨_, (pss_cons (ps_set (i := 2) sc__law_names.nd rfl (Or.inr rfl) (pe_call G__law_take (hr.mono (by omega)) (by rfl) T._law_take.g T._law_take.F.kp T._law_take.b .nil pass0 (pa_cons (pv 0) (pa_cons pe_int pa_nil))))
  (pss_cons (ps_set (i := 3) sc__law_names.nd rfl (Or.inr rfl) (pe_op uAdd pe_int (pe_op uMul pe_int (pe_call G__law_take (hr.mono (by omega)) (by rfl) T._law_take.g T._law_take.F.kp T._law_take.b .nil pass0 (pa_cons (pv 0) (pa_cons pe_int pa_nil))))))
  (pss_one (ps_ret (pe_lc (own := [("_law_k", 4)]) rfl sc__law_names.nd (pi_range1 (by rfl) T.n_range (pa_cons (pv 1) pa_nil)) (blkOk_by (own := [("_law_k", 4)]) (N := names__law_names) (sc := defScope s__law_names) (by decide +kernel)) (fun _ _ _ _ _ => (pg_name (i := 4) sc__law_names.nd rfl (Or.inl rfl))) (fun _ _ _ _ _ => pts_nil) (fun _ _ _ _ _ => (pe_op op_modN (pe_op uAdd (pv 2) (pe_op uMul (pv 3) (pv 4))) pe_int))))))), ?_⟩
  walk_at "go"
  refine ⟨l, 4096, rfl, hp, by decide, by decide, fun r1 H1 a1 b1 hp1 s1 => ?_⟩
  walk_at "go"
  refine ⟨l, 2048, rfl, hp1, by decide, by decide, fun r2 H2 a2 b2 hp2 s2 => ?_⟩
  walk_at "go"
  refine j_mulL (by decide) (by decide) ?_
  walk_at "go"
  refine ⟨_, rfl, by omega, by omega, fun Dl hD => ?_⟩
  refine lc_genR (n := ((m : Nat) : Int).toNat) (fun i y _ => y = .int ((r1 + (1 + 2 * r2) * (i : Int)).fmod 4096)) (fun _ => true) hD (by omega) (fun _ _ _ _ _ r => r) (fun i hi => ⟨fun H' C N s3 _ k1 _ => ?_⟩) (fun H' ys s3 eD mm => ?_)
  · walk_at "go"
    refine ⟨rfl, ?_⟩
    walk_at "go"
    refine j_mulL (by omega) (by omega) ?_
    walk_at "go"
    refine j_rI (by decide) ?_
    refine k1 rfl _ H' (Same.refl _) ?_
    rw [show (0 : Int) + (i : Nat) = (i : Int) by omega]
  · have e0 : ((m : Nat) : Int).toNat = m := by omega
    rw [e0] at mm
    obtain ⟨h1, h2⟩ := mm.all
    have ey : ys = ((List.range m).map fun i : Nat => (r1 + (1 + 2 * r2) * (i : Int)).fmod 4096).map V.int := by
      refine List.ext_getElem? fun k => ?_
      rw [List.map_map, List.getElem?_map]
      by_cases hk : k < m
      · rw [List.getElem?_range hk]
        have := h2 k ys[k] (List.getElem?_eq_getElem (by omega))
        rw [List.getElem?_eq_getElem (by omega), this]
        rfl
      · rw [List.getElem?_eq_none (by omega), List.getElem?_eq_none (by rw [List.length_range]; omega)]
        rfl
    rw [ey] at eD
    have np : Dl ≠ l := fun z => by
      obtain ⟨xs, e⟩ := hp2.lst
      rw [← z, hD] at e
      cases e
    have sE : Same (hide l H2) (hide l H') := hide_mono (s3.trans (same_hide _ _))
    refine q Dl _ H' (hp2.same (s3.trans (same_hide _ _))) (s1.trans (s2.trans sE)) (by rw [hide_ne np]; exact eD) (by rw [List.length_map, List.length_range]) ?_ ?_
    · refine List.pairwise_map.mpr (List.Pairwise.imp_of_mem ?_ List.pairwise_lt_range)
      intro i j hi hj hij
      have hj' := List.mem_range.mp hj
      exact name_inj a2 hij (by omega)
    · intro n hn
      obtain ⟨i, _, rfl⟩ := List.mem_map.mp hn
      exact ⟨Int.fmod_nonneg_of_pos _ (by decide), Int.fmod_lt_of_pos _ (by decide)⟩
theorem ok__law_told (T : Txt K mg) : FnOk P w K mg base CX0 2 T._law_told.f T._law_told.fd ps__law_told spToldB := by
  have G__law_take := ok__law_take (P := P) (w := w) (base := base) T
  refine T._law_told.F.ok sc__law_told (fun vs H Q E h => ?_) (fun cdv A outer s H vs Q E hr h => ?_)
  · obtain ⟨l, w, b, rfl, _⟩ := h
    rfl
  obtain ⟨l, w, b, rfl, hp, w0, w1, q⟩ := h
  have hu := hu_of hr
  have hu4 := hr.units
  have hu65 := hu65_of hr
  refine ⟨_, (pss_cons (ps_set (i := 3) sc__law_told.nd rfl (Or.inl rfl) (pe_cmpR (r := rEqU K) (uEq hu4) (pe_call G__law_take (hr.mono (by omega)) (by rfl) T._law_take.g T._law_take.F.kp T._law_take.b .nil pass0 (pa_cons (pv 0) (pa_cons pe_int pa_nil))) pe_int (nomark _)))
  (pss_one (ps_ret (pe_ix (r := rIx K) ix_seq (pe_lst (pa_cons (pv 2) (pa_cons pe_bl (pa_cons pe_bl (pa_cons (pv 3) pa_nil))))) (pv 1) (fun _ _ => rfl))))), ?_⟩
  walk_at "go"
  refine ⟨l, 2, rfl, hp, by decide, by decide, fun r1 H1 a1 b1 hp1 s1 => ?_⟩
  walk_at "go"
  refine j_al fun p2 H2 n2 s2 e2 => ?_
  have ex : ∃ t : Bool, atI [V.bl b, V.bl false, V.bl true, V.bl (decide (V.int r1 = V.int 1))] w = some (.bl t) := by
    have : w = 0 ∨ w = 1 ∨ w = 2 ∨ w = 3 := by omega
    rcases this with rfl | rfl | rfl | rfl <;> exact ⟨_, rfl⟩
  obtain ⟨t, et⟩ := ex
  walk_at "go"
  refine j_ixL (.of e2) et ?_
  exact q t H2 (hp1.same s2) (s1.trans (hide_mono s2))
def spLink : Sp := fun vs H Q _ => ∃ (D l : Addr) (A : Int → Addr) (ns : List Int) (E : Int → List End) (one other : Int) (t : Bool), vs = [.ref D, .ref l, .int one, .int other, .bl t] ∧
  PoolAt H l ∧ EndsAt H D A ns E ∧ (∀ n ∈ ns, A n ≠ l) ∧ one ∈ ns ∧ other ∈ ns ∧ one ≠ other ∧ (E one).length ≤ 1000 ∧ (E other).length ≤ 1000 ∧
  ∀ (price : Int) (E2 : Int → List End) (H2 : Hp), 1 ≤ price → price ≤ 60 → EndsAt H2 D A ns E2 → PoolAt H2 l → Kp (fun b => b = l ∨ b = A one ∨ b = A other) H H2 → (∀ n, n ≠ one → n ≠ other → E2 n = E n) →
    (E2 one).Perm ((other, price, t) :: E one) → (E2 other).Perm ((one, price, t) :: E other) → Q .non H2
theorem ok__law_link (T : Txt K mg) : FnOk P w K mg base CX0 2 T._law_link.f T._law_link.fd ps__law_link spLink := by
  have G__law_take := ok__law_take (P := P) (w := w) (base := base) T
  refine T._law_link.F.ok sc__law_link (fun vs H Q E h => ?_) (fun cdv A outer s H vs Q E hr h => ?_)
  · obtain ⟨D, l, A, ns, E, one, other, t, rfl, _⟩ := h
    rfl
  obtain ⟨D, l, A, ns, E, one, other, t, rfl, hp, W, na, h1, h2, hne, z1, z2, q⟩ := h
  have hu := hu_of hr
  have hu4 := hr.units
  have hu65 := hu65_of hr
  refine ⟨_, (pss_cons (ps_set (i := 5) sc__law_link.nd rfl (Or.inl rfl) (pe_op uAdd pe_int (pe_call G__law_take (hr.mono (by omega)) (by rfl) T._law_take.g T._law_take.F.kp T._law_take.b .nil pass0 (pa_cons (pv 1) (pa_cons (pe_ix (r := rIx K) ix_seq (pe_lst (pa_cons pe_int (pa_cons pe_int pa_nil))) (pe_call G__law_take (hr.mono (by omega)) (by rfl) T._law_take.g T._law_take.F.kp T._law_take.b .nil pass0 (pa_cons (pv 1) (pa_cons pe_int pa_nil))) (fun _ _ => rfl)) pa_nil)))))
  (pss_cons (ps_expr (pe_bmK K rfl PySem.F.plainAttrs_list PySem.F.slot_list_insert PySem.F.type_list_insert mt_insertU (pe_dget hu (pv 0) (pv 2) (fun _ _ => rfl)) (pa_cons (pe_call G__law_take (hr.mono (by omega)) (by rfl) T._law_take.g T._law_take.F.kp T._law_take.b .nil pass0 (pa_cons (pv 1) (pa_cons (pe_op uAdd (pe_callB (r := rLenU K) uLen (by rfl) T.n_len (by decide +kernel) (pa_cons (pe_dget hu (pv 0) (pv 2) (fun _ _ => rfl)) pa_nil)) pe_int) pa_nil))) (pa_cons (pe_tup (pa_cons (pv 3) (pa_cons (pv 5) (pa_cons (pv 4) pa_nil)))) pa_nil))))
  (pss_one (ps_expr (pe_bmK K rfl PySem.F.plainAttrs_list PySem.F.slot_list_insert PySem.F.type_list_insert mt_insertU (pe_dget hu (pv 0) (pv 3) (fun _ _ => rfl)) (pa_cons (pe_call G__law_take (hr.mono (by omega)) (by rfl) T._law_take.g T._law_take.F.kp T._law_take.b .nil pass0 (pa_cons (pv 1) (pa_cons (pe_op uAdd (pe_callB (r := rLenU K) uLen (by rfl) T.n_len (by decide +kernel) (pa_cons (pe_dget hu (pv 0) (pv 3) (fun _ _ => rfl)) pa_nil)) pe_int) pa_nil))) (pa_cons (pe_tup (pa_cons (pv 2) (pa_cons (pv 5) (pa_cons (pv 4) pa_nil)))) pa_nil))))))), ?_⟩
  walk_at "go"
  refine j_al fun p1 H1 n1 s1 e1 => ?_
  have e1 : H1 p1 = some (.lst (List.map V.int [4, 60])) := e1
  have np1 := pool_ne hp n1
  walk_at "go"
  refine ⟨l, 2, rfl, hp.same s1, by decide, by decide, fun r2 H2 a2 b2 hp2 s2 => ?_⟩
  obtain ⟨m, hm, em⟩ := atI_ints (l := [4, 60]) a2 b2
  refine j_ixL (.of (hid_at s2 np1 e1)) em ?_
  have hm2 : m = 4 ∨ m = 60 := by simpa using hm
  walk_at "go"
  refine ⟨l, m, rfl, hp2, by omega, by omega, fun z H3 z0 z9 hp3 s3 => ?_⟩
  have sH : Same (hide l H) (hide l H3) := (hide_mono s1).trans (s2.trans s3)
  obtain ⟨xl, el⟩ := hp.lst
  have W3 := W.pool el na sH
  walk_at "go"
  obtain ⟨v1, f1, g1⟩ := W3.at_ one h1
  have lv1 : v1.length = (E one).length := g1.length
  refine j_dgetI (.inl W3.dict) h1 rfl ⟨tyV_lst f1, ?_⟩
  walk_at "go"
  refine j_dgetI (.inl W3.dict) h1 rfl ?_
  walk_at "go"
  refine j_lenL (.of f1) ?_
  walk_at "go"
  refine ⟨l, _, rfl, hp3, by omega, by omega, fun r4 H4 a4 b4 hp4 s4 => ?_⟩
  walk_at "go"
  refine j_al fun p5 H5 n5 s5 e5 => ?_
  obtain ⟨x3, l3⟩ := hp3.lst
  obtain ⟨x4, l4⟩ := hp4.lst
  have W5 := (W3.pool l3 na s4).same s5
  have f5 : H5 (A one) = some (.lst v1) := s5 _ _ (hid_at s4 (na one h1) f1)
  walk_at "go"
  refine j_insert f5 (by rw [sizeLine_eq]; omega) (by omega) (by omega) ?_
  have W6 := W5.ins h1 f5 (e := (other, 1 + z, t)) e5 r4.toNat
  have hp5 := hp4.same s5
  obtain ⟨x5, l5⟩ := hp5.lst
  have hp6 : PoolAt (upd H5 (A one) (.lst (v1.take r4.toNat ++ [.ref p5] ++ v1.drop r4.toNat))) l := by
    obtain ⟨c, sd, e, r⟩ := hp5
    exact ⟨c, sd, by rw [upd_ne (Ne.symm (na one h1))]; exact e, r⟩
  have k6 : Kp (fun b => b = l ∨ b = A one ∨ b = A other) H (upd H5 (A one) (.lst (v1.take r4.toNat ++ [.ref p5] ++ v1.drop r4.toNat))) := by
    refine Kp.tr ((kp_hide (sH.trans (s4.trans (hide_mono s5)))).wide fun b e => .inl e) ?_
    intro b o nb e
    rw [upd_ne (fun z => nb (.inr (.inl z)))]
    exact e
  generalize upd H5 (A one) (.lst (v1.take r4.toNat ++ [.ref p5] ++ v1.drop r4.toNat)) = H6 at W6 hp6 k6
  walk_at "go"
  obtain ⟨v2, f2, g2⟩ := W6.at_ other h2
  rw [setE_ne (Ne.symm hne)] at g2
  have lv2 : v2.length = (E other).length := g2.length
  refine j_dgetI (.inl W6.dict) h2 rfl ⟨tyV_lst f2, ?_⟩
  walk_at "go"
  refine j_dgetI (.inl W6.dict) h2 rfl ?_
  walk_at "go"
  refine j_lenL (.of f2) ?_
  walk_at "go"
  refine ⟨l, _, rfl, hp6, by omega, by omega, fun r7 H7 a7 b7 hp7 s7 => ?_⟩
  walk_at "go"
  refine j_al fun p8 H8 n8 s8 e8 => ?_
  obtain ⟨x6, l6⟩ := hp6.lst
  have W8 := (W6.pool l6 na s7).same s8
  have f8 : H8 (A other) = some (.lst v2) := s8 _ _ (hid_at s7 (na other h2) f2)
  walk_at "go"
  refine j_insert f8 (by rw [sizeLine_eq]; omega) (by omega) (by omega) ?_
  have W9 := W8.ins h2 f8 (e := (one, 1 + z, t)) e8 r7.toNat
  have hp8 := hp7.same s8
  have hp9 : PoolAt (upd H8 (A other) (.lst (v2.take r7.toNat ++ [.ref p8] ++ v2.drop r7.toNat))) l := by
    obtain ⟨c, sd, e, r⟩ := hp8
    exact ⟨c, sd, by rw [upd_ne (Ne.symm (na other h2))]; exact e, r⟩
  have k9 : Kp (fun b => b = l ∨ b = A one ∨ b = A other) H (upd H8 (A other) (.lst (v2.take r7.toNat ++ [.ref p8] ++ v2.drop r7.toNat))) := by
    refine k6.tr (Kp.tr ((kp_hide (s7.trans (hide_mono s8))).wide fun b e => .inl e) ?_)
    intro b o nb e
    rw [upd_ne (fun z => nb (.inr (.inr z)))]
    exact e
  generalize upd H8 (A other) (.lst (v2.take r7.toNat ++ [.ref p8] ++ v2.drop r7.toNat)) = H9 at W9 hp9 k9
  walk_at "go"
  refine q (1 + z) _ H9 (by omega) (by omega) W9 hp9 k9 (fun n m1 m2 => by rw [setE_ne m2, setE_ne m1]) ?_ ?_
  · rw [setE_ne hne, setE_same]
    exact ins_perm _ _ _
  · rw [setE_same, setE_ne (Ne.symm hne)]
    exact ins_perm _ _ _
end

def spWeb : Sp := fun vs H Q _ => ∃ (l : Addr) (most more : Nat), vs = [.ref l, .int most, .int more] ∧ PoolAt H l ∧ 1 ≤ most ∧ most ≤ 63 ∧ more ≤ 63 ∧
  ∀ (d : Addr) (ns : List Int) (B : Int → Int) (E : Int → List End) (f : Int → V) (H2 : Hp), PoolAt H2 l → Same (hide l H) (hide l H2) → WebAt (hide l H2) d ns B E f → GoodE ns E → 1 ≤ ns.length → ns.length ≤ most → ns.Nodup →
    (∀ n ∈ ns, 0 ≤ n ∧ n < 4096) → (∀ n ∈ ns, 0 ≤ B n ∧ B n ≤ 9) → (∀ n ∈ ns, (E n).length ≤ 12) → Conn ns E ns.length → Q (.ref d) H2
section
variable {P : Program} {w : World} {K : PySem.W.Frag} {mg : Str → Option Value} {base : Heap}
/-- the lists laid for the names -/
def LaidAt (H1 : Hp) (Dl : Addr) (ns : List Int) (i : Nat) (H' : Hp) : Prop := Same H1 (hide Dl H') ∧ ∃ (R : Int → Addr) (A : Int → Addr), H' Dl = some (.lst ((ns.take i).map fun n => .ref (R n))) ∧
  ∀ n ∈ ns.take i, (hide Dl H') (R n) = some (.tup [.int n, .ref (A n)]) ∧ (hide Dl H') (A n) = some (.lst []) ∧ H1 (A n) = none ∧ ∀ m ∈ ns.take i, A n = A m → n = m
theorem LaidAt.step {H3 H' H4 H5 : Hp} {Dl pL pT : Addr} {ns : List Int} {i : Nat} {n : Int} (p : LaidAt H3 Dl ns i H') (hn : ns[i]? = some n) (nd : ns.Nodup) (h64 : ns.length ≤ 64) (n4 : H' pL = none) (s4 : Same H' H4) (e4 : H4 pL = some (.lst []))
    (s5 : Same H4 H5) (e5 : H5 pT = some (.tup [.int n, .ref pL])) : ∃ acc, H5 Dl = some (.lst acc) ∧ acc.length < sizeLine ∧ LaidAt H3 Dl ns (i + 1) (upd H5 Dl (.lst (acc ++ [.ref pT]))) := by
  obtain ⟨t1, R, A, eD, at_⟩ := p
  have e3 : H3 pL = none := by
    cases e : H3 pL with
    | none => rfl
    | some o =>
      have := same_hide _ _ _ _ (t1 _ _ e)
      rw [n4] at this
      cases this
  have hil : i < ns.length := (List.getElem?_eq_some_iff.mp hn).1
  have tk : ns.take (i + 1) = ns.take i ++ [n] := by rw [List.take_add_one, hn]; rfl
  have fresh : n ∉ ns.take i := fun z => by
    have h2 : (ns.take (i + 1)).Nodup := nd.sublist (List.take_sublist _ _)
    rw [tk] at h2
    exact (List.nodup_append.mp h2).2.2 n z n (by simp) rfl
  have d1 : pL ≠ Dl := fun z => by rw [z, eD] at n4; cases n4
  have d2 : pT ≠ Dl := fun z => by
    have := s5 _ _ (s4 _ _ eD)
    rw [← z, e5] at this
    cases this
  have sh : Same (hide Dl H') (hide Dl (upd H5 Dl (.lst ((ns.take i).map (fun n => V.ref (R n)) ++ [.ref pT])))) := (hide_mono (s4.trans s5)).trans hide_upd
  refine ⟨_, s5 _ _ (s4 _ _ eD), by rw [List.length_map, List.length_take, sizeLine_eq]; omega, t1.trans sh, fun k => if k = n then pT else R k, fun k => if k = n then pL else A k, ?_, ?_⟩
  · rw [upd_same, tk, List.map_append]
    congr 3
    · refine List.map_congr_left fun k hk => ?_
      have e : k ≠ n := fun z => fresh (z ▸ hk)
      show V.ref (R k) = V.ref (if k = n then pT else R k)
      rw [if_neg e]
    · show [V.ref pT] = [V.ref (if n = n then pT else R n)]
      rw [if_pos rfl]
  · intro k hk
    dsimp only
    rw [tk] at hk
    rcases List.mem_append.mp hk with hk | hk
    · have kn : k ≠ n := fun z => fresh (z ▸ hk)
      obtain ⟨x1, x2, x3, x4⟩ := at_ k hk
      rw [if_neg kn, if_neg kn]
      refine ⟨sh _ _ x1, sh _ _ x2, x3, fun m hm => ?_⟩
      rw [tk] at hm
      rcases List.mem_append.mp hm with hm | hm
      · have mn : m ≠ n := fun z => fresh (z ▸ hm)
        rw [if_neg mn]
        exact x4 m hm
      · have : m = n := by simpa using hm
        subst this
        rw [if_pos rfl]
        intro z
        have := same_hide _ _ _ _ x2
        rw [z, n4] at this
        cases this
    · have : k = n := by simpa using hk
      subst this
      rw [if_pos rfl, if_pos rfl]
      have u1 : ∀ b, b ≠ Dl → hide Dl (upd H5 Dl (.lst ((ns.take i).map (fun n => V.ref (R n)) ++ [.ref pT]))) b = H5 b := fun b hb => by rw [hide_ne hb, upd_ne hb]
      refine ⟨by rw [u1 _ d2]; exact e5, by rw [u1 _ d1]; exact s5 _ _ e4, e3, fun m hm => ?_⟩
      rw [tk] at hm
      rcases List.mem_append.mp hm with hm | hm
      · have mn : m ≠ k := fun z => fresh (z ▸ hm)
        rw [if_neg mn]
        intro z
        obtain ⟨_, x2, _⟩ := at_ m hm
        have := same_hide _ _ _ _ x2
        rw [← z, n4] at this
        cases this
      · have : m = k := by simpa using hm
        exact fun _ => this.symm
structure PhB (H3 H' : Hp) (l D : Addr) (A : Int → Addr) (ns : List Int) (E : Int → List End) (k : Nat) : Prop where
  W : EndsAt H' D A ns E
  hp : PoolAt H' l
  kp : Kp (· = l) H3 H'
  G : GoodE ns E
  nil : ∀ n ∈ ns.drop k, E n = []
  len : ∀ n ∈ ns, (E n).length ≤ 11
  last : ∀ n, ns[k - 1]? = some n → (E n).length ≤ 1
  conn : Conn ns E k
theorem PhB.step {H3 H' H8 : Hp} {l D : Addr} {A : Int → Addr} {ns : List Int} {E E2 : Int → List End} {k : Nat} (p : PhB H3 H' l D A ns E k) (fr : ∀ n ∈ ns, H3 (A n) = none) (nd : ns.Nodup) {n o : Int} (hk1 : 1 ≤ k) (hn : ns[k]? = some n) (ho : o ∈ ns.take k) (lo : (E o).length ≤ 10)
    {price : Int} {t : Bool} (p1 : 1 ≤ price) (p2 : price ≤ 60) (W8 : EndsAt H8 D A ns E2) (hp8 : PoolAt H8 l) (k8 : Kp (fun b => b = l ∨ b = A n ∨ b = A o) H' H8) (same : ∀ m, m ≠ n → m ≠ o → E2 m = E m)
    (e1 : (E2 n).Perm ((o, price, t) :: E n)) (e2 : (E2 o).Perm ((n, price, t) :: E o)) : PhB H3 H8 l D A ns E2 (k + 1) := by
  have hnm : n ∈ ns := List.mem_of_getElem? hn
  have hom : o ∈ ns := List.mem_of_mem_take ho
  have hnd : n ∈ ns.drop k := by
    have hlt := (List.getElem?_eq_some_iff.mp hn).1
    rw [List.drop_eq_getElem_cons hlt, (List.getElem?_eq_some_iff.mp hn).2]
    exact List.mem_cons_self
  have disj : ∀ x, x ∈ ns.take k → x ∈ ns.drop k → False := fun x h1 h2 => by
    have := nd
    rw [← List.take_append_drop k ns] at this
    exact (List.nodup_append.mp this).2.2 x h1 x h2 rfl
  have hno : n ≠ o := fun z => disj o ho (z ▸ hnd)
  have en := p.nil n hnd
  have free : ¬ hasE E n o := fun ⟨e, he, _⟩ => by rw [en] at he; cases he
  have l1 : (E2 n).length = 1 := by rw [e1.length_eq, en]; rfl
  have l2 : (E2 o).length = (E o).length + 1 := e2.length_eq
  refine ⟨W8, hp8, p.kp.trans k8 (fun b hb => ?_) (fun b hb => .inl hb), good_link p.G hnm hom hno free p1 p2 same e1 e2, fun x hx => ?_, fun x hx => ?_, fun x hx => ?_, fun j x j1 j2 hj => ?_⟩
  · rcases hb with hb | hb | hb
    · exact .inl hb
    · exact .inr (by rw [hb]; exact fr n hnm)
    · exact .inr (by rw [hb]; exact fr o hom)
  · have hx2 : x ∈ ns.drop k := by
      have : ns.drop (k + 1) = (ns.drop k).drop 1 := by rw [List.drop_drop]
      rw [this] at hx
      exact List.mem_of_mem_drop hx
    have xn : x ≠ n := fun z => by
      have hlt := (List.getElem?_eq_some_iff.mp hn).1
      have h2 : (ns.drop k).Nodup := nd.sublist (List.drop_sublist _ _)
      rw [List.drop_eq_getElem_cons hlt, (List.getElem?_eq_some_iff.mp hn).2, List.nodup_cons] at h2
      exact h2.1 (z ▸ hx)
    have xo : x ≠ o := fun z => disj o ho (z ▸ hx2)
    rw [same x xn xo]
    exact p.nil x hx2
  · by_cases h1 : x = n
    · rw [h1]; omega
    · by_cases h2 : x = o
      · rw [h2]; omega
      · rw [same x h1 h2]; exact p.len x hx
  · rw [show k + 1 - 1 = k from rfl, hn] at hx
    have : n = x := Option.some.inj hx
    rw [← this]; omega
  · by_cases hjk : j = k
    · subst hjk
      rw [hn] at hj
      have : n = x := Option.some.inj hj
      subst this
      exact ⟨o, ho, _, e1.mem_iff.mpr List.mem_cons_self, rfl⟩
    · obtain ⟨u, hu, hh⟩ := p.conn j x j1 (by omega) hj
      exact ⟨u, hu, has_link same e1 e2 hh⟩
structure PhC (H3 H' : Hp) (l D : Addr) (A : Int → Addr) (ns : List Int) (E : Int → List End) : Prop where
  W : EndsAt H' D A ns E
  hp : PoolAt H' l
  kp : Kp (· = l) H3 H'
  G : GoodE ns E
  len : ∀ n ∈ ns, (E n).length ≤ 12
  conn : Conn ns E ns.length
theorem PhC.pool {H3 H' H8 : Hp} {l D : Addr} {A : Int → Addr} {ns : List Int} {E : Int → List End} (p : PhC H3 H' l D A ns E) (na : ∀ n ∈ ns, A n ≠ l) (s : Same (hide l H') (hide l H8)) (hp : PoolAt H8 l) : PhC H3 H8 l D A ns E :=
  let ⟨_, e⟩ := p.hp.lst
  ⟨p.W.pool e na s, hp, p.kp.tr (kp_hide s), p.G, p.len, p.conn⟩
theorem PhC.same {H3 H' H8 : Hp} {l D : Addr} {A : Int → Addr} {ns : List Int} {E : Int → List End} (p : PhC H3 H' l D A ns E) (s : Same H' H8) : PhC H3 H8 l D A ns E :=
  ⟨p.W.same s, p.hp.same s, p.kp.tr (kp_same s), p.G, p.len, p.conn⟩
theorem PhC.step {H3 H' H8 : Hp} {l D : Addr} {A : Int → Addr} {ns : List Int} {E E2 : Int → List End} (p : PhC H3 H' l D A ns E) (fr : ∀ n ∈ ns, H3 (A n) = none) {n o : Int} (hn : n ∈ ns) (ho : o ∈ ns) (hno : n ≠ o) (free : ¬ hasE E n o) (ln : (E n).length ≤ 11) (lo : (E o).length ≤ 11)
    {price : Int} {t : Bool} (p1 : 1 ≤ price) (p2 : price ≤ 60) (W8 : EndsAt H8 D A ns E2) (hp8 : PoolAt H8 l) (k8 : Kp (fun b => b = l ∨ b = A n ∨ b = A o) H' H8) (same : ∀ m, m ≠ n → m ≠ o → E2 m = E m)
    (e1 : (E2 n).Perm ((o, price, t) :: E n)) (e2 : (E2 o).Perm ((n, price, t) :: E o)) : PhC H3 H8 l D A ns E2 := by
  have l1 : (E2 n).length = (E n).length + 1 := e1.length_eq
  have l2 : (E2 o).length = (E o).length + 1 := e2.length_eq
  refine ⟨W8, hp8, p.kp.trans k8 (fun b hb => ?_) (fun b hb => .inl hb), good_link p.G hn ho hno free p1 p2 same e1 e2, fun x hx => ?_, fun j x j1 j2 hj => ?_⟩
  · rcases hb with hb | hb | hb
    · exact .inl hb
    · exact .inr (by rw [hb]; exact fr n hn)
    · exact .inr (by rw [hb]; exact fr o ho)
  · by_cases h1 : x = n
    · rw [h1]; omega
    · by_cases h2 : x = o
      · rw [h2]; omega
      · rw [same x h1 h2]; exact p.len x hx
  · obtain ⟨u, hu, hh⟩ := p.conn j x j1 j2 hj
    exact ⟨u, hu, has_link same e1 e2 hh⟩
theorem Paired.get {α β : Type} {F : α → β → Prop} : ∀ {a : List α} {b : List β}, Paired F a b → ∀ {i : Nat} {x : α}, a[i]? = some x → ∃ y, b[i]? = some y ∧ F x y
  | _, _, .nil, i, x, h => by simp at h
  | _, _, .cons (a := a) (b := b) h t, 0, x, e => ⟨b, rfl, by
      have : a = x := by simpa using e
      rw [← this]; exact h⟩
  | _, _, .cons h t, i + 1, x, e => Paired.get t (i := i) (by simpa using e)
theorem ok__law_web (T : Txt K mg) : FnOk P w K mg base CX0 4 T._law_web.f T._law_web.fd ps__law_web spWeb := by
  have G__law_link := ok__law_link (P := P) (w := w) (base := base) T
  have G__law_names := ok__law_names (P := P) (w := w) (base := base) T
  have G__law_take := ok__law_take (P := P) (w := w) (base := base) T
  have G__law_told := ok__law_told (P := P) (w := w) (base := base) T
  refine T._law_web.F.ok sc__law_web (fun vs H Q E h => ?_) (fun cdv A outer s H vs Q E hr h => ?_)
  · obtain ⟨l, most, more, rfl, _⟩ := h
    rfl
  obtain ⟨l, most, more, rfl, hp, m1, m2, m3, q⟩ := h
  have hu := hu_of hr
  have hu4 := hr.units
  have hu65 := hu65_of hr
  refine ⟨_, (pss_cons (ps_set (i := 3) sc__law_web.nd rfl (Or.inl rfl) (pe_op uAdd pe_int (pe_call G__law_take (hr.mono (by omega)) (by rfl) T._law_take.g T._law_take.F.kp T._law_take.b .nil pass0 (pa_cons (pv 0) (pa_cons (pv 1) pa_nil)))))
  (pss_cons (ps_set (i := 4) sc__law_web.nd rfl (Or.inl rfl) (pe_call G__law_take (hr.mono (by omega)) (by rfl) T._law_take.g T._law_take.F.kp T._law_take.b .nil pass0 (pa_cons (pv 0) (pa_cons pe_int pa_nil))))
  (pss_cons (ps_set (i := 5) sc__law_web.nd rfl (Or.inl rfl) (pe_call G__law_names (hr.mono (by omega)) (by rfl) T._law_names.g T._law_names.F.kp T._law_names.b .nil pass0 (pa_cons (pv 0) (pa_cons (pv 3) pa_nil))))
  (pss_cons (ps_set (i := 6) sc__law_web.nd rfl (Or.inl rfl) (pe_callTy (r := rDictU K) (uDict rfl) (by rfl) T.n_dict (by decide +kernel) (pa_cons (pe_lc (own := [("_law_name", 7)]) rfl sc__law_web.nd (pi_listK K rfl (pv 5)) (blkOk_by (own := [("_law_name", 7)]) (N := names__law_web) (sc := defScope s__law_web) (by decide +kernel)) (fun _ _ _ _ _ => (pg_name (i := 7) sc__law_web.nd rfl (Or.inl rfl))) (fun _ _ _ _ _ => pts_nil) (fun _ _ _ _ _ => (pe_tup (pa_cons (pv 7) (pa_cons (pe_lst pa_nil) pa_nil))))) pa_nil)))
  (pss_cons (ps_for PassesOwn.never rfl (pi_range2 (by rfl) T.n_range (pa_cons pe_int (pa_cons (pv 3) pa_nil))) (pg_name (i := 8) sc__law_web.nd rfl (Or.inl rfl))
  (pss_cons (ps_set (i := 9) sc__law_web.nd rfl (Or.inl rfl) (pe_ix (r := rIx K) ix_seq (pv 5) (pe_call G__law_take (hr.mono (by omega)) (by rfl) T._law_take.g T._law_take.F.kp T._law_take.b .nil pass0 (pa_cons (pv 0) (pa_cons (pv 8) pa_nil))) (fun _ _ => rfl)))
  (pss_cons (ps_if (pt_cmpR op_gt (pe_callB (r := rLenU K) uLen (by rfl) T.n_len (by decide +kernel) (pa_cons (pe_dget hu (pv 6) (pv 9) (fun _ _ => rfl)) pa_nil)) pe_int (nomark _)) (pss_one (ps_set (i := 9) sc__law_web.nd rfl (Or.inl rfl) (pe_ix (r := rIx K) ix_seq (pv 5) (pe_op op_sub (pv 8) pe_int) (fun _ _ => rfl)))) pss_nil)
  (pss_one (ps_expr (pe_call G__law_link (hr.mono (by omega)) (by rfl) T._law_link.g T._law_link.F.kp T._law_link.b .nil pass0 (pa_cons (pv 6) (pa_cons (pv 0) (pa_cons (pe_ix (r := rIx K) ix_seq (pv 5) (pv 8) (fun _ _ => rfl)) (pa_cons (pv 9) (pa_cons (pe_call G__law_told (hr.mono (by omega)) (by rfl) T._law_told.g T._law_told.F.kp T._law_told.b .nil pass0 (pa_cons (pv 0) (pa_cons (pv 4) (pa_cons pe_bl pa_nil)))) pa_nil)))))))))))
  (pss_cons (ps_for PassesOwn.never rfl (pi_range1 (by rfl) T.n_range (pa_cons (pe_call G__law_take (hr.mono (by omega)) (by rfl) T._law_take.g T._law_take.F.kp T._law_take.b .nil pass0 (pa_cons (pv 0) (pa_cons (pe_op uAdd (pv 2) pe_int) pa_nil))) pa_nil)) (pg_name (i := 8) sc__law_web.nd rfl (Or.inl rfl))
  (pss_cons (ps_set (i := 10) sc__law_web.nd rfl (Or.inl rfl) (pe_ix (r := rIx K) ix_seq (pv 5) (pe_call G__law_take (hr.mono (by omega)) (by rfl) T._law_take.g T._law_take.F.kp T._law_take.b .nil pass0 (pa_cons (pv 0) (pa_cons (pv 3) pa_nil))) (fun _ _ => rfl)))
  (pss_cons (ps_set (i := 9) sc__law_web.nd rfl (Or.inl rfl) (pe_ix (r := rIx K) ix_seq (pv 5) (pe_call G__law_take (hr.mono (by omega)) (by rfl) T._law_take.g T._law_take.F.kp T._law_take.b .nil pass0 (pa_cons (pv 0) (pa_cons (pv 3) pa_nil))) (fun _ _ => rfl)))
  (pss_cons (ps_set (i := 11) sc__law_web.nd rfl (Or.inl rfl) (pe_cmpR op_gt (pe_callB (call_max2 rfl) (by rfl) T.n_max (by decide +kernel) (pa_cons (pe_callB (r := rLenU K) uLen (by rfl) T.n_len (by decide +kernel) (pa_cons (pe_dget hu (pv 6) (pv 10) (fun _ _ => rfl)) pa_nil)) (pa_cons (pe_callB (r := rLenU K) uLen (by rfl) T.n_len (by decide +kernel) (pa_cons (pe_dget hu (pv 6) (pv 9) (fun _ _ => rfl)) pa_nil)) pa_nil))) pe_int (nomark _)))
  (pss_one (ps_if (PW.pt (pw_and (pt_cmpR (r := rNeU K) (uNe hu4) (pv 10) (pv 9) (nomark _)) (pw_and (pt_not (pt_val (pv 11))) (pw_and1 (pt_cmpR (r := rNotInU K) (uNotIn hu65) (pv 9) (pe_lc (own := [("_law_end", 12)]) rfl sc__law_web.nd (pi_listK K rfl (pe_dget hu (pv 6) (pv 10) (fun _ _ => rfl))) (blkOk_by (own := [("_law_end", 12)]) (N := names__law_web) (sc := defScope s__law_web) (by decide +kernel)) (fun _ _ _ _ _ => (pg_name (i := 12) sc__law_web.nd rfl (Or.inl rfl))) (fun _ _ _ _ _ => pts_nil) (fun _ _ _ _ _ => (pe_ix (r := rIx K) ix_seq (pv 12) pe_int (fun _ _ => rfl)))) (by rfl)))))) (pss_one (ps_expr (pe_call G__law_link (hr.mono (by omega)) (by rfl) T._law_link.g T._law_link.F.kp T._law_link.b .nil pass0 (pa_cons (pv 6) (pa_cons (pv 0) (pa_cons (pv 10) (pa_cons (pv 9) (pa_cons (pe_call G__law_told (hr.mono (by omega)) (by rfl) T._law_told.g T._law_told.F.kp T._law_told.b .nil pass0 (pa_cons (pv 0) (pa_cons (pv 4) (pa_cons pe_bl pa_nil)))) pa_nil)))))))) pss_nil))))))
  (pss_cons (ps_set (i := 13) sc__law_web.nd rfl (Or.inl rfl) (pe_ix (r := rIx K) ix_seq (pv 5) (pe_call G__law_take (hr.mono (by omega)) (by rfl) T._law_take.g T._law_take.F.kp T._law_take.b .nil pass0 (pa_cons (pv 0) (pa_cons (pv 3) pa_nil))) (fun _ _ => rfl)))
  (pss_cons (ps_set (i := 14) sc__law_web.nd rfl (Or.inl rfl) (pe_call G__law_take (hr.mono (by omega)) (by rfl) T._law_take.g T._law_take.F.kp T._law_take.b .nil pass0 (pa_cons (pv 0) (pa_cons pe_int pa_nil))))
  (pss_cons (ps_set (i := 15) sc__law_web.nd rfl (Or.inl rfl) pe_dnewK)
  (pss_cons (ps_for PassesOwn.never rfl (pi_listK K rfl (pv 5)) (pg_name (i := 7) sc__law_web.nd rfl (Or.inl rfl))
  (pss_cons (ps_set (i := 16) sc__law_web.nd rfl (Or.inl rfl) (pe_ix (r := rIx K) ix_seq (pe_lst (pa_cons (pe_callTy uInt (by rfl) T.n_int (by decide +kernel) (pa_cons (pe_cmpR (r := rEqU K) (uEq hu4) (pv 7) (pv 13) (nomark _)) pa_nil)) (pa_cons (pe_callTy uInt (by rfl) T.n_int (by decide +kernel) (pa_cons (pe_cmpR (r := rEqU K) (uEq hu4) (pv 7) (pv 13) (nomark _)) pa_nil)) (pa_cons (pe_call G__law_take (hr.mono (by omega)) (by rfl) T._law_take.g T._law_take.F.kp T._law_take.b .nil pass0 (pa_cons (pv 0) (pa_cons pe_int pa_nil))) pa_nil)))) (pv 14) (fun _ _ => rfl)))
  (pss_one (ps_dput hu (pv 15) (pv 7) (pe_tup (pa_cons (pv 16) (pa_cons (pe_dget hu (pv 6) (pv 7) (fun _ _ => rfl)) pa_nil))) rfl))))
  (pss_one (ps_ret (pv 15))))))))))))), ?_⟩
  walk_at "go"
  refine ⟨l, most, rfl, hp, by omega, by omega, fun r1 H1 a1 b1 hp1 s1 => ?_⟩
  walk_at "go"
  refine ⟨l, 4, rfl, hp1, by decide, by decide, fun way H2 a2 b2 hp2 s2 => ?_⟩
  walk_at "go"
  obtain ⟨m, em⟩ : ∃ m : Nat, 1 + r1 = (m : Int) := ⟨(1 + r1).toNat, by omega⟩
  rw [em]
  refine ⟨l, m, rfl, hp2, by omega, fun pn ns H3 hp3 s3 en ln nd rng => ?_⟩
  have sH : Same (hide l H) (hide l H3) := s1.trans (s2.trans s3)
  have npl : pn ≠ l := fun z => by rw [z, hide_self] at en; cases en
  have en3 : H3 pn = some (.lst (ns.map V.int)) := by rw [hide_ne npl] at en; exact en
  clear s1 s2 s3 en hp1 hp2
  walk_at "go"
  refine ⟨⟨_, .of en3⟩, fun Dl hD => ?_⟩
  refine lc_list (K := K) (xs := ns.map V.int) (LaidAt H3 Dl ns) ⟨same_to_hide hD (same_new hD), fun _ => 0, fun _ => 0, upd_same, fun n hn => by simp at hn⟩ (fun i H' _ p => (p.1.trans (same_hide _ _)).seq (.of en3)) ?_ ?_
  · rintro i x H' hx ⟨t1, R, A, eD, at_⟩
    obtain ⟨n, hn, rfl⟩ : ∃ n, ns[i]? = some n ∧ x = V.int n := by
      rw [List.getElem?_map] at hx
      cases e : ns[i]? with
      | none => rw [e] at hx; cases hx
      | some n => rw [e] at hx; exact ⟨n, rfl, (Option.some.inj hx).symm⟩
    walk_at "go"
    refine ⟨rfl, ?_⟩
    walk_at "go"
    refine j_al fun pL H4 n4 s4 e4 => ?_
    walk_at "go"
    refine j_al fun pT H5 n5 s5 e5 => ?_
    exact LaidAt.step ⟨t1, R, A, eD, at_⟩ hn nd (by omega) n4 s4 e4 s5 e5
  rw [List.length_map]
  rintro H4 ⟨t1, R, A, eD, at_⟩
  rw [List.take_length] at eD at_
  have s34 : Same H3 H4 := t1.trans (same_hide _ _)
  have at4 : ∀ n ∈ ns, H4 (R n) = some (.tup [.int n, .ref (A n)]) ∧ H4 (A n) = some (.lst []) ∧ H3 (A n) = none ∧ ∀ m ∈ ns, A n = A m → n = m := fun n hn => by
    obtain ⟨x1, x2, x3⟩ := at_ n hn
    exact ⟨same_hide _ _ _ _ x1, same_hide _ _ _ _ x2, x3⟩
  clear at_ t1
  walk_at "go"
  refine j_dictP (ps := ns.map R) (f := fun n => .ref (A n)) nd (by rw [List.map_map]; exact .of eD) ?_ ?_
  · have : ∀ l : List Int, (∀ n ∈ l, n ∈ ns) → Paired (fun p k => SqT K H4 p [V.int k, V.ref (A k)]) (l.map R) l := fun l => by
      induction l with
      | nil => intro _; exact .nil
      | cons a r ih => intro h; exact .cons (.of (at4 a (h a List.mem_cons_self)).1) (ih fun n hn => h n (List.mem_cons_of_mem _ hn))
    exact this ns fun _ h => h
  refine j_al fun D H5 n5 s5 e5 => ?_
  have base5 : Kp (· = l) H3 H5 := kp_same (s34.trans s5)
  have W5 : EndsAt H5 D A ns (fun _ => []) := ⟨e5, fun n hn => ⟨[], s5 _ _ (at4 n hn).2.1, .nil⟩, fun n hn => (at4 n hn).2.2.2⟩
  have hp5 := hp3.same (s34.trans s5)
  have fr : ∀ n ∈ ns, H3 (A n) = none := fun n hn => (at4 n hn).2.2.1
  have frD : H3 D = none := by
    cases e : H3 D with
    | none => rfl
    | some o =>
      have := s34 _ _ e
      rw [n5] at this
      cases this
  clear at4 eD e5 n5 s5 s34
  obtain ⟨xl, el⟩ := hp3.lst
  have na : ∀ n ∈ ns, A n ≠ l := fun n hn z => by
    have := fr n hn
    rw [z, el] at this
    cases this
  have hm : (m : Int) = (ns.length : Int) := by omega
  walk_at "go"
  refine ⟨_, _, rfl, ⟨by omega, by omega, by omega, by omega⟩, ?_⟩
  refine for_range (lo := 1) (n := ((m : Int) - 1).toNat) (fun i σ H' => ∃ y7 y8 y9 y10 y11 y12 y13 y14 y15 y16, σ = [some (.ref l), some (.int most), some (.int more), some (.int m), some (.int way), some (.ref pn), some (.ref D), y7, y8, y9, y10, y11, y12, y13, y14, y15, y16] ∧ ∃ E, PhB H3 H' l D A ns E (1 + i))
    ⟨_, _, _, _, _, _, _, _, _, _, rfl, _, W5, hp5, base5, ⟨fun _ _ _ h => by (try cases h), fun _ _ _ h => by (try cases h), fun _ _ => .nil⟩, fun _ _ => rfl, fun _ _ => Nat.zero_le _, fun _ _ => Nat.zero_le _, fun j n h1 h2 _ => by omega⟩ ?_ ?_
  · rintro i σ H6 hi ⟨y7, y8, y9, y10, y11, y12, y13, y14, y15, y16, rfl, E, PB⟩
    have ek : (1 : Int) + (i : Nat) = ((1 + i : Nat) : Int) := by omega
    rw [ek]
    have hk2 : 1 + i < ns.length := by omega
    walk_at "go"
    refine ⟨l, _, rfl, PB.hp, by omega, by omega, fun r H7 r0 r9 hp7 s7 => ?_⟩
    obtain ⟨j, o, ej, hj, hjo, ho, eo⟩ := atI_intsL (l := ns) (n := 1 + i) r0 r9 (by omega)
    obtain ⟨x6, l6⟩ := PB.hp.lst
    have W7 := PB.W.pool l6 na s7
    have pn7 : H7 pn = some (.lst (ns.map V.int)) := kp_hide s7 _ _ npl (PB.kp _ _ npl en3)
    have PB7 : PhB H3 H7 l D A ns E (1 + i) := ⟨W7, hp7, PB.kp.tr (kp_hide s7), PB.G, PB.nil, PB.len, PB.last, PB.conn⟩
    refine j_ixL (.of pn7) eo ?_
    have hom : o ∈ ns := List.mem_of_mem_take ho
    obtain ⟨vo, fo, go⟩ := W7.at_ o hom
    have lvo : vo.length = (E o).length := go.length
    walk_at "go"
    refine j_dgetI (.inl W7.dict) hom rfl ?_
    walk_at "go"
    refine j_lenL (.of fo) ?_
    walk_at "go"
    obtain ⟨n, hn⟩ : ∃ n, ns[1 + i]? = some n := ⟨_, List.getElem?_eq_getElem hk2⟩
    have ekn : atI (ns.map V.int) ((1 + i : Nat) : Int) = some (.int n) := atI_nat (by rw [List.getElem?_map, hn]; rfl)
    obtain ⟨o', ho', lo', en'⟩ : ∃ o', o' ∈ ns.take (1 + i) ∧ (E o').length ≤ 1 ∧ atI (ns.map V.int) (((1 + i : Nat) : Int) - 1) = some (.int o') := by
      have hil : i < ns.length := by omega
      refine ⟨ns[i], ?_, PB.last _ (by rw [show 1 + i - 1 = i by omega]; exact List.getElem?_eq_getElem hil), ?_⟩
      · have h2 : i < (ns.take (1 + i)).length := by rw [List.length_take]; omega
        have h3 : (ns.take (1 + i))[i] = ns[i] := List.getElem_take
        rw [← h3]
        exact List.getElem_mem h2
      · rw [show (((1 + i : Nat) : Int) - 1) = ((i : Nat) : Int) by omega]
        exact atI_nat (by rw [List.getElem?_map, List.getElem?_eq_getElem hil]; rfl)
    have fin : ∀ u, u ∈ ns.take (1 + i) → (E u).length ≤ 10 → ∀ (t : Bool) (H8 : Hp), PoolAt H8 l → Same (hide l H7) (hide l H8) → ∀ (Qx : VK) (Ex : XK), (∀ H9 E2, PhB H3 H9 l D A ns E2 (1 + (i + 1)) → Qx .non H9) → spLink [.ref D, .ref l, .int n, .int u, .bl t] H8 Qx Ex := fun u hu lu t H8 hp8 s8 Qx Ex qx => by
      obtain ⟨x7, l7⟩ := hp7.lst
      have W8 := W7.pool l7 na s8
      have hnm : n ∈ ns := List.mem_of_getElem? hn
      have PB8 : PhB H3 H8 l D A ns E (1 + i) := ⟨W8, hp8, PB7.kp.tr (kp_hide s8), PB.G, PB.nil, PB.len, PB.last, PB.conn⟩
      have hnu : n ≠ u := fun z => by
        have hlt := (List.getElem?_eq_some_iff.mp hn).1
        have hd : n ∈ ns.drop (1 + i) := by
          rw [List.drop_eq_getElem_cons hlt, (List.getElem?_eq_some_iff.mp hn).2]
          exact List.mem_cons_self
        have := nd
        rw [← List.take_append_drop (1 + i) ns] at this
        exact (List.nodup_append.mp this).2.2 u hu n hd z.symm
      have lnn := PB.len n hnm
      refine ⟨D, l, A, ns, E, n, u, t, rfl, hp8, W8, na, hnm, List.mem_of_mem_take hu, hnu, by omega, by omega, fun price E2 H9 p1 p2 W9 hp9 k9 same e1 e2 => qx H9 E2 ?_⟩
      exact PB8.step fr nd (by omega) hn hu lu p1 p2 W9 hp9 k9 same e1 e2
    refine ite2 (fun c => ?_) (fun c => ?_)
    · walk_at "go"
      refine j_ixL (.of pn7) en' ?_
      walk_at "go"
      refine j_ixL (.of pn7) ekn ?_
      walk_at "go"
      refine ⟨l, way, true, rfl, hp7, a2, b2, fun t H8 hp8 s8 => ?_⟩
      walk_at "go"
      refine fin o' ho' (by omega) t H8 hp8 s8 _ _ fun H9 E2 P9 => ?_
      exact ⟨_, _, _, _, _, _, _, _, _, _, rfl, E2, P9⟩
    · have c' : ¬ (10 : Int) < (vo.length : Nat) := fun z => c (decide_eq_true z)
      walk_at "go"
      refine j_ixL (.of pn7) ekn ?_
      walk_at "go"
      refine ⟨l, way, true, rfl, hp7, a2, b2, fun t H8 hp8 s8 => ?_⟩
      walk_at "go"
      refine fin o ho (by omega) t H8 hp8 s8 _ _ fun H9 E2 P9 => ?_
      exact ⟨_, _, _, _, _, _, _, _, _, _, rfl, E2, P9⟩
  · rintro σ H6 ⟨y7, y8, y9, y10, y11, y12, y13, y14, y15, y16, rfl, E, PB⟩
    have ekk : 1 + ((m : Int) - 1).toNat = ns.length := by omega
    rw [ekk] at PB
    have PC : PhC H3 H6 l D A ns E := ⟨PB.W, PB.hp, PB.kp, PB.G, fun n hn => Nat.le_succ_of_le (PB.len n hn), PB.conn⟩
    clear PB
    have pnAt : ∀ {H' : Hp} {E : Int → List End}, PhC H3 H' l D A ns E → H' pn = some (.lst (ns.map V.int)) := fun p => p.kp _ _ npl en3
    walk_at "go"
    refine ⟨l, _, rfl, PC.hp, by omega, by omega, fun r H7 r0 r9 hp7 s7 => ?_⟩
    have PC7 := PC.pool na s7 hp7
    walk_at "go"
    refine ⟨_, rfl, by omega, by omega, ?_⟩
    refine for_range (lo := 0) (n := r.toNat) (fun i σ H' => ∃ y7 y8 y9 y10 y11 y12 y13 y14 y15 y16, σ = [some (.ref l), some (.int most), some (.int more), some (.int m), some (.int way), some (.ref pn), some (.ref D), y7, y8, y9, y10, y11, y12, y13, y14, y15, y16] ∧ ∃ E, PhC H3 H' l D A ns E)
      ⟨_, _, _, _, _, _, _, _, _, _, rfl, _, PC7⟩ ?_ ?_
    · clear PC7 PC hp7 s7 r0 r9
      clear E
      rintro i σ H8 hi ⟨y7, y8, y9, y10, y11, y12, y13, y14, y15, y16, rfl, E, PC⟩
      walk_at "go"
      refine ⟨l, _, rfl, PC.hp, by omega, by omega, fun r1 H9 r10 r19 hp9 s9 => ?_⟩
      obtain ⟨j1, o1, ej1, hj1, hjo1, ho1, eo1⟩ := atI_intsL (l := ns) (n := m) r10 r19 (by omega)
      have PC9 := PC.pool na s9 hp9
      refine j_ixL (.of (pnAt PC9)) eo1 ?_
      walk_at "go"
      refine ⟨l, _, rfl, hp9, by omega, by omega, fun r2 Ha r20 r29 hpa sa => ?_⟩
      obtain ⟨j2, o2, ej2, hj2, hjo2, ho2, eo2⟩ := atI_intsL (l := ns) (n := m) r20 r29 (by omega)
      have PCa := PC9.pool na sa hpa
      refine j_ixL (.of (pnAt PCa)) eo2 ?_
      have hm1 : o1 ∈ ns := List.mem_of_mem_take ho1
      have hm2 : o2 ∈ ns := List.mem_of_mem_take ho2
      obtain ⟨v1, f1, g1⟩ := PCa.W.at_ o1 hm1
      obtain ⟨v2, f2, g2⟩ := PCa.W.at_ o2 hm2
      have lv1 : v1.length = (E o1).length := g1.length
      have lv2 : v2.length = (E o2).length := g2.length
      have l121 := PC.len o1 hm1
      walk_at "go"
      refine j_dgetI (.inl PCa.W.dict) hm1 rfl ?_
      walk_at "go"
      refine j_lenL (.of f1) ?_
      walk_at "go"
      refine j_dgetI (.inl PCa.W.dict) hm2 rfl ?_
      walk_at "go"
      refine j_lenL (.of f2) ?_
      walk_at "go"
      refine ⟨_, _, rfl, ?_⟩
      walk_at "go"
      refine ite2 (fun c1 => ?_) (fun c1 => ?_)
      case refine_2 =>
        walk_at "go"
        exact ⟨_, _, _, _, _, _, _, _, _, _, rfl, E, PCa⟩
      have c1' : o1 ≠ o2 := fun z => by subst z; simp at c1
      walk_at "go"
      refine ite2 (fun c2 => ?_) (fun c2 => ?_)
      case refine_2 =>
        walk_at "go"
        exact ⟨_, _, _, _, _, _, _, _, _, _, rfl, E, PCa⟩
      have c2' : ¬ (11 : Int) < (if (v2.length : Int) > (v1.length : Int) then (v2.length : Int) else (v1.length : Int)) := of_decide_eq_false (nott c2)
      have len1 : (E o1).length ≤ 11 := by split at c2' <;> omega
      have len2 : (E o2).length ≤ 11 := by split at c2' <;> omega
      walk_at "go"
      refine j_dgetI (.inl PCa.W.dict) hm1 rfl ?_
      refine ⟨_, rfl, ⟨_, .of f1⟩, fun Dl hD => ?_⟩
      refine lc_genL (fun i y _ => ∃ e, (E o1)[i]? = some e ∧ y = .int e.1) (fun _ => true) hD (.of f1) (by omega) (fun _ _ _ _ _ r => r) (fun i x hx => ⟨fun H' C N s3 _ k1 _ => ?_⟩) (fun Hb ys sb eb mm => ?_)
      · obtain ⟨e, he, p, rfl, hp'⟩ := Paired.get g1 hx
        walk_at "go"
        refine ⟨rfl, ?_⟩
        walk_at "go"
        refine j_ixT (.of (same_hide _ _ _ _ (s3 _ _ hp'))) (show atI [V.int e.1, V.int e.2.1, V.bl e.2.2] 0 = some (.int e.1) from rfl) ?_
        exact k1 rfl _ H' (Same.refl _) ⟨e, he, rfl⟩
      obtain ⟨ly, gy⟩ := mm.all
      have ey : ys = ((E o1).map (·.1)).map V.int := by
        refine List.ext_getElem? fun k => ?_
        rw [List.map_map, List.getElem?_map]
        by_cases hk : k < ys.length
        · obtain ⟨e, he, hy⟩ := gy k ys[k] (List.getElem?_eq_getElem hk)
          rw [List.getElem?_eq_getElem hk, he, hy]
          rfl
        · rw [List.getElem?_eq_none (by omega), List.getElem?_eq_none (by omega)]
          rfl
      rw [ey] at eb
      have PCb := PCa.same (sb.trans (same_hide _ _))
      refine j_ninL (.of eb) rfl (flat_ints _) ?_
      rw [inV_int]
      walk_at "go"
      refine ite2 (fun c3 => ?_) (fun c3 => ?_)
      case refine_2 =>
        walk_at "go"
        exact ⟨_, _, _, _, _, _, _, _, _, _, rfl, E, PCb⟩
      have c3' : ¬ o2 ∈ (E o1).map (·.1) := of_decide_eq_false (nott c3)
      walk_at "go"
      refine ⟨l, way, false, rfl, PCb.hp, a2, b2, fun t Hc hpc sc => ?_⟩
      have PCc := PCb.pool na sc hpc
      walk_at "go"
      refine ⟨D, l, A, ns, E, o1, o2, t, rfl, hpc, PCc.W, na, hm1, hm2, c1', by omega, by omega, fun price E2 Hd p1 p2 Wd hpd kd same e1 e2 => ?_⟩
      have PCd := PCc.step fr hm1 hm2 c1' (fun ⟨e, he, hq⟩ => c3' (List.mem_map.mpr ⟨e, he, hq⟩)) len1 len2 p1 p2 Wd hpd kd same e1 e2
      walk_at "go"
      exact ⟨_, _, _, _, _, _, _, _, _, _, rfl, E2, PCd⟩
    · clear PC7 PC hp7 s7 r0 r9
      clear E
      rintro σ H8 ⟨y7, y8, y9, y10, y11, y12, y13, y14, y15, y16, rfl, E, PC⟩
      walk_at "go"
      refine ⟨l, m, rfl, PC.hp, by omega, by omega, fun r1 H9 r10 r19 hp9 s9 => ?_⟩
      obtain ⟨j1, o1, ej1, hj1, hjo1, ho1, eo1⟩ := atI_intsL (l := ns) (n := m) r10 r19 (by omega)
      have PC9 := PC.pool na s9 hp9
      refine j_ixL (.of (pnAt PC9)) eo1 ?_
      walk_at "go"
      refine ⟨l, 3, rfl, hp9, by decide, by decide, fun bd Ha b0 b9 hpa sa => ?_⟩
      have PCa := PC9.pool na sa hpa
      walk_at "go"
      refine j_al fun F Hb nb sb eb => ?_
      have PCb := PCa.same sb
      have nF3 : ∀ b, b ≠ l → Ha b = none → H3 b = none := fun b hb h => by
        cases e : H3 b with
        | none => rfl
        | some o =>
          have := PCa.kp b o hb e
          rw [h] at this
          cases this
      have nFl : F ≠ l := fun z => by
        obtain ⟨_, e⟩ := hpa.lst
        rw [z, e] at nb
        cases nb
      walk_at "go"
      refine ⟨⟨_, .of (pnAt PCb)⟩, ?_⟩
      refine for_list (K := K) (xs := ns.map V.int) (fun i σ H' => ∃ y7 y8 y9 y10 y11 y12 y16, σ = [some (.ref l), some (.int most), some (.int more), some (.int m), some (.int way), some (.ref pn), some (.ref D), y7, y8, y9, y10, y11, y12, some (.int o1), some (.int bd), some (.ref F), y16] ∧ PhC H3 H' l D A ns E ∧
          ∃ (f : Int → V) (B : Int → Int), H' F = some (.dK (kvI (ns.take i) f)) ∧ ∀ n ∈ ns.take i, 0 ≤ B n ∧ B n ≤ 9 ∧ ∃ t, f n = .ref t ∧ H' t = some (.tup [.int (B n), .ref (A n)]))
        ⟨_, _, _, _, _, _, _, rfl, PCb, fun _ => .non, fun _ => 0, eb, fun n hn => by simp at hn⟩ ?_ ?_ ?_
      · rintro i σ H' _ ⟨_, _, _, _, _, _, _, _, PC', _⟩
        exact .of (pnAt PC')
      · rintro i x σ H' hx ⟨y7, y8, y9, y10, y11, y12, y16, rfl, PC', f, B, eF, at_⟩
        obtain ⟨n, hn, rfl⟩ : ∃ n, ns[i]? = some n ∧ x = V.int n := by
          rw [List.getElem?_map] at hx
          cases e : ns[i]? with
          | none => rw [e] at hx; cases hx
          | some n => rw [e] at hx; exact ⟨n, rfl, (Option.some.inj hx).symm⟩
        have hnm : n ∈ ns := List.mem_of_getElem? hn
        have tk : ns.take (i + 1) = ns.take i ++ [n] := by rw [List.take_add_one, hn]; rfl
        have fresh : n ∉ ns.take i := fun z => by
          have h2 : (ns.take (i + 1)).Nodup := nd.sublist (List.take_sublist _ _)
          rw [tk] at h2
          exact (List.nodup_append.mp h2).2.2 n z n (by simp) rfl
        walk_at "go"
        refine ⟨l, 10, rfl, PC'.hp, by decide, by decide, fun bg Hc c0 c9 hpc sc => ?_⟩
        have PCc := PC'.pool na sc hpc
        walk_at "go"
        refine j_al fun p4 Hd n4 s4 e4 => ?_
        obtain ⟨bv, hbv, ebv⟩ : ∃ bv : Int, (0 ≤ bv ∧ bv ≤ 9) ∧ atI [V.int (if decide (V.int n = V.int o1) = true then 1 else 0), V.int (if decide (V.int n = V.int o1) = true then 1 else 0), V.int bg] bd = some (.int bv) := by
          have h01 : ∀ b : Bool, 0 ≤ (if b = true then (1 : Int) else 0) ∧ (if b = true then (1 : Int) else 0) ≤ 9 := fun b => by cases b <;> decide
          have : bd = 0 ∨ bd = 1 ∨ bd = 2 := by omega
          rcases this with rfl | rfl | rfl
          · exact ⟨_, h01 _, rfl⟩
          · exact ⟨_, h01 _, rfl⟩
          · exact ⟨bg, ⟨by omega, by omega⟩, rfl⟩
        walk_at "go"
        refine j_ixL (.of e4) ebv ?_
        have PCd := PCc.same s4
        walk_at "go"
        refine j_dgetI (.inl PCd.W.dict) hnm rfl ?_
        walk_at "go"
        refine j_al fun p5 He n5 s5 e5 => ?_
        have PCe := PCd.same s5
        have eFe : He F = some (.dK (kvI (ns.take i) f)) := s5 _ _ (s4 _ _ (hid_at sc nFl eF))
        walk_at "go"
        refine j_dputI eFe (by rw [List.length_take, sizeLine_eq]; omega) ?_
        rw [kv_new fresh]
        have kF : Kp (· = F) He (upd He F (.dK (kvI (ns.take i ++ [n]) fun j => if j = n then V.ref p5 else f j))) := fun b o hb e => by rw [upd_ne hb]; exact e
        have tsF : TSm He (upd He F (.dK (kvI (ns.take i ++ [n]) fun j => if j = n then V.ref p5 else f j))) := by
          refine ⟨fun b o e => kF b _ (fun z => ?_) e, fun b o u e => kF b _ (fun z => ?_) e⟩ <;>
          · rw [z, eFe] at e; cases e
        have eU : (upd He F (.dK (kvI (ns.take i ++ [n]) fun j => if j = n then V.ref p5 else f j))) F = some (.dK (kvI (ns.take i ++ [n]) fun j => if j = n then V.ref p5 else f j)) := upd_same
        generalize upd He F (.dK (kvI (ns.take i ++ [n]) fun j => if j = n then V.ref p5 else f j)) = Hf at kF tsF eU
        have hF3 : H3 F = none := nF3 F nFl nb
        have DF : ¬ D = F := fun z => by
          have h1 := PCb.W.dict
          rw [z, eb] at h1
          have h2 : kvI ns (fun n => V.ref (A n)) = [] := by
            have := Option.some.inj h1
            injection this with this
            exact this.symm
          have h3 := congrArg List.length h2
          rw [kv_len] at h3
          simp at h3
          rw [h3] at hnm
          cases hnm
        have PCf : PhC H3 Hf l D A ns E := by
          refine ⟨PCe.W.kp kF tsF DF (fun k hk z => ?_), ?_, PCe.kp.trans kF (fun b hb => .inr (by rw [hb]; exact hF3)) (fun b hb => .inl hb), PCe.G, PCe.len, PCe.conn⟩
          · obtain ⟨vs, e, _⟩ := PCe.W.at_ k hk
            rw [z, eFe] at e
            cases e
          · obtain ⟨c, sd, e, r⟩ := PCe.hp
            exact ⟨c, sd, kF _ _ (Ne.symm nFl) e, r⟩
        refine ⟨_, _, _, _, _, _, _, rfl, PCf, (fun j => if j = n then V.ref p5 else f j), (fun j => if j = n then bv else B j), by rw [tk]; exact eU, fun k hk => ?_⟩
        dsimp only
        rw [tk] at hk
        rcases List.mem_append.mp hk with hk | hk
        · have kn : k ≠ n := fun z => fresh (z ▸ hk)
          rw [if_neg kn, if_neg kn]
          obtain ⟨x1, x2, t, x3, x4⟩ := at_ k hk
          refine ⟨x1, x2, t, x3, tsF.t _ _ (s5 _ _ (s4 _ _ (hid_at sc (fun z => ?_) x4)))⟩
          obtain ⟨_, e⟩ := PC'.hp.lst
          rw [z, e] at x4
          cases x4
        · have : k = n := by simpa using hk
          subst this
          rw [if_pos rfl, if_pos rfl]
          exact ⟨hbv.1, hbv.2, p5, rfl, tsF.t _ _ e5⟩
      · rintro σ H' ⟨y7, y8, y9, y10, y11, y12, y16, rfl, PC', f, B, eF, at_⟩
        rw [List.length_map, List.take_length] at eF at_
        walk_at "go"
        obtain ⟨_, eh⟩ := PC'.hp.lst
        have tsh := ts_hide eh
        have hs : Same (hide l H3) (hide l H') := hide_kp PC'.kp
        refine q F ns B E f H' PC'.hp (sH.trans hs) ⟨by rw [hide_ne nFl]; exact eF, fun n hn => ?_⟩ PC'.G (by omega) (by omega) nd rng (fun n hn => ⟨(at_ n hn).1, (at_ n hn).2.1⟩) PC'.len PC'.conn
        obtain ⟨_, _, t, x3, x4⟩ := at_ n hn
        obtain ⟨vs, x5, x6⟩ := PC'.W.at_ n hn
        exact ⟨t, A n, vs, x3, tsh.t _ _ x4, by rw [hide_ne (na n hn)]; exact x5, x6.ts tsh⟩
end

/-! ### views -/
def Marky (x : Str) : Prop := x.length ≤ 9000 ∧ ∀ c ∈ TL.tl x, c = 48 ∨ c = 49
structure MarksR (H : Hp) (m : Addr) (ks ns : List Int) (M : Int → Str) : Prop where
  dict : Rd H m (.dK (kvI ks fun n => .str (M n)))
  len : ks.length = ns.length
  mem : ∀ n, n ∈ ks ↔ n ∈ ns
  mark : ∀ n ∈ ns, Marky (M n)
def viewD (B : Int → Int) (E : Int → List End) (M : Int → Str) (n : Int) : PyData := .tuple [.int n, .int (B n), .str (M n), .list ((E n).map fun e => .tuple [.int e.2.1, .bool e.2.2, .str (M e.1)])]
def spIsMark : Sp := fun vs H Q _ => ∃ x : Str, vs = [.str x] ∧ Marky x ∧ Q (.bl true) H
def spSight : Sp := fun vs H Q _ => ∃ x : Str, vs = [.str x] ∧ Marky x ∧ Q (.str x) H
def spLook : Sp := fun vs H Q _ => ∃ (d m : Addr) (ns ks : List Int) (f : Int → V) (M : Int → Str), vs = [.ref d, .ref m] ∧ Rd H d (.dK (kvI ns f)) ∧ MarksR H m ks ns M ∧ ∀ H2, Same H H2 → Q .non H2
def spView (K : PySem.W.Frag) : Sp := fun vs H Q _ => ∃ (d m : Addr) (n : Int) (ns ks : List Int) (B : Int → Int) (E : Int → List End) (f : Int → V) (M : Int → Str), vs = [.ref d, .ref m, .int n] ∧ WebR H d ns B E f ∧ MarksR H m ks ns M ∧
  n ∈ ns ∧ (∀ e ∈ E n, e.1 ∈ ns) ∧ (E n).length ≤ 100 ∧ ∀ v H2, Same H H2 → (∀ G : Hp, (∀ b o, H b = none → H2 b = some o → G b = some o) → Dp K G v (viewD B E M n)) → (∃ p, v = .ref p) → Q v H2
theorem none_of {H H2 : Hp} {b : Addr} (s : Same H H2) (h : H2 b = none) : H b = none := by
  cases e : H b with
  | none => rfl
  | some o => rw [s _ _ e] at h; cases h
theorem dpall_of {α : Type} {K : PySem.W.Frag} {G : Hp} (g : α → PyData) : ∀ {ys : List V} {es : List α}, ys.length = es.length → (∀ (k : Nat) (y : V), ys[k]? = some y → ∀ e, es[k]? = some e → Dp K G y (g e)) → DpAll K G ys (es.map g)
  | [], [], _, _ => .nil
  | y :: ys, e :: es, hl, h => .cons (h 0 y rfl e rfl) (dpall_of g (by simpa using hl) fun k y hy e he => h (k + 1) y (by simpa using hy) e (by simpa using he))
  | [], _ :: _, hl, _ => by simp at hl
  | _ :: _, [], hl, _ => by simp at hl
section
variable {P : Program} {w : World} {K : PySem.W.Frag} {mg : Str → Option Value} {base : Heap}
theorem ok_is_mark (T : Txt K mg) : FnOk P w K mg base CX0 1 T.is_mark.f T.is_mark.fd ps_is_mark spIsMark := by
  refine T.is_mark.F.ok sc_is_mark (fun vs H Q E h => ?_) (fun cdv A outer s H vs Q E hr h => ?_)
  · obtain ⟨x, rfl, _⟩ := h
    rfl
  obtain ⟨x, rfl, ⟨hl, hc⟩, q⟩ := h
  have hu := hu_of hr
  have hu4 := hr.units
  have hu65 := hu65_of hr
  refine ⟨_, (pss_cons (ps_if (PW.pt (pw_or (pt_not (pt_val (pe_callB (r := rIsi K) call_isi (by rfl) T.n_isinstance (by decide +kernel) (pa_cons (pv 0) (pa_cons (pe_bltn (v := .ty "str") (u := .type "str") (by rfl) T.n_str (by decide +kernel) rfl) pa_nil))))) (pw_or1 (pt_cmpR op_gt (pe_callB (r := rLenU K) uLen (by rfl) T.n_len (by decide +kernel) (pa_cons (pv 0) pa_nil)) (pe_glob (by rfl) T.g_LONGEST.g T.g_LONGEST.r) (nomark _))))) (pss_one (ps_ret pe_bl)) pss_nil)
  (pss_cons (ps_for PassesOwn.never rfl (pi_str (pv 0)) (pg_name (i := 1) sc_is_mark.nd rfl (Or.inl rfl))
  (pss_one (ps_if (pt_cmpR (r := rNotInU K) (uNotIn hu65) (pv 1) pe_str (by rfl)) (pss_one (ps_ret pe_bl)) pss_nil)))
  (pss_one (ps_ret pe_bl)))), ?_⟩
  walk_at "go"
  refine j_isi (.ty _) (.base (.str _)) (kit_ty (r := true) (by decide +kernel)) ?_
  walk_at "go"
  refine j_lenS (lineB (by omega)) ?_
  walk_at "go"
  refine ite2 (fun c => ?_) (fun c => ?_)
  · have := of_decide_eq_true c
    omega
  walk_at "go"
  refine for_str (fun i σ H' => ∃ y, σ = [some (.str x), y] ∧ H' = H) ⟨none, rfl, rfl⟩ ?_ ?_
  · rintro i c σ H1 hcx ⟨y, rfl, rfl⟩
    have hm : c ∈ TL.tl x := by
      have : x.cps.toList[i]? = some c := by rw [Array.getElem?_toList]; exact hcx
      exact List.mem_of_getElem? this
    have h01 : decide (c ∈ ("01" : Str).cps.toList) = true := by
      have e : ("01" : Str).cps.toList = [48, 49] := by decide +kernel
      rw [e]
      rcases hc c hm with rfl | rfl <;> decide
    walk_at "go"
    refine j_ninS ?_
    rw [h01]
    walk_at "go"
    exact ⟨_, rfl, rfl⟩
  · rintro σ H1 ⟨y, rfl, rfl⟩
    walk_at "go"
    exact q
theorem ok_sight_of (T : Txt K mg) : FnOk P w K mg base CX0 2 T.sight_of.f T.sight_of.fd ps_sight_of spSight := by
  have G_is_mark := ok_is_mark (P := P) (w := w) (base := base) T
  refine T.sight_of.F.ok sc_sight_of (fun vs H Q E h => ?_) (fun cdv A outer s H vs Q E hr h => ?_)
  · obtain ⟨x, rfl, _⟩ := h
    rfl
  obtain ⟨x, rfl, hm, q⟩ := h
  have hu := hu_of hr
  have hu4 := hr.units
  refine ⟨_, (pss_cons (ps_if (pt_val (pe_call G_is_mark (hr.mono (by omega)) (by rfl) T.is_mark.g T.is_mark.F.kp T.is_mark.b .nil pass0 (pa_cons (pv 0) pa_nil))) (pss_one (ps_ret (pv 0))) pss_nil)
  (pss_one (ps_ret pe_non))), ?_⟩
  walk_at "go"
  refine ⟨x, rfl, hm, ?_⟩
  walk_at "go"
  exact q
theorem ok_look_at_marks (T : Txt K mg) : FnOk P w K mg base CX0 1 T.look_at_marks.f T.look_at_marks.fd ps_look_at_marks spLook := by
  refine T.look_at_marks.F.ok sc_look_at_marks (fun vs H Q E h => ?_) (fun cdv A outer s H vs Q E hr h => ?_)
  · obtain ⟨d, m, ns, ks, f, M, rfl, _⟩ := h
    rfl
  obtain ⟨d, m, ns, ks, f, M, rfl, hd, MR, q⟩ := h
  have hu := hu_of hr
  have hu4 := hr.units
  have hu65 := hu65_of hr
  refine ⟨_, (pss_cons (ps_if (PW.pt (pw_or (pt_not (pt_val (pe_callB (r := rIsi K) call_isi (by rfl) T.n_isinstance (by decide +kernel) (pa_cons (pv 1) (pa_cons (pe_bltn (v := .ty "dict") (u := .type "dict") (by rfl) T.n_dict (by decide +kernel) rfl) pa_nil))))) (pw_or1 (pt_cmpR (r := rNeU K) (uNe hu4) (pe_callB (r := rLenR K) uLenR (by rfl) T.n_len (by decide +kernel) (pa_cons (pv 1) pa_nil)) (pe_callB (r := rLenR K) uLenR (by rfl) T.n_len (by decide +kernel) (pa_cons (pv 0) pa_nil)) (nomark _))))) (pss_one ps_never) pss_nil)
  (pss_cons (ps_lockM (ps_for PassesOwn.never rfl (pi_keys (pv 0)) (pg_name (i := 2) sc_look_at_marks.nd rfl (Or.inl rfl))
  (pss_one (ps_if (pt_cmp (pc_dnotin hu (pv 2) (pv 1))) (pss_one ps_never) pss_nil))))
  (pss_one (ps_lockM (ps_for PassesOwn.never rfl (pi_keys (pv 1)) (pg_name (i := 2) sc_look_at_marks.nd rfl (Or.inl rfl))
  (pss_one (ps_if (pt_val (pe_callB (r := rIsi K) call_isi (by rfl) T.n_isinstance (by decide +kernel) (pa_cons (pv 2) (pa_cons (pe_bltn (v := .ty "bool") (u := .type "bool") (by rfl) T.n_bool (by decide +kernel) rfl) pa_nil)))) (pss_one ps_never) pss_nil))))))), ?_⟩
  have ty : TyX K H (.ref m) (.type "dict") := by
    rcases MR.dict with h | ⟨o, h⟩
    · exact .base (.dK h)
    · exact .fDict h
  walk_at "go"
  refine j_isi (.ty _) ty (kit_ty (r := true) (by decide +kernel)) ?_
  walk_at "go"
  refine j_lenR MR.dict ?_
  walk_at "go"
  refine j_lenR hd ?_
  walk_at "go"
  rw [kv_len, kv_len, MR.len]
  refine j_ifN (by simp) ?_
  walk_at "go"
  refine j_lockR hd trivial fun o H1 D1 e1 s1 done _ => ?_
  walk_at "go"
  refine j_iKeysI e1 ?_
  have MR1 := rd_lock MR.dict e1 hd s1 ⟨_, rfl⟩ ⟨_, rfl⟩
  refine for_keys (fun i σ H' => ∃ y, σ = [some (.ref d), some (.ref m), y] ∧ Same H1 H') ⟨none, rfl, Same.refl _⟩ ?_ ?_ ?_
  · rintro i σ H' ⟨y, rfl, s2⟩
    exact s2 _ _ e1
  · rintro i k σ H' hk ⟨y, rfl, s2⟩
    have hkm : k ∈ ks := (MR.mem k).mpr (List.mem_of_getElem? hk)
    have MR2 := rd_same s2 MR1
    walk_at "go"
    refine ⟨m, some (.str (M k)), rfl, .inl ⟨_, Sum.inl k, MR2, rfl, (kv_get (f := fun n => .str (M n)) hkm).symm⟩, ?_⟩
    walk_at "go"
    exact ⟨_, rfl, s2⟩
  · rintro σ H' ⟨y, rfl, s2⟩
    refine done _ H' s2 fun H2 s3 _ r2 => ?_
    have MR2 := rd_same s3 MR.dict
    refine j_lockR MR2 trivial fun o H4 D4 e4 s4 done2 _ => ?_
    walk_at "go"
    refine j_iKeysI e4 ?_
    refine for_keys (fun i σ H' => ∃ y, σ = [some (.ref d), some (.ref m), y] ∧ Same H4 H') ⟨_, rfl, Same.refl _⟩ ?_ ?_ ?_
    · rintro i σ H' ⟨y, rfl, s5⟩
      exact s5 _ _ e4
    · rintro i k σ H' hk ⟨y, rfl, s5⟩
      walk_at "go"
      refine j_isi (.ty _) (.base (.int _)) (kit_ty (r := false) (by decide +kernel)) ?_
      walk_at "go"
      exact ⟨_, rfl, s5⟩
    · rintro σ H' ⟨y, rfl, s5⟩
      refine done2 _ H' s5 fun H6 s6 _ _ => ?_
      exact q H6 (s3.trans s6)
theorem ok_view_of (T : Txt K mg) : FnOk P w K mg base CX0 3 T.view_of.f T.view_of.fd ps_view_of (spView K) := by
  have G_look_at_marks := ok_look_at_marks (P := P) (w := w) (base := base) T
  have G_sight_of := ok_sight_of (P := P) (w := w) (base := base) T
  refine T.view_of.F.ok sc_view_of (fun vs H Q E h => ?_) (fun cdv A outer s H vs Q E hr h => ?_)
  · obtain ⟨d, m, n, ns, ks, B, E, f, M, rfl, _⟩ := h
    rfl
  obtain ⟨d, m, n, ns, ks, B, E, f, M, rfl, W, MR, hn, inn, l100, q⟩ := h
  have hu := hu_of hr
  have hu4 := hr.units
  have hu65 := hu65_of hr
  refine ⟨_, (pss_cons (ps_expr (pe_call G_look_at_marks (hr.mono (by omega)) (by rfl) T.look_at_marks.g T.look_at_marks.F.kp T.look_at_marks.b .nil pass0 (pa_cons (pv 0) (pa_cons (pv 1) pa_nil))))
  (pss_cons (ps_asg (pe_dget hu (pv 0) (pv 2) (fun _ _ => rfl)) (pg_tupK (n := 2) K rfl (by rfl) (pgs_cons (pg_name (i := 3) sc_view_of.nd rfl (Or.inl rfl)) (pgs_cons (pg_name (i := 4) sc_view_of.nd rfl (Or.inl rfl)) pgs_nil))))
  (pss_cons (ps_setLc (i := 5) (own := [("other", 6), ("price", 7), ("told", 8)]) rfl sc_view_of.nd rfl rfl (sw_true rfl rfl rfl (by decide +kernel)) (pi_listK K rfl (pv 4)) (blkOk_by (own := [("other", 6), ("price", 7), ("told", 8)]) (N := names_view_of) (sc := defScope s_view_of) (by decide +kernel)) (fun _ _ _ _ _ => (pg_tupK (n := 3) K rfl (by rfl) (pgs_cons (pg_name (i := 6) sc_view_of.nd rfl (Or.inl rfl)) (pgs_cons (pg_name (i := 7) sc_view_of.nd rfl (Or.inl rfl)) (pgs_cons (pg_name (i := 8) sc_view_of.nd rfl (Or.inl rfl)) pgs_nil))))) (fun _ _ _ _ _ => pts_nil) (fun _ _ _ _ _ => (pe_tup (pa_cons (pv 7) (pa_cons (pv 8) (pa_cons (pe_call G_sight_of (hr.mono (by omega)) (by rfl) T.sight_of.g T.sight_of.F.kp T.sight_of.b .nil pass0 (pa_cons (pe_dget hu (pv 1) (pv 6) (fun _ _ => rfl)) pa_nil)) pa_nil))))))
  (pss_one (ps_ret (pe_tup (pa_cons (pv 2) (pa_cons (pv 3) (pa_cons (pe_call G_sight_of (hr.mono (by omega)) (by rfl) T.sight_of.g T.sight_of.F.kp T.sight_of.b .nil pass0 (pa_cons (pe_dget hu (pv 1) (pv 2) (fun _ _ => rfl)) pa_nil)) (pa_cons (pv 5) pa_nil)))))))))), ?_⟩
  walk_at "go"
  refine ⟨d, m, ns, ks, f, M, rfl, W.dict, MR, fun H1 s1 => ?_⟩
  have W1 := W.same s1
  have MR1 : MarksR H1 m ks ns M := ⟨rd_same s1 MR.dict, MR.len, MR.mem, MR.mark⟩
  obtain ⟨t, l, vs, ef, et, el, ev⟩ := W1.at_ n hn
  walk_at "go"
  refine j_dgetI W1.dict hn ef ?_
  refine j_gt (.of et) rfl ?_
  walk_at "go"
  refine ⟨⟨_, .of el⟩, fun Dl hD => ?_⟩
  have lvs : vs.length = (E n).length := ev.length
  refine lc_genL (fun i y G => ∀ e, (E n)[i]? = some e → ∃ p, y = .ref p ∧ H1 p = none ∧ G p = some (.tup [.int e.2.1, .bl e.2.2, .str (M e.1)])) (fun _ => true) hD (.of el) (by omega) (fun i y G G' sg r e he => let ⟨p, a, b, c⟩ := r e he; ⟨p, a, b, sg _ _ c⟩) (fun i x hx => ⟨fun H' C N s3 hacc k1 _ => ?_⟩) (fun H' ys s3 eD mm => ?_)
  · obtain ⟨e, he, p, rfl, hp⟩ := Paired.get ev hx
    have s13 : Same H1 H' := s3.trans (same_hide _ _)
    refine j_gt (.of (s13 _ _ hp)) rfl ?_
    walk_at "go"
    refine ⟨rfl, ?_⟩
    walk_at "go"
    have hem : e.1 ∈ ks := (MR.mem _).mpr (inn e (List.mem_of_getElem? he))
    refine j_dgetI (rd_same s13 MR1.dict) hem rfl ?_
    walk_at "go"
    refine ⟨M e.1, rfl, MR.mark _ (inn e (List.mem_of_getElem? he)), ?_⟩
    walk_at "go"
    refine j_al fun p5 H5 n5 s5 e5 => ?_
    refine k1 rfl _ H5 s5 fun e' he' => ?_
    rw [he] at he'
    cases he'
    have nD : p5 ≠ Dl := fun z => by
      obtain ⟨acc, ha⟩ := hacc
      rw [z, ha] at n5
      cases n5
    exact ⟨p5, rfl, none_of s13 n5, by rw [hide_ne nD]; exact e5⟩
  · obtain ⟨ly, gy⟩ := mm.all
    have s13 : Same H1 H' := s3.trans (same_hide _ _)
    walk_at "go"
    have hnm : n ∈ ks := (MR.mem _).mpr hn
    refine j_dgetI (rd_same s13 MR1.dict) hnm rfl ?_
    walk_at "go"
    refine ⟨M n, rfl, MR.mark n hn, ?_⟩
    walk_at "go"
    refine j_al fun p5 H5 n5 s5 e5 => ?_
    refine q _ H5 (s1.trans (s13.trans s5)) (fun G hG => ?_) ⟨p5, rfl⟩
    have dps : DpAll K G ys ((E n).map fun e => .tuple [.int e.2.1, .bool e.2.2, .str (M e.1)]) := dpall_of _ (by omega) fun k y hy e he => by
      obtain ⟨p, rfl, hp1, hp2⟩ := gy k y hy e he
      exact .tup (.of (hG p _ (none_of s1 hp1) (s5 _ _ (same_hide _ _ _ _ hp2)))) (.cons (.int _) (.cons (.bl _) (.cons (.str _) .nil)))
    exact .tup (.of (hG p5 _ (none_of s1 (none_of s13 n5)) e5)) (.cons (.int _) (.cons (.int _) (.cons (.str _) (.cons (.lst (.of (hG Dl _ (none_of s1 hD) (s5 _ _ eD))) dps) .nil))))
end

/-! ### lists laid by names: each item its own -/
def LaidG (Ob : Hp → Int → Addr → Addr → Prop) (H1 : Hp) (Dl : Addr) (ns : List Int) (i : Nat) (H' : Hp) : Prop := Same H1 (hide Dl H') ∧ ∃ (R : Int → Addr) (A : Int → Addr), H' Dl = some (.lst ((ns.take i).map fun n => .ref (R n))) ∧
  ∀ n ∈ ns.take i, Ob (hide Dl H') n (R n) (A n) ∧ (∃ o, (hide Dl H') (A n) = some o) ∧ H1 (A n) = none ∧ ∀ m ∈ ns.take i, A n = A m → n = m
theorem LaidG.step {Ob : Hp → Int → Addr → Addr → Prop} (mono : ∀ G G' n r a, Same G G' → Ob G n r a → Ob G' n r a) {H3 H' H5 : Hp} {Dl pL pT : Addr} {ns : List Int} {i : Nat} {n : Int} (p : LaidG Ob H3 Dl ns i H') (hn : ns[i]? = some n) (nd : ns.Nodup) (h64 : ns.length ≤ 64) (n4 : H' pL = none)
    (s5 : Same H' H5) (e4 : ∃ o, H5 pL = some o) (ob : Ob (hide Dl H5) n pT pL) : ∃ acc, H5 Dl = some (.lst acc) ∧ acc.length < sizeLine ∧ LaidG Ob H3 Dl ns (i + 1) (upd H5 Dl (.lst (acc ++ [.ref pT]))) := by
  obtain ⟨t1, R, A, eD, at_⟩ := p
  have e3 : H3 pL = none := by
    cases e : H3 pL with
    | none => rfl
    | some o =>
      have := same_hide _ _ _ _ (t1 _ _ e)
      rw [n4] at this
      cases this
  have hil : i < ns.length := (List.getElem?_eq_some_iff.mp hn).1
  have tk : ns.take (i + 1) = ns.take i ++ [n] := by rw [List.take_add_one, hn]; rfl
  have fresh : n ∉ ns.take i := fun z => by
    have h2 : (ns.take (i + 1)).Nodup := nd.sublist (List.take_sublist _ _)
    rw [tk] at h2
    exact (List.nodup_append.mp h2).2.2 n z n (by simp) rfl
  have d1 : pL ≠ Dl := fun z => by rw [z, eD] at n4; cases n4
  have sh : Same (hide Dl H') (hide Dl (upd H5 Dl (.lst ((ns.take i).map (fun n => V.ref (R n)) ++ [.ref pT])))) := (hide_mono s5).trans hide_upd
  have sh5 : Same (hide Dl H5) (hide Dl (upd H5 Dl (.lst ((ns.take i).map (fun n => V.ref (R n)) ++ [.ref pT])))) := hide_upd
  refine ⟨_, s5 _ _ eD, by rw [List.length_map, List.length_take, sizeLine_eq]; omega, t1.trans sh, fun k => if k = n then pT else R k, fun k => if k = n then pL else A k, ?_, ?_⟩
  · rw [upd_same, tk, List.map_append]
    congr 3
    · refine List.map_congr_left fun k hk => ?_
      have e : k ≠ n := fun z => fresh (z ▸ hk)
      show V.ref (R k) = V.ref (if k = n then pT else R k)
      rw [if_neg e]
    · show [V.ref pT] = [V.ref (if n = n then pT else R n)]
      rw [if_pos rfl]
  · intro k hk
    dsimp only
    rw [tk] at hk
    rcases List.mem_append.mp hk with hk | hk
    · have kn : k ≠ n := fun z => fresh (z ▸ hk)
      obtain ⟨x1, ⟨o, x2⟩, x3, x4⟩ := at_ k hk
      rw [if_neg kn, if_neg kn]
      refine ⟨mono _ _ _ _ _ sh x1, ⟨o, sh _ _ x2⟩, x3, fun m hm => ?_⟩
      rw [tk] at hm
      rcases List.mem_append.mp hm with hm | hm
      · have mn : m ≠ n := fun z => fresh (z ▸ hm)
        rw [if_neg mn]
        exact x4 m hm
      · have : m = n := by simpa using hm
        subst this
        rw [if_pos rfl]
        intro z
        have := same_hide _ _ _ _ x2
        rw [z, n4] at this
        cases this
    · have : k = n := by simpa using hk
      subst this
      rw [if_pos rfl, if_pos rfl]
      obtain ⟨o4, e4⟩ := e4
      refine ⟨mono _ _ _ _ _ sh5 ob, ⟨o4, by rw [hide_ne d1, upd_ne d1]; exact e4⟩, e3, fun m hm => ?_⟩
      rw [tk] at hm
      rcases List.mem_append.mp hm with hm | hm
      · have mn : m ≠ k := fun z => fresh (z ▸ hm)
        rw [if_neg mn]
        intro z
        obtain ⟨_, ⟨o, x2⟩, _⟩ := at_ m hm
        have := same_hide _ _ _ _ x2
        rw [← z, n4] at this
        cases this
      · have : m = k := by simpa using hm
        exact fun _ => this.symm
theorem lc_keysP {σ : L2.St} {d : Addr} {o : Obj} {ks : List Int} {f : Int → V} {g : TG} {tt : TT} {te : TE} {vs : List Nat} {H1 : Hp} {Dl : Addr} {Qd : Hp → Prop} (Pv : Nat → Hp → Prop) (h0 : Pv 0 (upd H1 Dl (.lst []))) (hk : ∀ i H, Pv i H → H d = some (.frz o (.dK (kvI ks f))))
    (hs : ∀ i k H, ks[i]? = some k → Pv i H → g (.int k) (wipe σ vs) H fun σ2 H2 => wipe σ2 vs = wipe σ vs ∧ tt σ2 H2 fun b H3 => if b = true then te σ2 H3 fun y H4 => ∃ acc, H4 Dl = some (.lst acc) ∧ acc.length < sizeLine ∧ Pv (i + 1) (upd H4 Dl (.lst (acc ++ [y]))) else Pv (i + 1) H3)
    (hd : ∀ H, Pv ks.length H → Qd H) : Lo (Itk d o (kvI ks f)) g tt te vs σ Dl Qd H1 := by
  refine ⟨fun i m H => m = ks.length - i ∧ i ≤ ks.length ∧ Pv i H, ⟨ks.length, by simp, Nat.zero_le _, h0⟩, ?_⟩
  rintro i m H ⟨rfl, hi, p⟩
  by_cases hlt : i < ks.length
  · refine .inr ⟨⟨hk i H p, by rw [kv_len]; exact hlt⟩, Pv (i + 1), fun H' p' => ⟨ks.length - (i + 1), by omega, rfl, hlt, p'⟩, fun v H' y => ?_⟩
    obtain ⟨rfl, k, w, hk, rfl⟩ := y
    unfold kvI at hk
    rw [List.getElem?_map] at hk
    cases e : ks[i]? with
    | none => rw [e] at hk; cases hk
    | some n =>
      rw [e] at hk
      have hk := Option.some.inj hk
      have e1 : Sum.inl n = k := congrArg Prod.fst hk
      subst e1
      exact hs i n _ e p
  · have e : i = ks.length := by omega
    subst e
    exact .inl ⟨⟨hk _ H p, by rw [kv_len]; exact Nat.le_refl _⟩, hd H p⟩
/-- a web whose lists are its own -/
structure WebC (H0 H : Hp) (d : Addr) (A : Int → Addr) (ns : List Int) (B : Int → Int) (E : Int → List End) (f : Int → V) : Prop where
  dict : H d = some (.dK (kvI ns f))
  at_ : ∀ n ∈ ns, ∃ t vs, f n = .ref t ∧ H t = some (.tup [.int (B n), .ref (A n)]) ∧ H (A n) = some (.lst vs) ∧ EndVs H vs (E n)
  inj : ∀ n ∈ ns, ∀ m ∈ ns, A n = A m → n = m
  fr : ∀ n ∈ ns, H0 (A n) = none
  frd : H0 d = none
def CopyOb (B : Int → Int) (E : Int → List End) (G : Hp) (n : Int) (r a : Addr) : Prop := ∃ t vs, G r = some (.tup [.int n, .ref t]) ∧ G t = some (.tup [.int (B n), .ref a]) ∧ G a = some (.lst vs) ∧ EndVs G vs (E n)
def spCopy : Sp := fun vs H Q _ => ∃ (d : Addr) (ns : List Int) (B : Int → Int) (E : Int → List End) (f : Int → V), vs = [.ref d] ∧ WebAt H d ns B E f ∧ ns.Nodup ∧ ns.length ≤ 64 ∧
  ∀ d2 A f2 H2, Same H H2 → WebC H H2 d2 A ns B E f2 → Q (.ref d2) H2
section
variable {P : Program} {w : World} {K : PySem.W.Frag} {mg : Str → Option Value} {base : Heap}
theorem ok__law_copy (T : Txt K mg) : FnOk P w K mg base CX0 1 T._law_copy.f T._law_copy.fd ps__law_copy spCopy := by
  refine T._law_copy.F.ok sc__law_copy (fun vs H Q E h => ?_) (fun cdv A outer s H vs Q E hr h => ?_)
  · obtain ⟨d, ns, B, E, f, rfl, _⟩ := h
    rfl
  obtain ⟨d, ns, B, E, f, rfl, W, nd, h64, q⟩ := h
  have hu := hu_of hr
  have hu4 := hr.units
  have hu65 := hu65_of hr
  refine ⟨_, (pss_one (ps_lockM (ps_ret (pe_callTy (r := rDictU K) (uDict rfl) (by rfl) T.n_dict (by decide +kernel) (pa_cons (pe_lc (own := [("_law_name", 1)]) rfl sc__law_copy.nd (pi_keys (pv 0)) (blkOk_by (own := [("_law_name", 1)]) (N := names__law_copy) (sc := defScope s__law_copy) (by decide +kernel)) (fun _ _ _ _ _ => (pg_name (i := 1) sc__law_copy.nd rfl (Or.inl rfl))) (fun _ _ _ _ _ => pts_nil) (fun _ _ _ _ _ => (pe_tup (pa_cons (pv 1) (pa_cons (pe_tup (pa_cons (pe_ix (r := rIx K) ix_seq (pe_dget hu (pv 0) (pv 1) (fun _ _ => rfl)) pe_int (fun _ _ => rfl)) (pa_cons (pe_callTy (r := rListU K) (uList rfl) (by rfl) T.n_list (by decide +kernel) (pa_cons (pe_ix (r := rIx K) ix_seq (pe_dget hu (pv 0) (pv 1) (fun _ _ => rfl)) pe_int (fun _ _ => rfl)) pa_nil)) pa_nil))) pa_nil))))) pa_nil))))), ?_⟩
  walk_at "go"
  refine j_lockR (.inl W.dict) trivial fun o H1 D1 e1 s1 _ done => ?_
  have W1 := W.r.lock e1 s1
  walk_at "go"
  refine j_iKeysI e1 fun Dl hD => ?_
  refine lc_keysP (LaidG (CopyOb B E) H1 Dl ns) ⟨same_to_hide hD (same_new hD), fun _ => 0, fun _ => 0, upd_same, fun n hn => by simp at hn⟩ (fun i H p => same_hide _ _ _ _ (p.1 _ _ e1)) ?_ ?_
  · rintro i n H' hn p
    have s2 : Same H1 H' := p.1.trans (same_hide _ _)
    have hnm := List.mem_of_getElem? hn
    obtain ⟨t, l, vs, ef, et, el, ev⟩ := (W1.same s2).at_ n hnm
    walk_at "go"
    refine ⟨rfl, ?_⟩
    walk_at "go"
    have dH : Rd H' d (.dK (kvI ns f)) := rd_same s2 W1.dict
    refine j_dgetI dH hnm ef ?_
    walk_at "go"
    refine j_ixT (.of et) (show atI [V.int (B n), V.ref l] 0 = some (.int (B n)) from rfl) ?_
    walk_at "go"
    refine j_dgetI dH hnm ef ?_
    walk_at "go"
    refine j_ixT (.of et) (show atI [V.int (B n), V.ref l] 1 = some (.ref l) from rfl) ?_
    walk_at "go"
    refine j_listL (.of el) ?_
    refine j_al fun pL H4 n4 s4 e4 => ?_
    walk_at "go"
    refine j_al fun pT H5 n5 s5 e5 => ?_
    walk_at "go"
    refine j_al fun pR H6 n6 s6 e6 => ?_
    obtain ⟨_, R0, A0, eD, _⟩ := id p
    have nDl : ∀ b o, H' b = none → H6 b = some o → b ≠ Dl := fun b o h1 _ z => by rw [z, eD] at h1; cases h1
    have nT : pT ≠ Dl := fun z => by rw [z, s4 _ _ eD] at n5; cases n5
    have nR : pR ≠ Dl := fun z => by rw [z, s5 _ _ (s4 _ _ eD)] at n6; cases n6
    have nL : pL ≠ Dl := fun z => by rw [z, eD] at n4; cases n4
    have s46 := s4.trans (s5.trans s6)
    have ts : TSm H' (hide Dl H6) := by
      refine ⟨fun b o hb => ?_, fun b o u hb => ?_⟩
      · rw [hide_ne (fun z => by rw [z, eD] at hb; cases hb)]; exact s46 _ _ hb
      · rw [hide_ne (fun z => by rw [z, eD] at hb; cases hb)]; exact s46 _ _ hb
    refine LaidG.step (fun G G' n r a sg ob => ?_) p hn nd h64 n4 s46 ⟨_, s6 _ _ (s5 _ _ e4)⟩ ⟨pT, vs, by rw [hide_ne nR]; exact e6, by rw [hide_ne nT]; exact s6 _ _ e5, by rw [hide_ne nL]; exact s6 _ _ (s5 _ _ e4), ev.ts ts⟩
    obtain ⟨t, vs, a1, a2, a3, a4⟩ := ob
    exact ⟨t, vs, sg _ _ a1, sg _ _ a2, sg _ _ a3, a4.ts (ts_same sg)⟩
  · rintro H4 ⟨t1, R, A, eD, at_⟩
    rw [List.take_length] at eD at_
    have s14 : Same H1 H4 := t1.trans (same_hide _ _)
    walk_at "go"
    have at4 : ∀ n ∈ ns, ∃ t vs, H4 (R n) = some (.tup [.int n, .ref t]) ∧ H4 t = some (.tup [.int (B n), .ref (A n)]) ∧ H4 (A n) = some (.lst vs) ∧ EndVs H4 vs (E n) ∧ H1 (A n) = none ∧ ∀ m ∈ ns, A n = A m → n = m := fun n hn => by
      obtain ⟨⟨t, vs, a1, a2, a3, a4⟩, _, a5, a6⟩ := at_ n hn
      have h := same_hide Dl H4
      exact ⟨t, vs, h _ _ a1, h _ _ a2, h _ _ a3, a4.ts (ts_same h), a5, a6⟩
    obtain ⟨tf, htf⟩ : ∃ tf : Int → Addr, ∀ n ∈ ns, H4 (R n) = some (.tup [.int n, .ref (tf n)]) := by
      refine ⟨fun n => Classical.epsilon fun t => H4 (R n) = some (.tup [.int n, .ref t]), fun n hn => ?_⟩
      obtain ⟨t, vs, a1, _⟩ := at4 n hn
      exact Classical.epsilon_spec (p := fun t => H4 (R n) = some (.tup [.int n, .ref t])) ⟨t, a1⟩
    refine j_dictP (ps := ns.map R) (f := fun n => .ref (tf n)) nd (by rw [List.map_map]; exact .of eD) ?_ ?_
    · have : ∀ l : List Int, (∀ n ∈ l, n ∈ ns) → Paired (fun p k => SqT K H4 p [V.int k, V.ref (tf k)]) (l.map R) l := fun l => by
        induction l with
        | nil => intro _; exact .nil
        | cons a r ih => intro h; exact .cons (.of (htf a (h a List.mem_cons_self))) (ih fun n hn => h n (List.mem_cons_of_mem _ hn))
      exact this ns fun _ h => h
    refine j_al fun d2 H5 n5 s5 e5 => ?_
    have h5d := s5 _ _ (s14 _ _ e1)
    refine done _ H5 (s14.trans s5) fun H6 s6 eq6 _ => ?_
    have nt : ∀ b o, H5 b = some o → (∀ x y, o ≠ .frz x y) → H6 b = some o := fun b o hb hx => by
      rw [eq6 b (fun z => by rw [z, h5d] at hb; cases hb; exact hx _ _ rfl)]; exact hb
    have s01 : ∀ b, H1 b = none → H b = none := fun b hb => by
      by_cases z : b = d
      · rw [z, e1] at hb; cases hb
      · rw [← s1 b z]; exact hb
    refine q d2 A (fun n => .ref (tf n)) H6 s6 ⟨nt _ _ e5 (fun _ _ z => by cases z), fun n hn => ?_, fun n hn => ?_, fun n hn => ?_, ?_⟩
    · obtain ⟨t, vs, a1, a2, a3, a4, _⟩ := at4 n hn
      have ett : tf n = t := by
        have := htf n hn
        rw [a1] at this
        injection this with this
        injection this with this
        injection this with _ this
        injection this with this _
        injection this with this
        exact this.symm
      rw [ett]
      refine ⟨t, vs, rfl, nt _ _ (s5 _ _ a2) (fun _ _ z => by cases z), nt _ _ (s5 _ _ a3) (fun _ _ z => by cases z), ?_⟩
      exact Paired.mono (fun v e ⟨p, ep, hp⟩ => ⟨p, ep, nt _ _ (s5 _ _ hp) (fun _ _ z => by cases z)⟩) a4
    · exact (at4 n hn).choose_spec.choose_spec.2.2.2.2.2
    · exact s01 _ (at4 n hn).choose_spec.choose_spec.2.2.2.2.1
    · refine s01 _ ?_
      cases e : H1 d2 with
      | none => rfl
      | some o =>
        have := s14 _ _ e
        rw [n5] at this
        cases this
end

/-! ### what a view tells: no program here -/
def vwL (M : Int → Str) (es : List End) : List (Int × Bool × Str) := es.map fun e => (e.2.1, e.2.2, M e.1)
def itD (x : Int × Bool × Str) : PyData := .tuple [.int x.1, .bool x.2.1, .str x.2.2]
theorem view_of (B : Int → Int) (E : Int → List End) (M : Int → Str) (n : Int) : viewD B E M n = .tuple [.int n, .int (B n), .str (M n), .list ((vwL M (E n)).map itD)] := by
  unfold viewD vwL
  rw [List.map_map]
  rfl
theorem vv_cons (x y : PyData) (xs ys : List PyData) : PyData.eqvAll (x :: xs) (y :: ys) = (PyData.eqv x y && PyData.eqvAll xs ys) := by simp only [PyData.eqvAll]
theorem vv_nil : PyData.eqvAll [] [] = true := by simp only [PyData.eqvAll]
theorem vv_ln (x : PyData) (xs : List PyData) : PyData.eqvAll (x :: xs) [] = false := by simp only [PyData.eqvAll]
theorem vv_nl (x : PyData) (xs : List PyData) : PyData.eqvAll [] (x :: xs) = false := by simp only [PyData.eqvAll]
theorem vv_tup (xs ys : List PyData) : PyData.eqv (.tuple xs) (.tuple ys) = PyData.eqvAll xs ys := by simp only [PyData.eqv]
theorem vv_list (xs ys : List PyData) : PyData.eqv (.list xs) (.list ys) = PyData.eqvAll xs ys := by simp only [PyData.eqv]
theorem vv_str (x y : Str) : PyData.eqv (.str x) (.str y) = (x == y) := by simp only [PyData.eqv]
theorem vv_int (x y : Int) : PyData.eqv (.int x) (.int y) = (x == y) := by simp only [PyData.eqv]
theorem vv_bool (x y : Bool) : PyData.eqv (.bool x) (.bool y) = (x == y) := by simp only [PyData.eqv]
theorem it_eqv (x y : Int × Bool × Str) : PyData.eqv (itD x) (itD y) = true ↔ x = y := by
  obtain ⟨a, b, c⟩ := x
  obtain ⟨a', b', c'⟩ := y
  simp only [itD, vv_tup, vv_cons, vv_nil, vv_int, vv_bool, vv_str, Bool.and_true, Bool.and_eq_true, beq_iff_eq, Prod.mk.injEq]
theorem its_eqv : ∀ l l' : List (Int × Bool × Str), PyData.eqvAll (l.map itD) (l'.map itD) = true ↔ l = l'
  | [], [] => by simp [vv_nil]
  | [], x :: l => by simp [vv_nl]
  | x :: l, [] => by simp [vv_ln]
  | x :: l, y :: l' => by
    rw [List.map_cons, List.map_cons, vv_cons, Bool.and_eq_true, it_eqv, its_eqv l l', List.cons.injEq]
theorem view_eqv {B B' : Int → Int} {E E' : Int → List End} {M M' : Int → Str} {n : Int} : PyData.eqv (viewD B' E' M' n) (viewD B E M n) = true ↔ (B' n = B n ∧ M' n = M n ∧ vwL M' (E' n) = vwL M (E n)) := by
  rw [view_of, view_of, vv_tup, vv_cons, vv_cons, vv_cons, vv_cons, vv_nil, vv_int, vv_int, vv_str, vv_list]
  simp only [Bool.and_true, Bool.and_eq_true, beq_iff_eq, its_eqv, true_and]
def Bits (x : Str) : Prop := ∀ c ∈ TL.tl x, c = 48 ∨ c = 49
theorem bits_ok {x : Str} (h : Bits x) : PyData.strOk x = true := by
  show x.cps.all (· < 0x110000) = true
  rw [Array.all_eq_true_iff_forall_mem]
  intro c hc
  have : c ∈ TL.tl x := Array.mem_toList_iff.mpr hc
  have := h c this
  exact decide_eq_true (by omega)
theorem view_shaped {B : Int → Int} {E : Int → List End} {M : Int → Str} {n : Int} (h0 : Bits (M n)) (h : ∀ e ∈ E n, Bits (M e.1)) : SeqAt.shaped (viewD B E M n) = true := by
  have lay : ∀ l : List End, (∀ e ∈ l, Bits (M e.1)) → PyData.canLayAll0 (l.map fun e => .tuple [.int e.2.1, .bool e.2.2, .str (M e.1)]) = true := fun l => by
    induction l with
    | nil => intro _; rfl
    | cons a r ih =>
      intro h
      simp only [List.map_cons, PyData.canLayAll0, PyData.canLay0, ih fun e he => h e (List.mem_cons_of_mem _ he), bits_ok (h a List.mem_cons_self), Bool.and_true]
  have dep : ∀ l : List End, PyData.depthAll (l.map fun e => PyData.tuple [.int e.2.1, .bool e.2.2, .str (M e.1)]) ≤ 4 := fun l => by
    induction l with
    | nil => simp [PyData.depthAll]
    | cons a r ih =>
      simp only [List.map_cons, PyData.depthAll, PyData.depth]
      omega
  show ((viewD B E M n).canLay0 && decide ((viewD B E M n).depth ≤ 64)) = true
  rw [Bool.and_eq_true]
  refine ⟨?_, decide_eq_true ?_⟩
  · simp only [viewD, PyData.canLay0, PyData.canLayAll0, lay _ h, bits_ok h0, Bool.and_true]
  · have := dep (E n)
    simp only [viewD, PyData.depth, PyData.depthAll]
    omega
/-- just the touched ones see something else -/
def Sees (ns : List Int) (B B' : Int → Int) (E E' : Int → List End) (M M' : Int → Str) (T : List Int) : Prop := ∀ n ∈ ns, (B' n = B n ∧ M' n = M n ∧ vwL M' (E' n) = vwL M (E n)) ↔ n ∉ T
theorem sees_mark {ns : List Int} {B : Int → Int} {E : Int → List End} {M : Int → Str} (G : GoodE ns E) {k : Int} (hk : k ∈ ns) {x : Str} (hx : x ≠ M k) : Sees ns B B E E M (fun j => if j = k then x else M j) (k :: (E k).map (·.1)) := by
  intro n hn
  have hM : ∀ j, (if j = k then x else M j) = M j ↔ j ≠ k := fun j => by
    by_cases e : j = k
    · subst e; rw [if_pos rfl]; exact ⟨fun z => absurd z hx, fun z => absurd rfl z⟩
    · rw [if_neg e]; exact ⟨fun _ => e, fun _ => rfl⟩
  have hV : vwL (fun j => if j = k then x else M j) (E n) = vwL M (E n) ↔ ∀ e ∈ E n, e.1 ≠ k := by
    unfold vwL
    rw [List.map_inj_left]
    refine forall_congr' fun e => forall_congr' fun he => ?_
    rw [Prod.mk.injEq, Prod.mk.injEq, ← hM]
    simp only [true_and]
  rw [hM, hV, List.mem_cons]
  constructor
  · rintro ⟨_, h1, h2⟩ (z | z)
    · exact h1 z
    · obtain ⟨e, he, rfl⟩ := List.mem_map.mp z
      exact h2 _ (G.sym k hk e he) rfl
  · intro h
    refine ⟨rfl, fun z => h (.inl z), fun e he z => h (.inr ?_)⟩
    have := G.sym n hn e he
    rw [z] at this
    exact List.mem_map.mpr ⟨_, this, rfl⟩
theorem sees_badge {ns : List Int} {B : Int → Int} {E : Int → List End} {M : Int → Str} {k b : Int} (hb : b ≠ B k) : Sees ns B (fun j => if j = k then b else B j) E E M M [k] := by
  intro n hn
  rw [List.mem_singleton]
  constructor
  · rintro ⟨h, _⟩ z
    subst z
    have h : (if n = n then b else B n) = B n := h
    rw [if_pos rfl] at h
    exact hb h
  · intro h
    exact ⟨if_neg h, rfl, rfl⟩
theorem sees_tie {ns : List Int} {B : Int → Int} {E : Int → List End} {M : Int → Str} (G : GoodE ns E) {k o p p' : Int} {t t' : Bool} {i : Nat} (hk : k ∈ ns) (he : (E k)[i]? = some (o, p, t)) (hd : p' ≠ p ∨ t' ≠ t) :
    Sees ns B B E (setE (setE E k ((E k).set i (o, p', t'))) o ((E o).map fun e => if e.1 = k then (k, p', t') else e)) M M [k, o] := by
  intro n hn
  have hm := List.mem_of_getElem? he
  obtain ⟨ho, hok, _⟩ := G.inn k hk _ hm
  have hs := G.sym k hk _ hm
  have ne : ((p', t', M o) : Int × Bool × Str) ≠ (p, t, M o) := fun z => by
    rw [Prod.mk.injEq, Prod.mk.injEq] at z
    rcases hd with h | h
    · exact h z.1
    · exact h z.2.1
  have ne2 : ((p', t', M k) : Int × Bool × Str) ≠ (p, t, M k) := fun z => by
    rw [Prod.mk.injEq, Prod.mk.injEq] at z
    rcases hd with h | h
    · exact h z.1
    · exact h z.2.1
  constructor
  · rintro ⟨_, _, h⟩ z
    rcases List.mem_cons.mp z with rfl | z
    · rw [setE_ne (fun z => hok z.symm), setE_same] at h
      have hi := congrArg (fun l => l[i]?) h
      unfold vwL at hi
      simp only [List.getElem?_map] at hi
      have hlt := (List.getElem?_eq_some_iff.mp he).1
      rw [List.getElem?_set_self hlt, he] at hi
      exact ne (Option.some.inj hi)
    · have : n = o := by simpa using z
      subst this
      rw [setE_same] at h
      unfold vwL at h
      rw [List.map_map, List.map_inj_left] at h
      have := h _ hs
      dsimp only [Function.comp] at this
      rw [if_pos rfl] at this
      exact ne2 this
  · intro h
    rw [setE_ne (fun z => h (by rw [z]; simp)), setE_ne (fun z => h (by rw [z]; simp))]
    exact ⟨rfl, rfl, rfl⟩

theorem joinL_nil : ∀ l : List (List Nat), TL.joinL [] l = l.flatten
  | [] => rfl
  | [p] => by simp [TL.joinL]
  | p :: q :: r => by
    show p ++ ([] ++ TL.joinL [] (q :: r)) = _
    rw [List.nil_append, joinL_nil (q :: r)]
    rfl
theorem join_tl (ys : List Str) : TL.tl (Txt.join "" ys) = (ys.map TL.tl).flatten := by
  rw [TL.join_eq, TL.tl_join]
  exact joinL_nil _
def spMark : Sp := fun vs H Q _ => ∃ l : Addr, vs = [.ref l] ∧ PoolAt H l ∧ ∀ x H2, Bits x → x.length ≤ 31 → PoolAt H2 l → Same (hide l H) (hide l H2) → Q (.str x) H2
theorem atI_sgn {x : Str} {r : Int} (h0 : 0 ≤ r) (h1 : r < x.length) : ∃ c ∈ TL.tl x, atI x.cps.toList r = some c := by
  obtain ⟨j, rfl⟩ := Int.eq_ofNat_of_zero_le h0
  have e : x.length = (TL.tl x).length := TL.len_tl x
  have hj : j < (TL.tl x).length := by omega
  exact ⟨(TL.tl x)[j], List.getElem_mem hj, atI_nat (by rw [List.getElem?_eq_getElem hj])⟩
section
variable {P : Program} {w : World} {K : PySem.W.Frag} {mg : Str → Option Value} {base : Heap}
theorem ok__law_mark (T : Txt K mg) : FnOk P w K mg base CX0 2 T._law_mark.f T._law_mark.fd ps__law_mark spMark := by
  have G__law_take := ok__law_take (P := P) (w := w) (base := base) T
  refine T._law_mark.F.ok sc__law_mark (fun vs H Q E h => ?_) (fun cdv A outer s H vs Q E hr h => ?_)
  · obtain ⟨l, rfl, _⟩ := h
    rfl
  obtain ⟨l, rfl, hp, q⟩ := h
  have hu := hu_of hr
  have hu4 := hr.units
  have hu65 := hu65_of hr
  refine ⟨_, (pss_one (ps_ret (pe_m1 PySem.F.slot_str_join PySem.F.type_str_join (mt_joinU : MtR _ _ (rJoinU K)) pe_str (pe_lc (own := [("_law_k", 1)]) rfl sc__law_mark.nd (pi_range1 (by rfl) T.n_range (pa_cons (pe_call G__law_take (hr.mono (by omega)) (by rfl) T._law_take.g T._law_take.F.kp T._law_take.b .nil pass0 (pa_cons (pv 0) (pa_cons pe_int pa_nil))) pa_nil)) (blkOk_by (own := [("_law_k", 1)]) (N := names__law_mark) (sc := defScope s__law_mark) (by decide +kernel)) (fun _ _ _ _ _ => (pg_name (i := 1) sc__law_mark.nd rfl (Or.inl rfl))) (fun _ _ _ _ _ => pts_nil) (fun _ _ _ _ _ => (pe_ix (r := rIx K) ix_seq pe_str (pe_call G__law_take (hr.mono (by omega)) (by rfl) T._law_take.g T._law_take.F.kp T._law_take.b .nil pass0 (pa_cons (pv 0) (pa_cons pe_int pa_nil))) (fun _ _ => rfl))))))), ?_⟩
  walk_at "go"
  refine ⟨l, 31, rfl, hp, by decide, by decide, fun r1 H1 a1 b1 hp1 s1 => ?_⟩
  walk_at "go"
  refine ⟨_, rfl, by omega, by omega, fun Dl hD => ?_⟩
  have nDl : Dl ≠ l := fun z => by
    obtain ⟨_, e⟩ := hp1.lst
    rw [z, e] at hD
    cases hD
  refine lc_range (fun i H' => PoolAt H' l ∧ Kp (· = l) H1 H' ∧ ∃ ss : List Str, H' Dl = some (.lst (ss.map V.str)) ∧ ss.length = i ∧ ∀ x ∈ ss, x.length = 1 ∧ Bits x)
    ⟨?_, fun b o nb e => ?_, [], upd_same, rfl, fun x hx => by simp at hx⟩ ?_ ?_
  · obtain ⟨c, sd, e, r⟩ := hp1
    exact ⟨c, sd, by rw [upd_ne (Ne.symm nDl)]; exact e, r⟩
  · rw [upd_ne (fun z => by rw [z, hD] at e; cases e)]; exact e
  · rintro i H' hi ⟨hp', kp, ss, eD, ls, hs⟩
    walk_at "go"
    refine ⟨rfl, ?_⟩
    walk_at "go"
    refine ⟨l, 2, rfl, hp', by decide, by decide, fun r2 H4 a2 b2 hp4 s4 => ?_⟩
    have e01 : TL.tl ("01" : Str) = [48, 49] := by decide +kernel
    obtain ⟨c, hc, ec⟩ := atI_sgn (x := "01") a2 (show r2 < ((2 : Nat) : Int) by omega)
    rw [e01] at hc
    refine j_ixS (lineB (by decide +kernel)) ec ?_
    refine ⟨_, hid_at s4 nDl eD, by rw [List.length_map, ls, sizeLine_eq]; omega, ?_, fun b o nb e => ?_, ss ++ [⟨#[c]⟩], ?_, by simp [ls], fun x hx => ?_⟩
    · obtain ⟨c, sd, e, r⟩ := hp4
      exact ⟨c, sd, by rw [upd_ne (Ne.symm nDl)]; exact e, r⟩
    · rw [upd_ne (fun z => by rw [z, hD] at e; cases e)]
      exact kp_hide s4 _ _ nb (kp _ _ nb e)
    · rw [upd_same, List.map_append]
      rfl
    · rcases List.mem_append.mp hx with hx | hx
      · exact hs x hx
      · have : x = ⟨#[c]⟩ := by simpa using hx
        subst this
        refine ⟨rfl, fun b hb => ?_⟩
        have hb : b ∈ [c] := hb
        have : b = c := by simpa using hb
        subst this
        simpa using hc
  · rintro H' ⟨hp', kp, ss, eD, ls, hs⟩
    have hsum : ∀ l : List Str, (∀ x ∈ l, x.length = 1 ∧ Bits x) → (l.map (·.length)).sum = l.length := fun l => by
      induction l with
      | nil => intro _; rfl
      | cons a r ih =>
        intro h
        rw [List.map_cons, List.sum_cons, ih fun x hx => h x (List.mem_cons_of_mem _ hx), (h a List.mem_cons_self).1, List.length_cons]
        omega
    have h1 := hsum ss hs
    walk_at "go"
    refine j_joinL ss (.of eD) rfl (by
      have e0 : ("" : Str).length = 0 := rfl
      rw [h1, e0, Nat.mul_zero]
      omega) ?_
    refine q _ H' (fun c hc => ?_) ?_ hp' (s1.trans (hide_kp kp))
    · rw [join_tl, List.mem_flatten] at hc
      obtain ⟨t, ht, hc⟩ := hc
      obtain ⟨x, hx, rfl⟩ := List.mem_map.mp ht
      exact (hs x hx).2 c hc
    · rw [TL.len_tl, join_tl, List.length_flatten, List.map_map]
      have e : (ss.map (List.length ∘ TL.tl)) = ss.map (·.length) := List.map_congr_left fun x _ => (TL.len_tl x).symm
      rw [e, h1]
      omega
end

def spChanged (K : PySem.W.Frag) : Sp := fun vs H Q _ => ∃ (w m l : Addr) (ns ks : List Int) (B : Int → Int) (E : Int → List End) (f : Int → V) (M : Int → Str), vs = [.ref w, .ref m, .ref l] ∧
  PoolAt H l ∧ WebAt (hide l H) w ns B E f ∧ GoodE ns E ∧ ns.Nodup ∧ 1 ≤ ns.length ∧ ns.length ≤ 63 ∧ (∀ n ∈ ns, 0 ≤ B n ∧ B n ≤ 9) ∧ (∀ n ∈ ns, (E n).length ≤ 12) ∧
  (hide l H) m = some (.dK (kvI ks fun n => .str (M n))) ∧ ks.length = ns.length ∧ (∀ n, n ∈ ks ↔ n ∈ ns) ∧ (∀ n ∈ ns, Bits (M n) ∧ (M n).length ≤ 31) ∧
  ∀ (r w' m' tl : Addr) (B' : Int → Int) (E' : Int → List End) (f' : Int → V) (M' : Int → Str) (T : List Int) (H2 : Hp), PoolAt H2 l → Same (hide l H) (hide l H2) → (hide l H2) r = some (.tup [.ref w', .ref m', .ref tl]) →
    WebAt (hide l H2) w' ns B' E' f' → (hide l H2) m' = some (.dK (kvI ks fun n => .str (M' n))) → (∀ n ∈ ns, Bits (M' n) ∧ (M' n).length ≤ 32) → (hide l H2) tl = some (.lst (T.map V.int)) →
    (∀ n ∈ ns, ∀ e ∈ E' n, e.1 ∈ ns) → (∀ n ∈ ns, (E' n).length ≤ 12) → Sees ns B B' E E' M M' T → Q (.ref r) H2
section
variable {P : Program} {w : World} {K : PySem.W.Frag} {mg : Str → Option Value} {base : Heap}
theorem WebC.same {H0 H H2 : Hp} {d : Addr} {A : Int → Addr} {ns : List Int} {B : Int → Int} {E : Int → List End} {f : Int → V} (W : WebC H0 H d A ns B E f) (s : Same H H2) : WebC H0 H2 d A ns B E f :=
  ⟨s _ _ W.dict, fun n hn => let ⟨t, vs, a, b, c, e⟩ := W.at_ n hn; ⟨t, vs, a, s _ _ b, s _ _ c, e.ts (ts_same s)⟩, W.inj, W.fr, W.frd⟩
theorem WebC.at' {H0 H : Hp} {d : Addr} {A : Int → Addr} {ns : List Int} {B : Int → Int} {E : Int → List End} {f : Int → V} (W : WebC H0 H d A ns B E f) : WebAt H d ns B E f :=
  ⟨W.dict, fun n hn => let ⟨t, vs, a, b, c, e⟩ := W.at_ n hn; ⟨t, A n, vs, a, b, c, e⟩⟩
theorem same_updN {S G : Hp} {a : Addr} {o : HO} (s : Same S G) (n : S a = none) : Same S (upd G a o) := fun b x e => by
  rw [upd_ne (fun z => by rw [z, n] at e; cases e)]
  exact s b x e
theorem hide_updC {l a : Addr} {G : Hp} {o : HO} (h : a ≠ l) : hide l (upd G a o) = upd (hide l G) a o := by
  funext b
  by_cases hb : b = l
  · subst hb
    rw [hide_self, upd_ne (Ne.symm h), hide_self]
  · rw [hide_ne hb]
    by_cases ha : b = a
    · subst ha; rw [upd_same, upd_same]
    · rw [upd_ne ha, upd_ne ha, hide_ne hb]
theorem WebC.hid {H0 H : Hp} {l d : Addr} {A : Int → Addr} {ns : List Int} {B : Int → Int} {E : Int → List End} {f : Int → V} (W : WebC H0 H d A ns B E f) (p0 : PoolAt H0 l) (p : PoolAt H l) : WebC H0 (hide l H) d A ns B E f := by
  obtain ⟨x0, e0⟩ := p0.lst
  obtain ⟨x, e⟩ := p.lst
  have ts := ts_hide e
  refine ⟨by rw [hide_ne (fun z => by have := W.frd; rw [z, e0] at this; cases this)]; exact W.dict, fun n hn => ?_, W.inj, W.fr, W.frd⟩
  obtain ⟨t, vs, a, b, c, g⟩ := W.at_ n hn
  exact ⟨t, vs, a, ts.t _ _ b, by rw [hide_ne (fun z => by have := W.fr n hn; rw [z, e0] at this; cases this)]; exact c, g.ts ts⟩
theorem WebC.updD {H0 H : Hp} {d a : Addr} {A : Int → Addr} {ns : List Int} {B : Int → Int} {E : Int → List End} {f : Int → V} (W : WebC H0 H d A ns B E f) {x : List (Key × V)} {o : HO} (h : H a = some (.dK x)) (n : d ≠ a) : WebC H0 (upd H a o) d A ns B E f := by
  have k : Kp (· = a) H (upd H a o) := fun b u nb e => by rw [upd_ne nb]; exact e
  have ts : TSm H (upd H a o) := ⟨fun b u e => k b _ (fun z => by rw [z, h] at e; cases e) e, fun b u v e => k b _ (fun z => by rw [z, h] at e; cases e) e⟩
  refine ⟨k _ _ n W.dict, fun m hm => ?_, W.inj, W.fr, W.frd⟩
  obtain ⟨t, vs, a1, b, c, g⟩ := W.at_ m hm
  exact ⟨t, vs, a1, ts.t _ _ b, k _ _ (fun z => by rw [z, h] at c; cases c) c, g.ts ts⟩
/-- another place's entry put in -/
theorem WebC.putD {H0 H : Hp} {d pt pl : Addr} {A : Int → Addr} {ns : List Int} {B : Int → Int} {E : Int → List End} {f : Int → V} (W : WebC H0 H d A ns B E f) {n b : Int} {es : List End} {vs : List V} (hn : n ∈ ns)
    (h1 : H pt = some (.tup [.int b, .ref pl])) (h2 : H pl = some (.lst vs)) (h3 : EndVs H vs es) :
    WebAt (upd H d (.dK (putK (kvI ns f) (Sum.inl n) (.ref pt)))) d ns (fun j => if j = n then b else B j) (setE E n es) (fun j => if j = n then .ref pt else f j) := by
  have k : Kp (· = d) H (upd H d (.dK (putK (kvI ns f) (Sum.inl n) (.ref pt)))) := fun b u nb e => by rw [upd_ne nb]; exact e
  have ts : TSm H (upd H d (.dK (putK (kvI ns f) (Sum.inl n) (.ref pt)))) := ⟨fun b u e => k b _ (fun z => by rw [z, W.dict] at e; cases e) e, fun b u v e => k b _ (fun z => by rw [z, W.dict] at e; cases e) e⟩
  have kl : ∀ a xs, H a = some (.lst xs) → upd H d (.dK (putK (kvI ns f) (Sum.inl n) (.ref pt))) a = some (.lst xs) := fun a xs e => k a _ (fun z => by rw [z, W.dict] at e; cases e) e
  refine ⟨by rw [upd_same, kv_put hn], fun m hm => ?_⟩
  try dsimp only
  by_cases e : m = n
  · subst e
    rw [if_pos rfl, if_pos rfl, setE_same]
    exact ⟨pt, pl, vs, rfl, ts.t _ _ h1, kl _ _ h2, h3.ts ts⟩
  · rw [if_neg e, if_neg e, setE_ne e]
    obtain ⟨t, vs, a1, b1, c1, g1⟩ := W.at_ m hm
    exact ⟨t, A m, vs, a1, ts.t _ _ b1, kl _ _ c1, g1.ts ts⟩
theorem Paired.setP {α β : Type} {F : α → β → Prop} : ∀ {a : List α} {b : List β} (i : Nat) {x : α} {y : β}, Paired F a b → F x y → Paired F (a.set i x) (b.set i y)
  | _, _, _, _, _, .nil, _ => .nil
  | _, _, 0, _, _, .cons _ t, h => .cons h t
  | _, _, i + 1, _, _, .cons q t, h => .cons q (Paired.setP i t h)
theorem WebC.setL {H0 H H2 : Hp} {d p : Addr} {A : Int → Addr} {ns : List Int} {B : Int → Int} {E : Int → List End} {f : Int → V} (W : WebC H0 H d A ns B E f) {n : Int} (hn : n ∈ ns) {vs : List V} (hv : H (A n) = some (.lst vs)) (s : Same (hide (A n) H) (hide (A n) H2)) {i : Nat} (e2 : H2 (A n) = some (.lst (vs.set i (.ref p))))
    {e : End} (he : H p = some (.tup [.int e.1, .int e.2.1, .bl e.2.2])) : WebC H0 H2 d A ns B (setE E n ((E n).set i e)) f := by
  have k := kp_hide s
  have ts := ts_mut hv s
  refine ⟨k _ _ (fun z => by have := W.dict; rw [z, hv] at this; cases this) W.dict, fun m hm => ?_, W.inj, W.fr, W.frd⟩
  obtain ⟨t, vm, a1, b1, c1, g1⟩ := W.at_ m hm
  by_cases z : m = n
  · subst z
    rw [hv] at c1
    cases c1
    rw [setE_same]
    exact ⟨t, _, a1, ts.t _ _ b1, e2, Paired.setP i (g1.ts ts) ⟨p, rfl, ts.t _ _ he⟩⟩
  · rw [setE_ne z]
    exact ⟨t, vm, a1, ts.t _ _ b1, k _ _ (fun q => z (W.inj m hm n hn q)) c1, g1.ts ts⟩
theorem ends_dp {K : PySem.W.Frag} {H : Hp} : ∀ {vs : List V} {es : List End}, EndVs H vs es → DpAll K H vs (es.map fun e => .tuple [.int e.1, .int e.2.1, .bool e.2.2])
  | _, _, .nil => .nil
  | _, _, .cons ⟨p, hp, e⟩ t => .cons (by rw [hp]; exact .tup (.of e) (.cons (.int _) (.cons (.int _) (.cons (.bl _) .nil)))) (ends_dp t)
theorem ends_shaped (es : List End) : SeqAt.shaped (.list (es.map fun e => PyData.tuple [.int e.1, .int e.2.1, .bool e.2.2])) = true := by
  have lay : ∀ l : List End, PyData.canLayAll0 (l.map fun e => PyData.tuple [.int e.1, .int e.2.1, .bool e.2.2]) = true := fun l => by
    induction l with
    | nil => rfl
    | cons a r ih => simp only [List.map_cons, PyData.canLayAll0, PyData.canLay0, ih, Bool.and_true]
  have dep : ∀ l : List End, PyData.depthAll (l.map fun e => PyData.tuple [.int e.1, .int e.2.1, .bool e.2.2]) ≤ 4 := fun l => by
    induction l with
    | nil => simp [PyData.depthAll]
    | cons a r ih =>
      simp only [List.map_cons, PyData.depthAll, PyData.depth]
      omega
  show ((PyData.list _).canLay0 && decide ((PyData.list _).depth ≤ 64)) = true
  rw [Bool.and_eq_true]
  refine ⟨by simp only [PyData.canLay0, lay], decide_eq_true ?_⟩
  have := dep es
  simp only [PyData.depth]
  omega
theorem ends_nil : ∀ es : List End, PyData.eqvAll (es.map fun e => PyData.tuple [.int e.1, .int e.2.1, .bool e.2.2]) [] = es.isEmpty
  | [] => vv_nil
  | _ :: _ => vv_ln _ _
theorem paired_of {α β : Type} {F : α → β → Prop} : ∀ {a : List α} {b : List β}, a.length = b.length → (∀ (k : Nat) (x : α), a[k]? = some x → ∀ y, b[k]? = some y → F x y) → Paired F a b
  | [], [], _, _ => .nil
  | x :: a, y :: b, hl, h => .cons (h 0 x rfl y rfl) (paired_of (by simpa using hl) fun k u hu v hv => h (k + 1) u (by simpa using hu) v (by simpa using hv))
  | [], _ :: _, hl, _ => by simp at hl
  | _ :: _, [], hl, _ => by simp at hl
theorem ixN_nt {n i : Nat} (h : i < n) : ixN n (i : Int) = some i := by
  unfold ixN
  rw [if_pos (by omega), if_pos (by omega), Int.toNat_natCast]
set_option maxHeartbeats 0 in
theorem ok__law_changed (T : Txt K mg) : FnOk P w K mg base CX0 3 T._law_changed.f T._law_changed.fd ps__law_changed (spChanged K) := by
  have G__law_copy := ok__law_copy (P := P) (w := w) (base := base) T
  have G__law_take := ok__law_take (P := P) (w := w) (base := base) T
  refine T._law_changed.F.ok sc__law_changed (fun vs H Q E h => ?_) (fun cdv A outer s H vs Q E hr h => ?_)
  · obtain ⟨w, m, l, ns, ks, B, E, f, M, rfl, _⟩ := h
    rfl
  obtain ⟨w, m, l, ns, ks, B, E, f, M, rfl, hp, W, G, nd, n1, n63, hB, hE, hm, lk, mk, hM, q⟩ := h
  have hu := hu_of hr
  have hu4 := hr.units
  have hu65 := hu65_of hr
  refine ⟨_, (pss_cons (ps_set (i := 0) sc__law_changed.nd rfl (Or.inl rfl) (pe_call G__law_copy (hr.mono (by omega)) (by rfl) T._law_copy.g T._law_copy.F.kp T._law_copy.b .nil pass0 (pa_cons (pv 0) pa_nil)))
  (pss_cons (ps_set (i := 1) sc__law_changed.nd rfl (Or.inl rfl) (pe_callTy (r := rDictU K) (uDict rfl) (by rfl) T.n_dict (by decide +kernel) (pa_cons (pv 1) pa_nil)))
  (pss_cons (ps_set (i := 3) sc__law_changed.nd rfl (Or.inr rfl) (pe_ix (r := rIx K) ix_seq (pe_callB (uSortDI rfl) (by rfl) T.n_sorted (by decide +kernel) (pa_cons (pv 0) pa_nil)) (pe_call G__law_take (hr.mono (by omega)) (by rfl) T._law_take.g T._law_take.F.kp T._law_take.b .nil pass0 (pa_cons (pv 2) (pa_cons (pe_callB (r := rLenU K) uLen (by rfl) T.n_len (by decide +kernel) (pa_cons (pv 0) pa_nil)) pa_nil))) (fun _ _ => rfl)))
  (pss_cons (ps_asg (pe_dget hu (pv 0) (pv 3) (fun _ _ => rfl)) (pg_tupK (n := 2) K rfl (by rfl) (pgs_cons (pg_name (i := 4) sc__law_changed.nd rfl (Or.inl rfl)) (pgs_cons (pg_name (i := 5) sc__law_changed.nd rfl (Or.inl rfl)) pgs_nil))))
  (pss_cons (ps_set (i := 6) sc__law_changed.nd rfl (Or.inl rfl) (pe_call G__law_take (hr.mono (by omega)) (by rfl) T._law_take.g T._law_take.F.kp T._law_take.b .nil pass0 (pa_cons (pv 2) (pa_cons pe_int pa_nil))))
  (pss_cons (ps_if (PW.pt (pw_or (pt_cmpR (r := rEqU K) (uEq hu4) (pv 6) pe_int (nomark _)) (pw_or1 (pt_cmpR (r := rEqU K) (uEq hu4) (pv 5) (pe_lst pa_nil) (nomark _))))) (pss_cons (ps_dput hu (pv 1) (pv 3) (pe_op uAdd (pe_dget hu (pv 1) (pv 3) (fun _ _ => rfl)) pe_str) rfl)
  (pss_one (ps_ret (pe_tup (pa_cons (pv 0) (pa_cons (pv 1) (pa_cons (pe_op uAdd (pe_lst (pa_cons (pv 3) pa_nil)) (pe_lc (own := [("_law_end", 7)]) rfl sc__law_changed.nd (pi_listK K rfl (pv 5)) (blkOk_by (own := [("_law_end", 7)]) (N := names__law_changed) (sc := defScope s__law_changed) (by decide +kernel)) (fun _ _ _ _ _ => (pg_name (i := 7) sc__law_changed.nd rfl (Or.inl rfl))) (fun _ _ _ _ _ => pts_nil) (fun _ _ _ _ _ => (pe_ix (r := rIx K) ix_seq (pv 7) pe_int (fun _ _ => rfl))))) pa_nil))))))) pss_nil)
  (pss_cons (ps_if (pt_cmpR (r := rEqU K) (uEq hu4) (pv 6) pe_int (nomark _)) (pss_cons (ps_dput hu (pv 0) (pv 3) (pe_tup (pa_cons (pe_op op_modN (pe_op uAdd (pv 4) pe_int) pe_int) (pa_cons (pv 5) pa_nil))) rfl)
  (pss_one (ps_ret (pe_tup (pa_cons (pv 0) (pa_cons (pv 1) (pa_cons (pe_lst (pa_cons (pv 3) pa_nil)) pa_nil))))))) pss_nil)
  (pss_cons (ps_set (i := 8) sc__law_changed.nd rfl (Or.inl rfl) (pe_call G__law_take (hr.mono (by omega)) (by rfl) T._law_take.g T._law_take.F.kp T._law_take.b .nil pass0 (pa_cons (pv 2) (pa_cons (pe_callB (r := rLenU K) uLen (by rfl) T.n_len (by decide +kernel) (pa_cons (pv 5) pa_nil)) pa_nil))))
  (pss_cons (ps_asg (pe_ix (r := rIx K) ix_seq (pv 5) (pv 8) (fun _ _ => rfl)) (pg_tupK (n := 3) K rfl (by rfl) (pgs_cons (pg_name (i := 9) sc__law_changed.nd rfl (Or.inl rfl)) (pgs_cons (pg_name (i := 10) sc__law_changed.nd rfl (Or.inr rfl)) (pgs_cons (pg_name (i := 11) sc__law_changed.nd rfl (Or.inr rfl)) pgs_nil)))))
  (pss_cons (ps_if (pt_cmpR (r := rEqU K) (uEq hu4) (pv 6) pe_int (nomark _)) (pss_one (ps_set (i := 10) sc__law_changed.nd rfl (Or.inr rfl) (pe_op uAdd (pe_op op_modN (pv 10) pe_int) pe_int))) (pss_one (ps_set (i := 11) sc__law_changed.nd rfl (Or.inr rfl) (pe_not (pv 11)))))
  (pss_cons (ps_asg (pe_tup (pa_cons (pv 9) (pa_cons (pv 10) (pa_cons (pv 11) pa_nil)))) (pg_sub (pv 5) (pv 8) set_list))
  (pss_cons (ps_set (i := 12) sc__law_changed.nd rfl (Or.inl rfl) (pe_ix (r := rIx K) ix_seq (pe_dget hu (pv 0) (pv 9) (fun _ _ => rfl)) pe_int (fun _ _ => rfl)))
  (pss_cons (ps_dput hu (pv 0) (pv 9) (pe_tup (pa_cons (pe_ix (r := rIx K) ix_seq (pe_dget hu (pv 0) (pv 9) (fun _ _ => rfl)) pe_int (fun _ _ => rfl)) (pa_cons (pe_lc (own := [("_law_end", 7)]) rfl sc__law_changed.nd (pi_listK K rfl (pv 12)) (blkOk_by (own := [("_law_end", 7)]) (N := names__law_changed) (sc := defScope s__law_changed) (by decide +kernel)) (fun _ _ _ _ _ => (pg_name (i := 7) sc__law_changed.nd rfl (Or.inl rfl))) (fun _ _ _ _ _ => pts_nil) (fun _ _ _ _ _ => (pe_ix (r := rIx K) ix_seq (pe_lst (pa_cons (pv 7) (pa_cons (pe_tup (pa_cons (pv 3) (pa_cons (pv 10) (pa_cons (pv 11) pa_nil)))) pa_nil))) (pe_callTy uInt (by rfl) T.n_int (by decide +kernel) (pa_cons (pe_cmpR (r := rEqU K) (uEq hu4) (pe_ix (r := rIx K) ix_seq (pv 7) pe_int (fun _ _ => rfl)) (pv 3) (nomark _)) pa_nil)) (fun _ _ => rfl)))) pa_nil))) rfl)
  (pss_one (ps_ret (pe_tup (pa_cons (pv 0) (pa_cons (pv 1) (pa_cons (pe_lst (pa_cons (pv 3) (pa_cons (pv 9) pa_nil))) pa_nil))))))))))))))))))), ?_⟩
  rw [show L2.start names__law_changed [V.ref w, V.ref m, V.ref l] = [some (.ref w), some (.ref m), some (.ref l), none, none, none, none, none, none, none, none, none, none] from rfl]
  have W0 : WebAt H w ns B E f := W.same (same_hide _ _)
  walk_at "go"
  refine ⟨w, ns, B, E, f, rfl, W0, nd, by omega, fun w2 A f2 H1 s1 WC => ?_⟩
  walk_at "go"
  refine j_dictD (.inl (s1 _ _ (same_hide _ _ _ _ hm))) ?_
  refine j_al fun m2 H2 n2 s2 e2 => ?_
  have WC2 := WC.same s2
  walk_at "go"
  refine j_sortD (.inl WC2.dict) (by omega) fun ys p3 H3 py sy n3 s3 e3 => ?_
  walk_at "go"
  refine j_lenD (s3 _ _ WC2.dict) ?_
  rw [kv_len]
  walk_at "go"
  have hp3 := hp.same (s1.trans (s2.trans s3))
  refine ⟨l, _, rfl, hp3, by omega, by omega, fun r4 H4 a4 b4 hp4 s4 => ?_⟩
  have ly : ys.length = ns.length := py.length_eq
  obtain ⟨j, nm, ej, hj, hjn, _, en⟩ := atI_intsL (l := ys) (n := ns.length) a4 b4 (by omega)
  have hnm : nm ∈ ns := py.mem_iff.mp (List.mem_of_getElem? hjn)
  have np3 : p3 ≠ l := fun z => by
    obtain ⟨_, e⟩ := (hp.same (s1.trans s2)).lst
    rw [z, e] at n3
    cases n3
  refine j_ixL (.of (hid_at s4 np3 e3)) en ?_
  have hw2 : w2 ≠ m2 := fun z => by
    have := WC.dict
    rw [z, n2] at this
    cases this
  have m2H : H m2 = none := by
    cases e : H m2 with
    | none => rfl
    | some o =>
      have := s1 _ _ e
      rw [n2] at this
      cases this
  have m2l : m2 ≠ l := fun z => by
    obtain ⟨_, e⟩ := (hp.same s1).lst
    rw [z, e] at n2
    cases n2
  have w2l : w2 ≠ l := fun z => by
    obtain ⟨_, e⟩ := hp.lst
    have := WC.frd
    rw [z, e] at this
    cases this
  have WC4 : WebC H (hide l H4) w2 A ns B E f2 := ((WC2.same s3).hid hp hp3).same s4
  have e4 : (hide l H4) m2 = some (.dK (kvI ks fun n => .str (M n))) := s4 _ _ (by rw [hide_ne m2l]; exact s3 _ _ e2)
  have sH4 : Same (hide l H) (hide l H4) := (hide_mono (s1.trans (s2.trans s3))).trans s4
  clear s4 en hjn ej hj b4 a4 r4 e3 n3 py sy ly s3 WC2 e2 s2 WC s1 W0 hp3
  walk_at "go"
  obtain ⟨t0, v0, ef0, et0, el0, ev0⟩ := WC4.at_ nm hnm
  have lv0 : v0.length = (E nm).length := ev0.length
  have hEn := hE nm hnm
  refine j_dgetI (.inl (same_hide _ _ _ _ WC4.dict)) hnm ef0 ?_
  refine j_gt (.of (same_hide _ _ _ _ et0)) rfl ?_
  walk_at "go"
  refine ⟨l, 4, rfl, hp4, by decide, by decide, fun way H5 a5 b5 hp5 s5 => ?_⟩
  have WC5 := WC4.same s5
  have e5 := s5 _ _ e4
  have sH5 := sH4.trans s5
  have et5 := s5 _ _ et0
  have el5 := s5 _ _ el0
  have ev5 := ev0.ts (ts_same s5)
  clear ev0 el0 et0 ef0 sH4 e4 WC4 s5
  walk_at "go"
  refine ite2 (fun c => ?_) (fun c => ?_)
  · have := 0
    walk_at "go"
    refine j_dgetI (.inl (same_hide _ _ _ _ e5)) ((mk nm).mpr hnm) rfl ?_
    dsimp only [List.set]
    walk_at "go"
    have hMn := hM nm hnm
    have l1 : ("1" : Str).length = 1 := rfl
    refine j_addS (lineB (by omega)) ?_
    walk_at "go"
    refine j_dputI (same_hide _ _ _ _ e5) (by rw [sizeLine_eq]; omega) ?_
    rw [kv_put ((mk nm).mpr hnm)]
    have WCy : WebC H (hide l (upd H5 m2 (.dK (kvI ks fun j => if j = nm then V.str (M nm ++ "1") else V.str (M j))))) w2 A ns B E f2 := by rw [hide_updC m2l]; exact WC5.updD e5 hw2
    have ey : (hide l (upd H5 m2 (.dK (kvI ks fun j => if j = nm then V.str (M nm ++ "1") else V.str (M j))))) m2 = some (.dK (kvI ks fun j => if j = nm then V.str (M nm ++ "1") else V.str (M j))) := by rw [hide_ne m2l, upd_same]
    have sHy : Same (hide l H) (hide l (upd H5 m2 (.dK (kvI ks fun j => if j = nm then V.str (M nm ++ "1") else V.str (M j))))) := by rw [hide_updC m2l]; exact same_updN sH5 (hide_none m2H)
    have hpy : PoolAt (upd H5 m2 (.dK (kvI ks fun j => if j = nm then V.str (M nm ++ "1") else V.str (M j)))) l := by
      obtain ⟨c, sd, e, r⟩ := hp5
      exact ⟨c, sd, by rw [upd_ne (Ne.symm m2l)]; exact e, r⟩
    generalize upd H5 m2 (.dK (kvI ks fun j => if j = nm then V.str (M nm ++ "1") else V.str (M j))) = Hy at WCy ey sHy hpy
    obtain ⟨ty, vy, efy, ety, ely, evy⟩ := WCy.at_ nm hnm
    have lvy : vy.length = (E nm).length := evy.length
    have hEn := hE nm hnm
    walk_at "go"
    refine j_al fun p7 H7 n7 s7 e7 => ?_
    have s7' := (same_hide l Hy).trans s7
    walk_at "go"
    refine ⟨⟨_, .of (s7' _ _ ely)⟩, fun Dl hD => ?_⟩
    refine lc_genL (fun i y _ => ∃ e, (E nm)[i]? = some e ∧ y = .int e.1) (fun _ => true) hD (.of (s7' _ _ ely)) (by omega) (fun _ _ _ _ _ r => r) (fun i x hx => ⟨fun H' C N s3 _ k1 _ => ?_⟩) (fun Hb zs sb eb mm => ?_)
    · obtain ⟨e, he, p, rfl, hp'⟩ := Paired.get evy hx
      walk_at "go"
      refine ⟨rfl, ?_⟩
      walk_at "go"
      refine j_ixT (.of (same_hide _ _ _ _ (s3 _ _ (s7' _ _ hp')))) (show atI [V.int e.1, V.int e.2.1, V.bl e.2.2] 0 = some (.int e.1) from rfl) ?_
      exact k1 rfl _ H' (Same.refl _) ⟨e, he, rfl⟩
    obtain ⟨ly, gy⟩ := mm.all
    have ezs : zs = ((E nm).map (·.1)).map V.int := by
      refine List.ext_getElem? fun k => ?_
      rw [List.map_map, List.getElem?_map]
      by_cases hk : k < zs.length
      · obtain ⟨e, he, hy⟩ := gy k zs[k] (List.getElem?_eq_getElem hk)
        rw [List.getElem?_eq_getElem hk, he, hy]
        rfl
      · rw [List.getElem?_eq_none (by omega), List.getElem?_eq_none (by omega)]
        rfl
    rw [ezs] at eb
    have s7b : Same H7 Hb := sb.trans (same_hide _ _)
    walk_at "go"
    refine j_addL (s7b _ _ e7) eb (lineB (by rw [List.length_map, List.length_map]; show 1 + _ ≤ _; omega)) ?_
    refine j_al fun p8 H8 n8 s8 e8 => ?_
    walk_at "go"
    refine j_al fun p9 H9 n9 s9 e9 => ?_
    have hp8 : PoolAt H8 l := hpy.same (s7.trans (s7b.trans s8))
    have hpb : PoolAt Hb l := hpy.same (s7.trans s7b)
    have sF : Same (hide l Hy) (hide l H9) := hide_mono (s7.trans (s7b.trans (s8.trans s9)))
    have np8 : p8 ≠ l := pool_ne hpb n8
    have np9 : p9 ≠ l := pool_ne hp8 n9
    refine q p9 w2 m2 p8 B E f2 (fun j => if j = nm then M nm ++ "1" else M j) (nm :: (E nm).map (·.1)) H9 (hp8.same s9) (sHy.trans sF) (by rw [hide_ne np9]; exact e9) (WCy.same sF).at' ?_ (fun n hn => ?_) ?_ (fun n hn e he => (G.inn n hn e he).1) hE ?_
    · rw [sF _ _ ey]
      congr 2
      refine kv_congr fun k _ => ?_
      try dsimp only
      split <;> rfl
    · try dsimp only
      split
      · refine ⟨fun c hc => ?_, by rw [TL.len_tl, TL.tl_append, List.length_append, ← TL.len_tl, ← TL.len_tl]; omega⟩
        rw [TL.tl_append] at hc
        rcases List.mem_append.mp hc with hc | hc
        · exact hMn.1 c hc
        · have : c ∈ [49] := hc
          exact .inr (by simpa using this)
      · exact ⟨(hM n hn).1, Nat.le_succ_of_le (hM n hn).2⟩
    · rw [hide_ne np8, s9 _ _ e8]
      rfl
    · refine sees_mark G hnm fun z => ?_
      have := congrArg (fun s : Str => (TL.tl s).length) z
      try dsimp only at this
      rw [TL.tl_append, List.length_append] at this
      have e1 : (TL.tl ("1" : Str)).length = 1 := rfl
      omega
  walk_at "go"
  refine j_al fun p6 H6 n6 s6 e6 => ?_
  have s6' := hide_mono (l := l) s6
  have WC6 := WC5.same s6'
  have sH6 := sH5.trans s6'
  have hp6 := hp5.same s6
  have et6 := s6' _ _ et5
  have el6 := s6' _ _ el5
  have ev6 := ev5.ts (ts_same s6')
  have ed6 := s6' _ _ e5
  refine j_eqD (d := .list ((E nm).map fun e => .tuple [.int e.1, .int e.2.1, .bool e.2.2])) (e := .list []) (.lst (.of (same_hide _ _ _ _ el6)) (ends_dp (ev6.ts (ts_same (same_hide _ _))))) (.lst (.of e6) .nil) (ends_shaped _) (by decide) ?_
  rw [vv_list, ends_nil]
  have e6 := ed6
  walk_at "go"
  refine ite2 (fun c2 => ?_) (fun c2 => ?_)
  · have := 0
    walk_at "go"
    refine j_dgetI (.inl (same_hide _ _ _ _ e6)) ((mk nm).mpr hnm) rfl ?_
    dsimp only [List.set]
    walk_at "go"
    have hMn := hM nm hnm
    have l1 : ("1" : Str).length = 1 := rfl
    refine j_addS (lineB (by omega)) ?_
    walk_at "go"
    refine j_dputI (same_hide _ _ _ _ e6) (by rw [sizeLine_eq]; omega) ?_
    rw [kv_put ((mk nm).mpr hnm)]
    have WCy : WebC H (hide l (upd H6 m2 (.dK (kvI ks fun j => if j = nm then V.str (M nm ++ "1") else V.str (M j))))) w2 A ns B E f2 := by rw [hide_updC m2l]; exact WC6.updD e6 hw2
    have ey : (hide l (upd H6 m2 (.dK (kvI ks fun j => if j = nm then V.str (M nm ++ "1") else V.str (M j))))) m2 = some (.dK (kvI ks fun j => if j = nm then V.str (M nm ++ "1") else V.str (M j))) := by rw [hide_ne m2l, upd_same]
    have sHy : Same (hide l H) (hide l (upd H6 m2 (.dK (kvI ks fun j => if j = nm then V.str (M nm ++ "1") else V.str (M j))))) := by rw [hide_updC m2l]; exact same_updN sH6 (hide_none m2H)
    have hpy : PoolAt (upd H6 m2 (.dK (kvI ks fun j => if j = nm then V.str (M nm ++ "1") else V.str (M j)))) l := by
      obtain ⟨c, sd, e, r⟩ := hp6
      exact ⟨c, sd, by rw [upd_ne (Ne.symm m2l)]; exact e, r⟩
    generalize upd H6 m2 (.dK (kvI ks fun j => if j = nm then V.str (M nm ++ "1") else V.str (M j))) = Hy at WCy ey sHy hpy
    obtain ⟨ty, vy, efy, ety, ely, evy⟩ := WCy.at_ nm hnm
    have lvy : vy.length = (E nm).length := evy.length
    have hEn := hE nm hnm
    walk_at "go"
    refine j_al fun p7 H7 n7 s7 e7 => ?_
    have s7' := (same_hide l Hy).trans s7
    walk_at "go"
    refine ⟨⟨_, .of (s7' _ _ ely)⟩, fun Dl hD => ?_⟩
    refine lc_genL (fun i y _ => ∃ e, (E nm)[i]? = some e ∧ y = .int e.1) (fun _ => true) hD (.of (s7' _ _ ely)) (by omega) (fun _ _ _ _ _ r => r) (fun i x hx => ⟨fun H' C N s3 _ k1 _ => ?_⟩) (fun Hb zs sb eb mm => ?_)
    · obtain ⟨e, he, p, rfl, hp'⟩ := Paired.get evy hx
      walk_at "go"
      refine ⟨rfl, ?_⟩
      walk_at "go"
      refine j_ixT (.of (same_hide _ _ _ _ (s3 _ _ (s7' _ _ hp')))) (show atI [V.int e.1, V.int e.2.1, V.bl e.2.2] 0 = some (.int e.1) from rfl) ?_
      exact k1 rfl _ H' (Same.refl _) ⟨e, he, rfl⟩
    obtain ⟨ly, gy⟩ := mm.all
    have ezs : zs = ((E nm).map (·.1)).map V.int := by
      refine List.ext_getElem? fun k => ?_
      rw [List.map_map, List.getElem?_map]
      by_cases hk : k < zs.length
      · obtain ⟨e, he, hy⟩ := gy k zs[k] (List.getElem?_eq_getElem hk)
        rw [List.getElem?_eq_getElem hk, he, hy]
        rfl
      · rw [List.getElem?_eq_none (by omega), List.getElem?_eq_none (by omega)]
        rfl
    rw [ezs] at eb
    have s7b : Same H7 Hb := sb.trans (same_hide _ _)
    walk_at "go"
    refine j_addL (s7b _ _ e7) eb (lineB (by rw [List.length_map, List.length_map]; show 1 + _ ≤ _; omega)) ?_
    refine j_al fun p8 H8 n8 s8 e8 => ?_
    walk_at "go"
    refine j_al fun p9 H9 n9 s9 e9 => ?_
    have hp8 : PoolAt H8 l := hpy.same (s7.trans (s7b.trans s8))
    have hpb : PoolAt Hb l := hpy.same (s7.trans s7b)
    have sF : Same (hide l Hy) (hide l H9) := hide_mono (s7.trans (s7b.trans (s8.trans s9)))
    have np8 : p8 ≠ l := pool_ne hpb n8
    have np9 : p9 ≠ l := pool_ne hp8 n9
    refine q p9 w2 m2 p8 B E f2 (fun j => if j = nm then M nm ++ "1" else M j) (nm :: (E nm).map (·.1)) H9 (hp8.same s9) (sHy.trans sF) (by rw [hide_ne np9]; exact e9) (WCy.same sF).at' ?_ (fun n hn => ?_) ?_ (fun n hn e he => (G.inn n hn e he).1) hE ?_
    · rw [sF _ _ ey]
      congr 2
      refine kv_congr fun k _ => ?_
      try dsimp only
      split <;> rfl
    · try dsimp only
      split
      · refine ⟨fun c hc => ?_, by rw [TL.len_tl, TL.tl_append, List.length_append, ← TL.len_tl, ← TL.len_tl]; omega⟩
        rw [TL.tl_append] at hc
        rcases List.mem_append.mp hc with hc | hc
        · exact hMn.1 c hc
        · have : c ∈ [49] := hc
          exact .inr (by simpa using this)
      · exact ⟨(hM n hn).1, Nat.le_succ_of_le (hM n hn).2⟩
    · rw [hide_ne np8, s9 _ _ e8]
      rfl
    · refine sees_mark G hnm fun z => ?_
      have := congrArg (fun s : Str => (TL.tl s).length) z
      try dsimp only at this
      rw [TL.tl_append, List.length_append] at this
      have e1 : (TL.tl ("1" : Str)).length = 1 := rfl
      omega
  have ne0 : E nm ≠ [] := fun z => c2 (by rw [z]; rfl)
  have lpos : 0 < (E nm).length := List.length_pos_iff.mpr ne0
  clear ev5 el5 et5 e5 WC5 sH5
  walk_at "go"
  refine ite2 (fun c3 => ?_) (fun c3 => ?_)
  · walk_at "go"
    refine j_rI (by decide) ?_
    walk_at "go"
    refine j_al fun p7 H7 n7 s7 e7 => ?_
    have s7' := hide_mono (l := l) s7
    have WC7 := WC6.same s7'
    have hp7 := hp6.same s7
    have np7 : p7 ≠ l := pool_ne hp6 n7
    walk_at "go"
    refine j_dputI (same_hide _ _ _ _ WC7.dict) (by rw [sizeLine_eq]; omega) ?_
    have WZ := WC7.putD hnm (pt := p7) (pl := A nm) (b := (B nm + 1).fmod 10) (by rw [hide_ne np7]; exact e7) (s7' _ _ el6) (ev6.ts (ts_same s7'))
    rw [← hide_updC w2l] at WZ
    have sHd : Same (hide l H) (hide l (upd H7 w2 (.dK (putK (kvI ns f2) (Sum.inl nm) (.ref p7))))) := by rw [hide_updC w2l]; exact same_updN (sH6.trans s7') (hide_none WC7.frd)
    have emd : (hide l (upd H7 w2 (.dK (putK (kvI ns f2) (Sum.inl nm) (.ref p7))))) m2 = some (.dK (kvI ks fun n => .str (M n))) := by rw [hide_updC w2l, upd_ne (Ne.symm hw2)]; exact s7' _ _ e6
    have hpd : PoolAt (upd H7 w2 (.dK (putK (kvI ns f2) (Sum.inl nm) (.ref p7)))) l := by
      obtain ⟨c, sd, e, r⟩ := hp7
      exact ⟨c, sd, by rw [upd_ne (Ne.symm w2l)]; exact e, r⟩
    generalize upd H7 w2 (.dK (putK (kvI ns f2) (Sum.inl nm) (.ref p7))) = Hd at WZ sHd emd hpd
    walk_at "go"
    refine j_al fun pe He ne se ee => ?_
    walk_at "go"
    refine j_al fun pf Hf nf sf ef => ?_
    have hpe := hpd.same se
    have npe : pe ≠ l := pool_ne hpd ne
    have npf : pf ≠ l := pool_ne hpe nf
    have sdf : Same (hide l Hd) (hide l Hf) := hide_mono (se.trans sf)
    have EE : setE E nm (E nm) = E := by
      funext j
      unfold setE
      split
      · rename_i z; rw [z]
      · rfl
    rw [EE] at WZ
    refine q pf w2 m2 pe _ E _ M [nm] Hf (hpe.same sf) (sHd.trans sdf) (by rw [hide_ne npf]; exact ef) (WZ.same sdf) (sdf _ _ emd) (fun n hn => ⟨(hM n hn).1, Nat.le_succ_of_le (hM n hn).2⟩) (by rw [hide_ne npe]; exact sf _ _ ee) (fun n hn e he => (G.inn n hn e he).1) hE (sees_badge ?_)
    obtain ⟨b0, b9⟩ := hB nm hnm
    rw [Int.fmod_eq_emod_of_nonneg _ (by decide)]
    omega
  walk_at "go"
  refine j_lenL (.of (same_hide _ _ _ _ el6)) ?_
  rw [lv0]
  walk_at "go"
  refine ⟨l, _, rfl, hp6, by omega, by omega, fun r7 H7 a7 b7 hp7 s7 => ?_⟩
  have WC7 := WC6.same s7
  have e7 := s7 _ _ e6
  have sH7 := sH6.trans s7
  have el7 := s7 _ _ el6
  have ev7 := ev6.ts (ts_same s7)
  obtain ⟨ix, rfl⟩ := Int.eq_ofNat_of_zero_le a7
  have hix : ix < (E nm).length := by omega
  obtain ⟨x, hx⟩ : ∃ x, v0[ix]? = some x := ⟨_, List.getElem?_eq_getElem (by omega)⟩
  obtain ⟨⟨o, p, t⟩, hei, pp, rfl, hpp⟩ := Paired.get ev7 hx
  have eix : ixN v0.length (ix : Int) = some ix := ixN_nt (by omega)
  have hom : o ∈ ns := (G.inn nm hnm _ (List.mem_of_getElem? hei)).1
  have hone : o ≠ nm := (G.inn nm hnm _ (List.mem_of_getElem? hei)).2.1
  have hpr := (G.inn nm hnm _ (List.mem_of_getElem? hei)).2.2
  dsimp only at hpr
  walk_at "go"
  refine j_ixL (.of (same_hide _ _ _ _ el7)) (atI_nat hx) ?_
  refine j_gt (.of (same_hide _ _ _ _ hpp)) rfl ?_
  walk_at "go"
  refine ite2 (fun c4 => ?_) (fun c4 => ?_)
  · walk_at "go"
    refine j_rI (by decide) ?_
    walk_at "go"
    obtain ⟨p', ep'⟩ : ∃ p' : Int, p.fmod 60 + 1 = p' := ⟨_, rfl⟩
    obtain ⟨t', et'⟩ : ∃ t' : Bool, t = t' := ⟨_, rfl⟩
    have hdiff : p' ≠ p ∨ t' ≠ t := .inl (by
      rw [← ep', Int.fmod_eq_emod_of_nonneg _ (by decide)]
      omega)
    rw [ep']
    subst et'
    revert hdiff
    generalize ht : t = t'
    intro hdiff
    subst ht
    walk_at "go"
    refine j_al fun p8 H8 n8 s8 e8 => ?_
    dsimp only [List.set]
    have WC8 := WC7.same (hide_mono (l := l) s8)
    have np8 : p8 ≠ l := pool_ne hp7 n8
    have el8 : (hide l H8) (A nm) = some (.lst v0) := (hide_mono s8) _ _ el7
    have nAl : A nm ≠ l := fun z => by rw [z, hide_self] at el8; cases el8
    have hp8 := hp7.same s8
    walk_at "go"
    refine j_setL (same_hide _ _ _ _ el8) eix fun H9 s9 e9 => ?_
    have s9' : Same (hide (A nm) (hide l H8)) (hide (A nm) (hide l H9)) := fun b o hb => by
      by_cases z1 : b = A nm
      · rw [z1, hide_self] at hb; cases hb
      · rw [hide_ne z1] at hb ⊢
        by_cases z2 : b = l
        · rw [z2, hide_self] at hb; cases hb
        · rw [hide_ne z2] at hb ⊢
          have := s9 b o (by rw [hide_ne z1]; exact hb)
          rwa [hide_ne z1] at this
    have WC9 : WebC H (hide l H9) w2 A ns B (setE E nm ((E nm).set ix (o, p', t))) f2 := WC8.setL hnm el8 s9' (by rw [hide_ne nAl]; exact e9) (e := (o, p', t)) (by rw [hide_ne np8]; exact e8)
    have sH9 : Same (hide l H) (hide l H9) := fun b x hb => by
      have h8 := (sH7.trans (hide_mono s8)) b x hb
      have nb : b ≠ A nm := fun z => by
        have := hide_none (l := l) (WC8.fr nm hnm)
        rw [z, this] at hb
        cases hb
      have := s9' b x (by rw [hide_ne nb]; exact h8)
      rwa [hide_ne nb] at this
    have hp9 : PoolAt H9 l := by
      obtain ⟨c, sd, e, r⟩ := hp8
      exact ⟨c, sd, hid_at s9 (Ne.symm nAl) e, r⟩
    have em9 : (hide l H9) m2 = some (.dK (kvI ks fun n => .str (M n))) := by
      have h8 := (hide_mono s8) _ _ e7
      have nb : m2 ≠ A nm := fun z => by rw [z, el8] at h8; cases h8
      have := s9' m2 _ (by rw [hide_ne nb]; exact h8)
      rwa [hide_ne nb] at this
    obtain ⟨to, vo, efo, eto, elo, evo⟩ := WC9.at_ o hom
    rw [setE_ne hone] at evo
    have lvo : vo.length = (E o).length := evo.length
    have hEo := hE o hom
    walk_at "go"
    refine j_dgetI (.inl (same_hide _ _ _ _ WC9.dict)) hom efo ?_
    walk_at "go"
    refine j_ixT (.of (same_hide _ _ _ _ eto)) (show atI [V.int (B o), V.ref (A o)] 1 = some (.ref (A o)) from rfl) ?_
    walk_at "go"
    refine j_dgetI (.inl (same_hide _ _ _ _ WC9.dict)) hom efo ?_
    walk_at "go"
    refine j_ixT (.of (same_hide _ _ _ _ eto)) (show atI [V.int (B o), V.ref (A o)] 0 = some (.int (B o)) from rfl) ?_
    walk_at "go"
    refine ⟨⟨_, .of (same_hide _ _ _ _ elo)⟩, fun Dl hD => ?_⟩
    refine lc_genL (fun i y G => ∀ e, (E o)[i]? = some e → EndV G y (if e.1 = nm then (nm, p', t) else e)) (fun _ => true) hD (.of (same_hide _ _ _ _ elo)) (by omega) (fun i y G G' sg r e he => (r e he).ts (ts_same sg)) (fun i x hx => ⟨fun H' C N s3 hacc k1 _ => ?_⟩) (fun Hb zs sb eb mm => ?_)
    · obtain ⟨e, he, p, rfl, hp'⟩ := Paired.get evo hx
      have s9b : Same (hide l H9) H' := (same_hide l H9).trans (s3.trans (same_hide _ _))
      obtain ⟨acc, eacc⟩ := hacc
      walk_at "go"
      refine ⟨rfl, ?_⟩
      walk_at "go"
      refine j_al fun pa Ha na sa ea => ?_
      walk_at "go"
      refine j_al fun pb Hbb nb sb' eb' => ?_
      walk_at "go"
      refine j_ixT (.of (sb' _ _ (sa _ _ (s9b _ _ hp')))) (show atI [V.int e.1, V.int e.2.1, V.bl e.2.2] 0 = some (.int e.1) from rfl) ?_
      walk_at "go"
      have de : decide (V.int e.1 = V.int nm) = decide (e.1 = nm) := by
        by_cases z : e.1 = nm
        · rw [z]; simp
        · rw [decide_eq_false z]; exact decide_eq_false fun q => z (V.int.inj q)
      rw [de]
      have nDa : pa ≠ Dl := fun z => by rw [z, eacc] at na; cases na
      have nDp : p ≠ Dl := fun z => by
        have := s9b _ _ hp'
        rw [z, eacc] at this
        cases this
      by_cases z : e.1 = nm
      · rw [decide_eq_true z]
        refine j_ixL (v := .ref pa) (.of eb') rfl ?_
        refine k1 rfl _ Hbb (sa.trans sb') fun e' he' => ?_
        rw [he] at he'
        cases he'
        rw [if_pos z]
        exact ⟨pa, rfl, by rw [hide_ne nDa]; exact sb' _ _ ea⟩
      · rw [decide_eq_false z]
        refine j_ixL (v := .ref p) (.of eb') rfl ?_
        refine k1 rfl _ Hbb (sa.trans sb') fun e' he' => ?_
        rw [he] at he'
        cases he'
        rw [if_neg z]
        exact ⟨p, rfl, by rw [hide_ne nDp]; exact sb' _ _ (sa _ _ (s9b _ _ hp'))⟩
    obtain ⟨lz, gz⟩ := mm.all
    have s9b : Same H9 Hb := sb.trans (same_hide _ _)
    have evz : EndVs (hide Dl Hb) zs ((E o).map fun e => if e.1 = nm then (nm, p', t) else e) := paired_of (by rw [List.length_map]; omega) fun k y hy e he => by
      rw [List.getElem?_map] at he
      cases e0 : (E o)[k]? with
      | none => rw [e0] at he; cases he
      | some e1 =>
        rw [e0] at he
        have := Option.some.inj he
        rw [← this]
        exact gz k y hy e1 e0
    walk_at "go"
    refine j_al fun pc Hc nc sc ec => ?_
    have hpb : PoolAt Hb l := hp9.same s9b
    have hpc := hpb.same sc
    have npc : pc ≠ l := pool_ne hpb nc
    have nDl : Dl ≠ l := pool_ne hp9 hD
    have WCc := WC9.same (hide_mono (l := l) (s9b.trans sc))
    have eDl : (hide l Hc) Dl = some (.lst zs) := by rw [hide_ne nDl]; exact sc _ _ eb
    have tsz : TSm (hide Dl Hb) (hide l Hc) := by
      obtain ⟨_, el⟩ := hpb.lst
      exact ((ts_same (same_hide Dl Hb)).trans (ts_hide el)).trans (ts_same (hide_mono sc))
    walk_at "go"
    refine j_dputI (same_hide _ _ _ _ WCc.dict) (by rw [sizeLine_eq]; omega) ?_
    have WZ := WCc.putD hom (pt := pc) (pl := Dl) (b := B o) (by rw [hide_ne npc]; exact ec) eDl (evz.ts tsz)
    have sHc : Same (hide l H) (hide l Hc) := sH9.trans (hide_mono (s9b.trans sc))
    have emc : (hide l Hc) m2 = some (.dK (kvI ks fun n => .str (M n))) := hide_mono (s9b.trans sc) _ _ em9
    have sHd : Same (hide l H) (hide l (upd Hc w2 (.dK (putK (kvI ns f2) (Sum.inl o) (.ref pc))))) := by rw [hide_updC w2l]; exact same_updN sHc (hide_none WC9.frd)
    have emd : (hide l (upd Hc w2 (.dK (putK (kvI ns f2) (Sum.inl o) (.ref pc))))) m2 = some (.dK (kvI ks fun n => .str (M n))) := by rw [hide_updC w2l, upd_ne (Ne.symm hw2)]; exact emc
    rw [← hide_updC w2l] at WZ
    have hpd : PoolAt (upd Hc w2 (.dK (putK (kvI ns f2) (Sum.inl o) (.ref pc)))) l := by
      obtain ⟨c, sd, e, r⟩ := hpc
      exact ⟨c, sd, by rw [upd_ne (Ne.symm w2l)]; exact e, r⟩
    generalize upd Hc w2 (.dK (putK (kvI ns f2) (Sum.inl o) (.ref pc))) = Hd at WZ sHd emd hpd
    walk_at "go"
    refine j_al fun pe He ne se ee => ?_
    walk_at "go"
    refine j_al fun pf Hf nf sf ef => ?_
    have hpe := hpd.same se
    have npe : pe ≠ l := pool_ne hpd ne
    have npf : pf ≠ l := pool_ne hpe nf
    have sdf : Same (hide l Hd) (hide l Hf) := hide_mono (se.trans sf)
    have BB : (fun j => if j = o then B o else B j) = B := by
      funext j
      split
      · rename_i z; rw [z]
      · rfl
    rw [BB] at WZ
    refine q pf w2 m2 pe B _ _ M [nm, o] Hf (hpe.same sf) (sHd.trans sdf) (by rw [hide_ne npf]; exact ef) (WZ.same sdf) (sdf _ _ emd) (fun n hn => ⟨(hM n hn).1, Nat.le_succ_of_le (hM n hn).2⟩) (by rw [hide_ne npe]; exact sf _ _ ee) (fun n hn e he => ?_) (fun n hn => ?_) (sees_tie G hnm hei hdiff)
    · by_cases z1 : n = o
      · subst z1
        rw [setE_same] at he
        obtain ⟨e1, he1, rfl⟩ := List.mem_map.mp he
        try dsimp only
        split
        · exact hnm
        · exact (G.inn _ hn e1 he1).1
      · rw [setE_ne z1] at he
        by_cases z2 : n = nm
        · subst z2
          rw [setE_same] at he
          rcases List.mem_or_eq_of_mem_set he with h | h
          · exact (G.inn _ hn e h).1
          · rw [h]; exact hom
        · rw [setE_ne z2] at he
          exact (G.inn n hn e he).1
    · by_cases z1 : n = o
      · subst z1
        rw [setE_same, List.length_map]
        exact hE _ hn
      · rw [setE_ne z1]
        by_cases z2 : n = nm
        · subst z2
          rw [setE_same, List.length_set]
          exact hE _ hn
        · rw [setE_ne z2]
          exact hE n hn
  · walk_at "go"
    obtain ⟨t', et'⟩ : ∃ t' : Bool, (!t) = t' := ⟨_, rfl⟩
    have hdiff : p ≠ p ∨ t' ≠ t := .inr (by rw [← et']; cases t <;> decide)
    rw [et']
    walk_at "go"
    refine j_al fun p8 H8 n8 s8 e8 => ?_
    dsimp only [List.set]
    have WC8 := WC7.same (hide_mono (l := l) s8)
    have np8 : p8 ≠ l := pool_ne hp7 n8
    have el8 : (hide l H8) (A nm) = some (.lst v0) := (hide_mono s8) _ _ el7
    have nAl : A nm ≠ l := fun z => by rw [z, hide_self] at el8; cases el8
    have hp8 := hp7.same s8
    walk_at "go"
    refine j_setL (same_hide _ _ _ _ el8) eix fun H9 s9 e9 => ?_
    have s9' : Same (hide (A nm) (hide l H8)) (hide (A nm) (hide l H9)) := fun b o hb => by
      by_cases z1 : b = A nm
      · rw [z1, hide_self] at hb; cases hb
      · rw [hide_ne z1] at hb ⊢
        by_cases z2 : b = l
        · rw [z2, hide_self] at hb; cases hb
        · rw [hide_ne z2] at hb ⊢
          have := s9 b o (by rw [hide_ne z1]; exact hb)
          rwa [hide_ne z1] at this
    have WC9 : WebC H (hide l H9) w2 A ns B (setE E nm ((E nm).set ix (o, p, t'))) f2 := WC8.setL hnm el8 s9' (by rw [hide_ne nAl]; exact e9) (e := (o, p, t')) (by rw [hide_ne np8]; exact e8)
    have sH9 : Same (hide l H) (hide l H9) := fun b x hb => by
      have h8 := (sH7.trans (hide_mono s8)) b x hb
      have nb : b ≠ A nm := fun z => by
        have := hide_none (l := l) (WC8.fr nm hnm)
        rw [z, this] at hb
        cases hb
      have := s9' b x (by rw [hide_ne nb]; exact h8)
      rwa [hide_ne nb] at this
    have hp9 : PoolAt H9 l := by
      obtain ⟨c, sd, e, r⟩ := hp8
      exact ⟨c, sd, hid_at s9 (Ne.symm nAl) e, r⟩
    have em9 : (hide l H9) m2 = some (.dK (kvI ks fun n => .str (M n))) := by
      have h8 := (hide_mono s8) _ _ e7
      have nb : m2 ≠ A nm := fun z => by rw [z, el8] at h8; cases h8
      have := s9' m2 _ (by rw [hide_ne nb]; exact h8)
      rwa [hide_ne nb] at this
    obtain ⟨to, vo, efo, eto, elo, evo⟩ := WC9.at_ o hom
    rw [setE_ne hone] at evo
    have lvo : vo.length = (E o).length := evo.length
    have hEo := hE o hom
    walk_at "go"
    refine j_dgetI (.inl (same_hide _ _ _ _ WC9.dict)) hom efo ?_
    walk_at "go"
    refine j_ixT (.of (same_hide _ _ _ _ eto)) (show atI [V.int (B o), V.ref (A o)] 1 = some (.ref (A o)) from rfl) ?_
    walk_at "go"
    refine j_dgetI (.inl (same_hide _ _ _ _ WC9.dict)) hom efo ?_
    walk_at "go"
    refine j_ixT (.of (same_hide _ _ _ _ eto)) (show atI [V.int (B o), V.ref (A o)] 0 = some (.int (B o)) from rfl) ?_
    walk_at "go"
    refine ⟨⟨_, .of (same_hide _ _ _ _ elo)⟩, fun Dl hD => ?_⟩
    refine lc_genL (fun i y G => ∀ e, (E o)[i]? = some e → EndV G y (if e.1 = nm then (nm, p, t') else e)) (fun _ => true) hD (.of (same_hide _ _ _ _ elo)) (by omega) (fun i y G G' sg r e he => (r e he).ts (ts_same sg)) (fun i x hx => ⟨fun H' C N s3 hacc k1 _ => ?_⟩) (fun Hb zs sb eb mm => ?_)
    · obtain ⟨e, he, p, rfl, hp⟩ := Paired.get evo hx
      have s9b : Same (hide l H9) H' := (same_hide l H9).trans (s3.trans (same_hide _ _))
      obtain ⟨acc, eacc⟩ := hacc
      walk_at "go"
      refine ⟨rfl, ?_⟩
      walk_at "go"
      refine j_al fun pa Ha na sa ea => ?_
      walk_at "go"
      refine j_al fun pb Hbb nb sb' eb' => ?_
      walk_at "go"
      refine j_ixT (.of (sb' _ _ (sa _ _ (s9b _ _ hp)))) (show atI [V.int e.1, V.int e.2.1, V.bl e.2.2] 0 = some (.int e.1) from rfl) ?_
      walk_at "go"
      have de : decide (V.int e.1 = V.int nm) = decide (e.1 = nm) := by
        by_cases z : e.1 = nm
        · rw [z]; simp
        · rw [decide_eq_false z]; exact decide_eq_false fun q => z (V.int.inj q)
      rw [de]
      have nDa : pa ≠ Dl := fun z => by rw [z, eacc] at na; cases na
      have nDp : p ≠ Dl := fun z => by
        have := s9b _ _ hp
        rw [z, eacc] at this
        cases this
      by_cases z : e.1 = nm
      · rw [decide_eq_true z]
        refine j_ixL (v := .ref pa) (.of eb') rfl ?_
        refine k1 rfl _ Hbb (sa.trans sb') fun e' he' => ?_
        rw [he] at he'
        cases he'
        rw [if_pos z]
        exact ⟨pa, rfl, by rw [hide_ne nDa]; exact sb' _ _ ea⟩
      · rw [decide_eq_false z]
        refine j_ixL (v := .ref p) (.of eb') rfl ?_
        refine k1 rfl _ Hbb (sa.trans sb') fun e' he' => ?_
        rw [he] at he'
        cases he'
        rw [if_neg z]
        exact ⟨p, rfl, by rw [hide_ne nDp]; exact sb' _ _ (sa _ _ (s9b _ _ hp))⟩
    obtain ⟨lz, gz⟩ := mm.all
    have s9b : Same H9 Hb := sb.trans (same_hide _ _)
    have evz : EndVs (hide Dl Hb) zs ((E o).map fun e => if e.1 = nm then (nm, p, t') else e) := paired_of (by rw [List.length_map]; omega) fun k y hy e he => by
      rw [List.getElem?_map] at he
      cases e0 : (E o)[k]? with
      | none => rw [e0] at he; cases he
      | some e1 =>
        rw [e0] at he
        have := Option.some.inj he
        rw [← this]
        exact gz k y hy e1 e0
    walk_at "go"
    refine j_al fun pc Hc nc sc ec => ?_
    have hpb : PoolAt Hb l := hp9.same s9b
    have hpc := hpb.same sc
    have npc : pc ≠ l := pool_ne hpb nc
    have nDl : Dl ≠ l := pool_ne hp9 hD
    have WCc := WC9.same (hide_mono (l := l) (s9b.trans sc))
    have eDl : (hide l Hc) Dl = some (.lst zs) := by rw [hide_ne nDl]; exact sc _ _ eb
    have tsz : TSm (hide Dl Hb) (hide l Hc) := by
      obtain ⟨_, el⟩ := hpb.lst
      exact ((ts_same (same_hide Dl Hb)).trans (ts_hide el)).trans (ts_same (hide_mono sc))
    walk_at "go"
    refine j_dputI (same_hide _ _ _ _ WCc.dict) (by rw [sizeLine_eq]; omega) ?_
    have WZ := WCc.putD hom (pt := pc) (pl := Dl) (b := B o) (by rw [hide_ne npc]; exact ec) eDl (evz.ts tsz)
    have sHc : Same (hide l H) (hide l Hc) := sH9.trans (hide_mono (s9b.trans sc))
    have emc : (hide l Hc) m2 = some (.dK (kvI ks fun n => .str (M n))) := hide_mono (s9b.trans sc) _ _ em9
    have sHd : Same (hide l H) (hide l (upd Hc w2 (.dK (putK (kvI ns f2) (Sum.inl o) (.ref pc))))) := by rw [hide_updC w2l]; exact same_updN sHc (hide_none WC9.frd)
    have emd : (hide l (upd Hc w2 (.dK (putK (kvI ns f2) (Sum.inl o) (.ref pc))))) m2 = some (.dK (kvI ks fun n => .str (M n))) := by rw [hide_updC w2l, upd_ne (Ne.symm hw2)]; exact emc
    rw [← hide_updC w2l] at WZ
    have hpd : PoolAt (upd Hc w2 (.dK (putK (kvI ns f2) (Sum.inl o) (.ref pc)))) l := by
      obtain ⟨c, sd, e, r⟩ := hpc
      exact ⟨c, sd, by rw [upd_ne (Ne.symm w2l)]; exact e, r⟩
    generalize upd Hc w2 (.dK (putK (kvI ns f2) (Sum.inl o) (.ref pc))) = Hd at WZ sHd emd hpd
    walk_at "go"
    refine j_al fun pe He ne se ee => ?_
    walk_at "go"
    refine j_al fun pf Hf nf sf ef => ?_
    have hpe := hpd.same se
    have npe : pe ≠ l := pool_ne hpd ne
    have npf : pf ≠ l := pool_ne hpe nf
    have sdf : Same (hide l Hd) (hide l Hf) := hide_mono (se.trans sf)
    have BB : (fun j => if j = o then B o else B j) = B := by
      funext j
      split
      · rename_i z; rw [z]
      · rfl
    rw [BB] at WZ
    refine q pf w2 m2 pe B _ _ M [nm, o] Hf (hpe.same sf) (sHd.trans sdf) (by rw [hide_ne npf]; exact ef) (WZ.same sdf) (sdf _ _ emd) (fun n hn => ⟨(hM n hn).1, Nat.le_succ_of_le (hM n hn).2⟩) (by rw [hide_ne npe]; exact sf _ _ ee) (fun n hn e he => ?_) (fun n hn => ?_) (sees_tie G hnm hei hdiff)
    · by_cases z1 : n = o
      · subst z1
        rw [setE_same] at he
        obtain ⟨e1, he1, rfl⟩ := List.mem_map.mp he
        try dsimp only
        split
        · exact hnm
        · exact (G.inn _ hn e1 he1).1
      · rw [setE_ne z1] at he
        by_cases z2 : n = nm
        · subst z2
          rw [setE_same] at he
          rcases List.mem_or_eq_of_mem_set he with h | h
          · exact (G.inn _ hn e h).1
          · rw [h]; exact hom
        · rw [setE_ne z2] at he
          exact (G.inn n hn e he).1
    · by_cases z1 : n = o
      · subst z1
        rw [setE_same, List.length_map]
        exact hE _ hn
      · rw [setE_ne z1]
        by_cases z2 : n = nm
        · subst z2
          rw [setE_same, List.length_set]
          exact hE _ hn
        · rw [setE_ne z2]
          exact hE n hn
end

def spLaw (K : PySem.W.Frag) : Sp := fun vs H Q _ => ∃ (a : Addr) (ns : List Int), vs = [.ref a] ∧ SqL K H a (ns.map V.int) ∧ ns.length ≤ 63 ∧ ∀ H', Q (.bl true) H'
/-- lists and tuples stay where a locked dict is left -/
theorem dp_move {K : PySem.W.Frag} {H H2 : Hp} (k : ∀ b o, H b = some o → (∀ kvs, o ≠ .dK kvs) → (∀ x kvs, o ≠ .frz x (.dK kvs)) → H2 b = some o) :
    (∀ {v : V} {d : PyData}, Dp K H v d → Dp K H2 v d) := by
  have hl : ∀ {a : Addr} {xs : List V}, SqL K H a xs → SqL K H2 a xs := fun h => by
    rcases h with (h | ⟨o, h⟩) | h
    · exact .inl (.inl (k _ _ h (fun _ z => by cases z) (fun _ _ z => by cases z)))
    · exact .inl (.inr ⟨o, k _ _ h (fun _ z => by cases z) (fun _ _ z => by cases z)⟩)
    · exact .inr h
  have ht : ∀ {a : Addr} {xs : List V}, SqT K H a xs → SqT K H2 a xs := fun h => by
    rcases h with (h | ⟨o, h⟩) | h
    · exact .inl (.inl (k _ _ h (fun _ z => by cases z) (fun _ _ z => by cases z)))
    · exact .inl (.inr ⟨o, k _ _ h (fun _ z => by cases z) (fun _ _ z => by cases z)⟩)
    · exact .inr h
  intro v d h
  exact Dp.rec (motive_1 := fun v d _ => Dp K H2 v d) (motive_2 := fun vs ds _ => DpAll K H2 vs ds) .non (fun b => .bl b) (fun i => .int i) (fun x => .str x) (fun h _ ih => .lst (hl h) ih) (fun h _ ih => .tup (ht h) ih) .nil (fun _ _ a b => .cons a b) h
theorem lst_app {A A' : List V} {x x' : V} (h1 : A = A') (h2 : x = x') : (some (HO.lst (A ++ [x])) : Option HO) = some (.lst (A' ++ [x'])) := by rw [h1, h2]
theorem sqt_hide {K : PySem.W.Frag} {H : Hp} {l a : Addr} {xs ys : List V} (e : H l = some (.lst ys)) (h : SqT K H a xs) : SqT K (hide l H) a xs := by
  rcases h with (h | ⟨o, h⟩) | h
  · exact .inl (.inl ((ts_hide e).t _ _ h))
  · exact .inl (.inr ⟨o, (ts_hide e).z _ _ _ h⟩)
  · exact .inr h
theorem items_hide {K : PySem.W.Frag} {H : Hp} {l : Addr} {ys : List V} (e : H l = some (.lst ys)) : ∀ (es : List (Int × Bool × Str)) (vs : List V), DpAll K H vs (es.map itD) → DpAll K (hide l H) vs (es.map itD)
  | [], _, h => by cases h; exact .nil
  | x :: es, _, h => by
    cases h with
    | cons h1 h2 =>
      refine .cons ?_ (items_hide e es _ h2)
      cases h1 with
      | tup hs ht =>
        refine .tup (sqt_hide e hs) ?_
        cases ht with
        | cons a ht => cases ht with
          | cons b ht => cases ht with
            | cons c ht =>
              cases ht
              cases a; cases b; cases c
              exact .cons (.int _) (.cons (.bl _) (.cons (.str _) .nil))
/-- the pool is no part of a view -/
theorem view_hide {K : PySem.W.Frag} {H : Hp} {l : Addr} {v : V} {B : Int → Int} {E : Int → List End} {M : Int → Str} {n : Int} (hp : PoolAt H l) (h : Dp K H v (viewD B E M n)) : Dp K (hide l H) v (viewD B E M n) := by
  obtain ⟨c, sd, e, _⟩ := hp
  rw [view_of] at h ⊢
  cases h with
  | tup hs ht =>
    refine .tup (sqt_hide e hs) ?_
    cases ht with
    | cons a ht => cases ht with
      | cons b ht => cases ht with
        | cons d ht => cases ht with
          | cons f ht =>
            cases ht
            cases a; cases b; cases d
            refine .cons (.int _) (.cons (.int _) (.cons (.str _) (.cons ?_ .nil)))
            cases f with
            | @lst bb xs ds hl hi =>
              refine .lst ?_ (items_hide e _ _ hi)
              rcases hl with (hl | ⟨o, hl⟩) | hl
              · by_cases z : bb = l
                · subst z
                  rw [e] at hl
                  cases hl
                  generalize vwL M (E n) = es at hi
                  cases es with
                  | nil => cases hi
                  | cons x es =>
                    cases hi with
                    | cons h1 _ => cases h1
                · exact .inl (.inl (by rw [hide_ne z]; exact hl))
              · exact .inl (.inr ⟨o, by rw [hide_ne (fun z => by rw [z, e] at hl; cases hl)]; exact hl⟩)
              · exact .inr hl
theorem WebR.lock2 {H H1 : Hp} {d w : Addr} {o : Obj} {u : List (Key × V)} {ns : List Int} {B : Int → Int} {E : Int → List End} {f : Int → V} (h : WebR H w ns B E f) (e : H1 d = some (.frz o (.dK u))) (hd : Rd H d (.dK u)) (s : ∀ b, b ≠ d → H1 b = H b) : WebR H1 w ns B E f := by
  have nt : ∀ b xs, H b = some (.tup xs) → H1 b = some (.tup xs) := fun b xs hb => by
    rw [s b (fun z => ?_)]; exact hb
    rw [z] at hb
    rcases hd with q | ⟨_, q⟩ <;> rw [q] at hb <;> cases hb
  have nl : ∀ b xs, H b = some (.lst xs) → H1 b = some (.lst xs) := fun b xs hb => by
    rw [s b (fun z => ?_)]; exact hb
    rw [z] at hb
    rcases hd with q | ⟨_, q⟩ <;> rw [q] at hb <;> cases hb
  exact ⟨rd_lock h.dict e hd s ⟨_, rfl⟩ ⟨_, rfl⟩, ats_of nt nl h.at_⟩
theorem rg16 : ∀ j : Fin 17, (Builtin.Range.small 0 ((j.1 : Nat) : Int) 2 && decide (Builtin.Range.rangeSize 0 ((j.1 : Nat) : Int) 2 = ((Builtin.Range.rangeSize 0 ((j.1 : Nat) : Int) 2).toNat : Int)) && decide ((Builtin.Range.rangeSize 0 ((j.1 : Nat) : Int) 2).toNat ≤ 8)) = true := by decide +kernel
section
variable {P : Program} {w : World} {K : PySem.W.Frag} {mg : Str → Option Value} {base : Heap}
set_option maxHeartbeats 0 in
theorem ok_law (T : Txt K mg) : FnOk P w K mg base CX0 20 T.law.f T.law.fd ps_law (spLaw K) := by
  have G__law_changed := ok__law_changed (P := P) (w := w) (base := base) T
  have G__law_mark := ok__law_mark (P := P) (w := w) (base := base) T
  have G__law_pool := ok__law_pool (P := P) (w := w) (base := base) T
  have G__law_web := ok__law_web (P := P) (w := w) (base := base) T
  have G_view_of := ok_view_of (P := P) (w := w) (base := base) T
  refine T.law.F.ok sc_law (fun vs H Q E h => ?_) (fun cdv A outer s H vs Q E hr h => ?_)
  · obtain ⟨a, ns, rfl, _⟩ := h
    rfl
  obtain ⟨a, ns, rfl, hS, h63, q⟩ := h
  have hu := hu_of hr
  have hu4 := hr.units
  have hu65 := hu65_of hr
  refine ⟨_, (pss_cons (ps_for PassesOwn.never rfl (pi_range3 (by rfl) T.n_range (pa_cons pe_int (pa_cons (pe_callB (call_max2 rfl) (by rfl) T.n_max (by decide +kernel) (pa_cons pe_int (pa_cons (pe_callB (call_min2 rfl) (by rfl) T.n_min (by decide +kernel) (pa_cons (pe_callB (r := rLenU K) uLen (by rfl) T.n_len (by decide +kernel) (pa_cons (pv 0) pa_nil)) (pa_cons pe_int pa_nil))) pa_nil))) (pa_cons pe_int pa_nil)))) (pg_name (i := 1) sc_law.nd rfl (Or.inl rfl))
  (pss_cons (ps_set (i := 2) sc_law.nd rfl (Or.inr rfl) (pe_call G__law_web (hr.mono (by omega)) (by rfl) T._law_web.g T._law_web.F.kp T._law_web.b .nil pass0 (pa_cons (pe_call G__law_pool (hr.mono (by omega)) (by rfl) T._law_pool.g T._law_pool.F.kp T._law_pool.b .nil pass0 (pa_cons (pv 0) (pa_cons (pv 1) pa_nil))) (pa_cons pe_int (pa_cons pe_int pa_nil)))))
  (pss_cons (ps_set (i := 3) sc_law.nd rfl (Or.inr rfl) (pe_call G__law_pool (hr.mono (by omega)) (by rfl) T._law_pool.g T._law_pool.F.kp T._law_pool.b .nil pass0 (pa_cons (pv 0) (pa_cons (pe_op uAdd (pv 1) pe_int) pa_nil))))
  (pss_cons (ps_set (i := 4) sc_law.nd rfl (Or.inr rfl) (pe_callTy (r := rDictU K) (uDict rfl) (by rfl) T.n_dict (by decide +kernel) (pa_cons (pe_lc (own := [("_law_name", 5)]) rfl sc_law.nd (pi_listK K rfl (pe_callB (uSortDI rfl) (by rfl) T.n_sorted (by decide +kernel) (pa_cons (pv 2) pa_nil))) (blkOk_by (own := [("_law_name", 5)]) (N := names_law) (sc := defScope s_law) (by decide +kernel)) (fun _ _ _ _ _ => (pg_name (i := 5) sc_law.nd rfl (Or.inl rfl))) (fun _ _ _ _ _ => pts_nil) (fun _ _ _ _ _ => (pe_tup (pa_cons (pv 5) (pa_cons (pe_call G__law_mark (hr.mono (by omega)) (by rfl) T._law_mark.g T._law_mark.F.kp T._law_mark.b .nil pass0 (pa_cons (pv 3) pa_nil)) pa_nil))))) pa_nil)))
  (pss_cons (ps_lockM (ps_set (i := 6) sc_law.nd rfl (Or.inl rfl) (pe_callTy (r := rDictU K) (uDict rfl) (by rfl) T.n_dict (by decide +kernel) (pa_cons (pe_lc (own := [("_law_name", 5)]) rfl sc_law.nd (pi_keys (pv 2)) (blkOk_by (own := [("_law_name", 5)]) (N := names_law) (sc := defScope s_law) (by decide +kernel)) (fun _ _ _ _ _ => (pg_name (i := 5) sc_law.nd rfl (Or.inl rfl))) (fun _ _ _ _ _ => pts_nil) (fun _ _ _ _ _ => (pe_tup (pa_cons (pv 5) (pa_cons (pe_call G_view_of (hr.mono (by omega)) (by rfl) T.view_of.g T.view_of.F.kp T.view_of.b .nil pass0 (pa_cons (pv 2) (pa_cons (pv 4) (pa_cons (pv 5) pa_nil)))) pa_nil))))) pa_nil))))
  (pss_cons (ps_asg (pe_call G__law_changed (hr.mono (by omega)) (by rfl) T._law_changed.g T._law_changed.F.kp T._law_changed.b .nil pass0 (pa_cons (pv 2) (pa_cons (pv 4) (pa_cons (pv 3) pa_nil)))) (pg_tupK (n := 3) K rfl (by rfl) (pgs_cons (pg_name (i := 7) sc_law.nd rfl (Or.inl rfl)) (pgs_cons (pg_name (i := 8) sc_law.nd rfl (Or.inl rfl)) (pgs_cons (pg_name (i := 9) sc_law.nd rfl (Or.inl rfl)) pgs_nil)))))
  (pss_one (ps_lockM (ps_for PassesOwn.never rfl (pi_keys (pv 2)) (pg_name (i := 5) sc_law.nd rfl (Or.inl rfl))
  (pss_cons (ps_if (pt_cmpR (r := rNeU K) (uNe hu4) (pe_cmpR (r := rNeU K) (uNe hu4) (pe_call G_view_of (hr.mono (by omega)) (by rfl) T.view_of.g T.view_of.F.kp T.view_of.b .nil pass0 (pa_cons (pv 7) (pa_cons (pv 8) (pa_cons (pv 5) pa_nil)))) (pe_dget hu (pv 6) (pv 5) (fun _ _ => rfl)) (nomark _)) (pe_cmpR (r := rInU K) (uIn hu65) (pv 5) (pv 9) (by rfl)) (nomark _)) (pss_one (ps_ret pe_bl)) pss_nil)
  (pss_one (ps_if (pt_cmpR (r := rNeU K) (uNe hu4) (pe_call G_view_of (hr.mono (by omega)) (by rfl) T.view_of.g T.view_of.F.kp T.view_of.b .nil pass0 (pa_cons (pv 2) (pa_cons (pv 4) (pa_cons (pv 5) pa_nil)))) (pe_dget hu (pv 6) (pv 5) (fun _ _ => rfl)) (nomark _)) (pss_one (ps_ret pe_bl)) pss_nil))))))))))))
  (pss_one (ps_ret pe_bl))), ?_⟩
  walk_at "go"
  refine j_lenL hS ?_
  walk_at "go"
  refine ⟨_, _, rfl, ?_⟩
  walk_at "go"
  refine ⟨_, _, rfl, ?_⟩
  rw [List.length_map]
  have hb : ∀ n : Nat, ∃ j : Nat, j ≤ 16 ∧ (if (if (16 : Int) < (n : Int) then (16 : Int) else (n : Int)) > 1 then (if (16 : Int) < (n : Int) then (16 : Int) else (n : Int)) else 1) = ((j : Nat) : Int) := fun n => by
    by_cases h : (16 : Int) < (n : Int)
    · exact ⟨16, by omega, by rw [if_pos h]; rfl⟩
    · rw [if_neg h]
      by_cases h1 : (n : Int) > 1
      · exact ⟨n, by omega, by rw [if_pos h1]⟩
      · exact ⟨1, by omega, by rw [if_neg h1]; rfl⟩
  obtain ⟨j, hj, ej⟩ := hb ns.length
  rw [ej]
  walk_at "go"
  have rg := rg16 ⟨j, by omega⟩
  rw [Bool.and_eq_true, Bool.and_eq_true] at rg
  obtain ⟨⟨rg1, rg2⟩, rg3⟩ := rg
  refine ⟨_, _, _, (Builtin.Range.rangeSize 0 ((j : Nat) : Int) 2).toNat, rfl, ⟨by decide, by decide, rg1, of_decide_eq_true rg2⟩, ?_⟩
  have rg3 := of_decide_eq_true rg3
  generalize (Builtin.Range.rangeSize 0 ((j : Nat) : Int) 2).toNat = cnt at rg3
  refine for_rangeC (lo := 0) (c := 2) (n := cnt) (fun i σ H' => ∃ y1 y2 y3 y4 y5 y6 y7 y8 y9, σ = [some (.ref a), y1, y2, y3, y4, y5, y6, y7, y8, y9] ∧ Same H H') ⟨none, none, none, none, none, none, none, none, none, rfl, Same.refl _⟩ ?_ ?_
  case refine_2 =>
    rintro σ H1 ⟨_, _, _, _, _, _, _, _, _, rfl, s1⟩
    walk_at "go"
    exact q H1
  rintro i_ σ H0 hi ⟨y1, y2, y3, y4, y5, y6, y7, y8, y9, rfl, s0⟩
  walk_at "go"
  refine ⟨a, ns, _, rfl, s0.seq hS, by omega, by omega, fun l1 H1 nl1 s1 hp1 => ?_⟩
  walk_at "go"
  refine ⟨l1, 20, 9, rfl, hp1, by decide, by decide, by decide, fun d wn B E f H2 hp2 s2 W G n1 n20 nd rng hB hE _ => ?_⟩
  have W2 := W.same (same_hide _ _)
  have s02 : Same H0 H2 := ((same_to_hide nl1 s1).trans s2).trans (same_hide _ _)
  clear W hp2 s2 s1 hp1 nl1
  walk_at "go"
  refine ⟨a, ns, _, rfl, (s0.trans s02).seq hS, by omega, by omega, fun l H3 nl s3 hp3 => ?_⟩
  have W3 : WebAt (hide l H3) d wn B E f := W2.same (same_to_hide nl s3)
  have s03 : Same H0 (hide l H3) := s02.trans (same_to_hide nl s3)
  clear W2 s02 s3 nl
  walk_at "go"
  refine j_sortD (.inl (same_hide _ _ _ _ W3.dict)) (by omega) fun ys p4 H4 py sy n4 s4 e4 => ?_
  have ly : ys.length = wn.length := py.length_eq
  have ndy : ys.Nodup := py.nodup_iff.mpr nd
  have my : ∀ n, n ∈ ys ↔ n ∈ wn := fun n => py.mem_iff
  have np4 : p4 ≠ l := pool_ne hp3 n4
  have hp4 := hp3.same s4
  have W4 := W3.same (hide_mono (l := l) s4)
  have s04 := s03.trans (hide_mono (l := l) s4)
  clear W3 s03 s4 hp3 n4 sy py
  walk_at "go"
  refine ⟨⟨_, .of e4⟩, fun Dl hD => ?_⟩
  have nDl : Dl ≠ l := pool_ne hp4 hD
  refine lc_list (K := K) (xs := ys.map V.int) (fun i H' => PoolAt H' l ∧ Kp (· = l) H4 H' ∧ ∃ (R : Int → Addr) (M : Int → Str), H' Dl = some (.lst ((ys.take i).map fun n => .ref (R n))) ∧ ∀ n ∈ ys.take i, H' (R n) = some (.tup [.int n, .str (M n)]) ∧ Bits (M n) ∧ (M n).length ≤ 31)
    ⟨?_, fun b o nb e => ?_, fun _ => 0, fun _ => "", upd_same, fun n hn => by simp at hn⟩ (fun i H' _ p => .of (p.2.1 _ _ np4 e4)) ?_ ?_
  · obtain ⟨c, sd, e, r⟩ := hp4
    exact ⟨c, sd, by rw [upd_ne (Ne.symm nDl)]; exact e, r⟩
  · rw [upd_ne (fun z => by rw [z, hD] at e; cases e)]; exact e
  · rintro i x H' hx ⟨hp', kp, R, M, eD, at_⟩
    obtain ⟨n, hn, rfl⟩ : ∃ n, ys[i]? = some n ∧ x = V.int n := by
      rw [List.getElem?_map] at hx
      cases e : ys[i]? with
      | none => rw [e] at hx; cases hx
      | some n => rw [e] at hx; exact ⟨n, rfl, (Option.some.inj hx).symm⟩
    have hil : i < ys.length := (List.getElem?_eq_some_iff.mp hn).1
    have tk : ys.take (i + 1) = ys.take i ++ [n] := by rw [List.take_add_one, hn]; rfl
    have fresh : n ∉ ys.take i := fun z => by
      have h2 : (ys.take (i + 1)).Nodup := ndy.sublist (List.take_sublist _ _)
      rw [tk] at h2
      exact (List.nodup_append.mp h2).2.2 n z n (by simp) rfl
    walk_at "go"
    refine ⟨rfl, ?_⟩
    walk_at "go"
    refine ⟨l, rfl, hp', fun mkx H5 bx lx hp5 s5 => ?_⟩
    walk_at "go"
    refine j_al fun pR H6 n6 s6 e6 => ?_
    have eD6 : H6 Dl = some (.lst ((ys.take i).map fun n => .ref (R n))) := s6 _ _ (hid_at s5 nDl eD)
    have nR : pR ≠ Dl := fun z => by rw [z, hid_at s5 nDl eD] at n6; cases n6
    refine ⟨_, eD6, by rw [List.length_map, List.length_take, sizeLine_eq]; omega, ?_, fun b o nb e => ?_, fun k => if k = n then pR else R k, fun k => if k = n then mkx else M k, ?_, fun k hk => ?_⟩
    · obtain ⟨c, sd, e, r⟩ := hp5.same s6
      exact ⟨c, sd, by rw [upd_ne (Ne.symm nDl)]; exact e, r⟩
    · rw [upd_ne (fun z => by rw [z, hD] at e; cases e)]
      exact s6 _ _ (kp_hide s5 _ _ nb (kp _ _ nb e))
    · rw [upd_same, tk, List.map_append]
      refine lst_app (List.map_congr_left fun k hk => ?_) ?_
      · have e : k ≠ n := fun z => fresh (z ▸ hk)
        show V.ref (R k) = V.ref (if k = n then pR else R k)
        rw [if_neg e]
      · show V.ref pR = V.ref (if n = n then pR else R n)
        rw [if_pos rfl]
    · try dsimp only
      rw [tk] at hk
      rcases List.mem_append.mp hk with hk | hk
      · have kn : k ≠ n := fun z => fresh (z ▸ hk)
        obtain ⟨x1, x2, x3⟩ := at_ k hk
        rw [if_neg kn, if_neg kn]
        have rl : R k ≠ l := fun z => by
          obtain ⟨_, e⟩ := hp'.lst
          rw [z, e] at x1
          cases x1
        have rD : R k ≠ Dl := fun z => by rw [z, eD] at x1; cases x1
        exact ⟨by rw [upd_ne rD]; exact s6 _ _ (hid_at s5 rl x1), x2, x3⟩
      · have : k = n := by simpa using hk
        subst this
        rw [if_pos rfl, if_pos rfl]
        exact ⟨by rw [upd_ne nR]; exact e6, bx, by omega⟩
  rw [List.length_map]
  rintro H7 ⟨hp7, kp7, R, M, eD, at_⟩
  rw [List.take_length] at eD at_
  have W7 := W4.same (hide_kp kp7)
  have s07 := s04.trans (hide_kp kp7)
  clear W4 s04 kp7 hp4 e4 np4
  walk_at "go"
  refine j_dictP (ps := ys.map R) (f := fun n => .str (M n)) ndy (by rw [List.map_map]; exact .of eD) ?_ ?_
  · have : ∀ l : List Int, (∀ n ∈ l, n ∈ ys) → Paired (fun p k => SqT K H7 p [V.int k, V.str (M k)]) (l.map R) l := fun l => by
      induction l with
      | nil => intro _; exact .nil
      | cons a r ih => intro h; exact .cons (.of (at_ a (h a List.mem_cons_self)).1) (ih fun n hn => h n (List.mem_cons_of_mem _ hn))
    exact this ys fun _ h => h
  refine j_al fun m H8 n8 s8 e8 => ?_
  have hp8 := hp7.same s8
  have nm8 : m ≠ l := pool_ne hp7 n8
  have W8 := W7.same (hide_mono (l := l) s8)
  have s08 := s07.trans (hide_mono (l := l) s8)
  have hM : ∀ n ∈ wn, Bits (M n) ∧ (M n).length ≤ 31 := fun n hn => (at_ n ((my n).mpr hn)).2
  have MR8 : MarksR H8 m ys wn M := ⟨.inl e8, ly, my, fun n hn => ⟨by have := (hM n hn).2; omega, (hM n hn).1⟩⟩
  clear at_ eD W7 s07 s8 n8 hp7
  walk_at "go"
  refine j_lockR (.inl (same_hide _ _ _ _ W8.dict)) trivial fun ob H9 D9 e9 s9 done _ => ?_
  have W8' : WebAt H8 d wn B E f := W8.same (same_hide _ _)
  have W9 := W8'.r.lock e9 s9
  have MR9 : MarksR H9 m ys wn M := ⟨rd_lock MR8.dict e9 (.inl W8'.dict) s9 ⟨_, rfl⟩ ⟨_, rfl⟩, ly, my, MR8.mark⟩
  walk_at "go"
  refine j_iKeysI e9 fun Dv hDv => ?_
  refine lc_keysP (fun i H' => Same H9 (hide Dv H') ∧ ∃ (R : Int → Addr) (U : Int → Addr), H' Dv = some (.lst ((wn.take i).map fun n => .ref (R n))) ∧ ∀ n ∈ wn.take i, (hide Dv H') (R n) = some (.tup [.int n, .ref (U n)]) ∧ Dp K (hide Dv H') (.ref (U n)) (viewD B E M n))
    ⟨same_to_hide hDv (same_new hDv), fun _ => 0, fun _ => 0, upd_same, fun n hn => by simp at hn⟩ (fun i H' p => same_hide _ _ _ _ (p.1 _ _ e9)) ?_ ?_
  · rintro i n H' hn ⟨t1, R, U, eD, at_⟩
    have hnm := List.mem_of_getElem? hn
    have hil : i < wn.length := (List.getElem?_eq_some_iff.mp hn).1
    have tk : wn.take (i + 1) = wn.take i ++ [n] := by rw [List.take_add_one, hn]; rfl
    have fresh : n ∉ wn.take i := fun z => by
      have h2 : (wn.take (i + 1)).Nodup := nd.sublist (List.take_sublist _ _)
      rw [tk] at h2
      exact (List.nodup_append.mp h2).2.2 n z n (by simp) rfl
    have s9' : Same H9 H' := t1.trans (same_hide _ _)
    walk_at "go"
    refine ⟨rfl, ?_⟩
    walk_at "go"
    refine ⟨d, m, n, wn, ys, B, E, f, M, rfl, W9.same s9', ⟨rd_same s9' MR9.dict, ly, my, MR9.mark⟩, hnm, fun e he => (G.inn n hnm e he).1, by have := hE n hnm; omega, fun v H5 s5 dpv ⟨pv, ev⟩ => ?_⟩
    subst ev
    walk_at "go"
    refine j_al fun pR H6 n6 s6 e6 => ?_
    have nR : pR ≠ Dv := fun z => by rw [z, s5 _ _ eD] at n6; cases n6
    have sh : Same (hide Dv H') (hide Dv (upd H6 Dv (.lst ((wn.take i).map (fun n => V.ref (R n)) ++ [.ref pR])))) := (hide_mono (s5.trans s6)).trans hide_upd
    have sh6 : Same (hide Dv H6) (hide Dv (upd H6 Dv (.lst ((wn.take i).map (fun n => V.ref (R n)) ++ [.ref pR])))) := hide_upd
    refine ⟨_, s6 _ _ (s5 _ _ eD), by rw [List.length_map, List.length_take, sizeLine_eq]; omega, t1.trans sh, fun k => if k = n then pR else R k, fun k => if k = n then pv else U k, ?_, fun k hk => ?_⟩
    · rw [upd_same, tk, List.map_append]
      refine lst_app (List.map_congr_left fun k hk => ?_) ?_
      · have e : k ≠ n := fun z => fresh (z ▸ hk)
        show V.ref (R k) = V.ref (if k = n then pR else R k)
        rw [if_neg e]
      · show V.ref pR = V.ref (if n = n then pR else R n)
        rw [if_pos rfl]
    · try dsimp only
      rw [tk] at hk
      rcases List.mem_append.mp hk with hk | hk
      · have kn : k ≠ n := fun z => fresh (z ▸ hk)
        obtain ⟨x1, x2⟩ := at_ k hk
        rw [if_neg kn, if_neg kn]
        exact ⟨sh _ _ x1, same_dp sh x2⟩
      · have : k = n := by simpa using hk
        subst this
        rw [if_pos rfl, if_pos rfl]
        refine ⟨by rw [hide_ne nR, upd_ne nR]; exact e6, same_dp sh6 (same_dp (hide_mono s6) ?_)⟩
        exact dpv _ fun b o h1 h2 => by rw [hide_ne (fun z => by rw [z, eD] at h1; cases h1)]; exact h2
  rintro Ha ⟨t1, R, U, eD, at_⟩
  rw [List.take_length] at eD at_
  have s9a : Same H9 Ha := t1.trans (same_hide _ _)
  have at1 : ∀ n ∈ wn, Ha (R n) = some (.tup [.int n, .ref (U n)]) ∧ Dp K Ha (.ref (U n)) (viewD B E M n) := fun n hn => ⟨same_hide _ _ _ _ (at_ n hn).1, same_dp (same_hide _ _) (at_ n hn).2⟩
  clear at_ t1
  walk_at "go"
  refine j_dictP (ps := wn.map R) (f := fun n => .ref (U n)) nd (by rw [List.map_map]; exact .of eD) ?_ ?_
  · have : ∀ l : List Int, (∀ n ∈ l, n ∈ wn) → Paired (fun p k => SqT K Ha p [V.int k, V.ref (U k)]) (l.map R) l := fun l => by
      induction l with
      | nil => intro _; exact .nil
      | cons a r ih => intro h; exact .cons (.of (at1 a (h a List.mem_cons_self)).1) (ih fun n hn => h n (List.mem_cons_of_mem _ hn))
    exact this wn fun _ h => h
  refine j_al fun vd Hb nb sb eb => ?_
  walk_at "go"
  refine done _ Hb (s9a.trans sb) fun Hc sc eqc _ => ?_
  have hdb := sb _ _ (s9a _ _ e9)
  have evc : Hc vd = some (.dK (kvI wn fun n => .ref (U n))) := by
    rw [eqc vd (fun z => by rw [z, hdb] at eb; cases eb)]; exact eb
  have hpc := hp8.same sc
  have nvl : vd ≠ l := fun z => by
    obtain ⟨_, e⟩ := hpc.lst
    rw [z, e] at evc
    cases evc
  have dpc : ∀ n ∈ wn, Dp K (hide l Hc) (.ref (U n)) (viewD B E M n) := fun n hn => view_hide hpc (dp_move (fun b o hb h1 h2 => by
    rw [eqc b (fun z => by rw [z, hdb] at hb; cases hb; exact h2 _ _ rfl)]; exact hb) (same_dp sb (at1 n hn).2))
  have Wc : WebAt (hide l Hc) d wn B E f := W8.same (hide_mono sc)
  have s0c := s08.trans (hide_mono (l := l) sc)
  have emc : (hide l Hc) m = some (.dK (kvI ys fun n => .str (M n))) := by rw [hide_ne nm8]; exact sc _ _ e8
  clear at1 eD s9a eb nb sb hdb eqc done MR9 W9 s9 e9 W8' W8 s08 e8 hp8 sc
  walk_at "go"
  refine ⟨d, m, l, wn, ys, B, E, f, M, rfl, hpc, Wc, G, nd, n1, by omega, hB, hE, emc, ly, my, hM, fun r w' m' tl B' E' f' M' Tt Hd hpd sd er Wd emd hMd etl innd hEd sees => ?_⟩
  have un := same_hide l Hd
  refine j_gt (.of (un _ _ er)) rfl ?_
  walk_at "go"
  have s0d := s0c.trans sd
  have Wd0 := (Wc.same sd).same un
  have Wd1 := Wd.same un
  have emd1 := un _ _ emd
  have em1 := un _ _ (sd _ _ emc)
  have evd1 : Hd vd = some (.dK (kvI wn fun n => .ref (U n))) := un _ _ (sd _ _ (by rw [hide_ne nvl]; exact evc))
  have etl1 := un _ _ etl
  have dpd : ∀ n ∈ wn, Dp K Hd (.ref (U n)) (viewD B E M n) := fun n hn => same_dp un (same_dp sd (dpc n hn))
  refine j_lockR (.inl Wd0.dict) trivial fun ob H9 D9 e9 s9 done _ => ?_
  have hdd : Rd Hd d (.dK (kvI wn f)) := .inl Wd0.dict
  have X0 := Wd0.r.lock e9 s9
  have X1 := Wd1.r.lock2 e9 hdd s9
  have XM : MarksR H9 m ys wn M := ⟨rd_lock (.inl em1) e9 hdd s9 ⟨_, rfl⟩ ⟨_, rfl⟩, ly, my, fun n hn => ⟨by have := (hM n hn).2; omega, (hM n hn).1⟩⟩
  have XM' : MarksR H9 m' ys wn M' := ⟨rd_lock (.inl emd1) e9 hdd s9 ⟨_, rfl⟩ ⟨_, rfl⟩, ly, my, fun n hn => ⟨by have := (hMd n hn).2; omega, (hMd n hn).1⟩⟩
  have XV : Rd H9 vd (.dK (kvI wn fun n => .ref (U n))) := rd_lock (.inl evd1) e9 hdd s9 ⟨_, rfl⟩ ⟨_, rfl⟩
  have XT : H9 tl = some (.lst (Tt.map V.int)) := by
    rw [s9 tl (fun z => by rw [z, Wd0.dict] at etl1; cases etl1)]; exact etl1
  have XD : ∀ n ∈ wn, Dp K H9 (.ref (U n)) (viewD B E M n) := fun n hn => dp_move (fun b o hb h1 h2 => by
    rw [s9 b (fun z => by rw [z, Wd0.dict] at hb; cases hb; exact h1 _ rfl)]; exact hb) (dpd n hn)
  walk_at "go"
  refine j_iKeysI e9 ?_
  refine for_keys (fun i σ H' => ∃ y5, σ = [some (.ref a), some (.int (0 + ((i_ : Nat) : Int) * 2)), some (.ref d), some (.ref l), some (.ref m), y5, some (.ref vd), some (.ref w'), some (.ref m'), some (.ref tl)] ∧ Same H9 H') ⟨_, rfl, Same.refl _⟩ ?_ ?_ ?_
  · rintro i σ H' ⟨y5, rfl, sx⟩
    exact sx _ _ e9
  · rintro i n σ H' hn ⟨y5, rfl, sx⟩
    have hnm := List.mem_of_getElem? hn
    walk_at "go"
    refine ⟨w', m', n, wn, ys, B', E', f', M', rfl, X1.same sx, ⟨rd_same sx XM'.dict, ly, my, XM'.mark⟩, hnm, innd n hnm, by have := hEd n hnm; omega, fun v H5 s5 dpv ⟨pv, ev⟩ => ?_⟩
    subst ev
    have sx5 := sx.trans s5
    walk_at "go"
    refine j_dgetI (rd_same sx5 XV) hnm rfl ?_
    have sh0 : SeqAt.shaped (viewD B E M n) = true := view_shaped (hM n hnm).1 fun e he => (hM _ (G.inn n hnm e he).1).1
    have dpv := dpv _ fun _ _ _ h => h
    refine j_neD dpv (same_dp sx5 (XD n hnm)) (view_shaped (hMd n hnm).1 fun e he => (hMd _ (innd n hnm e he)).1) sh0 ?_
    walk_at "go"
    refine j_inL (.of (sx5 _ _ XT)) rfl (flat_ints _) ?_
    rw [inV_int]
    have hv : PyData.eqv (viewD B' E' M' n) (viewD B E M n) = !decide (n ∈ Tt) := by
      rw [Bool.eq_iff_iff, view_eqv, sees n hnm, Bool.not_eq_true', decide_eq_false_iff_not]
    rw [hv]
    walk_at "go"
    refine j_ifN (by simp) ?_
    walk_at "go"
    refine ⟨d, m, n, wn, ys, B, E, f, M, rfl, X0.same sx5, ⟨rd_same sx5 XM.dict, ly, my, XM.mark⟩, hnm, fun e he => (G.inn n hnm e he).1, by have := hE n hnm; omega, fun v H6 s6 dpv ⟨pv, ev⟩ => ?_⟩
    subst ev
    have sx6 := sx5.trans s6
    walk_at "go"
    refine j_dgetI (rd_same sx6 XV) hnm rfl ?_
    have dpv := dpv _ fun _ _ _ h => h
    refine j_neD dpv (same_dp sx6 (XD n hnm)) sh0 sh0 ?_
    have hv2 : PyData.eqv (viewD B E M n) (viewD B E M n) = true := view_eqv.mpr ⟨rfl, rfl, rfl⟩
    rw [hv2]
    walk_at "go"
    exact ⟨_, rfl, sx6⟩
  · rintro σ H' ⟨y5, rfl, sx⟩
    refine done _ H' sx fun H2 se _ _ => ?_
    exact ⟨_, _, _, _, _, _, _, _, _, rfl, s0.trans (s0d.trans (un.trans se))⟩
end

theorem all_mk {l : PySem.W.OpenLaw} {w : World} {K : PySem.W.Frag} {h : Heap} {mg : Str → Option Value} {fa : Addr} (X : K.In h) (G : h.Ns mainGlobals mg) (hfa : mg "law" = some (.ref fa))
    {f1 : Addr} {od1 an1 : Option Addr} {sl1 : Array (Option Value)} {oc1 kV1 dc1 pm1 cd1 ct1 : Value}
    {f2 : Addr} {od2 an2 : Option Addr} {sl2 : Array (Option Value)} {oc2 kV2 dc2 pm2 cd2 ct2 : Value}
    {f3 : Addr} {od3 an3 : Option Addr} {sl3 : Array (Option Value)} {oc3 kV3 dc3 pm3 cd3 ct3 : Value}
    {f4 : Addr} {od4 an4 : Option Addr} {sl4 : Array (Option Value)} {oc4 kV4 dc4 pm4 cd4 ct4 : Value}
    {f5 : Addr} {od5 an5 : Option Addr} {sl5 : Array (Option Value)} {oc5 kV5 dc5 pm5 cd5 ct5 : Value}
    {f6 : Addr} {od6 an6 : Option Addr} {sl6 : Array (Option Value)} {oc6 kV6 dc6 pm6 cd6 ct6 : Value}
    {f7 : Addr} {od7 an7 : Option Addr} {sl7 : Array (Option Value)} {oc7 kV7 dc7 pm7 cd7 ct7 : Value}
    {f8 : Addr} {od8 an8 : Option Addr} {sl8 : Array (Option Value)} {oc8 kV8 dc8 pm8 cd8 ct8 : Value}
    {f9 : Addr} {od9 an9 : Option Addr} {sl9 : Array (Option Value)} {oc9 kV9 dc9 pm9 cd9 ct9 : Value}
    {f10 : Addr} {od10 an10 : Option Addr} {sl10 : Array (Option Value)} {oc10 kV10 dc10 pm10 cd10 ct10 : Value}
    {f11 : Addr} {od11 an11 : Option Addr} {sl11 : Array (Option Value)} {oc11 kV11 dc11 pm11 cd11 ct11 : Value}
    {f12 : Addr} {od12 an12 : Option Addr} {sl12 : Array (Option Value)} {oc12 kV12 dc12 pm12 cd12 ct12 : Value}
    {f13 : Addr} {od13 an13 : Option Addr} {sl13 : Array (Option Value)} {oc13 kV13 dc13 pm13 cd13 ct13 : Value}
    {f14 : Addr} {od14 an14 : Option Addr} {sl14 : Array (Option Value)} {oc14 kV14 dc14 pm14 cd14 ct14 : Value}
    {f15 : Addr} {od15 an15 : Option Addr} {sl15 : Array (Option Value)} {oc15 kV15 dc15 pm15 cd15 ct15 : Value}
    {tk1 : Tok}
    {x1 : Addr}
    {x2 : Addr}
    (a1 : PySem.W.nsIn K mainGlobals "is_mark" = some (some (.ref f1)))
    (l1 : K.lookup f1 = some ⟨oc1, od1, .func (PySem.W.fnOf "is_mark" "is_mark" (defArgs s_is_mark) (defBody s_is_mark) (defScope s_is_mark) .none kV1 dc1 pm1 an1 cd1 ct1), sl1⟩)
    (c1 : PySem.W.codeIn K cd1 "is_mark" = true) (k1 : PySem.W.keepIn K (.ref f1) = true)
    (a2 : PySem.W.nsIn K mainGlobals "look_at_marks" = some (some (.ref f2)))
    (l2 : K.lookup f2 = some ⟨oc2, od2, .func (PySem.W.fnOf "look_at_marks" "look_at_marks" (defArgs s_look_at_marks) (defBody s_look_at_marks) (defScope s_look_at_marks) .none kV2 dc2 pm2 an2 cd2 ct2), sl2⟩)
    (c2 : PySem.W.codeIn K cd2 "look_at_marks" = true) (k2 : PySem.W.keepIn K (.ref f2) = true)
    (a3 : PySem.W.nsIn K mainGlobals "sight_of" = some (some (.ref f3)))
    (l3 : K.lookup f3 = some ⟨oc3, od3, .func (PySem.W.fnOf "sight_of" "sight_of" (defArgs s_sight_of) (defBody s_sight_of) (defScope s_sight_of) .none kV3 dc3 pm3 an3 cd3 ct3), sl3⟩)
    (c3 : PySem.W.codeIn K cd3 "sight_of" = true) (k3 : PySem.W.keepIn K (.ref f3) = true)
    (a4 : PySem.W.nsIn K mainGlobals "view_of" = some (some (.ref f4)))
    (l4 : K.lookup f4 = some ⟨oc4, od4, .func (PySem.W.fnOf "view_of" "view_of" (defArgs s_view_of) (defBody s_view_of) (defScope s_view_of) .none kV4 dc4 pm4 an4 cd4 ct4), sl4⟩)
    (c4 : PySem.W.codeIn K cd4 "view_of" = true) (k4 : PySem.W.keepIn K (.ref f4) = true)
    (a5 : PySem.W.nsIn K mainGlobals "_law_cell_at" = some (some (.ref f5)))
    (l5 : K.lookup f5 = some ⟨oc5, od5, .func (PySem.W.fnOf "_law_cell_at" "_law_cell_at" (defArgs s__law_cell_at) (defBody s__law_cell_at) (defScope s__law_cell_at) .none kV5 dc5 pm5 an5 cd5 ct5), sl5⟩)
    (c5 : PySem.W.codeIn K cd5 "_law_cell_at" = true) (k5 : PySem.W.keepIn K (.ref f5) = true)
    (a6 : PySem.W.nsIn K mainGlobals "_law_pool" = some (some (.ref f6)))
    (l6 : K.lookup f6 = some ⟨oc6, od6, .func (PySem.W.fnOf "_law_pool" "_law_pool" (defArgs s__law_pool) (defBody s__law_pool) (defScope s__law_pool) .none kV6 dc6 pm6 an6 cd6 ct6), sl6⟩)
    (c6 : PySem.W.codeIn K cd6 "_law_pool" = true) (k6 : PySem.W.keepIn K (.ref f6) = true)
    (a7 : PySem.W.nsIn K mainGlobals "_law_take" = some (some (.ref f7)))
    (l7 : K.lookup f7 = some ⟨oc7, od7, .func (PySem.W.fnOf "_law_take" "_law_take" (defArgs s__law_take) (defBody s__law_take) (defScope s__law_take) .none kV7 dc7 pm7 an7 cd7 ct7), sl7⟩)
    (c7 : PySem.W.codeIn K cd7 "_law_take" = true) (k7 : PySem.W.keepIn K (.ref f7) = true)
    (a8 : PySem.W.nsIn K mainGlobals "_law_names" = some (some (.ref f8)))
    (l8 : K.lookup f8 = some ⟨oc8, od8, .func (PySem.W.fnOf "_law_names" "_law_names" (defArgs s__law_names) (defBody s__law_names) (defScope s__law_names) .none kV8 dc8 pm8 an8 cd8 ct8), sl8⟩)
    (c8 : PySem.W.codeIn K cd8 "_law_names" = true) (k8 : PySem.W.keepIn K (.ref f8) = true)
    (a9 : PySem.W.nsIn K mainGlobals "_law_link" = some (some (.ref f9)))
    (l9 : K.lookup f9 = some ⟨oc9, od9, .func (PySem.W.fnOf "_law_link" "_law_link" (defArgs s__law_link) (defBody s__law_link) (defScope s__law_link) .none kV9 dc9 pm9 an9 cd9 ct9), sl9⟩)
    (c9 : PySem.W.codeIn K cd9 "_law_link" = true) (k9 : PySem.W.keepIn K (.ref f9) = true)
    (a10 : PySem.W.nsIn K mainGlobals "_law_told" = some (some (.ref f10)))
    (l10 : K.lookup f10 = some ⟨oc10, od10, .func (PySem.W.fnOf "_law_told" "_law_told" (defArgs s__law_told) (defBody s__law_told) (defScope s__law_told) .none kV10 dc10 pm10 an10 cd10 ct10), sl10⟩)
    (c10 : PySem.W.codeIn K cd10 "_law_told" = true) (k10 : PySem.W.keepIn K (.ref f10) = true)
    (a11 : PySem.W.nsIn K mainGlobals "_law_web" = some (some (.ref f11)))
    (l11 : K.lookup f11 = some ⟨oc11, od11, .func (PySem.W.fnOf "_law_web" "_law_web" (defArgs s__law_web) (defBody s__law_web) (defScope s__law_web) .none kV11 dc11 pm11 an11 cd11 ct11), sl11⟩)
    (c11 : PySem.W.codeIn K cd11 "_law_web" = true) (k11 : PySem.W.keepIn K (.ref f11) = true)
    (a12 : PySem.W.nsIn K mainGlobals "_law_copy" = some (some (.ref f12)))
    (l12 : K.lookup f12 = some ⟨oc12, od12, .func (PySem.W.fnOf "_law_copy" "_law_copy" (defArgs s__law_copy) (defBody s__law_copy) (defScope s__law_copy) .none kV12 dc12 pm12 an12 cd12 ct12), sl12⟩)
    (c12 : PySem.W.codeIn K cd12 "_law_copy" = true) (k12 : PySem.W.keepIn K (.ref f12) = true)
    (a13 : PySem.W.nsIn K mainGlobals "_law_mark" = some (some (.ref f13)))
    (l13 : K.lookup f13 = some ⟨oc13, od13, .func (PySem.W.fnOf "_law_mark" "_law_mark" (defArgs s__law_mark) (defBody s__law_mark) (defScope s__law_mark) .none kV13 dc13 pm13 an13 cd13 ct13), sl13⟩)
    (c13 : PySem.W.codeIn K cd13 "_law_mark" = true) (k13 : PySem.W.keepIn K (.ref f13) = true)
    (a14 : PySem.W.nsIn K mainGlobals "_law_changed" = some (some (.ref f14)))
    (l14 : K.lookup f14 = some ⟨oc14, od14, .func (PySem.W.fnOf "_law_changed" "_law_changed" (defArgs s__law_changed) (defBody s__law_changed) (defScope s__law_changed) .none kV14 dc14 pm14 an14 cd14 ct14), sl14⟩)
    (c14 : PySem.W.codeIn K cd14 "_law_changed" = true) (k14 : PySem.W.keepIn K (.ref f14) = true)
    (a15 : PySem.W.nsIn K mainGlobals "law" = some (some (.ref f15)))
    (l15 : K.lookup f15 = some ⟨oc15, od15, .func (PySem.W.fnOf "law" "law" (defArgs s_law) (defBody s_law) (defScope s_law) .none kV15 dc15 pm15 an15 cd15 ct15), sl15⟩)
    (c15 : PySem.W.codeIn K cd15 "law" = true) (k15 : PySem.W.keepIn K (.ref f15) = true)
    (q1 : PySem.W.nsIn K mainGlobals "LONGEST" = some (some (.int 9000 tk1)))
    (z1 : PySem.W.nsIn K mainGlobals "bool" = some none)
    (z2 : PySem.W.nsIn K mainGlobals "dict" = some none)
    (z3 : PySem.W.nsIn K mainGlobals "int" = some none)
    (z4 : PySem.W.nsIn K mainGlobals "isinstance" = some none)
    (z5 : PySem.W.nsIn K mainGlobals "len" = some none)
    (z6 : PySem.W.nsIn K mainGlobals "list" = some none)
    (z7 : PySem.W.nsIn K mainGlobals "max" = some none)
    (z8 : PySem.W.nsIn K mainGlobals "min" = some none)
    (z9 : PySem.W.nsIn K mainGlobals "range" = some none)
    (z10 : PySem.W.nsIn K mainGlobals "sorted" = some none)
    (z11 : PySem.W.nsIn K mainGlobals "str" = some none)
    (xa1 : PySem.W.nsIn K mainGlobals "BesideError" = some (some (.ref x1)))
    (xb1 : PySem.W.subIn K (.ref x1) (.type "BaseException") = some true)
    (xt1 : PySem.W.typeIn K (.ref x1) = some (.type "type"))
    (xi1 : PySem.W.isClsIn K x1 = true)
    (xa2 : PySem.W.nsIn K mainGlobals "NoMarks" = some (some (.ref x2)))
    (xb2 : PySem.W.subIn K (.ref x2) (.type "BaseException") = some true)
    (xt2 : PySem.W.typeIn K (.ref x2) = some (.type "type"))
    (xi2 : PySem.W.isClsIn K x2 = true) :
    ∃ fd : FuncData, (∀ (s : Shared) (v : Value), BindsTo s fd ⟨[v], []⟩ [("_law_script", v)]) ∧ ∀ base : Heap, K.In base → base.Ns mainGlobals mg → FnOk l.prog w K mg base CX0 20 fa fd ["_law_script"] (spLaw K) := by
  have e := hfa.symm.trans (PySem.W.mg_of X G a15)
  cases e
  let T : Txt K mg := {
    is_mark := ⟨f1, _, fun_mk (st := s_is_mark) l1 c1 k1, PySem.W.mg_of X G a1, (fun_mk (st := s_is_mark) l1 c1 k1).binds (ps := ps_is_mark) fun _ _ _ _ _ _ us hl => match us, hl with | [_], _ => rfl⟩
    look_at_marks := ⟨f2, _, fun_mk (st := s_look_at_marks) l2 c2 k2, PySem.W.mg_of X G a2, (fun_mk (st := s_look_at_marks) l2 c2 k2).binds (ps := ps_look_at_marks) fun _ _ _ _ _ _ us hl => match us, hl with | [_, _], _ => rfl⟩
    sight_of := ⟨f3, _, fun_mk (st := s_sight_of) l3 c3 k3, PySem.W.mg_of X G a3, (fun_mk (st := s_sight_of) l3 c3 k3).binds (ps := ps_sight_of) fun _ _ _ _ _ _ us hl => match us, hl with | [_], _ => rfl⟩
    view_of := ⟨f4, _, fun_mk (st := s_view_of) l4 c4 k4, PySem.W.mg_of X G a4, (fun_mk (st := s_view_of) l4 c4 k4).binds (ps := ps_view_of) fun _ _ _ _ _ _ us hl => match us, hl with | [_, _, _], _ => rfl⟩
    _law_cell_at := ⟨f5, _, fun_mk (st := s__law_cell_at) l5 c5 k5, PySem.W.mg_of X G a5, (fun_mk (st := s__law_cell_at) l5 c5 k5).binds (ps := ps__law_cell_at) fun _ _ _ _ _ _ us hl => match us, hl with | [_, _], _ => rfl⟩
    _law_pool := ⟨f6, _, fun_mk (st := s__law_pool) l6 c6 k6, PySem.W.mg_of X G a6, (fun_mk (st := s__law_pool) l6 c6 k6).binds (ps := ps__law_pool) fun _ _ _ _ _ _ us hl => match us, hl with | [_, _], _ => rfl⟩
    _law_take := ⟨f7, _, fun_mk (st := s__law_take) l7 c7 k7, PySem.W.mg_of X G a7, (fun_mk (st := s__law_take) l7 c7 k7).binds (ps := ps__law_take) fun _ _ _ _ _ _ us hl => match us, hl with | [_, _], _ => rfl⟩
    _law_names := ⟨f8, _, fun_mk (st := s__law_names) l8 c8 k8, PySem.W.mg_of X G a8, (fun_mk (st := s__law_names) l8 c8 k8).binds (ps := ps__law_names) fun _ _ _ _ _ _ us hl => match us, hl with | [_, _], _ => rfl⟩
    _law_link := ⟨f9, _, fun_mk (st := s__law_link) l9 c9 k9, PySem.W.mg_of X G a9, (fun_mk (st := s__law_link) l9 c9 k9).binds (ps := ps__law_link) fun _ _ _ _ _ _ us hl => match us, hl with | [_, _, _, _, _], _ => rfl⟩
    _law_told := ⟨f10, _, fun_mk (st := s__law_told) l10 c10 k10, PySem.W.mg_of X G a10, (fun_mk (st := s__law_told) l10 c10 k10).binds (ps := ps__law_told) fun _ _ _ _ _ _ us hl => match us, hl with | [_, _, _], _ => rfl⟩
    _law_web := ⟨f11, _, fun_mk (st := s__law_web) l11 c11 k11, PySem.W.mg_of X G a11, (fun_mk (st := s__law_web) l11 c11 k11).binds (ps := ps__law_web) fun _ _ _ _ _ _ us hl => match us, hl with | [_, _, _], _ => rfl⟩
    _law_copy := ⟨f12, _, fun_mk (st := s__law_copy) l12 c12 k12, PySem.W.mg_of X G a12, (fun_mk (st := s__law_copy) l12 c12 k12).binds (ps := ps__law_copy) fun _ _ _ _ _ _ us hl => match us, hl with | [_], _ => rfl⟩
    _law_mark := ⟨f13, _, fun_mk (st := s__law_mark) l13 c13 k13, PySem.W.mg_of X G a13, (fun_mk (st := s__law_mark) l13 c13 k13).binds (ps := ps__law_mark) fun _ _ _ _ _ _ us hl => match us, hl with | [_], _ => rfl⟩
    _law_changed := ⟨f14, _, fun_mk (st := s__law_changed) l14 c14 k14, PySem.W.mg_of X G a14, (fun_mk (st := s__law_changed) l14 c14 k14).binds (ps := ps__law_changed) fun _ _ _ _ _ _ us hl => match us, hl with | [_, _, _], _ => rfl⟩
    law := ⟨fa, _, fun_mk (st := s_law) l15 c15 k15, PySem.W.mg_of X G a15, (fun_mk (st := s_law) l15 c15 k15).binds (ps := ps_law) fun _ _ _ _ _ _ us hl => match us, hl with | [_], _ => rfl⟩
    g_LONGEST := ⟨_, PySem.W.mg_of X G q1, ⟨_, rfl⟩⟩
    n_bool := PySem.W.mg_none_of X G z1
    n_dict := PySem.W.mg_none_of X G z2
    n_int := PySem.W.mg_none_of X G z3
    n_isinstance := PySem.W.mg_none_of X G z4
    n_len := PySem.W.mg_none_of X G z5
    n_list := PySem.W.mg_none_of X G z6
    n_max := PySem.W.mg_none_of X G z7
    n_min := PySem.W.mg_none_of X G z8
    n_range := PySem.W.mg_none_of X G z9
    n_sorted := PySem.W.mg_none_of X G z10
    n_str := PySem.W.mg_none_of X G z11
    BesideError := ⟨x1, PySem.W.mg_of X G xa1, xb1, xt1, xi1⟩
    NoMarks := ⟨x2, PySem.W.mg_of X G xa2, xb2, xt2, xi2⟩
  }
  exact ⟨PySem.W.fnOf "law" "law" (defArgs s_law) (defBody s_law) (defScope s_law) .none kV15 dc15 pm15 an15 cd15 ct15, fun s v => .of_eq rfl, fun base _ _ => ok_law T⟩
end B
open PySem PySem.W PyProof.Rows
set_option maxHeartbeats 0 in
theorem PySem.Challenge.cw_besidesay_k16_whole_seen_by_neighbours_a_holds : PySem.Challenge.rw_besidesay_k16_whole_seen_by_neighbours_a.Holds := by
  w_on; o_law; k_head; (case hw => w_witness2)
  k_fill
  refine L2.walk_of (l := PySem.Challenge.rw_besidesay_k16_whole_seen_by_neighbours_a) (n := 63) (k := 20) (x := "_law_script") (CX := fun _ => L2.CX0) (sp := fun w => B.spLaw _) rfl (by decide) rfl ⟨rfl, by decide, by decide⟩ (fun w h Y => PySem.W.kIn_of Y) ?F (fun _ _ a ns hl _ hS => ⟨a, ns, rfl, hS, hl, fun _ => rfl⟩) (fun _ _ _ _ _ h => h)
  case F =>
    intro w mg fa h KX G hmg
    refine' B.all_mk KX G hmg ?a1 ?l1 ?c1 ?k1 ?a2 ?l2 ?c2 ?k2 ?a3 ?l3 ?c3 ?k3 ?a4 ?l4 ?c4 ?k4 ?a5 ?l5 ?c5 ?k5 ?a6 ?l6 ?c6 ?k6 ?a7 ?l7 ?c7 ?k7 ?a8 ?l8 ?c8 ?k8 ?a9 ?l9 ?c9 ?k9 ?a10 ?l10 ?c10 ?k10 ?a11 ?l11 ?c11 ?k11 ?a12 ?l12 ?c12 ?k12 ?a13 ?l13 ?c13 ?k13 ?a14 ?l14 ?c14 ?k14 ?a15 ?l15 ?c15 ?k15 ?q1 ?z1 ?z2 ?z3 ?z4 ?z5 ?z6 ?z7 ?z8 ?z9 ?z10 ?z11 ?xa1 ?xb1 ?xt1 ?xi1 ?xa2 ?xb2 ?xt2 ?xi2
    (case a1 => k_is); (case l1 => k_is); (case c1 => k_is); (case k1 => k_is); (case a2 => k_is); (case l2 => k_is)
    (case c2 => k_is); (case k2 => k_is); (case a3 => k_is); (case l3 => k_is); (case c3 => k_is); (case k3 => k_is)
    (case a4 => k_is); (case l4 => k_is); (case c4 => k_is); (case k4 => k_is); (case a5 => k_is); (case l5 => k_is)
    (case c5 => k_is); (case k5 => k_is); (case a6 => k_is); (case l6 => k_is); (case c6 => k_is); (case k6 => k_is)
    (case a7 => k_is); (case l7 => k_is); (case c7 => k_is); (case k7 => k_is); (case a8 => k_is); (case l8 => k_is)
    (case c8 => k_is); (case k8 => k_is); (case a9 => k_is); (case l9 => k_is); (case c9 => k_is); (case k9 => k_is)
    (case a10 => k_is); (case l10 => k_is); (case c10 => k_is); (case k10 => k_is); (case a11 => k_is); (case l11 => k_is)
    (case c11 => k_is); (case k11 => k_is); (case a12 => k_is); (case l12 => k_is); (case c12 => k_is); (case k12 => k_is)
    (case a13 => k_is); (case l13 => k_is); (case c13 => k_is); (case k13 => k_is); (case a14 => k_is); (case l14 => k_is)
    (case c14 => k_is); (case k14 => k_is); (case a15 => k_is); (case l15 => k_is); (case c15 => k_is); (case k15 => k_is)
    (case q1 => k_is); (case z1 => k_is); (case z2 => k_is); (case z3 => k_is); (case z4 => k_is); (case z5 => k_is)
    (case z6 => k_is); (case z7 => k_is); (case z8 => k_is); (case z9 => k_is); (case z10 => k_is); (case z11 => k_is)
    (case xa1 => k_is); (case xb1 => k_is); (case xt1 => k_is); (case xi1 => k_is); (case xa2 => k_is); (case xb2 => k_is)
    (case xt2 => k_is); (case xi2 => k_is)
