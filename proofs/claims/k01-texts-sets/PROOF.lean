import PyProof.Rows.All
import Wide.All
import OpenK.AllK
import Wide.FinOn
import HandS.ForMost
import HandS.ForExc
import HandS.Flow
import HandS.Defaults
import HandS.CallSlots
import HandS.IsInst
import HandS.Codes
import HandS.ClsMeth
import HandS.OwnEq
import HandS.Property
import HandS.ExcInit
import HandS.ExcField
import HandS.ExcIs
import HandS.Nested
import KE.KExcSuper
import KE.KExcIs
import HandS.Strs
import HandS.SetTxtIn
import HandS.More
import HandS.Replace
import HandS.ReplaceList
import HandS.Head0
import HandS.Head1
import HandS.Head2
import HandS.HeadEnd
import HandS.HeadHook1
import HandS.HeadHook2
import HandS.TupLe
import HandS.Text
import HandS.List
import PyProof.Rows.StrFirst
import HandS.Conv
import PyProof.ListStr
import HandS.Set
import HandS.SetFor
import KE.SortKeyHeap
import HandS.SortKw
import KE.KSortKey
import PySem.Challenge.RW_talepost_k01_texts_and_sets
set_option Elab.async false
set_option linter.all false
set_option maxRecDepth 100000
set_option maxHeartbeats 1000000
namespace Ta
open PySem PySem.Spec PyProof.Rows L2
abbrev St := L2.St

/-! ### texts as lists of codes -/
abbrev tl (x : Str) : List Nat := x.cps.toList
abbrev S (l : List Nat) : Str := ⟨l.toArray⟩
theorem tl_S (l : List Nat) : tl (S l) = l := rfl
theorem S_tl (x : Str) : S (tl x) = x := TL.mk_tl x
theorem ext_tl {x y : Str} (h : tl x = tl y) : x = y := TL.ext_tl h
theorem len_tl (x : Str) : x.length = (tl x).length := TL.len_tl x
theorem add_S (x y : Str) : x ++ y = S (tl x ++ tl y) := ext_tl (TL.tl_append x y)

/-! ### marks: a look at the heap, a branch -/
structure look (H : Hp) (p : Addr) (k : Option HO → Prop) : Prop where
  out : k (H p)
theorem look_i {H : Hp} {p : Addr} {k : Option HO → Prop} {o : HO} (h : H p = some o) (q : k (some o)) : look H p k := by
  refine ⟨?_⟩; rw [h]; exact q
theorem look_n {H : Hp} {p : Addr} {k : Option HO → Prop} (h : H p = none) (q : k none) : look H p k := by
  refine ⟨?_⟩; rw [h]; exact q
theorem look_e {H : Hp} {p : Addr} {k : Option HO → Prop} (q : look H p k) : k (H p) := by
  replace q := q.out; exact q
structure cnd (c : Bool) (p q : Prop) : Prop where
  out : match c with
  | true => p
  | false => q
theorem cnd_i {c : Bool} {p q : Prop} (h1 : c = true → p) (h2 : c = false → q) : cnd c p q := by
  refine ⟨?_⟩; cases c
  · exact h2 rfl
  · exact h1 rfl
theorem cnd_t {c : Bool} {p q : Prop} (h : c = true) (h1 : p) : cnd c p q := by refine ⟨?_⟩; rw [h]; exact h1
theorem cnd_f {c : Bool} {p q : Prop} (h : c = false) (h1 : q) : cnd c p q := by refine ⟨?_⟩; rw [h]; exact h1
theorem cnd_e {c : Bool} {p q : Prop} (h : cnd c p q) : if c = true then p else q := by
  replace h := h.out; cases c
  · exact h
  · exact h

/-! ### weakening -/
section
variable {X : Cx}
theorem pe_imp {e : Expr} {t t' : TE} (h : PE X e t) (i : ∀ σ H Q, t' σ H Q → t σ H Q) : PE X e t' := ⟨fun pins s σ H Q I q => h.run pins s σ H Q I (i σ H Q q)⟩
theorem pt_imp {e : Expr} {t t' : TT} (h : PT X e t) (i : ∀ σ H Q, t' σ H Q → t σ H Q) : PT X e t' := ⟨fun pins s σ H Q I q => h.run pins s σ H Q I (i σ H Q q)⟩
theorem pw_imp {e : Expr} {t t' : TT} (h : PW X e t) (i : ∀ σ H Q, t' σ H Q → t σ H Q) : PW X e t' := ⟨fun whole pins s σ H Q I q => h.run whole pins s σ H Q I (i σ H Q q)⟩
theorem ps_imp {e : Stmt} {t t' : TS} (h : PS X e t) (i : ∀ D σ H, t' D σ H → t D σ H) : PS X e t' := ⟨fun pins s σ H D I q => h.run pins s σ H D I (i D σ H q)⟩
theorem pss_imp {e : List Stmt} {t t' : TS} (h : PSs X e t) (i : ∀ D σ H, t' D σ H → t D σ H) : PSs X e t' := ⟨fun pins s σ H D I q => h.run pins s σ H D I (i D σ H q)⟩
theorem op_imp {f : Value → Value → Sem Value} {r r' : R2} (h : OpR X f r) (i : ∀ x y H Q, r' x y H Q → r x y H Q) : OpR X f r' := fun pins s σ H x y v u Q I rx ry q => h pins s σ H x y v u Q I rx ry (i x y H Q q)
theorem ix_imp {r r' : R2} (h : IxR X r) (i : ∀ x y H Q, r' x y H Q → r x y H Q) : IxR X r' := fun va sl pins s σ H x y v u Q I rx ry q => h va sl pins s σ H x y v u Q I rx ry (i x y H Q q)
theorem cr_imp {f : Value} {r r' : List V → Hp → VK → Prop} (h : CallR X f r) (i : ∀ xs H Q, r' xs H Q → r xs H Q) : CallR X f r' := fun pins s σ H xs us Q I rx q => h pins s σ H xs us Q I rx (i xs H Q q)
theorem sl_imp {r r' : V → Option Int → Option Int → Hp → VK → Prop} (h : SlR X r) (i : ∀ x a b H Q, r' x a b H Q → r x a b H Q) : SlR X r' := fun pins s σ H x v vl vu lo hi sl Q I rx rs pl pu q => h pins s σ H x v vl vu lo hi sl Q I rx rs pl pu (i x lo hi H Q q)
theorem mt_imp {id : String} {r r' : V → List V → Hp → VK → Prop} (h : MtR X id r) (i : ∀ x xs H Q, r' x xs H Q → r x xs H Q) : MtR X id r' := fun pins s σ H x xs v us Q I rx rs q => h pins s σ H x xs v us Q I rx rs (i x xs H Q q)
end

/-! ### limits -/
def Lim (n : Nat) : Prop := n ≤ sizeLine
theorem lim_of {n : Nat} (h : n ≤ 16777216) : Lim n := by unfold Lim; rw [sizeLine_eq]; exact h

/-! ### names, constants -/
section
variable {X : Cx}
def tV (i : Nat) : TE := fun σ H Q => match σ[i]? with
  | some (some v) => Q v H
  | _ => False
theorem tV_e {i : Nat} {σ : St} {H : Hp} {Q : VK} (h : tV i σ H Q) : tVar i σ H Q := by
  unfold tV at h
  split at h
  · rename_i v e
    exact ⟨v, e, h⟩
  · exact h.elim
theorem pv (i : Nat) {x : Str} {pos : Pos} (hN : X.N[i]? = some x := by rfl) (hv : Vis X.env.scope x := by first | exact Or.inl rfl | exact Or.inr (Or.inl rfl) | exact Or.inr (Or.inr rfl)) (hd : (x == ("__debug__" : Str)) = false := by decide +kernel)
    (hcd : (x == ("__classdict__" : Str)) = false := by decide +kernel) : PE X (.Name x pos) (tV i) := pe_imp (pe_var hN hv hd hcd) fun _ _ _ h => tV_e h
theorem pstr (l : List Nat) {x : Str} {j : Nat} {pos : Pos} (h : x = S l := by decide +kernel) : PE X (.Constant (.str x) j pos) (tC (.str (S l))) := by
  subst h; exact pe_str

/-! ### truth -/
def truP (K : PySem.W.Frag) (x : V) (H : Hp) (Q : Bool → Prop) : Prop := match x with
  | .non => Q false
  | .bl b => Q b
  | .int i => Q (!decide (i = 0))
  | .str y => Lim (tl y).length ∧ Q (!(tl y).isEmpty)
  | .ref p => look H p fun o => match o with
    | some (.lst xs) => Q (!xs.isEmpty)
    | some (.tup xs) => Q (!xs.isEmpty)
    | some (.dK kvs) => Q (!kvs.isEmpty)
    | some (.frz _ (.lst xs)) => Q (!xs.isEmpty)
    | _ => ∃ xs, (SqL K H p xs ∨ SqT K H p xs) ∧ Q (!xs.isEmpty)
  | _ => False
theorem truP_e {K : PySem.W.Frag} {x : V} {H : Hp} {Q : Bool → Prop} (h : truP K x H Q) : ∃ k, TruV K x H k ∧ Q k := by
  cases x with
  | non => exact ⟨false, rfl, h⟩
  | bl b => exact ⟨b, rfl, h⟩
  | int i => exact ⟨!decide (i = 0), by show (!decide (i = 0)) = (i != 0); simp only [bne]; congr 1, h⟩
  | str y =>
    obtain ⟨h1, h2⟩ := h
    refine ⟨!(tl y).isEmpty, ⟨by rw [len_tl]; exact h1, ?_⟩, h2⟩
    rw [len_tl]
    cases e : tl y with
    | nil => rfl
    | cons c r => simp; omega
  | ref p =>
    have h' := look_e h
    revert h'
    cases e : H p with
    | none => exact fun ⟨xs, h1, h2⟩ => ⟨_, h1.elim (fun z => .inl ⟨xs, z, rfl⟩) (fun z => .inr (.inl ⟨xs, z, rfl⟩)), h2⟩
    | some o =>
      cases o with
      | lst xs => exact fun h2 => ⟨_, .inl ⟨xs, SqL.of e, rfl⟩, h2⟩
      | tup xs => exact fun h2 => ⟨_, .inr (.inl ⟨xs, SqT.of e, rfl⟩), h2⟩
      | dK xs => exact fun h2 => ⟨_, .inr (.inr ⟨xs, e, rfl⟩), h2⟩
      | frz ob u =>
        cases u with
        | lst xs => exact fun h2 => ⟨_, .inl ⟨xs, .inl (.inr ⟨_, e⟩), rfl⟩, h2⟩
        | _ => exact fun ⟨xs, h1, h2⟩ => ⟨_, h1.elim (fun z => .inl ⟨xs, z, rfl⟩) (fun z => .inr (.inl ⟨xs, z, rfl⟩)), h2⟩
      | _ => exact fun ⟨xs, h1, h2⟩ => ⟨_, h1.elim (fun z => .inl ⟨xs, z, rfl⟩) (fun z => .inr (.inl ⟨xs, z, rfl⟩)), h2⟩
  | _ => exact h.elim
def tTru (K : PySem.W.Frag) (ta : TE) : TT := fun σ H Q => ta σ H fun x H1 => truP K x H1 fun k => Q k H1
variable {a b c : Expr} {ta tb tc : TE} {rest : List Expr} {pos : Pos}
theorem ptru (ha : PE X a ta) (he : ∀ whole, isTrue a X.env whole = (do let v ← whole; standAt a.pos; holding [v] (truthy v)) := by intro _; rfl) : PT X a (tTru X.K ta) := by
  refine ⟨fun pins s σ H Q I h => ?_⟩
  exact isTrue_plain (thn (ha.run pins s σ H _ I h) fun v s1 ⟨x, H1, I1, r1, q1⟩ => tru_ok pins s1 σ H1 x v Q I1 r1 (truP_e (Q := fun k => Q k H1) q1)) (he _)
/-- a test that is a comparison -/
def tTst (t : TE) : TT := fun σ H Q => t σ H fun x H' => match x with
  | .bl k => Q k H'
  | _ => False
theorem bl_of {x : V} {P : Bool → Prop} (h : match x with | .bl k => P k | _ => False) : ∃ k, x = .bl k ∧ P k := by
  cases x with
  | bl k => exact ⟨k, rfl, h⟩
  | _ => exact h.elim
theorem ptcmp {op : CmpOp} {r : R2} (ho : OpR X (compareOp op) r) (ha : PE X a ta) (hb : PE X b tb) (hm : behindInMarks op b = false := by rfl) : PT X (.Compare a [op] [b] pos) (tTst (tOp r ta tb)) := by
  refine ⟨fun pins s σ H Q I h => ?_⟩
  refine wpAny_isTrue_Compare1 (binT ha hb I h fun v u s2 x y H2 I2 rx ry q => ?_) hm
  refine thn (ho pins s2 σ H2 x y v u _ I2 rx ry q) fun c s3 ⟨z, H3, I3, r3, q3⟩ => ?_
  obtain ⟨k, rfl, q3⟩ := bl_of q3
  cases r3
  exact wpAny_truthy_bool ⟨H3, I3, q3⟩
def tAndP (t u : TT) : TT := fun σ H Q => t σ H fun c H1 => cnd c (u σ H1 Q) (Q false H1)
def tOrP (t u : TT) : TT := fun σ H Q => t σ H fun c H1 => cnd c (Q true H1) (u σ H1 Q)
variable {tA tB' : TT}
theorem pwand (ha : PT X a tA) (hb : PW X (.BoolOp .And (b :: rest) pos) tB') : PW X (.BoolOp .And (a :: b :: rest) pos) (tAndP tA tB') := by
  refine ⟨fun wh pins s σ H Q I h => ?_⟩
  refine isTrue_and (thn (ha.run pins s σ H _ I h) fun c s1 ⟨H1, I1, q1⟩ => ?_)
  have q1 := cnd_e q1
  cases c with
  | true => exact hb.run wh pins s1 σ H1 Q I1 q1
  | false => exact ⟨H1, I1, q1⟩
theorem pwor (ha : PT X a tA) (hb : PW X (.BoolOp .Or (b :: rest) pos) tB') : PW X (.BoolOp .Or (a :: b :: rest) pos) (tOrP tA tB') := by
  refine ⟨fun wh pins s σ H Q I h => ?_⟩
  refine isTrue_or (thn (ha.run pins s σ H _ I h) fun c s1 ⟨H1, I1, q1⟩ => ?_)
  have q1 := cnd_e q1
  cases c with
  | true => exact ⟨H1, I1, q1⟩
  | false => exact hb.run wh pins s1 σ H1 Q I1 q1
/-! ### and, or, not as values -/
def tAndE (K : PySem.W.Frag) (ta tb : TE) : TE := fun σ H Q => ta σ H fun x H1 => truP K x H1 fun k => cnd k (tb σ H1 Q) (Q x H1)
def tOrE (K : PySem.W.Frag) (ta tb : TE) : TE := fun σ H Q => ta σ H fun x H1 => truP K x H1 fun k => cnd k (Q x H1) (tb σ H1 Q)
def tNotE (K : PySem.W.Frag) (ta : TE) : TE := fun σ H Q => ta σ H fun x H1 => truP K x H1 fun k => Q (.bl (!k)) H1
theorem peor (ha : PE X a ta) (hb : PE X (.BoolOp .Or (b :: rest) pos) tb) : PE X (.BoolOp .Or (a :: b :: rest) pos) (tOrE X.K ta tb) := by
  refine ⟨fun pins s σ H Q I h => ?_⟩
  refine BoolOp_or (thn (ha.run pins s σ H _ I h) fun v s1 ⟨x, H1, I1, r1, q1⟩ => ?_)
  obtain ⟨k, e, q1⟩ := truP_e q1
  refine thn (tru_ok pins s1 σ H1 x v (fun c H2 => c = k ∧ H2 = H1) I1 r1 ⟨k, e, rfl, rfl⟩) fun c s2 hc => ?_
  obtain ⟨H2, I2, e1, e2⟩ := hc
  rw [e2] at I2
  rw [← e1] at q1
  have q1 := cnd_e q1
  cases c with
  | true => exact ⟨x, H1, I2, r1, q1⟩
  | false => exact hb.run pins s2 σ H1 Q I2 q1
theorem peand (ha : PE X a ta) (hb : PE X (.BoolOp .And (b :: rest) pos) tb) : PE X (.BoolOp .And (a :: b :: rest) pos) (tAndE X.K ta tb) := by
  refine ⟨fun pins s σ H Q I h => ?_⟩
  refine BoolOp_and (thn (ha.run pins s σ H _ I h) fun v s1 ⟨x, H1, I1, r1, q1⟩ => ?_)
  obtain ⟨k, e, q1⟩ := truP_e q1
  refine thn (tru_ok pins s1 σ H1 x v (fun c H2 => c = k ∧ H2 = H1) I1 r1 ⟨k, e, rfl, rfl⟩) fun c s2 hc => ?_
  obtain ⟨H2, I2, e1, e2⟩ := hc
  rw [e2] at I2
  rw [← e1] at q1
  have q1 := cnd_e q1
  cases c with
  | true => exact hb.run pins s2 σ H1 Q I2 q1
  | false => exact ⟨x, H1, I2, r1, q1⟩
theorem penot (ha : PE X a ta) : PE X (.UnaryOp .Not a pos) (tNotE X.K ta) := by
  refine ⟨fun pins s σ H Q I h => ?_⟩
  refine UnaryOp_ (thn (ha.run pins s σ H _ I h) fun v s1 ⟨x, H1, I1, r1, q1⟩ => ?_)
  obtain ⟨k, e, q1⟩ := truP_e q1
  exact not_of (thn (tru_ok pins s1 σ H1 x v (fun c H2 => Q (.bl (!c)) H2) I1 r1 ⟨k, e, q1⟩) fun c s2 ⟨H2, I2, q2⟩ => ⟨.bl (!c), H2, I2, rfl, q2⟩)
def tIfE (t : TT) (ta tb : TE) : TE := fun σ H Q => t σ H fun c H1 => cnd c (ta σ H1 Q) (tb σ H1 Q)
theorem peif (hc : PT X c tA) (ha : PE X a ta) (hb : PE X b tb) : PE X (.IfExp c a b pos) (tIfE tA ta tb) := by
  refine ⟨fun pins s σ H Q I h => ?_⟩
  refine wpAny_IfExp (thn (hc.run pins s σ H _ I h) fun d s1 ⟨H1, I1, q1⟩ => ?_)
  have q1 := cnd_e q1
  cases d with
  | true => exact ha.run pins s1 σ H1 Q I1 q1
  | false => exact hb.run pins s1 σ H1 Q I1 q1
/-- a op1 b op2 c -/
def tChn (r r' : R2) (ta tb tc : TE) : TE := fun σ H Q => ta σ H fun x H1 => tb σ H1 fun y H2 => r x y H2 fun z H3 => match z with
  | .bl k => cnd k (tc σ H3 fun w' H4 => r' y w' H4 Q) (Q (.bl false) H3)
  | _ => False
theorem pechn {op op' : CmpOp} {r r' : R2} (ho : OpR X (compareOp op) r) (ho' : OpR X (compareOp op') r') (ha : PE X a ta) (hb : PE X b tb) (hc : PE X c tc)
    (hm : lastMarks [op, op'] [b, c] = false := by with_unfolding_all rfl) : PE X (.Compare a [op, op'] [b, c] pos) (tChn r r' ta tb tc) := by
  refine ⟨fun pins s σ H Q I h => ?_⟩
  refine Compare_chain (thn (ha.run pins s σ H _ I h) fun v s1 ⟨x, H1, I1, r1, q1⟩ => chain_link (thn (hb.run pins s1 σ H1 _ I1 q1) fun u s2 ⟨y, H2, I2, r2, q2⟩ =>
    thn (ho pins s2 σ H2 x y v u _ I2 r1 r2 q2) fun d s3 ⟨z, H3, I3, r3, q3⟩ => ?_)) hm
  obtain ⟨k, rfl, q3⟩ := bl_of q3
  have q3 := cnd_e q3
  cases r3
  refine wpAny_truthy_bool ?_
  cases k with
  | false => exact ite_ff ⟨.bl false, H3, I3, rfl, q3⟩
  | true => exact ite_tt (chain_last (thn (hc.run pins s3 σ H3 _ I3 q3) fun w' s4 ⟨z', H4, I4, r4, q4⟩ => ho' pins s4 σ H4 y z' u w' Q I4 r2 r4 q4))
theorem ptchn {op op' : CmpOp} {r r' : R2} (ho : OpR X (compareOp op) r) (ho' : OpR X (compareOp op') r') (ha : PE X a ta) (hb : PE X b tb) (hc : PE X c tc)
    (hm : lastMarks [op, op'] [b, c] = false := by with_unfolding_all rfl) : PT X (.Compare a [op, op'] [b, c] pos) (tTst (tChn r r' ta tb tc)) := by
  refine ⟨fun pins s σ H Q I h => ?_⟩
  refine isTrue_chain (thn (ha.run pins s σ H _ I h) fun v s1 ⟨x, H1, I1, r1, q1⟩ => test_link (thn (hb.run pins s1 σ H1 _ I1 q1) fun u s2 ⟨y, H2, I2, r2, q2⟩ =>
    thn (ho pins s2 σ H2 x y v u _ I2 r1 r2 q2) fun d s3 ⟨z, H3, I3, r3, q3⟩ => ?_)) hm
  obtain ⟨k, rfl, q3⟩ := bl_of q3
  have q3 := cnd_e q3
  cases r3
  refine wpAny_truthy_bool ?_
  cases k with
  | false => exact ite_ff ⟨H3, I3, q3⟩
  | true =>
    refine ite_tt (test_last (thn (hc.run pins s3 σ H3 _ I3 q3) fun w' s4 ⟨z', H4, I4, r4, q4⟩ => thn (ho' pins s4 σ H4 y z' u w' _ I4 r2 r4 q4) fun d' s5 ⟨z2, H5, I5, r5, q5⟩ => ?_))
    obtain ⟨k2, rfl, q5⟩ := bl_of q5
    cases r5
    exact wpAny_truthy_bool ⟨H5, I5, q5⟩
end

/-! ### operators by value -/
section
variable {X : Cx}
def zAdd : R2 := fun x y H Q => match x with
  | .int i => (match y with
    | .int j => Q (.int (i + j)) H
    | _ => False)
  | .str a => (match y with
    | .str b => Lim ((tl a).length + (tl b).length) ∧ Q (.str (S (tl a ++ tl b))) H
    | _ => False)
  | .ref p => (match y with
    | .ref q => look H p fun o => match o with
      | some (.lst xs) => look H q fun o' => (match o' with
        | some (.lst ys) => Lim (xs.length + ys.length) ∧ ∀ r, H r = none → Q (.ref r) (upd H r (.lst (xs ++ ys)))
        | _ => False)
      | _ => False
    | _ => False)
  | _ => False
theorem opadd : OpR X (binaryOp .Add) zAdd := by
  intro pins s σ H x y v u Q I rx ry h
  cases x with
  | int i =>
    cases y with
    | int j => exact op_add pins s σ H _ _ v u Q I rx ry ⟨i, j, rfl, rfl, h⟩
    | _ => exact False.elim h
  | str i =>
    cases y with
    | str j => exact op_add_str pins s σ H _ _ v u Q I rx ry ⟨i, j, rfl, rfl, by rw [len_tl, len_tl]; exact h.1, by rw [add_S]; exact h.2⟩
    | _ => exact False.elim h
  | ref p =>
    cases y with
    | ref q =>
      have h := look_e h
      cases e : H p with
      | none => rw [e] at h; exact h.elim
      | some o =>
        rw [e] at h
        cases o with
        | lst xs =>
          have h := look_e h
          cases e' : H q with
          | none => rw [e'] at h; exact h.elim
          | some o' =>
            rw [e'] at h
            cases o' with
            | lst ys => exact op_cat pins s σ H _ _ v u Q I rx ry ⟨p, q, xs, ys, rfl, rfl, e, e', h.1, h.2⟩
            | _ => exact h.elim
        | _ => exact h.elim
    | _ => exact False.elim h
  | _ => exact False.elim h
def zI2 (C : Int → Int → Prop) (g : Int → Int → V) : R2 := fun x y H Q => match x with
  | .int i => (match y with
    | .int j => C i j ∧ Q (g i j) H
    | _ => False)
  | _ => False
def zI2f (g : Int → Int → V) : R2 := fun x y H Q => match x with
  | .int i => (match y with
    | .int j => Q (g i j) H
    | _ => False)
  | _ => False
theorem zI2_e {C : Int → Int → Prop} {g : Int → Int → V} {x y : V} {H : Hp} {Q : VK} (h : zI2 C g x y H Q) : rI C g x y H Q := by
  cases x with
  | int i => cases y with
    | int j => exact ⟨i, j, rfl, rfl, h.1, h.2⟩
    | _ => exact h.elim
  | _ => exact h.elim
theorem zI2f_e {g : Int → Int → V} {x y : V} {H : Hp} {Q : VK} (h : zI2f g x y H Q) : rI0 g x y H Q := by
  cases x with
  | int i => cases y with
    | int j => exact ⟨i, j, rfl, rfl, h⟩
    | _ => exact h.elim
  | _ => exact h.elim
def zSub : R2 := zI2f fun i j => .int (i - j)
def zMul : R2 := zI2 CMul fun i j => .int (i * j)
def zMod : R2 := zI2 (fun _ j => 0 < j) fun i j => .int (i % j)
def zDiv : R2 := zI2 CDiv fun i j => .int (i / j)
def zPow : R2 := zI2 CPow fun i j => .int (i ^ j.toNat)
theorem opsub : OpR X (binaryOp .Sub) zSub := op_imp op_sub fun _ _ _ _ h => zI2f_e h
theorem opmul : OpR X (binaryOp .Mult) zMul := op_imp op_mul fun _ _ _ _ h => zI2_e h
theorem opmod : OpR X (binaryOp .Mod) zMod := op_imp op_mod fun _ _ _ _ h => zI2_e h
theorem opdiv : OpR X (binaryOp .FloorDiv) zDiv := op_imp op_fdiv fun _ _ _ _ h => zI2_e h
theorem oppow : OpR X (binaryOp .Pow) zPow := op_imp op_pow fun _ _ _ _ h => zI2_e h
def zNeg : V → Hp → VK → Prop := fun x H Q => match x with
  | .int i => Q (.int (-i)) H
  | _ => False
theorem unneg : UnR X (unaryOp .USub) zNeg := fun pins s σ H x v Q I rx h => by
  cases x with
  | int i => exact un_neg pins s σ H _ v Q I rx ⟨i, rfl, h⟩
  | _ => exact h.elim
/-! comparisons -/
def zLt : R2 := fun x y H Q => match x with
  | .int i => (match y with
    | .int j => Q (.bl (decide (i < j))) H
    | _ => False)
  | .str a => (match y with
    | .str b => Q (.bl (decide (tl a < tl b))) H
    | _ => False)
  | _ => False
theorem oplt : OpR X (compareOp .Lt) zLt := by
  intro pins s σ H x y v u Q I rx ry h
  cases x with
  | int i => cases y with
    | int j => exact op_lt pins s σ H _ _ v u Q I rx ry ⟨i, j, rfl, rfl, h⟩
    | _ => exact False.elim h
  | str i => cases y with
    | str j => exact op_lt_str pins s σ H _ _ v u Q I rx ry ⟨i, j, rfl, rfl, h⟩
    | _ => exact False.elim h
  | _ => exact False.elim h
def zLe : R2 := zI2f fun i j => .bl (decide (i ≤ j))
def zGt : R2 := zI2f fun i j => .bl (decide (j < i))
def zGe : R2 := zI2f fun i j => .bl (decide (j ≤ i))
theorem ople : OpR X (compareOp .LtE) zLe := op_imp op_le fun _ _ _ _ h => zI2f_e h
theorem opgt : OpR X (compareOp .Gt) zGt := op_imp op_gt fun _ _ _ _ h => zI2f_e h
theorem opge : OpR X (compareOp .GtE) zGe := op_imp op_ge fun _ _ _ _ h => zI2f_e h
/-- == of data at addresses -/
structure dpq (K : PySem.W.Frag) (x y : V) (H : Hp) (Q : Bool → Prop) : Prop where
  out : ∃ d e, Dp K H x d ∧ Dp K H y e ∧ SeqAt.shaped d = true ∧ SeqAt.shaped e = true ∧ Q (PyData.eqv d e)
theorem dpq_i {K : PySem.W.Frag} {x y : V} {H : Hp} {Q : Bool → Prop} {d e : PyData} (h1 : Dp K H x d) (h2 : Dp K H y e) (h3 : SeqAt.shaped d = true) (h4 : SeqAt.shaped e = true) (q : Q (PyData.eqv d e)) : dpq K x y H Q := by refine ⟨?_⟩; exact ⟨d, e, h1, h2, h3, h4, q⟩
theorem dpq_e {K : PySem.W.Frag} {x y : V} {H : Hp} {Q : Bool → Prop} (h : dpq K x y H Q) : ∃ d e, Dp K H x d ∧ Dp K H y e ∧ SeqAt.shaped d = true ∧ SeqAt.shaped e = true ∧ Q (PyData.eqv d e) := by replace h := h.out; exact h
/-- what == tells of two values; data at addresses by Dp -/
def eqP (K : PySem.W.Frag) (x y : V) (H : Hp) (Q : Bool → Prop) : Prop := match x with
  | .int i => (match y with
    | .int j => Q (decide (i = j))
    | .non => Q false
    | .str _ => Q false
    | _ => False)
  | .str a => (match y with
    | .str b => Q (decide (tl a = tl b))
    | .non => Q false
    | .int _ => Q false
    | .bl _ => Q false
    | _ => False)
  | .bl a => (match y with
    | .bl b => Q (decide (a = b))
    | .non => Q false
    | .str _ => Q false
    | _ => False)
  | .non => (match y with
    | .non => Q true
    | .int _ => Q false
    | .bl _ => Q false
    | .str _ => Q false
    | _ => False)
  | .ref p => dpq K x y H Q
  | _ => False
theorem eqP_e {K : PySem.W.Frag} {x y : V} {H : Hp} {Q : Bool → Prop} (h : eqP K x y H Q) : (scal x y = true ∧ Q (decide (x = y))) ∨ ∃ d e, Dp K H x d ∧ Dp K H y e ∧ SeqAt.shaped d = true ∧ SeqAt.shaped e = true ∧ Q (PyData.eqv d e) := by
  cases x with
  | int i => cases y with
    | int j => exact .inl ⟨rfl, by simp; exact h⟩
    | non => exact .inl ⟨rfl, by simp; exact h⟩
    | str j => exact .inl ⟨rfl, by simp; exact h⟩
    | _ => exact h.elim
  | str i => cases y with
    | str j =>
      refine .inl ⟨rfl, ?_⟩
      have e : decide (V.str i = V.str j) = decide (tl i = tl j) := decide_eq_decide.mpr ⟨fun z => by injection z with z; rw [z], fun z => by rw [ext_tl z]⟩
      rw [e]; exact h
    | non => exact .inl ⟨rfl, by simp; exact h⟩
    | int j => exact .inl ⟨rfl, by simp; exact h⟩
    | bl j => exact .inl ⟨rfl, by simp; exact h⟩
    | _ => exact h.elim
  | bl i => cases y with
    | bl j => exact .inl ⟨rfl, by simp; exact h⟩
    | non => exact .inl ⟨rfl, by simp; exact h⟩
    | str j => exact .inl ⟨rfl, by simp; exact h⟩
    | _ => exact h.elim
  | non => cases y with
    | non => exact .inl ⟨rfl, by simp; exact h⟩
    | int j => exact .inl ⟨rfl, by simp; exact h⟩
    | bl j => exact .inl ⟨rfl, by simp; exact h⟩
    | str j => exact .inl ⟨rfl, by simp; exact h⟩
    | _ => exact h.elim
  | ref p => exact .inr (dpq_e h)
  | _ => exact h.elim
def zEqP (K : PySem.W.Frag) : R2 := fun x y H Q => eqP K x y H fun k => Q (.bl k) H
def zNeP (K : PySem.W.Frag) : R2 := fun x y H Q => eqP K x y H fun k => Q (.bl (!k)) H
theorem opeq (hu : X.A.units + 64 < cLine) : OpR X (compareOp .Eq) (zEqP X.K) := fun pins s σ H x y v u Q I rx ry h => by
  rcases eqP_e h with h | h
  · exact op_eq pins s σ H x y v u Q I rx ry h
  · exact op_eqD hu pins s σ H x y v u Q I rx ry h
theorem opne (hu : X.A.units + 64 < cLine) : OpR X (compareOp .NotEq) (zNeP X.K) := fun pins s σ H x y v u Q I rx ry h => by
  rcases eqP_e (Q := fun k => Q (.bl (!k)) H) h with h | h
  · exact op_ne pins s σ H x y v u Q I rx ry h
  · exact op_neD hu pins s σ H x y v u Q I rx ry h
/-- x is None -/
def zIsP : R2 := fun x y H Q => match y with
  | .non => Q (.bl (decide (x = .non))) H
  | _ => False
def zIsnP : R2 := fun x y H Q => match y with
  | .non => Q (.bl (!decide (x = .non))) H
  | _ => False
theorem opis : OpR X (compareOp .Is) zIsP := op_imp op_isN fun x y H Q h => by
  cases y with
  | non => exact ⟨rfl, h⟩
  | _ => exact h.elim
theorem opisn : OpR X (compareOp .IsNot) zIsnP := op_imp op_notN fun x y H Q h => by
  cases y with
  | non => exact ⟨rfl, h⟩
  | _ => exact h.elim
end
end Ta

set_option Elab.async false
set_option linter.all false
set_option maxRecDepth 100000
set_option maxHeartbeats 1000000
namespace Ta
open PySem PySem.Spec PyProof.Rows L2

/-! ### items -/
structure itm {α : Type} (xs : List α) (i : Int) (k : α → Prop) : Prop where
  out : ∃ v, atI xs i = some v ∧ k v
theorem itm_i {α : Type} {xs : List α} {i : Int} {k : α → Prop} {v : α} (h : atI xs i = some v) (q : k v) : itm xs i k := by refine ⟨?_⟩; exact ⟨v, h, q⟩
theorem itm_e {α : Type} {xs : List α} {i : Int} {k : α → Prop} (q : itm xs i k) : ∃ v, atI xs i = some v ∧ k v := by replace q := q.out; exact q
theorem itm_n {α : Type} {xs : List α} {i : Int} {j : Nat} {k : α → Prop} {v : α} (e : i = (j : Int)) (h : xs[j]? = some v) (q : k v) : itm xs i k := by
  subst e; exact itm_i (atI_nat h) q
section
variable {X : Cx}
def zIxP (K : PySem.W.Frag) : R2 := fun x y H Q => match y with
  | .int i => (match x with
    | .str z => Lim (tl z).length ∧ itm (tl z) i fun c => Q (.str (S [c])) H
    | .ref p => look H p fun o => match o with
      | some (.lst xs) => itm xs i fun v => Q v H
      | some (.tup xs) => itm xs i fun v => Q v H
      | some (.frz _ (.lst xs)) => itm xs i fun v => Q v H
      | _ => ∃ xs, (SqL K H p xs ∨ SqT K H p xs) ∧ itm xs i fun v => Q v H
    | _ => False)
  | _ => False
theorem ixp : IxR X (zIxP X.K) := by
  refine ix_imp ix_seq fun x y H Q h => ?_
  cases y with
  | int i =>
    cases x with
    | str z =>
      obtain ⟨h1, h2⟩ := h
      obtain ⟨c, e, q⟩ := itm_e h2
      exact .inr (.inr ⟨z, i, c, rfl, rfl, by rw [len_tl]; exact h1, e, q⟩)
    | ref p =>
      have h := look_e h
      have fin : ∀ xs, SqL X.K H p xs ∨ SqT X.K H p xs → (itm xs i fun v => Q v H) → rIx X.K (.ref p) (.int i) H Q := fun xs hs h2 => by
        obtain ⟨v, e, q⟩ := itm_e h2
        rcases hs with hs | hs
        · exact .inl ⟨p, xs, i, v, rfl, rfl, hs, e, q⟩
        · exact .inr (.inl ⟨p, xs, i, v, rfl, rfl, hs, e, q⟩)
      revert h
      cases e : H p with
      | none => exact fun ⟨xs, h1, h2⟩ => fin xs h1 h2
      | some o =>
        cases o with
        | lst xs => exact fun h2 => fin xs (.inl (SqL.of e)) h2
        | tup xs => exact fun h2 => fin xs (.inr (SqT.of e)) h2
        | frz ob u =>
          cases u with
          | lst xs => exact fun h2 => fin xs (.inl (.inl (.inr ⟨_, e⟩))) h2
          | _ => exact fun ⟨xs, h1, h2⟩ => fin xs h1 h2
        | _ => exact fun ⟨xs, h1, h2⟩ => fin xs h1 h2
    | _ => exact h.elim
  | _ => exact h.elim
variable {a b c : Expr} {ta tb tc : TE} {pos : Pos}
theorem pix (ha : PE X a ta) (hb : PE X b tb) (hs : PlainIx b := by exact fun _ _ => rfl) : PE X (.Subscript a b pos) (tOp (zIxP X.K) ta tb) := pe_ix ixp ha hb hs

/-! ### slices -/
def cut0 {α : Type} (xs : List α) (lo hi : Option Int) : List α := (xs.drop (HT.sIx xs.length 0 lo)).take (HT.sIx xs.length xs.length hi - HT.sIx xs.length 0 lo)
def ixS (n : Nat) (i : Int) : Nat := match i with
  | .ofNat k => k
  | .negSucc k => n - (k + 1)
/-- xs[lo:hi], as take and drop -/
def cut {α : Type} (xs : List α) (lo hi : Option Int) : List α := match hi with
  | none => (match lo with
    | none => xs
    | some i => xs.drop (ixS xs.length i))
  | some j => (match lo with
    | none => xs.take (ixS xs.length j)
    | some i => (xs.take (ixS xs.length j)).drop (ixS xs.length i))
theorem sIx_ixS (n d : Nat) (i : Int) : HT.sIx n d (some i) = min (ixS n i) n := by
  cases i with
  | ofNat k => exact HT.sIx_nat n d k
  | negSucc k =>
    show (if (Int.negSucc k) < 0 then (Int.negSucc k + (n : Int)).toNat else min (Int.negSucc k).toNat n) = min (n - (k + 1)) n
    rw [if_pos (by omega)]; omega
theorem take_min {α : Type} (xs : List α) (k : Nat) : xs.take (min k xs.length) = xs.take k := by
  rw [List.take_eq_take_iff]; omega
theorem drop_min {α : Type} (xs : List α) (k : Nat) : xs.drop (min k xs.length) = xs.drop k := by
  by_cases h : k ≤ xs.length
  · rw [Nat.min_eq_left h]
  · rw [Nat.min_eq_right (by omega), List.drop_eq_nil_of_le (Nat.le_refl _), List.drop_eq_nil_of_le (by omega)]
theorem cut_eq0 {α : Type} (xs : List α) (lo hi : Option Int) : cut0 xs lo hi = cut xs lo hi := by
  unfold cut0
  rw [← List.drop_take]
  cases hi with
  | none =>
    cases lo with
    | none => rw [HT.sIx_none, HT.sIx_none, List.take_length]; rfl
    | some i => rw [HT.sIx_none, sIx_ixS, List.take_length]; exact drop_min xs _
  | some j =>
    rw [sIx_ixS, take_min]
    cases lo with
    | none => rfl
    | some i =>
      rw [sIx_ixS]
      show (xs.take (ixS xs.length j)).drop (min (ixS xs.length i) xs.length) = (xs.take (ixS xs.length j)).drop (ixS xs.length i)
      by_cases h : ixS xs.length i ≤ xs.length
      · rw [Nat.min_eq_left h]
      · rw [Nat.min_eq_right (by omega), List.drop_eq_nil_of_le (by rw [List.length_take]; omega), List.drop_eq_nil_of_le (by rw [List.length_take]; omega)]
theorem cutS_S (z : Str) (lo hi : Option Int) : cutS z lo hi = S (cut (tl z) lo hi) := by
  rw [← cut_eq0]
  unfold cutS cut0
  simp only [len_tl]
theorem cut_len {α : Type} (xs : List α) (lo hi : Option Int) : (cut xs lo hi).length ≤ xs.length := by
  rw [← cut_eq0]; unfold cut0; rw [List.length_take, List.length_drop]; omega
theorem cut_to {α : Type} (xs : List α) (k : Nat) : cut xs none (some (k : Int)) = xs.take k := rfl
theorem cut_from {α : Type} (xs : List α) (k : Nat) : cut xs (some (k : Int)) none = xs.drop k := rfl
theorem cut_both {α : Type} (xs : List α) (i j : Nat) : cut xs (some (i : Int)) (some (j : Int)) = (xs.take j).drop i := rfl
theorem cut_toI {α : Type} (xs : List α) {k : Int} (h : 0 ≤ k) : cut xs none (some k) = xs.take k.toNat := by
  obtain ⟨n, rfl⟩ := Int.eq_ofNat_of_zero_le h; exact cut_to xs n
theorem cut_fromI {α : Type} (xs : List α) {k : Int} (h : 0 ≤ k) : cut xs (some k) none = xs.drop k.toNat := by
  obtain ⟨n, rfl⟩ := Int.eq_ofNat_of_zero_le h; exact cut_from xs n
def zSlP (K : PySem.W.Frag) : V → Option Int → Option Int → Hp → VK → Prop := fun x lo hi H Q => match x with
  | .str z => Lim (tl z).length ∧ Q (.str (S (cut (tl z) lo hi))) H
  | .ref p => look H p fun o => match o with
    | some (.lst xs) => ∀ p', H p' = none → Q (.ref p') (upd H p' (.lst (cut xs lo hi)))
    | some (.frz _ (.lst xs)) => ∀ p', H p' = none → Q (.ref p') (upd H p' (.lst (cut xs lo hi)))
    | _ => False
  | _ => False
theorem slp : SlR X (zSlP X.K) := by
  refine sl_imp (sl_str.or sl_list) fun x lo hi H Q h => ?_
  cases x with
  | str z => exact .inl ⟨z, rfl, by rw [len_tl]; exact h.1, by rw [cutS_S]; exact h.2⟩
  | ref p =>
    have h := look_e h
    revert h
    cases e : H p with
    | none => exact fun h => h.elim
    | some o =>
      cases o with
      | lst xs => exact fun h2 => .inr ⟨p, xs, rfl, SqL.of e, (cut_eq0 xs lo hi ▸ h2 : ∀ p', H p' = none → Q (V.ref p') (upd H p' (HO.lst (cut0 xs lo hi))))⟩
      | frz ob u =>
        cases u with
        | lst xs => exact fun h2 => .inr ⟨p, xs, rfl, .inl (.inr ⟨_, e⟩), (cut_eq0 xs lo hi ▸ h2 : ∀ p', H p' = none → Q (V.ref p') (upd H p' (HO.lst (cut0 xs lo hi))))⟩
        | _ => exact fun h => h.elim
      | _ => exact fun h => h.elim
  | _ => exact h.elim
def tPrt (t : TE) : TO := fun σ H Q => t σ H fun x H1 => match x with
  | .int i => Q (some i) H1
  | _ => False
theorem posome (h : PE X a ta) : PO X (some a) (tPrt ta) := by
  refine ⟨fun pins s σ H Q I hw => ?_⟩
  rw [evalPart_some]
  refine thn (h.run pins s σ H _ I hw) fun u s1 ⟨x, H1, I1, r1, q1⟩ => ?_
  cases x with
  | int i =>
    obtain ⟨t, rfl⟩ := r1
    exact ⟨some i, H1, I1, .int i t, q1⟩
  | _ => exact False.elim q1
theorem psl {lo hi : Option Expr} {t1 t2 : TO} {p2 : Pos} (ha : PE X a ta) (hl : PO X lo t1) (hh : PO X hi t2) : PE X (.Subscript a (.Slice lo hi none p2) pos) (tSl (zSlP X.K) ta t1 t2) := pe_slice slp ha hl hh

/-! ### in -/
def occ (a b : List Nat) : Bool := !(Builtin.Str.occurrences (S b) (S a) 0 (S b).length 1).isEmpty
def inP (K : PySem.W.Frag) (x y : V) (H : Hp) (Q : Bool → Prop) : Prop := match y with
  | .str b => (match x with
    | .str a => (match tl a with
      | [c] => Q (decide (c ∈ tl b))
      | l => Q (occ l (tl b)))
    | _ => False)
  | .ref p => look H p fun o => match o with
    | some (.lst xs) => flatV x = true ∧ xs.all flatV = true ∧ Q (inV x xs)
    | some (.tup xs) => flatV x = true ∧ xs.all flatV = true ∧ Q (inV x xs)
    | some (.frz _ (.lst xs)) => flatV x = true ∧ xs.all flatV = true ∧ Q (inV x xs)
    | _ => ∃ xs, (SqL K H p xs ∨ SqT K H p xs) ∧ flatV x = true ∧ xs.all flatV = true ∧ Q (inV x xs)
  | _ => False
theorem inP_e {K : PySem.W.Frag} {x y : V} {H : Hp} {Q : Bool → Prop} (h : inP K x y H Q) :
    (∃ (c : Nat) (z : Str), x = .str ⟨#[c]⟩ ∧ y = .str z ∧ Q (decide (c ∈ z.cps.toList))) ∨ (∃ i j, x = .str i ∧ y = .str j ∧ Q (!(Builtin.Str.occurrences j i 0 j.length 1).isEmpty)) ∨
    ∃ p xs, y = .ref p ∧ (SqL K H p xs ∨ SqT K H p xs) ∧ flatV x = true ∧ xs.all flatV = true ∧ Q (inV x xs) := by
  cases y with
  | str b =>
    cases x with
    | str a =>
      have h' : (match tl a with
        | [c] => Q (decide (c ∈ tl b))
        | l => Q (occ l (tl b))) := h
      split at h'
      · rename_i c e
        exact .inl ⟨c, b, by rw [← S_tl a, e], rfl, h'⟩
      · refine .inr (.inl ⟨a, b, rfl, rfl, ?_⟩)
        unfold occ at h'
        rw [S_tl, S_tl] at h'
        exact h'
    | _ => exact h.elim
  | ref p =>
    have h := look_e h
    revert h
    cases e : H p with
    | none => exact fun ⟨xs, h1, h2⟩ => .inr (.inr ⟨p, xs, rfl, h1, h2⟩)
    | some o =>
      cases o with
      | lst xs => exact fun h2 => .inr (.inr ⟨p, xs, rfl, .inl (SqL.of e), h2⟩)
      | tup xs => exact fun h2 => .inr (.inr ⟨p, xs, rfl, .inr (SqT.of e), h2⟩)
      | frz ob u =>
        cases u with
        | lst xs => exact fun h2 => .inr (.inr ⟨p, xs, rfl, .inl (.inl (.inr ⟨_, e⟩)), h2⟩)
        | _ => exact fun ⟨xs, h1, h2⟩ => .inr (.inr ⟨p, xs, rfl, h1, h2⟩)
      | _ => exact fun ⟨xs, h1, h2⟩ => .inr (.inr ⟨p, xs, rfl, h1, h2⟩)
  | _ => exact h.elim
def zInP (K : PySem.W.Frag) : R2 := fun x y H Q => inP K x y H fun k => Q (.bl k) H
def zNinP (K : PySem.W.Frag) : R2 := fun x y H Q => inP K x y H fun k => Q (.bl (!k)) H
theorem opin : OpR X (compareOp .In) (zInP X.K) := by
  refine op_imp (op_in_sign.or (op_in_str.or op_in_seq)) fun x y H Q h => ?_
  rcases inP_e h with h | h | h
  · exact .inl h
  · exact .inr (.inl h)
  · exact .inr (.inr h)
theorem opnin : OpR X (compareOp .NotIn) (zNinP X.K) := by
  refine op_imp (op_notIn_sign.or (op_notin_str.or op_notIn_seq)) fun x y H Q h => ?_
  rcases inP_e (Q := fun k => Q (.bl (!k)) H) h with h | h | h
  · exact .inl h
  · exact .inr (.inl h)
  · exact .inr (.inr h)

/-! ### statements -/
variable {st : Stmt} {t u : TS} {rest : List Stmt} {tA : TT}
def tIfP (c : TT) (t u : TS) : TS := fun D σ H => c σ H fun b H1 => cnd b (t D σ H1) (u D σ H1)
theorem psif {p q : List Stmt} (hc : PT X c tA) (ha : PSs X p t) (hb : PSs X q u) : PS X (.If c p q pos) (tIfP tA t u) := by
  refine ⟨fun pins s σ H D I h => ?_⟩
  refine wpAny_If (thn (hc.run pins s σ H _ I h) fun d s1 ⟨H1, I1, q1⟩ => ?_)
  have q1 := cnd_e q1
  cases d with
  | true => exact ha.run pins s1 σ H1 D I1 q1
  | false => exact hb.run pins s1 σ H1 D I1 q1
/-- o[i] = e, o a list -/
def zSetP : TSet := fun o i v H Q => match o with
  | .ref p => (match i with
    | .int k => look H p fun ob => (match ob with
      | some (.lst xs) => ∃ j, ixN xs.length k = some j ∧ Q (upd H p (.lst (xs.set j v)))
      | _ => False)
    | _ => False)
  | _ => False
theorem setp : PSet X zSetP := by
  have base : ∀ o i v H Q, zSetP o i v H Q → rSetL o i v H Q := fun o i v H Q h => by
    cases o with
    | ref p => cases i with
      | int k =>
        have h := look_e h
        revert h
        cases e : H p with
        | none => exact fun h => h.elim
        | some ob =>
          cases ob with
          | lst xs => exact fun ⟨j, h1, h2⟩ => ⟨p, xs, k, j, rfl, rfl, e, h1, h2⟩
          | _ => exact fun h => h.elim
      | _ => exact h.elim
    | _ => exact h.elim
  intro pins s σ H o i v ov iv vv Q I r1 r2 r3 h
  exact set_list pins s σ H o i v ov iv vv Q I r1 r2 r3 (base _ _ _ _ _ h)
end
end Ta

set_option Elab.async false
set_option linter.all false
set_option maxRecDepth 100000
set_option maxHeartbeats 1000000
namespace Ta
open PySem PySem.Spec PyProof.Rows L2

/-! ### defs, methods, classes of the text -/
section
variable (P : Program) (w : World) (K : PySem.W.Frag) (mg : Str → Option Value) (base : Heap)
structure Fn (x : Str) (lv : Nat) (dvs : List V) (sp : Sp) : Prop where
  ex : ∃ (f : Addr) (fd : FuncData) (ps : List Str) (ds : List Value), FnOk P w K mg base (L2.CX P w) lv f fd ps sp ∧ mg x = some (.ref f) ∧ PySem.W.keepIn K (.ref f) = true ∧ Vals dvs ds ∧ Binds K fd ps ds
structure Me (C : Addr) (m : Str) (lv : Nat) (dvs : List V) (sp : Sp) : Prop where
  ex : ∃ (f : Addr) (fd : FuncData) (ps : List Str) (ds : List Value), FnOk P w K mg base (L2.CX P w) lv f fd ps sp ∧ Meth K C m f ∧ Vals dvs ds ∧ Binds K fd ps ds
  cl : Cls K C
structure Mks (x : Str) (C : Addr) (lv : Nat) (dvs : List V) (sp : Sp) : Prop where
  ex : ∃ (f : Addr) (fd : FuncData) (ps : List Str) (ds : List Value), FnOk P w K mg base (L2.CX P w) lv f fd ps sp ∧ Mk K C f ∧ mg x = some (.ref C) ∧ Vals dvs ds ∧ Binds K fd ps ds
end
abbrev WF : WX := fun _ _ _ _ => False
/-- f(..) -/
def tCal (sp : Sp) (dvs : List V) (W : WX) (t : TA) : TE := fun σ H Q => t σ H fun vs H1 => sp (vs ++ dvs) H1 Q fun c d H' => W c d σ H'
/-- C(..) -/
def tMak (C : Addr) (sp : Sp) (dvs : List V) (W : WX) (t : TA) : TE := fun σ H Q => t σ H fun vs H1 => ∀ x dx, H1 x = none → H1 dx = none → dx ≠ x →
  sp (.ref x :: (vs ++ dvs)) (upd (upd H1 dx (.own x)) x (.ins C dx [])) (fun v H2 => v = .non ∧ Q (.ref x) H2) fun c d H' => W c d σ H'
abbrev MS := List (Addr × List V × Sp)
structure pick (ms : MS) (C : Addr) (k : List V → Sp → Prop) : Prop where
  out : ∃ e ∈ ms, e.1 = C ∧ k e.2.1 e.2.2
theorem pick_1 {C : Addr} {dvs : List V} {sp : Sp} {k : List V → Sp → Prop} {r : MS} (h : k dvs sp) : pick ((C, dvs, sp) :: r) C k := by refine ⟨?_⟩; exact ⟨_, List.mem_cons_self, rfl, h⟩
theorem pick_n {ms : MS} {C : Addr} {k : List V → Sp → Prop} {e} (h : pick ms C k) : pick (e :: ms) C k := by
  replace h := h.out; refine ⟨?_⟩
  obtain ⟨e', h1, h2⟩ := h
  exact ⟨e', List.mem_cons_of_mem _ h1, h2⟩
/-- o.m(..) -/
def tMe (ms : MS) (m : Str) (W : WX) (ta : TE) (t : TA) : TE := fun σ H Q => ta σ H fun x H1 => match x with
  | .ref a => look H1 a fun o => (match o with
    | some (.ins C dx fs) => pick ms C fun dvs sp => fs.lookup m = none ∧ t σ H1 fun vs H2 => sp (.ref a :: (vs ++ dvs)) H2 Q fun c d H' => W c d σ H'
    | _ => False)
  | _ => False
section
variable {X : Cx} {x m : Str} {p pos apos : Pos} {e o : Expr} {es : List Expr} {ta : TE} {t : TA} {lv : Nat} {dvs : List V} {sp : Sp} {W : WX} {C : Addr}
theorem pcall (F : Fn X.prog X.w X.K X.mg X.base x lv dvs sp) (hr : Room lv X.A) (tk : Takes X W) (ha : PA X (e :: es) t) (hg : Gl X x := by rfl) (hdb : (x == ("__debug__" : Str)) = false := by decide +kernel)
    (he : starEach (e :: es) X.env = (false, eval e X.env) :: starEach es X.env := by rfl) (hpl : (backTo pos (starEach es X.env)).any (·.1) = false := by rfl) :
    PE X (.Call (.Name x p) (e :: es) [] pos) (tCal sp dvs W t) := by
  obtain ⟨f, fd, ps, ds, F, hm, hk, hd, hb⟩ := F.ex
  refine ⟨fun pins s σ H Q I h => ?_⟩
  refine wpAny_Call_Name_kw (ld_glob I hg hm ?_ hdb)
  refine PySem.W.callWith_K (h₀ := X.base) I.ok.mod.kin hk (thn (ha.run pos pins s σ H _ I h) fun us s1 ⟨vs, H1, I1, r, q⟩ => ⟨I1.kIn, ?_⟩) he hpl
  exact run_fnSD (E := WE W) F hr hb hd (passAt tk σ) I1 r q
theorem pcall0 (F : Fn X.prog X.w X.K X.mg X.base x lv dvs sp) (hr : Room lv X.A) (tk : Takes X W) (hg : Gl X x := by rfl) (hdb : (x == ("__debug__" : Str)) = false := by decide +kernel) :
    PE X (.Call (.Name x p) [] [] pos) (tCal sp dvs W tNil) := by
  obtain ⟨f, fd, ps, ds, F, hm, hk, hd, hb⟩ := F.ex
  refine ⟨fun pins s σ H Q I h => ?_⟩
  refine wpAny_Call_Name_kw (ld_glob I hg hm ?_ hdb)
  exact PySem.W.callWith_K0 I.kIn hk (run_fnSD (E := WE W) (us := []) F hr hb hd (passAt tk σ) I .nil h)
theorem run_makeS {pins : List (Addr × Obj)} {σ : St} {H : Hp} {s : Shared} {Q : VK} {us ds : List Value} {vs : List V} {f : Addr} {fd : FuncData} {ps : List Str} (M : Mk X.K C f) (F : FnOk X.prog X.w X.K X.mg X.base (L2.CX X.prog X.w) lv f fd ps sp) (hr : Room (lv + 1) X.A)
    (hb : Binds X.K fd ps ds) (hd : Vals dvs ds) (tk : Takes X W) (I : Inv X pins σ H s) (r : Vals vs us)
    (h : ∀ x dx, H x = none → H dx = none → dx ≠ x → sp (.ref x :: (vs ++ dvs)) (upd (upd H dx (.own x)) x (.ins C dx [])) (fun v H2 => v = .non ∧ Q (.ref x) H2) fun c d H' => W c d σ H') :
    wpAny (model X.prog X.w) X.A (call (.ref C) us) (EP X pins σ Q) X.xe s := by
  have hq := h (s.heap.objs.size + 1) s.heap.objs.size (I.hok.fresh (Nat.le_succ _)) (I.hok.fresh (Nat.le_refl _)) (Nat.ne_of_lt (Nat.lt_succ_self _))
  have I2 := Inv.made (C := C) I
  have r2 : Vals (V.ref (s.heap.objs.size + 1) :: (vs ++ dvs)) (Value.ref (s.heap.objs.size + 1) :: (us ++ ds)) := .cons rfl (r.append hd)
  have hl : (Value.ref (s.heap.objs.size + 1) :: us ++ ds).length = ps.length := by
    have e := r2.length
    rw [F.len _ _ _ _ hq] at e
    exact e.symm
  refine wpAny_call (make_map (f := f) I.kIn M.makes M.init (beq_iff_eq.mp M.fn) (codeAny_mono (F.run _ X.stack _ _ ⟨Value.ref (s.heap.objs.size + 1) :: us, []⟩ (Value.ref (s.heap.objs.size + 1) :: (us ++ ds)) _ _ (WE W σ) (hr.make C us [])
    (I2.env0.make C us []) (hb _ (Value.ref (s.heap.objs.size + 1) :: us) I2.kIn hl) r2 hq) fun r s' hq' => ?_))
  cases r with
  | error e => exact passAt tk σ pins _ _ e s' I2 hq'
  | ok fl =>
    cases fl with
    | ret u =>
      obtain ⟨v, H', I3, rv, ev, q3⟩ := I2.after hq'
      subst ev
      exact ⟨rv, ⟨V.ref (s.heap.objs.size + 1), H', I3, rfl, q3⟩⟩
    | next => exact False.elim hq'
    | brk => exact False.elim hq'
    | cont => exact False.elim hq'
theorem pmak (F : Mks X.prog X.w X.K X.mg X.base x C lv dvs sp) (hr : Room (lv + 1) X.A) (tk : Takes X W) (ha : PA X (e :: es) t) (hg : Gl X x := by rfl) (hdb : (x == ("__debug__" : Str)) = false := by decide +kernel)
    (he : starEach (e :: es) X.env = (false, eval e X.env) :: starEach es X.env := by rfl) (hpl : (backTo pos (starEach es X.env)).any (·.1) = false := by rfl) :
    PE X (.Call (.Name x p) (e :: es) [] pos) (tMak C sp dvs W t) := by
  obtain ⟨f, fd, ps, ds, F, M, hm, hd, hb⟩ := F.ex
  refine ⟨fun pins s σ H Q I h => ?_⟩
  refine wpAny_Call_Name_kw (ld_glob I hg hm ?_ hdb)
  refine PySem.W.callWith_K (h₀ := X.base) I.ok.mod.kin M.kp (thn (ha.run pos pins s σ H _ I h) fun us s1 ⟨vs, H1, I1, r, q⟩ => ⟨I1.kIn, ?_⟩) he hpl
  exact run_makeS M F hr hb hd tk I1 r q
theorem tMe_e {ms : MS} {a : Addr} {H : Hp} {k : List V → Sp → List (Str × V) → Prop} (h : look H a fun o => (match o with
    | some (.ins C dx fs) => pick ms C fun dvs sp => k dvs sp fs
    | _ => False)) : ∃ C dx fs, H a = some (.ins C dx fs) ∧ ∃ e ∈ ms, e.1 = C ∧ k e.2.1 e.2.2 fs := by
  have h := look_e h
  revert h
  cases e : H a with
  | none => exact fun h => h.elim
  | some o =>
    cases o with
    | ins C dx fs => exact fun h => ⟨C, dx, fs, rfl, by replace h := h.out; exact h⟩
    | _ => exact fun h => h.elim
theorem pmeth {ms : MS} {pl : Sem Bool} (hms : ∀ e ∈ ms, Me X.prog X.w X.K X.mg X.base e.1 m lv e.2.1 e.2.2) (hr : Room lv X.A) (tk : Takes X W) (ho : PE X o ta) (ha : PA X (e :: es) t)
    (hst : starEach (e :: es) X.env = (false, eval e X.env) :: starEach es X.env := by rfl) (hpl : (backTo pos (starEach es X.env)).any (·.1) = false := by rfl)
    (ht : eval (.Call (.Attribute o m apos) (e :: es) [] pos) X.env = (do
      let ov ← eval o X.env
      standAt apos.atName
      let (f, first) ← holding [ov] (getMethod ov m pl)
      callWith pos f first (backTo pos (starEach (e :: es) X.env)) (backToKw pos (keywordEach [] X.env))) := by rfl) :
    PE X (.Call (.Attribute o m apos) (e :: es) [] pos) (tMe ms m W ta t) := by
  refine ⟨fun pins s σ H Q I h => ?_⟩
  refine PySem.W.methodCall_KW (pl := pl) (thn (ho.run pins s σ H _ I h) fun u s1 ⟨x, H1, I1, rx, q⟩ => ?_) ht
  cases x with
  | ref a =>
    obtain rfl : u = Value.ref a := rx
    obtain ⟨C, dx, fs, ea, en, hen, eC, l, q⟩ := tMe_e (k := fun dvs sp fs => fs.lookup m = none ∧ t σ H1 fun vs H2 => sp (.ref a :: (vs ++ dvs)) H2 Q fun c d H' => W c d σ H') q
    obtain ⟨⟨f, fd, ps, ds, F, hm, hd, hb⟩, cl⟩ := hms en hen
    rw [← eC] at ea
    refine getmeth_ok I1 ea cl hm l ?_
    refine PySem.W.callWith_K (first := [.ref a]) (h₀ := X.base) I.ok.mod.kin hm.kp (thn (ha.run pos pins s1 σ H1 _ I1 q) fun us s2 ⟨vs, H2, I2, r, q2⟩ => ⟨I2.kIn, ?_⟩) hst hpl
    exact run_fnSD (E := WE W) (us := .ref a :: us) (vs := .ref a :: vs) F hr hb hd (passAt tk σ) I2 (.cons rfl r) q2
  | _ => exact False.elim q
theorem pmeth0 {ms : MS} {pl : Sem Bool} (hms : ∀ e ∈ ms, Me X.prog X.w X.K X.mg X.base e.1 m lv e.2.1 e.2.2) (hr : Room lv X.A) (tk : Takes X W) (ho : PE X o ta)
    (ht : eval (.Call (.Attribute o m apos) [] [] pos) X.env = (do
      let ov ← eval o X.env
      standAt apos.atName
      let (f, first) ← holding [ov] (getMethod ov m pl)
      callWith pos f first (backTo pos (starEach [] X.env)) (backToKw pos (keywordEach [] X.env))) := by rfl) :
    PE X (.Call (.Attribute o m apos) [] [] pos) (tMe ms m W ta tNil) := by
  refine ⟨fun pins s σ H Q I h => ?_⟩
  refine PySem.W.methodCall_KW (pl := pl) (thn (ho.run pins s σ H _ I h) fun u s1 ⟨x, H1, I1, rx, q⟩ => ?_) ht
  cases x with
  | ref a =>
    obtain rfl : u = Value.ref a := rx
    obtain ⟨C, dx, fs, ea, en, hen, eC, l, q⟩ := tMe_e (k := fun dvs sp fs => fs.lookup m = none ∧ tNil σ H1 fun vs H2 => sp (.ref a :: (vs ++ dvs)) H2 Q fun c d H' => W c d σ H') q
    obtain ⟨⟨f, fd, ps, ds, F, hm, hd, hb⟩, cl⟩ := hms en hen
    rw [← eC] at ea
    refine getmeth_ok I1 ea cl hm l ?_
    exact PySem.W.callWith_K0 (first := [.ref a]) I1.kIn hm.kp (run_fnSD (E := WE W) (us := [.ref a]) (vs := [.ref a]) F hr hb hd (passAt tk σ) I1 (.cons rfl .nil) q)
  | _ => exact False.elim q

/-! ### attributes -/
structure fld (fs : List (Str × V)) (f : Str) (k : V → Prop) : Prop where
  out : ∃ v, fs.lookup f = some v ∧ k v
theorem fld_i {fs : List (Str × V)} {f : Str} {k : V → Prop} {v : V} (h : fs.lookup f = some v) (q : k v) : fld fs f k := by refine ⟨?_⟩; exact ⟨v, h, q⟩
theorem fld_e {fs : List (Str × V)} {f : Str} {k : V → Prop} (q : fld fs f k) : ∃ v, fs.lookup f = some v ∧ k v := by replace q := q.out; exact q
/-- e.f, a field of an instance -/
def tAt (K : PySem.W.Frag) (ta : TE) (f : Str) : TE := fun σ H Q => ta σ H fun x H1 => match x with
  | .ref a => look H1 a fun o => (match o with
    | some (.ins C dx fs) => Cls K C ∧ NoAttr K C f ∧ fld fs f fun v => Q v H1
    | _ => False)
  | _ => False
theorem patt {f : Str} (he : PE X e ta) (hb : attributeBase e f X.env (eval e X.env) = eval e X.env := by rfl) : PE X (.Attribute e f pos) (tAt X.K ta f) := by
  refine ⟨fun pins s σ H Q I h => ?_⟩
  refine attr_of hb (thn (he.run pins s σ H _ I h) fun u s1 ⟨x, H1, I1, rx, q⟩ => ?_)
  cases x with
  | ref a =>
    obtain rfl : u = Value.ref a := rx
    have q := look_e q
    cases ea : H1 a with
    | none => rw [ea] at q; exact q.elim
    | some o =>
      rw [ea] at q
      cases o with
      | ins C dx fs =>
        obtain ⟨c, n, q⟩ := q
        obtain ⟨v, l, q⟩ := fld_e q
        exact getattr_ok I1 ea c n l fun u' s2 I2 r2 => ⟨v, H1, I2, r2, q⟩
      | _ => exact q.elim
  | _ => exact False.elim q
/-- e.f, a constant of the instance's class -/
def tAtC (K : PySem.W.Frag) (ta : TE) (f : Str) (v0 : V) : TE := fun σ H Q => ta σ H fun x H1 => match x with
  | .ref a => look H1 a fun o => (match o with
    | some (.ins C dx fs) => Cls K C ∧ (∃ u, Con K C f v0 u) ∧ fs.lookup f = none ∧ Q v0 H1
    | _ => False)
  | _ => False
theorem pattC {f : Str} (v0 : V) (he : PE X e ta) (hb : attributeBase e f X.env (eval e X.env) = eval e X.env := by rfl) : PE X (.Attribute e f pos) (tAtC X.K ta f v0) := by
  refine ⟨fun pins s σ H Q I h => ?_⟩
  refine attr_of hb (thn (he.run pins s σ H _ I h) fun u s1 ⟨x, H1, I1, rx, q⟩ => ?_)
  cases x with
  | ref a =>
    obtain rfl : u = Value.ref a := rx
    have q := look_e q
    cases ea : H1 a with
    | none => rw [ea] at q; exact q.elim
    | some o =>
      rw [ea] at q
      cases o with
      | ins C dx fs =>
        obtain ⟨c, ⟨u, n⟩, l, q⟩ := q
        exact getcon_ok I1 ea c n l fun s2 I2 => ⟨v0, H1, I2, n.rel, q⟩
      | _ => exact q.elim
  | _ => exact False.elim q
/-- C.f, C a class of the text by its name -/
structure ClsConst (K : PySem.W.Frag) (mg : Str → Option Value) (x f : Str) (v : V) : Prop where
  ex : ∃ C mc u, mg x = some (.ref C) ∧ ClX.CRead K C mc ∧ ClX.CVal K C mc f v u
theorem pclv {f : Str} {v0 : V} (h : ClsConst X.K X.mg x f v0) (hg : Gl X x := by rfl) (hdb : (x == ("__debug__" : Str)) = false := by decide +kernel)
    (hb : attributeBase (.Name x p) f X.env (eval (.Name x p) X.env) = eval (.Name x p) X.env := by rfl) : PE X (.Attribute (.Name x p) f pos) (tC v0) := by
  obtain ⟨C, mc, u, hm, r, c⟩ := h.ex
  exact pe_imp (ClX.pe_cval (pe_glob (v := .ref C) hg hm rfl hdb) hb) fun _ _ _ h => ⟨C, mc, v0, u, rfl, r, c, h⟩
/-- a module's constant -/
structure GlobV (mg : Str → Option Value) (x : Str) (v : V) : Prop where
  ex : ∃ u, mg x = some u ∧ RelV v u
theorem pglo {v0 : V} (h : GlobV X.mg x v0) (hg : Gl X x := by rfl) (hdb : (x == ("__debug__" : Str)) = false := by decide +kernel) : PE X (.Name x p) (tC v0) := by
  obtain ⟨u, hm, r⟩ := h.ex
  exact pe_glob hg hm r hdb
/-- a built-in type by its name -/
theorem pbty {T : String} (hm : X.mg x = none) (hv : bootBuiltins x = some (.type T) := by decide +kernel) (hg : Gl X x := by rfl) (hn : x ≠ "__name__" := by decide +kernel) (hd : (x == ("__debug__" : Str)) = false := by decide +kernel) : PE X (.Name x p) (tC (.ty T)) :=
  pe_bltn (v := .ty T) hg hm hv rfl hn hd
/-- o.f = e -/
def sAt (K : PySem.W.Frag) (ta tv : TE) (f : Str) : TS := fun D σ H => tv σ H fun y H1 => ta σ H1 fun x H2 => match x with
  | .ref a => look H2 a fun ob => (match ob with
    | some (.ins C dx fs) => Cls K C ∧ NoAttr K C f ∧ fs.length < 1000 ∧ D.nx σ (upd H2 a (.ins C dx (putF f y fs)))
    | _ => False)
  | _ => False
theorem sAt_e {K : PySem.W.Frag} {x : V} {f : Str} {y : V} {H : Hp} {k : Hp → Prop} (h : match x with
  | .ref a => look H a fun ob => (match ob with
    | some (.ins C dx fs) => Cls K C ∧ NoAttr K C f ∧ fs.length < 1000 ∧ k (upd H a (.ins C dx (putF f y fs)))
    | _ => False)
  | _ => False) : ∃ a C dx fs, x = .ref a ∧ H a = some (.ins C dx fs) ∧ Cls K C ∧ NoAttr K C f ∧ fs.length < 1000 ∧ k (upd H a (.ins C dx (putF f y fs))) := by
  cases x with
  | ref a =>
    have h := look_e h
    cases ea : H a with
    | none => rw [ea] at h; exact h.elim
    | some o =>
      rw [ea] at h
      cases o with
      | ins C dx fs => exact ⟨a, C, dx, fs, rfl, ea, h⟩
      | _ => exact h.elim
  | _ => exact h.elim
theorem psat {f : Str} {value : Expr} {tv : TE} {pos' : Pos} (ha : PE X o ta) (hv : PE X value tv) (hs : swapsWith value (some (.Attribute o f pos')) pos.line X.env = pure false := by rfl) : PS X (.Assign [.Attribute o f pos'] value pos) (sAt X.K ta tv f) := by
  refine ⟨fun pins s σ H D I h => ?_⟩
  refine plainObj_wpAny_Assign_Attribute (thn (hv.run pins s σ H _ I h) fun v s1 ⟨y, H1, I1, r1, q1⟩ => thn (ha.run pins s1 σ H1 _ I1 q1) fun u s2 ⟨x, H2, I2, r2, q⟩ => ?_) hs
  obtain ⟨a, C, dx, fs, rfl, ea, c, n, hl, q⟩ := sAt_e q
  obtain rfl : u = Value.ref a := r2
  exact setattr_ok I2 ea c n hl r1 fun s' I' => ⟨σ, _, I', q⟩
end

/-! ### built-in calls -/
section
variable {X : Cx}
def lenP (K : PySem.W.Frag) (x : V) (H : Hp) (Q : Nat → Prop) : Prop := match x with
  | .str z => Lim (tl z).length ∧ Q (tl z).length
  | .ref p => look H p fun o => (match o with
    | some (.lst xs) => Q xs.length
    | some (.tup xs) => Q xs.length
    | some (.frz _ (.lst xs)) => Q xs.length
    | _ => ∃ xs, (SqL K H p xs ∨ SqT K H p xs) ∧ Q xs.length)
  | _ => False
def one (xs : List V) (k : V → Prop) : Prop := match xs with
  | [x] => k x
  | _ => False
def two (xs : List V) (k : V → V → Prop) : Prop := match xs with
  | [x, y] => k x y
  | _ => False
theorem one_e {xs : List V} {k : V → Prop} (h : one xs k) : ∃ x, xs = [x] ∧ k x := by
  match xs, h with
  | [x], h => exact ⟨x, rfl, h⟩
theorem two_e {xs : List V} {k : V → V → Prop} (h : two xs k) : ∃ x y, xs = [x, y] ∧ k x y := by
  match xs, h with
  | [x, y], h => exact ⟨x, y, rfl, h⟩
def zLen (K : PySem.W.Frag) : List V → Hp → VK → Prop := fun xs H Q => one xs fun x => lenP K x H fun n => Q (.int n) H
theorem crlen : CallR X (.builtin "len") (zLen X.K) := by
  refine cr_imp (call_len_seq.or call_len_str) fun xs H Q h => ?_
  obtain ⟨x, rfl, h⟩ := one_e h
  cases x with
  | str z => exact .inr ⟨z, rfl, by rw [len_tl]; exact h.1, by rw [len_tl]; exact h.2⟩
  | ref p =>
    have h := look_e h
    revert h
    cases e : H p with
    | none => exact fun ⟨xs, h1, h2⟩ => .inl ⟨p, xs, rfl, h1, h2⟩
    | some o =>
      cases o with
      | lst xs => exact fun h2 => .inl ⟨p, xs, rfl, .inl (SqL.of e), h2⟩
      | tup xs => exact fun h2 => .inl ⟨p, xs, rfl, .inr (SqT.of e), h2⟩
      | frz ob u =>
        cases u with
        | lst xs => exact fun h2 => .inl ⟨p, xs, rfl, .inl (.inl (.inr ⟨_, e⟩)), h2⟩
        | _ => exact fun ⟨xs, h1, h2⟩ => .inl ⟨p, xs, rfl, h1, h2⟩
      | _ => exact fun ⟨xs, h1, h2⟩ => .inl ⟨p, xs, rfl, h1, h2⟩
  | _ => exact h.elim
def zAbs : List V → Hp → VK → Prop := fun xs H Q => one xs fun x => match x with
  | .int i => Q (.int (if i < 0 then -i else i)) H
  | _ => False
theorem crabs : CallR X (.builtin "abs") zAbs := cr_imp call_abs fun xs H Q h => by
  obtain ⟨x, rfl, h⟩ := one_e h
  cases x with
  | int i => exact ⟨i, rfl, h⟩
  | _ => exact h.elim
def zInt : List V → Hp → VK → Prop := fun xs H Q => one xs fun x => match x with
  | .int i => Q (.int i) H
  | .bl b => Q (.int (if b then 1 else 0)) H
  | _ => False
theorem crint : CallR X (.type "int") zInt := cr_imp call_int1 fun xs H Q h => by
  obtain ⟨x, rfl, h⟩ := one_e h
  cases x with
  | int i => exact .inl ⟨i, rfl, h⟩
  | bl i => exact .inr ⟨i, rfl, h⟩
  | _ => exact h.elim
def zMax2 : List V → Hp → VK → Prop := fun xs H Q => two xs fun x y => match x with
  | .int i => (match y with
    | .int j => Q (.int (max i j)) H
    | _ => False)
  | _ => False
def zMin2 : List V → Hp → VK → Prop := fun xs H Q => two xs fun x y => match x with
  | .int i => (match y with
    | .int j => Q (.int (min i j)) H
    | _ => False)
  | _ => False
theorem crmax (hc : X.calm = true) : CallR X (.builtin "max") zMax2 := cr_imp (call_max2 hc) fun xs H Q h => by
  obtain ⟨x, y, rfl, h⟩ := two_e h
  cases x with
  | int i => cases y with
    | int j =>
      refine ⟨i, j, rfl, ?_⟩
      have e : (if j > i then j else i) = max i j := by omega
      rw [e]; exact h
    | _ => exact h.elim
  | _ => exact h.elim
theorem crmin (hc : X.calm = true) : CallR X (.builtin "min") zMin2 := cr_imp (call_min2 hc) fun xs H Q h => by
  obtain ⟨x, y, rfl, h⟩ := two_e h
  cases x with
  | int i => cases y with
    | int j =>
      refine ⟨i, j, rfl, ?_⟩
      have e : (if j < i then j else i) = min i j := by omega
      rw [e]; exact h
    | _ => exact h.elim
  | _ => exact h.elim
/-! isinstance -/
def isP (K : PySem.W.Frag) (x : V) (c : Value) (H : Hp) (Q : Bool → Prop) : Prop := match x with
  | .str _ => ∃ b, PySem.W.kitOne K (.type "str") c = some b ∧ Q b
  | .int _ => ∃ b, PySem.W.kitOne K (.type "int") c = some b ∧ Q b
  | .bl _ => ∃ b, PySem.W.kitOne K (.type "bool") c = some b ∧ Q b
  | .non => ∃ b, PySem.W.kitOne K (.type "NoneType") c = some b ∧ Q b
  | .ref p => ∃ t b, TyX K H (.ref p) t ∧ PySem.W.kitOne K t c = some b ∧ Q b
  | _ => False
theorem isP_e {K : PySem.W.Frag} {x : V} {c : Value} {H : Hp} {Q : Bool → Prop} (h : isP K x c H Q) : ∃ t b, TyX K H x t ∧ PySem.W.kitOne K t c = some b ∧ Q b := by
  cases x with
  | str z => obtain ⟨b, h⟩ := h; exact ⟨_, b, .base (.str z), h⟩
  | int z => obtain ⟨b, h⟩ := h; exact ⟨_, b, .base (.int z), h⟩
  | bl z => obtain ⟨b, h⟩ := h; exact ⟨_, b, .base (.bl z), h⟩
  | non => obtain ⟨b, h⟩ := h; exact ⟨_, b, .base .non, h⟩
  | ref p => exact h
  | _ => exact h.elim
def zIs (K : PySem.W.Frag) : List V → Hp → VK → Prop := fun xs H Q => two xs fun x c => match c with
  | .ty n => isP K x (.type n) H fun b => Q (.bl b) H
  | .ref C => isP K x (.ref C) H fun b => Q (.bl b) H
  | _ => False
theorem cris : CallR X (.builtin "isinstance") (zIs X.K) := cr_imp call_isi fun xs H Q h => by
  obtain ⟨x, c, rfl, h⟩ := two_e h
  cases c with
  | ty n => obtain ⟨t, b, h1, h2, h3⟩ := isP_e h; exact ⟨x, _, t, _, b, rfl, .ty n, h1, h2, h3⟩
  | ref C => obtain ⟨t, b, h1, h2, h3⟩ := isP_e h; exact ⟨x, _, t, _, b, rfl, .own C, h1, h2, h3⟩
  | _ => exact h.elim
variable {x : Str} {p pos : Pos} {e : Expr} {es : List Expr} {t : TA} {id T : String} {r : List V → Hp → VK → Prop}
theorem pcb (hc : CallR X (.builtin id) r) (hm : X.mg x = none) (ha : PA X (e :: es) t) (hv : bootBuiltins x = some (.builtin id) := by decide +kernel) (hg : Gl X x := by rfl) (hn : x ≠ "__name__" := by decide +kernel) (hdb : (x == ("__debug__" : Str)) = false := by decide +kernel)
    (he : starEach (e :: es) X.env = (false, eval e X.env) :: starEach es X.env := by rfl) (hpl : (backTo pos (starEach es X.env)).any (·.1) = false := by rfl) : PE X (.Call (.Name x p) (e :: es) [] pos) (tCB r t) := pe_callB hc hg hm hv ha hn hdb he hpl
theorem pct (hc : CallR X (.type T) r) (hm : X.mg x = none) (ha : PA X (e :: es) t) (hv : bootBuiltins x = some (.type T) := by decide +kernel) (hg : Gl X x := by rfl) (hn : x ≠ "__name__" := by decide +kernel) (hdb : (x == ("__debug__" : Str)) = false := by decide +kernel)
    (he : starEach (e :: es) X.env = (false, eval e X.env) :: starEach es X.env := by rfl) (hpl : (backTo pos (starEach es X.env)).any (·.1) = false := by rfl) : PE X (.Call (.Name x p) (e :: es) [] pos) (tCB r t) := pe_callTy hc hg hm hv ha hn hdb he hpl
/-! methods of texts and lists -/
structure joi (vs : List V) (a : List Nat) (k : List Nat → Prop) : Prop where
  out : ∃ ys : List (List Nat), vs = ys.map (fun l => V.str (S l)) ∧ (ys.map List.length).sum + ys.length * a.length ≤ 16777216 ∧ k (TL.joinL a ys)
theorem joi_e {vs : List V} {a : List Nat} {k : List Nat → Prop} (h : joi vs a k) : ∃ ys : List (List Nat), vs = ys.map (fun l => V.str (S l)) ∧ (ys.map List.length).sum + ys.length * a.length ≤ 16777216 ∧ k (TL.joinL a ys) := by replace h := h.out; exact h
def zJoin (K : PySem.W.Frag) : V → List V → Hp → VK → Prop := fun x xs H Q => match x with
  | .str a => one xs fun y => (match y with
    | .ref p => look H p fun o => (match o with
      | some (.lst vs) => joi vs (tl a) fun t => Q (.str (S t)) H
      | some (.tup vs) => joi vs (tl a) fun t => Q (.str (S t)) H
      | _ => False)
    | _ => False)
  | _ => False
theorem mtjoin : MtR X "str.join" (zJoin X.K) := by
  refine mt_imp mt_join fun x xs H Q h => ?_
  cases x with
  | str a =>
    obtain ⟨y, rfl, h⟩ := one_e h
    cases y with
    | ref p =>
      have fin : ∀ vs, SqL X.K H p vs ∨ SqT X.K H p vs → (∃ ys : List (List Nat), vs = ys.map (fun l => V.str (S l)) ∧ (ys.map List.length).sum + ys.length * (tl a).length ≤ 16777216 ∧ Q (.str (S (TL.joinL (tl a) ys))) H) →
          ∃ a' p', ∃ ys : List Str, V.str a = .str a' ∧ [V.ref p] = [.ref p'] ∧ (SqL X.K H p' (ys.map V.str) ∨ SqT X.K H p' (ys.map V.str)) ∧ (ys.map (·.length)).sum + ys.length * a'.length ≤ 16777216 ∧ Q (.str (Txt.join a' ys)) H := by
        rintro vs hs ⟨ys, rfl, h1, h2⟩
        refine ⟨a, p, ys.map S, rfl, rfl, ?_, ?_, ?_⟩
        · rw [List.map_map]; exact hs
        · rw [List.map_map, List.length_map, len_tl]
          have e : ((fun z : Str => z.length) ∘ S) = List.length := funext fun l => by show (S l).length = l.length; rw [len_tl]
          rw [e]; exact h1
        · rw [TL.join_eq]
          have e : Str.join a (ys.map S) = S (TL.joinL (tl a) ys) := ext_tl ((TL.tl_join a (ys.map S)).trans (by
            rw [List.map_map]
            have e2 : (TL.tl ∘ S) = id := funext fun l => rfl
            rw [e2, List.map_id]))
          rw [e]; exact h2
      have h := look_e h
      revert h
      cases e : H p with
      | none => exact fun h => h.elim
      | some o =>
        cases o with
        | lst vs => exact fun h => fin vs (.inl (SqL.of e)) (joi_e h)
        | tup vs => exact fun h => fin vs (.inr (SqT.of e)) (joi_e h)
        | _ => exact fun h => h.elim
    | _ => exact h.elim
  | _ => exact h.elim
variable {o : Expr} {to : TE} {name : Str} {apos cpos : Pos}
/-- text.m(..) -/
def tSM (r : V → List V → Hp → VK → Prop) (to : TE) (t : TA) : TE := fun σ H Q => to σ H fun x H1 => match x with
  | .str z => t σ H1 fun xs H2 => r (.str z) xs H2 Q
  | _ => False
theorem psm {mid : String} {r : V → List V → Hp → VK → Prop} (slot : Slot "str" name mid) (hty : typeOf (.builtin mid) = pure (.type "method_descriptor")) (hm : MtR X mid r) (ho : PE X o to) (ha : PA X (e :: es) t)
    (hbase : attributeBase o name X.env (eval o X.env) = eval o X.env := by rfl)
    (hfew : ((backTo cpos (starEach (e :: es) X.env)).all (fun x => !x.1) && (backToKw cpos (keywordEach [] X.env)).all (fun x => x.1.isSome)
      && decide ((e :: es).length + ([] : List Keyword).length + (if ([] : List Keyword).isEmpty then 0 else 1) < 30)) = true := by rfl)
    (hline : (apos.endLine == cpos.line) = true := by rfl) (hs : starEach (e :: es) X.env = (false, eval e X.env) :: starEach es X.env := by rfl) (hplain : (backTo cpos (starEach es X.env)).any (·.1) = false := by rfl) :
    PE X (.Call (.Attribute o name apos) (e :: es) [] cpos) (tSM r to t) := by
  refine ⟨fun pins s σ H Q I h => ?_⟩
  refine wpAny_Call_method_late hbase hfew hline rfl (thn (ho.run pins s σ H _ I h) fun v s1 ⟨x, H1, I1, r1, q1⟩ => ?_)
  cases x with
  | str z =>
    obtain ⟨h1, h2⟩ := tyV_is (T := "str") (x := .str z) I1 r1 rfl
    refine ⟨"str", mid, F.plainAttrs_str, slot, hty, h1, h2, ?_⟩
    have hA := ha.run cpos pins s1 σ H1 _ I1 q1
    rw [hs] at hA ⊢
    refine Calls.callWith_builtin (by show (false || (backTo cpos (starEach es X.env)).any (·.1)) = false; rw [hplain] <;> rfl) (Calls.evalArgs_plain ?_)
    exact thn hA fun us s2 ⟨vs, H2, I2, r2, q2⟩ => hm pins s2 σ H2 _ vs v us Q I2 r1 r2 q2
  | _ => exact False.elim q1
end
end Ta

set_option Elab.async false
set_option linter.all false
set_option maxRecDepth 100000
set_option maxHeartbeats 1000000
namespace Ta
open PySem PySem.Spec PyProof.Rows L2

/-! ### what is walked: n turns, turn i yields x (heap H to H'), while st holds -/
abbrev Itm := Nat → Hp → V → Hp → Prop
structure Adm (J : It) (n : Nat) (it : Itm) (st : Hp → Prop) : Prop where
  go : ∀ i H, i < n → st H → J.go i H
  yl : ∀ i H x H', i < n → st H → J.yld i H x H' → it i H x H'
  sp : ∀ H, st H → J.stop n H
abbrev TJ := St → Hp → (Nat → Itm → (Hp → Prop) → Hp → Prop) → Prop
def toI (wi : TJ) : TI := fun σ H R => wi σ H fun n it st H1 => ∀ J, Adm J n it st → R J H1
abbrev PJ (X : Cx) (tg iter : Expr) (wi : TJ) : Prop := PI X tg iter (toI wi)
def itL (xs : List V) : Itm := fun i H x H' => H' = H ∧ xs[i]? = some x
def itR (lo : Int) : Itm := fun i H x H' => H' = H ∧ x = .int (lo + i)
def itS (l : List Nat) : Itm := fun i H x H' => H' = H ∧ ∃ c, l[i]? = some c ∧ x = .str (S [c])

structure loop (n : Nat) (it : Itm) (st : Hp → Prop) (g : TG) (tb : TS) (D : Ends) (σ : St) (H : Hp) : Prop where
  out : ∀ J, Adm J n it st → ∃ W : Nat → Nat → St → Hp → Prop, (∃ m, W 0 m σ H) ∧ ∀ i m σ H, W i m σ H →
  (J.stop i H ∧ D.nx σ H) ∨ (J.go i H ∧ ∃ N : St → Hp → Prop, (∀ σ' H', N σ' H' → ∃ m', m' < m ∧ W (i + 1) m' σ' H') ∧ ∀ x H', J.yld i H x H' → g x σ H' fun σ2 H2 => tb { D with nx := N, ct := N, bk := D.nx } σ2 H2)
theorem loop_i {n : Nat} {it : Itm} {st : Hp → Prop} {g : TG} {tb : TS} {D : Ends} {σ : St} {H : Hp} (Pv : Nat → St → Hp → Prop) (h0 : Pv 0 σ H) (hst : ∀ i σ H, i ≤ n → Pv i σ H → st H)
    (hs : ∀ i x σ H H', i < n → Pv i σ H → it i H x H' → g x σ H' fun σ2 H2 => tb { D with nx := Pv (i + 1), ct := Pv (i + 1), bk := D.nx } σ2 H2) (hd : ∀ σ H, Pv n σ H → D.nx σ H) : loop n it st g tb D σ H := by
  refine ⟨?_⟩
  intro J A
  refine ⟨fun i m σ H => m = n - i ∧ i ≤ n ∧ Pv i σ H, ⟨n, by simp, Nat.zero_le _, h0⟩, ?_⟩
  rintro i m σ H ⟨rfl, hi, p⟩
  have q := hst i σ H hi p
  by_cases hlt : i < n
  · exact .inr ⟨A.go i H hlt q, Pv (i + 1), fun σ' H' p' => ⟨n - (i + 1), by omega, rfl, hlt, p'⟩, fun x H' y => hs i x σ H H' hlt p (A.yl i H x H' hlt q y)⟩
  · have e : i = n := by omega
    subst e
    exact .inl ⟨A.sp H q, hd σ H p⟩
def tForP (wi : TJ) (g : TG) (tb : TS) : TS := fun D σ H => wi σ H fun n it st H1 => loop n it st g tb D σ H1
section
variable {X : Cx} {tg : Expr}
theorem psfor {iter : Expr} {body : List Stmt} {wi : TJ} {g : TG} {tb : TS} {pos : Pos} (hp : PassesOwn (model X.prog X.w) X.A X.env X.xe) (hc : X.calm = true) (hi : PJ X tg iter wi) (hg : PG X tg g) (hb : PSs X body tb)
    (hs : ∀ x, foldedSetIterable iter X.env x = pure x := by intro _; rfl) : PS X (.For tg iter body [] pos) (tForP wi g tb) := by
  refine ps_imp (ps_for (wi := toI wi) hp hc hi hg hb hs) fun D σ H h => ?_
  have e : (fun n it st H1 => loop n it st g tb D σ H1) = (fun n it st H1 => ∀ J, Adm J n it st → ∃ W : Nat → Nat → St → Hp → Prop, (∃ m, W 0 m σ H1) ∧ ∀ i m σ H, W i m σ H →
      (J.stop i H ∧ D.nx σ H) ∨ (J.go i H ∧ ∃ N : St → Hp → Prop, (∀ σ' H', N σ' H' → ∃ m', m' < m ∧ W (i + 1) m' σ' H') ∧ ∀ x H', J.yld i H x H' → g x σ H' fun σ2 H2 => tb { D with nx := N, ct := N, bk := D.nx } σ2 H2)) := by
    funext n it st H1
    exact propext ⟨fun h => h.out, fun h => ⟨h⟩⟩
  have h : wi σ H fun n it st H1 => loop n it st g tb D σ H1 := h
  rw [e] at h
  exact h
/-- range(n) -/
def jR1 (ta : TA) : TJ := fun σ H R => ta σ H fun vs H1 => one vs fun x => match x with
  | .int j => (-(2 ^ 62) ≤ j ∧ j < 2 ^ 62) ∧ R j.toNat (itR 0) (fun _ => True) H1
  | _ => False
def jR2 (ta : TA) : TJ := fun σ H R => ta σ H fun vs H1 => two vs fun x y => match x with
  | .int i => (match y with
    | .int j => (-(2 ^ 62) ≤ i ∧ i < 2 ^ 62 ∧ -(2 ^ 62) ≤ j ∧ j < 2 ^ 62) ∧ R (j - i).toNat (itR i) (fun _ => True) H1
    | _ => False)
  | _ => False
theorem adm_r (lo : Int) (n : Nat) : Adm (Itr lo n) n (itR lo) (fun _ => True) := ⟨fun i H h _ => h, fun i H x H' _ _ h => h, fun H _ => Nat.le_refl n⟩
theorem pjr1 {a : Expr} {ta : TA} {p pos : Pos} (hm : X.mg "range" = none) (ha : PA X [a] ta) (hg : Gl X "range" := by rfl) (hs : starEach [a] X.env = [(false, eval a X.env)] := by rfl) : PJ X tg (.Call (.Name "range" p) [a] [] pos) (jR1 ta) := by
  refine ⟨fun pins s σ H R I h => ?_⟩
  refine Call_ (ld_blt I hg hm boot_range (PyProof.Rows.callWith_type1 (thn (ha.run pos pins s σ H _ I h) fun us s1 ⟨vs, H1, I1, r1, q1⟩ => ?_) hs rfl))
  obtain ⟨x, rfl, q1⟩ := one_e q1
  cases x with
  | int j =>
    obtain ⟨⟨q1, q2⟩, q⟩ := q1
    cases r1 with
    | cons r rr =>
      cases rr
      obtain ⟨t, rfl⟩ := r
      exact call_range_1 (range_it I1 (by omega) (by omega) q1 q2 (by simpa using q _ (adm_r 0 j.toNat)))
  | _ => exact False.elim q1
theorem pjr2 {a b : Expr} {ta : TA} {p pos : Pos} (hm : X.mg "range" = none) (ha : PA X [a, b] ta) (hg : Gl X "range" := by rfl) (hs : starEach [a, b] X.env = [(false, eval a X.env), (false, eval b X.env)] := by rfl) (hs2 : starEach [b] X.env = [(false, eval b X.env)] := by rfl) :
    PJ X tg (.Call (.Name "range" p) [a, b] [] pos) (jR2 ta) := by
  refine ⟨fun pins s σ H R I h => ?_⟩
  refine Call_ (ld_blt I hg hm boot_range (PyProof.Rows.callWith_type1 (thn (ha.run pos pins s σ H _ I h) fun us s1 ⟨vs, H1, I1, r1, q1⟩ => ?_) (by rw [hs, hs2]) (by rw [hs2]; rfl)))
  obtain ⟨x, y, rfl, q1⟩ := two_e q1
  cases x with
  | int i =>
    cases y with
    | int j =>
      obtain ⟨⟨q1, q2, q3, q4⟩, q⟩ := q1
      cases r1 with
      | cons r rr =>
        cases rr with
        | cons r' rr =>
          cases rr
          obtain ⟨t, rfl⟩ := r
          obtain ⟨t', rfl⟩ := r'
          exact call_range_2 (range_it I1 q1 q2 q3 q4 (q _ (adm_r i _)))
    | _ => exact False.elim q1
  | _ => exact False.elim q1
/-- a text, a list, a tuple -/
def jA (K : PySem.W.Frag) (te : TE) : TJ := fun σ H R => te σ H fun x H1 => match x with
  | .str z => R (tl z).length (itS (tl z)) (fun _ => True) H1
  | .ref a => look H1 a fun o => (match o with
    | some (.lst xs) => R xs.length (itL xs) (fun H' => H' a = some (.lst xs)) H1
    | some (.tup xs) => R xs.length (itL xs) (fun H' => H' a = some (.tup xs)) H1
    | some (.frz ob (.lst xs)) => R xs.length (itL xs) (fun H' => H' a = some (.frz ob (.lst xs))) H1
    | _ => ∃ xs, SqT K (fun _ => none) a xs ∧ R xs.length (itL xs) (fun _ => True) H1)
  | _ => False
theorem adm_l {K : PySem.W.Frag} {a : Addr} {xs : List V} {st : Hp → Prop} (h : ∀ H, st H → SqL K H a xs) : Adm (Itl K a) xs.length (itL xs) st :=
  ⟨fun i H hi q => ⟨xs, xs[i], h H q, by simp [hi]⟩, fun i H x H' hi q y => ⟨y.1, y.2 xs (h H q)⟩, fun H q => ⟨xs, h H q, Nat.le_refl _⟩⟩
theorem adm_t {K : PySem.W.Frag} {a : Addr} {xs : List V} {st : Hp → Prop} (h : ∀ H, st H → SqT K H a xs) : Adm (Itt K a) xs.length (itL xs) st :=
  ⟨fun i H hi q => ⟨xs, xs[i], h H q, by simp [hi]⟩, fun i H x H' hi q y => ⟨y.1, y.2 xs (h H q)⟩, fun H q => ⟨xs, h H q, Nat.le_refl _⟩⟩
theorem adm_s (z : Str) : Adm (Its z) (tl z).length (itS (tl z)) (fun _ => True) := by
  have e : z.cps.size = (tl z).length := by simp [tl]
  refine ⟨fun i H h _ => ?_, fun i H x H' _ _ y => ⟨y.1, ?_⟩, fun H _ => ?_⟩
  · show i < z.cps.size; rw [e]; exact h
  · obtain ⟨c, h1, h2⟩ := y.2
    exact ⟨c, by simpa [tl] using h1, h2⟩
  · show z.cps.size ≤ _; rw [e]; exact Nat.le_refl _
theorem sqT_k {K : PySem.W.Frag} {H : Hp} {a : Addr} {xs : List V} (h : SqT K (fun _ => none) a xs) : SqT K H a xs := by
  rcases h with (h | ⟨o, h⟩) | h
  · cases h
  · cases h
  · exact .inr h
theorem pja {l : Expr} {te : TE} (hl : PE X l te) : PJ X tg l (jA X.K te) := by
  refine ⟨fun pins s σ H R I h => ?_⟩
  refine thn (hl.run pins s σ H _ I h) fun v s1 ⟨x, H1, I1, r1, q1⟩ => ?_
  cases x with
  | str z =>
    obtain ⟨t, rfl⟩ := r1
    have q := q1 _ (adm_s z)
    cases ha : z.cps.all (· < 128)
    · exact wpAny_pyIter_wide ha (pi_one (tk := s1.toks) I1 _ (turn_str _ z t "str_iterator" (.inr rfl)) ⟨_, Heap.get?_push_size _ rfl, rfl, rfl⟩ q)
    · exact wpAny_pyIter_ascii ha (pi_one (tk := s1.toks) I1 _ (turn_str _ z t "str_ascii_iterator" (.inl rfl)) ⟨_, Heap.get?_push_size _ rfl, rfl, rfl⟩ q)
  | ref a =>
    cases r1
    have fl : ∀ xs, SqL X.K H1 a xs → R (Itl X.K a) H1 → wpAny (model X.prog X.w) X.A (pyIter (.ref a)) (PIE X pins σ tg R) X.xe s1 := fun xs hq q => by
      obtain ⟨its, rv, p, hz⟩ := I1.list hq
      refine wpAny_pyIter_list p.isList ?_
      refine ⟨s1.heap.objs.size, [s1.heap.objs.size], _, _, H1, rfl, I1.kept (t' := s1.toks) fun b o e => Heap.get?_push_of_some _ e, turn_list a _, ⟨_, Heap.get?_push_size _ rfl, rfl, rfl⟩, fun b hb => ?_, q⟩
      have e : b = s1.heap.objs.size := by simpa using hb
      subst e
      exact I1.fpOk (Nat.le_refl _) (I1.hok.fresh (Nat.le_refl _))
    have ft : ∀ xs, SqT X.K H1 a xs → R (Itt X.K a) H1 → wpAny (model X.prog X.w) X.A (pyIter (.ref a)) (PIE X pins σ tg R) X.xe s1 := fun xs hq q => by
      obtain ⟨its, rv, p, hz⟩ := I1.tuple hq
      refine wpAny_pyIter_tuple (show s1.heap.IsTuple a its.toArray from p) ?_
      refine ⟨s1.heap.objs.size, [s1.heap.objs.size], _, _, H1, rfl, I1.kept (t' := s1.toks) fun b o e => Heap.get?_push_of_some _ e, turn_tuple a _, ⟨_, Heap.get?_push_size _ rfl, rfl, rfl⟩, fun b hb => ?_, q⟩
      have e : b = s1.heap.objs.size := by simpa using hb
      subst e
      exact I1.fpOk (Nat.le_refl _) (I1.hok.fresh (Nat.le_refl _))
    have q1 := look_e q1
    have fk : (∃ xs, SqT X.K (fun _ => none) a xs ∧ ∀ J, Adm J xs.length (itL xs) (fun _ => True) → R J H1) → wpAny (model X.prog X.w) X.A (pyIter (.ref a)) (PIE X pins σ tg R) X.xe s1 :=
      fun ⟨xs, h1, h2⟩ => ft xs (sqT_k h1) (h2 _ (adm_t fun H' _ => sqT_k h1))
    revert q1
    cases e : H1 a with
    | none => exact fk
    | some o =>
      cases o with
      | lst xs => exact fun q1 => fl xs (SqL.of e) (q1 _ (adm_l fun H' h => SqL.of h))
      | tup xs => exact fun q1 => ft xs (SqT.of e) (q1 _ (adm_t fun H' h => SqT.of h))
      | frz ob u =>
        cases u with
        | lst xs => exact fun q1 => fl xs (.inl (.inr ⟨_, e⟩)) (q1 _ (adm_l fun H' h => .inl (.inr ⟨_, h⟩)))
        | _ => exact fk
      | _ => exact fk
  | _ => exact False.elim q1

/-! ### while -/
structure whl (c : TT) (tb : TS) (D : Ends) (σ : St) (H : Hp) : Prop where
  out : tWhile c tb D σ H
/-- by a word and a measure; the test's reading is asked with its own wish -/
theorem whl_i {c : TT} {tb : TS} {D : Ends} {σ : St} {H : Hp} (W : Nat → St → Hp → Prop) (m : Nat) (h0 : W m σ H)
    (hs : ∀ m σ H, W m σ H → c σ H fun b H1 => if b = true then ∃ N : St → Hp → Prop, (∀ σ' H', N σ' H' → ∃ m', m' < m ∧ W m' σ' H') ∧ tb { D with nx := N, ct := N, bk := D.nx } σ H1 else D.nx σ H1) : whl c tb D σ H := by
  refine ⟨?_⟩
  exact ⟨W, ⟨m, h0⟩, hs⟩
theorem pswhl {c : Expr} {body : List Stmt} {tc : TT} {tb : TS} {pos : Pos} (hp : PassesOwn (model X.prog X.w) X.A X.env X.xe) (hc : PT X c tc) (hb : PSs X body tb) : PS X (.While c body [] pos) (whl tc tb) :=
  ps_imp (ps_while hp hc hb) fun D σ H h => by replace h := h.out; exact h

/-! ### list comprehensions -/
structure lcp (n : Nat) (it : Itm) (st : Hp → Prop) (g : TG) (tt : TT) (te : TE) (vs : List Nat) (σ : St) (H1 : Hp) (Q : VK) : Prop where
  out : ∀ J, Adm J n it st → ∀ D, H1 D = none → ∃ W : Nat → Nat → Hp → Prop, (∃ m, W 0 m (upd H1 D (.lst []))) ∧ ∀ i m H, W i m H →
  (J.stop i H ∧ Q (.ref D) H) ∨ (J.go i H ∧ ∃ Nx : Hp → Prop, (∀ H', Nx H' → ∃ m', m' < m ∧ W (i + 1) m' H') ∧ ∀ x H', J.yld i H x H' → g x (wipe σ vs) H' fun σ2 H2 => wipe σ2 vs = wipe σ vs ∧ tt σ2 H2 fun b H3 =>
    if b = true then te σ2 H3 fun y H4 => ∃ acc, H4 D = some (.lst acc) ∧ acc.length < sizeLine ∧ Nx (upd H4 D (.lst (acc ++ [y]))) else Nx H3)
def tLcP (wi : TJ) (g : TG) (tt : TT) (te : TE) (vs : List Nat) : TE := fun σ H Q => wi σ H fun n it st H1 => lcp n it st g tt te vs σ H1 Q
theorem tLcP_e {wi : TJ} {g : TG} {tt : TT} {te : TE} {vs : List Nat} {σ : St} {H : Hp} {Q : VK} (h : tLcP wi g tt te vs σ H Q) : tLc (toI wi) g tt te vs σ H Q := by
  have e : (fun n it st H1 => lcp n it st g tt te vs σ H1 Q) = (fun n it st H1 => ∀ J, Adm J n it st → ∀ D, H1 D = none → ∃ W : Nat → Nat → Hp → Prop, (∃ m, W 0 m (upd H1 D (.lst []))) ∧ ∀ i m H, W i m H →
      (J.stop i H ∧ Q (.ref D) H) ∨ (J.go i H ∧ ∃ Nx : Hp → Prop, (∀ H', Nx H' → ∃ m', m' < m ∧ W (i + 1) m' H') ∧ ∀ x H', J.yld i H x H' → g x (wipe σ vs) H' fun σ2 H2 => wipe σ2 vs = wipe σ vs ∧ tt σ2 H2 fun b H3 =>
        if b = true then te σ2 H3 fun y H4 => ∃ acc, H4 D = some (.lst acc) ∧ acc.length < sizeLine ∧ Nx (upd H4 D (.lst (acc ++ [y]))) else Nx H3)) := by
    funext n it st H1
    exact propext ⟨fun h => h.out, fun h => ⟨h⟩⟩
  have h : wi σ H fun n it st H1 => lcp n it st g tt te vs σ H1 Q := h
  rw [e] at h
  exact h
theorem plc {elt iter : Expr} {ifs : List Expr} {scope : Scope} (own : List (Str × Nat)) {pos : Pos} {wi : TJ} {g : TG} {tt : TT} {te : TE} (hc : X.calm = true) (hN : X.N.Nodup) (hi : PJ X tg iter wi) (ok : blkC X.N X.env.scope scope own = true)
    (hg : ∀ (s : Shared) (H : Hp) (C : Addr) (cl : List (Str × Addr)) (fp : List Addr), PG (X.blk s H scope (compEnvC scope cl C X.env) fp) tg g) (ht : ∀ (s : Shared) (H : Hp) (C : Addr) (cl : List (Str × Addr)) (fp : List Addr), PTs (X.blk s H scope (compEnvC scope cl C X.env) fp) ifs tt)
    (he : ∀ (s : Shared) (H : Hp) (C : Addr) (cl : List (Str × Addr)) (fp : List Addr), PE (X.blk s H scope (compEnvC scope cl C X.env) fp) elt te) (hs : ∀ x, foldedSetIterable iter X.env x = pure x := by intro _; rfl) :
    PE X (.ListComp elt [⟨tg, iter, ifs, 0⟩] scope pos) (tLcP wi g tt te (own.map (·.2))) := pe_imp (pe_lc hc hN hi (blkOk_by ok) hg ht he hs) fun _ _ _ h => tLcP_e h
theorem pslc {i : Nat} {y : Str} {py : Pos} {elt iter : Expr} {ifs : List Expr} {scope : Scope} (own : List (Str × Nat)) {pos spos : Pos} {wi : TJ} {g : TG} {tt : TT} {te : TE} (hc : X.calm = true) (hN : X.N.Nodup) (hy : X.N[i]? = some y) (hyl : X.env.scope.names.lookup y = some .local)
    (hsw : swapsWith (.ListComp elt [⟨tg, iter, ifs, 0⟩] scope pos) (some (.Name y py)) spos.line X.env = pure true) (hi : PJ X tg iter wi) (ok : blkC X.N X.env.scope scope own = true)
    (hg : ∀ (s : Shared) (H : Hp) (C : Addr) (cl : List (Str × Addr)) (fp : List Addr), PG (X.blk s H scope (compEnvC scope cl C X.env) fp) tg g) (ht : ∀ (s : Shared) (H : Hp) (C : Addr) (cl : List (Str × Addr)) (fp : List Addr), PTs (X.blk s H scope (compEnvC scope cl C X.env) fp) ifs tt)
    (he : ∀ (s : Shared) (H : Hp) (C : Addr) (cl : List (Str × Addr)) (fp : List Addr), PE (X.blk s H scope (compEnvC scope cl C X.env) fp) elt te) (hs : ∀ x, foldedSetIterable iter X.env x = pure x := by intro _; rfl) :
    PS X (.Assign [.Name y py] (.ListComp elt [⟨tg, iter, ifs, 0⟩] scope pos) spos) (tAsg (tLcP wi g tt te (own.map (·.2))) (gName i)) :=
  ps_imp (ps_setLc hc hN hy hyl hsw hi (blkOk_by ok) hg ht he hs) fun D σ H h => tLcP_e h
theorem lcp_i {n : Nat} {it : Itm} {st : Hp → Prop} {g : TG} {tt : TT} {te : TE} {vs : List Nat} {σ : St} {H1 : Hp} {Q : VK} (Pv : Addr → Nat → Hp → Prop) (h0 : ∀ D, H1 D = none → Pv D 0 (upd H1 D (.lst []))) (hst : ∀ D i H, H1 D = none → i ≤ n → Pv D i H → st H)
    (hs : ∀ D i x H H', H1 D = none → i < n → Pv D i H → it i H x H' → g x (wipe σ vs) H' fun σ2 H2 => wipe σ2 vs = wipe σ vs ∧ tt σ2 H2 fun b H3 =>
      if b = true then te σ2 H3 fun y H4 => ∃ acc, H4 D = some (.lst acc) ∧ acc.length < sizeLine ∧ Pv D (i + 1) (upd H4 D (.lst (acc ++ [y]))) else Pv D (i + 1) H3) (hd : ∀ D H, H1 D = none → Pv D n H → Q (.ref D) H) : lcp n it st g tt te vs σ H1 Q := by
  refine ⟨?_⟩
  intro J A D hD
  refine ⟨fun i m H => m = n - i ∧ i ≤ n ∧ Pv D i H, ⟨n, by simp, Nat.zero_le _, h0 D hD⟩, ?_⟩
  rintro i m H ⟨rfl, hi, p⟩
  have q := hst D i H hD hi p
  by_cases hlt : i < n
  · exact .inr ⟨A.go i H hlt q, Pv D (i + 1), fun H' p' => ⟨n - (i + 1), by omega, rfl, hlt, p'⟩, fun x H' y => hs D i x H H' hD hlt p (A.yl i H x H' hlt q y)⟩
  · have e : i = n := by omega
    subst e
    exact .inl ⟨A.sp H q, hd D H hD p⟩
end
end Ta

set_option Elab.async false
set_option linter.all false
set_option maxRecDepth 100000
set_option maxHeartbeats 1000000
namespace Ta
open PySem PySem.Spec PyProof.Rows L2

/-! ### a def that says super(): its closure is the cell of __class__ -/
structure SupFn (P : Program) (K : PySem.W.Frag) (f : Addr) (F : NdefX.NF) (D : Addr) (dvs : List V) (fd : FuncData) : Prop where
  ex : ∃ (cc : Addr) (oc : Value) (od an : Option Addr) (dV kV doc pm ct : Value) (osl : Array (Option Value)), F.cl = [(("__class__" : Str), cc)] ∧ fd = PySem.W.fnX F.name F.qual F.params F.body F.scope F.cl dV kV doc pm an (.ref F.c) ct ∧
    K.lookup f = some ⟨oc, od, .func fd, osl⟩ ∧ DflV K dV dvs ∧ ∃ (cl : Value) (cld : Option Addr) (csl : Array (Option Value)), K.lookup cc = some ⟨cl, cld, .cell (some (.ref D)), csl⟩
  cd : PySem.W.codeIn K (.ref F.c) F.qual = true
  file : ∃ (ccl : Value) (cdd : Option Addr) (vs : Array Value) (ccs : Array (Option Value)) (fl : Str) (tf : Tok), K.lookup F.c = some ⟨ccl, cdd, .fields vs, ccs⟩ ∧ vs[2]? = some (.str fl tf) ∧ ((P.main.file : Str) == fl) = true
  clsD : ∃ cdD, PySem.W.clsIn K D = some cdD
  top : (P.main.scope.names.lookup ("super" : Str)).isSome = false
  kp : PySem.W.keepIn K (.ref f) = true
section
variable {P : Program} {w : World} {K : PySem.W.Frag} {mg : Str → Option Value} {base : Heap}
/-- such a def by its first statement (at the code itself) and the rest -/
theorem fn_sup {f D : Addr} {F : NdefX.NF} {fd : FuncData} {N ps : List Str} {sp : Sp} {k : Nat} {st0 : Stmt} {rest : List Stmt} {dvs : List V} (SF : SupFn P K f F D dvs fd) (hbd : F.body = st0 :: rest) (S : NdefX.NScope N ps ["__class__"] F.scope)
    (len : ∀ vs H Q E, sp vs H Q E → vs.length = ps.length)
    (hbody : ∀ (A : Around) (outer : List Env) (s : Shared) (H : Hp) (vs : List V) (Q : VK) (E : XK), Room k (A.deeper (NdefX.envF F f s.heap.objs.size)) → sp vs H Q E →
      ∃ (t : TS), PSs (NdefX.ncx (L2.CX P w) P w K mg base N F f A outer s H E) rest t ∧
        ∀ s', Inv (NdefX.ncx (L2.CX P w) P w K mg base N F f A outer s H E) [] (NdefX.startF N vs [some (.ref D)]) H s' →
          PySem.wpAt (model P w) (A.deeper (NdefX.envF F f s.heap.objs.size)) (.func F.body (NdefX.envF F f s.heap.objs.size)) (exec st0 (NdefX.envF F f s.heap.objs.size))
            (fun fl s'' => fl = .next ∧ ∃ σ' H', Inv (NdefX.ncx (L2.CX P w) P w K mg base N F f A outer s H E) [] σ' H' s'' ∧ t { nx := fun _ H' => Q .non H', rt := Q } σ' H')
            (NdefX.ncx (L2.CX P w) P w K mg base N F f A outer s H E).xe s') :
    FnOk P w K mg base (L2.CX P w) (k + 1) f fd ps sp := by
  obtain ⟨cc, oc, od, an, dV, kV, doc, pm, ct, osl, hcl, rfl, lk, hD, cl, cld, csl, hcell⟩ := SF.ex
  refine ⟨len, fun A outer s H args us vs Q E hr e0 hb r hsp => ?_⟩
  have hl := len _ _ _ _ hsp
  have KX : K.In s.heap := e0.mod.kin.keeps fun b o e => (e0.bs b o e).1
  have lim : s.heap.NoLimit := e0.mod.nolimit.keeps fun b o e => (e0.bs b o e).1
  have C : NdefX.CellsAt F.cl ["__class__"] [some (.ref D)] s.heap H := by
    rw [hcl]
    have hK : ∀ y c, ([("__class__", cc)] : List (Str × Addr)).lookup y = some c → y = "__class__" ∧ c = cc := fun y c e => by
      simp only [List.lookup] at e
      split at e
      · rename_i hb; cases e; exact ⟨eq_of_beq hb, rfl⟩
      · cases e
    refine ⟨rfl, fun y c e => ?_, fun x y c e1 e2 => (hK x c e1).1.trans (hK y c e2).1.symm, fun i y e => ?_⟩
    · obtain ⟨_, rfl⟩ := hK y c e
      exact ⟨(e0.bs _ _ (e0.mod.kin _ _ hcell)).2, _, _, KX _ _ hcell, rfl⟩
    · cases i with
      | zero =>
        have e' : y = "__class__" := by simpa using e.symm
        subst e'
        refine ⟨cc, by simp [List.lookup], fun v hv => ?_⟩
        have hv' : V.ref D = v := by simpa using hv
        subst hv'
        exact ⟨.ref D, rfl, _, KX _ _ hcell, rfl⟩
      | succ i => simp at e
  refine PySem.ks_codeAny_call_defAt hr.depth (KX _ _ lk) rfl lim (PySem.W.codeRec_of KX SF.cd) (body := F.body) rfl hb S.nocell (fun ⟨n, v⟩ hy => S.par n (List.of_mem_zip hy).1) (fun h₁ hns kp => ?_) S.co S.gen S.kind
  obtain ⟨t, ht, hq⟩ := hbody A outer s H vs Q E (hr.deeper _) hsp
  have I : Inv (NdefX.ncx (L2.CX P w) P w K mg base N F f A outer s H E) [] (NdefX.startF N vs [some (.ref D)]) H { s with heap := h₁, toks := s.toks + (ps.zip us).length } := NdefX.inv_startN S hr.hd e0 hl r C hns kp
  have fin : ∀ {s' : Shared} {σ' : L2.St} {H' : Hp} {v : V} {u : Value}, Inv (NdefX.ncx (L2.CX P w) P w K mg base N F f A outer s H E) [] σ' H' s' → RelV v u → Q v H' → CE outer P w H s Q u s' :=
    fun {s' σ' H' v u} J rv q => ⟨v, H', J.os, J.bare, J.base, J.hok, rv, q⟩
  have key : PySem.wpAt (model P w) (A.deeper (NdefX.envF F f s.heap.objs.size)) (.func F.body (NdefX.envF F f s.heap.objs.size)) (execs F.body (NdefX.envF F f s.heap.objs.size))
      (fun fl s' => CR (L2.CX P w) outer P w H s Q E (.ok (.ret (match fl with | .ret v => v | _ => .none))) s') (NdefX.ncx (L2.CX P w) P w K mg base N F f A outer s H E).xe { s with heap := h₁, toks := s.toks + (ps.zip us).length } := by
    have q0 := hq _ I
    rw [hbd] at q0 ⊢
    refine PySem.ks_wpAt_execs_cons (PySem.ks_wpAt_mono q0 (fun fl s1 h1 => ?_) fun _ _ z => z)
    obtain ⟨rfl, σ1, H1, I1, q1⟩ := h1
    refine PySem.wpAt_of_wpAny (thn (ht.run [] s1 σ1 H1 _ I1 q1) fun fl s2 h2 => ?_)
    cases fl with
    | ret u =>
      obtain ⟨v, σ', H', J, rv, q⟩ := h2
      exact fin J rv q
    | next =>
      obtain ⟨σ', H', J, q⟩ := h2
      exact fin (v := V.non) (u := Value.none) J rfl q
    | brk =>
      obtain ⟨_, _, _, q⟩ := h2
      exact False.elim q
    | cont =>
      obtain ⟨_, _, _, q⟩ := h2
      exact False.elim q
  exact key
end
/-! ### super() -/
section
variable {X : Cx} {pins : List (Addr × Obj)} {σ : St} {H : Hp} {s : Shared} {f D x C : Addr} {F : NdefX.NF} {dvs : List V} {fd : FuncData}
abbrev supO (D x C : Addr) : Obj := { cls := .type "super", dict := none, data := .fields #[.ref D, .ref x, .ref C], slots := #[] }
theorem sup_base {p0 p1 : Pos} {attr : Str} {whole : Sem Value} {E : Value → Shared → Prop} {Q : Value → Shared → Prop} {ar : Arg} {ox : Obj} (SF : SupFn X.prog X.K f F D dvs fd) (hE : X.env = NdefX.envF F f X.env.locals) (I : Inv X pins σ H s)
    (hsup : X.mg "super" = none) (hp : (F.params.posonlyargs ++ F.params.args).head? = some ar) (i : Nat) (hN : X.N[i]? = some ar.arg) (hσ : σ[i]? = some (some (.ref x))) (hka : F.scope.names.lookup ar.arg = some .local)
    (hx : s.heap.get? x = some ox) (hxc : ox.cls = .ref C) (hnc : ∀ c, ox.data ≠ .cls c) (hsub : PySem.W.mroIn X.K C (.ref D) = some true)
    (hks : F.scope.names.lookup ("super" : Str) = some .globalImplicit) (hkc : F.scope.names.lookup ("__class__" : Str) = some .free) (hk : F.scope.kind = .function) (hat : (attr == ("__class__" : Str)) = false)
    (h : ∀ so s', s'.heap.get? so = some (supO D x C) → (∀ b o, s.heap.get? b = some o → s'.heap.get? b = some o) → Inv X pins σ H s' → Q (.ref so) s') :
    PySem.wpAt (model X.prog X.w) X.A (.func F.body X.env) (attributeBase (.Call (.Name "super" p0) [] [] p1) attr X.env whole) Q E s := by
  obtain ⟨cc, oc, od, an, dV, kV, doc, pm, ct, osl, hcl, rfl, lk, hD, cl, cld, csl, hcell⟩ := SF.ex
  obtain ⟨ccl, cdd, vs, ccs, fl, tf, hcode, hvs, hfile⟩ := SF.file
  obtain ⟨cdD, hcD⟩ := SF.clsD
  have KX : X.K.In s.heap := I.kIn
  obtain ⟨oD, hD1, hD2⟩ : ∃ oD, s.heap.get? D = some oD ∧ oD.data = .cls cdD := by
    unfold PySem.W.clsIn at hcD
    split at hcD
    · rename_i c d cd' sl ho
      cases hcD
      exact ⟨_, KX _ _ ho, rfl⟩
    · cases hcD
  obtain ⟨m, hn, hloc⟩ := I.loc
  have hsc : X.env.scope = F.scope := by rw [hE]
  obtain ⟨u, ru, lu⟩ := hloc i ar.arg (.ref x) hN hσ (.inl (by rw [hsc]; exact hka))
  cases ru
  have hm : m ar.arg = some (.ref x) := by
    rcases lu with ⟨_, e⟩ | ⟨e, _⟩
    · exact e
    · have e2 : X.env.kindOf ar.arg = some .local := by show X.env.scope.names.lookup _ = _; rw [hsc]; exact hka
      rw [e2] at e; rcases e with e | e <;> cases e
  obtain ⟨mb, hb1, hb2⟩ := I.mod.blt
  refine PySem.ks_wpAt_super_base (env := X.env) (by show X.env.scope.names.lookup _ = _; rw [hsc]; exact hks) (by show X.env.scope.names.lookup _ = _; rw [hsc]; exact hkc) hat (by rw [hE]) (KX _ _ lk) rfl hp (by rw [hE]) (KX _ _ hcode) rfl hvs hfile SF.top ?_
  refine PySem.W.ks_loadName_global (by rw [hsc]; exact hk) (by show X.env.scope.names.lookup _ = _; rw [hsc]; exact hks) (Calls.loadGlobal_builtin (by rw [I.ok.glob]; exact I.mod.glob.keeps I.bk) hsup (by rw [I.ok.blt]; exact hb1.keeps I.bk) ((hb2 "super" (by decide +kernel)).trans (by decide +kernel : bootBuiltins "super" = some (.type "super"))) ⟨rfl, ?_⟩)
  refine wpAny_loadName_free (by rw [hsc]; exact hk) (by show X.env.scope.names.lookup _ = _; rw [hsc]; exact hkc) (by rw [hE]; show F.cl.lookup _ = _; rw [hcl]; rfl) ⟨_, KX _ _ hcell, rfl⟩ ?_
  refine wpAny_loadName_local (by rw [hsc]; exact hk) (by show X.env.scope.names.lookup _ = _; rw [hsc]; exact hka) hn hm ?_
  obtain ⟨hp', g', d', t', os'⟩ := s
  refine PySem.ks_wpAny_isType_cls hD1 hD2 ⟨rfl, ?_⟩
  refine PySem.ks_wpAny_call_super hD1 hD2 hx hxc hnc (PySem.W.looks_mroIn KX hsub) (fun h' e k => ?_)
  exact h _ _ e k (I.kept (t' := t') k)

/-- super().__init__('..') of an exception that is being made -/
structure SupExc (K : PySem.W.Frag) (C D : Addr) : Prop where
  oex : OexC K C
  sub : PySem.W.mroIn K C (.ref D) = some true
  ini : PySem.W.ks_superIn K C D "__init__" = some (some (.builtin "ValueError.__init__"))
  ve : PySem.W.subIn K (.ref C) (.type "ValueError") = some true
  third : PySem.W.nsIn K cStatics "thirdparty.any" = some none
theorem sup_exc {p0 p1 p2 p3 p4 p5 : Pos} {j : Nat} {msg : Str} {E : Value → Shared → Prop} {Q : Flow → Shared → Prop} {ar : Arg} (SF : SupFn X.prog X.K f F D dvs fd) (SE : SupExc X.K C D) (hE : X.env = NdefX.envF F f X.env.locals) (I : Inv X pins σ H s)
    (hsup : X.mg "super" = none) (hp : (F.params.posonlyargs ++ F.params.args).head? = some ar) (i : Nat) (hN : X.N[i]? = some ar.arg) (hσ : σ[i]? = some (some (.ref x))) (hka : F.scope.names.lookup ar.arg = some .local)
    (hx : H x = some (exo x C none)) (hks : F.scope.names.lookup ("super" : Str) = some .globalImplicit) (hkc : F.scope.names.lookup ("__class__" : Str) = some .free) (hk : F.scope.kind = .function)
    (h : ∀ s', Inv X pins σ H s' → Q .next s') (hli : p2.endLine = p2.endLine)
    (hsw : swapsWith (.Call (.Attribute (.Call (.Name "super" p0) [] [] p1) "__init__" p2) [.Constant (.str msg) j p5] [] p3) none p4.line X.env = pure false := by rfl)
    (pl : Sem Bool) (he : eval (.Call (.Attribute (.Call (.Name "super" p0) [] [] p1) "__init__" p2) [.Constant (.str msg) j p5] [] p3) X.env = (do
      let ov ← attributeBase (.Call (.Name "super" p0) [] [] p1) "__init__" X.env (eval (.Call (.Name "super" p0) [] [] p1) X.env)
      standAt p2.atName
      let (f, first) ← holding [ov] (getMethod ov "__init__" pl)
      callWith p3 f first (backTo p3 (starEach [.Constant (.str msg) j p5] X.env)) [])) :
    PySem.wpAt (model X.prog X.w) X.A (.func F.body X.env) (exec (.Expr (.Call (.Attribute (.Call (.Name "super" p0) [] [] p1) "__init__" p2) [.Constant (.str msg) j p5] [] p3) p4) X.env) Q E s := by
  obtain ⟨t1, ho⟩ := exo_at I.hok hx
  obtain ⟨nm, q, N, bs, bm, sn, sub, ab, col, dd, k0, k1, k2, k3, k5, hC, hbm⟩ := SE.oex.cls
  refine PySem.ks_wpAt_Expr_any (PySem.ks_wpAt_MethodCall (pl := pl) (sup_base SF hE I hsup hp i hN hσ hka ho rfl (fun c z => nomatch z) SE.sub hks hkc hk (by decide +kernel) fun so s1 hso kp I1 => ?_) he) I.quiet hsw
  have KX1 : X.K.In s1.heap := I1.kIn
  have ho1 := kp _ _ ho
  have hmro := SE.ini
  unfold PySem.W.ks_superIn at hmro
  cases hcl : PySem.W.clsIn X.K C with
  | none => rw [hcl] at hmro; cases hmro
  | some cd =>
    rw [hcl] at hmro
    have LT : PySem.W.Looks (model X.prog X.w) s1.heap (typeOf (.ref x)) (.ref C) := fun A Q E s k q => wpAny_typeOf_ref (k _ _ ho1) q
    have hI : PySem.W.Looks (model X.prog X.w) s1.heap (isInstance (.ref x) (.type "ValueError")) true := LT.andThen (PySem.W.looks_subIn KX1 SE.ve)
    have hxC : x ≠ C := fun z => by
      have e1 := KX1 _ _ hC
      rw [← z, ho1] at e1
      cases e1
    obtain ⟨h1, g1, d1, t1', os1⟩ := s1
    refine PySem.W.kxs_getMethod PySem.W.kxs_ValueError hso (PySem.W.looks_opaque KX1 SE.third) (l₀ := cd.mro) ?_ rfl KX1 hmro hI hxC (by decide +kernel) ?_
    · exact fun A Q E s k q => wpAny_bind ((PySem.W.looks_clsIn KX1 hcl) A _ E s k (wpAny_pure q))
    · show wpAny _ _ (callWith p3 (.ref h1.objs.size) [] (backTo p3 (starEach [.Constant (.str msg) j p5] X.env)) []) _ _ _
      have I2 : Inv X pins σ H ⟨h1.push (PySem.W.kxs_mw "ValueError.__init__" x), g1, d1, t1' + 1, os1⟩ := I1.kept (t' := t1' + 1) fun b o e => Heap.get?_push_of_some _ e
      have hu : (h1.push (PySem.W.kxs_mw "ValueError.__init__" x)).get? h1.objs.size = some (PySem.W.kxs_mw "ValueError.__init__" x) := Heap.get?_push_size _ rfl
      refine PySem.W.kxs_callWith (i := "ValueError.__init__") (x := x) rfl (Calls.evalArgs_plain (Calls.spliced_cons (Calls.Constant_str (pos := p5) (k := j) (Calls.spliced_nil ⟨hu, ?_⟩))))
      have I3 := I2.tok (t1' + 1 + 1)
      have ho3 : (h1.push (PySem.W.kxs_mw "ValueError.__init__" x)).get? x = some _ := Heap.get?_push_of_some _ ho1
      have hC3 : (h1.push (PySem.W.kxs_mw "ValueError.__init__" x)).get? C = some _ := Heap.get?_push_of_some _ (KX1 _ _ hC)
      show wpAny _ _ (call (.ref h1.objs.size) [.str msg _] []) _ _ _
      refine wpAny_call (codeAny_of_tree ?_)
      show wpAny _ _ (callAny (.ref h1.objs.size) ⟨[.str msg _], []⟩) _ _ _
      simp only [callAny]
      refine wpAny_bind (wpAny_load hu ?_)
      simp only [PySem.W.kxs_mw, show (Value.type "method-wrapper" == Value.type "method" || Value.type "method-wrapper" == Value.type "builtin_function_or_method" || Value.type "method-wrapper" == Value.type "method-wrapper") = true by decide, if_true]
      refine PySem.W.KFB.if_so (by decide) ?_
      refine wpAny_bind (PySem.W.check_bound_init PySem.F.excBase_ValueError.toExcCallFacts hC3 ho3 rfl ?_)
      refine wpAny_bind (wpAny_pure (wpAny_pure ?_))
      refine ⟨plainId_quiet PySem.F.excBase_ValueError.init.plain _, codeAny_builtin PySem.F.excBase_ValueError.initEntry ?_⟩
      refine PySem.W.exc_init_tree (cls := .ref C) (dv := none) (c2 := .none) (c3 := .none) (b4 := .bool false) ho3 (by show 1 ≤ sizeLine; decide) fun h' k hx' _ => ?_
      have J := I3.write (t' := t1' + 1 + 1) (x := x) (e := x) (o := exo x C none) (by rw [hx]; exact True.intro) (.inl rfl) k ⟨_, hx'⟩ (exo_ok hx')
      have eu : upd H x (exo x C none) = H := by
        funext b
        by_cases hb : b = x
        · rw [hb, upd_same, hx]
        · rw [upd_ne hb]
      rw [eu] at J
      exact h _ J
end
end Ta

set_option Elab.async false
set_option linter.all false
set_option maxRecDepth 100000
set_option maxHeartbeats 1000000
namespace Ta
open PySem PySem.Spec PyProof.Rows L2

theorem upd_comm {H : Hp} {a b : Addr} {o u : HO} (h : a ≠ b) : upd (upd H a o) b u = upd (upd H b u) a o := by
  funext c
  unfold upd
  by_cases h1 : c = a
  · subst h1; simp [h]
  · by_cases h2 : c = b
    · subst h2; simp [h1]
    · simp [h1, h2]
/-- __init__ of an exception with the fields fs -/
def spE (C : Addr) (fs : List Str) : Sp := fun vs H Q _ => ∃ a ws, vs = .ref a :: ws ∧ ws.length = fs.length ∧ H a = some (exo a C none) ∧
  (fs = [] → Q .non H) ∧ (fs ≠ [] → ∀ dx, H dx = none → dx ≠ a → Q .non (upd (upd H dx (exd dx (fs.zip ws).reverse)) a (exo a C (some dx))))
section
variable {P : Program} {w : World} {K : PySem.W.Frag} {mg : Str → Option Value} {base : Heap} {f D C : Addr} {F : NdefX.NF} {fd : FuncData}
  {p0 p1 p2 p3 p4 p5 q0 q1 q2 q3 r0 r1 r2 r3 s0 s1 s2 s3 : Pos} {j : Nat} {msg g1 g2 g3 : Str}
abbrev supSt (p0 p1 p2 p3 p4 p5 : Pos) (j : Nat) (msg : Str) : Stmt := .Expr (.Call (.Attribute (.Call (.Name "super" p0) [] [] p1) "__init__" p2) [.Constant (.str msg) j p5] [] p3) p4
abbrev stoSt (q0 q1 q2 q3 : Pos) (g : Str) : Stmt := .Assign [.Attribute (.Name "self" q0) g q1] (.Name g q2) q3
theorem sup_start {N ps : List Str} {A : Around} {outer : List Env} {s : Shared} {H : Hp} {vs ws : List V} {E : XK} {T : St → Hp → Prop} {a : Addr} {ar : Arg} (SF : SupFn P K f F D [] fd) (SE : SupExc K C D) (S : NdefX.NScope N ps ["__class__"] F.scope)
    (hsup : mg "super" = none) (hp : (F.params.posonlyargs ++ F.params.args).head? = some ar) (hN : N[0]? = some ar.arg) (hka : F.scope.names.lookup ar.arg = some .local) (hks : F.scope.names.lookup ("super" : Str) = some .globalImplicit)
    (hev : ∀ env : Env, ∃ pl, eval (.Call (.Attribute (.Call (.Name "super" p0) [] [] p1) "__init__" p2) [.Constant (.str msg) j p5] [] p3) env = (do
      let ov ← attributeBase (.Call (.Name "super" p0) [] [] p1) "__init__" env (eval (.Call (.Name "super" p0) [] [] p1) env)
      standAt p2.atName
      let (f, first) ← holding [ov] (getMethod ov "__init__" pl)
      callWith p3 f first (backTo p3 (starEach [.Constant (.str msg) j p5] env)) [])) (hvs : vs = .ref a :: ws) (ha : H a = some (exo a C none)) (q : T (NdefX.startF N vs [some (.ref D)]) H) :
    ∀ s', Inv (NdefX.ncx (L2.CX P w) P w K mg base N F f A outer s H E) [] (NdefX.startF N vs [some (.ref D)]) H s' →
      PySem.wpAt (model P w) (A.deeper (NdefX.envF F f s.heap.objs.size)) (.func F.body (NdefX.envF F f s.heap.objs.size)) (exec (supSt p0 p1 p2 p3 p4 p5 j msg) (NdefX.envF F f s.heap.objs.size))
        (fun fl s'' => fl = .next ∧ ∃ σ' H', Inv (NdefX.ncx (L2.CX P w) P w K mg base N F f A outer s H E) [] σ' H' s'' ∧ T σ' H')
        (NdefX.ncx (L2.CX P w) P w K mg base N F f A outer s H E).xe s' := fun s' I => by
  obtain ⟨pl, hev⟩ := hev (NdefX.envF F f s.heap.objs.size)
  refine sup_exc (X := NdefX.ncx (L2.CX P w) P w K mg base N F f A outer s H E) SF SE rfl I hsup hp 0 hN (by subst hvs; rfl) hka ha hks (S.frk _ List.mem_cons_self) S.kind (fun s2 I2 => ⟨rfl, _, _, I2, q⟩) rfl rfl pl hev
theorem ok_exc0 (hbd : F.body = [supSt p0 p1 p2 p3 p4 p5 j msg]) (SF : SupFn P K f F D [] fd) (SE : SupExc K C D) (S : NdefX.NScope ["self", "__class__"] ["self"] ["__class__"] F.scope) (hsup : mg "super" = none)
    (hp : (F.params.posonlyargs ++ F.params.args).head?.map (·.arg) = some ("self" : Str)) (hks : F.scope.names.lookup ("super" : Str) = some .globalImplicit)
    (hev : ∀ env : Env, ∃ pl, eval (.Call (.Attribute (.Call (.Name "super" p0) [] [] p1) "__init__" p2) [.Constant (.str msg) j p5] [] p3) env = (do
      let ov ← attributeBase (.Call (.Name "super" p0) [] [] p1) "__init__" env (eval (.Call (.Name "super" p0) [] [] p1) env)
      standAt p2.atName
      let (f, first) ← holding [ov] (getMethod ov "__init__" pl)
      callWith p3 f first (backTo p3 (starEach [.Constant (.str msg) j p5] env)) [])) : FnOk P w K mg base (L2.CX P w) 1 f fd ["self"] (spE C []) := by
  obtain ⟨ar, hp, har⟩ := Option.map_eq_some_iff.mp hp
  refine fn_sup SF hbd S (fun vs H Q E h => ?_) (fun A outer s H vs Q E hr h => ?_)
  · obtain ⟨a, ws, rfl, hl, _⟩ := h
    simp at hl; subst hl; rfl
  · obtain ⟨a, ws, rfl, hl, ha, h1, h2⟩ := h
    refine ⟨tNext, pss_nil, ?_⟩
    exact sup_start (T := tNext _) SF SE S hsup hp (by rw [har]; rfl) (by rw [har]; exact S.par _ List.mem_cons_self) hks hev rfl ha (h1 rfl)
theorem ok_exc1 (hbd : F.body = [supSt p0 p1 p2 p3 p4 p5 j msg, stoSt q0 q1 q2 q3 g1]) (SF : SupFn P K f F D [] fd) (SE : SupExc K C D) (S : NdefX.NScope ["self", g1, "__class__"] ["self", g1] ["__class__"] F.scope) (hsup : mg "super" = none)
    (hp : (F.params.posonlyargs ++ F.params.args).head?.map (·.arg) = some ("self" : Str)) (hks : F.scope.names.lookup ("super" : Str) = some .globalImplicit) (hg : PySem.W.findIn K (.ref C) g1 = some none)
    (hd : (g1 == ("__debug__" : Str)) = false) (hd2 : (g1 == ("__classdict__" : Str)) = false)
    (hev : ∀ env : Env, ∃ pl, eval (.Call (.Attribute (.Call (.Name "super" p0) [] [] p1) "__init__" p2) [.Constant (.str msg) j p5] [] p3) env = (do
      let ov ← attributeBase (.Call (.Name "super" p0) [] [] p1) "__init__" env (eval (.Call (.Name "super" p0) [] [] p1) env)
      standAt p2.atName
      let (f, first) ← holding [ov] (getMethod ov "__init__" pl)
      callWith p3 f first (backTo p3 (starEach [.Constant (.str msg) j p5] env)) [])) : FnOk P w K mg base (L2.CX P w) 1 f fd ["self", g1] (spE C [g1]) := by
  obtain ⟨ar, hp, har⟩ := Option.map_eq_some_iff.mp hp
  refine fn_sup SF hbd S (fun vs H Q E h => ?_) (fun A outer s H vs Q E hr h => ?_)
  · obtain ⟨a, ws, rfl, hl, _⟩ := h
    simpa using hl
  · obtain ⟨a, ws, rfl, hl, ha, h1, h2⟩ := h
    obtain ⟨v, rfl⟩ : ∃ v, ws = [v] := by
      match ws, hl with
      | [v], _ => exact ⟨v, rfl⟩
    have hv := S.par g1 (by simp)
    have hs := S.par "self" (by simp)
    refine ⟨_, pss_one (ps_ost (pe_var (i := 0) rfl (.inl hs) (by decide +kernel) (by decide +kernel)) (pe_var (i := 1) rfl (.inl hv) hd hd2) (by rfl)), ?_⟩
    refine sup_start (T := tOst K g1 (tVar 0) (tVar 1) _) SF SE S hsup hp (by rw [har]; rfl) (by rw [har]; exact hs) hks hev rfl ha ?_
    exact ⟨v, rfl, .ref a, rfl, a, C, rfl, SE.oex, hg, .inl ⟨ha, fun dx n ne => h2 (by simp) dx n ne⟩⟩
theorem ok_exc2 (hbd : F.body = [supSt p0 p1 p2 p3 p4 p5 j msg, stoSt q0 q1 q2 q3 g1, stoSt r0 r1 r2 r3 g2]) (SF : SupFn P K f F D [] fd) (SE : SupExc K C D) (S : NdefX.NScope ["self", g1, g2, "__class__"] ["self", g1, g2] ["__class__"] F.scope) (hsup : mg "super" = none)
    (hp : (F.params.posonlyargs ++ F.params.args).head?.map (·.arg) = some ("self" : Str)) (hks : F.scope.names.lookup ("super" : Str) = some .globalImplicit) (hg : PySem.W.findIn K (.ref C) g1 = some none) (hg2 : PySem.W.findIn K (.ref C) g2 = some none)
    (hd : (g1 == ("__debug__" : Str)) = false) (hd2 : (g1 == ("__classdict__" : Str)) = false) (hd3 : (g2 == ("__debug__" : Str)) = false) (hd4 : (g2 == ("__classdict__" : Str)) = false)
    (hev : ∀ env : Env, ∃ pl, eval (.Call (.Attribute (.Call (.Name "super" p0) [] [] p1) "__init__" p2) [.Constant (.str msg) j p5] [] p3) env = (do
      let ov ← attributeBase (.Call (.Name "super" p0) [] [] p1) "__init__" env (eval (.Call (.Name "super" p0) [] [] p1) env)
      standAt p2.atName
      let (f, first) ← holding [ov] (getMethod ov "__init__" pl)
      callWith p3 f first (backTo p3 (starEach [.Constant (.str msg) j p5] env)) [])) : FnOk P w K mg base (L2.CX P w) 1 f fd ["self", g1, g2] (spE C [g1, g2]) := by
  obtain ⟨ar, hp, har⟩ := Option.map_eq_some_iff.mp hp
  refine fn_sup SF hbd S (fun vs H Q E h => ?_) (fun A outer s H vs Q E hr h => ?_)
  · obtain ⟨a, ws, rfl, hl, _⟩ := h
    simpa using hl
  · obtain ⟨a, ws, rfl, hl, ha, h1, h2⟩ := h
    obtain ⟨v, v2, rfl⟩ : ∃ v v2, ws = [v, v2] := by
      match ws, hl with
      | [v, v2], _ => exact ⟨v, v2, rfl⟩
    have hv := S.par g1 (by simp)
    have hv2 := S.par g2 (by simp)
    have hs := S.par "self" (by simp)
    refine ⟨_, pss_cons (ps_ost (pe_var (i := 0) rfl (.inl hs) (by decide +kernel) (by decide +kernel)) (pe_var (i := 1) rfl (.inl hv) hd hd2) (by rfl)) (pss_one (ps_ost (pe_var (i := 0) rfl (.inl hs) (by decide +kernel) (by decide +kernel)) (pe_var (i := 2) rfl (.inl hv2) hd3 hd4) (by rfl))), ?_⟩
    refine sup_start (T := tSeq (tOst K g1 (tVar 0) (tVar 1)) (tOst K g2 (tVar 0) (tVar 2)) _) SF SE S hsup hp (by rw [har]; rfl) (by rw [har]; exact hs) hks hev rfl ha ?_
    refine ⟨v, rfl, .ref a, rfl, a, C, rfl, SE.oex, hg, .inl ⟨ha, fun dx n ne => ?_⟩⟩
    refine ⟨v2, rfl, .ref a, rfl, a, C, rfl, SE.oex, hg2, .inr ⟨dx, _, upd_same, by rw [upd_ne ne, upd_same], by simp, ?_⟩⟩
    have e := h2 (by simp) dx n ne
    rw [upd_comm (Ne.symm ne), upd_upd]
    exact e
theorem ok_exc3 (hbd : F.body = [supSt p0 p1 p2 p3 p4 p5 j msg, stoSt q0 q1 q2 q3 g1, stoSt r0 r1 r2 r3 g2, stoSt s0 s1 s2 s3 g3]) (SF : SupFn P K f F D [] fd) (SE : SupExc K C D) (S : NdefX.NScope ["self", g1, g2, g3, "__class__"] ["self", g1, g2, g3] ["__class__"] F.scope) (hsup : mg "super" = none)
    (hp : (F.params.posonlyargs ++ F.params.args).head?.map (·.arg) = some ("self" : Str)) (hks : F.scope.names.lookup ("super" : Str) = some .globalImplicit) (hg : PySem.W.findIn K (.ref C) g1 = some none) (hg2 : PySem.W.findIn K (.ref C) g2 = some none) (hg3 : PySem.W.findIn K (.ref C) g3 = some none)
    (hd : (g1 == ("__debug__" : Str)) = false) (hd2 : (g1 == ("__classdict__" : Str)) = false) (hd3 : (g2 == ("__debug__" : Str)) = false) (hd4 : (g2 == ("__classdict__" : Str)) = false) (hd5 : (g3 == ("__debug__" : Str)) = false) (hd6 : (g3 == ("__classdict__" : Str)) = false)
    (hev : ∀ env : Env, ∃ pl, eval (.Call (.Attribute (.Call (.Name "super" p0) [] [] p1) "__init__" p2) [.Constant (.str msg) j p5] [] p3) env = (do
      let ov ← attributeBase (.Call (.Name "super" p0) [] [] p1) "__init__" env (eval (.Call (.Name "super" p0) [] [] p1) env)
      standAt p2.atName
      let (f, first) ← holding [ov] (getMethod ov "__init__" pl)
      callWith p3 f first (backTo p3 (starEach [.Constant (.str msg) j p5] env)) [])) :
    FnOk P w K mg base (L2.CX P w) 1 f fd ["self", g1, g2, g3] (spE C [g1, g2, g3]) := by
  obtain ⟨ar, hp, har⟩ := Option.map_eq_some_iff.mp hp
  refine fn_sup SF hbd S (fun vs H Q E h => ?_) (fun A outer s H vs Q E hr h => ?_)
  · obtain ⟨a, ws, rfl, hl, _⟩ := h
    simpa using hl
  · obtain ⟨a, ws, rfl, hl, ha, h1, h2⟩ := h
    obtain ⟨v, v2, v3, rfl⟩ : ∃ v v2 v3, ws = [v, v2, v3] := by
      match ws, hl with
      | [v, v2, v3], _ => exact ⟨v, v2, v3, rfl⟩
    have hv := S.par g1 (by simp)
    have hv2 := S.par g2 (by simp)
    have hv3 := S.par g3 (by simp)
    have hs := S.par "self" (by simp)
    refine ⟨_, pss_cons (ps_ost (pe_var (i := 0) rfl (.inl hs) (by decide +kernel) (by decide +kernel)) (pe_var (i := 1) rfl (.inl hv) hd hd2) (by rfl)) (pss_cons (ps_ost (pe_var (i := 0) rfl (.inl hs) (by decide +kernel) (by decide +kernel)) (pe_var (i := 2) rfl (.inl hv2) hd3 hd4) (by rfl))
      (pss_one (ps_ost (pe_var (i := 0) rfl (.inl hs) (by decide +kernel) (by decide +kernel)) (pe_var (i := 3) rfl (.inl hv3) hd5 hd6) (by rfl)))), ?_⟩
    refine sup_start (T := tSeq (tOst K g1 (tVar 0) (tVar 1)) (tSeq (tOst K g2 (tVar 0) (tVar 2)) (tOst K g3 (tVar 0) (tVar 3))) _) SF SE S hsup hp (by rw [har]; rfl) (by rw [har]; exact hs) hks hev rfl ha ?_
    refine ⟨v, rfl, .ref a, rfl, a, C, rfl, SE.oex, hg, .inl ⟨ha, fun dx n ne => ?_⟩⟩
    refine ⟨v2, rfl, .ref a, rfl, a, C, rfl, SE.oex, hg2, .inr ⟨dx, _, upd_same, by rw [upd_ne ne, upd_same], by simp, ?_⟩⟩
    refine ⟨v3, rfl, .ref a, rfl, a, C, rfl, SE.oex, hg3, .inr ⟨dx, _, by rw [upd_ne (Ne.symm ne), upd_same], upd_same, by simp, ?_⟩⟩
    have e := h2 (by simp) dx n ne
    rw [upd_upd, upd_comm (Ne.symm ne), upd_upd]
    exact e
end
/-! ### raise X(..) -/
section
variable (P : Program) (w : World) (K : PySem.W.Frag) (mg : Str → Option Value) (base : Heap)
structure Ex (x : Str) (C : Addr) (fs : List Str) : Prop where
  ex : ∃ (f : Addr) (fd : FuncData) (ps : List Str), FnOk P w K mg base (L2.CX P w) 1 f fd ps (spE C fs) ∧ PySem.W.findIn K (.ref C) "__init__" = some (some (.ref f)) ∧ PySem.W.typeIn K (.ref f) = some (.type "function") ∧ Binds K fd ps [] ∧ mg x = some (.ref C)
  oex : OexC K C
end
section
variable {X : Cx} {x : Str} {p pos : Pos} {e : Expr} {es : List Expr} {t : TA} {W : WX} {C : Addr} {fs : List Str}
def tRs (C : Addr) (fs : List Str) (W : WX) (t : TA) : TS := fun _ σ H => t σ H fun vs H1 => vs.length = fs.length ∧ ∀ d, H1 d = none → W (.ref C) (some d) σ (upd H1 d (.xd (fs.zip vs).reverse))
theorem xd_eq {H1 : Hp} {a d : Addr} {o1 o2 u v : HO} (ha : H1 a = none) (hda : d ≠ a) : upd (del (upd (upd (upd H1 a o1) d u) a o2) a) d v = upd H1 d v := by
  funext c
  unfold upd del
  by_cases h1 : c = d
  · simp [h1]
  · by_cases h2 : c = a
    · subst h2; simp [h1, ha]
    · simp [h1, h2]
theorem pmkE (G : Ex X.prog X.w X.K X.mg X.base x C fs) (hne : fs ≠ []) (hlen : fs.length ≤ 900) (hr : Room 2 X.A) (tk : Takes X W) (ha : PA X (e :: es) t) (hg : Gl X x) (hdb : (x == ("__debug__" : Str)) = false)
    (he : starEach (e :: es) X.env = (false, eval e X.env) :: starEach es X.env) (hpl : (backTo pos (starEach es X.env)).any (·.1) = false) :
    PMk X (.Call (.Name x p) (e :: es) [] pos) (fun σ H Q => t σ H fun vs H1 => vs.length = fs.length ∧ ∀ d, H1 d = none → Q (.ref C) (some d) (upd H1 d (.xd (fs.zip vs).reverse))) := by
  obtain ⟨fI, fd, ps, F1, iC, tI, hb, hm⟩ := G.ex
  have T := G.oex
  intro pins s σ H Q I h
  obtain ⟨nm, q, N, bs, bm, sn, sub, ab, col, dd, k0, k1, k2, k3, k5, hC, hbm⟩ := T.cls
  refine wpAny_Call_Name_kw (ld_glob I hg hm ?_ hdb)
  refine PySem.W.callWith_K (h₀ := X.base) I.ok.mod.kin T.kC (thn (ha.run pos pins s σ H _ I h) fun us s1 ⟨vs, H1, I1, r1, hz, q1⟩ => ⟨I1.kIn, ?_⟩) he hpl
  show wpAny _ _ (call (.ref C) us) _ _ _
  obtain ⟨hp, g, dr, tok, os⟩ := s1
  have hsz : hp.objs.size ≤ hp.objs.size + 1 := Nat.le_succ _
  have hn : H1 (hp.objs.size + 1) = none := I1.hok.fresh hsz
  have hq : spE C fs (.ref (hp.objs.size + 1) :: vs) (upd H1 (hp.objs.size + 1) (exo (hp.objs.size + 1) C none))
      (fun v H2 => v = .non ∧ ∃ (d : Addr) (gs : List (Str × V)), H2 (hp.objs.size + 1) = some (exo (hp.objs.size + 1) C (some d)) ∧ H2 d = some (exd d gs) ∧ H1 d = none ∧ Q (.ref C) (some d) (upd (del H2 (hp.objs.size + 1)) d (.xd gs))) (fun _ _ _ => False) := by
    refine ⟨_, vs, rfl, hz, upd_same, fun e0 => absurd e0 hne, fun _ dx n ne => ⟨rfl, dx, _, upd_same, by rw [upd_ne ne, upd_same], ?_, ?_⟩⟩
    · rw [upd_ne ne] at n; exact n
    · rw [upd_ne ne] at n
      rw [xd_eq hn ne]; exact q1 dx n
  have kk : ∀ b o, hp.get? b = some o → ((hp.push (PySem.W.kdv_tup us)).push (PySem.HandSPX.excO C hp.objs.size)).get? b = some o := fun b o e => Heap.get?_push_of_some _ (Heap.get?_push_of_some _ e)
  have hget : ((hp.push (PySem.W.kdv_tup us)).push (PySem.HandSPX.excO C hp.objs.size)).get? (hp.objs.size + 1) = some (PySem.HandSPX.excO C hp.objs.size) := by heap_get
  have I2 : Inv X pins σ (upd H1 (hp.objs.size + 1) (exo (hp.objs.size + 1) C none)) ⟨(hp.push (PySem.W.kdv_tup us)).push (PySem.HandSPX.excO C hp.objs.size), g, dr, tok, os⟩ :=
    I1.laid (t' := tok) (a := hp.objs.size + 1) (o := exo (hp.objs.size + 1) C none) (h' := (hp.push (PySem.W.kdv_tup us)).push (PySem.HandSPX.excO C hp.objs.size)) kk hsz (exo_ok hget)
  have r2 : Vals (V.ref (hp.objs.size + 1) :: vs) (Value.ref (hp.objs.size + 1) :: us) := .cons rfl r1
  have hl : (Value.ref (hp.objs.size + 1) :: us ++ []).length = ps.length := by
    have e := r2.length
    rw [F1.len _ _ _ _ hq] at e
    rw [List.append_nil]
    exact e.symm
  have hus : us.length ≤ sizeLine := by
    rw [← Paired.length r1, sizeLine_eq]
    omega
  have hbi := hb ⟨(hp.push (PySem.W.kdv_tup us)).push (PySem.HandSPX.excO C hp.objs.size), g, dr, tok, os⟩ (Value.ref (hp.objs.size + 1) :: us) I2.kIn hl
  rw [List.append_nil] at hbi
  refine wpAny_call (PySem.HandSPX.call_own PySem.F.excBase_ValueError (fun Y => PySem.HandSPX.refsVE_contains Y bm hbm) (I1.kIn _ _ hC) (PySem.W.looks_findIn I1.kIn iC) (fun self => PySem.W.bind_fn I1.kIn self tI) hus
    (codeAny_mono (F1.run _ X.stack _ _ ⟨Value.ref (hp.objs.size + 1) :: us, []⟩ (Value.ref (hp.objs.size + 1) :: us) _ _ (fun _ _ _ => False) (hr.make C us []) (I2.env0.make C us []) hbi r2 hq) fun r s' hq' => ?_))
  cases r with
  | error er => exact tk er s' (XE.of_call I2 (fun _ _ _ z => z.elim) hq')
  | ok fl =>
    cases fl with
    | ret u =>
      obtain ⟨v, H2, os2, bare2, un2, hok2, rv, ev, d, gs, ea, ed, hd1, q2⟩ := hq'
      subst ev
      obtain ⟨h2, g2, d2, t2, os'⟩ := s'
      exact ⟨rv, mk_end (raises_own T.exC T.tyC) I1 hsz kk un2 hok2 os2 bare2 ea ed hd1 q2⟩
    | next => exact False.elim hq'
    | brk => exact False.elim hq'
    | cont => exact False.elim hq'
theorem praise (G : Ex X.prog X.w X.K X.mg X.base x C fs) (hr : Room 2 X.A) (tk : Takes X W) (ha : PA X (e :: es) t) {pos' : Pos} (hc : X.calm = true := by rfl) (hne : fs ≠ [] := by decide) (hlen : fs.length ≤ 900 := by decide) (hg : Gl X x := by rfl) (hdb : (x == ("__debug__" : Str)) = false := by decide +kernel)
    (he : starEach (e :: es) X.env = (false, eval e X.env) :: starEach es X.env := by rfl) (hpl : (backTo pos (starEach es X.env)).any (·.1) = false := by rfl) :
    PS X (.Raise (some (.Call (.Name x p) (e :: es) [] pos)) none pos') (tRs C fs W t) :=
  ps_raise hc tk (pmkE G hne hlen hr tk ha hg hdb he hpl)
end
end Ta

set_option Elab.async false
set_option linter.all false
set_option maxRecDepth 100000
set_option maxHeartbeats 1000000
namespace Ta
open PySem PySem.Spec PyProof.Rows L2

/-! ### a caught exception: its fields, isinstance -/
section
variable {X : Cx} {a : Addr} {oe : Obj} {cls : Value} {d : Option Addr} {pn : List (Addr × Obj)}
structure XC (K : PySem.W.Frag) (C : Addr) : Prop where
  x : XfC K C
  e : ExcC K C
def tXat (K : PySem.W.Frag) (a : Addr) (cls : Value) (d : Option Addr) (f : Str) (te : TE) : TE := fun σ H Q => te σ H fun x H1 => x = .ref a ∧ match cls with
  | .ref C => (match d with
    | some dd => XC K C ∧ PySem.W.findIn K (.ref C) f = some none ∧ look H1 dd fun o => (match o with
      | some (.xd fs) => fld fs f fun v => Q v H1
      | _ => False)
    | none => False)
  | _ => False
theorem tXat_e {K : PySem.W.Frag} {cls : Value} {d : Option Addr} {f : Str} {H1 : Hp} {k : V → Prop} (h : match cls with
  | .ref C => (match d with
    | some dd => XC K C ∧ PySem.W.findIn K (.ref C) f = some none ∧ look H1 dd fun o => (match o with
      | some (.xd fs) => fld fs f fun v => k v
      | _ => False)
    | none => False)
  | _ => False) : ∃ (C dd : Addr), cls = .ref C ∧ d = some dd ∧ XC K C ∧ PySem.W.findIn K (.ref C) f = some none ∧ look H1 dd fun o => match o with
    | some (.xd fs) => fld fs f fun v => k v
    | _ => False := by
  cases cls with
  | ref C =>
    cases d with
    | none => exact h.elim
    | some dd => exact ⟨C, dd, rfl, rfl, h⟩
  | _ => exact h.elim
theorem pxat {e : Expr} {te : TE} {pos : Pos} {n : Str} (hz : Zc cls d oe) (hf : ∃ vs, oe.data = .fields vs) (he : PE (X.suite a ((a, oe) :: pn)) e te) (hb : attributeBase e n X.env (eval e X.env) = eval e X.env := by rfl) :
    PE (X.suite a ((a, oe) :: pn)) (.Attribute e n pos) (tXat X.K a cls d n te) := by
  refine ⟨fun pins s σ H Q I h => ?_⟩
  refine attr_of hb (thn (he.run pins s σ H _ I h) fun u s1 hh => ?_)
  obtain ⟨x, H1, I1, rx, ex, hh⟩ := hh
  obtain ⟨C, dd, ec, ed, T, hno, q⟩ := tXat_e hh
  subst ex
  obtain rfl : u = Value.ref a := rx
  subst ec
  subst ed
  have q := look_e q
  cases ea : H1 dd with
  | none => rw [ea] at q; exact q.elim
  | some ob =>
    rw [ea] at q
    cases ob with
    | xd fs =>
      obtain ⟨v, l, q⟩ := fld_e q
      obtain ⟨ha, _⟩ := I1.pin (a, oe) (List.mem_append_left _ List.mem_cons_self)
      obtain ⟨vs, hd⟩ := hf
      have hx : ObjOk X.prog X.w H1 s1.heap dd (.xd fs) := I1.hok dd _ ea
      obtain ⟨mA, hns, hr⟩ := hx
      obtain ⟨od, ho, hl⟩ := lookIn_ns hns
      obtain ⟨u, hu, ru⟩ := RelO.some_of (v := v) (o := mA n) (by rw [← l]; exact hr n)
      have J : PySem.W.InstAt s1.heap a oe C (some od) := ⟨ha, hz.1, by unfold PySem.W.notCls; rw [hd] <;> rfl, by rw [hz.2]; exact ho⟩
      exact HandSPX.exc_get I1.kIn J T.x.ga T.x.gg T.x.exC (PySem.W.findObj_own T.x.hdC hno rfl (by rw [hl, hu])) (handed_of ru) ⟨v, H1, I1.tok _, ru, q⟩
    | _ => exact q.elim
def clsOf : V → Value
  | .ty n => .type n
  | .ref C => .ref C
  | _ => .none
def isCls : V → Bool
  | .ty _ => true
  | .ref _ => true
  | _ => false
theorem clsV_of {c : V} (h : isCls c = true) : ClsV c (clsOf c) := by
  cases c with
  | ty n => exact .ty n
  | ref C => exact .own C
  | _ => cases h
theorem clsV_all : ∀ {cs : List V}, cs.all isCls = true → Paired ClsV cs (cs.map clsOf)
  | [], _ => .nil
  | c :: cs, h => by
    simp only [List.all_cons, Bool.and_eq_true] at h
    exact .cons (clsV_of h.1) (clsV_all h.2)
/-- isinstance's second argument: a class, a tuple of classes that was laid -/
structure isaP (K : PySem.W.Frag) (t : Value) (c : V) (H : Hp) (Q : Bool → Prop) : Prop where
  out : (isCls c = true ∧ ∃ b, PySem.W.kitOne K t (clsOf c) = some b ∧ Q b) ∨ ∃ tp cs b, c = .ref tp ∧ H tp = some (.tup cs) ∧ cs.all isCls = true ∧ PySem.W.kitAny K t (cs.map clsOf) = some b ∧ Q b
theorem isa_1 {K : PySem.W.Frag} {t : Value} {c : V} {H : Hp} {Q : Bool → Prop} {b : Bool} (h : isCls c = true) (h2 : PySem.W.kitOne K t (clsOf c) = some b) (q : Q b) : isaP K t c H Q := by
  refine ⟨?_⟩; exact .inl ⟨h, b, h2, q⟩
theorem isa_t {K : PySem.W.Frag} {t : Value} {tp : Addr} {cs : List V} {H : Hp} {Q : Bool → Prop} {b : Bool} (h : H tp = some (.tup cs)) (h1 : cs.all isCls = true) (h2 : PySem.W.kitAny K t (cs.map clsOf) = some b) (q : Q b) : isaP K t (.ref tp) H Q := by
  refine ⟨?_⟩; exact .inr ⟨tp, cs, b, rfl, h, h1, h2, q⟩
/-- isinstance(e, ..), e the caught exception -/
def zIsX (K : PySem.W.Frag) (a : Addr) (cls : Value) (d : Option Addr) : List V → Hp → VK → Prop := fun xs H Q => two xs fun x c => x = .ref a ∧ match cls with
  | .ref D => XC K D ∧ (match d with
    | some dd => look H dd fun o => (match o with
      | some (.xd fs) => isaP K (.ref D) c H fun b => Q (.bl b) H
      | _ => False)
    | none => isaP K (.ref D) c H fun b => Q (.bl b) H)
  | _ => False
theorem zIsX_e {K : PySem.W.Frag} {cls : Value} {d : Option Addr} {c : V} {H : Hp} {k : Bool → Prop} (h : match cls with
  | .ref D => XC K D ∧ (match d with
    | some dd => look H dd fun o => (match o with
      | some (.xd fs) => isaP K (.ref D) c H k
      | _ => False)
    | none => isaP K (.ref D) c H k)
  | _ => False) : (∃ D, cls = .ref D ∧ XC K D) ∧ (∀ dd, d = some dd → ∃ fs, H dd = some (.xd fs)) ∧ isaP K cls c H k := by
  cases cls with
  | ref D =>
    obtain ⟨h1, h2⟩ := h
    cases d with
    | none => exact ⟨⟨D, rfl, h1⟩, fun _ z => (nomatch z), h2⟩
    | some dd =>
      have h2 := look_e h2
      cases e : H dd with
      | none => rw [e] at h2; exact h2.elim
      | some o =>
        rw [e] at h2
        cases o with
        | xd fs => exact ⟨⟨D, rfl, h1⟩, fun dd' z => by cases z; exact ⟨fs, e⟩, h2⟩
        | _ => exact h2.elim
  | _ => exact h.elim
theorem crisx (hz : Zc cls d oe) (hf : ∃ vs, oe.data = .fields vs) : CallR (X.suite a ((a, oe) :: pn)) (.builtin "isinstance") (zIsX X.K a cls d) := by
  intro pins s σ H xs us Q I r h
  obtain ⟨x, c, rfl, h⟩ := two_e h
  obtain ⟨rfl, h'⟩ := h
  obtain ⟨⟨D, rfl, T⟩, hdd, h⟩ := zIsX_e (k := fun b => Q (.bl b) H) h'
  obtain ⟨u1, u2, rfl, r1, r2⟩ := vals2 r
  cases (show u1 = Value.ref a from r1)
  obtain ⟨hget, _⟩ := I.pin (a, oe) (List.mem_append.mpr (.inl List.mem_cons_self))
  obtain ⟨vs, hv⟩ := hf
  have J : ∃ od, PySem.W.InstAt s.heap a oe D od := by
    cases d with
    | none => exact ⟨none, hget, hz.1, by unfold PySem.W.notCls; rw [hv] <;> rfl, by rw [hz.2]; trivial⟩
    | some dd =>
      obtain ⟨fs, hx⟩ := hdd dd rfl
      obtain ⟨mA, hns, _⟩ := (show ObjOk X.prog X.w H s.heap dd (.xd fs) from I.hok dd _ hx)
      obtain ⟨od, ho, _⟩ := lookIn_ns hns
      exact ⟨some od, hget, hz.1, by unfold PySem.W.notCls; rw [hv] <;> rfl, by rw [hz.2]; exact ho⟩
  obtain ⟨od, J⟩ := J
  have hcl : (PySem.W.clsIn X.K D).isSome = true := by
    obtain ⟨cd, h1, _⟩ := PySem.W.any_some T.e.hd
    rw [h1]; rfl
  have Z := PySem.W.kitx_exc (x := a) (ox := oe) (od := od) hcl T.e.hg T.e.hk T.e.hs T.e.ha T.e.hn T.e.ht T.e.hm
  replace h := h.out
  rcases h with ⟨hc, b, e, q⟩ | ⟨tp, cs, b, rfl, hT, hc, e, q⟩
  · have e2 := (clsV_of hc).eq r2
    subst e2
    exact PySem.W.kia_one Z I.kIn J e (fun z => nomatch z) fun tk => ⟨.bl b, H, I.kept (t' := tk) fun _ _ z => z, rfl, q⟩
  · cases (show u2 = Value.ref tp from r2)
    obtain ⟨_, its, rv, o, h1, h2, n, h3⟩ := (show ObjOk X.prog X.w H s.heap tp (.tup cs) from I.hok tp _ hT)
    have e3 := ClsV.all (clsV_all hc) rv
    subst e3
    obtain ⟨oc, odd, dt, sl⟩ := o
    simp only at h2 h3
    subst h2 h3
    exact PySem.W.kia_tup Z I.kIn J h1 e (fun z => nomatch z) fun tk => ⟨.bl b, H, I.kept (t' := tk) fun _ _ z => z, rfl, q⟩
structure IsC (K : PySem.W.Frag) (C : Addr) : Prop where
  ex : ∀ (H : Hp) (a dx : Addr) (fs : List (Str × V)), H a = some (.ins C dx fs) → TyOf K H (.ref a) (.ref C)
/-- isinstance(x, ..) of any value -/
def tyOf (K : PySem.W.Frag) (x : V) (H : Hp) (k : Value → Prop) : Prop := match x with
  | .str _ => k (.type "str")
  | .int _ => k (.type "int")
  | .bl _ => k (.type "bool")
  | .non => k (.type "NoneType")
  | .ref p => look H p fun o => match o with
    | some (.ins C dx fs) => IsC K C ∧ k (.ref C)
    | some (.lst xs) => k (.type "list")
    | some (.tup xs) => k (.type "tuple")
    | some (.dK xs) => k (.type "dict")
    | _ => ∃ t, TyX K H (.ref p) t ∧ k t
  | _ => False
theorem tyOf_e {K : PySem.W.Frag} {x : V} {H : Hp} {k : Value → Prop} (h : tyOf K x H k) : ∃ t, TyX K H x t ∧ k t := by
  cases x with
  | str z => exact ⟨_, .base (.str z), h⟩
  | int z => exact ⟨_, .base (.int z), h⟩
  | bl z => exact ⟨_, .base (.bl z), h⟩
  | non => exact ⟨_, .base .non, h⟩
  | ref p =>
    have h := look_e h
    revert h
    cases e : H p with
    | none => exact fun h => h
    | some o =>
      cases o with
      | ins C dx fs => exact fun h => ⟨_, .base (h.1.ex H p dx fs e), h.2⟩
      | lst xs => exact fun h => ⟨_, .base (.lst e), h⟩
      | tup xs => exact fun h => ⟨_, .base (.tup e), h⟩
      | dK xs => exact fun h => ⟨_, .base (.dK e), h⟩
      | _ => exact fun h => h
  | _ => exact h.elim
def zIsa (K : PySem.W.Frag) : List V → Hp → VK → Prop := fun xs H Q => two xs fun x c => tyOf K x H fun t => isaP K t c H fun b => Q (.bl b) H
theorem crisa {X : Cx} : CallR X (.builtin "isinstance") (zIsa X.K) := by
  refine cr_imp (call_isi.or call_isiT) fun xs H Q h => ?_
  obtain ⟨x, c, rfl, h'⟩ := two_e h
  obtain ⟨t, ht, h⟩ := tyOf_e (K := X.K) (k := fun t => isaP X.K t c H fun b => Q (.bl b) H) h'
  replace h := h.out
  rcases h with ⟨hc, b, e, q⟩ | ⟨tp, cs, b, rfl, hT, hc, e, q⟩
  · exact .inl ⟨x, c, t, _, b, rfl, clsV_of hc, ht, e, q⟩
  · exact .inr ⟨x, tp, cs, t, _, b, rfl, hT, clsV_all hc, ht, e, q⟩
end
/-! ### a def: its promise by its body -/
section
variable {P : Program} {w : World} {K : PySem.W.Frag} {mg : Str → Option Value} {base : Heap} {x qual : Str} {params : Arguments} {body : List Stmt} {scope : Scope} {dvs : List V} {kws : List (Str × V)} {f : Addr} {fd : FuncData}
/-- the wish of a def about what is raised -/
abbrev WD (E : XK) : WX := fun c d _ H => E c d H
abbrev EndD (Q : VK) : Ends := { nx := fun _ H' => Q .non H', rt := Q }
theorem def_ok {N ps : List Str} {k : Nat} {sp : Sp} (F : FunD K x qual params body scope dvs kws f fd) (S : FnScope N ps scope) (len : ∀ vs H Q E, sp vs H Q E → vs.length = ps.length) (t : WX → TS)
    (term : ∀ (cdv : Value) (A : Around) (outer : List Env) (s : Shared) (H : Hp) (E : XK), Room k (A.deeper (envOfC qual scope s.heap.objs.size f cdv)) → PSs (cxOf (L2.CX P w) P w K mg base N qual scope f cdv A outer s H E) body (t (WD E)))
    (rd : ∀ vs H Q E, sp vs H Q E → t (WD E) (EndD Q) (start N vs) H) : FnOk P w K mg base (L2.CX P w) (k + 1) f fd ps sp := by
  refine F.ok S len fun cdv A outer s H vs Q E hr h => ⟨t (WD E), ?_, rd vs H Q E h⟩
  exact term cdv A outer s H E hr
/-- the wish of the def's context -/
theorem takesD {P : Program} {w : World} {K : PySem.W.Frag} {mg : Str → Option Value} {base : Heap} {N : List Str} {qual : Str} {scope : Scope} {f : Addr} {cdv : Value} {A : Around} {outer : List Env} {s : Shared} {H : Hp} {E : XK} :
    Takes (cxOf (L2.CX P w) P w K mg base N qual scope f cdv A outer s H E) (WD E) := takes_of rfl rfl rfl rfl
theorem ownD {P : Program} {w : World} {K : PySem.W.Frag} {mg : Str → Option Value} {base : Heap} {N : List Str} {qual : Str} {scope : Scope} {f : Addr} {cdv : Value} {A : Around} {outer : List Env} {s : Shared} {H : Hp} {E : XK} :
    PassesOwn (model P w) (cxOf (L2.CX P w) P w K mg base N qual scope f cdv A outer s H E).A (cxOf (L2.CX P w) P w K mg base N qual scope f cdv A outer s H E).env (cxOf (L2.CX P w) P w K mg base N qual scope f cdv A outer s H E).xe := PassesOwn.leaving
end
end Ta
namespace Ta
open PySem PySem.Spec PyProof.Rows L2
/-! ### short forms for printed terms -/
section
variable {X : Cx}
theorem pset (i : Nat) {x : Str} {e : Expr} {te : TE} {pos pos' : Pos} (hN : X.N.Nodup) (he : PE X e te) (hi : X.N[i]? = some x := by rfl) (hx : Loc X.env.scope x := by first | exact Or.inl rfl | exact Or.inr rfl)
    (hs : swapsWith e (some (.Name x pos')) pos.line X.env = pure false := by rfl) (hf : X.fn x = true ∨ X.env.scope.names.lookup x = some .local := by first | exact .inl rfl | exact .inr rfl) : PS X (.Assign [.Name x pos'] e pos) (tAsg te (gName i)) := ps_set hN hi hx he hs hf
theorem pgn (i : Nat) {x : Str} {pos : Pos} (hN : X.N.Nodup) (hi : X.N[i]? = some x := by rfl) (hx : Loc X.env.scope x := by first | exact Or.inl rfl | exact Or.inr rfl)
    (hf : X.fn x = true ∨ X.env.scope.names.lookup x = some .local := by first | exact .inl rfl | exact .inr rfl) : PG X (.Name x pos) (gName i) := pg_name hN hi hx hf
theorem psub {o i e : Expr} {to ti te : TE} {pos pos' : Pos} (he : PE X e te) (ho : PE X o to) (hi : PE X i ti) (hs : swapsWithSole [.Subscript o i pos'] e pos.line X.env = pure false := by rfl) (hw : swappedStores [.Subscript o i pos'] e X.env = pure none := by rfl)
    (h3 : List.map (fun x => x.snd) (assignEach [.Subscript o i pos'] X.env) = [assign (.Subscript o i pos') X.env] := by rfl) (h4 : ∀ v : Value, assign (.Subscript o i pos') X.env v = (do
      let ov ← holding [v] (eval o X.env)
      let iv ← holding [v, ov] (eval i X.env)
      standAt pos'
      holding [v, ov, iv] (setItem ov iv v)
      release [v, ov, iv] []) := by intro v; rfl) : PS X (.Assign [.Subscript o i pos'] e pos) (tAsg te (gSub to ti zSetP)) := ps_asg he (pg_sub ho hi setp h4) hs hw h3
end
end Ta

set_option Elab.async false
set_option linter.all false
set_option maxRecDepth 100000
set_option maxHeartbeats 3200000
namespace Ta
open PySem PySem.Spec PyProof.Rows L2

/-! ### len(set(text)) -/
def dn {α : Type} [BEq α] (l : List α) : Nat := l.eraseDups.length
theorem dn_snoc {α : Type} [BEq α] [LawfulBEq α] (l : List α) (x : α) : dn (l ++ [x]) = if l.any (· == x) = true then dn l else dn l + 1 := by
  unfold dn
  rw [List.eraseDups_append]
  by_cases h : x ∈ l
  · have e : [x].removeAll l = [] := by simp [List.removeAll, h]
    rw [e, if_pos (by simpa using h)]; simp
  · have e : [x].removeAll l = [x] := by simp [List.removeAll, h]
    rw [e, if_neg (by simpa using h)]; simp [List.eraseDups_cons]
section
variable {prog : Program} {w : World} {A : Around} {R : Result → Shared → Prop} {I : Addr} {fp wr : List Addr} {G : Array GenState → Array GenState → Prop} {n : Nat} {P : Nat → Value → Prop} {St : Nat → Shared → Prop}
theorem dn_le {α : Type} [BEq α] [LawfulBEq α] (l : List α) : dn l ≤ l.length := by
  suffices h : ∀ m : List α, dn m.reverse ≤ m.reverse.length by
    have z := h l.reverse
    rw [List.reverse_reverse] at z
    exact z
  intro m
  induction m with
  | nil => simp [dn]
  | cons x m ih =>
    rw [List.reverse_cons, dn_snoc]
    split <;> simp <;> simp at ih <;> omega
theorem loopN (W : WalksS prog w A.in1 I fp wr G n P St) (S : Addr) (hSf : S ∉ fp) (xs : List Str) (hsz : xs.length = n) (hn1 : n + 1 < scanBound)
    (hval : ∀ i v, P i v → ∃ t, v = .str (xs.getD i Str.empty) t) :
    ∀ (k i : Nat) (s : Shared), n - i = k → i ≤ n → St i s →
      s.heap.SetOf (PySem.strKind prog w) S (fun k' => (xs.take i).any (· == k')) (dn (xs.take i)) →
      (∀ s', Moved (S :: wr) G s s' → s'.heap.SetOf (PySem.strKind prog w) S (fun k' => xs.any (· == k')) (dn xs) → R (.ok (.ret .none)) s') →
      codeAny (model prog w) A (.builtin "set.update.loop" ⟨[.ref S, .ref I], []⟩) R s := by
  have hSw : S ∉ wr := fun h => hSf (W.sub _ h)
  have hsub : ∀ b ∈ wr, b ∈ S :: wr := fun b hb => List.mem_cons_of_mem _ hb
  intro k
  induction k with
  | zero =>
    intro i s hk hi hst hS hR
    have hin : i = n := by omega
    subst hin
    refine codeAny_builtin PyProof.Rows.F.entry_set_update_loop ?_
    rw [Around.under_plainId PyProof.Rows.F.plain_set_update_loop _]
    show wpAny _ A.in1 (pyNext (.ref I) >>= _) _ _ s
    refine wpAny_bind (W.done s _ _ hst fun s' hm => ?_)
    show wpAny _ A.in1 (ret Value.none) _ _ s'
    rw [List.take_of_length_le (Nat.le_of_eq hsz)] at hS
    exact wpAny_pure (hR s' (hm.mono hsub) (by
      obtain ⟨o, es, ep, t, ho, rest⟩ := hS
      exact ⟨o, es, ep, t, hm.heap S _ hSw ho, rest⟩))
  | succ k ih =>
    intro i s hk hi hst hS hR
    have hlt : i < n := by omega
    have hlx : i < xs.length := by omega
    refine codeAny_builtin PyProof.Rows.F.entry_set_update_loop ?_
    rw [Around.under_plainId PyProof.Rows.F.plain_set_update_loop _]
    show wpAny _ A.in1 (pyNext (.ref I) >>= _) _ _ s
    refine wpAny_bind (W.item i s _ _ hlt hst fun v s' hP hst' hm => ?_)
    obtain ⟨t, rfl⟩ := hval i v hP
    have hS' : s'.heap.SetOf (PySem.strKind prog w) S (fun k' => (xs.take i).any (· == k')) (dn (xs.take i)) := by
      obtain ⟨o, es, ep, tb, ho, rest⟩ := hS
      exact ⟨o, es, ep, tb, hm.heap S _ hSw ho, rest⟩
    show wpAny _ A.in1 (holding [Value.str (xs.getD i Str.empty) t] (setAdd S (.str (xs.getD i Str.empty) t)) >>= _) _ _ s'
    refine wpAny_bind (wpAny_holding ?_)
    unfold setAdd
    refine wpAny_holding ?_
    refine wpAny_bind ((PySem.strKind prog w).pyHash (k := xs.getD i Str.empty) (strKind_is _ _ _ _) ?_)
    have hdn := dn_le (xs.take i)
    have htk : (xs.take i).length ≤ i := by rw [List.length_take]; omega
    refine wpAny_setAddHashed_of (knd := PySem.strKind prog w) (s := { s' with toks := s'.toks + 1 }) (strKind_is _ _ _ _) rfl hS' (by unfold scanBound at hn1 ⊢; omega) fun h' hsb hS2 => ?_
    have ex : xs.getD i Str.empty = xs[i] := by simp [List.getD, hlx]
    have et : xs.take (i + 1) = xs.take i ++ [xs[i]] := by rw [List.take_succ_eq_append_getElem hlx]
    have hSi : h'.SetOf (PySem.strKind prog w) S (fun k' => (xs.take (i + 1)).any (· == k')) (dn (xs.take (i + 1))) := by
      refine SetOf_congr hS2 (fun k' => ?_) ?_
      · show ((xs.take i).any (· == k') || decide (k' = xs.getD i Str.empty)) = (xs.take (i + 1)).any (· == k')
        rw [et, ex, List.any_append]
        congr 1
        by_cases e : k' = xs[i]
        · subst e; simp
        · have hb : (xs[i] == k') = false := by simpa [beq_iff_eq] using (fun h' : xs[i] = k' => e h'.symm)
          simp [hb, e]
      · rw [et, dn_snoc, ex]
    refine wpAny_pure ⟨plainId_quiet PyProof.Rows.F.plain_set_update_loop _, ih (i + 1) _ (by omega) hlt (W.frame _ s' _ _ hst' (Nat.le_succ _) fun b hb o e => ?_) hSi fun s'' hm'' hS'' => ?_⟩
    · rw [hsb.2 b (fun h : b = S => hSf (by rw [← h]; exact hb))]; exact e
    · refine hR s'' (Moved.trans W.gtrans ((hm.mono hsub).then_heap (Nat.le_succ _) fun b o hb e => ?_) hm'') hS''
      rw [hsb.2 b (fun h : b = S => hb (by rw [h]; exact List.mem_cons_self))]; exact e
end
section
variable {prog : Program} {w : World} {A : Around} {E : Value → Shared → Prop} {s : Shared}
def one1 (l : List Nat) : List Str := l.map fun c => S [c]
theorem sign_one {x : Str} {i : Nat} {v : Value} (h : SignAt x i v) : ∃ t, v = .str ((one1 (tl x)).getD i Str.empty) t := by
  obtain ⟨c, u, h1, rfl⟩ := h
  have e : (tl x)[i]? = some c := by simpa [tl] using h1
  exact ⟨u, by simp [one1, List.getD, List.getElem?_map, e]⟩
theorem call_set_text {x : Str} {t : Tok} {Q : Value → Shared → Prop} (hh : A.handled = none) (hn : (tl x).length + 1 < scanBound)
    (h : ∀ (h' : Heap) (tk : Nat), h'.SetOf (PySem.strKind prog w) s.heap.objs.size (fun k' => (one1 (tl x)).any (· == k')) (dn (one1 (tl x))) →
      (∀ b o, b < s.heap.objs.size → s.heap.get? b = some o → h'.get? b = some o) → Q (.ref s.heap.objs.size) { s with heap := h', toks := tk }) :
    wpAny (model prog w) A (call (.type "set") [.str x t]) Q E s := by
  obtain ⟨c, tl', hmro⟩ := PySem.F.called_set.mro
  have hmade := PySem.F.called_set.made
  have hsub := PySem.F.called_set.sub
  refine wpAny_call (codeAny_of_tree ?_)
  show wpAny _ _ (callAny (.type "set") _) _ _ _
  refine wpAny_pure ⟨Code.quiet_builtin _ (by decide +kernel), codeAny_builtin PySem.F.entry_type_call ?_⟩
  rw [Around.under_plain (weight_type_call_type "set" [.str x t] []) rfl]
  have h1 := PySem.F.called_set.notType
  have h2 := PySem.F.called_set.canCreate
  have hct := PySem.F.typeCall_set_1 (.str x t)
  repeat (any_goals (first | assumption | wp_step))
  refine codeAny_mono (code_set_new_1 (.str x t) (E := E) (Q₁ := fun obj s₁ => ∃ led : Bool, obj = .ref s.heap.objs.size ∧ s₁ = { s with heap := s.heap.push { cls := .type "set", dict := none, data := .set #[] 0 (.fresh 0 0 led) } }) fun led => ⟨led, rfl, rfl⟩) fun r s₁ hr => ?_
  cases r with
  | error e => exact hr
  | ok fl =>
    cases fl with
    | ret obj =>
      obtain ⟨led, rfl, rfl⟩ := hr
      have hS : (s.heap.push { cls := .type "set", dict := none, data := .set #[] 0 (.fresh 0 0 led) }).get? s.heap.objs.size = some { cls := .type "set", dict := none, data := .set #[] 0 (.fresh 0 0 led) } := Heap.get?_push_size _ rfl
      have hT : Shared.TypeIs { s with heap := s.heap.push { cls := .type "set", dict := none, data := .set #[] 0 (.fresh 0 0 led) } } (.ref s.heap.objs.size) "set" := ⟨_, hS, rfl⟩
      have hli := PySem.F.called_set.init.lookup
      have hbi := PySem.F.called_set.init.bind (.ref s.heap.objs.size)
      repeat (any_goals (first | assumption | wp_step))
      refine codeAny_mono (codeAny_call_builtin (R := wants (fun r s₂ => r = .none ∧ ∃ h' tk, s₂ = { s with heap := h', toks := tk } ∧
          h'.SetOf (PySem.strKind prog w) s.heap.objs.size (fun k' => (one1 (tl x)).any (· == k')) (dn (one1 (tl x))) ∧
          (∀ b o, b < s.heap.objs.size → s.heap.get? b = some o → h'.get? b = some o)) E) PySem.F.called_set.init.plain PySem.F.entry_set_init (check_set_init_1 hT ?_)) fun r₂ s₂ hr₂ => ?_
      · have hsls := PySem.F.sub_str_set
        have hslf := PySem.F.sub_str_frozenset
        have hne : (Value.type "str" == Value.type "dict") = false := by decide
        unfold Builtin.«set.__init__» noKeywords Builtin.Frozenset.updateFrom
        generalize hPI : pyIter = PI
        wp_walk
        subst hPI
        refine wpAny_pyIter_str fun o St W hst => ?_
        refine wpAny_bind (wpAny_runValue ?_)
        have hh3 : A.in1.in1.in1.handled = none := by simp [hh]
        have hSf : s.heap.objs.size ∉ [(s.heap.push { cls := .type "set", dict := none, data := .set #[] 0 (.fresh 0 0 led) }).objs.size] := by
          rw [Heap.size_push]; simp only [List.mem_singleton]
          exact Nat.ne_of_lt (Nat.lt_succ_self _)
        have hsz : (one1 (tl x)).length = x.cps.size := by simp [one1, tl]
        have hszn : x.cps.size = (tl x).length := by simp [tl]
        refine loopN ((W _ hh3).toS) s.heap.objs.size
          hSf (one1 (tl x)) hsz (by rw [hszn]; exact hn) (fun i v h => sign_one h) (x.cps.size - 0) 0 _ (by omega) (Nat.zero_le _)
          hst ?hS0 ?hR
        case hS0 =>
          have hget : ((s.heap.push { cls := .type "set", dict := none, data := .set #[] 0 (.fresh 0 0 led) }).push o).get? s.heap.objs.size
              = some { cls := .type "set", dict := none, data := .set #[] 0 (.fresh 0 0 led) } := Heap.get?_push_of_some _ hS
          exact PyProof.Rows.SetOf_congr ((PyProof.Rows.setObjOf_fresh (knd := PySem.strKind prog w) led).setOf hget (by unfold scanBound; omega)) (fun _ => rfl) rfl
        case hR =>
          intro s' hm hS'
          obtain ⟨h', g', d', tk', os'⟩ := s'
          have eg : g' = s.gens := hm.gens
          have ed : d' = s.drawn := hm.drawn
          have eo : os' = s.os := hm.os
          subst eg; subst ed; subst eo
          show wpAny _ _ _ _ _ _
          refine wpAny_pure ?_
          show wpAny _ _ (ret Value.none) _ _ _
          refine wpAny_pure ⟨rfl, h', tk', rfl, hS', fun b o hb e => ?_⟩
          have hb1 : b ≠ s.heap.objs.size := Nat.ne_of_lt hb
          have hb2 : b ≠ (s.heap.push { cls := .type "set", dict := none, data := .set #[] 0 (.fresh 0 0 led) }).objs.size := by
            rw [Heap.size_push]; exact Nat.ne_of_lt (Nat.lt_succ_of_lt hb)
          exact hm.heap b o (by simp only [List.mem_cons, List.mem_singleton, List.not_mem_nil, or_false, not_or]; exact ⟨hb1, hb2⟩) (Heap.get?_push_of_some _ (Heap.get?_push_of_some _ e))
      · cases r₂ with
        | error e => exact hr₂
        | ok fl₂ =>
          cases fl₂ with
          | ret r =>
            obtain ⟨rfl, h', tk, rfl, hS', hk'⟩ := hr₂
            repeat (any_goals (first | assumption | wp_step))
            exact h _ _ hS' hk'
          | _ => exact hr₂.elim
    | _ => exact hr.elim
end
end Ta

set_option Elab.async false
set_option linter.all false
set_option maxRecDepth 100000
set_option maxHeartbeats 3200000
namespace Ta
open PySem PySem.Spec PyProof.Rows L2
theorem dn_map {α β : Type} [BEq α] [LawfulBEq α] [BEq β] [LawfulBEq β] (f : α → β) (hf : ∀ x y, f x = f y → x = y) (l : List α) : dn (l.map f) = dn l := by
  suffices h : ∀ m : List α, dn (m.reverse.map f) = dn m.reverse by
    have z := h l.reverse
    rw [List.reverse_reverse] at z
    exact z
  intro m
  induction m with
  | nil => simp [dn]
  | cons x m ih =>
    rw [List.reverse_cons, List.map_append, List.map_cons, List.map_nil, dn_snoc, dn_snoc, ih]
    have e : ((m.reverse.map f).any fun y => y == f x) = (m.reverse.any fun y => y == x) := by
      rw [List.any_map]
      congr 1
      funext y
      show (f y == f x) = (y == x)
      by_cases e : y = x
      · subst e; rw [beq_self_eq_true, beq_self_eq_true]
      · rw [beq_eq_false_iff_ne.mpr e, beq_eq_false_iff_ne.mpr fun z => e (hf _ _ z)]
    rw [e]
theorem S1_inj (x y : Nat) (h : S [x] = S [y]) : x = y := by
  injection h with h
  injection h with h
  injection h
def zLset (x : V) (H : Hp) (Q : VK) : Prop := match x with
  | .str z => (tl z).length < 4000 ∧ Q (.int (dn (tl z))) H
  | _ => False
def tLset (ta : TE) : TE := fun σ H Q => ta σ H fun x H1 => zLset x H1 Q
section
variable {X : Cx}
theorem plset {a : Expr} {ta : TE} {p p2 q pos : Pos} (hc : X.calm = true) (hm : X.mg "len" = none) (hm2 : X.mg "set" = none) (ha : PE X a ta) (hg : Gl X "len" := by rfl) (hg2 : Gl X "set" := by rfl)
    (na : starEach [a] X.env = (false, eval a X.env) :: starEach [] X.env := by rfl) : PE X (.Call (.Name "len" p) [.Call (.Name "set" p2) [a] [] q] [] pos) (tLset ta) := by
  refine ⟨fun pins s σ H Q I h => ?_⟩
  refine Call_ (ld_blt I hg hm boot_len ?_)
  refine PyProof.Rows.callWith_builtin1 (PyProof.Rows.args_cons ?_ rfl) rfl rfl
  refine Call_ (ld_blt I hg2 hm2 boot_set ?_)
  refine PyProof.Rows.callWith_type1 (PyProof.Rows.args_cons (thn (ha.run pins s σ H _ I h) fun v s1 ⟨x, H1, I1, r1, q1⟩ => PyProof.Rows.args_nil ?_) na) na rfl
  cases x with
  | str z =>
    obtain ⟨h1, q1⟩ := q1
    obtain ⟨t, rfl⟩ := r1
    refine call_set_text (I1.ok.hd hc) (by unfold scanBound; omega) fun h' tk hS hk => ?_
    refine PyProof.Rows.args_nil ?_
    have edn : dn (one1 (tl z)) = dn (tl z) := dn_map _ S1_inj _
    have hle := dn_le (tl z)
    obtain ⟨o, es, ep, t, ho, hex, hd, _, _, _, hf, hn⟩ := hS
    have I2 : Inv X pins σ H1 { s1 with heap := h', toks := tk } := I1.kept fun b o e => hk b o (Heap.lt_size e) e
    refine call_len_set ho hex hd hf (by rw [hn, edn]; omega) ⟨.int (dn (tl z)), H1, I2.tok _, ⟨_, by rw [hn, edn]⟩, q1⟩
  | _ => exact False.elim q1
end

/-! ### sorted(text) -/
def srt (l : List Nat) : List Nat := l.mergeSort fun a b => decide (a ≤ b)
theorem srt_perm (l : List Nat) : (srt l).Perm l := List.mergeSort_perm _ _
theorem srt_pw (l : List Nat) : (srt l).Pairwise (· ≤ ·) := by
  have h := List.pairwise_mergeSort (le := fun a b : Nat => decide (a ≤ b)) (fun a b c h1 h2 => by simp at *; omega) (fun a b => by simp; omega) l
  exact h.imp fun z => by simpa using z
theorem srt_uniq {l m : List Nat} (h : m.Perm l) (hp : m.Pairwise (· ≤ ·)) : m = srt l :=
  List.Perm.eq_of_pairwise (fun _ _ _ _ a b => Nat.le_antisymm a b) hp (srt_pw l) (h.trans (srt_perm l).symm)
def sgn (l : List Nat) : List V := l.map fun c => V.str (S [c])
theorem perm_map_inv {α β : Type} {f : α → β} : ∀ {l : List α} {m : List β}, m.Perm (l.map f) → ∃ l' : List α, m = l'.map f ∧ l'.Perm l := by
  intro l m h
  generalize e : l.map f = k at h
  induction h generalizing l with
  | nil => exact ⟨[], rfl, by simp at e; subst e; exact .nil⟩
  | cons x h ih =>
    cases l with
    | nil => cases e
    | cons y l =>
      injection e with e1 e2
      obtain ⟨l', h1, h2⟩ := ih e2
      exact ⟨y :: l', by rw [h1, ← e1]; rfl, h2.cons y⟩
  | swap x y t =>
    cases l with
    | nil => cases e
    | cons a l => cases l with
      | nil => cases e
      | cons b l =>
        injection e with e1 e2
        injection e2 with e2 e3
        exact ⟨b :: a :: l, by rw [List.map_cons, List.map_cons, e1, e2, e3], .swap a b l⟩
  | trans h1 h2 ih1 ih2 =>
    obtain ⟨l1, e1, p1⟩ := ih2 e
    obtain ⟨l2, e2, p2⟩ := ih1 e1.symm
    exact ⟨l2, e2, p2.trans p1⟩
theorem rising_one : ∀ (l : List Nat) (a : Nat), risingS (S [a]) (l.map fun c => S [c]) = true → l.Pairwise (· ≤ ·) ∧ ∀ b ∈ l, a ≤ b
  | [], a, _ => ⟨.nil, fun _ h => nomatch h⟩
  | b :: l, a, h => by
    simp only [List.map_cons, risingS, Bool.and_eq_true] at h
    obtain ⟨h1, h2⟩ := h
    obtain ⟨i1, i2⟩ := rising_one l b h2
    have hab : a ≤ b := by
      have z : ltCps [b] [a] = false := by simpa using h1
      unfold ltCps at z
      apply Decidable.byContradiction
      intro hc
      have : b < a := by omega
      simp [this] at z
    refine ⟨.cons i2 i1, fun c hc => ?_⟩
    rcases List.mem_cons.mp hc with rfl | hc
    · exact hab
    · exact Nat.le_trans hab (i2 c hc)
theorem sorted_one (l : List Nat) (h : sortedS (l.map fun c => S [c]) = true) : l.Pairwise (· ≤ ·) := by
  cases l with
  | nil => exact .nil
  | cons a l => exact .cons (rising_one l a h).2 (rising_one l a h).1
def zSrt1 (x : V) (H : Hp) (Q : VK) : Prop := match x with
  | .str z => (tl z).length < 64 ∧ ∀ p, H p = none → Q (.ref p) (upd H p (.lst (sgn (srt (tl z)))))
  | _ => False
def zSort1 : List V → Hp → VK → Prop := fun xs H Q => one xs fun x => zSrt1 x H Q
section
variable {X : Cx}
theorem crsort (hcalm : X.calm = true) : CallR X (.builtin "sorted") zSort1 := by
  intro pins s σ H xs us Q I r q
  obtain ⟨x, rfl, q⟩ := one_e q
  obtain ⟨u, eu, rx⟩ := vals1 r
  subst eu
  cases x with
  | str z =>
    obtain ⟨h64, q⟩ := q
    obtain ⟨t, rfl⟩ := rx
    refine Calls.call_function_entry PyProof.Rows.kind_sorted PyProof.Rows.plain_sorted PyProof.Rows.entry_sorted (PyProof.Rows.args_sorted1 _) ?_
    unfold Builtin.«sorted»
    refine wpAny_bind (m := checkCount "sorted" 1 1 _) (wpAny_pure ?_)
    have hsz : z.cps.size = (tl z).length := by simp [tl]
    refine wpAny_bind (wpAny_collect_str (A := X.A.in1) (I.ok.hd hcalm) z t (fun s' acc hk hg hd ho hacc => ?_) (by rw [hsz, sizeLine_eq]; omega))
    obtain ⟨h', g', d', tk, os'⟩ := s'
    simp only at hk hg hd ho
    subst hg; subst hd; subst ho
    have hal : acc.toList.length = (one1 (tl z)).length := by rw [Array.length_toList, hacc.1, hsz]; simp [one1]
    have hS : StrsAre acc.toList (one1 (tl z)) := L2.strs_at hal fun j v e => by
      obtain ⟨c, u, e1, e2⟩ := hacc.2 j v (by rw [← Array.getElem?_toList]; exact e)
      exact ⟨S [c], u, by simp [one1, tl, e1], e2⟩
    have hal2 : acc.toList.length < 64 := by rw [hal]; simpa [one1] using h64
    have I1 : Inv X pins σ H { s with heap := h', toks := tk } := I.kept hk
    refine wpAny_bind (wpAny_newList ?_ (by rw [sizeLine_eq]; omega))
    have hoL : (h'.push (seqObj "list" acc.toList.toArray 0)).get? h'.objs.size = some (seqObj "list" acc.toList.toArray 0) := Heap.get?_push_size _ rfl
    show wpAny _ _ _ _ _ { s with heap := h'.push (seqObj "list" acc.toList.toArray 0), toks := tk }
    refine wpAny_bind (wpAny_holding (wpAny_call_entry PyProof.Rows.slot_list_sort ⟨_, hoL, rfl⟩ PyProof.Rows.entry_list_sort
      (list_sort_treeK strKind_oneLt (s := { s with heap := h'.push (seqObj "list" acc.toList.toArray 0), toks := tk }) hoL hS.keysOf (fun v₁ v₂ rest e => keyKind_strs (by rw [← e]; exact hS)) hal2 fun st' hp hs => ⟨_, rfl, ?_⟩)
      (PyProof.Rows.args_list_sort _)))
    obtain ⟨ys, g1, g2, g3⟩ := sorted_out_str hS hp hs
    obtain ⟨e', he'⟩ := PyProof.Rows.sortedHeap_at (vs := acc.toList) (out := (arrOf st').map (·.2)) hoL
    obtain ⟨l', rfl, pl⟩ := perm_map_inv g2
    have el : l' = srt (tl z) := srt_uniq pl (sorted_one l' g3)
    subst el
    have hlen : (sgn (srt (tl z))).length ≤ sizeLine := by
      unfold sgn
      rw [List.length_map, (srt_perm _).length_eq, sizeLine_eq]; omega
    have ev : ((srt (tl z)).map fun c => S [c]).map V.str = sgn (srt (tl z)) := by unfold sgn; rw [List.map_map]; rfl
    refine wpAny_pure ⟨_, rfl, .ref h'.objs.size, upd H h'.objs.size (.lst (sgn (srt (tl z)))), I1.laid (t' := tk) (fun b u e => ?_) (Nat.le_refl _)
      (show ObjOk X.prog X.w _ _ _ (.lst (sgn (srt (tl z)))) from ⟨hlen, ((arrOf st').map (·.2)).toList, e', by rw [← ev]; exact vals_of_strs g1, by rw [Array.toArray_toList]; exact he'⟩), rfl, q _ (I1.hok.fresh (Nat.le_refl _))⟩
    have hb : b < h'.objs.size := Heap.lt_size e
    rw [PyProof.Rows.sortedHeap_old (Nat.ne_of_lt hb) (by rw [size_push']; exact Nat.lt_succ_of_lt hb)]
    exact Heap.get?_push_of_some _ e
  | _ => exact False.elim q
end
end Ta

set_option Elab.async false
set_option linter.all false
set_option maxRecDepth 100000
set_option maxHeartbeats 3200000
namespace Ta
open PySem PySem.Spec PyProof.Rows L2

/-! ### own == of two instances of one class -/
def zOwn (C : Addr) (sp : Sp) : R2 := fun x y H Q => match x with
  | .ref a => (match y with
    | .ref b => look H a fun o => (match o with
      | some (.ins C1 dx fs) => look H b fun o' => (match o' with
        | some (.ins C2 dy gs) => C1 = C ∧ C2 = C ∧ sp [.ref a, .ref b] H (fun v H' => ∃ k, v = .bl k ∧ Q (.bl k) H') fun _ _ _ => False
        | _ => False)
      | _ => False)
    | _ => False)
  | _ => False
theorem zOwn_e {C : Addr} {sp : Sp} {x y : V} {H : Hp} {Q : VK} (h : zOwn C sp x y H Q) : ∃ a b dx fs dy gs, x = .ref a ∧ y = .ref b ∧ H a = some (.ins C dx fs) ∧ H b = some (.ins C dy gs) ∧ sp [.ref a, .ref b] H (fun v H' => ∃ k, v = .bl k ∧ Q (.bl k) H') fun _ _ _ => False := by
  cases x with
  | ref a =>
    cases y with
    | ref b =>
      have h := look_e h
      cases ea : H a with
      | none => rw [ea] at h; exact h.elim
      | some o =>
        rw [ea] at h
        cases o with
        | ins C1 dx fs =>
          have h := look_e h
          cases eb : H b with
          | none => rw [eb] at h; exact h.elim
          | some o' =>
            rw [eb] at h
            cases o' with
            | ins C2 dy gs =>
              obtain ⟨e1, e2, h3⟩ := h
              subst e1
              subst e2
              exact ⟨a, b, dx, fs, dy, gs, rfl, rfl, ea, eb, h3⟩
            | _ => exact h.elim
        | _ => exact h.elim
    | _ => exact h.elim
  | _ => exact h.elim
section
variable {X : Cx}
theorem opown {C : Addr} {lv : Nat} {sp : Sp} (M : Me X.prog X.w X.K X.mg X.base C "__eq__" lv [] sp) (hr : Room lv X.A) : OpR X (compareOp .Eq) (zOwn C sp) := by
  intro pins s σ H x y v u Q I rx ry h
  obtain ⟨a, b, dx, fs, dy, gs, rfl, rfl, ha, hb', h⟩ := zOwn_e h
  cases rx
  cases ry
  obtain ⟨⟨f, fd, ps, ds, F, hm, hd, hb⟩, cl⟩ := M
  cases hd
  obtain ⟨mA, J, _⟩ := ins_get I.hok ha
  obtain ⟨mB, J', _⟩ := ins_get I.hok hb'
  obtain ⟨od, J, _⟩ := J.look
  obtain ⟨od', J', _⟩ := J'.look
  obtain ⟨m, hF⟩ := I.fr
  show wpAny (model X.prog X.w) X.A (richCompare .Eq (.ref a) (.ref b)) (EP X pins σ Q) X.xe s
  refine PySem.W.cmp_K (op := .Eq) (tb := .ref C) hr.units0 hF I.ok.mod.kin J J'.type (by simp [PySem.W.notFirst]) hm.at_ hm.fn ?_
  have r2 : Vals [V.ref a, V.ref b] [Value.ref a, Value.ref b] := .cons rfl (.cons rfl .nil)
  refine wpAny_mono (run_fnSD (E := WE WF) (us := [.ref a, .ref b]) (vs := [.ref a, .ref b]) (Q := fun v H' => ∃ k, v = .bl k ∧ Q (.bl k) H') F hr hb .nil (passAt takes0 σ) I r2 h) (fun r s' q => ?_) fun _ _ z => z
  obtain ⟨z, H', I', rz, k, rfl, q⟩ := q
  cases rz
  exact ⟨.bl k, H', I', rfl, q⟩
theorem names_of {x : Str} {C : Addr} (h : GlobV X.mg x (.ref C)) (hg : Gl X x := by rfl) (hdb : (x == ("__debug__" : Str)) = false := by decide +kernel) : Names X x (.ref C) := by
  obtain ⟨u, hm, r⟩ := h.ex
  cases (show u = Value.ref C from r)
  exact ⟨hg, hdb, .inl hm⟩
end

/-! ### the clause of a try -/
theorem was_t {K : PySem.W.Frag} {c : Value} {i : Nat} {ts : Addr → Value → Option Addr → TS} {Wout : WX} {D : Ends} {cls : Value} {d : Option Addr} {σ : St} {H : Hp} (h : PySem.W.exmOne K cls c = some true)
    (q : ∀ a, H a = none → ts a cls d { nx := fun σ' H' => D.nx (σ'.set i none) H', rt := D.rt, bk := fun σ' H' => D.bk (σ'.set i none) H', ct := fun σ' H' => D.ct (σ'.set i none) H' } (σ.set i (some (.ref a))) H) : wAs K c i ts Wout D cls d σ H :=
  ⟨true, h, fun _ => q, (fun z => by cases z)⟩
theorem was_f {K : PySem.W.Frag} {c : Value} {i : Nat} {ts : Addr → Value → Option Addr → TS} {Wout : WX} {D : Ends} {cls : Value} {d : Option Addr} {σ : St} {H : Hp} (h : PySem.W.exmOne K cls c = some false)
    (q : Wout cls d σ H) : wAs K c i ts Wout D cls d σ H :=
  ⟨false, h, (fun z => by cases z), fun _ => q⟩

/-! ### heaps -/
/-- H' keeps what H has, but for F -/
def Kp (F : List Addr) (H H' : Hp) : Prop := ∀ q o, H q = some o → q ∉ F → H' q = some o
theorem Kp.rfl' {F : List Addr} {H : Hp} : Kp F H H := fun _ _ h _ => h
theorem Kp.trans {F : List Addr} {H H1 H2 : Hp} (a : Kp F H H1) (b : Kp F H1 H2) : Kp F H H2 := fun q o h n => b q o (a q o h n) n
theorem Kp.mono {F F' : List Addr} {H H' : Hp} (a : Kp F H H') (h : ∀ q ∈ F, q ∈ F') : Kp F' H H' := fun q o e n => a q o e fun z => n (h q z)
theorem Kp.nil {F : List Addr} {H H' : Hp} (a : Kp [] H H') : Kp F H H' := a.mono fun _ z => nomatch z
theorem Kp.new {F : List Addr} {H H1 : Hp} {p : Addr} {o : HO} (a : Kp F H H1) (h : H1 p = none) : Kp F H (upd H1 p o) := fun q o' e n => by
  have z := a q o' e n
  rw [upd_ne (ne_of_none z h)]; exact z
theorem Kp.at {F : List Addr} {H H1 : Hp} {p : Addr} {o : HO} (a : Kp F H H1) (h : p ∈ F) : Kp F H (upd H1 p o) := fun q o' e n => by
  have hne : q ≠ p := fun z => n (by rw [z]; exact h)
  rw [upd_ne hne]; exact a q o' e n
theorem Kp.own {F : List Addr} {H H1 : Hp} {p : Addr} {o : HO} (a : Kp F H H1) (h : H p = none) : Kp F H (upd H1 p o) := fun q o' e n => by
  rw [upd_ne (ne_of_none e h)]; exact a q o' e n
theorem upd_at {H : Hp} {p : Addr} {o : HO} : upd H p o p = some o := by unfold upd; rw [if_pos rfl]
theorem upd_fr {H : Hp} {p q : Addr} {o o' : HO} (h : H p = none) (hq : H q = some o) : upd H p o' q = some o := by rw [upd_ne (ne_of_none hq h)]; exact hq
theorem upd_off {H : Hp} {p q : Addr} {o o' : HO} (h : q ≠ p) (hq : H q = some o) : upd H p o' q = some o := by rw [upd_ne h]; exact hq
theorem upd_tw {H : Hp} {p : Addr} {o o' : HO} : upd (upd H p o) p o' = upd H p o' := by
  funext q; unfold upd; split <;> rfl
theorem mem1 {F : List Addr} {q : Addr} (h : ∀ x ∈ F, q ≠ x) : q ∉ F := fun z => h q z rfl
theorem ne_none {H : Hp} {p q : Addr} {o : HO} (h : H q = some o) (hp : H p = none) : q ≠ p := ne_of_none h hp
theorem ne_none' {H : Hp} {p q : Addr} {o : HO} (h : H q = some o) (hp : H p = none) : p ≠ q := (ne_of_none h hp).symm
theorem Kp.get {F : List Addr} {H H' : Hp} {q : Addr} {o : HO} (a : Kp F H H') (h : H q = some o) (n : q ∉ F) : H' q = some o := a q o h n
theorem Kp.get0 {H H' : Hp} {q : Addr} {o : HO} (a : Kp [] H H') (h : H q = some o) : H' q = some o := a q o h fun z => nomatch z
theorem Kp.get1 {p : Addr} {H H' : Hp} {q : Addr} {o : HO} (a : Kp [p] H H') (h : H q = some o) (n : q ≠ p) : H' q = some o := a q o h fun z => n (List.mem_singleton.mp z)
/-- a side goal, left to the end -/
structure Sd (p : Prop) : Prop where
  out : p
theorem sd_i {p : Prop} (h : p) : Sd p := by refine ⟨?_⟩; exact h
theorem sd_e {p : Prop} (h : Sd p) : p := by replace h := h.out; exact h
theorem cnd_d {c : Prop} [Decidable c] {p q : Prop} (h1 : c → p) (h2 : ¬ c → q) : cnd (decide c) p q := cnd_i (fun h => h1 (of_decide_eq_true h)) (fun h => h2 (of_decide_eq_false h))
theorem cnd_n {c : Bool} {p q : Prop} (h : cnd c q p) : cnd (!c) p q := by
  replace h := h.out; refine ⟨?_⟩
  cases c <;> exact h

/-! ### [c for c in text if test] -/
theorem filter_take {l : List Nat} {f : Nat → Bool} {k c : Nat} (h : l[k]? = some c) : (l.take (k + 1)).filter f = (l.take k).filter f ++ (if f c = true then [c] else []) := by
  rw [List.take_succ, h]
  simp [List.filter_append, List.filter_cons]
theorem lcp_g {n : Nat} {it : Itm} {st : Hp → Prop} {l : List Nat} {i : Nat} {tt : TT} {te : TE} {σ : St} {H1 : Hp} {Q : VK} {vs : List Nat} (hn : n = l.length) (hit : ∀ k H x H', it k H x H' → H' = H ∧ ∃ c, l[k]? = some c ∧ x = .str (S [c])) (hst : ∀ D xs, H1 D = none → st (upd H1 D (.lst xs)))
    (f : Nat → Bool) (hl : l.length < 1000000) (ht : ∀ c D H' Q', H1 D = none → c ∈ l → (∃ xs, H' = upd H1 D (.lst xs)) → Q' (f c) H' → tt ((wipe σ vs).set i (some (.str (S [c])))) H' Q')
    (he : ∀ c H' Q', Q' (.str (S [c])) H' → te ((wipe σ vs).set i (some (.str (S [c])))) H' Q')
    (hw : ∀ v, wipe ((wipe σ vs).set i v) vs = wipe σ vs) (q : ∀ D, H1 D = none → Q (.ref D) (upd H1 D (.lst (sgn (l.filter f))))) : lcp n it st (gName i) tt te vs σ H1 Q := by
  subst hn
  refine lcp_i (fun D k H => H = upd H1 D (.lst (sgn ((l.take k).filter f)))) (fun D hD => rfl) (fun D k H hD _ e => by rw [e]; exact hst D _ hD) ?_ ?_
  · rintro D k x H H' hD hk rfl hi
    obtain ⟨rfl, c, hc, rfl⟩ := hit _ _ _ _ hi
    refine ⟨hw _, ht c D _ _ hD (List.mem_of_getElem? hc) ⟨_, rfl⟩ ?_⟩
    cases e : f c with
    | true =>
      rw [if_pos rfl]
      refine he c _ _ ⟨_, upd_at, ?_, ?_⟩
      · unfold sgn
        rw [List.length_map, sizeLine_eq]
        have h1 := List.length_filter_le f (l.take k)
        rw [List.length_take] at h1
        omega
      · rw [upd_tw, filter_take hc, e, if_pos rfl]
        unfold sgn
        rw [List.map_append]
        rfl
    | false =>
      rw [if_neg (by simp), filter_take hc, e, if_neg (by simp), List.append_nil]
  · rintro D H hD rfl
    rw [List.take_length]
    exact q D hD
theorem lcp_f {l : List Nat} {i : Nat} {tt : TT} {te : TE} {σ : St} {H1 : Hp} {Q : VK} {vs : List Nat} (f : Nat → Bool) (hl : l.length < 1000000)
    (ht : ∀ c D H' Q', H1 D = none → c ∈ l → (∃ xs, H' = upd H1 D (.lst xs)) → Q' (f c) H' → tt ((wipe σ vs).set i (some (.str (S [c])))) H' Q')
    (he : ∀ c H' Q', Q' (.str (S [c])) H' → te ((wipe σ vs).set i (some (.str (S [c])))) H' Q')
    (hw : ∀ v, wipe ((wipe σ vs).set i v) vs = wipe σ vs) (q : ∀ D, H1 D = none → Q (.ref D) (upd H1 D (.lst (sgn (l.filter f))))) : lcp l.length (itS l) (fun _ => True) (gName i) tt te vs σ H1 Q :=
  lcp_g rfl (fun _ _ _ _ h => h) (fun _ _ _ => trivial) f hl ht he hw q
theorem lcp_l {l : List Nat} {p : Addr} {i : Nat} {tt : TT} {te : TE} {σ : St} {H1 : Hp} {Q : VK} {vs : List Nat} (hp : H1 p = some (.lst (sgn l))) (f : Nat → Bool) (hl : l.length < 1000000)
    (ht : ∀ c D H' Q', H1 D = none → c ∈ l → (∃ xs, H' = upd H1 D (.lst xs)) → Q' (f c) H' → tt ((wipe σ vs).set i (some (.str (S [c])))) H' Q')
    (he : ∀ c H' Q', Q' (.str (S [c])) H' → te ((wipe σ vs).set i (some (.str (S [c])))) H' Q')
    (hw : ∀ v, wipe ((wipe σ vs).set i v) vs = wipe σ vs) (q : ∀ D, H1 D = none → Q (.ref D) (upd H1 D (.lst (sgn (l.filter f))))) : lcp (sgn l).length (itL (sgn l)) (fun H' => H' p = some (.lst (sgn l))) (gName i) tt te vs σ H1 Q := by
  refine lcp_g (l := l) (by unfold sgn; rw [List.length_map]) (fun k H x H' h => ⟨h.1, ?_⟩) (fun D xs hD => upd_fr hD hp) f hl ht he hw q
  have h2 := h.2
  unfold sgn at h2
  rw [List.getElem?_map] at h2
  cases e : l[k]? with
  | none => rw [e] at h2; cases h2
  | some c => rw [e] at h2; exact ⟨c, rfl, (Option.some.inj h2).symm⟩
theorem upd_self {H : Hp} {p : Addr} {o : HO} (h : H p = some o) : upd H p o = H := by
  funext q; unfold upd; split
  · rename_i e; rw [e, h]
  · rfl

theorem joinL_one : ∀ l : List Nat, TL.joinL [] (l.map fun c => [c]) = l
  | [] => rfl
  | [a] => rfl
  | a :: b :: l => by
    have ih := joinL_one (b :: l)
    show [a] ++ [] ++ TL.joinL [] ((b :: l).map fun c => [c]) = _
    rw [ih]
    rfl
theorem sum_one (l : List Nat) : ((l.map fun c => [c]).map List.length).sum = l.length := by
  induction l with
  | nil => rfl
  | cons a l ih => simp only [List.map_cons, List.sum_cons, ih, List.length_cons, List.length_nil]; omega
theorem joi_i {l : List Nat} {k : List Nat → Prop} (h : l.length ≤ 1000000) (q : k l) : joi (sgn l) (tl (S [])) k := by
  refine ⟨?_⟩
  refine ⟨l.map fun c => [c], by unfold sgn; rw [List.map_map]; rfl, ?_, ?_⟩
  · rw [sum_one, List.length_map]
    show _ + _ * 0 ≤ _
    omega
  · show k (TL.joinL [] _)
    rw [joinL_one]; exact q
theorem sgn_len (l : List Nat) : (sgn l).length = l.length := by unfold sgn; rw [List.length_map]
theorem srt_len (l : List Nat) : (srt l).length = l.length := (srt_perm l).length_eq
theorem sgn_fe (l : List Nat) (f : Nat → Bool) : (sgn (l.filter f)).isEmpty = !l.any f := by
  induction l with
  | nil => rfl
  | cons a l ih =>
    rw [List.filter_cons, List.any_cons]
    cases f a with
    | true => rfl
    | false => exact ih

theorem itm_s {α : Type} {l : List α} {i : Int} {k : α → Prop} (h0 : 0 ≤ i) (h1 : i < (l.length : Int)) (q : ∀ (j : Nat) (hj : j < l.length), i = (j : Int) → k l[j]) : itm l i k := by
  obtain ⟨j, rfl⟩ := Int.eq_ofNat_of_zero_le h0
  have hj : j < l.length := by omega
  exact itm_n rfl (List.getElem?_eq_getElem hj) (q j hj rfl)
theorem perm_out {l r : List Nat} {j : Nat} (hj : j < r.length) : ((l ++ [r[j]]) ++ (r.take j ++ r.drop (j + 1))).Perm (l ++ r) := by
  have e : r = r.take j ++ r[j] :: r.drop (j + 1) := by
    rw [List.getElem_cons_drop, List.take_append_drop]
  have h1 : (r[j] :: (r.take j ++ r.drop (j + 1))).Perm r := by
    refine List.Perm.trans ?_ (List.Perm.of_eq e.symm)
    exact List.perm_middle.symm
  rw [List.append_assoc]
  exact h1.append_left l
theorem dn_nodup (l : List Nat) : dn l = l.length ↔ l.Nodup := by
  suffices h : ∀ m : List Nat, dn m.reverse = m.reverse.length ↔ m.reverse.Nodup by
    have z := h l.reverse
    rw [List.reverse_reverse] at z
    exact z
  intro m
  induction m with
  | nil => simp [dn]
  | cons x m ih =>
    rw [List.reverse_cons, dn_snoc, List.length_append, List.nodup_append]
    have hle := dn_le m.reverse
    have ea : (m.reverse.any fun y => y == x) = decide (x ∈ m.reverse) := by
      rw [Bool.eq_iff_iff]; simp
    rw [ea]
    by_cases hx : x ∈ m.reverse
    · rw [if_pos (decide_eq_true hx)]
      constructor
      · intro h; simp at h hle; omega
      · rintro ⟨_, _, h⟩
        exact absurd rfl (h x hx x (List.mem_singleton.mpr rfl))
    · rw [if_neg (by simpa using hx)]
      constructor
      · intro h
        refine ⟨ih.mp (by simp at h ⊢; omega), by simp, fun a ha b hb => ?_⟩
        rw [List.mem_singleton.mp hb]
        exact fun e => hx (e ▸ ha)
      · rintro ⟨h, _, _⟩
        rw [ih.mpr h]; rfl

theorem Kp.made {F : List Addr} {H H' : Hp} {x dx : Addr} {o1 o2 : HO} (hx : H x = none) (hdx : H dx = none) (k : Kp (x :: F) (upd (upd H dx o1) x o2) H') : Kp F H H' := fun q o e n => by
  have n1 : q ≠ x := ne_of_none e hx
  have n2 : q ≠ dx := ne_of_none e hdx
  refine k q o (by rw [upd_ne n1, upd_ne n2]; exact e) fun z => ?_
  rcases List.mem_cons.mp z with z | z
  · exact n1 z
  · exact n z

theorem upd_tw2 {H : Hp} {p : Addr} {o o1 o2 : HO} : upd (upd (upd H p o) p o1) p o2 = upd H p o2 := by rw [upd_tw, upd_tw]
theorem upd_tw3 {H : Hp} {p : Addr} {o o1 o2 o3 : HO} : upd (upd (upd (upd H p o) p o1) p o2) p o3 = upd H p o3 := by rw [upd_tw, upd_tw, upd_tw]
theorem upd_tw4 {H : Hp} {p : Addr} {o o1 o2 o3 o4 : HO} : upd (upd (upd (upd (upd H p o) p o1) p o2) p o3) p o4 = upd H p o4 := by rw [upd_tw, upd_tw, upd_tw, upd_tw]
/-- a loop that changes nothing but its own name -/
theorem loop_c {n k : Nat} {it : Itm} {st : Hp → Prop} {tb : TS} {D : Ends} {σ : St} {H : Hp} (h0 : st H) (hit : ∀ i H x H', it i H x H' → H' = H) (hk : ∃ v0, σ.set k v0 = σ)
    (hs : ∀ i x v, i < n → it i H x H → tb { D with nx := fun σ' H' => Sd (∃ v', σ' = σ.set k v' ∧ H' = H), ct := fun σ' H' => Sd (∃ v', σ' = σ.set k v' ∧ H' = H), bk := D.nx } ((σ.set k v).set k (some x)) H) (hd : ∀ v, D.nx (σ.set k v) H) : loop n it st (gName k) tb D σ H := by
  obtain ⟨v0, hv0⟩ := hk
  refine loop_i (fun _ σ' H' => Sd (∃ v', σ' = σ.set k v' ∧ H' = H)) (sd_i ⟨v0, hv0.symm, rfl⟩) ?_ ?_ ?_
  · intro i σ' H' _ h
    obtain ⟨v', _, rfl⟩ := sd_e h
    exact h0
  · intro i x σ' H' H'' hi h hI
    obtain ⟨v', rfl, rfl⟩ := sd_e h
    obtain rfl := hit _ _ _ _ hI
    exact hs i x v' hi hI
  · intro σ' H' h
    obtain ⟨v', rfl, rfl⟩ := sd_e h
    exact hd v'

theorem Kp.none {H H' : Hp} {q : Addr} (k : Kp [] H H') (h : H' q = none) : H q = none := by
  cases e : H q with
  | none => rfl
  | some o => rw [k.get0 e] at h; cases h
end Ta

set_option Elab.async false
set_option linter.all false
set_option maxRecDepth 100000
set_option maxHeartbeats 400000
namespace Ta
open PySem PySem.Spec PyProof.Rows L2

/-! ### locals at the code itself -/
def FT (X : Cx) (f : List (Str × Value)) (s : Shared) : Prop := ∃ m, s.heap.Ns X.env.locals m ∧ ∀ e ∈ f, m e.1 = some e.2
section
variable {X : Cx} {pins : List (Addr × Obj)} {σ : St} {H : Hp} {s s' : Shared} {ff : List (Str × Value)}
theorem FT.after {Q : VK} {u : Value} (h : FT X ff s) (I : Inv X pins σ H s) (c : CE X.stack X.prog X.w H s Q u s') : FT X ff s' := by
  obtain ⟨m, ⟨o, es, ep, ho, r⟩, hf⟩ := h
  obtain ⟨v, H', os, bare, un, hok, rr, q⟩ := c
  obtain ⟨sl, hL⟩ := un.any ho I.free (by simp)
  exact ⟨m, ⟨_, es, ep, hL, r⟩, hf⟩
theorem FT.nil (I : Inv X pins σ H s) : FT X [] s := by
  obtain ⟨m, hn, _⟩ := I.loc
  exact ⟨m, hn, fun _ z => nomatch z⟩
theorem run_fnF {CX : CXT} {k : Nat} {f : Addr} {fd : FuncData} {ps : List Str} {sp : Sp} {E : St → XK} {dvs : List V} {ds : List Value} {Q : VK} {us : List Value} {vs : List V} (F : FnOk X.prog X.w X.K X.mg X.base CX k f fd ps sp) (hr : Room k X.A) (hb : Binds X.K fd ps ds) (hd : Vals dvs ds) (hx : PassesAt CX X σ (E σ))
    (I : Inv X pins σ H s) (hF : FT X ff s) (r : Vals vs us) (h : sp (vs ++ dvs) H Q (E σ)) : wpAny (model X.prog X.w) X.A (call (.ref f) us) (fun u s' => EP X pins σ Q u s' ∧ FT X ff s') X.xe s := by
  have r2 : Vals (vs ++ dvs) (us ++ ds) := r.append hd
  have hl : (us ++ ds).length = ps.length := by rw [← r2.length]; exact F.len _ _ _ _ h
  refine wpAny_call (codeAny_mono (F.run X.A X.stack s H ⟨us, []⟩ (us ++ ds) (vs ++ dvs) Q (E σ) hr I.env0 (hb s us I.kIn hl) r2 h) fun r s' hq => ?_)
  cases r with
  | error e => exact hx pins H s e s' I hq
  | ok fl =>
    cases fl with
    | ret u => exact ⟨I.after hq, hF.after I hq⟩
    | next => exact False.elim hq
    | brk => exact False.elim hq
    | cont => exact False.elim hq
/-- s[take(box, len(s))] -/
def tPk (sp : Sp) (W : WX) (il ib : Nat) : TE := fun σ H Q => match σ[il]? with
  | some (some (.str z)) => (match σ[ib]? with
    | some (some bv) => Lim (tl z).length ∧ sp [bv, .int (tl z).length] H (fun v H' => match v with
      | .int i => itm (tl z) i fun c => Q (.str (S [c])) H'
      | _ => False) (fun c d H' => W c d σ H')
    | _ => False)
  | _ => False
theorem tPk_e {sp : Sp} {W : WX} {il ib : Nat} {Q : VK} (h : tPk sp W il ib σ H Q) : ∃ z bv, σ[il]? = some (some (.str z)) ∧ σ[ib]? = some (some bv) ∧ Lim (tl z).length ∧ sp [bv, .int (tl z).length] H (fun v H' => match v with
      | .int i => itm (tl z) i fun c => Q (.str (S [c])) H'
      | _ => False) (fun c d H' => W c d σ H') := by
  unfold tPk at h
  split at h
  · rename_i z e1
    split at h
    · rename_i bv e2
      exact ⟨z, bv, e1, e2, h⟩
    · exact h.elim
  · exact h.elim
theorem ev_pk {il ib lv : Nat} {l b tk : Str} {sp : Sp} {W : WX} {Q : VK} {p1 p2 p3 p4 p5 p6 p7 p8 : Pos} (F : Fn X.prog X.w X.K X.mg X.base tk lv [] sp) (hr : Room lv X.A) (tks : Takes X W) (hlen : X.mg "len" = none) (I : Inv X pins σ H s) (hF : FT X ff s) (h : tPk sp W il ib σ H Q)
    (hNl : X.N[il]? = some l) (hvl : Vis X.env.scope l) (hNb : X.N[ib]? = some b) (hvb : Vis X.env.scope b) (hg : Gl X tk) (hgl : Gl X "len") (hdt : (tk == ("__debug__" : Str)) = false) (hdl : (l == ("__debug__" : Str)) = false) (hcl : (l == ("__classdict__" : Str)) = false)
    (hdb : (b == ("__debug__" : Str)) = false) (hcb : (b == ("__classdict__" : Str)) = false)
    (hst : starEach [.Name b p3, .Call (.Name "len" p4) [.Name l p5] [] p6] X.env = [(false, eval (.Name b p3) X.env), (false, eval (.Call (.Name "len" p4) [.Name l p5] [] p6) X.env)])
    (hst1 : starEach [.Call (.Name "len" p4) [.Name l p5] [] p6] X.env = [(false, eval (.Call (.Name "len" p4) [.Name l p5] [] p6) X.env)])
    (hst2 : starEach [.Name l p5] X.env = [(false, eval (.Name l p5) X.env)])
    (hix : PlainIx (.Call (.Name tk p2) [.Name b p3, .Call (.Name "len" p4) [.Name l p5] [] p6] [] p7)) :
    wpAny (model X.prog X.w) X.A (eval (.Subscript (.Name l p1) (.Call (.Name tk p2) [.Name b p3, .Call (.Name "len" p4) [.Name l p5] [] p6] [] p7) p8) X.env)
      (fun u s' => ∃ (c : Nat) (t : Nat) (H' : Hp), u = .str (S [c]) t ∧ 1 ≤ t ∧ s.toks ≤ t ∧ t < s'.toks ∧ Inv X pins σ H' s' ∧ Q (.str (S [c])) H' ∧ FT X ff s') X.xe s := by
  obtain ⟨z, bv, e1, e2, hlim, h⟩ := tPk_e h
  obtain ⟨f, fd, ps, ds, F, hm, hk, hd, hb⟩ := F.ex
  cases hd
  refine Subscript_ (raw_name hNl hvl I e1 (fun v r => ?_) hdl hcl)
  obtain ⟨tz, rfl⟩ := r
  refine wpAny_Call_Name_kw (ld_glob I hg hm ?_ hdt)
  refine PySem.W.callWith_K (h₀ := X.base) I.ok.mod.kin hk ?_ (by rw [hst, hst1]) (by rw [hst1]; rfl)
  rw [hst]
  show wpAny _ _ (spliced ((false, eval (.Name b p3) X.env) :: backTo p7 [(false, eval (.Call (.Name "len" p4) [.Name l p5] [] p6) X.env)])) _ _ s
  refine Calls.spliced_cons (raw_name hNb hvb I e2 (fun ub rb => ?_) hdb hcb)
  show wpAny _ _ (spliced ((false, eval (.Call (.Name "len" p4) [.Name l p5] [] p6) X.env) :: backTo p7 [])) _ _ s
  refine Calls.spliced_cons ?_
  refine Call_ (ld_blt I hgl hlen boot_len ?_)
  refine PyProof.Rows.callWith_builtin1 (PyProof.Rows.args_cons (raw_name hNl hvl I e1 (fun v r => ?_) hdl hcl) (by rw [hst2]; rfl)) (by rw [hst2]; rfl) rfl
  obtain ⟨tz2, rfl⟩ := r
  refine PyProof.Rows.args_nil ?_
  have hn := line63
  have hz : z.length ≤ sizeLine := by rw [len_tl]; exact hlim
  refine len_str (by omega) ?_
  refine Calls.spliced_nil ⟨(I.tok _).kIn, ?_⟩
  have I1 : Inv X pins σ H { s with toks := s.toks + 1 + 1 } := I.tok _
  have rv : Vals [bv, .int (tl z).length] [ub, .int z.length (s.toks + 1)] := .cons rb (.cons ⟨_, by rw [len_tl]⟩ .nil)
  refine wpAny_mono (wpAny_toks_of (n := s.toks + 1 + 1) (Nat.le_refl _) (run_fnF (E := WE W) (ff := ff) (us := [ub, .int z.length (s.toks + 1)]) (vs := [bv, .int (tl z).length]) F hr hb .nil (passAt tks σ) I1 hF rv h)) (fun u s2 hq => ?_) fun _ _ z => z.2
  obtain ⟨hle, ⟨y, H2, I2, ry, q⟩, hF2⟩ := hq
  cases y with
  | int i =>
    obtain ⟨ti, rfl⟩ := ry
    obtain ⟨c, hat, q⟩ := itm_e q
    obtain ⟨j, h1, h2, h3, h4, h5⟩ := atI_get hat
    have hl : z.cps.toList.length = z.length := by simp [Str.length]
    rw [hl] at h1 h4 h5
    refine tail_any (typeIs_str s2 z tz) slot_str_getitem.lookup (getItem_str (c := c) (by
      have e1 : decide (i < -(2 ^ 63 : Int)) = false := decide_eq_false (by omega)
      have e2 : decide (i ≥ 2 ^ 63) = false := decide_eq_false (by omega)
      rw [e1, e2, Bool.or_false]) (by rw [h1]; simpa using h2) ?_) (hix _ _)
    exact ⟨c, s2.toks, H2, rfl, by omega, by omega, Nat.lt_succ_self _, I2.tok _, q, hF2⟩
  | _ => exact False.elim q
theorem store_F {M : Model} {A : Around} {E : Value → Shared → Prop} {i : Nat} {x : Str} {v : V} {u : Value} {Q : Unit → Shared → Prop} (I : Inv X pins σ H s) (hN : X.N.Nodup) (hi : X.N[i]? = some x) (hk : X.env.kindOf x = some .local) (r : RelV v u) (hF : FT X ff s) (hx : ∀ e ∈ ff, e.1 ≠ x)
    (h : ∀ s', Inv X pins (σ.set i (some v)) H s' → FT X ((x, u) :: ff) s' → s'.toks = s.toks + 1 → Q () s') : wpAny M A (storeName X.env x u) Q E s := by
  obtain ⟨m, hn, hl⟩ := id I.loc
  obtain ⟨m2, hn2, hf⟩ := hF
  have em : m2 = m := by
    obtain ⟨o, es, ep, ho, hd, _, r⟩ := hn
    obtain ⟨o2, es2, ep2, ho2, hd2, _, r2⟩ := hn2
    rw [ho] at ho2
    cases ho2
    rw [hd] at hd2
    cases hd2
    funext name
    rw [← r2 name, ← r name]
  subst em
  have hcls : (X.env.scope.kind == .class || (X.env.scope.kind == .module && X.env.locals != X.env.globals)) = false := by rw [I.ok.kind]; rfl
  have hiσ : i < σ.length := by rw [I.len]; exact (List.getElem?_eq_some_iff.mp hi).1
  have cne := I.cne
  have tracked : ∀ {a : Addr} {h' : Heap}, (∃ o, s.heap.get? a = some o ∧ H a = none) → Heap.SameBut a s.heap h' → HOk X.prog X.w H h' := fun {a h'} ha hs b ob e => by
    obtain ⟨_, _, hfree⟩ := ha
    refine (I.hok b ob e).stay (fun c w' hc q => (hs.2 c ?_).trans q) (fun _ q => q) fun _ _ q => q
    rintro rfl
    rcases hc with rfl | hc
    · rw [hfree] at e; cases e
    · rw [hfree] at hc; cases hc
  refine wpAny_storeName_local hk hn (fun h' hn' hs => ?_) hcls
  obtain ⟨oL, _, _, hoL, _⟩ := id hn
  refine h _ ⟨I.ok, I.os, I.bare, ⟨fun b o e n hb hx => ?_, fun b o e n hb hx => ?_, I.base.free, fun b o e hx => ?_, I.base.tups, I.base.frzs, I.base.tbls⟩, ⟨_, hn', fun j y v' e1 e2 e3 => ?_⟩, fun y c e => ?_, I.free, I.freeC, fun p hp => ?_, tracked ⟨oL, hoL, I.free⟩ hs, by simpa using I.len⟩ ⟨_, hn', fun e he => ?_⟩ rfl
  · exact (hs.2 b (Nat.ne_of_lt (Nat.lt_of_lt_of_le (Heap.lt_size e) I.ok.above))).trans (I.base.keep b o e n hb hx)
  · obtain ⟨sl, e1⟩ := I.base.slot b o e n hb hx
    exact ⟨sl, (hs.2 b (Nat.ne_of_lt (Nat.lt_of_lt_of_le (Heap.lt_size e) I.ok.above))).trans e1⟩
  · obtain ⟨o', e1⟩ := I.base.there b o e hx
    exact ⟨o', (hs.2 b (Nat.ne_of_lt (Nat.lt_of_lt_of_le (Heap.lt_size e) I.ok.above))).trans e1⟩
  · by_cases hj : j = i
    · subst hj
      rw [hi] at e1; cases e1
      rw [List.getElem?_set_self hiσ] at e2
      cases e2
      exact ⟨u, r, .inl ⟨hk, by simp⟩⟩
    · rw [List.getElem?_set_ne (Ne.symm hj)] at e2
      obtain ⟨u', r', q⟩ := hl j y v' e1 e2 e3
      refine ⟨u', r', ?_⟩
      rcases q with ⟨k, e⟩ | ⟨k, c, e, z⟩
      · refine .inl ⟨k, ?_⟩
        have : y ≠ x := fun e => hj (nodup_ix hN e1 (e ▸ hi))
        simp [this, e]
      · exact .inr ⟨k, c, e, z.sameBut hs (cne y c e)⟩
  · obtain ⟨w', z⟩ := I.cell y c e
    exact ⟨w', z.sameBut hs (cne y c e)⟩
  · obtain ⟨e, n, ne, nf, d⟩ := I.pin p hp
    exact ⟨(hs.2 p.1 ne).trans e, n, ne, nf, d⟩
  · rcases List.mem_cons.mp he with rfl | he
    · show (if x = x then some u else m2 x) = some u
      rw [if_pos rfl]
    · show (if e.1 = x then some u else m2 e.1) = some e.2
      rw [if_neg (hx e he)]
      exact hf e he
/-! ### texts in locals whose tokens are out and apart -/
def tokOf : Value → Nat
  | .str _ t => t
  | _ => 0
def TKs (X : Cx) (ns : List Str) (s : Shared) : Prop := ∃ ff : List (Str × Value), FT X ff s ∧ ff.map (·.1) = ns ∧ (∀ e ∈ ff, ∃ (x : Str) (t : Nat), e.2 = .str x t ∧ 1 ≤ t ∧ t < s.toks) ∧ (ff.map fun e => tokOf e.2).Nodup
structure PSsK (X : Cx) (ns : List Str) (st : List Stmt) (t : TS) : Prop where
  run : ∀ (pins : List (Addr × Obj)) (s : Shared) (σ : St) (H : Hp) (D : Ends), Inv X pins σ H s → TKs X ns s → t D σ H → wpAny (model X.prog X.w) X.A (execs st X.env) (SP X pins D) X.xe s
structure PEK (X : Cx) (ns : List Str) (e : Expr) (t : TE) : Prop where
  run : ∀ (pins : List (Addr × Obj)) (s : Shared) (σ : St) (H : Hp) (Q : VK), Inv X pins σ H s → TKs X ns s → t σ H Q → wpAny (model X.prog X.w) X.A (eval e X.env) (fun u s' => EP X pins σ Q u s' ∧ TKs X ns s') X.xe s
structure PAK (X : Cx) (ns : List Str) (es : List Expr) (t : TA) : Prop where
  run : ∀ (pos : Pos) (pins : List (Addr × Obj)) (s : Shared) (σ : St) (H : Hp) (Q : List V → Hp → Prop), Inv X pins σ H s → TKs X ns s → t σ H Q → wpAny (model X.prog X.w) X.A (spliced (backTo pos (starEach es X.env))) (fun us s' => AP X pins σ Q us s' ∧ TKs X ns s') X.xe s
theorem pssk0 {st : List Stmt} {t : TS} (h : PSsK X [] st t) : PSs X st t :=
  ⟨fun pins s σ H D I q => h.run pins s σ H D I ⟨[], FT.nil I, rfl, fun _ z => (nomatch z), .nil⟩ q⟩
theorem pak_nil {ns : List Str} : PAK X ns [] tNil := ⟨fun _ _ _ _ H Q I k h => Calls.spliced_nil ⟨⟨[], H, I, .nil, h⟩, k⟩⟩
theorem pak_cons {ns : List Str} {e : Expr} {es : List Expr} {te : TE} {t : TA} (ha : PEK X ns e te) (hr : PAK X ns es t) (hs : starEach (e :: es) X.env = (false, eval e X.env) :: starEach es X.env := by rfl) : PAK X ns (e :: es) (tCons te t) := by
  refine ⟨fun pos pins s σ H Q I k h => ?_⟩
  rw [hs]
  show wpAny _ _ (spliced ((false, eval e X.env) :: backTo pos (starEach es X.env))) _ _ s
  refine Calls.spliced_cons (thn (ha.run pins s σ H _ I k h) fun u s1 ⟨⟨x, H1, I1, r1, q1⟩, k1⟩ => ?_)
  exact thn (hr.run pos pins s1 σ H1 _ I1 k1 q1) fun us s2 ⟨⟨xs, H2, I2, r2, q2⟩, k2⟩ => ⟨⟨x :: xs, H2, I2, .cons r1 r2, q2⟩, k2⟩
/-- return (..), the items under known tokens -/
theorem pssk_rtup {ns : List Str} {es : List Expr} {x1} {t : TA} {pos pos' : Pos} (h : PAK X ns es t) : PSsK X ns [.Return (some (.Tuple es x1 pos)) pos'] (tRet (tTup t)) := by
  refine ⟨fun pins s σ H D I k q => ?_⟩
  refine wpAny_execs_cons (wpAny_Return_some ?_)
  refine wpAny_Tuple_spliced (thn (h.run pos pins s σ H _ I k q) fun us s1 ⟨⟨xs, H1, I1, r, z, q⟩, _⟩ => ⟨by rw [← r.length]; exact z, ?_⟩)
  have hf : H1 s1.heap.objs.size = none := I1.hok.fresh (Nat.le_refl _)
  refine ⟨.ref s1.heap.objs.size, σ, upd H1 s1.heap.objs.size (.tup xs), I1.laid (t' := s1.toks) (fun b u e => Heap.get?_push_of_some _ e) (Nat.le_refl _) ?_, rfl, q _ hf⟩
  exact ⟨z, us, r, ⟨_, Heap.get?_push_size _ rfl, rfl, _, rfl⟩⟩
theorem pssk_set {ns : List Str} {i : Nat} {x : Str} {e : Expr} {te : TE} {rest : List Stmt} {u : TS} {pos pos' : Pos} (hN : X.N.Nodup) (he : PEK X ns e te) (hrest : PSs X rest u) (hi : X.N[i]? = some x := by rfl) (hx : Loc X.env.scope x := by first | exact Or.inl rfl | exact Or.inr rfl)
    (hs : swapsWith e (some (.Name x pos')) pos.line X.env = pure false := by rfl) (hf : X.fn x = true ∨ X.env.scope.names.lookup x = some .local := by first | exact .inl rfl | exact .inr rfl) : PSsK X ns (.Assign [.Name x pos'] e pos :: rest) (tSeq (tAsg te (gName i)) u) := by
  refine ⟨fun pins s σ H D I k h => ?_⟩
  refine wpAny_execs_cons (wpAny_Assign_Name (thn (he.run pins s σ H _ I k h) fun v s1 ⟨⟨y, H1, I1, r1, q1⟩, _⟩ => ?_) hs)
  exact store_ok I1 hN hi hx r1 (fun s2 I2 => hrest.run pins s2 _ H1 D I2 q1) hf
theorem pssk_pk {ns : List Str} {ix il ib lv : Nat} {x l b tk : Str} {sp : Sp} {W : WX} {rest : List Stmt} {u : TS} {px pos p1 p2 p3 p4 p5 p6 p7 p8 : Pos} (hN : X.N.Nodup) (F : Fn X.prog X.w X.K X.mg X.base tk lv [] sp) (hr : Room lv X.A) (tks : Takes X W) (hlen : X.mg "len" = none) (hrest : PSsK X (x :: ns) rest u) (hxn : x ∉ ns := by decide +kernel)
    (hNx : X.N[ix]? = some x := by rfl) (hkx : X.env.kindOf x = some .local := by rfl)
    (hNl : X.N[il]? = some l := by rfl) (hvl : Vis X.env.scope l := by first | exact Or.inl rfl | exact Or.inr (Or.inl rfl) | exact Or.inr (Or.inr rfl)) (hNb : X.N[ib]? = some b := by rfl) (hvb : Vis X.env.scope b := by first | exact Or.inl rfl | exact Or.inr (Or.inl rfl) | exact Or.inr (Or.inr rfl)) (hg : Gl X tk := by rfl) (hgl : Gl X "len" := by rfl)
    (hdt : (tk == ("__debug__" : Str)) = false := by decide +kernel) (hdl : (l == ("__debug__" : Str)) = false := by decide +kernel) (hcl : (l == ("__classdict__" : Str)) = false := by decide +kernel)
    (hdb : (b == ("__debug__" : Str)) = false := by decide +kernel) (hcb : (b == ("__classdict__" : Str)) = false := by decide +kernel)
    (hst : starEach [.Name b p3, .Call (.Name "len" p4) [.Name l p5] [] p6] X.env = [(false, eval (.Name b p3) X.env), (false, eval (.Call (.Name "len" p4) [.Name l p5] [] p6) X.env)] := by rfl)
    (hst1 : starEach [.Call (.Name "len" p4) [.Name l p5] [] p6] X.env = [(false, eval (.Call (.Name "len" p4) [.Name l p5] [] p6) X.env)] := by rfl)
    (hst2 : starEach [.Name l p5] X.env = [(false, eval (.Name l p5) X.env)] := by rfl)
    (hix : PlainIx (.Call (.Name tk p2) [.Name b p3, .Call (.Name "len" p4) [.Name l p5] [] p6] [] p7) := by exact fun _ _ => rfl)
    (hs : swapsWith (.Subscript (.Name l p1) (.Call (.Name tk p2) [.Name b p3, .Call (.Name "len" p4) [.Name l p5] [] p6] [] p7) p8) (some (.Name x px)) pos.line X.env = pure false := by rfl) :
    PSsK X ns (.Assign [.Name x px] (.Subscript (.Name l p1) (.Call (.Name tk p2) [.Name b p3, .Call (.Name "len" p4) [.Name l p5] [] p6] [] p7) p8) pos :: rest) (tSeq (tAsg (tPk sp W il ib) (gName ix)) u) := by
  refine ⟨fun pins s σ H D I k h => ?_⟩
  obtain ⟨ff, hF, hns, htok, hnd⟩ := k
  have h : tPk sp W il ib σ H fun x H1 => u D (σ.set ix (some x)) H1 := h
  refine wpAny_execs_cons (wpAny_Assign_Name (thn (ev_pk F hr tks hlen I hF h hNl hvl hNb hvb hg hgl hdt hdl hcl hdb hcb hst hst1 hst2 hix) fun v s1 hv => ?_) hs)
  obtain ⟨c, t, H1, rfl, h1, h2, h3, I1, q, hF1⟩ := hv
  refine store_F (v := .str (S [c])) I1 hN hNx hkx ⟨t, rfl⟩ hF1 (fun e he z => hxn (by rw [← hns, ← z]; exact List.mem_map_of_mem he)) fun s2 I2 hF2 ht2 => ?_
  refine hrest.run pins s2 _ H1 D I2 ⟨_, hF2, by rw [List.map_cons, hns], fun e he => ?_, ?_⟩ q
  · rcases List.mem_cons.mp he with rfl | he
    · exact ⟨S [c], t, rfl, h1, by omega⟩
    · obtain ⟨x', t', e1, e2, e3⟩ := htok e he
      exact ⟨x', t', e1, e2, by omega⟩
  · rw [List.map_cons]
    refine List.nodup_cons.mpr ⟨fun hm => ?_, hnd⟩
    obtain ⟨e, he, ee⟩ := List.mem_map.mp hm
    obtain ⟨x', t', e1, e2, e3⟩ := htok e he
    rw [e1] at ee
    have ee : t' = t := ee
    omega
/-! ### x.replace(old, new) -/
def rp (c d : Nat) (l : List Nat) : List Nat := l.map fun a => if a = c then d else a
theorem replL_rp (c d : Nat) : ∀ l : List Nat, StrLaws.replL [c] [d] l = rp c d l
  | [] => StrLaws.replL_nil
  | a :: l => by
    by_cases h : a = c
    · subst h
      rw [StrLaws.replL_hit (by simp) (by simp)]
      show [d] ++ StrLaws.replL [a] [d] l = _
      rw [replL_rp a d l]
      simp [rp]
    · rw [StrLaws.replL_miss (by simp [h]), replL_rp c d l]
      simp [rp, h]
theorem repl_S (x : Str) (c d : Nat) : Txt.replace x (S [c]) (S [d]) = S (rp c d (tl x)) := by
  refine ext_tl ?_
  have e := StrLaws.replace_list (x := x) (y := S [c]) (z := S [d]) (by rw [len_tl]; exact Nat.le_refl 1)
  exact e.trans (replL_rp c d (tl x))
def tRp (ix io iw : Nat) : TE := fun σ H Q => match σ[ix]? with
  | some (some (.str x)) => (match σ[io]? with
    | some (some (.str y)) => (match σ[iw]? with
      | some (some (.str z)) => (match tl y with
        | [c] => (match tl z with
          | [d] => c ≠ d ∧ (tl x).length ≤ 1000000 ∧ Q (.str (S (rp c d (tl x)))) H
          | _ => False)
        | _ => False)
      | _ => False)
    | _ => False)
  | _ => False
theorem tRp_e {ix io iw : Nat} {Q : VK} (h : tRp ix io iw σ H Q) : ∃ x c d, σ[ix]? = some (some (.str x)) ∧ σ[io]? = some (some (.str (S [c]))) ∧ σ[iw]? = some (some (.str (S [d]))) ∧ c ≠ d ∧ (tl x).length ≤ 1000000 ∧ Q (.str (S (rp c d (tl x)))) H := by
  unfold tRp at h
  split at h
  · rename_i x e1
    split at h
    · rename_i y e2
      split at h
      · rename_i z e3
        split at h
        · rename_i c ey
          split at h
          · rename_i d ez
            exact ⟨x, c, d, e1, by rw [e2, ← S_tl y, ey], by rw [e3, ← S_tl z, ez], h⟩
          · exact h.elim
        · exact h.elim
      · exact h.elim
    · exact h.elim
  · exact h.elim
theorem ns_uniq {m m2 : Str → Option Value} {h : Heap} {a : Addr} (hn : h.Ns a m) (hn2 : h.Ns a m2) : m2 = m := by
  obtain ⟨o, es, ep, ho, hd, _, r⟩ := hn
  obtain ⟨o2, es2, ep2, ho2, hd2, _, r2⟩ := hn2
  rw [ho] at ho2
  cases ho2
  rw [hd] at hd2
  cases hd2
  funext name
  rw [← r2 name, ← r name]
/-- a local's text: its token is known -/
theorem tk_name {ns : List Str} {ff : List (Str × Value)} {i : Nat} {x : Str} {y : Str} {pos : Pos} {Q E : Value → Shared → Prop} (hF : FT X ff s) (hns : ff.map (·.1) = ns) (htok : ∀ e ∈ ff, ∃ (x : Str) (t : Nat), e.2 = .str x t ∧ 1 ≤ t ∧ t < s.toks) (hx : x ∈ ns)
    (hN : X.N[i]? = some x) (hk : X.env.kindOf x = some .local) (I : Inv X pins σ H s) (hσ : σ[i]? = some (some (.str y))) (fin : ∀ t : Nat, 1 ≤ t → t < s.toks → (x, Value.str y t) ∈ ff → Q (.str y t) s)
    (hd : (x == ("__debug__" : Str)) = false) : wpAny (model X.prog X.w) X.A (eval (.Name x pos) X.env) Q E s := by
  obtain ⟨m, hn, hl⟩ := I.loc
  obtain ⟨u, ⟨t0, rfl⟩, l⟩ := hl i x _ hN hσ (.inl hk)
  obtain ⟨m2, hn2, hf⟩ := hF
  obtain rfl := ns_uniq hn hn2
  rw [← hns] at hx
  obtain ⟨e, he, rfl⟩ := List.mem_map.mp hx
  obtain ⟨y', t, e1, e2, e3⟩ := htok e he
  rcases l with ⟨_, hm⟩ | ⟨hk', _⟩
  · have hm2 := hf e he
    rw [hm] at hm2
    have e4 : e.2 = .str y t0 := (Option.some.inj hm2).symm
    rw [e4] at e1
    cases e1
    exact wpAny_Name (wpAny_loadName_local I.ok.kind hk hn2 hm (fin t0 e2 e3 (by rw [← e4]; exact he))) hd
  · rw [hk] at hk'
    rcases hk' with z | z <;> cases z
theorem pek_repl {ns : List Str} {ix io iw : Nat} {x o w' : Str} {p1 p2 p3 apos pos : Pos} (hNx : X.N[ix]? = some x := by rfl) (hvx : Vis X.env.scope x := by first | exact Or.inl rfl | exact Or.inr (Or.inl rfl) | exact Or.inr (Or.inr rfl)) (hNo : X.N[io]? = some o := by rfl) (hko : X.env.kindOf o = some .local := by rfl) (hNw : X.N[iw]? = some w' := by rfl) (hkw : X.env.kindOf w' = some .local := by rfl)
    (ho : o ∈ ns := by decide +kernel) (hw : w' ∈ ns := by decide +kernel) (hne : o ≠ w' := by decide +kernel) (hdx : (x == ("__debug__" : Str)) = false := by decide +kernel) (hcx : (x == ("__classdict__" : Str)) = false := by decide +kernel) (hdo : (o == ("__debug__" : Str)) = false := by decide +kernel) (hdw : (w' == ("__debug__" : Str)) = false := by decide +kernel)
    (hst : starEach [.Name o p2, .Name w' p3] X.env = [(false, eval (.Name o p2) X.env), (false, eval (.Name w' p3) X.env)] := by rfl)
    (hbase : attributeBase (.Name x p1) "replace" X.env (eval (.Name x p1) X.env) = eval (.Name x p1) X.env := by rfl) (hline : (apos.endLine == pos.line) = true := by rfl) :
    PEK X ns (.Call (.Attribute (.Name x p1) "replace" apos) [.Name o p2, .Name w' p3] [] pos) (tRp ix io iw) := by
  refine ⟨fun pins s σ H Q I k h => ?_⟩
  obtain ⟨z, c, d, e1, e2, e3, hcd, hb, q⟩ := tRp_e h
  obtain ⟨ff, hF, hns, htok, hnd⟩ := k
  refine wpAny_mono (wpAny_toks (Q := fun u s' => EP X pins σ Q u s' ∧ ∃ k : Nat, s' = { s with toks := k }) (PySem.Call_method2 hbase hst hline (raw_name hNx hvx I e1 (fun v r => ?_) hdx hcx))) (fun u s' hq => ?_) fun _ _ z => z.2
  · obtain ⟨tx, rfl⟩ := r
    refine ⟨"str", _, F.plainAttrs_str, F.slot_str_replace, F.type_str_replace, typeIs_str _ _ _, (fun _ e => nomatch e), Calls.callWith_builtin rfl (Calls.evalArgs_plain (Calls.spliced_cons ?_))⟩
    refine tk_name hF hns htok ho hNo hko I e2 (fun t h1 h2 hm1 => ?_) hdo
    refine Calls.spliced_cons (tk_name hF hns htok hw hNw hkw I e3 (fun t2 h3 h4 hm2 => ?_) hdw)
    refine Calls.spliced_nil ?_
    have hneq : t ≠ t2 := fun et => by
      obtain ⟨i, hi, ei⟩ := List.mem_iff_getElem.mp hm1
      obtain ⟨j, hj, ej⟩ := List.mem_iff_getElem.mp hm2
      have eij : i = j := by
        have hi' : i < (ff.map fun e => tokOf e.2).length := by rw [List.length_map]; exact hi
        have hj' : j < (ff.map fun e => tokOf e.2).length := by rw [List.length_map]; exact hj
        refine (List.getElem_inj hnd (h₀ := hi') (h₁ := hj')).mp ?_
        rw [List.getElem_map, List.getElem_map, ei, ej]
        exact et
      subst eij
      rw [ei] at ej
      exact hne (congrArg Prod.fst ej)
    refine PySem.SC.replace (show t ≠ (0 : Nat) from by omega) (show t2 ≠ (0 : Nat) from by omega) hneq (by simp only [beq_eq_false_iff_ne]; exact fun z => hcd (S1_inj _ _ z)) (by
      have : (S [d]).length = 1 := by rw [len_tl]; rfl
      rw [this, len_tl]; omega) fun t' k => ⟨⟨.str (S (rp c d (tl z))), H, I.tok k, ⟨t', by rw [repl_S]⟩, q⟩, k, rfl⟩
  · obtain ⟨hle, he, k, rfl⟩ := hq
    exact ⟨he, ff, hF, hns, fun e he => (let ⟨x, t, a, b, c⟩ := htok e he; ⟨x, t, a, b, Nat.lt_of_lt_of_le c hle⟩), hnd⟩
end
end Ta

set_option Elab.async false
set_option linter.all false
set_option maxRecDepth 100000
set_option maxHeartbeats 1000000
namespace Ta
open PySem PySem.Spec PyProof.Rows L2 He

/-! ### facts of the written part as Bools -/
abbrev BF := PySem.W.Frag → Bool
def bFree (x : Str) : BF := fun K => (Fa.free x).ok K
def bGlo (x : Str) : BF := fun K => (Fa.glo x).ok K
def bVal (x : Str) (v : V) : BF := fun K => match PySem.W.nsIn K mainGlobals x with
  | some (some u) => relB v u
  | _ => false
def bCls (x : Str) : BF := fun K => (Fa.cls x).ok K
def bNo (x f : Str) : BF := fun K => (Fa.noat x f).ok K
def bMe (x m : Str) : BF := fun K => (Fa.meth x m).ok K
def bMk (x : Str) : BF := fun K => (Fa.mkr x).ok K
def bExm (x y : Str) (b : Bool) : BF := fun K => (Fa.exm x y b).ok K
def bExmT (x : Str) (y : String) (b : Bool) : BF := fun K => decide (PySem.W.exmOne K (.ref (ga K x)) (.type y) = some b)
def bKit (x y : Str) (b : Bool) : BF := fun K => decide (PySem.W.kitOne K (.ref (ga K x)) (.ref (ga K y)) = some b)
def bKitT (x : Str) (y : String) (b : Bool) : BF := fun K => decide (PySem.W.kitOne K (.ref (ga K x)) (.type y) = some b)
def bKitA (x : Str) (ys : List Str) (b : Bool) : BF := fun K => decide (PySem.W.kitAny K (.ref (ga K x)) (ys.map fun y => .ref (ga K y)) = some b)
def bTKit (x : String) (y : Str) (b : Bool) : BF := fun K => decide (PySem.W.kitOne K (.type x) (.ref (ga K y)) = some b)
def bIsc (x : Str) : BF := fun K => (Fa.cls x).ok K && (eqO (PySem.W.findIn K (.ref (ga K x)) "__class__") (some (some (.builtin "object.__class__"))) &&
  (eqO (PySem.W.specialIn K (.builtin "object.__class__") "__get__") (some (some (.builtin "getset_descriptor.__get__"))) && (decide (PySem.W.takesIn K (.builtin "object.__class__") = some true) && decide (PySem.W.mroIn K (ga K x) (.type "object") = some true))))
def bXc (x : Str) : BF := fun K => xfB K (ga K x) && (eqO (PySem.W.findIn K (.ref (ga K x)) "__class__") (some (some (.builtin "object.__class__"))) &&
  (eqO (PySem.W.specialIn K (.builtin "object.__class__") "__get__") (some (some (.builtin "getset_descriptor.__get__"))) && (decide (PySem.W.takesIn K (.builtin "object.__class__") = some true) && decide (PySem.W.mroIn K (ga K x) (.type "object") = some true))))
def bCC (x f : Str) (v : V) : BF := fun K => (Fa.glo x).ok K && (PySem.W.readsIn K (ga K x) (.type "type") && (eqO (PySem.W.specialIn K (.ref (ga K x)) "__getattribute__") (some (some (.builtin "type.__getattribute__"))) &&
  (match PySem.W.findCls K (.ref (ga K x)) (.type "type") f with
    | some (.val u) => relB v u
    | _ => false)))
def bCon (x f : Str) (v : V) : BF := fun K => !PySem.W.copiedNames.contains f && (match PySem.W.findIn K (.ref (ga K x)) f with
  | some (some u) => relB v u && eqO (PySem.W.specialIn K u "__get__") (some none)
  | _ => false)
/-- no list of the written part holds whole numbers alone -/
def bNoL : BF := fun K => K.all fun e => match e.2 with
  | ⟨.type t, _, .seq its _, _⟩ => !decide (t = "list") || its.toList.any fun v => match v with
    | .int _ _ => false
    | _ => true
  | _ => true
def oexB (K : PySem.W.Frag) (C : Addr) : Bool := match K.lookup C with
  | some ⟨.type t, _, .cls cd, sl⟩ => decide (t = "type") && (match cd.mro, sl.toList with
    | .ref c :: bm, [_, _, _, _, some (.builtin i), _] => decide (c = C) && (PySem.HandSPX.refsVE bm && (decide (i = "ValueError.__new__") && (cd.hasDict && !cd.hasDel)))
    | _, _ => false)
  | _ => false
def bOex (x : Str) : BF := fun K => oexB K (ga K x) && (eqO (PySem.W.findIn K (.ref (ga K x)) "__setattr__") (some (some (.builtin "object.__setattr__"))) && (decide (PySem.W.subIn K (.ref (ga K x)) (.type "BaseException") = some true) &&
  (decide (PySem.W.typeIn K (.ref (ga K x)) = some (.type "type")) && PySem.W.keepIn K (.ref (ga K x)))))
/-- class x, its __init__ of class y -/
def bSup (x y : Str) : BF := fun K => decide (PySem.W.mroIn K (ga K x) (.ref (ga K y)) = some true) && (eqO (PySem.W.ks_superIn K (ga K x) (ga K y) "__init__") (some (some (.builtin "ValueError.__init__"))) &&
  (decide (PySem.W.subIn K (.ref (ga K x)) (.type "ValueError") = some true) && (eqO (PySem.W.nsIn K cStatics "thirdparty.any") (some none) &&
  (eqO (PySem.W.findIn K (.ref (ga K x)) "__init__") (some (some (.ref (ma K (ga K y) "__init__")))) && decide (PySem.W.typeIn K (.ref (ma K (ga K y) "__init__")) = some (.type "function"))))))
section
variable {K : PySem.W.Frag} {h : Heap} {mg : Str → Option Value} {x y f : Str} {v : V}
theorem free_of (X : K.In h) (G : h.Ns mainGlobals mg) (c : bFree x K = true) : mg x = none := He.free_ok X G c
theorem glo_of (X : K.In h) (G : h.Ns mainGlobals mg) (c : bGlo x K = true) : mg x = some (.ref (ga K x)) := He.glo_ok X G c
theorem gv_of (X : K.In h) (G : h.Ns mainGlobals mg) (c : bGlo x K = true) : GlobV mg x (.ref (ga K x)) := ⟨_, glo_of X G c, rfl⟩
theorem val_of (X : K.In h) (G : h.Ns mainGlobals mg) (c : bVal x v K = true) : GlobV mg x v := by
  unfold bVal at c
  split at c
  · rename_i u e
    exact ⟨u, PySem.W.mg_of X G e, relB_ok c⟩
  · cases c
theorem cls_of (c : bCls x K = true) : Cls K (ga K x) := He.cls_ok c
theorem no_of (c : bNo x f K = true) : NoAttr K (ga K x) f := He.noat_ok c
theorem no_of' (c : bNo x f K = true) : PySem.W.findIn K (.ref (ga K x)) f = some none := He.noat_ok c
theorem me_of (c : bMe x f K = true) : Meth K (ga K x) f (ma K (ga K x) f) := He.meth_ok c
theorem mk_of (c : bMk x K = true) : Mk K (ga K x) (ma K (ga K x) "__init__") := He.mkr_ok c
theorem exm_of {b : Bool} (c : bExm x y b K = true) : PySem.W.exmOne K (.ref (ga K x)) (.ref (ga K y)) = some b := He.exm_ok c
theorem exmT_of {b : Bool} {y : String} (c : bExmT x y b K = true) : PySem.W.exmOne K (.ref (ga K x)) (.type y) = some b := of_decide_eq_true c
theorem kit_of {b : Bool} (c : bKit x y b K = true) : PySem.W.kitOne K (.ref (ga K x)) (.ref (ga K y)) = some b := of_decide_eq_true c
theorem kitT_of {b : Bool} {y : String} (c : bKitT x y b K = true) : PySem.W.kitOne K (.ref (ga K x)) (.type y) = some b := of_decide_eq_true c
theorem tkit_of {b : Bool} {x : String} (c : bTKit x y b K = true) : PySem.W.kitOne K (.type x) (.ref (ga K y)) = some b := of_decide_eq_true c
theorem kitA_of {b : Bool} {ys : List Str} (c : bKitA x ys b K = true) : PySem.W.kitAny K (.ref (ga K x)) (ys.map fun y => .ref (ga K y)) = some b := of_decide_eq_true c
theorem isc_of (c : bIsc x K = true) : IsC K (ga K x) := by
  obtain ⟨c1, c⟩ := He.ba c
  obtain ⟨c2, c⟩ := He.ba c
  obtain ⟨c3, c⟩ := He.ba c
  obtain ⟨c4, c5⟩ := He.ba c
  exact ⟨fun H a dx fs e => .ins e (cls_of c1) (eqO_ok c2) (eqO_ok c3) (of_decide_eq_true c4) (of_decide_eq_true c5)⟩
theorem xc_of (c : bXc x K = true) : XC K (ga K x) := by
  obtain ⟨c1, c⟩ := He.ba c
  obtain ⟨c2, c⟩ := He.ba c
  obtain ⟨c3, c⟩ := He.ba c
  obtain ⟨c4, c5⟩ := He.ba c
  have q := xfB_ok c1
  exact ⟨q, ⟨q.ga, q.gg, q.exC, q.hdC, eqO_ok c2, eqO_ok c3, of_decide_eq_true c4, of_decide_eq_true c5⟩⟩
theorem cc_of (X : K.In h) (G : h.Ns mainGlobals mg) (c : bCC x f v K = true) : ClsConst K mg x f v := by
  obtain ⟨c1, c⟩ := He.ba c
  obtain ⟨c2, c⟩ := He.ba c
  obtain ⟨c3, c⟩ := He.ba c
  split at c
  · rename_i u e
    exact ⟨_, _, u, He.glo_ok X G c1, ⟨c2, eqO_ok c3⟩, ⟨e, relB_ok c⟩⟩
  · cases c
theorem con_of (c : bCon x f v K = true) : ∃ u, Con K (ga K x) f v u := by
  obtain ⟨c1, c⟩ := He.ba c
  split at c
  · rename_i u e
    obtain ⟨c2, c3⟩ := He.ba c
    exact ⟨u, e, relB_ok c2, eqO_ok c3, by simpa using c1⟩
  · cases c
theorem oexB_ok {C : Addr} (c : oexB K C = true) : ∃ nm q N bs bm sn sub ab col dd k0 k1 k2 k3 k5, K.lookup C = some (excClassObj nm q C N bs bm true sn sub ab col dd k0 k1 k2 k3 k5 "ValueError.__new__") ∧ PySem.HandSPX.refsVE bm = true := by
  unfold oexB at c
  split at c
  · rename_i t dd cd sl e
    obtain ⟨c1, c⟩ := He.ba c
    have c1 := of_decide_eq_true c1
    subst c1
    split at c
    · rename_i cc bm k0 k1 k2 k3 i k5 e1 e2
      obtain ⟨_, c⟩ := He.ba c
      obtain ⟨c2, c⟩ := He.ba c
      obtain ⟨c3, c⟩ := He.ba c
      obtain ⟨c4, c⟩ := He.ba c
      obtain ⟨c5, c6⟩ := He.ba c
      have c2 := of_decide_eq_true c2
      have c4 := of_decide_eq_true c4
      subst c2 c4
      obtain ⟨m1, m2, m3, m4, m5, m6, m7, m8, m9, m10, m11⟩ := cd
      obtain ⟨sl⟩ := sl
      simp only at e1 e2 c5 c6
      simp only [Bool.not_eq_true'] at c6
      subst e1 e2 c5 c6
      exact ⟨_, _, _, _, bm, _, _, _, _, _, k0, k1, k2, k3, k5, e, c3⟩
    · cases c
  · cases c
theorem oex_of (c : bOex x K = true) : OexC K (ga K x) := by
  obtain ⟨c1, c⟩ := He.ba c
  obtain ⟨c2, c⟩ := He.ba c
  obtain ⟨c3, c⟩ := He.ba c
  obtain ⟨c4, c5⟩ := He.ba c
  exact ⟨oexB_ok c1, eqO_ok c2, of_decide_eq_true c3, of_decide_eq_true c4, c5⟩
theorem sup_of (o : bOex x K = true) (c : bSup x y K = true) : SupExc K (ga K x) (ga K y) ∧ PySem.W.findIn K (.ref (ga K x)) "__init__" = some (some (.ref (ma K (ga K y) "__init__"))) ∧ PySem.W.typeIn K (.ref (ma K (ga K y) "__init__")) = some (.type "function") := by
  obtain ⟨c1, c⟩ := He.ba c
  obtain ⟨c2, c⟩ := He.ba c
  obtain ⟨c3, c⟩ := He.ba c
  obtain ⟨c4, c⟩ := He.ba c
  obtain ⟨c5, c6⟩ := He.ba c
  exact ⟨⟨oex_of o, of_decide_eq_true c1, eqO_ok c2, of_decide_eq_true c3, eqO_ok c4⟩, eqO_ok c5, of_decide_eq_true c6⟩
theorem vals_int : ∀ {ns : List Int} {us : List Value}, Vals (ns.map V.int) us → (us.any fun v => match v with
      | .int _ _ => false
      | _ => true) = false
  | [], _, .nil => rfl
  | n :: ns, _, .cons r t => by
    obtain ⟨k, rfl⟩ := r
    rw [List.any_cons, vals_int t]
    rfl
theorem scr_of {H : Hp} {a : Addr} {ns : List Int} (c : bNoL K = true) (hO : Only H) (hS : SqL K H a (ns.map V.int)) : ∃ ob, H a = some (.frz ob (.lst (ns.map V.int))) := by
  rcases hS with (hS | ⟨ob, hS⟩) | ⟨o, its, n, lk, o1, o2, o3, o4, o5⟩
  · rcases hO a with z | ⟨ob, xs, z⟩
    · rw [hS] at z; cases z
    · rw [hS] at z; cases z
  · exact ⟨ob, hS⟩
  · exfalso
    obtain ⟨oc, od, dt, sl⟩ := o
    simp only at o1 o2 o3
    subst o1 o2 o3
    have hm : (a, (⟨.type "list", none, .seq its n, sl⟩ : Obj)) ∈ K := by
      clear c o5 o4
      induction K with
      | nil => cases lk
      | cons e K ih =>
        obtain ⟨b, u⟩ := e
        rw [List.lookup_cons] at lk
        split at lk
        · rename_i hb
          have hb := eq_of_beq hb
          cases lk
          subst hb
          exact List.mem_cons_self
        · exact List.mem_cons_of_mem _ (ih lk)
    have q := List.all_eq_true.mp c _ hm
    have q : (!decide ("list" = "list") || its.toList.any fun v => match v with
      | .int _ _ => false
      | _ => true) = true := q
    rw [vals_int o5, Bool.or_false] at q
    simp at q
end

/-! ### a def that says super(), the Hook -/
abbrev FnS : Type := Option (Str × Str × Arguments × FuncBody × Scope × Addr × List Str × Addr)
structure SupD where
  cls : Str
  name : Str
  qual : Str
  params : Arguments
  body : List Stmt
  scope : Scope
def SupD.at_ (K : PySem.W.Frag) (d : SupD) : Addr := ma K (ga K d.cls) d.name
def fnS (K : PySem.W.Frag) (f : Addr) : FnS := match K.lookup f with
  | some ⟨_, _, .func fd, _⟩ => some (fd.name, fd.qualname, fd.params, fd.body, fd.scope, fd.globals, fd.closure.map (·.1), fd.builtins)
  | _ => none
def SupD.val (d : SupD) : FnS := some (d.name, d.qual, d.params, .stmts d.body, d.scope, mainGlobals, ["__class__"], builtinsNs)
def SupD.ok (file : Str) (K : PySem.W.Frag) (d : SupD) : Bool := PySem.W.keepIn K (.ref (d.at_ K)) && (match K.lookup (d.at_ K) with
  | some ⟨_, _, .func fd, _⟩ => (match fd.closure with
    | [(_, cc)] => (match K.lookup cc with
      | some ⟨_, _, .cell (some (.ref D)), _⟩ => decide (D = ga K d.cls)
      | _ => false)
    | _ => false) && ((match fd.defaults with
      | .none => true
      | _ => false) && ((PySem.W.clsIn K (ga K d.cls)).isSome && (match fd.code with
    | .ref c => PySem.W.codeIn K (.ref c) d.qual && (match K.lookup c with
      | some ⟨_, _, .fields vs, _⟩ => (match (vs[2]? : Option Value) with
        | some (.str fl _) => (file == fl)
        | _ => false)
      | _ => false)
    | _ => false)))
  | _ => false)
theorem SupD.fn {P : Program} {K : PySem.W.Frag} {d : SupD} (e : fnS K (d.at_ K) = d.val) (c : d.ok P.main.file K = true) (top : (P.main.scope.names.lookup ("super" : Str)).isSome = false) :
    ∃ (F : NdefX.NF) (fd : FuncData), F.name = d.name ∧ F.qual = d.qual ∧ F.params = d.params ∧ F.body = d.body ∧ F.scope = d.scope ∧ SupFn P K (d.at_ K) F (ga K d.cls) [] fd := by
  obtain ⟨kp, c2⟩ := He.ba c
  unfold fnS at e
  cases q : K.lookup (d.at_ K) with
  | none => rw [q] at c2; cases c2
  | some o =>
    obtain ⟨oc, od, dt, osl⟩ := o
    rw [q] at c2 e
    cases dt with
    | func fd =>
      obtain ⟨n1, n2, n3, n4, n5, n6, n7, n8, n9, n10, n11, n12, n13, n14, n15⟩ := fd
      have e2 : (some (n1, n2, n3, n4, n5, n6, n7.map (·.1), n15) : FnS) = (some (d.name, d.qual, d.params, FuncBody.stmts d.body, d.scope, mainGlobals, ["__class__"], builtinsNs) : FnS) := e
      simp only [Option.some.injEq, Prod.mk.injEq] at e2
      obtain ⟨h1, h2, h3, h4, h5, h6, h7, h8⟩ := e2
      obtain ⟨k1, c3⟩ := He.ba c2
      obtain ⟨k2, c4⟩ := He.ba c3
      obtain ⟨k3, k4⟩ := He.ba c4
      clear c4 c3 c2 e c
      obtain _ | ⟨⟨xc, cc⟩, _ | ⟨b, r⟩⟩ := n7
      · cases h7
      · simp only [List.map_cons, List.map_nil, List.cons.injEq, and_true] at h7
        subst h7
        simp only at k1 k2 k4
        split at k1
        · rename_i c1 c2 D c3 hc
          have k1' := of_decide_eq_true k1
          clear k1
          split at k2
          · split at k4
            · rename_i c
              obtain ⟨k5, k6⟩ := He.ba k4
              clear k4 k2
              split at k6
              · rename_i a1 a2 vs a3 hcc
                split at k6
                · rename_i fl tf hvs
                  subst h1 h2 h3 h4 h5 h6 h8
                  obtain ⟨cdD, hcd⟩ := Option.isSome_iff_exists.mp k3
                  subst k1'
                  exact ⟨⟨d.name, d.qual, d.params, d.body, d.scope, [("__class__", cc)], _⟩, _, rfl, rfl, rfl, rfl, rfl, ⟨⟨cc, oc, od, _, _, _, _, _, _, osl, rfl, rfl, q, .inl ⟨rfl, rfl⟩, _, _, _, hc⟩, k5, ⟨_, _, vs, _, fl, tf, hcc, hvs, k6⟩, ⟨cdD, hcd⟩, top, kp⟩⟩
                · cases k6
              · cases k6
            · cases k4
          · cases k2
        · cases k1
      · cases h7
    | _ => cases c2
/-! ### a def, wherever it stands -/
structure XD where
  at_ : PySem.W.Frag → Addr
  name : Str
  qual : Str
  params : Arguments
  body : List Stmt
  scope : Scope
  dfl : List Dv := []
  kwd : List (Str × Dv) := []
def XD.val (d : XD) : FnS := some (d.name, d.qual, d.params, .stmts d.body, d.scope, mainGlobals, ([] : List Str), builtinsNs)
def XD.vs (K : PySem.W.Frag) (d : XD) : List V := d.dfl.map fun z => Dv.v K z
def XD.ks (K : PySem.W.Frag) (d : XD) : List (Str × V) := d.kwd.map fun z => (z.1, z.2.v K)
def XD.ok (K : PySem.W.Frag) (d : XD) : Bool := PySem.W.keepIn K (.ref (d.at_ K)) && (match K.lookup (d.at_ K) with
  | some ⟨_, _, .func fd, _⟩ => dflB K fd.defaults (d.vs K) && (kwdB K fd.kwdefaults (d.ks K) && PySem.W.codeIn K fd.code d.qual)
  | _ => false)
theorem XD.fn {K : PySem.W.Frag} {d : XD} (e : fnS K (d.at_ K) = d.val) (c : d.ok K = true) : ∃ fd, FunD K d.name d.qual d.params d.body d.scope (d.vs K) (d.ks K) (d.at_ K) fd := by
  obtain ⟨kp, c1⟩ := He.ba c
  unfold fnS at e
  cases lk : K.lookup (d.at_ K) with
  | none => rw [lk] at c1; cases c1
  | some o =>
    obtain ⟨o1, o2, dt, o4⟩ := o
    rw [lk] at c1 e
    cases dt with
    | func fd =>
      obtain ⟨m1, m2, m3, m4, m5, m6, m7, m8, m9, m10, m11, m12, m13, m14, m15⟩ := fd
      have e2 : (some (m1, m2, m3, m4, m5, m6, m7.map (·.1), m15) : FnS) = (some (d.name, d.qual, d.params, FuncBody.stmts d.body, d.scope, mainGlobals, ([] : List Str), builtinsNs) : FnS) := e
      simp only [Option.some.injEq, Prod.mk.injEq] at e2
      obtain ⟨z1, z2, z3, z4, z5, z6, z7, z8⟩ := e2
      obtain ⟨y1, y2⟩ := He.ba c1
      obtain ⟨y3, y4⟩ := He.ba y2
      have z7 : m7 = [] := List.map_eq_nil_iff.mp z7
      subst z1 z2 z3 z4 z5 z6 z7 z8
      exact ⟨_, ⟨o1, o2, m8, m9, m10, m11, m12, m13, m14, o4, rfl, lk, y4, dflB_ok y1, kwdB_ok y3⟩, kp⟩
    | _ => cases c1
/-- a property's getter -/
def prA (K : PySem.W.Frag) (C : Addr) (f : Str) : Addr := match PySem.W.recIn K (ma K C f) "property" with
  | some (.ref g :: _) => g
  | _ => 0
def bPrp (x f : Str) : BF := fun K => eqO (PySem.W.findIn K (.ref (ga K x)) f) (some (some (.ref (ma K (ga K x) f)))) && (eqO (PySem.W.specialIn K (.ref (ma K (ga K x) f)) "__get__") (some (some (.builtin "property.__get__"))) &&
  (decide (PySem.W.takesIn K (.ref (ma K (ga K x) f)) = some true) && (match PySem.W.recIn K (ma K (ga K x) f) "property" with
    | some (.ref _ :: _) => true
    | _ => false)))
theorem prp_of {K : PySem.W.Frag} {x f : Str} (c : bPrp x f K = true) : PropOf K (ga K x) f (ma K (ga K x) f) (prA K (ga K x) f) := by
  obtain ⟨c1, c⟩ := He.ba c
  obtain ⟨c2, c⟩ := He.ba c
  obtain ⟨c3, c4⟩ := He.ba c
  refine ⟨eqO_ok c1, eqO_ok c2, of_decide_eq_true c3, ?_⟩
  split at c4
  · rename_i g r e
    refine ⟨r, ?_⟩
    unfold prA
    rw [e]
  · cases c4
abbrev AlX : Type := Bool × List FnS × List FnS
def obsX (file : Str) (fa : List BF) (fn : List XD) (sn : List SupD) (K : PySem.W.Frag) : AlX := ((fa.all fun f => f K) && (fn.all (fun d => d.ok K) && sn.all fun d => d.ok file K), fn.map (fun d => fnS K (d.at_ K)), sn.map fun d => fnS K (d.at_ K))
def valX (fn : List XD) (sn : List SupD) : AlX := (true, fn.map XD.val, sn.map SupD.val)
def SaysX (file : Str) (fa : List BF) (fn : List XD) (sn : List SupD) (K : PySem.W.Frag) : Prop := obsX file fa fn sn K = valX fn sn
def asX (g : Addr → Option Obj) (n : Nat) : List Addr := asD g n ++ [cStatics]
def obsXG (n : Nat) (file : Str) (fa : List BF) (fn : List XD) (sn : List SupD) (g : Addr → Option Obj) : AlX := obsX file fa fn sn (frG g (asX g n))
def hookX (n : Nat) (file : Str) (fa : List BF) (fn : List XD) (sn : List SupD) : PySem.W.Hook where
  α := AlX
  obs := fun s => obsXG n file fa fn sn s.heap.get?
  val := fun _ => valX fn sn
  says := fun _ h => ∃ K : PySem.W.Frag, K.In h ∧ SaysX file fa fn sn K
  of := fun _ _ e => ⟨_, frG_in, e⟩
  keeps := fun _ _ _ ⟨K, hK, c⟩ k => ⟨K, PySem.W.Frag.In.keeps hK k, c⟩
theorem obsXG_eq {n : Nat} {file : Str} {fa : List BF} {fn : List XD} {sn : List SupD} {g : Addr → Option Obj} {s : Shared} (h : ∀ a, g a = s.heap.get? a) : obsXG n file fa fn sn g = (hookX n file fa fn sn).obs s := by
  have e : g = s.heap.get? := funext h
  rw [e] <;> rfl
section
variable {file : Str} {fa : List BF} {fn : List XD} {sn : List SupD} {K : PySem.W.Frag}
theorem SaysX.fact (c : SaysX file fa fn sn K) (i : Nat) {f : BF} (h : fa[i]? = some f := by rfl) : f K = true := by
  have c1 := (He.ba (show ((fa.all fun f => f K) && (fn.all (fun d => d.ok K) && sn.all fun d => d.ok file K)) = true from congrArg (fun z : AlX => z.1) c)).1
  exact List.all_eq_true.mp c1 f (List.mem_of_getElem? h)
theorem SaysX.def_ (c : SaysX file fa fn sn K) (i : Nat) {d : XD} (h : fn[i]? = some d := by rfl) : ∃ fd, FunD K d.name d.qual d.params d.body d.scope (d.vs K) (d.ks K) (d.at_ K) fd := by
  have c2 := (He.ba (He.ba (show ((fa.all fun f => f K) && (fn.all (fun d => d.ok K) && sn.all fun d => d.ok file K)) = true from congrArg (fun z : AlX => z.1) c)).2).1
  have e : fn.map (fun d => fnS K (d.at_ K)) = fn.map XD.val := congrArg (fun z : AlX => z.2.1) c
  have e2 : (fn.map fun d => fnS K (d.at_ K))[i]? = (fn.map XD.val)[i]? := by rw [e]
  rw [List.getElem?_map, List.getElem?_map, h] at e2
  exact XD.fn (Option.some.inj e2) (List.all_eq_true.mp c2 d (List.mem_of_getElem? h))
theorem SaysX.sup {P : Program} (c : SaysX P.main.file fa fn sn K) (i : Nat) (top : (P.main.scope.names.lookup ("super" : Str)).isSome = false) {d : SupD} (h : sn[i]? = some d := by rfl) :
    ∃ (F : NdefX.NF) (fd : FuncData), F.name = d.name ∧ F.qual = d.qual ∧ F.params = d.params ∧ F.body = d.body ∧ F.scope = d.scope ∧ SupFn P K (d.at_ K) F (ga K d.cls) [] fd := by
  have c2 := (He.ba (He.ba (show ((fa.all fun f => f K) && (fn.all (fun d => d.ok K) && sn.all fun d => d.ok P.main.file K)) = true from congrArg (fun z : AlX => z.1) c)).2).2
  have e : sn.map (fun d => fnS K (d.at_ K)) = sn.map SupD.val := congrArg (fun z : AlX => z.2.2) c
  have e2 : (sn.map fun d => fnS K (d.at_ K))[i]? = (sn.map SupD.val)[i]? := by rw [e]
  rw [List.getElem?_map, List.getElem?_map, h] at e2
  exact SupD.fn (Option.some.inj e2) (List.all_eq_true.mp c2 d (List.mem_of_getElem? h)) top
end
/-- a law's end -/
theorem walk_ofX {l : PySem.W.OpenLaw} {n k : Nat} {q : Program} {loose : List Str} {XP : (Str → Option Value) → Heap → Prop} {YP : World → Heap → Prop} {d : DefRec} {x : Str}
    (hn : l.most = some n) (hn2 : n ≤ sizeLine) (hdf : d.params.defaults = []) (hr : Room k callerA)
    (F : ∀ (w : World) (mg : Str → Option Value) (fa : Addr) (h : Heap), YP w h → h.Ns mainGlobals mg → mg d.name = some (.ref fa) →
      ∃ (K : PySem.W.Frag) (fd : FuncData) (sp : Sp), K.In h ∧ (∀ (s : Shared) (u : Value), BindsTo s fd ⟨[u], []⟩ [(x, u)]) ∧
        (∀ (H : Hp) (a : Addr) (ns : List Int), ns.length ≤ n → Only H → SqL K H a (ns.map V.int) → sp [.ref a] H (fun v _ => v = .bl true) fun _ _ _ => False) ∧
        ∀ base : Heap, K.In base → base.Ns mainGlobals mg → FnOk l.prog w K mg base (L2.CX l.prog w) k fa fd [x] sp) :
    PySem.W.WalkO q loose XP YP l.row.toRowW d [] (fun f vs => PySem.call f vs) := by
  refine Att.attach_call hn hdf fun w s₀ s₁ mg mb fa o pm cd doc a vs ns G Y ho hd hcd hmg hobj hints hlen hg => ?_
  obtain ⟨K, fd, sp, KX, hb, hsp, hF⟩ := F w mg fa _ Y G.T.g hmg
  exact law_call KX G.T.g G.T.b G.T.builtins G.T.nolimit hg hobj hints (Nat.le_trans hlen hn2) hr hF hb (fun H hO hS => hsp H a ns hlen hO hS) fun H e s' ⟨_, _, _, _, _, _, _, _, _, _, _, _, z⟩ => z
end Ta

set_option Elab.async false
set_option linter.all false
set_option maxRecDepth 100000
set_option maxHeartbeats 1000000
namespace Ta
open PySem PySem.Spec PyProof.Rows L2

/-! ### is, is not: None, truth values -/
def zIsB : R2 := fun x y H Q => match y with
  | .non => Q (.bl (decide (x = .non))) H
  | .bl b => (match x with
    | .bl a => Q (.bl (decide (a = b))) H
    | _ => False)
  | _ => False
def zIsnB : R2 := fun x y H Q => match y with
  | .non => Q (.bl (!decide (x = .non))) H
  | .bl b => (match x with
    | .bl a => Q (.bl (!decide (a = b))) H
    | _ => False)
  | _ => False
section
variable {X : Cx}
theorem opisb : OpR X (compareOp .Is) zIsB := by
  intro pins s σ H x y v u Q I rx ry h
  cases y with
  | non => exact op_isN pins s σ H _ _ v u Q I rx ry ⟨rfl, h⟩
  | bl b => cases x with
    | bl a => exact op_is_bl pins s σ H _ _ v u Q I rx ry ⟨a, b, rfl, rfl, h⟩
    | _ => exact False.elim h
  | _ => exact False.elim h
theorem opisnb : OpR X (compareOp .IsNot) zIsnB := by
  intro pins s σ H x y v u Q I rx ry h
  cases y with
  | non => exact op_notN pins s σ H _ _ v u Q I rx ry ⟨rfl, h⟩
  | bl b => cases x with
    | bl a => exact op_isnot_bl pins s σ H _ _ v u Q I rx ry ⟨a, b, rfl, rfl, h⟩
    | _ => exact False.elim h
  | _ => exact False.elim h
/-! ### o.f += e -/
def sAug (K : PySem.W.Frag) (ta tv : TE) (f : Str) (g : Int → Int → Int) : TS := fun D σ H => ta σ H fun x H1 => match x with
  | .ref a => look H1 a fun ob => (match ob with
    | some (.ins C dx fs) => Cls K C ∧ NoAttr K C f ∧ fld fs f fun v => match v with
      | .int i => tv σ H1 fun y H2 => (match y with
        | .int j => look H2 a fun ob' => (match ob' with
          | some (.ins C' dx' fs') => C' = C ∧ fs'.length < 1000 ∧ D.nx σ (upd H2 a (.ins C dx' (putF f (.int (g i j)) fs')))
          | _ => False)
        | _ => False)
      | _ => False
    | _ => False)
  | _ => False
theorem sAug_e {K : PySem.W.Frag} {tv : TE} {f : Str} {g : Int → Int → Int} {rd : V → V → Hp → VK → Prop} {D : Ends} {σ : St} {x : V} {H1 : Hp} (h : match x with
  | .ref a => look H1 a fun ob => (match ob with
    | some (.ins C dx fs) => Cls K C ∧ NoAttr K C f ∧ fld fs f fun v => match v with
      | .int i => tv σ H1 fun y H2 => (match y with
        | .int j => look H2 a fun ob' => (match ob' with
          | some (.ins C' dx' fs') => C' = C ∧ fs'.length < 1000 ∧ D.nx σ (upd H2 a (.ins C dx' (putF f (.int (g i j)) fs')))
          | _ => False)
        | _ => False)
      | _ => False
    | _ => False)
  | _ => False) (hrd : ∀ i j H Q, Q (.int (g i j)) H → rd (.int i) (.int j) H Q) (hm : ∀ σ H Q Q', (∀ v H, Q v H → Q' v H) → tv σ H Q → tv σ H Q') : ∃ a C dx fs v, x = .ref a ∧ H1 a = some (.ins C dx fs) ∧ Cls K C ∧ NoAttr K C f ∧ fs.lookup f = some v ∧
  tv σ H1 fun y H2 => rd v y H2 fun z H3 => ∃ dx' fs', H3 a = some (.ins C dx' fs') ∧ fs'.length < 1000 ∧ D.nx σ (upd H3 a (.ins C dx' (putF f z fs'))) := by
  cases x with
  | ref a =>
    have h := look_e h
    cases e : H1 a with
    | none => rw [e] at h; exact h.elim
    | some ob =>
      rw [e] at h
      cases ob with
      | ins C dx fs =>
        obtain ⟨h1, h2, h3⟩ := h
        obtain ⟨v, l, q⟩ := fld_e h3
        cases v with
        | int i =>
          refine ⟨a, C, dx, fs, _, rfl, e, h1, h2, l, hm _ _ _ _ (fun y H2 h => ?_) q⟩
          cases y with
          | int j =>
            have h := look_e h
            cases e2 : H2 a with
            | none => rw [e2] at h; exact h.elim
            | some ob2 =>
              rw [e2] at h
              cases ob2 with
              | ins C' dx' fs' =>
                obtain ⟨rfl, h5, h6⟩ := h
                exact hrd i j H2 _ ⟨dx', fs', e2, h5, h6⟩
              | _ => exact h.elim
          | _ => exact h.elim
        | _ => exact q.elim
      | _ => exact h.elim
  | _ => exact h.elim
theorem psaddC {o : Expr} {f : Str} {ta : TE} {n : Int} {j : Nat} {p1 tpos pos : Pos} (ha : PE X o ta) : PS X (.AugAssign (.Attribute o f tpos) .Add (.Constant (.int n) j p1) pos) (sAug X.K ta (tC (.int n)) f (· + ·)) := by
  refine ⟨fun pins s σ H D I h => ?_⟩
  refine wpAny_AugAssign_AttributeAny (thn (ha.run pins s σ H _ I h) fun ov s1 ⟨x, H1, I1, rx, q0⟩ => ?_)
  obtain ⟨a, C, dx, fs, v, ex, ea, c, n, l, q⟩ := sAug_e (rd := rAdd) (tv := tC (.int n)) (g := (· + ·)) q0 (fun i j H Q q => ⟨i, j, rfl, rfl, q⟩) (fun _ _ _ _ h q => h _ _ q)
  clear q0
  subst ex
  obtain rfl : ov = Value.ref a := rx
  refine getattr_ok I1 ea c n l fun u s2 I2 ru => thn (pe_int.run pins s2 σ H1 _ I2 q) fun w3 s3 ⟨y, H2, I3, ry, q3⟩ => thn (in_add pins s3 σ H2 v y u w3 _ I3 ru ry q3) fun w4 s4 ⟨z, H3, I4, rz, dx', fs', ea', l', q4⟩ => ?_
  exact setattr_ok I4 ea' c n l' rz fun s5 I5 => ⟨σ, _, I5, q4⟩
end
/-! ### a property -/
structure Pr (P : Program) (w : World) (K : PySem.W.Frag) (mg : Str → Option Value) (base : Heap) (C : Addr) (f : Str) (lv : Nat) (sp : Sp) : Prop where
  ex : ∃ (p g : Addr) (fd : FuncData) (ps : List Str), PropOf K C f p g ∧ FnOk P w K mg base (L2.CX P w) lv g fd ps sp ∧ Binds K fd ps []
  cl : Cls K C
def tPrp (C : Addr) (sp : Sp) (ta : TE) : TE := fun σ H Q => ta σ H fun x H1 => match x with
  | .ref a => look H1 a fun ob => (match ob with
    | some (.ins C' dx fs) => C' = C ∧ sp [.ref a] H1 Q fun _ _ _ => False
    | _ => False)
  | _ => False
section
variable {X : Cx} {e : Expr} {ta : TE} {C : Addr} {f : Str} {lv : Nat} {sp : Sp} {pos : Pos}
theorem pprp (F : Pr X.prog X.w X.K X.mg X.base C f lv sp) (hr : Room (lv + 1) X.A) (he : PE X e ta) (hab : attributeBase e f X.env (eval e X.env) = eval e X.env := by rfl) : PE X (.Attribute e f pos) (tPrp C sp ta) := by
  obtain ⟨p, g, fd, ps, hp, F1, hb⟩ := F.ex
  refine ⟨fun pins s σ H Q I h => ?_⟩
  refine attr_of hab (thn (he.run pins s σ H _ I h) fun u s1 ⟨x, H1, I1, rx, q⟩ => ?_)
  cases x with
  | ref a =>
    have q1 := look_e q
    clear q
    cases ea : H1 a with
    | none => rw [ea] at q1; exact q1.elim
    | some ob =>
      rw [ea] at q1
      cases ob with
      | ins C' dx fs =>
        obtain ⟨e2, q2⟩ := q1
        subst e2
        obtain rfl : u = Value.ref a := rx
        exact getprop_ok (E := fun _ _ _ => False) I1 ea F.cl hp F1 hr hb .nil (fun _ _ _ _ _ _ _ z => False.elim (let ⟨_, _, _, _, _, _, _, _, _, _, _, _, z⟩ := z; z)) q2
      | _ => exact q1.elim
  | _ => exact q.elim
end
/-! ### x = l[e], then known -/
section
variable {X : Cx} {pins : List (Addr × Obj)} {σ : St} {H : Hp} {s s' : Shared} {ff : List (Str × Value)}
/-- .. and a token is out -/
structure PEn (X : Cx) (e : Expr) (t : TE) : Prop where
  run : ∀ (pins : List (Addr × Obj)) (s : Shared) (σ : St) (H : Hp) (Q : VK), Inv X pins σ H s → t σ H Q → wpAny (model X.prog X.w) X.A (eval e X.env) (fun u s' => EP X pins σ Q u s' ∧ 1 ≤ s'.toks) X.xe s
structure PAn (X : Cx) (es : List Expr) (t : TA) : Prop where
  run : ∀ (pos : Pos) (pins : List (Addr × Obj)) (s : Shared) (σ : St) (H : Hp) (Q : List V → Hp → Prop), Inv X pins σ H s → t σ H Q → wpAny (model X.prog X.w) X.A (spliced (backTo pos (starEach es X.env))) (fun us s' => AP X pins σ Q us s' ∧ 1 ≤ s'.toks) X.xe s
theorem toks1 {α : Type} {t : Sem α} {Q : α → Shared → Prop} {E : Value → Shared → Prop} {M : Model} {A : Around} {s : Shared} (h1 : 1 ≤ s.toks) (h : wpAny M A t Q E s) : wpAny M A t (fun a s' => Q a s' ∧ 1 ≤ s'.toks) E s :=
  wpAny_mono (PySem.wpAny_toks_of h1 h) (fun _ _ z => ⟨z.2, z.1⟩) fun _ _ z => z.2
theorem pen_int {i : Int} {j : Nat} {pos : Pos} : PEn X (.Constant (.int i) j pos) (tC (.int i)) :=
  ⟨fun _ s _ H _ I h => wpAny_Constant_int ⟨⟨.int i, H, I.tok _, ⟨_, rfl⟩, h⟩, Nat.le_add_left 1 s.toks⟩⟩
theorem pen_op {op : Operator} {r : R2} {a b : Expr} {ta tb : TE} {pos : Pos} (ho : OpR X (binaryOp op) r) (ha : PEn X a ta) (hb : PE X b tb) : PEn X (.BinOp a op b pos) (tOp r ta tb) := by
  refine ⟨fun pins s σ H Q I h => wpAny_BinOp ?_⟩
  refine thn (ha.run pins s σ H _ I h) fun v s1 ⟨⟨x, H1, I1, r1, q1⟩, h1⟩ => ?_
  refine thn (toks1 h1 (hb.run pins s1 σ H1 _ I1 q1)) fun u s2 ⟨⟨y, H2, I2, r2, q2⟩, h2⟩ => ?_
  exact toks1 h2 (ho pins s2 σ H2 x y v u Q I2 r1 r2 q2)
theorem pan_hd {e : Expr} {es : List Expr} {te : TE} {t : TA} (ha : PEn X e te) (hr : PA X es t) (hs : starEach (e :: es) X.env = (false, eval e X.env) :: starEach es X.env := by rfl) : PAn X (e :: es) (tCons te t) := by
  refine ⟨fun pos pins s σ H Q I h => ?_⟩
  rw [hs]
  show wpAny _ _ (spliced ((false, eval e X.env) :: backTo pos (starEach es X.env))) _ _ s
  refine Calls.spliced_cons (thn (ha.run pins s σ H _ I h) fun u s1 ⟨⟨x, H1, I1, r1, q1⟩, h1⟩ => ?_)
  exact thn (toks1 h1 (hr.run pos pins s1 σ H1 _ I1 q1)) fun us s2 ⟨⟨xs, H2, I2, r2, q2⟩, h2⟩ => ⟨⟨x :: xs, H2, I2, .cons r1 r2, q2⟩, h2⟩
theorem pan_tl {e : Expr} {es : List Expr} {te : TE} {t : TA} (ha : PE X e te) (hr : PAn X es t) (hs : starEach (e :: es) X.env = (false, eval e X.env) :: starEach es X.env := by rfl) : PAn X (e :: es) (tCons te t) := by
  refine ⟨fun pos pins s σ H Q I h => ?_⟩
  rw [hs]
  show wpAny _ _ (spliced ((false, eval e X.env) :: backTo pos (starEach es X.env))) _ _ s
  refine Calls.spliced_cons (thn (ha.run pins s σ H _ I h) fun u s1 ⟨x, H1, I1, r1, q1⟩ => ?_)
  exact thn (hr.run pos pins s1 σ H1 _ I1 q1) fun us s2 ⟨⟨xs, H2, I2, r2, q2⟩, h2⟩ => ⟨⟨x :: xs, H2, I2, .cons r1 r2, q2⟩, h2⟩
theorem pen_lst {es : List Expr} {t : TA} {pos : Pos} (h : PAn X es t) : PEn X (.List es pos) (tLst t) := by
  refine ⟨fun pins s σ H Q I hq => ?_⟩
  refine wpAny_List_spliced (thn (h.run pos pins s σ H _ I hq) fun us s1 ⟨⟨xs, H1, I1, r, z, q⟩, h1⟩ => ⟨by rw [← r.length]; exact z, ?_⟩)
  have hf : H1 s1.heap.objs.size = none := I1.hok.fresh (Nat.le_refl _)
  refine ⟨⟨.ref s1.heap.objs.size, upd H1 s1.heap.objs.size (.lst xs), I1.laid (t' := s1.toks) (fun b u e => Heap.get?_push_of_some _ e) (Nat.le_refl _) ?_, rfl, q _ hf⟩, h1⟩
  exact ⟨z, us, 0, r, Heap.get?_push_size _ rfl⟩
theorem pen_ix {a b : Expr} {ta tb : TE} {pos : Pos} (ha : PEn X a ta) (hb : PE X b tb) (hs : PlainIx b := by exact fun _ _ => rfl) : PEn X (.Subscript a b pos) (tOp (zIxP X.K) ta tb) := by
  refine ⟨fun pins s σ H Q I h => Subscript_ ?_⟩
  refine thn (ha.run pins s σ H _ I h) fun v s1 ⟨⟨x, H1, I1, r1, q1⟩, h1⟩ => ?_
  refine thn (toks1 h1 (hb.run pins s1 σ H1 _ I1 q1)) fun u s2 ⟨⟨y, H2, I2, r2, q2⟩, h2⟩ => ?_
  exact toks1 h2 (ixp a b pins s2 σ H2 x y v u Q I2 r1 r2 q2 (hs _ _))
theorem pen_call {x : Str} {p pos : Pos} {e : Expr} {es : List Expr} {t : TA} {lv : Nat} {dvs : List V} {sp : Sp} {W : WX} (F : Fn X.prog X.w X.K X.mg X.base x lv dvs sp) (hr : Room lv X.A) (tk : Takes X W) (ha : PAn X (e :: es) t) (hg : Gl X x := by rfl) (hdb : (x == ("__debug__" : Str)) = false := by decide +kernel)
    (he : starEach (e :: es) X.env = (false, eval e X.env) :: starEach es X.env := by rfl) (hpl : (backTo pos (starEach es X.env)).any (·.1) = false := by rfl) :
    PEn X (.Call (.Name x p) (e :: es) [] pos) (tCal sp dvs W t) := by
  obtain ⟨f, fd, ps, ds, F, hm, hk, hd, hb⟩ := F.ex
  refine ⟨fun pins s σ H Q I h => ?_⟩
  refine wpAny_Call_Name_kw (ld_glob I hg hm ?_ hdb)
  refine PySem.W.callWith_K (h₀ := X.base) I.ok.mod.kin hk (thn (ha.run pos pins s σ H _ I h) fun us s1 ⟨⟨vs, H1, I1, r, q⟩, h1⟩ => ⟨I1.kIn, ?_⟩) he hpl
  exact toks1 h1 (run_fnSD (E := WE W) F hr hb hd (passAt tk σ) I1 r q)
def tIx (il : Nat) (te : TE) : TE := fun σ H Q => match σ[il]? with
  | some (some (.str z)) => Lim (tl z).length ∧ te σ H fun v H' => match v with
      | .int i => itm (tl z) i fun c => Q (.str (S [c])) H'
      | _ => False
  | _ => False
theorem pssk_ix {ix il : Nat} {x l : Str} {e : Expr} {te : TE} {rest : List Stmt} {u : TS} {px pos p1 p8 : Pos} (hN : X.N.Nodup) (he : PEn X e te) (hrest : PSsK X [x] rest u)
    (hNx : X.N[ix]? = some x := by rfl) (hkx : X.env.kindOf x = some .local := by rfl)
    (hNl : X.N[il]? = some l := by rfl) (hvl : Vis X.env.scope l := by first | exact Or.inl rfl | exact Or.inr (Or.inl rfl) | exact Or.inr (Or.inr rfl))
    (hdl : (l == ("__debug__" : Str)) = false := by decide +kernel) (hcl : (l == ("__classdict__" : Str)) = false := by decide +kernel)
    (hix : PlainIx e := by exact fun _ _ => rfl)
    (hs : swapsWith (.Subscript (.Name l p1) e p8) (some (.Name x px)) pos.line X.env = pure false := by rfl) :
    PSs X (.Assign [.Name x px] (.Subscript (.Name l p1) e p8) pos :: rest) (tSeq (tAsg (tIx il te) (gName ix)) u) := by
  refine ⟨fun pins s σ H D I h => ?_⟩
  have h : tIx il te σ H fun x H1 => u D (σ.set ix (some x)) H1 := h
  unfold tIx at h
  split at h
  · rename_i z e1
    obtain ⟨hlim, h⟩ := h
    refine wpAny_execs_cons (wpAny_Assign_Name (Subscript_ (raw_name hNl hvl I e1 (fun v r => ?_) hdl hcl)) hs)
    obtain ⟨tz, rfl⟩ := r
    refine thn (he.run pins s σ H _ I h) fun w s2 hq => ?_
    obtain ⟨⟨y, H2, I2, ry, q⟩, h1t⟩ := hq
    cases y with
    | int i =>
      obtain ⟨ti, rfl⟩ := ry
      obtain ⟨c, hat, q⟩ := itm_e q
      obtain ⟨j, h1, h2, h3, h4, h5⟩ := atI_get hat
      have hl : z.cps.toList.length = z.length := by simp [Str.length]
      have hn := line63
      have hz : z.length ≤ sizeLine := by rw [len_tl]; exact hlim
      rw [hl] at h1 h4 h5
      refine tail_any (typeIs_str s2 z tz) slot_str_getitem.lookup (getItem_str (c := c) (by
        have e1 : decide (i < -(2 ^ 63 : Int)) = false := decide_eq_false (by omega)
        have e2 : decide (i ≥ 2 ^ 63) = false := decide_eq_false (by omega)
        rw [e1, e2, Bool.or_false]) (by rw [h1]; simpa using h2) ?_) (hix _ _)
      have I3 := I2.tok (s2.toks + 1)
      refine store_F (v := .str (S [c])) (ff := []) I3 hN hNx hkx ⟨s2.toks, rfl⟩ (FT.nil I3) (fun e he => nomatch he) fun s3 I4 hF2 ht2 => ?_
      refine hrest.run pins s3 _ H2 D I4 ⟨_, hF2, rfl, fun e he => ?_, by simp⟩ q
      obtain rfl := List.mem_singleton.mp he
      exact ⟨S [c], s2.toks, rfl, h1t, by rw [ht2]; exact Nat.lt_succ_of_lt (Nat.lt_succ_self _)⟩
    | _ => exact False.elim q
  · exact h.elim
/-! ### x.replace(o, '') -/
def rpE (c : Nat) (l : List Nat) : List Nat := l.filter fun a => !decide (a = c)
theorem replL_rpE (c : Nat) : ∀ l : List Nat, StrLaws.replL [c] [] l = rpE c l
  | [] => StrLaws.replL_nil
  | a :: l => by
    by_cases h : a = c
    · subst h
      rw [StrLaws.replL_hit (by simp) (by simp)]
      show [] ++ StrLaws.replL [a] [] l = _
      rw [replL_rpE a l]
      simp [rpE]
    · rw [StrLaws.replL_miss (by simp [h]), replL_rpE c l]
      simp [rpE, h]
theorem repl_SE (x : Str) (c : Nat) : Txt.replace x (S [c]) (S []) = S (rpE c (tl x)) := by
  refine ext_tl ?_
  have e := StrLaws.replace_list (x := x) (y := S [c]) (z := S []) (by rw [len_tl]; exact Nat.le_refl 1)
  exact e.trans (replL_rpE c (tl x))
def tRpE (ix io : Nat) : TE := fun σ H Q => match σ[ix]? with
  | some (some (.str x)) => (match σ[io]? with
    | some (some (.str y)) => (match tl y with
      | [c] => (tl x).length ≤ 1000000 ∧ Q (.str (S (rpE c (tl x)))) H
      | _ => False)
    | _ => False)
  | _ => False
theorem tRpE_e {ix io : Nat} {Q : VK} (h : tRpE ix io σ H Q) : ∃ x c, σ[ix]? = some (some (.str x)) ∧ σ[io]? = some (some (.str (S [c]))) ∧ (tl x).length ≤ 1000000 ∧ Q (.str (S (rpE c (tl x)))) H := by
  unfold tRpE at h
  split at h
  · rename_i x e1
    split at h
    · rename_i y e2
      split at h
      · rename_i c ey
        exact ⟨x, c, e1, by rw [e2, ← S_tl y, ey], h⟩
      · exact h.elim
    · exact h.elim
  · exact h.elim
theorem pek_replE {ns : List Str} {ix io : Nat} {x o : Str} {j : Nat} {p1 p2 p3 apos pos : Pos} (hNx : X.N[ix]? = some x := by rfl) (hvx : Vis X.env.scope x := by first | exact Or.inl rfl | exact Or.inr (Or.inl rfl) | exact Or.inr (Or.inr rfl)) (hNo : X.N[io]? = some o := by rfl) (hko : X.env.kindOf o = some .local := by rfl)
    (ho : o ∈ ns := by decide +kernel) (hdx : (x == ("__debug__" : Str)) = false := by decide +kernel) (hcx : (x == ("__classdict__" : Str)) = false := by decide +kernel) (hdo : (o == ("__debug__" : Str)) = false := by decide +kernel)
    (hst : starEach [.Name o p2, .Constant (.str (S [])) j p3] X.env = [(false, eval (.Name o p2) X.env), (false, eval (.Constant (.str (S [])) j p3) X.env)] := by rfl)
    (hbase : attributeBase (.Name x p1) "replace" X.env (eval (.Name x p1) X.env) = eval (.Name x p1) X.env := by rfl) (hline : (apos.endLine == pos.line) = true := by rfl) :
    PEK X ns (.Call (.Attribute (.Name x p1) "replace" apos) [.Name o p2, .Constant (.str (S [])) j p3] [] pos) (tRpE ix io) := by
  refine ⟨fun pins s σ H Q I k h => ?_⟩
  obtain ⟨z, c, e1, e2, hb, q⟩ := tRpE_e h
  obtain ⟨ff, hF, hns, htok, hnd⟩ := k
  refine wpAny_mono (wpAny_toks (Q := fun u s' => EP X pins σ Q u s' ∧ ∃ k : Nat, s' = { s with toks := k }) (PySem.Call_method2 hbase hst hline (raw_name hNx hvx I e1 (fun v r => ?_) hdx hcx))) (fun u s' hq => ?_) fun _ _ z => z.2
  · obtain ⟨tx, rfl⟩ := r
    refine ⟨"str", _, F.plainAttrs_str, F.slot_str_replace, F.type_str_replace, typeIs_str _ _ _, (fun _ e => nomatch e), Calls.callWith_builtin rfl (Calls.evalArgs_plain (Calls.spliced_cons ?_))⟩
    refine tk_name hF hns htok ho hNo hko I e2 (fun t h1 h2 hm1 => ?_) hdo
    refine Calls.spliced_cons (Calls.Constant_str ?_)
    refine Calls.spliced_nil ?_
    refine PySem.SC.replace (show t ≠ (0 : Nat) from by omega) (show s.toks ≠ (0 : Nat) from by omega) (show t ≠ s.toks from by omega) (by simp only [beq_eq_false_iff_ne]; exact fun z => absurd (congrArg (fun y : Str => (tl y).length) z) (show ¬ (1 = 0) by decide)) (by
      have : (S []).length = 0 := by rw [len_tl]; rfl
      rw [this, len_tl]; omega) fun t' k => ⟨⟨.str (S (rpE c (tl z))), H, I.tok k, ⟨t', by rw [repl_SE]⟩, q⟩, k, rfl⟩
  · obtain ⟨hle, he, k, rfl⟩ := hq
    exact ⟨he, ff, hF, hns, fun e he => (let ⟨x, t, a, b, c⟩ := htok e he; ⟨x, t, a, b, Nat.lt_of_lt_of_le c hle⟩), hnd⟩
end
end Ta

set_option Elab.async false
set_option linter.all false
set_option maxRecDepth 100000
set_option maxHeartbeats 1000000
namespace Ta
open PySem PySem.Spec PyProof.Rows L2

/-! ### the part ahead of a sign -/
def bef (c : Nat) (l : List Nat) : List Nat := l.takeWhile fun a => !decide (a = c)
def fnd (c : Nat) (l : List Nat) : Int := if c ∈ l then ((bef c l).length : Int) else -1
theorem bef_at {c : Nat} : ∀ {l : List Nat} {i : Nat}, l[i]? = some c → (∀ k, k < i → ¬ l[k]? = some c) → (bef c l).length = i ∧ l.take i = bef c l
  | [], i, h, _ => by simp at h
  | a :: l, 0, h, _ => by
    have e : a = c := by simpa using h
    subst e
    simp [bef]
  | a :: l, i + 1, h, hk => by
    have e : ¬ a = c := fun z => hk 0 (Nat.succ_pos _) (by simp [z])
    obtain ⟨h1, h2⟩ := bef_at (l := l) (i := i) (by simpa using h) fun k hk' => by
      have := hk (k + 1) (by omega)
      simpa using this
    have e2 : bef c (a :: l) = a :: bef c l := by simp [bef, e]
    rw [e2]
    exact ⟨by simp [h1], by simp [h2]⟩
theorem bef_no {c : Nat} : ∀ {l : List Nat}, ¬ c ∈ l → bef c l = l
  | [], _ => rfl
  | a :: l, h => by
    have e : ¬ a = c := fun z => h (by simp [z])
    have e2 : bef c (a :: l) = a :: bef c l := by simp [bef, e]
    rw [e2, bef_no fun z => h (List.mem_cons_of_mem _ z)]
theorem bef_le (c : Nat) (l : List Nat) : (bef c l).length ≤ l.length := (List.takeWhile_sublist _).length_le
theorem at_one (l : List Nat) (c i : Nat) : StrLaws.At (S l) (S [c]) (S l).length i ↔ l[i]? = some c := StrLaws.subAt_one (S l) c i
theorem find_one (l : List Nat) (c : Nat) : Txt.find (S l) (S [c]) = fnd c l := by
  unfold fnd
  rcases find_whole (S l) (S [c]) with ⟨h1, h2⟩ | ⟨i, h1, h2, h3⟩
  · rw [h1, if_neg]
    intro hm
    obtain ⟨i, hi⟩ := List.mem_iff_getElem?.mp hm
    exact h2 i ((at_one l c i).mpr hi)
  · have hi := (at_one l c i).mp h2
    rw [h1, if_pos (List.mem_iff_getElem?.mpr ⟨i, hi⟩), (bef_at hi fun k hk z => h3 k hk ((at_one l c k).mpr z)).1]
theorem part_one (l : List Nat) (c : Nat) : (Txt.partition (S l) (S [c])).1 = S (bef c l) := by
  have hf := find_one l c
  unfold Txt.find at hf
  unfold Txt.partition
  revert hf
  cases e : Builtin.Str.occurrences (S l) (S [c]) 0 (S l).length 1 with
  | nil =>
    intro hf
    have hn : ¬ c ∈ l := fun z => by
      unfold fnd at hf
      rw [if_pos z] at hf
      have hf : (-1 : Int) = ((bef c l).length : Int) := hf
      omega
    rw [bef_no hn]
  | cons i r =>
    intro hf
    have hf : (i : Int) = fnd c l := hf
    unfold fnd at hf
    by_cases hm : c ∈ l
    · rw [if_pos hm] at hf
      have e2 : i = (bef c l).length := by omega
      refine ext_tl ?_
      have e3 : bef c l = l.take (bef c l).length := List.prefix_iff_eq_take.mp (List.takeWhile_prefix _)
      show ((S l).cps.extract 0 i).toList = bef c l
      rw [Array.toList_extract, e2]
      simp
      exact e3.symm
    · rw [if_neg hm] at hf; omega
section
variable {X : Cx}
def zFind : V → List V → Hp → VK → Prop := fun x xs H Q => match x with
  | .str a => one xs fun y => (match y with
    | .str b => (match tl b with
      | [c] => Q (.int (fnd c (tl a))) H
      | _ => False)
    | _ => False)
  | _ => False
theorem mtfind : MtR X "str.find" zFind := mt_imp mt_find fun x xs H Q h => by
  cases x with
  | str a =>
    obtain ⟨y, rfl, h⟩ := one_e h
    cases y with
    | str b =>
      have h : (match tl b with
        | [c] => Q (.int (fnd c (tl a))) H
        | _ => False) := h
      split at h
      · rename_i c e
        refine ⟨a, b, rfl, rfl, ?_⟩
        have := find_one (tl a) c
        rw [S_tl, ← e, S_tl] at this
        rw [this]; exact h
      · exact h.elim
    | _ => exact h.elim
  | _ => exact h.elim
/-- of its parts the first one is told -/
def zPartition : V → List V → Hp → VK → Prop := fun x xs H Q => match x with
  | .str a => one xs fun y => (match y with
    | .str b => (match tl b with
      | [c] => Lim (tl a).length ∧ ∀ p y1 y2, H p = none → Q (.ref p) (upd H p (.tup [.str (S (bef c (tl a))), .str y1, .str y2]))
      | _ => False)
    | _ => False)
  | _ => False
theorem mtpart : MtR X "str.partition" zPartition := mt_imp mt_partition fun x xs H Q h => by
  cases x with
  | str a =>
    obtain ⟨y, rfl, h⟩ := one_e h
    cases y with
    | str b =>
      have h : (match tl b with
        | [c] => Lim (tl a).length ∧ ∀ p y1 y2, H p = none → Q (.ref p) (upd H p (.tup [.str (S (bef c (tl a))), .str y1, .str y2]))
        | _ => False) := h
      split at h
      · rename_i c e
        refine ⟨a, b, rfl, rfl, by rw [len_tl, e]; rfl, by rw [len_tl]; exact h.1, fun p hp => ?_⟩
        have := part_one (tl a) c
        rw [S_tl, ← e, S_tl] at this
        rw [this]; exact h.2 p _ _ hp
      · exact h.elim
    | _ => exact h.elim
  | _ => exact h.elim
/-- list(x) -/
def zList (K : PySem.W.Frag) : List V → Hp → VK → Prop := fun xs H Q => one xs fun x => match x with
  | .ref p => look H p fun o => (match o with
    | some (.lst ys) => ∀ l, H l = none → Q (.ref l) (upd H l (.lst ys))
    | some (.tup ys) => ∀ l, H l = none → Q (.ref l) (upd H l (.lst ys))
    | some (.frz _ (.lst ys)) => ∀ l, H l = none → Q (.ref l) (upd H l (.lst ys))
    | _ => False)
  | _ => False
theorem crlist : CallR X (.type "list") (zList X.K) := cr_imp call_list_of fun xs H Q h => by
  obtain ⟨x, rfl, h⟩ := one_e h
  cases x with
  | ref p =>
    have h := look_e h
    cases e : H p with
    | none => rw [e] at h; exact h.elim
    | some o =>
      rw [e] at h
      cases o with
      | lst ys => exact ⟨p, ys, rfl, .inl (SqL.of e), h⟩
      | tup ys => exact ⟨p, ys, rfl, .inr (SqT.of e), h⟩
      | frz ob u =>
        cases u with
        | lst ys => exact ⟨p, ys, rfl, .inl (.inl (.inr ⟨_, e⟩)), h⟩
        | _ => exact h.elim
      | _ => exact h.elim
  | _ => exact h.elim
end
end Ta

set_option Elab.async false
set_option linter.all false
set_option maxRecDepth 100000
set_option maxHeartbeats 1000000
namespace Ta
open PySem PySem.Spec PyProof.Rows L2

/-! ### methods of lists -/
section
variable {X : Cx} {o e : Expr} {es : List Expr} {to : TE} {t : TA} {name : Str} {apos cpos : Pos} {T id : String}
abbrev RM := Addr → List V → Hp → VK → Prop
def lstAt (x : V) (H : Hp) (k : Addr → List V → Prop) : Prop := match x with
  | .ref p => look H p fun ob => (match ob with
    | some (.lst xs) => k p xs
    | _ => False)
  | _ => False
theorem lstAt_e {x : V} {H : Hp} {k : Addr → List V → Prop} (h : lstAt x H k) : ∃ p xs, x = .ref p ∧ H p = some (.lst xs) ∧ k p xs := by
  cases x with
  | ref p =>
    have h := look_e h
    cases e : H p with
    | none => rw [e] at h; exact h.elim
    | some ob =>
      rw [e] at h
      cases ob with
      | lst xs => exact ⟨p, xs, rfl, e, h⟩
      | _ => exact h.elim
  | _ => exact h.elim
def tLM (r : RM) (to : TE) (t : TA) : TE := fun σ H Q => to σ H fun x H1 => lstAt x H1 fun p _ => t σ H1 fun xs H2 => r p xs H2 Q
def tLM0 (r : RM) (to : TE) : TE := fun σ H Q => to σ H fun x H1 => lstAt x H1 fun p _ => r p [] H1 Q
def rOf (r : RM) : V → List V → Hp → VK → Prop := fun x vs H Q => ∃ p, x = .ref p ∧ r p vs H Q
theorem plm {r : RM} (slot : Slot "list" name id) (hty : typeOf (.builtin id) = pure (.type "method_descriptor")) (hm : MtR X id (rOf r)) (ho : PE X o to) (ha : PA X (e :: es) t)
    (hbase : attributeBase o name X.env (eval o X.env) = eval o X.env := by rfl)
    (hfew : ((backTo cpos (starEach (e :: es) X.env)).all (fun x => !x.1) && (backToKw cpos (keywordEach [] X.env)).all (fun x => x.1.isSome)
      && decide ((e :: es).length + ([] : List Keyword).length + (if ([] : List Keyword).isEmpty then 0 else 1) < 30)) = true := by rfl)
    (hline : (apos.endLine == cpos.line) = true := by rfl) (hs : starEach (e :: es) X.env = (false, eval e X.env) :: starEach es X.env := by rfl) (hplain : (backTo cpos (starEach es X.env)).any (·.1) = false := by rfl) :
    PE X (.Call (.Attribute o name apos) (e :: es) [] cpos) (tLM r to t) := by
  refine ⟨fun pins s σ H Q I h => ?_⟩
  refine wpAny_Call_method_late hbase hfew hline rfl (thn (ho.run pins s σ H _ I h) fun v s1 ⟨x, H1, I1, r1, q0⟩ => ?_)
  obtain ⟨p, xs, rfl, hp, q1⟩ := lstAt_e q0
  obtain ⟨h1, h2⟩ := tyV_is (T := "list") I1 r1 (.inl ⟨rfl, xs, SqL.of hp⟩)
  refine ⟨"list", id, PySem.F.plainAttrs_list, slot, hty, h1, h2, ?_⟩
  have hA := ha.run cpos pins s1 σ H1 _ I1 q1
  rw [hs] at hA ⊢
  refine Calls.callWith_builtin (by show (false || (backTo cpos (starEach es X.env)).any (·.1)) = false; rw [hplain] <;> rfl) (Calls.evalArgs_plain ?_)
  exact thn hA fun us s2 ⟨vs, H2, I2, r2, q2⟩ => hm pins s2 σ H2 _ vs v us Q I2 r1 r2 ⟨p, rfl, q2⟩
theorem plm0 {r : RM} (slot : Slot "list" name id) (hty : typeOf (.builtin id) = pure (.type "method_descriptor")) (hm : MtR X id (rOf r)) (ho : PE X o to)
    (hbase : attributeBase o name X.env (eval o X.env) = eval o X.env := by rfl) (hline : (apos.endLine == cpos.line) = true := by rfl) : PE X (.Call (.Attribute o name apos) [] [] cpos) (tLM0 r to) := by
  refine ⟨fun pins s σ H Q I h => ?_⟩
  refine wpAny_Call_method0_late hbase hline (thn (ho.run pins s σ H _ I h) fun v s1 ⟨x, H1, I1, r1, q0⟩ => ?_)
  obtain ⟨p, xs, rfl, hp, q1⟩ := lstAt_e q0
  obtain ⟨h1, h2⟩ := tyV_is (T := "list") I1 r1 (.inl ⟨rfl, xs, SqL.of hp⟩)
  exact ⟨"list", id, PySem.F.plainAttrs_list, slot, hty, h1, h2, Calls.callWith_builtin rfl (PySem.evalArgs_none (hm pins s1 σ H1 _ [] v [] Q I1 r1 .nil ⟨p, rfl, q1⟩))⟩
def lkl (H : Hp) (l : Addr) (k : List V → Prop) : Prop := look H l fun ob => match ob with
  | some (.lst xs) => k xs
  | _ => False
theorem lkl_e {H : Hp} {l : Addr} {k : List V → Prop} (h : lkl H l k) : ∃ xs, H l = some (.lst xs) ∧ k xs := by
  have h := look_e h
  cases e : H l with
  | none => rw [e] at h; exact h.elim
  | some ob =>
    rw [e] at h
    cases ob with
    | lst xs => exact ⟨xs, rfl, h⟩
    | _ => exact h.elim
def zAppP : RM := fun l vs H Q => one vs fun y => lkl H l fun xs => Lim (xs.length + 1) ∧ Q .non (upd H l (.lst (xs ++ [y])))
theorem mtapp : MtR X "list.append" (rOf zAppP) := mt_imp mt_append fun x vs H Q h => by
  obtain ⟨l, rfl, h⟩ := h
  obtain ⟨y, rfl, h⟩ := one_e h
  obtain ⟨xs, hl, h1, h2⟩ := lkl_e h
  exact ⟨l, xs, y, rfl, rfl, hl, h1, h2⟩
def zExtP : RM := fun l vs H Q => one vs fun y => match y with
  | .ref b => lkl H l fun xs => lkl H b fun zs => Lim (xs.length + zs.length) ∧ Q .non (upd H l (.lst (xs ++ zs)))
  | _ => False
theorem mtext : MtR X "list.extend" (rOf zExtP) := mt_imp mt_extend fun x vs H Q h => by
  obtain ⟨l, rfl, h⟩ := h
  obtain ⟨y, rfl, h⟩ := one_e h
  cases y with
  | ref b =>
    obtain ⟨xs, hl, h⟩ := lkl_e h
    obtain ⟨zs, hb, h1, h2⟩ := lkl_e h
    exact ⟨l, b, xs, zs, rfl, rfl, hl, hb, h1, h2⟩
  | _ => exact h.elim
def zPopP : RM := fun l vs H Q => match vs with
  | [] => lkl H l fun xs => itm xs ((xs.length : Int) - 1) fun y => Q y (upd H l (.lst xs.dropLast))
  | _ => False
theorem mtpop : MtR X "list.pop" (rOf zPopP) := mt_imp mt_pop fun x vs H Q h => by
  obtain ⟨l, rfl, h⟩ := h
  cases vs with
  | nil =>
    obtain ⟨xs, hl, h⟩ := lkl_e h
    obtain ⟨y, e, q⟩ := itm_e h
    obtain ⟨j, h1, h2, h3, h4, h5⟩ := atI_get e
    refine ⟨l, xs, y, rfl, rfl, hl, ?_, q⟩
    have : seqIndex? ((xs.length : Int) - 1) xs.length = some (xs.length - 1) := by
      have e : ((xs.length : Int) - 1) = ((xs.length - 1 : Nat) : Int) := by omega
      rw [e, PySem.StrLaws.seqIndex_nonneg (by omega) (by omega)]
      simp
    rw [this] at h1
    cases h1
    exact h2
  | cons a b => exact h.elim
def zPopAtP : RM := fun l vs H Q => one vs fun y => match y with
  | .int i => lkl H l fun xs => ∃ j, ixN xs.length i = some j ∧ Lim xs.length ∧ itm xs i fun y => Q y (upd H l (.lst (xs.eraseIdx j)))
  | _ => False
theorem mtpopat : MtR X "list.pop" (rOf zPopAtP) := mt_imp mt_popAt fun x vs H Q h => by
  obtain ⟨l, rfl, h⟩ := h
  obtain ⟨y, rfl, h⟩ := one_e h
  cases y with
  | int i =>
    obtain ⟨xs, hl, j, hj, hlim, h⟩ := lkl_e h
    obtain ⟨y, e, q⟩ := itm_e h
    obtain ⟨j', h1, h2, h3, h4, h5⟩ := atI_get e
    obtain ⟨h6, h7, h8, h9⟩ := ixN_seq hj
    rw [h6] at h1
    cases h1
    have hn := line63
    have hlim : xs.length ≤ sizeLine := hlim
    exact ⟨l, xs, i, j, y, rfl, rfl, hl, by omega, by omega, h6, h2, q⟩
  | _ => exact h.elim
def zRevP : RM := fun l vs H Q => match vs with
  | [] => lkl H l fun xs => Q .non (upd H l (.lst xs.reverse))
  | _ => False
theorem mtrev : MtR X "list.reverse" (rOf zRevP) := mt_imp mt_reverse fun x vs H Q h => by
  obtain ⟨l, rfl, h⟩ := h
  cases vs with
  | nil =>
    obtain ⟨xs, hl, h⟩ := lkl_e h
    exact ⟨l, xs, rfl, rfl, hl, h⟩
  | cons a b => exact h.elim
def zInsP : RM := fun l vs H Q => two vs fun x y => match x with
  | .int i => lkl H l fun xs => Lim (xs.length + 1) ∧ (0 ≤ i ∧ i < 1073741824) ∧ Q .non (upd H l (.lst (xs.take i.toNat ++ [y] ++ xs.drop i.toNat)))
  | _ => False
theorem mtins : MtR X "list.insert" (rOf zInsP) := mt_imp mt_insert fun x vs H Q h => by
  obtain ⟨l, rfl, h⟩ := h
  obtain ⟨x, y, rfl, h⟩ := two_e h
  cases x with
  | int i =>
    obtain ⟨xs, hl, h1, ⟨h2, h3⟩, q⟩ := lkl_e h
    exact ⟨l, xs, i, y, rfl, rfl, hl, h1, h2, by omega, q⟩
  | _ => exact h.elim
end
end Ta

set_option Elab.async false
set_option linter.all false
set_option maxRecDepth 100000
set_option maxHeartbeats 1000000
namespace Ta
open PySem PySem.Spec PyProof.Rows L2

theorem iteT {p q : Prop} (h : p) : if true = true then p else q := by rw [if_pos rfl]; exact h
theorem q_bl {Q : VK} {b c : Bool} {H : Hp} (e : b = c) (q : Q (.bl c) H) : Q (.bl b) H := by rw [e]; exact q
theorem q_v {Q : VK} {b c : V} {H : Hp} (e : b = c) (q : Q c H) : Q b H := by rw [e]; exact q
theorem q_H {Q : VK} {v : V} {H H' : Hp} (e : H = H') (q : Q v H') : Q v H := by rw [e]; exact q
theorem q_vH {Q : VK} {b c : V} {H H' : Hp} (e' : b = c) (e : H = H') (q : Q c H') : Q b H := by rw [e, e']; exact q
theorem Kp.get2 {p r : Addr} {H H' : Hp} {q : Addr} {o : HO} (a : Kp [p, r] H H') (h : H q = some o) (n : q ≠ p) (n2 : q ≠ r) : H' q = some o := a q o h fun z => by
  rcases List.mem_cons.mp z with z | z
  · exact n z
  · exact n2 (List.mem_singleton.mp z)
theorem ne_ho {H : Hp} {p q : Addr} {o o' : HO} (h : H p = some o) (h' : H q = some o') (n : o ≠ o') : p ≠ q := fun e => by
  subst e; rw [h] at h'; exact n (Option.some.inj h')
theorem cut_map {α β : Type} (f : α → β) (xs : List α) (lo hi : Option Int) : cut (xs.map f) lo hi = (cut xs lo hi).map f := by
  rw [← cut_eq0, ← cut_eq0]; unfold cut0; rw [List.length_map, ← List.map_drop, ← List.map_take]
theorem cut_one {α : Type} (xs : List α) (c : Nat) : cut xs (some (c : Int)) (some ((c : Int) + 1)) = (xs.drop c).take 1 := by
  have e : ((c : Int) + 1) = ((c + 1 : Nat) : Int) := by omega
  rw [e, cut_both, List.drop_take]
  congr 1; omega
theorem cut_fr1 {α : Type} (xs : List α) (c : Nat) : cut xs (some ((c : Int) + 1)) none = xs.drop (c + 1) := by
  have e : ((c : Int) + 1) = ((c + 1 : Nat) : Int) := by omega
  rw [e, cut_from]
theorem cut_t1 {α : Type} (xs : List α) : cut xs none (some (1 : Int)) = xs.take 1 := cut_to xs 1
/-- [e for x in xs], e pure -/
theorem lcp_M {n : Nat} {it : Itm} {st : Hp → Prop} {xs : List V} {i : Nat} {te : TE} {σ : St} {H1 : Hp} {Q : VK} {vs : List Nat} (hn : n = xs.length) (hit : ∀ k H x H', it k H x H' → H' = H ∧ xs[k]? = some x) (hst : ∀ D xs, H1 D = none → st (upd H1 D (.lst xs)))
    (f : V → V) (hl : xs.length < 1000000) (he : ∀ x D H' Q', H1 D = none → x ∈ xs → (∃ ys, H' = upd H1 D (.lst ys)) → Q' (f x) H' → te ((wipe σ vs).set i (some x)) H' Q')
    (hw : ∀ v, wipe ((wipe σ vs).set i v) vs = wipe σ vs) (q : ∀ D, H1 D = none → Q (.ref D) (upd H1 D (.lst (xs.map f)))) : lcp n it st (gName i) tYes te vs σ H1 Q := by
  subst hn
  refine lcp_i (fun D k H => H = upd H1 D (.lst ((xs.take k).map f))) (fun D hD => rfl) (fun D k H hD _ e => by rw [e]; exact hst D _ hD) ?_ ?_
  · rintro D k x H H' hD hk rfl hi
    obtain ⟨rfl, hc⟩ := hit _ _ _ _ hi
    refine ⟨hw _, ?_⟩
    unfold tYes; dsimp only
    rw [if_pos rfl]
    refine he x D _ _ hD (List.mem_of_getElem? hc) ⟨_, rfl⟩ ⟨_, upd_at, ?_, ?_⟩
    · rw [List.length_map, List.length_take, sizeLine_eq]; omega
    · rw [upd_tw, List.take_succ, hc]
      simp
  · rintro D H hD rfl
    rw [List.take_length]
    exact q D hD
/-- .. over a list that stands -/
theorem lcp_ML {xs : List V} {p : Addr} {i : Nat} {te : TE} {σ : St} {H1 : Hp} {Q : VK} {vs : List Nat} (hp : H1 p = some (.lst xs))
    (f : V → V) (hl : xs.length < 1000000) (he : ∀ x D H' Q', H1 D = none → x ∈ xs → (∃ ys, H' = upd H1 D (.lst ys)) → Q' (f x) H' → te ((wipe σ vs).set i (some x)) H' Q')
    (hw : ∀ v, wipe ((wipe σ vs).set i v) vs = wipe σ vs) (q : ∀ D, H1 D = none → Q (.ref D) (upd H1 D (.lst (xs.map f)))) : lcp xs.length (itL xs) (fun H' => H' p = some (.lst xs)) (gName i) tYes te vs σ H1 Q :=
  lcp_M rfl (fun k H x H' h => h) (fun D ys hD => upd_fr hD hp) f hl he hw q
/-- .. of a box that is drawn from: after k turns the box b(k) and the items -/
theorem lcp_B {n : Nat} {it : Itm} {st : Hp → Prop} {i : Nat} {te : TE} {σ : St} {H1 : Hp} {Q : VK} {vs : List Nat} (p : Addr) (hp : ∃ o, H1 p = some o) (Bx : HO → Prop) (P : V → Prop) (hb : ∀ o, H1 p = some o → Bx o) (hn : n < 1000000)
    (hit : ∀ k H x H', k < n → it k H x H' → H' = H) (hst : ∀ D xs o, H1 D = none → st (upd (upd H1 p o) D (.lst xs)))
    (he : ∀ k x D o ys Q', k < n → H1 D = none → D ≠ p → it k (upd (upd H1 p o) D (.lst ys)) x (upd (upd H1 p o) D (.lst ys)) → Bx o → (∀ v o', P v → Bx o' → Q' v (upd (upd (upd H1 p o) D (.lst ys)) p o')) → te ((wipe σ vs).set i (some x)) (upd (upd H1 p o) D (.lst ys)) Q')
    (hw : ∀ v, wipe ((wipe σ vs).set i v) vs = wipe σ vs) (q : ∀ D xs o, H1 D = none → D ≠ p → xs.length = n → (∀ v ∈ xs, P v) → Bx o → Q (.ref D) (upd (upd H1 p o) D (.lst xs))) : lcp n it st (gName i) tYes te vs σ H1 Q := by
  obtain ⟨o0, hp⟩ := hp
  refine lcp_i (fun D k H => ∃ xs o, xs.length = k ∧ (∀ v ∈ xs, P v) ∧ Bx o ∧ H = upd (upd H1 p o) D (.lst xs)) (fun D hD => ⟨[], o0, rfl, (fun _ z => nomatch z), hb _ hp, by rw [upd_self hp]⟩) (fun D k H hD _ e => by obtain ⟨xs, o, _, _, _, rfl⟩ := e; exact hst D _ _ hD) ?_ ?_
  · rintro D k x H H' hD hk ⟨xs, o, hl, hP, hB, rfl⟩ hi
    have e := hit _ _ _ _ hk hi
    subst e
    have hne : D ≠ p := fun e => by rw [e, hp] at hD; cases hD
    refine ⟨hw _, ?_⟩
    unfold tYes; dsimp only
    rw [if_pos rfl]
    refine he k x D o xs _ hk hD hne hi hB fun v o' hv hB' => ⟨xs, ?_, ?_, xs ++ [v], o', ?_, ?_, hB', ?_⟩
    · rw [upd_ne hne]; exact upd_at
    · rw [hl, sizeLine_eq]; omega
    · rw [List.length_append, hl]; rfl
    · intro w hw
      rcases List.mem_append.mp hw with h | h
      · exact hP w h
      · rw [List.mem_singleton.mp h]; exact hv
    · funext c
      unfold upd
      by_cases h1 : c = D
      · simp [h1, hne]
      · by_cases h2 : c = p
        · simp [h1, h2]
        · simp [h1, h2]
  · rintro D H hD ⟨xs, o, hl, hP, hB, rfl⟩
    have hne : D ≠ p := fun e => by rw [e, hp] at hD; cases hD
    exact q D xs o hD hne hl hP hB
theorem inV_str (a : Str) (l : List Str) : inV (.str a) (l.map V.str) = decide (a ∈ l) := by
  unfold inV
  induction l with
  | nil => rfl
  | cons b l ih =>
    rw [List.map_cons, List.any_cons, ih]
    show ((b == a) || decide (a ∈ l)) = _
    by_cases h : b = a
    · subst h; simp
    · have h2 : ¬ a = b := fun e => h e.symm
      simp [h, h2]
theorem inV2 (a b c : List Nat) : inV (.str (S a)) [.str (S b), .str (S c)] = (decide (a = b) || decide (a = c)) := by
  show inV (.str (S a)) ([S b, S c].map V.str) = _
  rw [inV_str]
  have e : ∀ x y : List Nat, (S x = S y) ↔ x = y := fun x y => ⟨fun h => congrArg tl h, fun h => by rw [h]⟩
  rw [← Bool.decide_or, decide_eq_decide]
  simp [e]
theorem loop_r {n : Nat} {lo : Int} {g : Nat} {tb : TS} {D : Ends} {σ : St} {H : Hp} (Pv : Nat → St → Hp → Prop) (h0 : Pv 0 σ H)
    (hs : ∀ i σ H, i < n → Pv i σ H → tb { D with nx := Pv (i + 1), ct := Pv (i + 1), bk := D.nx } (σ.set g (some (.int (lo + i)))) H) (hd : ∀ σ H, Pv n σ H → D.nx σ H) : loop n (itR lo) (fun _ => True) (gName g) tb D σ H := by
  refine loop_i Pv h0 (fun _ _ _ _ _ => trivial) ?_ hd
  rintro i x σ H H' hi hP ⟨rfl, rfl⟩
  exact hs i σ H' hi hP
theorem loop_s {l : List Nat} {g : Nat} {tb : TS} {D : Ends} {σ : St} {H : Hp} (Pv : Nat → St → Hp → Prop) (h0 : Pv 0 σ H)
    (hs : ∀ i (hi : i < l.length) σ H, Pv i σ H → tb { D with nx := Pv (i + 1), ct := Pv (i + 1), bk := D.nx } (σ.set g (some (.str (S [l[i]])))) H) (hd : ∀ σ H, Pv l.length σ H → D.nx σ H) : loop l.length (itS l) (fun _ => True) (gName g) tb D σ H := by
  refine loop_i Pv h0 (fun _ _ _ _ _ => trivial) ?_ hd
  rintro i x σ H H' hi hP ⟨rfl, c, hc, rfl⟩
  have e : c = l[i] := by rw [List.getElem?_eq_getElem hi] at hc; exact (Option.some.inj hc).symm
  subst e
  exact hs i hi σ H' hP
end Ta

set_option Elab.async false
set_option linter.all false
set_option maxRecDepth 100000
set_option maxHeartbeats 1000000
namespace Ta
open PySem PySem.Spec PyProof.Rows L2

/-- [e for x in cells], e a whole number by x -/
theorem lcp_I {cs : List Int} {p : Addr} {i : Nat} {te : TE} {σ : St} {H1 : Hp} {Q : VK} {vs : List Nat} (hp : H1 p = some (.lst (cs.map V.int)))
    (g : Int → Int) (hl : cs.length < 1000000) (he : ∀ c D H' Q', H1 D = none → c ∈ cs → (∃ ys, H' = upd H1 D (.lst ys)) → Q' (.int (g c)) H' → te ((wipe σ vs).set i (some (.int c))) H' Q')
    (hw : ∀ v, wipe ((wipe σ vs).set i v) vs = wipe σ vs) (q : ∀ D, H1 D = none → Q (.ref D) (upd H1 D (.lst ((cs.map g).map V.int)))) : lcp (cs.map V.int).length (itL (cs.map V.int)) (fun H' => H' p = some (.lst (cs.map V.int))) (gName i) tYes te vs σ H1 Q := by
  refine lcp_ML hp (fun v => match v with
    | .int c => .int (g c)
    | v => v) (by rw [List.length_map]; exact hl) ?_ hw ?_
  · rintro x D H' Q' hD hx hH hQ
    obtain ⟨c, hc, rfl⟩ := List.mem_map.mp hx
    exact he c D H' Q' hD hc hH hQ
  · intro D hD
    have e : (cs.map V.int).map (fun v => match v with
      | .int c => V.int (g c)
      | v => v) = (cs.map g).map V.int := by rw [List.map_map, List.map_map]; rfl
    rw [e]
    exact q D hD
/-- for x in a list that stands -/
theorem loop_l {xs : List V} {p : Addr} {g : Nat} {tb : TS} {D : Ends} {σ : St} {H : Hp} (Pv : Nat → St → Hp → Prop) (h0 : Pv 0 σ H) (hst : ∀ i σ H, i ≤ xs.length → Pv i σ H → H p = some (.lst xs))
    (hs : ∀ i (hi : i < xs.length) σ H, Pv i σ H → tb { D with nx := Pv (i + 1), ct := Pv (i + 1), bk := D.nx } (σ.set g (some xs[i])) H) (hd : ∀ σ H, Pv xs.length σ H → D.nx σ H) :
    loop xs.length (itL xs) (fun H' => H' p = some (.lst xs)) (gName g) tb D σ H := by
  refine loop_i Pv h0 hst ?_ hd
  rintro i x σ H H' hi hP ⟨rfl, hx⟩
  rw [List.getElem?_eq_getElem hi] at hx
  cases hx
  exact hs i hi σ H' hP
theorem Kp.fr {F : List Addr} {H H1 H2 : Hp} (a : Kp [] H H1) (b : Kp F H1 H2) (hF : ∀ z ∈ F, H z = Option.none) : Kp [] H H2 := fun z u hz _ => b z u (a z u hz (fun h => nomatch h)) (fun hm => by rw [hF z hm] at hz; cases hz)
theorem Kp.fu {H H1 : Hp} {p : Addr} {o : HO} (a : Kp [] H H1) (hp : H p = Option.none) : Kp [] H (upd H1 p o) := Kp.own a hp
theorem Kp.get3 {p r t : Addr} {H H' : Hp} {q : Addr} {o : HO} (a : Kp [p, r, t] H H') (h : H q = some o) (n : q ≠ p) (n2 : q ≠ r) (n3 : q ≠ t) : H' q = some o := a q o h (by simp [n, n2, n3])
theorem ne_x {H : Hp} {p q : Addr} (hp : H p = none) (h : ∃ o, H q = some o) : p ≠ q := by
  obtain ⟨o, h⟩ := h
  exact ne_none' h hp
theorem ne_y {H : Hp} {p q : Addr} (hp : H p = none) (h : ∃ o, H q = some o) : q ≠ p := (ne_x hp h).symm
theorem itm_z0 {α : Type} {x : α} {xs : List α} {i : Int} {k : α → Prop} (e : i = 0) (q : k x) : itm (x :: xs) i k := itm_n (j := 0) e rfl q
theorem itm_z1 {α : Type} {x y : α} {xs : List α} {i : Int} {k : α → Prop} (e : i = 1) (q : k y) : itm (x :: y :: xs) i k := itm_n (j := 1) e rfl q
theorem itm_2 {α : Type} {x y : α} {i : Int} {k : α → Prop} (h0 : 0 ≤ i) (h1 : i < 2) (q0 : i = 0 → k x) (q1 : i = 1 → k y) : itm [x, y] i k := by
  have : i = 0 ∨ i = 1 := by omega
  rcases this with e | e
  · exact itm_z0 e (q0 e)
  · exact itm_z1 e (q1 e)
theorem itm_3 {α : Type} {x y z : α} {i : Int} {k : α → Prop} (h0 : 0 ≤ i) (h1 : i < 3) (q0 : i = 0 → k x) (q1 : i = 1 → k y) (q2 : i = 2 → k z) : itm [x, y, z] i k := by
  have : i = 0 ∨ i = 1 ∨ i = 2 := by omega
  rcases this with e | e | e
  · exact itm_z0 e (q0 e)
  · exact itm_z1 e (q1 e)
  · exact itm_n (j := 2) e rfl (q2 e)
theorem loop_r2 {lo : Int} {g : Nat} {tb : TS} {D : Ends} {σ : St} {H : Hp}
    (h : tb { D with nx := fun σ' H' => tb { D with nx := D.nx, ct := D.nx, bk := D.nx } (σ'.set g (some (.int (lo + 1)))) H', ct := fun σ' H' => tb { D with nx := D.nx, ct := D.nx, bk := D.nx } (σ'.set g (some (.int (lo + 1)))) H', bk := D.nx } (σ.set g (some (.int lo))) H) :
    loop 2 (itR lo) (fun _ => True) (gName g) tb D σ H := by
  refine loop_r (fun i σ' H' => match i with
    | 0 => σ' = σ ∧ H' = H
    | 1 => tb { D with nx := D.nx, ct := D.nx, bk := D.nx } (σ'.set g (some (.int (lo + 1)))) H'
    | _ => D.nx σ' H') ⟨rfl, rfl⟩ ?_ ?_
  · rintro i σ' H' hi hP
    match i, hi, hP with
    | 0, _, hP =>
      obtain ⟨rfl, rfl⟩ := hP
      have e : lo + ((0 : Nat) : Int) = lo := by omega
      rw [e]
      exact h
    | 1, _, hP => exact hP
  · exact fun σ' H' h => h
theorem itm_0 {α : Type} {x : α} {xs : List α} {k : α → Prop} (q : k x) : itm (x :: xs) 0 k := itm_n (j := 0) rfl rfl q
theorem itm_1 {α : Type} {x y : α} {xs : List α} {k : α → Prop} (q : k y) : itm (x :: y :: xs) 1 k := itm_n (j := 1) rfl rfl q
end Ta

set_option Elab.async false
set_option linter.all false
set_option maxRecDepth 100000
set_option maxHeartbeats 1000000
namespace Ta
open PySem PySem.Spec PyProof.Rows L2

section
variable {X : Cx}
/-! ### list(x), x a text too -/
def zListX (K : PySem.W.Frag) : List V → Hp → VK → Prop := fun xs H Q => one xs fun x => match x with
  | .str z => (tl z).length ≤ 1000000 ∧ ∀ l, H l = none → Q (.ref l) (upd H l (.lst (sgn (tl z))))
  | .ref p => look H p fun o => (match o with
    | some (.lst ys) => ∀ l, H l = none → Q (.ref l) (upd H l (.lst ys))
    | some (.tup ys) => ∀ l, H l = none → Q (.ref l) (upd H l (.lst ys))
    | some (.frz _ (.lst ys)) => ∀ l, H l = none → Q (.ref l) (upd H l (.lst ys))
    | _ => False)
  | _ => False
theorem crlistX (hcalm : X.calm = true) : CallR X (.type "list") (zListX X.K) := by
  intro pins s σ H xs us Q I r q
  obtain ⟨x, rfl, q1⟩ := one_e q
  cases x with
  | str z =>
    obtain ⟨h1, q1⟩ := q1
    obtain ⟨u, eu, rx⟩ := vals1 r
    subst eu
    obtain ⟨t, rfl⟩ := rx
    have hsz : z.cps.size = (tl z).length := by simp [tl]
    refine PySem.call_list_str (I.ok.hd hcalm) z t (fun h' tk acc' c' hk hS hacc => ?_) (by rw [hsz, sizeLine_eq]; omega)
    have hal : acc'.toList.length = (one1 (tl z)).length := by rw [Array.length_toList, hacc.1, hsz]; simp [one1]
    have hSt : StrsAre acc'.toList (one1 (tl z)) := L2.strs_at hal fun j v e => by
      obtain ⟨c, u, e1, e2⟩ := hacc.2 j v (by rw [← Array.getElem?_toList]; exact e)
      exact ⟨S [c], u, by simp [one1, tl, e1], e2⟩
    have ev : (one1 (tl z)).map V.str = sgn (tl z) := by unfold sgn one1; rw [List.map_map]; rfl
    have hlen : (sgn (tl z)).length ≤ sizeLine := by unfold sgn; rw [List.length_map, sizeLine_eq]; omega
    exact ⟨.ref s.heap.objs.size, _, I.laid (t' := tk) hk (Nat.le_refl _) (show ObjOk X.prog X.w _ h' _ (.lst (sgn (tl z))) from ⟨hlen, acc'.toList, c', by rw [← ev]; exact vals_of_strs hSt, hS⟩), rfl, q1 _ (I.hok.fresh (Nat.le_refl _))⟩
  | ref p => exact crlist pins s σ H [.ref p] us Q I r q
  | _ => exact False.elim q1
/-! ### list(range(n)) -/
variable {a b : Expr} {ta tb : TE}
abbrev TRg := St → Hp → (Int → Int → Hp → Prop) → Prop
def tRa (ta : TE) : TRg := fun σ H Q => ta σ H fun x H1 => match x with
  | .int n => Q 0 n H1
  | _ => False
def tRb (ta tb : TE) : TRg := fun σ H Q => ta σ H fun x H1 => tb σ H1 fun y H2 => match x with
  | .int n => (match y with
    | .int m => Q n m H2
    | _ => False)
  | _ => False
theorem prga {p pos : Pos} (hm : X.mg "range" = none) (ha : PE X a ta) (hg : Gl X "range" := by rfl) (na : starEach [a] X.env = (false, eval a X.env) :: starEach [] X.env := by rfl) : PRg X (.Call (.Name "range" p) [a] [] pos) (tRa ta) := by
  intro pins s σ H Q I h
  refine Call_ (ld_blt I hg hm boot_range (PyProof.Rows.callWith_type1 (one_arg ha I h (fun v s2 x H2 I2 r q => ?_) na) na))
  cases x with
  | int n =>
    obtain ⟨t, rfl⟩ := r
    exact call_range_1 ⟨_, 0, n, _, _, _, H2, rfl, IsRange.new _ _ _ _ _ _ _, I2.kept fun b u e => Heap.get?_push_of_some _ e, q⟩
  | _ => exact False.elim q
theorem prgb {p pos : Pos} (hm : X.mg "range" = none) (ha : PE X a ta) (hb : PE X b tb) (hg : Gl X "range" := by rfl) (na : starEach [a, b] X.env = (false, eval a X.env) :: starEach [b] X.env := by rfl)
    (nb : starEach [b] X.env = (false, eval b X.env) :: starEach [] X.env := by rfl) (hp : ∀ pos, (backTo pos (starEach [b] X.env)).any (·.1) = false := by exact fun _ => rfl) : PRg X (.Call (.Name "range" p) [a, b] [] pos) (tRb ta tb) := by
  intro pins s σ H Q I h
  refine Call_ (ld_blt I hg hm boot_range (PyProof.Rows.callWith_type1 (args_cons (thn (ha.run pins s σ H _ I h) fun v s1 ⟨x, H1, I1, r1, q1⟩ => one_arg hb I1 q1 (fun u s2 y H2 I2 r2 q => ?_) nb) na) na (hp _)))
  cases x with
  | int i =>
    cases y with
    | int j =>
      obtain ⟨t, rfl⟩ := r1
      obtain ⟨t', rfl⟩ := r2
      exact call_range_2 ⟨_, i, j, _, _, _, H2, rfl, IsRange.new _ _ _ _ _ _ _, I2.kept fun b u e => Heap.get?_push_of_some _ e, q⟩
    | _ => exact False.elim q
  | _ => exact False.elim q
theorem plrg {e : Expr} {te : TRg} {p pos : Pos} (hc : X.calm = true) (hm : X.mg "list" = none) (he : PRg X e te) (hg : Gl X "list" := by rfl) (na : starEach [e] X.env = (false, eval e X.env) :: starEach [] X.env := by rfl) : PE X (.Call (.Name "list" p) [e] [] pos) (tLstRg te) := pe_listRg hc hg hm he na
theorem rg_ok {a b : Int} (h0 : 0 ≤ a) (h1 : b ≤ 1000000) (h2 : a ≤ 1000000) (h3 : 0 ≤ b) : RgOk a b := RgOk.of_le h0 (by omega) (by omega) h3
end
end Ta

set_option Elab.async false
set_option linter.all false
set_option maxRecDepth 100000
set_option maxHeartbeats 1000000
namespace Ta
open PySem PySem.Spec PyProof.Rows L2

section
variable {X : Cx}
/-! ### match e: texts, then anything -/
abbrev TM := V → TS
structure PMs (X : Cx) (cs : List MatchCase) (t : TM) : Prop where
  run : ∀ (first : Bool) (pins : List (Addr × Obj)) (s : Shared) (σ : St) (H : Hp) (D : Ends) (x : V) (v : Value), Inv X pins σ H s → RelV x v → t x D σ H → wpAny (model X.prog X.w) X.A (matchCases cs X.env v first) (SP X pins D) X.xe s
def mWild (t : TS) : TM := fun _ => t
def mVal (l : List Nat) (t : TS) (r : TM) : TM := fun x D σ H => match x with
  | .str a => cnd (decide (tl a = l)) (t D σ H) (r x D σ H)
  | _ => False
def tMat (te : TE) (tm : TM) : TS := fun D σ H => te σ H fun x H1 => tm x D σ H1
variable {body : List Stmt} {t : TS} {r tm : TM} {rest cs : List MatchCase} {p1 p2 pos : Pos} {e : Expr} {te : TE}
theorem pms_wild (h : PSs X body t) : PMs X [⟨.MatchAs none none p1, none, body⟩] (mWild t) := by
  refine ⟨fun first pins s σ H D x v I rx q => ?_⟩
  unfold matchCases
  refine wpAny_bind (wpAny_holding ?_)
  unfold matchPattern
  refine wpAny_pure ?_
  refine wpAny_bind (wpAny_holding ?_)
  refine wpAny_pure ?_
  exact h.run pins s σ H D I q
theorem pms_val (l : List Nat) {y : Str} {j : Nat} (hb : PSs X body t) (hr : PMs X rest r) (hy : y = S l := by decide +kernel) : PMs X (⟨.MatchValue (.Constant (.str y) j p1) p2, none, body⟩ :: rest) (mVal l t r) := by
  subst hy
  refine ⟨fun first pins s σ H D x v I rx q => ?_⟩
  cases x with
  | str a =>
    unfold matchCases
    refine wpAny_bind (wpAny_holding ?_)
    unfold matchPattern
    refine wpAny_bind (thn ((pe_str (X := X) (x := S l) (j := j) (pos := p1)).run pins s σ H (fun z H' => z = .str (S l) ∧ H' = H) I ⟨rfl, rfl⟩) fun u s1 hu => ?_)
    obtain ⟨z, H1, I1, rz, e1, e2⟩ := hu
    subst e1
    subst e2
    refine wpAny_bind (wpAny_standAt ?_)
    have hs : rEq (.str a) (.str (S l)) H1 fun z H' => z = .bl (decide (tl a = l)) ∧ H' = H1 := by
      refine ⟨rfl, ?_, rfl⟩
      have : decide (V.str a = V.str (S l)) = decide (tl a = l) := decide_eq_decide.mpr ⟨fun z => by injection z with z; rw [z], fun z => by rw [← z, S_tl]⟩
      rw [this]
    refine wpAny_bind (thn (op_eq pins s1 σ H1 (.str a) (.str (S l)) v u _ I1 rx rz hs) fun c s2 hc => ?_)
    obtain ⟨z2, H2, I2, rz2, e3, e4⟩ := hc
    subst e3
    subst e4
    cases rz2
    refine wpAny_bind (wpAny_truthy_bool ?_)
    have q := cnd_e q
    by_cases hk : tl a = l
    · rw [decide_eq_true hk] at q ⊢
      refine wpAny_pure ?_
      refine wpAny_bind (wpAny_holding ?_)
      refine wpAny_pure ?_
      exact hb.run pins s2 σ H2 D I2 q
    · rw [decide_eq_false hk] at q ⊢
      refine wpAny_pure ?_
      exact hr.run false pins s2 σ H2 D (.str a) v I2 rx q
  | _ => exact False.elim q
theorem psmat (he : PE X e te) (h : PMs X cs tm) : PS X (.Match e cs pos) (tMat te tm) := by
  refine ⟨fun pins s σ H D I q => ?_⟩
  show wpAny _ _ (standAt pos >>= fun _ => eval e X.env >>= fun v => matchCases cs X.env v true) _ _ _
  refine wpAny_bind (wpAny_standAt ?_)
  refine wpAny_bind (thn (he.run pins s σ H _ I q) fun v s1 hv => ?_)
  obtain ⟨x, H1, I1, rx, q1⟩ := hv
  exact h.run true pins s1 σ H1 D x v I1 rx q1
end
end Ta

set_option Elab.async false
set_option linter.all false
set_option maxRecDepth 100000
set_option maxHeartbeats 3200000
namespace Ta
open PySem PySem.Spec PyProof.Rows L2

/-! ### sets of texts whose table rises -/
def txOf (z : Int × Value) : Str := match z.2 with | .str y _ => y | _ => Str.empty
def GoodT (P : Program) (w : World) (z : Int × Value) : Prop := ∃ y u, z.2 = Value.str y u ∧ z.1 = (strKind P w).hash y
/-- the set of texts at p: T its members, m their number -/
def SetT (P : Program) (w : World) (hp : Heap) (p : Addr) (T : Str → Bool) (m : Nat) : Prop :=
  ∃ ob xs n tb, hp.get? p = some ob ∧ ob.ExactSet ∧ ob.data = .set xs n tb ∧ ((∀ z ∈ xs.toList, GoodT P w z) ∧ (xs.toList.map txOf).Nodup ∧ ∀ y, T y = true ↔ y ∈ xs.toList.map txOf) ∧
    (xs.size < scanBound ∧ tb.fits xs.size = true ∧ xs.size = m) ∧ Ris tb.place.toList ∧ (w.params.followText "set-order" = true ∨ tb.led = true)
section
variable {P : Program} {w : World} {hp hp' : Heap} {p : Addr} {T : Str → Bool} {m : Nat}
theorem goodT_el {l : List (Int × Value)} (g : ∀ z ∈ l, GoodT P w z) : ElemsOf (strKind P w) l := fun z hz => by
  obtain ⟨y, u, e1, e2⟩ := g z hz
  exact ⟨⟨y, by rw [e1]; exact strKind_is P w y u, e2⟩, by rw [e1] <;> rfl⟩
theorem goodT_is {z : Int × Value} (g : GoodT P w z) (y : Str) : (strKind P w).is y z.2 = true ↔ txOf z = y := by
  obtain ⟨x, u, e1, _⟩ := g
  unfold txOf
  rw [e1]
  show ((x == y) = true) ↔ x = y
  exact beq_iff_eq
theorem goodT_mem {l : List (Int × Value)} (g : ∀ z ∈ l, GoodT P w z) (y : Str) : y ∈ l.map txOf ↔ ∃ z ∈ l, (strKind P w).is y z.2 = true := by
  rw [List.mem_map]
  exact ⟨fun ⟨z, hz, q⟩ => ⟨z, hz, (goodT_is (g z hz) y).2 q⟩, fun ⟨z, hz, q⟩ => ⟨z, hz, (goodT_is (g z hz) y).1 q⟩⟩
theorem SetT.kept (R : SetT P w hp p T m) (k : ∀ ob, hp.get? p = some ob → hp'.get? p = some ob) : SetT P w hp' p T m := by
  obtain ⟨ob, xs, n, tb, h1, r⟩ := R
  exact ⟨ob, xs, n, tb, k ob h1, r⟩
theorem SetT.same {T' : Str → Bool} {m' : Nat} (R : SetT P w hp p T m) (e : ∀ y, T' y = T y) (em : m = m') : SetT P w hp p T' m' := by
  have : T' = T := funext e
  rw [this, ← em]; exact R
end
section
variable {P : Program} {w : World} {A : Around} {E : Value → Shared → Prop} {s : Shared} {p : Addr} {T : Str → Bool} {m : Nat}
theorem setT_tail {g : Bool → Sem Unit} (hg : ∀ (b : Bool) (s1 : Shared) (Q1 : Unit → Shared → Prop), Q1 () s1 → wpAny (model P w) A (g b) Q1 E s1)
    {ob : Obj} {xs ys : Array (Int × Value)} {n : Nat} {tb tc : SetTable} (h1 : s.heap.get? p = some ob) (h2 : ob.ExactSet) (h3 : ob.data = .set xs n tb)
    {U : Str → Bool} (gd : (∀ z ∈ ys.toList, GoodT P w z) ∧ (ys.toList.map txOf).Nodup ∧ ∀ y, U y = true ↔ y ∈ ys.toList.map txOf) (sz : ys.size < scanBound) (ft : tc.fits ys.size = true) (ri : Ris tc.place.toList)
    (ld : w.params.followText "set-order" = true ∨ tc.led = true) {dum : Bool} {R : Option Bool → Shared → Prop} (hR : ∀ h', Heap.SameBut p s.heap h' → SetT P w h' p U ys.size → R (some true) { s with heap := h' }) :
    wpAny (model P w) A (do
        storeSet p ys tc
        if (!dum && tc.tooFull) = true then do
            g (relayAll tc ys (SetTable.grown ys.size)).2.2
            storeSet p (relayAll tc ys (SetTable.grown ys.size)).1 (relayAll tc ys (SetTable.grown ys.size)).2.1
            pure (some true)
          else pure (some true)) R E s := by
  obtain ⟨gd1, gd2, gd3⟩ := gd
  refine wpAny_bind (wpAny_storeSet_of h1 h3 ?_ (fits_of_scanBound sz))
  have k1 := store_at (es' := ys) (t' := tc) h1 h3
  have b1 := Heap.SameBut.update s.heap p (Obj.putSet ys tc)
  split
  · have v1 := relayAll_perm tc ys (SetTable.grown ys.size)
    have v2 := relayAll_fits tc ys (SetTable.grown ys.size)
    have v3 := relayAll_ris tc ys (SetTable.grown ys.size)
    have v4 := relayAll_led tc ys (SetTable.grown ys.size)
    generalize relayAll tc ys (SetTable.grown ys.size) = Y at v1 v2 v3 v4 ⊢
    obtain ⟨zs, td, gave⟩ := Y
    dsimp only at v1 v2 v3 v4 ⊢
    have sz2 : zs.size = ys.size := by rw [← Array.length_toList, v1.length_eq, Array.length_toList]
    have sz3 : zs.size < scanBound := by rw [sz2]; exact sz
    refine wpAny_bind (hg _ _ _ ?_)
    refine wpAny_bind (wpAny_storeSet_of k1 rfl ?_ (fits_of_scanBound sz3))
    have k2 := store_at (es' := zs) (t' := td) k1 rfl
    refine wpAny_pure (hR _ (b1.trans (Heap.SameBut.update _ p _)) ⟨_, zs, _, td, k2, h2, rfl, ⟨fun z hz => gd1 z (v1.mem_iff.mp hz), (v1.map txOf).nodup_iff.mpr gd2, fun y => (gd3 y).trans (v1.map txOf).mem_iff.symm⟩, ⟨sz3, v2, sz2⟩, v3, ld.imp id fun z => by rw [v4]; exact z⟩)
  · exact wpAny_pure (hR _ b1 ⟨_, ys, _, tc, k1, h2, rfl, ⟨gd1, gd2, gd3⟩, ⟨sz, ft, rfl⟩, ri, ld⟩)
theorem setT_add {y : Str} {u : Tok} {Q : Bool → Shared → Prop} (R : SetT P w s.heap p T m) (room : m + 1 < scanBound)
    (hQ : ∀ h', Heap.SameBut p s.heap h' → SetT P w h' p (fun x => T x || decide (x = y)) (if T y = true then m else m + 1) → Q (!T y) { s with heap := h' }) :
    wpAny (model P w) A (setAddHashed p (.str y u) ((strKind P w).hash y)) Q E s := by
  obtain ⟨ob, xs, n, tb, h1, h2, h3, ⟨g1, g2, g3⟩, ⟨c1, c2, c3⟩, ri, ld⟩ := R
  have hkey : (strKind P w).is y (.str y u) = true := strKind_is P w y u
  have hsc : (Value.str y u).scannable = true := rfl
  have hel : ElemsOf (strKind P w) xs.toList := goodT_el g1
  unfold setAddHashed setAddHashedIn
  refine wpAny_holding (wpAny_bind (wpAny_setState_of h1 h3 c2 ?_))
  dsimp only
  rw [byScan_of hsc c1 hel]
  simp only [↓reduceIte]
  unfold setAddByScan
  refine wpAny_bind ?_
  refine wpAny_bind (wpAny_rule ?_)
  refine wpAny_bind (wpAny_setScan_of hkey h1 h3 c2 hel ?_)
  cases hfi : List.findIdx? (fun z => (strKind P w).is y z.2) xs.toList with
  | some j =>
    dsimp only
    obtain ⟨hj, pj, _⟩ := List.findIdx?_eq_some_iff_getElem.mp hfi
    have hT : T y = true := (g3 y).2 ((goodT_mem (P := P) (w := w) g1 y).2 ⟨xs.toList[j], List.getElem_mem hj, pj⟩)
    refine wpAny_pure (wpAny_pure ?_)
    have q := hQ s.heap (Heap.SameBut.refl p s.heap) ⟨ob, xs, n, tb, h1, h2, h3, ⟨g1, g2, fun i => by
      rw [Bool.or_eq_true, decide_eq_true_eq, ← g3 i]
      exact ⟨fun z => z.elim id (fun e => e ▸ hT), .inl⟩⟩, ⟨c1, c2, by rw [if_pos hT]; exact c3⟩, ri, ld⟩
    rw [hT] at q
    exact q
  | none =>
    dsimp only
    have hny : y ∉ xs.toList.map txOf := fun z => by
      obtain ⟨e, he, q⟩ := (goodT_mem (P := P) (w := w) g1 y).1 z
      have c := List.findIdx?_eq_none_iff.mp hfi e he
      rw [q] at c
      cases c
    have hT : T y = false := by
      cases q : T y with
      | false => rfl
      | true => exact absurd ((g3 y).1 q) hny
    have hgw : ∀ (b : Bool) {s1 : Shared} {Q1 : Unit → Shared → Prop}, Q1 () s1 → wpAny (model P w) A (match b with | true => rule "set.scan.the-table-gave-way" | false => pure ()) Q1 E s1 := by
      intro b s1 Q1 q
      cases b
      · exact wpAny_pure q
      · exact wpAny_rule q
    have v1 := layNew_perm tb xs ((strKind P w).hash y) (.str y u)
    have v2 := layNew_fits tb xs ((strKind P w).hash y) (.str y u)
    have v3 := layNew_ris tb xs ((strKind P w).hash y) (.str y u) ri
    have v4 := layNew_led tb xs ((strKind P w).hash y) (.str y u)
    generalize layNew tb xs ((strKind P w).hash y) (.str y u) = Y at v1 v2 v3 v4 ⊢
    obtain ⟨ys, tc, dum, gave⟩ := Y
    dsimp only at v1 v2 v3 v4 ⊢
    rw [Array.toList_push] at v1
    have pc : ys.toList.Perm (((strKind P w).hash y, Value.str y u) :: xs.toList) := v1.trans (List.perm_append_singleton _ _)
    have pk : (ys.toList.map txOf).Perm (y :: xs.toList.map txOf) := pc.map txOf
    have gd : (∀ z ∈ ys.toList, GoodT P w z) ∧ (ys.toList.map txOf).Nodup ∧ ∀ i, (T i || decide (i = y)) = true ↔ i ∈ ys.toList.map txOf := by
      refine ⟨fun e he => ?_, pk.nodup_iff.mpr (List.nodup_cons.mpr ⟨hny, g2⟩), fun i => ?_⟩
      · rcases List.mem_cons.mp (pc.mem_iff.mp he) with z | z
        · rw [z]; exact ⟨y, u, rfl, rfl⟩
        · exact g1 e z
      · rw [Bool.or_eq_true, decide_eq_true_eq, g3 i, pk.mem_iff, List.mem_cons]
        exact Or.comm
    have hsz : ys.size = m + 1 := by rw [← Array.length_toList, pc.length_eq, List.length_cons, Array.length_toList, c3]
    have sz : ys.size < scanBound := by rw [hsz]; exact room
    have ld1 : w.params.followText "set-order" = true ∨ tc.led = true := ld.imp id fun z => by rw [v4]; exact z
    have fin : ∀ h', Heap.SameBut p s.heap h' → SetT P w h' p (fun x => T x || decide (x = y)) ys.size → Q true { s with heap := h' } := fun h' sb r => by
      have q := hQ h' sb
      rw [hT] at q
      rw [hsz] at r
      exact q r
    refine wpAny_bind (hgw _ ?_)
    have hgv : ∀ (b : Bool) (s1 : Shared) (Q1 : Unit → Shared → Prop), Q1 () s1 → wpAny (model P w) A (match b with | true => rule "set.scan.the-table-gave-way" | false => pure ()) Q1 E s1 := fun b s1 Q1 q => hgw b q
    split
    · refine wpAny_bind ?_
      rw [hashByValue_scannable 8 hsc]
      refine wpAny_pure ?_
      refine setT_tail ?_ h1 h2 h3 gd sz ?_ ?_ ?_ fun h' sb r => ?_
      · intro b s1 Q1 q; cases b <;> first | exact wpAny_pure q | exact wpAny_rule q
      · first | (split <;> first | exact v2 | exact SetTable.fits_plain_off v2) | exact v2
      · first | (split <;> exact v3) | exact v3
      · first | (split <;> exact ld1) | exact ld1
      · dsimp only; exact wpAny_pure (fin h' sb r)
    · refine wpAny_bind (wpAny_pure ?_)
      simp only [↓reduceIte]
      refine setT_tail ?_ h1 h2 h3 gd sz v2 v3 ld1 fun h' sb r => ?_
      · intro b s1 Q1 q; cases b <;> first | exact wpAny_pure q | exact wpAny_rule q
      · dsimp only; exact wpAny_pure (fin h' sb r)
end
end Ta

set_option Elab.async false
set_option linter.all false
set_option maxRecDepth 100000
set_option maxHeartbeats 3200000
namespace Ta
open PySem PySem.Spec PyProof.Rows L2

section
variable {prog : Program} {w : World} {A : Around} {R : Result → Shared → Prop} {I : Addr} {fp wr : List Addr} {G : Array GenState → Array GenState → Prop} {n : Nat} {P : Nat → Value → Prop} {St : Nat → Shared → Prop}
abbrev tin (xs : List Str) : Str → Bool := fun y => xs.any (· == y)
abbrev led0 (w : World) : Bool := !w.params.followText "set-order"
abbrev set0 (w : World) : Obj := { cls := .type "set", dict := none, data := .set #[] 0 (.fresh 0 0 (led0 w)) }
theorem setT_fresh {hp : Heap} {p : Addr} (h : hp.get? p = some (set0 w)) : SetT prog w hp p (tin []) 0 := by
  refine ⟨_, #[], 0, _, h, ⟨rfl, rfl, rfl⟩, rfl, ⟨fun z hz => (by cases hz), .nil, fun y => ?_⟩, ⟨by unfold scanBound; decide, rfl, rfl⟩, .nil, ?_⟩
  · simp [tin]
  · cases e : w.params.followText "set-order" with
    | true => exact .inl rfl
    | false => exact .inr (by show led0 w = true; unfold led0; rw [e]; rfl)
theorem loopT (W : WalksS prog w A.in1 I fp wr G n P St) (D : Addr) (hDf : D ∉ fp) (xs : List Str) (hsz : xs.length = n) (hn1 : n + 1 < scanBound)
    (hval : ∀ i v, P i v → ∃ t, v = .str (xs.getD i Str.empty) t) :
    ∀ (k i : Nat) (s : Shared), n - i = k → i ≤ n → St i s → SetT prog w s.heap D (tin (xs.take i)) (dn (xs.take i)) →
      (∀ s', Moved (D :: wr) G s s' → SetT prog w s'.heap D (tin xs) (dn xs) → R (.ok (.ret .none)) s') →
      codeAny (model prog w) A (.builtin "set.update.loop" ⟨[.ref D, .ref I], []⟩) R s := by
  have hDw : D ∉ wr := fun h => hDf (W.sub _ h)
  have hsub : ∀ b ∈ wr, b ∈ D :: wr := fun b hb => List.mem_cons_of_mem _ hb
  intro k
  induction k with
  | zero =>
    intro i s hk hi hst hS hR
    have hin : i = n := by omega
    subst hin
    refine codeAny_builtin PyProof.Rows.F.entry_set_update_loop ?_
    rw [Around.under_plainId PyProof.Rows.F.plain_set_update_loop _]
    show wpAny _ A.in1 (pyNext (.ref I) >>= _) _ _ s
    refine wpAny_bind (W.done s _ _ hst fun s' hm => ?_)
    show wpAny _ A.in1 (ret Value.none) _ _ s'
    rw [List.take_of_length_le (Nat.le_of_eq hsz)] at hS
    exact wpAny_pure (hR s' (hm.mono hsub) (hS.kept fun o e => hm.heap D o hDw e))
  | succ k ih =>
    intro i s hk hi hst hS hR
    have hlt : i < n := by omega
    have hlx : i < xs.length := by omega
    refine codeAny_builtin PyProof.Rows.F.entry_set_update_loop ?_
    rw [Around.under_plainId PyProof.Rows.F.plain_set_update_loop _]
    show wpAny _ A.in1 (pyNext (.ref I) >>= _) _ _ s
    refine wpAny_bind (W.item i s _ _ hlt hst fun v s' hP hst' hm => ?_)
    obtain ⟨t, rfl⟩ := hval i v hP
    have hS' : SetT prog w s'.heap D (tin (xs.take i)) (dn (xs.take i)) := hS.kept fun o e => hm.heap D o hDw e
    show wpAny _ A.in1 (holding [Value.str (xs.getD i Str.empty) t] (setAdd D (.str (xs.getD i Str.empty) t)) >>= _) _ _ s'
    refine wpAny_bind (wpAny_holding ?_)
    unfold setAdd
    refine wpAny_holding ?_
    refine wpAny_bind ((PySem.strKind prog w).pyHash (k := xs.getD i Str.empty) (strKind_is _ _ _ _) ?_)
    have hdn := dn_le (xs.take i)
    have htk : (xs.take i).length ≤ i := by rw [List.length_take]; omega
    refine setT_add (s := { s' with toks := s'.toks + 1 }) hS' (by unfold scanBound at hn1 ⊢; omega) fun h' hsb hS2 => ?_
    have ex : xs.getD i Str.empty = xs[i] := by simp [List.getD, hlx]
    have et : xs.take (i + 1) = xs.take i ++ [xs[i]] := by rw [List.take_succ_eq_append_getElem hlx]
    have hSi : SetT prog w h' D (tin (xs.take (i + 1))) (dn (xs.take (i + 1))) := by
      refine hS2.same (fun y => ?_) ?_
      · show (xs.take (i + 1)).any (· == y) = ((xs.take i).any (· == y) || decide (y = xs.getD i Str.empty))
        rw [et, ex, List.any_append]
        congr 1
        by_cases e : y = xs[i]
        · subst e; simp
        · have hb : (xs[i] == y) = false := by simpa [beq_iff_eq] using (fun h' : xs[i] = y => e h'.symm)
          simp [hb, e]
      · rw [et, dn_snoc, ex]
    refine wpAny_pure ⟨plainId_quiet PyProof.Rows.F.plain_set_update_loop _, ih (i + 1) _ (by omega) hlt (W.frame _ s' _ _ hst' (Nat.le_succ _) fun b hb o e => ?_) hSi fun s'' hm'' hS'' => ?_⟩
    · rw [hsb.2 b (fun h : b = D => hDf (by rw [← h]; exact hb))]; exact e
    · refine hR s'' (Moved.trans W.gtrans ((hm.mono hsub).then_heap (Nat.le_succ _) fun b o hb e => ?_) hm'') hS''
      rw [hsb.2 b (fun h : b = D => hb (by rw [h]; exact List.mem_cons_self))]; exact e
end
section
variable {prog : Program} {w : World} {A : Around} {E : Value → Shared → Prop} {s : Shared}
abbrev GotT (prog : Program) (w : World) (s : Shared) (xs : List Str) (Q : Value → Shared → Prop) : Prop :=
  ∀ (h' : Heap) (tk : Nat), SetT prog w h' s.heap.objs.size (tin xs) (dn xs) → (∀ b o, b < s.heap.objs.size → s.heap.get? b = some o → h'.get? b = some o) → Q (.ref s.heap.objs.size) { s with heap := h', toks := tk }
theorem strs_get : ∀ {us : List Value} {xs : List Str}, StrsAre us xs → ∀ (i : Nat) (v : Value), us[i]? = some v → ∃ t, v = .str (xs.getD i Str.empty) t
  | _, _, .nil, i, v, h => by cases h
  | _, _, .cons _ t r, 0, v, h => ⟨t, (Option.some.inj h).symm⟩
  | _, _, .cons _ t r, i + 1, v, h => strs_get r i v h
theorem call_setT_text {x : Str} {t : Tok} {Q : Value → Shared → Prop} (hh : A.handled = none) (hn : (tl x).length + 1 < scanBound) (h : GotT prog w s (one1 (tl x)) Q) :
    wpAny (model prog w) A (call (.type "set") [.str x t]) Q E s := by
  obtain ⟨c, tl', hmro⟩ := PySem.F.called_set.mro
  have hmade := PySem.F.called_set.made
  have hsub := PySem.F.called_set.sub
  refine wpAny_call (codeAny_of_tree ?_)
  show wpAny _ _ (callAny (.type "set") _) _ _ _
  refine wpAny_pure ⟨Code.quiet_builtin _ (by decide +kernel), codeAny_builtin PySem.F.entry_type_call ?_⟩
  rw [Around.under_plain (weight_type_call_type "set" [.str x t] []) rfl]
  have h1 := PySem.F.called_set.notType
  have h2 := PySem.F.called_set.canCreate
  have hct := PySem.F.typeCall_set_1 (.str x t)
  repeat (any_goals (first | assumption | wp_step))
  refine codeAny_mono (code_set_led1 (.str x t) (E := E) (Q₁ := fun obj s₁ => obj = .ref s.heap.objs.size ∧ s₁ = { s with heap := s.heap.push (set0 w) }) ⟨rfl, rfl⟩) fun r s₁ hr => ?_
  cases r with
  | error e => exact hr
  | ok fl =>
    cases fl with
    | ret obj =>
      obtain ⟨rfl, rfl⟩ := hr
      have hS : (s.heap.push (set0 w)).get? s.heap.objs.size = some (set0 w) := Heap.get?_push_size _ rfl
      have hT : Shared.TypeIs { s with heap := s.heap.push (set0 w) } (.ref s.heap.objs.size) "set" := ⟨_, hS, rfl⟩
      have hli := PySem.F.called_set.init.lookup
      have hbi := PySem.F.called_set.init.bind (.ref s.heap.objs.size)
      repeat (any_goals (first | assumption | wp_step))
      refine codeAny_mono (codeAny_call_builtin (R := wants (fun r s₂ => r = .none ∧ ∃ h' tk, s₂ = { s with heap := h', toks := tk } ∧
          SetT prog w h' s.heap.objs.size (tin (one1 (tl x))) (dn (one1 (tl x))) ∧
          (∀ b o, b < s.heap.objs.size → s.heap.get? b = some o → h'.get? b = some o)) E) PySem.F.called_set.init.plain PySem.F.entry_set_init (check_set_init_1 hT ?_)) fun r₂ s₂ hr₂ => ?_
      · have hsls := PySem.F.sub_str_set
        have hslf := PySem.F.sub_str_frozenset
        have hne : (Value.type "str" == Value.type "dict") = false := by decide
        unfold Builtin.«set.__init__» noKeywords Builtin.Frozenset.updateFrom
        generalize hPI : pyIter = PI
        wp_walk
        subst hPI
        refine wpAny_pyIter_str fun o St W hst => ?_
        refine wpAny_bind (wpAny_runValue ?_)
        have hh3 : A.in1.in1.in1.handled = none := by simp [hh]
        have hSf : s.heap.objs.size ∉ [(s.heap.push (set0 w)).objs.size] := by
          rw [Heap.size_push]; simp only [List.mem_singleton]
          exact Nat.ne_of_lt (Nat.lt_succ_self _)
        have hsz : (one1 (tl x)).length = x.cps.size := by simp [one1, tl]
        have hszn : x.cps.size = (tl x).length := by simp [tl]
        refine loopT ((W _ hh3).toS) s.heap.objs.size
          hSf (one1 (tl x)) hsz (by rw [hszn]; exact hn) (fun i v h => sign_one h) (x.cps.size - 0) 0 _ (by omega) (Nat.zero_le _)
          hst ?hS0 ?hR
        case hS0 => exact setT_fresh (Heap.get?_push_of_some _ hS)
        case hR =>
          intro s' hm hS'
          obtain ⟨h', g', d', tk', os'⟩ := s'
          have eg : g' = s.gens := hm.gens
          have ed : d' = s.drawn := hm.drawn
          have eo : os' = s.os := hm.os
          subst eg; subst ed; subst eo
          show wpAny _ _ _ _ _ _
          refine wpAny_pure ?_
          show wpAny _ _ (ret Value.none) _ _ _
          refine wpAny_pure ⟨rfl, h', tk', rfl, hS', fun b o hb e => ?_⟩
          have hb1 : b ≠ s.heap.objs.size := Nat.ne_of_lt hb
          have hb2 : b ≠ (s.heap.push (set0 w)).objs.size := by
            rw [Heap.size_push]; exact Nat.ne_of_lt (Nat.lt_succ_of_lt hb)
          exact hm.heap b o (by simp only [List.mem_cons, List.mem_singleton, List.not_mem_nil, or_false, not_or]; exact ⟨hb1, hb2⟩) (Heap.get?_push_of_some _ (Heap.get?_push_of_some _ e))
      · cases r₂ with
        | error e => exact hr₂
        | ok fl₂ =>
          cases fl₂ with
          | ret r =>
            obtain ⟨rfl, h', tk, rfl, hS', hk'⟩ := hr₂
            repeat (any_goals (first | assumption | wp_step))
            exact h _ _ hS' hk'
          | _ => exact hr₂.elim
    | _ => exact hr.elim
theorem call_setT_list {l : Addr} {items : Array Value} {xs : List Str} {Q : Value → Shared → Prop} (hh : A.handled = none) (hl : s.heap.IsList l items) (hxs : StrsAre items.toList xs) (hn : xs.length + 1 < scanBound) (h : GotT prog w s xs Q) :
    wpAny (model prog w) A (call (.type "set") [.ref l]) Q E s := by
  have hisz : xs.length = items.size := by
    have q := L2.vals_of_strs hxs
    have := q.length
    rw [List.length_map, Array.length_toList] at this
    exact this
  have hval : ∀ (i : Nat) (v : Value), items[i]? = some v → ∃ t, v = .str (xs.getD i Str.empty) t := fun i v hv => strs_get hxs i v (by rw [Array.getElem?_toList]; exact hv)
  obtain ⟨c, tl', hmro⟩ := PySem.F.called_set.mro
  have hmade := PySem.F.called_set.made
  have hsub := PySem.F.called_set.sub
  refine wpAny_call (codeAny_of_tree ?_)
  show wpAny _ _ (callAny (.type "set") _) _ _ _
  refine wpAny_pure ⟨Code.quiet_builtin _ (by decide +kernel), codeAny_builtin PySem.F.entry_type_call ?_⟩
  rw [Around.under_plain (weight_type_call_type "set" [.ref l] []) rfl]
  have h1 := PySem.F.called_set.notType
  have h2 := PySem.F.called_set.canCreate
  have hct := PySem.F.typeCall_set_1 (.ref l)
  repeat (any_goals (first | assumption | wp_step))
  refine codeAny_mono (code_set_led1 (.ref l) (E := E) (Q₁ := fun obj s₁ => obj = .ref s.heap.objs.size ∧ s₁ = { s with heap := s.heap.push (set0 w) }) ⟨rfl, rfl⟩) fun r s₁ hr => ?_
  cases r with
  | error e => exact hr
  | ok fl =>
    cases fl with
    | ret obj =>
      obtain ⟨rfl, rfl⟩ := hr
      have hS : (s.heap.push (set0 w)).get? s.heap.objs.size = some (set0 w) := Heap.get?_push_size _ rfl
      have hT : Shared.TypeIs { s with heap := s.heap.push (set0 w) } (.ref s.heap.objs.size) "set" := ⟨_, hS, rfl⟩
      have hli := PySem.F.called_set.init.lookup
      have hbi := PySem.F.called_set.init.bind (.ref s.heap.objs.size)
      repeat (any_goals (first | assumption | wp_step))
      refine codeAny_mono (codeAny_call_builtin (R := wants (fun r s₂ => r = .none ∧ ∃ h' tk, s₂ = { s with heap := h', toks := tk } ∧ SetT prog w h' s.heap.objs.size (tin xs) (dn xs) ∧
          (∀ b o, b < s.heap.objs.size → s.heap.get? b = some o → h'.get? b = some o)) E) PySem.F.called_set.init.plain PySem.F.entry_set_init (check_set_init_1 hT ?_)) fun r₂ s₂ hr₂ => ?_
      · obtain ⟨ol, hol, hcl, nl, hdl⟩ := hl
        obtain ⟨ocls, odict, odata, oslots⟩ := ol
        simp only at hcl hdl
        subst hcl; subst hdl
        have hol' : (s.heap.push (set0 w)).get? l = some { cls := .type "list", dict := odict, data := .seq items nl, slots := oslots } := Heap.get?_push_of_some _ hol
        have hsls := PySem.F.sub_list_set
        have hslf := PySem.F.sub_list_frozenset
        have hne : (Value.type "list" == Value.type "dict") = false := by decide
        have hl1 : (s.heap.push (set0 w)).IsList l items := ⟨_, hol', rfl, nl, rfl⟩
        unfold Builtin.«set.__init__» noKeywords Builtin.Frozenset.updateFrom
        generalize hPI : pyIter = PI
        wp_walk
        subst hPI
        refine wpAny_pyIter_list hl1 ?_
        refine wpAny_bind (wpAny_runValue ?_)
        have hlS : l < s.heap.objs.size := Heap.lt_size hol
        have hh3 : A.in1.in1.in1.handled = none := by simp [hh]
        have hneI : l ≠ (s.heap.push (set0 w)).objs.size := by rw [Heap.size_push]; exact Nat.ne_of_lt (Nat.lt_succ_of_lt hlS)
        have hSf : s.heap.objs.size ∉ [(s.heap.push (set0 w)).objs.size, l] := by
          rw [Heap.size_push]; simp only [List.mem_cons, List.mem_singleton, List.not_mem_nil, or_false, not_or]
          exact ⟨Nat.ne_of_lt (Nat.lt_succ_self _), Nat.ne_of_gt hlS⟩
        refine loopT ((Walks.list hh3 _ l hneI items).toS) s.heap.objs.size hSf xs hisz (by rw [← hisz]; exact hn) hval (items.size - 0) 0 _ (by omega) (Nat.zero_le _)
          ⟨⟨_, Heap.get?_push_size _ rfl, rfl, rfl⟩, (hl1.push _)⟩ ?hS0 ?hR
        case hS0 => exact setT_fresh (Heap.get?_push_of_some _ hS)
        case hR =>
          intro s' hm hS'
          obtain ⟨h', g', d', tk', os'⟩ := s'
          have eg : g' = s.gens := hm.gens
          have ed : d' = s.drawn := hm.drawn
          have eo : os' = s.os := hm.os
          subst eg; subst ed; subst eo
          show wpAny _ _ _ _ _ _
          refine wpAny_pure ?_
          show wpAny _ _ (ret Value.none) _ _ _
          refine wpAny_pure ⟨rfl, h', tk', rfl, hS', fun b o hb e => ?_⟩
          have hb1 : b ≠ s.heap.objs.size := Nat.ne_of_lt hb
          have hb2 : b ≠ (s.heap.push (set0 w)).objs.size := by rw [Heap.size_push]; exact Nat.ne_of_lt (Nat.lt_succ_of_lt hb)
          exact hm.heap b o (by simp only [List.mem_cons, List.mem_singleton, List.not_mem_nil, or_false, not_or]; exact ⟨hb1, hb2⟩) (Heap.get?_push_of_some _ (Heap.get?_push_of_some _ e))
      · cases r₂ with
        | error e => exact hr₂
        | ok fl₂ =>
          cases fl₂ with
          | ret r =>
            obtain ⟨rfl, h', tk, rfl, hS', hk'⟩ := hr₂
            repeat (any_goals (first | assumption | wp_step))
            exact h _ _ hS' hk'
          | _ => exact hr₂.elim
    | _ => exact hr.elim
end
end Ta

set_option Elab.async false
set_option linter.all false
set_option maxRecDepth 100000
set_option maxHeartbeats 3200000
namespace Ta
open PySem PySem.Spec PyProof.Rows L2

/-! ### sorted(set(x)) -/
section
variable {prog : Program} {w : World} {A : Around} {E : Value → Shared → Prop} {s : Shared}
theorem strs_of : ∀ {us : List Value}, (∀ v ∈ us, ∃ y t, v = Value.str y t) → ∃ xs, StrsAre us xs
  | [], _ => ⟨[], .nil⟩
  | v :: us, h => by
    obtain ⟨y, t, rfl⟩ := h v List.mem_cons_self
    obtain ⟨xs, r⟩ := strs_of (us := us) fun v hv => h v (List.mem_cons_of_mem _ hv)
    exact ⟨y :: xs, .cons y t r⟩
def vtx (v : Value) : Str := match v with | .str y _ => y | _ => Str.empty
theorem strs_map : ∀ {us : List Value} {xs : List Str}, StrsAre us xs → us.map vtx = xs
  | _, _, .nil => rfl
  | _, _, .cons y t r => by rw [List.map_cons, strs_map r]; rfl
theorem sorted_setT {p : Addr} {T : Str → Bool} {m : Nat} {Q : Value → Shared → Prop} (R : SetT prog w s.heap p T m) (hh : A.handled = none) (h64 : m < 64)
    (hQ : ∀ s' q (out : Array Value) (c : Nat) (ys : List Str), (∀ b o, s.heap.get? b = some o → s'.heap.get? b = some o) → s'.gens = s.gens → s'.os = s.os → s.heap.objs.size ≤ q →
      s'.heap.get? q = some (seqObj "list" out c) → StrsAre out.toList ys → sortedS ys = true → ys.Nodup → (∀ y, y ∈ ys ↔ T y = true) → ys.length = m → Q (.ref q) s') :
    wpAny (model prog w) A (call (.builtin "sorted") [.ref p]) Q E s := by
  obtain ⟨ob, xs, n, tb, h1, h2, h3, ⟨g1, g2, g3⟩, ⟨c1, c2, c3⟩, ri, ld⟩ := R
  refine Calls.call_function_entry PyProof.Rows.kind_sorted PyProof.Rows.plain_sorted PyProof.Rows.entry_sorted (PyProof.Rows.args_sorted1 _) ?_
  unfold Builtin.«sorted»
  refine wpAny_bind (m := checkCount "sorted" 1 1 _) (wpAny_pure ?_)
  refine wpAny_bind (collect_set (A := A.in1) hh ⟨ob, h1, h2.1, h3⟩ c2 c1 ri ld fun s1 vs k1 hz e1 e2 pm => ?_)
  have hvl : vs.length = m := by rw [pm.length_eq, List.length_map, Array.length_toList]; exact c3
  obtain ⟨zs, hS⟩ := strs_of (us := vs) fun v hv => by
    obtain ⟨e, he, q⟩ := List.mem_map.mp (pm.mem_iff.mp hv)
    obtain ⟨y, t, q1, _⟩ := g1 e he
    exact ⟨y, t, by rw [← q]; exact q1⟩
  have pz : zs.Perm (xs.toList.map txOf) := by
    have q := pm.map vtx
    rw [strs_map hS, List.map_map] at q
    exact q
  refine wpAny_bind (wpAny_newList ?_ (by rw [hvl, sizeLine_eq]; omega))
  have hoL : (s1.heap.push (seqObj "list" vs.toArray 0)).get? s1.heap.objs.size = some (seqObj "list" vs.toArray 0) := Heap.get?_push_size _ rfl
  refine wpAny_bind (wpAny_holding (wpAny_call_entry PyProof.Rows.slot_list_sort ⟨_, hoL, rfl⟩ PyProof.Rows.entry_list_sort
    (list_sort_treeK strKind_oneLt (s := { s1 with heap := s1.heap.push (seqObj "list" vs.toArray 0) }) hoL hS.keysOf (fun v₁ v₂ rest e => keyKind_strs (by rw [← e]; exact hS)) (by rw [hvl]; exact h64) fun st' hp hs => ⟨_, rfl, ?_⟩)
    (PyProof.Rows.args_list_sort _)))
  obtain ⟨ys, u1, u2, u3⟩ := sorted_out_str hS hp hs
  obtain ⟨c, hc⟩ := PyProof.Rows.sortedHeap_at (vs := vs) (out := (arrOf st').map (·.2)) hoL
  have pn : ys.Perm (xs.toList.map txOf) := u2.trans pz
  refine wpAny_pure ⟨_, rfl, hQ _ s1.heap.objs.size _ c ys (fun b u e => ?_) e1 e2 hz hc u1 u3 (pn.nodup_iff.mpr g2) (fun y => by rw [pn.mem_iff, ← g3 y]) ?_⟩
  · have q := k1 b u e
    have hlt := Heap.lt_size q
    show (PyProof.Rows.sortedHeap (s1.heap.push (seqObj "list" vs.toArray 0)) s1.heap.objs.size vs ((arrOf st').map (·.2))).get? b = some u
    rw [PyProof.Rows.sortedHeap_old (Nat.ne_of_lt hlt) (by rw [size_push']; exact Nat.lt_succ_of_lt hlt)]
    exact Heap.get?_push_of_some _ q
  · rw [pn.length_eq, List.length_map, Array.length_toList]; exact c3
end
/-- a list of texts -/
structure txs (vs : List V) (k : List Str → Prop) : Prop where
  out : ∃ xs : List Str, vs = xs.map V.str ∧ k xs
theorem txs_i {xs : List Str} {k : List Str → Prop} (q : k xs) : txs (xs.map V.str) k := by refine ⟨?_⟩; exact ⟨xs, rfl, q⟩
theorem txs_l {ks : List (List Nat)} {k : List Str → Prop} (q : k (ks.map S)) : txs (ks.map fun l => V.str (S l)) k := by
  refine ⟨?_⟩; exact ⟨ks.map S, by rw [List.map_map]; rfl, q⟩
theorem txs_e {vs : List V} {k : List Str → Prop} (h : txs vs k) : ∃ xs : List Str, vs = xs.map V.str ∧ k xs := by replace h := h.out; exact h
def zSS (x : V) (H : Hp) (Q : VK) : Prop := match x with
  | .str z => (tl z).length < 64 ∧ ∀ p, H p = none → Q (.ref p) (upd H p (.lst (sgn (srt (tl z).eraseDups))))
  | .ref l => look H l fun o => (match o with
    | some (.lst vs) => txs vs fun xs => xs.length < 64 ∧ ∀ ys p, sortedS ys = true → ys.Nodup → (∀ y, y ∈ ys ↔ y ∈ xs) → H p = none → Q (.ref p) (upd H p (.lst (ys.map V.str)))
    | _ => False)
  | _ => False
def tSS (ta : TE) : TE := fun σ H Q => ta σ H fun x H1 => zSS x H1 Q
section
variable {X : Cx} {a : Expr} {ta : TE} {p p2 q pos : Pos}
theorem tin_mem (xs : List Str) (y : Str) : tin xs y = true ↔ y ∈ xs := by
  unfold tin
  rw [List.any_eq_true]
  exact ⟨fun ⟨z, h1, h2⟩ => by rw [← eq_of_beq h2]; exact h1, fun h => ⟨y, h, by simp⟩⟩
theorem nd_dups {α : Type} [BEq α] [LawfulBEq α] (l : List α) : l.eraseDups.Nodup := by
  suffices h : ∀ (n : Nat) (l : List α), l.length ≤ n → l.eraseDups.Nodup from h _ l (Nat.le_refl _)
  intro n
  induction n with
  | zero => intro l h; rw [List.length_eq_zero_iff.mp (Nat.le_zero.mp h)]; exact .nil
  | succ n ih =>
    intro l h
    cases l with
    | nil => exact .nil
    | cons a l =>
      rw [List.eraseDups_cons]
      refine List.nodup_cons.mpr ⟨fun hm => ?_, ih _ (Nat.le_trans (List.length_filter_le _ _) (by simpa using h))⟩
      rw [List.mem_eraseDups, List.mem_filter] at hm
      simp at hm
theorem one1_mem (l : List Nat) (c : Nat) : S [c] ∈ one1 l ↔ c ∈ l := by
  unfold one1
  rw [List.mem_map]
  exact ⟨fun ⟨d, h1, h2⟩ => by rw [← S1_inj _ _ h2]; exact h1, fun h => ⟨c, h, rfl⟩⟩
theorem end_SS {pins : List (Addr × Obj)} {σ : St} {H : Hp} {s : Shared} {Q : VK} {p : Addr} {T : Str → Bool} {m : Nat} (I : Inv X pins σ H s) (hc : X.calm = true) (R : SetT X.prog X.w s.heap p T m) (h64 : m < 64)
    (h : ∀ ys q, sortedS ys = true → ys.Nodup → (∀ y, y ∈ ys ↔ T y = true) → H q = none → Q (.ref q) (upd H q (.lst (ys.map V.str)))) :
    wpAny (model X.prog X.w) X.A (call (.builtin "sorted") [.ref p]) (EP X pins σ Q) X.xe s := by
  refine sorted_setT R (I.ok.hd hc) h64 fun s' q out c ys k g o hq hg hs h1 h2 h3 hl => ?_
  have hlen : (ys.map V.str).length ≤ sizeLine := by rw [List.length_map, hl, sizeLine_eq]; omega
  have hn : H q = none := I.hok.fresh hq
  have J : Inv X pins σ (upd H q (.lst (ys.map V.str))) { s with heap := s'.heap, gens := s'.gens, drawn := s'.drawn, toks := s'.toks } :=
    I.call (ch := []) (Un.laid k hq hn) (I.hok.laid k hq ⟨hlen, out.toList, c, vals_of_strs hs, hg⟩) (by rw [g]; exact I.bare) (fun _ z => nomatch z)
  have e : s' = { s with heap := s'.heap, gens := s'.gens, drawn := s'.drawn, toks := s'.toks } := by
    cases s'; cases s; cases o; rfl
  rw [e]
  exact ⟨.ref q, _, J, rfl, h ys q h1 h2 h3 hn⟩
theorem pss_set (hc : X.calm = true) (hm : X.mg "sorted" = none) (hm2 : X.mg "set" = none) (ha : PE X a ta) (hg : Gl X "sorted" := by rfl) (hg2 : Gl X "set" := by rfl)
    (na : starEach [a] X.env = (false, eval a X.env) :: starEach [] X.env := by rfl) : PE X (.Call (.Name "sorted" p) [.Call (.Name "set" p2) [a] [] q] [] pos) (tSS ta) := by
  refine ⟨fun pins s σ H Q I h => ?_⟩
  refine Call_ (ld_blt I hg hm boot_sorted ?_)
  refine PyProof.Rows.callWith_builtin1 (PyProof.Rows.args_cons ?_ rfl) rfl rfl
  refine Call_ (ld_blt I hg2 hm2 boot_set ?_)
  refine PyProof.Rows.callWith_type1 (PyProof.Rows.args_cons (thn (ha.run pins s σ H _ I h) fun v s1 hv => PyProof.Rows.args_nil ?_) na) na rfl
  obtain ⟨x, H1, I1, r1, q1⟩ := hv
  cases x with
  | str z =>
    obtain ⟨h1, q1⟩ := q1
    obtain ⟨t, rfl⟩ := r1
    refine call_setT_text (I1.ok.hd hc) (by unfold scanBound; omega) fun h' tk hS hk => ?_
    refine PyProof.Rows.args_nil ?_
    have hdn := dn_le (one1 (tl z))
    have hol : (one1 (tl z)).length = (tl z).length := by simp [one1]
    have I2 : Inv X pins σ H1 { s1 with heap := h', toks := tk } := I1.kept fun b o e => hk b o (Heap.lt_size e) e
    refine end_SS I2 hc hS (by omega) fun ys q g1 g2 g3 g4 => ?_
    have pm : ys.Perm ((tl z).eraseDups.map fun c => S [c]) := by
      refine (List.perm_ext_iff_of_nodup g2 ?_).mpr fun y => ?_
      · exact List.Pairwise.map _ (fun a b hn e => hn (S1_inj _ _ e)) (nd_dups _)
      · rw [g3 y, tin_mem]
        unfold one1
        simp only [List.mem_map, List.mem_eraseDups]
    obtain ⟨l', rfl, pl⟩ := perm_map_inv pm
    have el : l' = srt (tl z).eraseDups := srt_uniq pl (sorted_one l' g1)
    subst el
    have ev : ((srt (tl z).eraseDups).map fun c => S [c]).map V.str = sgn (srt (tl z).eraseDups) := by unfold sgn; rw [List.map_map]; rfl
    rw [ev]
    exact q1 q g4
  | ref l =>
    have q1 := look_e q1
    cases ea : H1 l with
    | none => rw [ea] at q1; exact q1.elim
    | some ob =>
      rw [ea] at q1
      cases ob with
      | lst vs =>
        obtain ⟨xs, rfl, h1, q2⟩ := txs_e q1
        obtain rfl : v = Value.ref l := r1
        obtain ⟨its, rv, pl, hz⟩ := I1.list (SqL.of ea)
        have hxs : StrsAre its xs := strs_of_vals rv
        refine call_setT_list (I1.ok.hd hc) pl.isList hxs (by unfold scanBound; omega) fun h' tk hS hk => ?_
        refine PyProof.Rows.args_nil ?_
        have hdn := dn_le xs
        have I2 : Inv X pins σ H1 { s1 with heap := h', toks := tk } := I1.kept fun b o e => hk b o (Heap.lt_size e) e
        exact end_SS I2 hc hS (by omega) fun ys q g1 g2 g3 g4 => q2 ys q g1 g2 (fun y => by rw [g3 y, tin_mem]) g4
      | _ => exact q1.elim
  | _ => exact False.elim q1
end
end Ta

set_option Elab.async false
set_option linter.all false
set_option maxRecDepth 100000
set_option maxHeartbeats 3200000
namespace Ta
open PySem PySem.Spec PyProof.Rows L2 PySem.W

/-! ### sorted(x, key=len) -/
def slen (xs : List Str) : List Str := xs.mergeSort fun a b => decide (a.length ≤ b.length)
abbrev kLen (x : Str) : PyData := .int x.length
theorem dataLe_len (a b : Str) : PySem.W.dataLe false kLen a b = decide (a.length ≤ b.length) := by
  unfold PySem.W.dataLe PySem.W.sortLe
  show (!lexLt itemOrd (keyToks (kLen b)) (keyToks (kLen a))) = _
  have e : ∀ z : Str, keyToks (kLen z) = [.inl (z.length : Int)] := fun z => by show keyToks (.int z.length) = _; rw [keyToks]
  rw [e, e]
  have e2 : lexLt itemOrd [.inl (b.length : Int)] [.inl (a.length : Int)] = decide ((b.length : Int) < a.length) := by
    unfold PyProof.Rows.lexLt
    simp [itemLt, PyProof.Rows.lexLt]
  rw [e2]
  by_cases h : a.length ≤ b.length
  · rw [decide_eq_true h, decide_eq_false (by omega)]; rfl
  · rw [decide_eq_false h, decide_eq_true (by omega)]; rfl
theorem slen_eq (xs : List Str) : xs.mergeSort (PySem.W.dataLe false kLen) = slen xs := by
  unfold slen
  congr 1
  funext a b
  exact dataLe_len a b
def zSL (x : V) (H : Hp) (Q : VK) : Prop := match x with
  | .ref l => look H l fun o => (match o with
    | some (.lst vs) => txs vs fun xs => xs.length < 1000000 ∧ (∀ y ∈ xs, y.length < 1000000) ∧ ∀ p, H p = none → Q (.ref p) (upd H p (.lst ((slen xs).map V.str)))
    | _ => False)
  | _ => False
def tSL (t : TA) : TE := fun σ H Q => t σ H fun vs H1 => one vs fun x => zSL x H1 Q
section
variable {X : Cx} {a : Expr} {t : TA} {p p2 kp pos : Pos}
theorem each_strs : ∀ {us : List Value} {xs : List Str}, StrsAre us xs → EachIs (fun v x => ∃ t, v = Value.str x t) us xs
  | _, _, .nil => .nil
  | _, _, .cons y t r => .cons ⟨t, rfl⟩ (each_strs r)
theorem strs_each : ∀ {us : List Value} {xs : List Str}, EachIs (fun v x => ∃ t, v = Value.str x t) us xs → StrsAre us xs
  | _, _, .nil => .nil
  | _, _, .cons ⟨t, e⟩ r => by subst e; exact .cons _ t (strs_each r)
theorem ps_len {lv : Nat} (hr : Room lv X.A) (hm : X.mg "sorted" = none) (hm2 : X.mg "len" = none) (ha : PA X [a] t) (hg : Gl X "sorted" := by rfl) (hg2 : Gl X "len" := by rfl)
    (na : ∀ pos, backTo pos (starEach [a] X.env) = (false, eval a X.env) :: backTo pos (starEach [] X.env) := by exact fun _ => rfl) (hpl : ∀ pos, (backTo pos (starEach [a] X.env)).any (·.1) = false := by exact fun _ => rfl) :
    PE X (.Call (.Name "sorted" p) [a] [⟨some "key", .Name "len" p2, kp⟩] pos) (tSL t) := by
  refine ⟨fun pins s σ H Q I h => ?_⟩
  refine wpAny_Call_Name_kw (ld_blt I hg hm boot_sorted ?_)
  refine PyProof.Rows.callWith_kw (thn (ha.run pos pins s σ H _ I h) fun us s1 hv => ?_) (na pos) (hpl pos) rfl rfl
  obtain ⟨vs, H1, I1, r1, q1⟩ := hv
  obtain ⟨x, rfl, q1⟩ := one_e q1
  obtain ⟨u, rfl, rx⟩ := vals1 r1
  refine wpAny_evalAll_cons (wpAny_bind (ld_blt I1 hg2 hm2 boot_len (wpAny_bind (wpAny_standAt (wpAny_pure (wpAny_evalAll_nil ?_))))))
  have I2 := I1
  cases x with
  | ref l =>
    have q1 := look_e q1
    cases ea : H1 l with
    | none => rw [ea] at q1; exact q1.elim
    | some ob =>
      rw [ea] at q1
      cases ob with
      | lst vs =>
        obtain ⟨xs, rfl, h1, h2, q2⟩ := txs_e q1
        obtain rfl : u = Value.ref l := rx
        obtain ⟨its, rv, pl, hz⟩ := I1.list (SqL.of ea)
        have hxs : StrsAre its xs := strs_of_vals rv
        have hkd : ∀ x ∈ xs, X.A.units + 2 + (kLen x).depth < cLine := by
          intro x hx
          have := hr.un
          show X.A.units + 2 + PyData.depth (.int x.length) < cLine
          rw [PyData.depth]
          omega
        refine PySem.W.sorted_key_data (k := kLen) (R := fun v x => ∃ t, v = Value.str x t) (b := false) pl.isList (each_strs hxs) ?_ ?_ (by rw [sizeLine_eq]; omega) hkd (PyProof.Rows.ksk_s1 _ _) (fun _ => PyProof.Rows.ksk_l1 _ _) (PyProof.Rows.ksk_t4 "len") ?_ ?_
        · intro d hd d' hd'
          obtain ⟨x, _, rfl⟩ := List.mem_map.mp hd
          obtain ⟨y, _, rfl⟩ := List.mem_map.mp hd'
          show alike (.int x.length) (.int y.length) = true
          rw [alike]
        · refine .inr fun d hd => ?_
          obtain ⟨x, _, rfl⟩ := List.mem_map.mp hd
          exact ⟨fun z => (by cases z), fun ys z => (by cases z)⟩
        · rintro v x ⟨t, rfl⟩ hx h tk _
          have hn := line63
          have hx2 := h2 x hx
          have hx3 : x.length < 2 ^ 63 := by omega
          refine len_str (s := { s1 with heap := h, toks := tk }) (by omega) ?_
          exact ⟨h, _, rfl, fun b o e => e, Reads.int _ _⟩
        · intro out c h' tk hk hf hg3 hl hE
          rw [slen_eq] at hE
          have hs := strs_each hE
          have hlen : ((slen xs).map V.str).length ≤ sizeLine := by unfold slen; rw [List.length_map, List.length_mergeSort, sizeLine_eq]; omega
          exact ⟨.ref _, _, I2.laid (t' := tk) hk (Nat.le_succ _) (show ObjOk X.prog X.w _ h' _ (.lst ((slen xs).map V.str)) from ⟨hlen, out, c, vals_of_strs hs, hg3⟩), rfl, q2 _ (I2.hok.fresh (Nat.le_succ _))⟩
      | _ => exact q1.elim
  | _ => exact False.elim q1
end
end Ta

set_option Elab.async false
set_option linter.all false
set_option maxRecDepth 100000
set_option maxHeartbeats 1000000
namespace Ta
open PySem PySem.Spec PyProof.Rows L2

/-- a list of truth values -/
structure bls (vs : List V) (k : List Bool → Prop) : Prop where
  out : ∃ bs : List Bool, vs = bs.map V.bl ∧ k bs
theorem bls_i {bs : List Bool} {k : List Bool → Prop} (q : k bs) : bls (bs.map V.bl) k := by refine ⟨?_⟩; exact ⟨bs, rfl, q⟩
theorem bls_f {α : Type} {l : List α} {f : α → Bool} {k : List Bool → Prop} (q : k (l.map f)) : bls (l.map fun c => V.bl (f c)) k := by refine ⟨?_⟩; exact ⟨l.map f, by rw [List.map_map]; rfl, q⟩
theorem bls_e {vs : List V} {k : List Bool → Prop} (h : bls vs k) : ∃ bs : List Bool, vs = bs.map V.bl ∧ k bs := by replace h := h.out; exact h
def zAllP (K : PySem.W.Frag) : List V → Hp → VK → Prop := fun xs H Q => one xs fun x => match x with
  | .ref p => look H p fun o => (match o with
    | some (.lst vs) => bls vs fun bs => Q (.bl (bs.all id)) H
    | _ => False)
  | _ => False
def zAnyP (K : PySem.W.Frag) : List V → Hp → VK → Prop := fun xs H Q => one xs fun x => match x with
  | .ref p => look H p fun o => (match o with
    | some (.lst vs) => bls vs fun bs => Q (.bl (bs.any id)) H
    | _ => False)
  | _ => False
section
variable {X : Cx}
theorem crall (hc : X.calm = true) : CallR X (.builtin "all") (zAllP X.K) := cr_imp (cr_all hc) fun xs H Q h => by
  obtain ⟨x, rfl, h⟩ := one_e h
  cases x with
  | ref p =>
    have h := look_e h
    cases e : H p with
    | none => rw [e] at h; exact h.elim
    | some o =>
      rw [e] at h
      cases o with
      | lst vs =>
        obtain ⟨bs, rfl, q⟩ := bls_e h
        exact ⟨p, bs, rfl, SqL.of e, q⟩
      | _ => exact h.elim
  | _ => exact h.elim
theorem crany (hc : X.calm = true) : CallR X (.builtin "any") (zAnyP X.K) := cr_imp (cr_any hc) fun xs H Q h => by
  obtain ⟨x, rfl, h⟩ := one_e h
  cases x with
  | ref p =>
    have h := look_e h
    cases e : H p with
    | none => rw [e] at h; exact h.elim
    | some o =>
      rw [e] at h
      cases o with
      | lst vs =>
        obtain ⟨bs, rfl, q⟩ := bls_e h
        exact ⟨p, bs, rfl, SqL.of e, q⟩
      | _ => exact h.elim
  | _ => exact h.elim
end
/-- [e for c in text], e pure -/
theorem lcp_T {l : List Nat} {i : Nat} {te : TE} {σ : St} {H1 : Hp} {Q : VK} {vs : List Nat} (f : Nat → V) (hl : l.length < 1000000)
    (he : ∀ c D H' Q', H1 D = none → c ∈ l → (∃ ys, H' = upd H1 D (.lst ys)) → Q' (f c) H' → te ((wipe σ vs).set i (some (.str (S [c])))) H' Q')
    (hw : ∀ v, wipe ((wipe σ vs).set i v) vs = wipe σ vs) (q : ∀ D, H1 D = none → Q (.ref D) (upd H1 D (.lst (l.map f)))) : lcp l.length (itS l) (fun _ => True) (gName i) tYes te vs σ H1 Q := by
  refine lcp_i (fun D k H => H = upd H1 D (.lst ((l.take k).map f))) (fun D hD => rfl) (fun D k H hD _ e => trivial) ?_ ?_
  · rintro D k x H H' hD hk rfl hi
    obtain ⟨rfl, c, hc, rfl⟩ := hi
    refine ⟨hw _, ?_⟩
    unfold tYes; dsimp only
    rw [if_pos rfl]
    refine he c D _ _ hD (List.mem_of_getElem? hc) ⟨_, rfl⟩ ⟨_, upd_at, ?_, ?_⟩
    · rw [List.length_map, List.length_take, sizeLine_eq]; omega
    · rw [upd_tw, List.take_succ, hc]
      simp
  · rintro D H hD rfl
    rw [List.take_length]
    exact q D hD
/-- .. over a list of texts that stands -/
theorem lcp_TL {ks : List (List Nat)} {p : Addr} {i : Nat} {te : TE} {σ : St} {H1 : Hp} {Q : VK} {vs : List Nat} (hp : H1 p = some (.lst (ks.map fun k => V.str (S k))))
    (f : List Nat → V) (hl : ks.length < 1000000) (he : ∀ c D H' Q', H1 D = none → c ∈ ks → (∃ ys, H' = upd H1 D (.lst ys)) → Q' (f c) H' → te ((wipe σ vs).set i (some (.str (S c)))) H' Q')
    (hw : ∀ v, wipe ((wipe σ vs).set i v) vs = wipe σ vs) (q : ∀ D, H1 D = none → Q (.ref D) (upd H1 D (.lst (ks.map f)))) : lcp (ks.map fun k => V.str (S k)).length (itL (ks.map fun k => V.str (S k))) (fun H' => H' p = some (.lst (ks.map fun k => V.str (S k)))) (gName i) tYes te vs σ H1 Q := by
  refine lcp_ML hp (fun v => match v with
    | .str c => f (tl c)
    | v => v) (by rw [List.length_map]; exact hl) ?_ hw ?_
  · rintro x D H' Q' hD hx hH hQ
    obtain ⟨c, hc, rfl⟩ := List.mem_map.mp hx
    exact he c D H' Q' hD hc hH hQ
  · intro D hD
    have e : (ks.map fun k => V.str (S k)).map (fun v => match v with
      | .str c => f (tl c)
      | v => v) = ks.map f := by rw [List.map_map]; rfl
    rw [e]
    exact q D hD
/-! ### == of tuples and lists of texts, numbers, truth values, None -/
def flt (v : V) : Option PyData := match v with
  | .non => some .none
  | .bl b => some (.bool b)
  | .int i => some (.int i)
  | .str x => if x.cps.all (· < 0x110000) then some (.str x) else none
  | _ => none
theorem ascii_ok {l : List Nat} (h : ∀ c ∈ l, c < 128) : (S l).cps.all (· < 0x110000) = true := by
  rw [Array.all_eq_true]
  intro i hi
  have : l[i]'hi ∈ l := List.getElem_mem hi
  exact decide_eq_true (Nat.lt_trans (h _ this) (by decide))
theorem flt_s {l : List Nat} (h : ∀ c ∈ l, c < 128) : flt (.str (S l)) = some (.str (S l)) := by
  show (if (S l).cps.all (· < 0x110000) then some (PyData.str (S l)) else none) = _
  rw [if_pos (ascii_ok h)]
theorem flt_str {x : Str} {d : PyData} (h : flt (.str x) = some d) : x.cps.all (· < 0x110000) = true ∧ d = .str x := by
  replace h : (if x.cps.all (· < 0x110000) then some (PyData.str x) else none) = some d := h
  by_cases e : x.cps.all (· < 0x110000) = true
  · rw [if_pos e] at h; exact ⟨e, (Option.some.inj h).symm⟩
  · rw [if_neg e] at h; cases h
theorem flt_dp {K : PySem.W.Frag} {H : Hp} {v : V} {d : PyData} (h : flt v = some d) : Dp K H v d ∧ d.canLay0 = true ∧ d.depth = 0 := by
  cases v with
  | non => cases h; exact ⟨.non, by rw [PyData.canLay0], by rw [PyData.depth]⟩
  | bl b => cases h; exact ⟨.bl b, by rw [PyData.canLay0], by rw [PyData.depth]⟩
  | int i => cases h; exact ⟨.int i, by rw [PyData.canLay0], by rw [PyData.depth]⟩
  | str x =>
    obtain ⟨e, rfl⟩ := flt_str h
    exact ⟨.str x, by rw [PyData.canLay0]; exact e, by rw [PyData.depth]⟩
  | _ => cases h
def flts : List V → Option (List PyData)
  | [] => some []
  | v :: vs => (flt v).bind fun d => (flts vs).map (d :: ·)
theorem flts_dp {K : PySem.W.Frag} {H : Hp} : ∀ {vs : List V} {ds : List PyData}, flts vs = some ds → DpAll K H vs ds ∧ PyData.canLayAll0 ds = true ∧ PyData.depthAll ds = 0
  | [], _, h => by cases h; exact ⟨.nil, by rw [PyData.canLayAll0], by rw [PyData.depthAll]⟩
  | v :: vs, _, h => by
    unfold flts at h
    cases e : flt v with
    | none => rw [e] at h; cases h
    | some d =>
      rw [e] at h
      cases e2 : flts vs with
      | none => rw [e2] at h; cases h
      | some ds =>
        rw [e2] at h
        cases h
        obtain ⟨a1, a2, a3⟩ := flt_dp (K := K) (H := H) e
        obtain ⟨b1, b2, b3⟩ := flts_dp (K := K) (H := H) e2
        exact ⟨.cons a1 b1, by rw [PyData.canLayAll0, a2, b2]; rfl, by rw [PyData.depthAll, a3, b3]; rfl⟩
theorem eqv_refl0 : ∀ {vs : List V} {ds : List PyData}, flts vs = some ds → PyData.eqvAll ds ds = true
  | [], _, h => by cases h; rw [PyData.eqvAll]
  | v :: vs, _, h => by
    unfold flts at h
    cases e : flt v with
    | none => rw [e] at h; cases h
    | some d =>
      rw [e] at h
      cases e2 : flts vs with
      | none => rw [e2] at h; cases h
      | some ds =>
        rw [e2] at h
        cases h
        have h2 := eqv_refl0 e2
        have h1 : PyData.eqv d d = true := by
          cases v with
          | non => cases e; rw [PyData.eqv]
          | bl b => cases e; rw [PyData.eqv]; simp
          | int i => cases e; rw [PyData.eqv]; simp
          | str x =>
            obtain ⟨_, rfl⟩ := flt_str e
            rw [PyData.eqv]; simp
          | _ => cases e
        show PyData.eqvAll (d :: ds) (d :: ds) = true
        rw [PyData.eqvAll, h1, h2]; rfl
/-- two equal tuples -/
theorem eq_tup {K : PySem.W.Frag} {H : Hp} {p r : Addr} {vs : List V} {ds : List PyData} {k : Bool → Prop} (h1 : H p = some (.tup vs)) (h2 : H r = some (.tup vs)) (e : flts vs = some ds) (q : k true) : dpq K (.ref p) (.ref r) H k := by
  obtain ⟨a1, a2, a3⟩ := flts_dp (K := K) (H := H) e
  have sh : SeqAt.shaped (.tuple ds) = true := by
    unfold SeqAt.shaped
    rw [PyData.canLay0, a2, PyData.depth, a3]
    decide
  refine dpq_i (.tup (SqT.of h1) a1) (.tup (SqT.of h2) a1) sh sh ?_
  rw [PyData.eqv, eqv_refl0 e]; exact q
theorem eq_lst {K : PySem.W.Frag} {H : Hp} {p r : Addr} {vs : List V} {ds : List PyData} {k : Bool → Prop} (h1 : H p = some (.lst vs)) (h2 : H r = some (.lst vs)) (e : flts vs = some ds) (q : k true) : dpq K (.ref p) (.ref r) H k := by
  obtain ⟨a1, a2, a3⟩ := flts_dp (K := K) (H := H) e
  have sh : SeqAt.shaped (.list ds) = true := by
    unfold SeqAt.shaped
    rw [PyData.canLay0, a2, PyData.depth, a3]
    decide
  refine dpq_i (.lst (SqL.of h1) a1) (.lst (SqL.of h2) a1) sh sh ?_
  rw [PyData.eqv, eqv_refl0 e]; exact q
theorem flts_s : ∀ {ks : List (List Nat)}, (∀ k ∈ ks, ∀ c ∈ k, c < 128) → flts (ks.map fun k => V.str (S k)) = some (ks.map fun k => PyData.str (S k))
  | [], _ => rfl
  | k :: ks, h => by
    rw [List.map_cons, List.map_cons]
    unfold flts
    rw [flt_s (h k List.mem_cons_self), flts_s fun x hx => h x (List.mem_cons_of_mem _ hx)]
    rfl
end Ta

set_option Elab.async false
set_option linter.all false
set_option maxRecDepth 100000
set_option maxHeartbeats 1000000
namespace Ta
open PySem PySem.Spec PyProof.Rows L2

/-! ### shortlex -/
def bfr (a b : List Nat) : Bool := decide (a.length < b.length) || (decide (a.length = b.length) && decide (a < b))
theorem rising_pw : ∀ (l : List Str) (a : Str), risingS a l = true → (l.Pairwise fun x y => tl x ≤ tl y) ∧ ∀ b ∈ l, tl a ≤ tl b
  | [], a, _ => ⟨.nil, fun _ h => nomatch h⟩
  | b :: l, a, h => by
    simp only [risingS, Bool.and_eq_true] at h
    obtain ⟨h1, h2⟩ := h
    obtain ⟨i1, i2⟩ := rising_pw l b h2
    have hab : tl a ≤ tl b := by
      have z : ltCps (tl b) (tl a) = false := by simpa using h1
      rw [ltCps_eq] at z
      exact List.not_lt.mp (of_decide_eq_false z)
    refine ⟨.cons i2 i1, fun c hc => ?_⟩
    rcases List.mem_cons.mp hc with rfl | hc
    · exact hab
    · exact List.le_trans hab (i2 c hc)
theorem sorted_pw {l : List Str} (h : sortedS l = true) (hn : l.Nodup) : l.Pairwise fun x y => tl x < tl y := by
  have h1 : l.Pairwise fun x y => tl x ≤ tl y := by
    cases l with
    | nil => exact .nil
    | cons a l => exact .cons (rising_pw l a h).2 (rising_pw l a h).1
  exact (List.Pairwise.and h1 hn).imp fun {x y} z => by
    refine Decidable.byContradiction fun hc => z.2 (ext_tl (List.le_antisymm z.1 (List.not_lt.mp hc)))
theorem sub_cons2 {α : Type} {a b x : α} {l : List α} (h : [a, b].Sublist (x :: l)) : [a, b].Sublist l ∨ (a = x ∧ b ∈ l) := by
  cases h with
  | cons _ h => exact .inl h
  | cons_cons _ h => exact .inr ⟨rfl, List.singleton_sublist.mp h⟩
theorem sub_anti {α : Type} {a b : α} : ∀ {l : List α}, l.Nodup → [a, b].Sublist l → [b, a].Sublist l → False
  | [], _, h, _ => by cases h
  | x :: l, hn, h, h' => by
    obtain ⟨n1, n2⟩ := List.nodup_cons.mp hn
    rcases sub_cons2 h with h | ⟨rfl, hb⟩
    · rcases sub_cons2 h' with h' | ⟨e, ha⟩
      · exact sub_anti n2 h h'
      · exact n1 (e ▸ h.subset (List.mem_cons_of_mem _ List.mem_cons_self))
    · rcases sub_cons2 h' with h' | ⟨e, ha⟩
      · exact n1 (h'.subset (List.mem_cons_of_mem _ List.mem_cons_self))
      · exact n1 ha
theorem sub_or {α : Type} {a b : α} : ∀ {l : List α}, a ∈ l → b ∈ l → a ≠ b → [a, b].Sublist l ∨ [b, a].Sublist l
  | x :: l, ha, hb, hne => by
    rcases List.mem_cons.mp ha with e1 | ha2
    · rcases List.mem_cons.mp hb with e2 | hb2
      · exact absurd (e1.trans e2.symm) hne
      · exact .inl (e1 ▸ .cons_cons _ (List.singleton_sublist.mpr hb2))
    · rcases List.mem_cons.mp hb with e2 | hb2
      · exact .inr (e2 ▸ .cons_cons _ (List.singleton_sublist.mpr ha2))
      · exact (sub_or ha2 hb2 hne).imp (.cons _) (.cons _)
theorem slen_perm (l : List Str) : (slen l).Perm l := List.mergeSort_perm _ _
theorem len_tr (a b c : Str) (h1 : decide (a.length ≤ b.length) = true) (h2 : decide (b.length ≤ c.length) = true) : decide (a.length ≤ c.length) = true := by
  simp at *; omega
theorem len_tt (a b : Str) : (decide (a.length ≤ b.length) || decide (b.length ≤ a.length)) = true := by
  simp; omega
theorem slen_ord {l : List Str} (h : sortedS l = true) (hn : l.Nodup) : (slen l).Pairwise fun x y => bfr (tl x) (tl y) = true := by
  have hp := slen_perm l
  have hn2 : (slen l).Nodup := hp.nodup_iff.mpr hn
  have h1 := sorted_pw h hn
  have h2 : (slen l).Pairwise fun a b => decide (a.length ≤ b.length) = true := List.pairwise_mergeSort len_tr len_tt l
  rw [List.pairwise_iff_forall_sublist] at h1 h2 ⊢
  intro a b hs
  have hle := of_decide_eq_true (h2 hs)
  rw [len_tl, len_tl] at hle
  unfold bfr
  by_cases hlt : (tl a).length < (tl b).length
  · rw [decide_eq_true hlt]; rfl
  · have he : (tl a).length = (tl b).length := by omega
    rw [decide_eq_false hlt, decide_eq_true he]
    have hne : a ≠ b := fun e => by
      subst e
      exact sub_anti hn2 hs hs
    have ha : a ∈ l := hp.mem_iff.mp (hs.subset (by simp))
    have hb : b ∈ l := hp.mem_iff.mp (hs.subset (by simp))
    rcases sub_or ha hb hne with z | z
    · rw [decide_eq_true (h1 z)]; rfl
    · exfalso
      have : [b, a].Sublist (slen l) := List.pair_sublist_mergeSort len_tr len_tt (decide_eq_true (by rw [len_tl, len_tl]; omega)) z
      exact sub_anti hn2 hs this
theorem pf_len {α : Type} {l m : List α} (hn : l.Nodup) (hs : ∀ c ∈ l, c ∈ m) : l.length ≤ m.length := by
  classical
  induction l generalizing m with
  | nil => exact Nat.zero_le _
  | cons a l ih =>
    obtain ⟨h1, h2⟩ := List.nodup_cons.mp hn
    have ha := hs a List.mem_cons_self
    obtain ⟨s, t, rfl⟩ := List.append_of_mem ha
    have := ih (m := s ++ t) h2 fun c hc => by
      have := hs c (List.mem_cons_of_mem _ hc)
      simp only [List.mem_append, List.mem_cons] at this ⊢
      rcases this with z | z | z
      · exact .inl z
      · exact absurd (z ▸ hc) h1
      · exact .inr z
    simp only [List.length_append, List.length_cons] at this ⊢
    omega
structure slx (us zs : List (List Nat)) : Prop where
  sub : ∀ z ∈ zs, z ∈ us
  all : ∀ u ∈ us, u ∈ zs
  ord : zs.Pairwise fun a b => bfr a b = true
  nd : zs.length ≤ us.length
theorem slx_of {us : List (List Nat)} {ys : List Str} (h : sortedS ys = true) (hn : ys.Nodup) (hm : ∀ y, y ∈ ys ↔ y ∈ us.map S) : slx us ((slen ys).map tl) := by
  have hp := slen_perm ys
  refine ⟨fun z hz => ?_, fun u hu => ?_, ?_, ?_⟩
  · obtain ⟨y, hy, rfl⟩ := List.mem_map.mp hz
    obtain ⟨u, hu, e⟩ := List.mem_map.mp ((hm y).mp (hp.mem_iff.mp hy))
    rw [← e]; exact hu
  · exact List.mem_map.mpr ⟨S u, hp.mem_iff.mpr ((hm _).mpr (List.mem_map.mpr ⟨u, hu, rfl⟩)), rfl⟩
  · exact List.Pairwise.map _ (fun a b h => h) (slen_ord h hn)
  · rw [List.length_map, hp.length_eq]
    have := pf_len hn fun y hy => (hm y).mp hy
    rwa [List.length_map] at this
theorem ksl_slen (ys : List Str) : (slen ys).map V.str = ((slen ys).map tl).map fun k => V.str (S k) := by
  rw [List.map_map]; congr 1
/-! ### the first places of signs in order -/
theorem fnd_lt : ∀ {sg : List Nat}, sg.Pairwise (· < ·) → ∀ {c d : Nat}, c ∈ sg → d ∈ sg → (fnd c sg < fnd d sg ↔ c < d)
  | sg, hp, c, d, hc, hd => by
    have key : ∀ {sg : List Nat}, sg.Pairwise (· < ·) → ∀ {c d : Nat}, c ∈ sg → d ∈ sg → c < d → (bef c sg).length < (bef d sg).length := by
      intro sg
      induction sg with
      | nil => intro _ c d hc; cases hc
      | cons a sg ih =>
        intro hp c d hc hd hlt
        obtain ⟨h1, h2⟩ := List.pairwise_cons.mp hp
        rcases List.mem_cons.mp hc with e | hc2
        · subst e
          have : ¬ c = d := by omega
          simp [bef, this]
        · rcases List.mem_cons.mp hd with e | hd2
          · have := h1 c hc2; omega
          · have e1 := h1 c hc2
            have e2 := h1 d hd2
            have n1 : ¬ a = c := by omega
            have n2 : ¬ a = d := by omega
            have := ih h2 hc2 hd2 hlt
            simp only [bef] at this ⊢
            simp [n1, n2]
            simpa using this
    have e1 : fnd c sg = ((bef c sg).length : Int) := if_pos hc
    have e2 : fnd d sg = ((bef d sg).length : Int) := if_pos hd
    rw [e1, e2]
    constructor
    · intro h
      refine Decidable.byContradiction fun hn => ?_
      rcases Nat.lt_or_eq_of_le (Nat.le_of_not_lt hn) with z | z
      · have := key hp hd hc z; omega
      · subst z; omega
    · intro h
      have := key hp hc hd h; omega
theorem fnd_ge {c : Nat} {sg : List Nat} (h : c ∈ sg) : 0 ≤ fnd c sg := by
  have e1 : fnd c sg = ((bef c sg).length : Int) := if_pos h
  rw [e1]; omega
theorem fnd_in {c : Nat} {sg : List Nat} (h : 0 ≤ fnd c sg) : c ∈ sg := by
  refine Decidable.byContradiction fun hn => ?_
  have e1 : fnd c sg = -1 := if_neg hn
  rw [e1] at h; omega
theorem fnd_m1 (c : Nat) (sg : List Nat) : -1 ≤ fnd c sg := by
  unfold fnd; split <;> omega
/-! ### texts in ascending order -/
theorem dd_id {l : List Nat} : l.Pairwise (· < ·) → l.eraseDups = l := by
  induction l with
  | nil => intro _; rfl
  | cons a l ih =>
    intro h
    obtain ⟨h1, h2⟩ := List.pairwise_cons.mp h
    rw [List.eraseDups_cons]
    have e : l.filter (fun b => !b == a) = l := by
      rw [List.filter_eq_self]
      intro b hb
      have := h1 b hb
      have : b ≠ a := by omega
      simp [this]
    rw [e, ih h2]
theorem pw_srt {l : List Nat} : srt l.eraseDups = l ↔ l.Pairwise (· < ·) := by
  constructor
  · intro h
    have hp := srt_pw l.eraseDups
    have hn : (srt l.eraseDups).Nodup := (srt_perm _).nodup_iff.mpr (nd_dups l)
    rw [h] at hp hn
    exact (List.Pairwise.and hp hn).imp fun {x y} z => by omega
  · intro h
    rw [dd_id h]
    exact (srt_uniq (List.Perm.refl l) (h.imp fun z => Nat.le_of_lt z)).symm
theorem srt_lt {l : List Nat} (h : l.Nodup) : (srt l).Pairwise (· < ·) :=
  (List.Pairwise.and (srt_pw l) ((srt_perm l).nodup_iff.mpr h)).imp fun {x y} z => by omega
theorem srt_flt {l v : List Nat} (hl : l.Nodup) (hv : v.Nodup) (hs : ∀ c ∈ v, c ∈ l) : (srt l).filter (fun c => decide (c ∈ v)) = srt v := by
  refine srt_uniq ?_ ((srt_pw l).filter _)
  refine (List.perm_ext_iff_of_nodup (List.Pairwise.filter _ ((srt_perm l).nodup_iff.mpr hl)) hv).mpr fun c => ?_
  rw [List.mem_filter, (srt_perm l).mem_iff, decide_eq_true_eq]
  exact ⟨fun h => h.2, fun h => ⟨hs c h, h⟩⟩
theorem itm_all {α : Type} {xs : List α} {i : Int} {k : α → Prop} (P : α → Prop) (h0 : 0 ≤ i) (h1 : i < (xs.length : Int)) (hP : ∀ x ∈ xs, P x) (q : ∀ x, P x → k x) : itm xs i k :=
  itm_s h0 h1 fun j hj _ => q _ (hP _ (List.getElem_mem hj))
theorem itm_k {ks : List (List Nat)} {i : Int} {k : V → Prop} (h0 : 0 ≤ i) (h1 : i < (ks.length : Int)) (q : ∀ (j : Nat) (hj : j < ks.length), i = (j : Int) → k (.str (S ks[j]))) : itm (ks.map fun k => V.str (S k)) i k := by
  refine itm_s h0 (by rw [List.length_map]; exact h1) fun j hj e => ?_
  rw [List.length_map] at hj
  rw [List.getElem_map]
  exact q j hj e
theorem flat_k : ∀ ks : List (List Nat), (ks.map fun k => V.str (S k)).all flatV = true
  | [] => rfl
  | k :: ks => by rw [List.map_cons, List.all_cons, flat_k ks]; rfl
theorem inV_k (a : List Nat) (ks : List (List Nat)) : inV (.str (S a)) (ks.map fun k => V.str (S k)) = decide (a ∈ ks) := by
  have h := inV_str (S a) (ks.map S)
  rw [List.map_map] at h
  refine h.trans (decide_eq_decide.mpr ?_)
  rw [List.mem_map]
  exact ⟨fun ⟨b, hb, e⟩ => by have : b = a := congrArg tl e; exact this ▸ hb, fun h => ⟨a, h, rfl⟩⟩
theorem lt_app {x y : Nat} {s t : List Nat} (h : x ≠ y) : ∀ p : List Nat, (p ++ x :: s < p ++ y :: t ↔ x < y)
  | [] => by
    rw [List.nil_append, List.nil_append, List.cons_lt_cons_iff]
    exact ⟨fun z => z.resolve_right fun w => h w.1, .inl⟩
  | c :: p => by
    rw [List.cons_append, List.cons_append, List.cons_lt_cons_iff, lt_app h p]
    exact ⟨fun z => z.elim (fun w => absurd w (Nat.lt_irrefl _)) (·.2), fun z => .inr ⟨rfl, z⟩⟩
theorem cut_at {l : List Nat} {i : Nat} (h : i < l.length) : l = l.take i ++ l[i] :: l.drop (i + 1) := by
  rw [← List.drop_eq_getElem_cons h, List.take_append_drop]
theorem pw_at {l : List Nat} {i c : Nat} (hp : l.Pairwise (· < ·)) (h : i < l.length) (hc : c ∈ l.take i) : c < l[i] := by
  rw [cut_at h, List.pairwise_append] at hp
  exact hp.2.2 c hc _ List.mem_cons_self
end Ta

set_option Elab.async false
set_option linter.all false
set_option maxRecDepth 100000
set_option maxHeartbeats 4000000
namespace Lw
open PySem PySem.Spec PyProof.Rows L2 Ta
def top (i : Nat) : Stmt := PySem.Challenge.pw_talepost_k01_texts_and_sets.main.body.getD i (.Pass ⟨0, 0, 0, 0⟩)
structure Tx (K : PySem.W.Frag) (mg : Str → Option Value) : Prop where
  f_ValueError : mg "ValueError" = none
  f_abs : mg "abs" = none
  f_all : mg "all" = none
  f_bool : mg "bool" = none
  f_int : mg "int" = none
  f_isinstance : mg "isinstance" = none
  f_len : mg "len" = none
  f_list : mg "list" = none
  f_range : mg "range" = none
  f_set : mg "set" = none
  f_sorted : mg "sorted" = none
  f_str : mg "str" = none
  v_BadAlphabet : GlobV mg "BadAlphabet" (.ref (He.ga K "BadAlphabet"))
  v_BadSet : GlobV mg "BadSet" (.ref (He.ga K "BadSet"))
  v_BadText : GlobV mg "BadText" (.ref (He.ga K "BadText"))
  v_SMALL : GlobV mg "SMALL" (.str (S [97, 98, 99, 100, 101, 102, 103, 104, 105, 106, 107, 108, 109, 110, 111, 112, 113, 114, 115, 116, 117, 118, 119, 120, 121, 122]))
  v_TaleError : GlobV mg "TaleError" (.ref (He.ga K "TaleError"))
  cc_Alphabet_JOINT : ClsConst K mg "Alphabet" "JOINT" (.str (S [45]))
  cc_Alphabet_MOST : ClsConst K mg "Alphabet" "MOST" (.int 4)
  k_Alphabet : Cls K (He.ga K "Alphabet")
  i_Alphabet : IsC K (He.ga K "Alphabet")
  n_Alphabet_letters : NoAttr K (He.ga K "Alphabet") "letters"
  n_Alphabet_vowels : NoAttr K (He.ga K "Alphabet") "vowels"
  n_Alphabet_consonants : NoAttr K (He.ga K "Alphabet") "consonants"
  n_Alphabet_signs : NoAttr K (He.ga K "Alphabet") "signs"
  o_Alphabet_Alphabet : PySem.W.kitOne K (.ref (He.ga K "Alphabet")) (.ref (He.ga K "Alphabet")) = some true
  x_BadSet : XC K (He.ga K "BadSet")
  nx_BadSet_name : PySem.W.findIn K (.ref (He.ga K "BadSet")) "name" = some none
  e_BadSet_TaleError : PySem.W.exmOne K (.ref (He.ga K "BadSet")) (.ref (He.ga K "TaleError")) = some true
  o_BadSet_BadSet : PySem.W.kitOne K (.ref (He.ga K "BadSet")) (.ref (He.ga K "BadSet")) = some true
  o_BadSet_ValueError : PySem.W.kitOne K (.ref (He.ga K "BadSet")) (.type "ValueError") = some true
  a_BadSet_BadText_BadAlphabet : PySem.W.kitAny K (.ref (He.ga K "BadSet")) [.ref (He.ga K "BadText"), .ref (He.ga K "BadAlphabet")] = some false
  x_BadText : XC K (He.ga K "BadText")
  nx_BadText_text : PySem.W.findIn K (.ref (He.ga K "BadText")) "text" = some none
  e_BadText_TaleError : PySem.W.exmOne K (.ref (He.ga K "BadText")) (.ref (He.ga K "TaleError")) = some true
  o_BadText_BadText : PySem.W.kitOne K (.ref (He.ga K "BadText")) (.ref (He.ga K "BadText")) = some true
  o_BadText_ValueError : PySem.W.kitOne K (.ref (He.ga K "BadText")) (.type "ValueError") = some true
  a_BadText_BadSet_BadAlphabet : PySem.W.kitAny K (.ref (He.ga K "BadText")) [.ref (He.ga K "BadSet"), .ref (He.ga K "BadAlphabet")] = some false
abbrev pr (a b : Int) : HO := .lst [.int a, .int b]
abbrev scr (ob : Obj) (ns : List Int) : HO := .frz ob (.lst (ns.map V.int))
abbrev AZ : List Nat := [97, 98, 99, 100, 101, 102, 103, 104, 105, 106, 107, 108, 109, 110, 111, 112, 113, 114, 115, 116, 117, 118, 119, 120, 121, 122]
def dif (l : List Nat) : Bool := decide ((dn l : Int) = (l.length : Int))
def badL (l : List Nat) : Bool := l.any (fun c => !decide (c ∈ AZ)) || !(decide (1 ≤ l.length ∧ l.length ≤ 4)) || !dif l
def badV (l v : List Nat) : Bool := v.any (fun c => !decide (c ∈ l)) || !dif v
abbrev tLet : List Nat := [108, 101, 116, 116, 101, 114, 115]
abbrev tVow : List Nat := [118, 111, 119, 101, 108, 115]
def alf (l v : List Nat) : List (Str × V) := [("letters", .str (S (srt l))), ("vowels", .str (S (srt v))), ("consonants", .str (S ((srt l).filter fun c => !decide (c ∈ v)))), ("signs", .str (S (45 :: srt l)))]
theorem badL1 {l : List Nat} (h : (sgn (l.filter fun c => !decide (c ∈ AZ))).isEmpty = false) : badL l = true := by
  rw [sgn_fe] at h
  unfold badL
  simp only [Bool.not_eq_false'] at h
  rw [h, Bool.true_or, Bool.true_or]
theorem badL2 {l : List Nat} (h : ¬ (1 : Int) ≤ (l.length : Int)) : badL l = true := by
  unfold badL
  rw [decide_eq_false (by omega : ¬ (1 ≤ l.length ∧ l.length ≤ 4)), Bool.not_false, Bool.or_true, Bool.true_or]
theorem badL3 {l : List Nat} (h : ¬ (l.length : Int) ≤ 4) : badL l = true := by
  unfold badL
  rw [decide_eq_false (by omega : ¬ (1 ≤ l.length ∧ l.length ≤ 4)), Bool.not_false, Bool.or_true, Bool.true_or]
theorem badL4 {l : List Nat} (h : ¬ (dn l : Int) = (l.length : Int)) : badL l = true := by
  unfold badL dif
  rw [decide_eq_false h, Bool.not_false, Bool.or_true]
theorem badL0 {l : List Nat} (h : (sgn (l.filter fun c => !decide (c ∈ AZ))).isEmpty = true) (h1 : (1 : Int) ≤ (l.length : Int)) (h2 : (l.length : Int) ≤ 4) (h3 : (dn l : Int) = (l.length : Int)) : badL l = false := by
  rw [sgn_fe] at h
  unfold badL dif
  simp only [Bool.not_eq_true'] at h
  rw [h, decide_eq_true (by omega : 1 ≤ l.length ∧ l.length ≤ 4), decide_eq_true h3]; rfl
theorem badV1 {l v : List Nat} (h : (sgn (v.filter fun c => !decide (c ∈ l))).isEmpty = false) : badV l v = true := by
  rw [sgn_fe] at h
  unfold badV
  simp only [Bool.not_eq_false'] at h
  rw [h, Bool.true_or]
theorem badV2 {l v : List Nat} (h : ¬ (dn v : Int) = (v.length : Int)) : badV l v = true := by
  unfold badV dif
  rw [decide_eq_false h, Bool.not_false, Bool.or_true]
theorem badV0 {l v : List Nat} (h : (sgn (v.filter fun c => !decide (c ∈ l))).isEmpty = true) (h3 : (dn v : Int) = (v.length : Int)) : badV l v = false := by
  rw [sgn_fe] at h
  unfold badV dif
  simp only [Bool.not_eq_true'] at h
  rw [h, decide_eq_true h3]; rfl
theorem dif_nd (l : List Nat) : dif l = true ↔ l.Nodup := by
  unfold dif
  rw [decide_eq_true_iff, ← dn_nodup]
  omega
theorem badL_any {l : List Nat} {c : Nat} (h : c ∈ l) (hc : ¬ c ∈ AZ) : badL l = true := by
  unfold badL
  have z : (l.any fun c => !decide (c ∈ AZ)) = true := List.any_eq_true.mpr ⟨c, h, by rw [decide_eq_false hc]; rfl⟩
  rw [z, Bool.true_or, Bool.true_or]
theorem badL_nd {l : List Nat} (h : ¬ l.Nodup) : badL l = true := by
  unfold badL
  have z : dif l = false := by
    cases e : dif l with
    | false => rfl
    | true => exact absurd ((dif_nd l).mp e) h
  rw [z, Bool.not_false, Bool.or_true]
theorem badV_any {l v : List Nat} {c : Nat} (h : c ∈ v) (hc : ¬ c ∈ l) : badV l v = true := by
  unfold badV
  have z : (v.any fun c => !decide (c ∈ l)) = true := List.any_eq_true.mpr ⟨c, h, by rw [decide_eq_false hc]; rfl⟩
  rw [z, Bool.true_or]
theorem badV_nd {l v : List Nat} (h : ¬ v.Nodup) : badV l v = true := by
  unfold badV
  have z : dif v = false := by
    cases e : dif v with
    | false => rfl
    | true => exact absurd ((dif_nd v).mp e) h
  rw [z, Bool.not_false, Bool.or_true]
theorem badL_ok {l : List Nat} (h1 : 1 ≤ l.length) (h2 : l.length ≤ 4) (h3 : l.Nodup) (h4 : ∀ c ∈ l, c ∈ AZ) : badL l = false := by
  unfold badL
  have z : (l.any fun c => !decide (c ∈ AZ)) = false := List.any_eq_false.mpr fun c hc => by rw [decide_eq_true (h4 c hc)]; decide
  rw [z, (dif_nd l).mpr h3, decide_eq_true ⟨h1, h2⟩]; rfl
theorem badV_ok {l v : List Nat} (h3 : v.Nodup) (h4 : ∀ c ∈ v, c ∈ l) : badV l v = false := by
  unfold badV
  have z : (v.any fun c => !decide (c ∈ l)) = false := List.any_eq_false.mpr fun c hc => by rw [decide_eq_true (h4 c hc)]; decide
  rw [z, (dif_nd v).mpr h3]; rfl
theorem nd_at {l : List Nat} {j : Nat} (hj : j < l.length) (h : l[j] ∈ l.take j) : ¬ l.Nodup := fun nd => by
  obtain ⟨i, hi, e⟩ := List.mem_iff_getElem.mp h
  have hi2 : i < j := by rw [List.length_take] at hi; omega
  rw [List.getElem_take] at e
  exact absurd ((List.getElem_inj nd).mp e) (by omega)
theorem nd_take {l : List Nat} {j : Nat} (hj : j < l.length) (h : ¬ l[j] ∈ l.take j) (nd : (l.take j).Nodup) : (l.take (j + 1)).Nodup := by
  rw [List.take_succ_eq_append_getElem hj]
  refine List.nodup_append.mpr ⟨nd, by simp, fun a ha b hb => ?_⟩
  rw [List.mem_singleton.mp hb]
  exact fun e => h (e ▸ ha)
theorem al_take {l m : List Nat} {j : Nat} (hj : j < l.length) (h : l[j] ∈ m) (al : ∀ c ∈ l.take j, c ∈ m) : ∀ c ∈ l.take (j + 1), c ∈ m := fun c hc => by
  rw [List.take_succ_eq_append_getElem hj] at hc
  rcases List.mem_append.mp hc with z | z
  · exact al c z
  · rw [List.mem_singleton.mp z]; exact h
/-- letters and vowels that an alphabet takes -/
def good (l v : List Nat) : Prop := badL l = false ∧ badV l v = false
abbrev alo (K : PySem.W.Frag) (dA : Addr) (l v : List Nat) : HO := .ins (He.ga K "Alphabet") dA (alf l v)
def mid (n : List Nat) : List Nat := cut n (some 1) (some (-1))
def asc (m sg : List Nat) : Bool := m.all (fun c => decide (c ∈ sg)) && decide (srt m.eraseDups = m)
abbrev nAll : List Nat := [97, 108, 108]
abbrev nLet : List Nat := [108, 101, 116, 116, 101, 114, 115]
abbrev nVow : List Nat := [118, 111, 119, 101, 108, 115]
abbrev nCon : List Nat := [99, 111, 110, 115, 111, 110, 97, 110, 116, 115]
abbrev nJoi : List Nat := [106, 111, 105, 110, 116, 115]
def lsv (l n : List Nat) : Option (List Nat) := if n.length < 3 ∨ ¬ n[0]? = some 91 ∨ ¬ n[n.length - 1]? = some 93 then none else if asc (mid n) (45 :: srt l) = true then some (mid n) else none
def stv (l v n : List Nat) : Option (List Nat) := if n = nAll then some (45 :: srt l) else if n = nLet then some (srt l) else if n = nVow then some (srt v) else if n = nCon then some ((srt l).filter fun c => !decide (c ∈ v)) else if n = nJoi then some [45] else lsv l n
/-- what a set's name gives: its signs, or BadSet -/
structure setK (K : PySem.W.Frag) (o : Option (List Nat)) (n : List Nat) (H : Hp) (Q : VK) (E : XK) : Prop where
  out : match o with
  | some m => ∀ H', Kp [] H H' → Q (.str (S m)) H'
  | none => ∀ H' d, Kp [] H H' → H' d = none → E (.ref (He.ga K "BadSet")) (some d) (upd H' d (.xd [("name", .str (S n))]))
theorem itm_m1 {α : Type} {l : List α} {k : α → Prop} (h : 0 < l.length) (q : ∀ (j : Nat) (hj : j < l.length), j = l.length - 1 → k l[j]) : itm l (-1) k := by
  refine itm_i (v := l[l.length - 1]) ?_ (q _ (by omega) rfl)
  have e : ixN l.length (-1) = some (l.length - 1) := by
    unfold ixN
    rw [if_neg (by omega), if_pos (by omega)]
    congr 1
    omega
  unfold atI
  rw [e]
  exact List.getElem?_eq_getElem (by omega)
theorem setK_n {K : PySem.W.Frag} {o : Option (List Nat)} {n : List Nat} {H : Hp} {Q : VK} {E : XK} (q : setK K o n H Q E) (e : o = none) : ∀ H' d, Kp [] H H' → H' d = none → E (.ref (He.ga K "BadSet")) (some d) (upd H' d (.xd [("name", .str (S n))])) := by have q := q.out; rw [e] at q; exact q
theorem setK_s {K : PySem.W.Frag} {o : Option (List Nat)} {n m : List Nat} {H : Hp} {Q : VK} {E : XK} (q : setK K o n H Q E) (e : o = some m) : ∀ H', Kp [] H H' → Q (.str (S m)) H' := by have q := q.out; rw [e] at q; exact q
theorem lsv_1 {l n : List Nat} (h : n.length < 3) : lsv l n = none := by unfold lsv; rw [if_pos (.inl h)]
theorem lsv_2 {l n : List Nat} {j : Nat} (hj : j < n.length) (e : (0 : Int) = j) (h : ¬ [n[j]] = [91]) : lsv l n = none := by
  have : j = 0 := by omega
  subst this
  have hz : ¬ n[0]? = some 91 := fun z => h (by
    have z := (List.getElem?_eq_getElem hj).symm.trans z
    exact congrArg (fun c => [c]) (Option.some.inj z))
  unfold lsv; rw [if_pos (.inr (.inl hz))]
theorem lsv_3 {l n : List Nat} {j : Nat} (hj : j < n.length) (e : j = n.length - 1) (h : ¬ [n[j]] = [93]) : lsv l n = none := by
  subst e
  have hz : ¬ n[n.length - 1]? = some 93 := fun z => h (by
    have z := (List.getElem?_eq_getElem hj).symm.trans z
    exact congrArg (fun c => [c]) (Option.some.inj z))
  unfold lsv; rw [if_pos (.inr (.inr hz))]
theorem lsv_0 {l n : List Nat} {i j : Nat} (h1 : ¬ n.length < 3) (hi : i < n.length) (e : (0 : Int) = i) (h : [n[i]] = [91]) (hj : j < n.length) (e2 : j = n.length - 1) (h2 : [n[j]] = [93]) : lsv l n = if asc (mid n) (45 :: srt l) = true then some (mid n) else none := by
  have : i = 0 := by omega
  subst this
  subst e2
  unfold lsv
  rw [if_neg]
  simp only [not_or, Classical.not_not]
  refine ⟨h1, ?_, ?_⟩
  · rw [List.getElem?_eq_getElem hi]; injection h with h; rw [h]
  · rw [List.getElem?_eq_getElem hj]; injection h2 with h2; rw [h2]
abbrev ksl (ks : List (List Nat)) : HO := .lst (ks.map fun k => V.str (S k))
def setP (o : Option (List Nat)) (n : List Nat) : List V := match o with
  | some m => [.bl true, .str (S m)]
  | none => [.bl false, .str (S n)]
def chkP (b : Bool) (t : List Nat) : List V := if b = true then [.bl true, .str (S [])] else [.bl false, .str (S t)]
def knd (t : List Nat) : List Nat := if t = [] then [115, 116, 97, 114, 116] else if t[t.length - 1]? = some 45 then [106, 111, 105, 110, 116] else [108, 101, 116, 116, 101, 114]
theorem setK_i {K : PySem.W.Frag} {o : Option (List Nat)} {n : List Nat} {H : Hp} {Q : VK} {E : XK} (q1 : ∀ m, o = some m → ∀ H', Kp [] H H' → Q (.str (S m)) H') (q2 : o = none → ∀ H' d, Kp [] H H' → H' d = none → E (.ref (He.ga K "BadSet")) (some d) (upd H' d (.xd [("name", .str (S n))]))) : setK K o n H Q E := by
  refine ⟨?_⟩
  cases o with
  | none => exact q2 rfl
  | some m => exact q1 m rfl
theorem chg1 {s : List Nat} {c : Nat} {r k : Int} (hs : ∀ c ∈ s, c < 128) (h0 : 0 ≤ r) (hk : 0 ≤ k) (hrk : r ≤ k) (hr : r ≤ s.length) (hc : c < 128) : (cut s none (some r) ++ [c] ++ cut s (some k) none).length ≤ s.length + 1 ∧ ∀ d ∈ cut s none (some r) ++ [c] ++ cut s (some k) none, d < 128 := by
  rw [cut_toI s h0, cut_fromI s hk]
  refine ⟨?_, fun d hd => ?_⟩
  · simp only [List.length_append, List.length_take, List.length_drop, List.length_cons, List.length_nil]; omega
  · rcases List.mem_append.mp hd with hd | hd
    · rcases List.mem_append.mp hd with hd | hd
      · exact hs d (List.mem_of_mem_take hd)
      · rw [List.mem_singleton.mp hd]; exact hc
    · exact hs d (List.mem_of_mem_drop hd)
theorem chg2 {s : List Nat} {r k : Int} (hs : ∀ c ∈ s, c < 128) (h0 : 0 ≤ r) (hk : 0 ≤ k) (hrk : r ≤ k) (hr : r ≤ s.length) : (cut s none (some r) ++ cut s (some k) none).length ≤ s.length + 1 ∧ ∀ d ∈ cut s none (some r) ++ cut s (some k) none, d < 128 := by
  rw [cut_toI s h0, cut_fromI s hk]
  refine ⟨?_, fun d hd => ?_⟩
  · simp only [List.length_append, List.length_take, List.length_drop]; omega
  · rcases List.mem_append.mp hd with hd | hd
    · exact hs d (List.mem_of_mem_take hd)
    · exact hs d (List.mem_of_mem_drop hd)
theorem ah_map (ks : List (List Nat)) (k : List Nat) : (ks.map fun k => V.str (S k)) ++ [.str (S k)] = (ks ++ [k]).map fun k => V.str (S k) := by rw [List.map_append]; rfl

/-! _law_box -/
abbrev s_l_box : Stmt := top 12
theorem sc_l_box : FnScope ["_law_script", "_law_k", "_law_cell"] ["_law_script", "_law_k"] (defScope s_l_box) := ⟨rfl, rfl, rfl, by decide +kernel, rfl, by decide +kernel, by decide +kernel⟩
structure sp_l_box (K : PySem.W.Frag) (vs : List V) (H : Hp) (Q : VK) (E : XK) : Prop where
  out : ∃ (p : Addr) (k : Int) (ob : Obj) (ns : List Int), vs = [.ref p, .int k] ∧ H p = some (scr ob ns) ∧ 0 ≤ k ∧ ns.length < 1000 ∧ ∀ q a b, H q = none → Q (.ref q) (upd H q (pr a b))
theorem i_l_box {K : PySem.W.Frag} {p : Addr} {k : Int} {ob : Obj} {ns : List Int} {H : Hp} {Q : VK} {E : XK} (hp : H p = some (scr ob ns)) (h0 : 0 ≤ k) (h1 : ns.length < 1000) (q : ∀ q a b, H q = none → Q (.ref q) (upd H q (pr a b))) : sp_l_box K [.ref p, .int k] H Q E := by
  exact ⟨⟨p, k, ob, ns, rfl, hp, h0, h1, q⟩⟩

def t_l_box (K : PySem.W.Frag) (W : WX) : TS :=
  (tSeq (tIfP (tNot (tTru K (tV 0))) (tRet (tLst (tCons (tC (.int 0)) (tCons (tC (.int 0)) tNil)))) tNext)
  (tSeq (tAsg (tOp zAdd (tCB (zAbs) (tCons (tCB (zInt) (tCons (tOp (zIxP K) (tV 0) (tOp zMod (tCB (zInt) (tCons (tV 1) tNil)) (tCB (zLen K) (tCons (tV 0) tNil)))) tNil)) tNil)) (tOp zMul (tC (.int 1009)) (tOp zDiv (tCB (zInt) (tCons (tV 1) tNil)) (tCB (zLen K) (tCons (tV 0) tNil))))) (gName 2))
  (tSeq (tIfP (tTst (tOp zLt (tV 2) (tOp zPow (tC (.int 10)) (tC (.int 18))))) (tRet (tLst (tCons (tV 2) (tCons (tC (.int 1)) tNil)))) tNext)
  (tRet (tLst (tCons (tV 2) (tCons (tC (.int 0)) tNil)))))))
theorem tm_l_box {P : Program} {w : World} {K : PySem.W.Frag} {mg : Str → Option Value} {base : Heap} {f : Addr} {cdv : Value} {A : Around} {outer : List Env} {s : Shared} {H : Hp} {E : XK} (T : Tx K mg) (hr : Room 4 (A.deeper (envOfC "_law_box" (defScope s_l_box) s.heap.objs.size f cdv))) :
    PSs (cxOf (L2.CX P w) P w K mg base ["_law_script", "_law_k", "_law_cell"] "_law_box" (defScope s_l_box) f cdv A outer s H E) (defBody s_l_box) (t_l_box K (WD E)) :=
  (pss_cons (psif (pt_not (ptru (Ta.pv 0))) (pss_one (ps_ret (pe_lst (pa_cons pe_int (pa_cons pe_int pa_nil))))) pss_nil)
  (pss_cons (pset 2 sc_l_box.nd (pe_op opadd (pcb (crabs) T.f_abs (pa_cons (pct (crint) T.f_int (pa_cons (pix (Ta.pv 0) (pe_op opmod (pct (crint) T.f_int (pa_cons (Ta.pv 1) pa_nil)) (pcb (crlen) T.f_len (pa_cons (Ta.pv 0) pa_nil)))) pa_nil)) pa_nil)) (pe_op opmul pe_int (pe_op opdiv (pct (crint) T.f_int (pa_cons (Ta.pv 1) pa_nil)) (pcb (crlen) T.f_len (pa_cons (Ta.pv 0) pa_nil))))))
  (pss_cons (psif (ptcmp oplt (Ta.pv 2) (pe_op oppow pe_int pe_int)) (pss_one (ps_ret (pe_lst (pa_cons (Ta.pv 2) (pa_cons pe_int pa_nil))))) pss_nil)
  (pss_one (ps_ret (pe_lst (pa_cons (Ta.pv 2) (pa_cons pe_int pa_nil))))))))
/-! _law_take -/
abbrev s_l_take : Stmt := top 13
theorem sc_l_take : FnScope ["_law_box_here", "_law_size", "_law_digit", "_law_mixed"] ["_law_box_here", "_law_size"] (defScope s_l_take) := ⟨rfl, rfl, rfl, by decide +kernel, rfl, by decide +kernel, by decide +kernel⟩
structure sp_l_take (K : PySem.W.Frag) (vs : List V) (H : Hp) (Q : VK) (E : XK) : Prop where
  out : ∃ p n a b, vs = [.ref p, .int n] ∧ H p = some (pr a b) ∧ 0 < n ∧ n < 1073741824 ∧ ∀ r a' b', 0 ≤ r → r < n → Q (.int r) (upd H p (pr a' b'))
theorem i_l_take {K : PySem.W.Frag} {p : Addr} {n a b : Int} {H : Hp} {Q : VK} {E : XK} (hp : H p = some (pr a b)) (h0 : 0 < n) (h1 : n < 1073741824) (q : ∀ r a' b', 0 ≤ r → r < n → Q (.int r) (upd H p (pr a' b'))) : sp_l_take K [.ref p, .int n] H Q E := by
  exact ⟨⟨p, n, a, b, rfl, hp, h0, h1, q⟩⟩

def t_l_take (K : PySem.W.Frag) (W : WX) : TS :=
  (tSeq (tIfP (tTst (tOp (zEqP K) (tOp (zIxP K) (tV 0) (tC (.int 1))) (tC (.int 0)))) (tSeq (tAsg (tOp zMod (tCB (zInt) (tCons (tOp (zIxP K) (tV 0) (tC (.int 0))) tNil)) (tV 1)) (gName 2))
  (tSeq (tAsg (tOp zDiv (tCB (zInt) (tCons (tOp (zIxP K) (tV 0) (tC (.int 0))) tNil)) (tV 1)) (gSub (tV 0) (tC (.int 0)) zSetP))
  (tRet (tV 2)))) tNext)
  (tSeq (tAsg (tOp zAdd (tOp (zIxP K) (tV 0) (tC (.int 1))) (tC (.int 1))) (gSub (tV 0) (tC (.int 1)) zSetP))
  (tSeq (tAsg (tOp zMod (tCB (zInt) (tCons (tOp zAdd (tOp zAdd (tOp zMul (tOp (zIxP K) (tV 0) (tC (.int 0))) (tC (.int 48271))) (tOp zMul (tOp (zIxP K) (tV 0) (tC (.int 1))) (tC (.int 69621)))) (tC (.int 13))) tNil)) (tC (.int 2147483647))) (gName 3))
  (tSeq (tAsg (tOp zMod (tCB (zInt) (tCons (tOp zMul (tV 3) (tOp zAdd (tOp zMod (tCB (zInt) (tCons (tV 3) tNil)) (tC (.int 65521))) (tC (.int 7919)))) tNil)) (tC (.int 2147483399))) (gName 3))
  (tRet (tOp zMod (tCB (zInt) (tCons (tOp zAdd (tOp zDiv (tV 3) (tC (.int 32))) (tOp zDiv (tV 3) (tC (.int 65537)))) tNil)) (tV 1)))))))
theorem tm_l_take {P : Program} {w : World} {K : PySem.W.Frag} {mg : Str → Option Value} {base : Heap} {f : Addr} {cdv : Value} {A : Around} {outer : List Env} {s : Shared} {H : Hp} {E : XK} (T : Tx K mg) (hr : Room 4 (A.deeper (envOfC "_law_take" (defScope s_l_take) s.heap.objs.size f cdv))) :
    PSs (cxOf (L2.CX P w) P w K mg base ["_law_box_here", "_law_size", "_law_digit", "_law_mixed"] "_law_take" (defScope s_l_take) f cdv A outer s H E) (defBody s_l_take) (t_l_take K (WD E)) :=
  (pss_cons (psif (ptcmp (opeq hr.units) (pix (Ta.pv 0) pe_int) pe_int) (pss_cons (pset 2 sc_l_take.nd (pe_op opmod (pct (crint) T.f_int (pa_cons (pix (Ta.pv 0) pe_int) pa_nil)) (Ta.pv 1)))
  (pss_cons (psub (pe_op opdiv (pct (crint) T.f_int (pa_cons (pix (Ta.pv 0) pe_int) pa_nil)) (Ta.pv 1)) (Ta.pv 0) pe_int)
  (pss_one (ps_ret (Ta.pv 2))))) pss_nil)
  (pss_cons (psub (pe_op opadd (pix (Ta.pv 0) pe_int) pe_int) (Ta.pv 0) pe_int)
  (pss_cons (pset 3 sc_l_take.nd (pe_op opmod (pct (crint) T.f_int (pa_cons (pe_op opadd (pe_op opadd (pe_op opmul (pix (Ta.pv 0) pe_int) pe_int) (pe_op opmul (pix (Ta.pv 0) pe_int) pe_int)) pe_int) pa_nil)) pe_int))
  (pss_cons (pset 3 sc_l_take.nd (pe_op opmod (pct (crint) T.f_int (pa_cons (pe_op opmul (Ta.pv 3) (pe_op opadd (pe_op opmod (pct (crint) T.f_int (pa_cons (Ta.pv 3) pa_nil)) pe_int) pe_int)) pa_nil)) pe_int))
  (pss_one (ps_ret (pe_op opmod (pct (crint) T.f_int (pa_cons (pe_op opadd (pe_op opdiv (Ta.pv 3) pe_int) (pe_op opdiv (Ta.pv 3) pe_int)) pa_nil)) (Ta.pv 1))))))))
/-! _law_text -/
abbrev s_l_text : Stmt := top 21
theorem sc_l_text : FnScope ["_law_box_here", "_law_signs", "_law_few", "_law_many", "_law_size", "_law_text_here", "_law_turn"] ["_law_box_here", "_law_signs", "_law_few", "_law_many"] (defScope s_l_text) := ⟨rfl, rfl, rfl, by decide +kernel, rfl, by decide +kernel, by decide +kernel⟩
structure sp_l_text (K : PySem.W.Frag) (vs : List V) (H : Hp) (Q : VK) (E : XK) : Prop where
  out : ∃ (p : Addr) (a b f m : Int) (g : List Nat), vs = [.ref p, .str (S g), .int f, .int m] ∧ (H p = some (pr a b)) ∧ (g ≠ []) ∧ (g.length < 1000) ∧ (0 ≤ f) ∧ (f ≤ 10) ∧ (0 ≤ m) ∧ (m ≤ 60) ∧ (∀ (t : List Nat) a' b', (∀ c ∈ t, c ∈ g) → ((t.length : Int) ≤ f ∨ (t.length : Int) ≤ m) → Q (.str (S t)) (upd H p (pr a' b')))
theorem i_l_text {K : PySem.W.Frag} {p : Addr} {a b f m : Int} {g : List Nat} {H : Hp} {Q : VK} {E : XK} (hp : H p = some (pr a b)) (hg : g ≠ []) (hg2 : g.length < 1000) (f0 : 0 ≤ f) (f1 : f ≤ 10) (m0 : 0 ≤ m) (m1 : m ≤ 60) (q : ∀ (t : List Nat) a' b', (∀ c ∈ t, c ∈ g) → ((t.length : Int) ≤ f ∨ (t.length : Int) ≤ m) → Q (.str (S t)) (upd H p (pr a' b'))) : sp_l_text K [.ref p, .str (S g), .int f, .int m] H Q E := by
  exact ⟨⟨p, a, b, f, m, g, rfl, hp, hg, hg2, f0, f1, m0, m1, q⟩⟩

def b_l_text_1 (K : PySem.W.Frag) (W : WX) : TS :=
  (tAsg (tOp zAdd (tV 5) (tOp (zIxP K) (tV 1) (tCal (sp_l_take K) [] W (tCons (tV 0) (tCons (tCB (zLen K) (tCons (tV 1) tNil)) tNil))))) (gName 5))
def t_l_text (K : PySem.W.Frag) (W : WX) : TS :=
  (tSeq (tAsg (tCal (sp_l_take K) [] W (tCons (tV 0) (tCons (tOp zAdd (tV 2) (tC (.int 1))) tNil))) (gName 4))
  (tSeq (tIfP (tTst (tOp (zEqP K) (tCal (sp_l_take K) [] W (tCons (tV 0) (tCons (tC (.int 8)) tNil))) (tC (.int 1)))) (tAsg (tV 3) (gName 4)) tNext)
  (tSeq (tAsg (tC (.str (S []))) (gName 5))
  (tSeq (tForP (jR1 (tCons (tV 4) tNil)) (gName 6) (b_l_text_1 K W))
  (tRet (tV 5))))))
theorem tm_l_text {P : Program} {w : World} {K : PySem.W.Frag} {mg : Str → Option Value} {base : Heap} {f : Addr} {cdv : Value} {A : Around} {outer : List Env} {s : Shared} {H : Hp} {E : XK} (T : Tx K mg) (G_l_take : Fn P w K mg base "_law_take" 5 [] (sp_l_take K)) (hr : Room 6 (A.deeper (envOfC "_law_text" (defScope s_l_text) s.heap.objs.size f cdv))) :
    PSs (cxOf (L2.CX P w) P w K mg base ["_law_box_here", "_law_signs", "_law_few", "_law_many", "_law_size", "_law_text_here", "_law_turn"] "_law_text" (defScope s_l_text) f cdv A outer s H E) (defBody s_l_text) (t_l_text K (WD E)) :=
  (pss_cons (pset 4 sc_l_text.nd (pcall G_l_take (hr.mono (by decide)) takesD (pa_cons (Ta.pv 0) (pa_cons (pe_op opadd (Ta.pv 2) pe_int) pa_nil))))
  (pss_cons (psif (ptcmp (opeq hr.units) (pcall G_l_take (hr.mono (by decide)) takesD (pa_cons (Ta.pv 0) (pa_cons pe_int pa_nil))) pe_int) (pss_one (pset 4 sc_l_text.nd (Ta.pv 3))) pss_nil)
  (pss_cons (pset 5 sc_l_text.nd (pstr []))
  (pss_cons (psfor ownD rfl (pjr1 T.f_range (pa_cons (Ta.pv 4) pa_nil)) (pgn 6 sc_l_text.nd) (pss_one (pset 5 sc_l_text.nd (pe_op opadd (Ta.pv 5) (pix (Ta.pv 1) (pcall G_l_take (hr.mono (by decide)) takesD (pa_cons (Ta.pv 0) (pa_cons (pcb (crlen) T.f_len (pa_cons (Ta.pv 1) pa_nil)) pa_nil))))))))
  (pss_one (ps_ret (Ta.pv 5)))))))
/-! _law_char -/
abbrev s_l_char : Stmt := top 15
theorem sc_l_char : FnScope ["_law_box_here", "_law_chars"] ["_law_box_here"] (defScope s_l_char) := ⟨rfl, rfl, rfl, by decide +kernel, rfl, by decide +kernel, by decide +kernel⟩
structure sp_l_char (K : PySem.W.Frag) (vs : List V) (H : Hp) (Q : VK) (E : XK) : Prop where
  out : ∃ p a b, vs = [.ref p] ∧ H p = some (pr a b) ∧ ∀ c a' b', c < 128 → Q (.str (S [c])) (upd H p (pr a' b'))
theorem i_l_char {K : PySem.W.Frag} {p : Addr} {a b : Int} {H : Hp} {Q : VK} {E : XK} (hp : H p = some (pr a b)) (q : ∀ c a' b', c < 128 → Q (.str (S [c])) (upd H p (pr a' b'))) : sp_l_char K [.ref p] H Q E := by
  exact ⟨⟨p, a, b, rfl, hp, q⟩⟩

def t_l_char (K : PySem.W.Frag) (W : WX) : TS :=
  (tSeq (tAsg (tC (.str (S [32, 33, 34, 35, 36, 38, 39, 40, 41, 42, 43, 44, 45, 46, 47, 48, 49, 50, 51, 52, 53, 54, 55, 56, 57, 58, 59, 60, 61, 62, 63, 64, 65, 66, 67, 68, 69, 70, 71, 72, 73, 74, 75, 76, 77, 78, 79, 80, 81, 82, 83, 84, 85, 86, 87, 88, 89, 90, 91, 92, 93, 94, 95, 96]))) (gName 1))
  (tSeq (tAsg (tOp zAdd (tV 1) (tC (.str (S [97, 98, 99, 100, 101, 102, 103, 104, 105, 106, 107, 108, 109, 110, 111, 112, 113, 114, 115, 116, 117, 118, 119, 120, 121, 122, 123, 124, 125, 126, 10, 9])))) (gName 1))
  (tRet (tOp (zIxP K) (tV 1) (tCal (sp_l_take K) [] W (tCons (tV 0) (tCons (tC (.int 96)) tNil)))))))
theorem tm_l_char {P : Program} {w : World} {K : PySem.W.Frag} {mg : Str → Option Value} {base : Heap} {f : Addr} {cdv : Value} {A : Around} {outer : List Env} {s : Shared} {H : Hp} {E : XK} (T : Tx K mg) (G_l_take : Fn P w K mg base "_law_take" 5 [] (sp_l_take K)) (hr : Room 6 (A.deeper (envOfC "_law_char" (defScope s_l_char) s.heap.objs.size f cdv))) :
    PSs (cxOf (L2.CX P w) P w K mg base ["_law_box_here", "_law_chars"] "_law_char" (defScope s_l_char) f cdv A outer s H E) (defBody s_l_char) (t_l_char K (WD E)) :=
  (pss_cons (pset 1 sc_l_char.nd (pstr [32, 33, 34, 35, 36, 38, 39, 40, 41, 42, 43, 44, 45, 46, 47, 48, 49, 50, 51, 52, 53, 54, 55, 56, 57, 58, 59, 60, 61, 62, 63, 64, 65, 66, 67, 68, 69, 70, 71, 72, 73, 74, 75, 76, 77, 78, 79, 80, 81, 82, 83, 84, 85, 86, 87, 88, 89, 90, 91, 92, 93, 94, 95, 96]))
  (pss_cons (pset 1 sc_l_char.nd (pe_op opadd (Ta.pv 1) (pstr [97, 98, 99, 100, 101, 102, 103, 104, 105, 106, 107, 108, 109, 110, 111, 112, 113, 114, 115, 116, 117, 118, 119, 120, 121, 122, 123, 124, 125, 126, 10, 9])))
  (pss_one (ps_ret (pix (Ta.pv 1) (pcall G_l_take (hr.mono (by decide)) takesD (pa_cons (Ta.pv 0) (pa_cons pe_int pa_nil))))))))
/-! Alphabet_is_text -/
abbrev s_Alphabet_is_text : Stmt := inClass (top 8) 6
theorem sc_Alphabet_is_text : FnScope ["self", "text", "sign"] ["self", "text"] (defScope s_Alphabet_is_text) := ⟨rfl, rfl, rfl, by decide +kernel, rfl, by decide +kernel, by decide +kernel⟩
structure sp_Alphabet_is_text (K : PySem.W.Frag) (vs : List V) (H : Hp) (Q : VK) (E : XK) : Prop where
  out : ∃ (A dA : Addr) (l v t : List Nat), vs = [.ref A, .str (S t)] ∧ H A = some (alo K dA l v) ∧ Q (.bl (t.all fun c => decide (c ∈ 45 :: srt l))) H
theorem i_Alphabet_is_text {K : PySem.W.Frag} {A dA : Addr} {l v t : List Nat} {H : Hp} {Q : VK} {E : XK} (hA : H A = some (alo K dA l v)) (q : Q (.bl (t.all fun c => decide (c ∈ 45 :: srt l))) H) : sp_Alphabet_is_text K [.ref A, .str (S t)] H Q E := by
  exact ⟨⟨A, dA, l, v, t, rfl, hA, q⟩⟩

def b_Alphabet_is_text_1 (K : PySem.W.Frag) (W : WX) : TS :=
  (tIfP (tTst (tOp (zNinP K) (tV 2) (tAt K (tV 0) "signs"))) (tRet (tC (.bl false))) tNext)
def t_Alphabet_is_text (K : PySem.W.Frag) (W : WX) : TS :=
  (tSeq (tForP (jA K (tV 1)) (gName 2) (b_Alphabet_is_text_1 K W))
  (tRet (tC (.bl true))))
theorem tm_Alphabet_is_text {P : Program} {w : World} {K : PySem.W.Frag} {mg : Str → Option Value} {base : Heap} {f : Addr} {cdv : Value} {A : Around} {outer : List Env} {s : Shared} {H : Hp} {E : XK} (T : Tx K mg) (hr : Room 4 (A.deeper (envOfC "Alphabet.is_text" (defScope s_Alphabet_is_text) s.heap.objs.size f cdv))) :
    PSs (cxOf (L2.CX P w) P w K mg base ["self", "text", "sign"] "Alphabet.is_text" (defScope s_Alphabet_is_text) f cdv A outer s H E) (defBody s_Alphabet_is_text) (t_Alphabet_is_text K (WD E)) :=
  (pss_cons (psfor ownD rfl (pja (Ta.pv 1)) (pgn 2 sc_Alphabet_is_text.nd) (pss_one (psif (ptcmp opnin (Ta.pv 2) (patt (Ta.pv 0))) (pss_one (ps_ret pe_bl)) pss_nil)))
  (pss_one (ps_ret pe_bl)))
/-! Alphabet_check -/
abbrev s_Alphabet_check : Stmt := inClass (top 8) 7
theorem sc_Alphabet_check : FnScope ["self", "text"] ["self", "text"] (defScope s_Alphabet_check) := ⟨rfl, rfl, rfl, by decide +kernel, rfl, by decide +kernel, by decide +kernel⟩
structure sp_Alphabet_check (K : PySem.W.Frag) (vs : List V) (H : Hp) (Q : VK) (E : XK) : Prop where
  out : ∃ (A dA : Addr) (l v t : List Nat), vs = [.ref A, .str (S t)] ∧ H A = some (alo K dA l v) ∧ ((∀ c ∈ t, c ∈ 45 :: srt l) → Q .non H) ∧ ((t.all fun c => decide (c ∈ 45 :: srt l)) = false → ∀ d, H d = none → E (.ref (He.ga K "BadText")) (some d) (upd H d (.xd [("text", .str (S t))])))
theorem i_Alphabet_checkB {K : PySem.W.Frag} {A dA : Addr} {l v t : List Nat} {H : Hp} {Q : VK} {E : XK} (hA : H A = some (alo K dA l v)) (q1 : (∀ c ∈ t, c ∈ 45 :: srt l) → Q .non H) (q2 : (t.all fun c => decide (c ∈ 45 :: srt l)) = false → ∀ d, H d = none → E (.ref (He.ga K "BadText")) (some d) (upd H d (.xd [("text", .str (S t))]))) : sp_Alphabet_check K [.ref A, .str (S t)] H Q E := by
  exact ⟨⟨A, dA, l, v, t, rfl, hA, q1, q2⟩⟩

def t_Alphabet_check (K : PySem.W.Frag) (W : WX) : TS :=
  (tIfP (tNot (tTru K (tMe [(He.ga K "Alphabet", [], sp_Alphabet_is_text K)] "is_text" W (tV 0) (tCons (tV 1) tNil)))) (tRs (He.ga K "BadText") ["text"] W (tCons (tV 1) tNil)) tNext)
theorem tm_Alphabet_check {P : Program} {w : World} {K : PySem.W.Frag} {mg : Str → Option Value} {base : Heap} {f : Addr} {cdv : Value} {A : Around} {outer : List Env} {s : Shared} {H : Hp} {E : XK} (T : Tx K mg) (G_Alphabet_is_text : Me P w K mg base (He.ga K "Alphabet") "is_text" 5 [] (sp_Alphabet_is_text K)) (X_BadText : Ex P w K mg base "BadText" (He.ga K "BadText") ["text"]) (hr : Room 6 (A.deeper (envOfC "Alphabet.check" (defScope s_Alphabet_check) s.heap.objs.size f cdv))) :
    PSs (cxOf (L2.CX P w) P w K mg base ["self", "text"] "Alphabet.check" (defScope s_Alphabet_check) f cdv A outer s H E) (defBody s_Alphabet_check) (t_Alphabet_check K (WD E)) :=
  (pss_one (psif (pt_not (ptru (pmeth (ms := [(He.ga K "Alphabet", [], sp_Alphabet_is_text K)]) (fun e he => by obtain rfl := List.mem_singleton.mp he; exact G_Alphabet_is_text) (hr.mono (by decide)) takesD (Ta.pv 0) (pa_cons (Ta.pv 1) pa_nil)))) (pss_one (praise X_BadText (hr.mono (by decide)) takesD (pa_cons (Ta.pv 1) pa_nil))) pss_nil))
/-! _law_checked -/
abbrev s_l_checked : Stmt := top 20
theorem sc_l_checked : FnScope ["_law_alphabet", "_law_text_here", "_law_told", "e"] ["_law_alphabet", "_law_text_here"] (defScope s_l_checked) := ⟨rfl, rfl, rfl, by decide +kernel, rfl, by decide +kernel, by decide +kernel⟩
structure sp_l_checked (K : PySem.W.Frag) (vs : List V) (H : Hp) (Q : VK) (E : XK) : Prop where
  out : ∃ (A dA : Addr) (l v t : List Nat), vs = [.ref A, .str (S t)] ∧ (H A = some (alo K dA l v)) ∧ (l.length ≤ 4) ∧ (∀ r H', Kp [] H H' → H' r = some (.tup (chkP (t.all fun c => decide (c ∈ 45 :: srt l)) t)) → Q (.ref r) H')
theorem i_l_checked {K : PySem.W.Frag} {A dA : Addr} {l v t : List Nat} {H : Hp} {Q : VK} {E : XK} (hA : H A = some (alo K dA l v)) (hl : l.length ≤ 4) (q : ∀ r H', Kp [] H H' → H' r = some (.tup (chkP (t.all fun c => decide (c ∈ 45 :: srt l)) t)) → Q (.ref r) H') : sp_l_checked K [.ref A, .str (S t)] H Q E := by
  exact ⟨⟨A, dA, l, v, t, rfl, hA, hl, q⟩⟩

def t_l_checked (K : PySem.W.Frag) (W : WX) : TS :=
  (tSeq (fun D0 σ0 H0 => (fun (W1 : WX) => (tAsg (tMe [(He.ga K "Alphabet", [], sp_Alphabet_check K)] "check" W1 (tV 0) (tCons (tV 1) tNil)) (gName 2))) (wAs K (.ref (He.ga K "TaleError")) 3 (fun a cls d => (tSeq (tIfP (tAndP (tTru K (tCB (zIsX K a cls d) (tCons (tV 3) (tCons (tC (.ref (He.ga K "BadText"))) tNil)))) (tAndP (tTru K (tCB (zIsX K a cls d) (tCons (tV 3) (tCons (tC (.ty "ValueError")) tNil)))) (tNot (tTru K (tCB (zIsX K a cls d) (tCons (tV 3) (tCons (tTup (tCons (tC (.ref (He.ga K "BadSet"))) (tCons (tC (.ref (He.ga K "BadAlphabet"))) tNil))) tNil))))))) (tRet (tTup (tCons (tC (.bl false)) (tCons (tXat K a cls d "text" (tV 3)) tNil)))) tNext)
  (tRet (tTup (tCons (tC (.bl false)) (tCons (tC .non) tNil)))))) W D0) D0 σ0 H0)
  (tRet (tTup (tCons (tOp zIsB (tV 2) (tC .non)) (tCons (tC (.str (S []))) tNil)))))
theorem tm_l_checked {P : Program} {w : World} {K : PySem.W.Frag} {mg : Str → Option Value} {base : Heap} {f : Addr} {cdv : Value} {A : Around} {outer : List Env} {s : Shared} {H : Hp} {E : XK} (T : Tx K mg) (G_Alphabet_check : Me P w K mg base (He.ga K "Alphabet") "check" 7 [] (sp_Alphabet_check K)) (hr : Room 8 (A.deeper (envOfC "_law_checked" (defScope s_l_checked) s.heap.objs.size f cdv))) :
    PSs (cxOf (L2.CX P w) P w K mg base ["_law_alphabet", "_law_text_here", "_law_told", "e"] "_law_checked" (defScope s_l_checked) f cdv A outer s H E) (defBody s_l_checked) (t_l_checked K (WD E)) :=
  (pss_cons (ps_try_as (i := 3) rfl rfl sc_l_checked.nd rfl rfl (names_of T.v_TaleError) takesD (tb := fun W1 => (tAsg (tMe [(He.ga K "Alphabet", [], sp_Alphabet_check K)] "check" W1 (tV 0) (tCons (tV 1) tNil)) (gName 2))) (ts := fun a cls d => (tSeq (tIfP (tAndP (tTru K (tCB (zIsX K a cls d) (tCons (tV 3) (tCons (tC (.ref (He.ga K "BadText"))) tNil)))) (tAndP (tTru K (tCB (zIsX K a cls d) (tCons (tV 3) (tCons (tC (.ty "ValueError")) tNil)))) (tNot (tTru K (tCB (zIsX K a cls d) (tCons (tV 3) (tCons (tTup (tCons (tC (.ref (He.ga K "BadSet"))) (tCons (tC (.ref (He.ga K "BadAlphabet"))) tNil))) tNil))))))) (tRet (tTup (tCons (tC (.bl false)) (tCons (tXat K a cls d "text" (tV 3)) tNil)))) tNext)
  (tRet (tTup (tCons (tC (.bl false)) (tCons (tC .non) tNil)))))) (fun W1 pn xe tk1 _ => (pss_one (pset 2 sc_l_checked.nd (pmeth (ms := [(He.ga K "Alphabet", [], sp_Alphabet_check K)]) (fun e he => by obtain rfl := List.mem_singleton.mp he; exact G_Alphabet_check) (hr.mono (by decide)) tk1 (Ta.pv 0) (pa_cons (Ta.pv 1) pa_nil))))) (fun a oe cls d pn hz hf => (pss_cons (psif (PW.pt (pwand (ptru (pcb (crisx hz hf) T.f_isinstance (pa_cons (Ta.pv 3) (pa_cons (pglo T.v_BadText) pa_nil)))) (pwand (ptru (pcb (crisx hz hf) T.f_isinstance (pa_cons (Ta.pv 3) (pa_cons (pbty T.f_ValueError) pa_nil)))) (pw_and1 (pt_not (ptru (pcb (crisx hz hf) T.f_isinstance (pa_cons (Ta.pv 3) (pa_cons (pe_tup (pa_cons (pglo T.v_BadSet) (pa_cons (pglo T.v_BadAlphabet) pa_nil))) pa_nil))))))))) (pss_one (ps_ret (pe_tup (pa_cons pe_bl (pa_cons (pxat hz hf (Ta.pv 3)) pa_nil))))) pss_nil)
  (pss_one (ps_ret (pe_tup (pa_cons pe_bl (pa_cons pe_non pa_nil))))))))
  (pss_one (ps_ret (pe_tup (pa_cons (pe_cmpR opisb (Ta.pv 2) pe_non rfl) (pa_cons (pstr []) pa_nil))))))
/-! kind_after -/
abbrev s_kind_after : Stmt := top 10
theorem sc_kind_after : FnScope ["text"] ["text"] (defScope s_kind_after) := ⟨rfl, rfl, rfl, by decide +kernel, rfl, by decide +kernel, by decide +kernel⟩
structure sp_kind_after (K : PySem.W.Frag) (vs : List V) (H : Hp) (Q : VK) (E : XK) : Prop where
  out : ∃ (t : List Nat), vs = [.str (S t)] ∧ (t.length < 1000) ∧ (Q (.str (S (knd t))) H)
theorem i_kind_after {K : PySem.W.Frag} {t : List Nat} {H : Hp} {Q : VK} {E : XK} (h1 : t.length < 1000) (q : Q (.str (S (knd t))) H) : sp_kind_after K [.str (S t)] H Q E := by
  exact ⟨⟨t, rfl, h1, q⟩⟩

def t_kind_after (K : PySem.W.Frag) (W : WX) : TS :=
  (tSeq (tIfP (tTst (tOp (zEqP K) (tV 0) (tC (.str (S []))))) (tRet (tC (.str (S [115, 116, 97, 114, 116])))) tNext)
  (tRet (tIfE (tTst (tOp (zEqP K) (tOp (zIxP K) (tV 0) (tUn zNeg (tC (.int 1)))) (tC (.str (S [45]))))) (tC (.str (S [106, 111, 105, 110, 116]))) (tC (.str (S [108, 101, 116, 116, 101, 114]))))))
theorem tm_kind_after {P : Program} {w : World} {K : PySem.W.Frag} {mg : Str → Option Value} {base : Heap} {f : Addr} {cdv : Value} {A : Around} {outer : List Env} {s : Shared} {H : Hp} {E : XK} (T : Tx K mg) (hr : Room 4 (A.deeper (envOfC "kind_after" (defScope s_kind_after) s.heap.objs.size f cdv))) :
    PSs (cxOf (L2.CX P w) P w K mg base ["text"] "kind_after" (defScope s_kind_after) f cdv A outer s H E) (defBody s_kind_after) (t_kind_after K (WD E)) :=
  (pss_cons (psif (ptcmp (opeq hr.units) (Ta.pv 0) (pstr [])) (pss_one (ps_ret (pstr [115, 116, 97, 114, 116]))) pss_nil)
  (pss_one (ps_ret (peif (ptcmp (opeq hr.units) (pix (Ta.pv 0) (pe_un unneg pe_int)) (pclv T.cc_Alphabet_JOINT)) (pstr [106, 111, 105, 110, 116]) (pstr [108, 101, 116, 116, 101, 114])))))
/-! _law_kind -/
abbrev s_l_kind : Stmt := top 25
theorem sc_l_kind : FnScope ["_law_text_here"] ["_law_text_here"] (defScope s_l_kind) := ⟨rfl, rfl, rfl, by decide +kernel, rfl, by decide +kernel, by decide +kernel⟩
structure sp_l_kind (K : PySem.W.Frag) (vs : List V) (H : Hp) (Q : VK) (E : XK) : Prop where
  out : ∃ (t : List Nat), vs = [.str (S t)] ∧ (t.length < 1000) ∧ (Q (.str (S (knd t))) H)
theorem i_l_kind {K : PySem.W.Frag} {t : List Nat} {H : Hp} {Q : VK} {E : XK} (h1 : t.length < 1000) (q : Q (.str (S (knd t))) H) : sp_l_kind K [.str (S t)] H Q E := by
  exact ⟨⟨t, rfl, h1, q⟩⟩

def t_l_kind (K : PySem.W.Frag) (W : WX) : TS :=
  (tSeq (tIfP (tTst (tOp (zEqP K) (tV 0) (tC (.str (S []))))) (tRet (tC (.str (S [115, 116, 97, 114, 116])))) tNext)
  (tSeq (tIfP (tTst (tOp (zEqP K) (tOp (zIxP K) (tV 0) (tUn zNeg (tC (.int 1)))) (tC (.str (S [45]))))) (tRet (tC (.str (S [106, 111, 105, 110, 116])))) tNext)
  (tRet (tC (.str (S [108, 101, 116, 116, 101, 114]))))))
theorem tm_l_kind {P : Program} {w : World} {K : PySem.W.Frag} {mg : Str → Option Value} {base : Heap} {f : Addr} {cdv : Value} {A : Around} {outer : List Env} {s : Shared} {H : Hp} {E : XK} (T : Tx K mg) (hr : Room 4 (A.deeper (envOfC "_law_kind" (defScope s_l_kind) s.heap.objs.size f cdv))) :
    PSs (cxOf (L2.CX P w) P w K mg base ["_law_text_here"] "_law_kind" (defScope s_l_kind) f cdv A outer s H E) (defBody s_l_kind) (t_l_kind K (WD E)) :=
  (pss_cons (psif (ptcmp (opeq hr.units) (Ta.pv 0) (pstr [])) (pss_one (ps_ret (pstr [115, 116, 97, 114, 116]))) pss_nil)
  (pss_cons (psif (ptcmp (opeq hr.units) (pix (Ta.pv 0) (pe_un unneg pe_int)) (pstr [45])) (pss_one (ps_ret (pstr [106, 111, 105, 110, 116]))) pss_nil)
  (pss_one (ps_ret (pstr [108, 101, 116, 116, 101, 114])))))
/-! _law_strings -/
abbrev s_l_strings : Stmt := top 26
theorem sc_l_strings : FnScope ["_law_script", "_law_pairs", "_law_alphabets", "_law_signs", "_law_turn", "_law_box_here", "_law_text_here", "_law_at", "_law_k", "_law_right", "_law_sign", "_law_told", "_law_due"] ["_law_script", "_law_pairs", "_law_alphabets", "_law_signs"] (defScope s_l_strings) := ⟨rfl, rfl, rfl, by decide +kernel, rfl, by decide +kernel, by decide +kernel⟩
structure sp_l_strings (K : PySem.W.Frag) (vs : List V) (H : Hp) (Q : VK) (E : XK) : Prop where
  out : ∃ (p P B : Addr) (ob : Obj) (ns : List Int) (t0 t1 A0 A1 d0 d1 : Addr) (l0 v0 l1 v1 : List Nat), vs = [.ref p, .ref P, .ref B, .str (S (45 :: srt l0))] ∧ (H p = some (scr ob ns)) ∧ (ns.length < 1000) ∧ (H P = some (.lst [.ref t0, .ref t1])) ∧ (H B = some (.lst [.ref A0, .ref A1])) ∧ (H t0 = some (.tup [.str (S l0), .str (S v0)])) ∧ (H t1 = some (.tup [.str (S l1), .str (S v1)])) ∧ (H A0 = some (alo K d0 l0 v0)) ∧ (H A1 = some (alo K d1 l1 v1)) ∧ (good l0 v0) ∧ (good l1 v1) ∧ (∀ H', Kp [] H H' → Q (.bl true) H')
theorem i_l_strings {K : PySem.W.Frag} {p P B : Addr} {ob : Obj} {ns : List Int} {t0 t1 A0 A1 d0 d1 : Addr} {l0 v0 l1 v1 : List Nat} {H : Hp} {Q : VK} {E : XK} (hp : H p = some (scr ob ns)) (hn : ns.length < 1000) (hP : H P = some (.lst [.ref t0, .ref t1])) (hB : H B = some (.lst [.ref A0, .ref A1])) (h0 : H t0 = some (.tup [.str (S l0), .str (S v0)])) (h1 : H t1 = some (.tup [.str (S l1), .str (S v1)])) (hA0 : H A0 = some (alo K d0 l0 v0)) (hA1 : H A1 = some (alo K d1 l1 v1)) (g0 : good l0 v0) (g1 : good l1 v1) (q : ∀ H', Kp [] H H' → Q (.bl true) H') : sp_l_strings K [.ref p, .ref P, .ref B, .str (S (45 :: srt l0))] H Q E := by
  exact ⟨⟨p, P, B, ob, ns, t0, t1, A0, A1, d0, d1, l0, v0, l1, v1, rfl, hp, hn, hP, hB, h0, h1, hA0, hA1, g0, g1, q⟩⟩

def b_l_strings_2 (K : PySem.W.Frag) (W : WX) : TS :=
  (tSeq (tAsg (tCB (zAllP K) (tCons (tLcP (jA K (tV 6)) (gName 10) tYes (tOrE K (tOp (zEqP K) (tV 10) (tC (.str (S [45])))) (tOp (zInP K) (tV 10) (tOp (zIxP K) (tOp (zIxP K) (tV 1) (tV 8)) (tC (.int 0))))) [10]) tNil)) (gName 9))
  (tSeq (tAsg (tMe [(He.ga K "Alphabet", [], sp_Alphabet_is_text K)] "is_text" W (tOp (zIxP K) (tV 2) (tV 8)) (tCons (tV 6) tNil)) (gName 11))
  (tSeq (tIfP (tOrP (tNot (tTru K (tCB (zIsa K) (tCons (tV 11) (tCons (tC (.ty "bool")) tNil))))) (tTst (tOp (zNeP K) (tV 11) (tV 9)))) (tRet (tC (.bl false))) tNext)
  (tSeq (tAsg (tTup (tCons (tC (.bl false)) (tCons (tV 6) tNil))) (gName 12))
  (tSeq (tIfP (tTru K (tV 9)) (tAsg (tTup (tCons (tC (.bl true)) (tCons (tC (.str (S []))) tNil))) (gName 12)) tNext)
  (tSeq (tIfP (tTst (tOp (zNeP K) (tCal (sp_l_checked K) [] W (tCons (tOp (zIxP K) (tV 2) (tV 8)) (tCons (tV 6) tNil))) (tV 12))) (tRet (tC (.bl false))) tNext)
  (tIfP (tAndP (tTru K (tV 9)) (tTst (tOp (zNeP K) (tCal (sp_kind_after K) [] W (tCons (tV 6) tNil)) (tCal (sp_l_kind K) [] W (tCons (tV 6) tNil))))) (tRet (tC (.bl false))) tNext)))))))
def b_l_strings_1 (K : PySem.W.Frag) (W : WX) : TS :=
  (tSeq (tAsg (tCal (sp_l_box K) [] W (tCons (tV 0) (tCons (tOp zAdd (tC (.int 6)) (tV 4)) tNil))) (gName 5))
  (tSeq (tAsg (tCal (sp_l_text K) [] W (tCons (tV 5) (tCons (tV 3) (tCons (tC (.int 6)) (tCons (tC (.int 59)) tNil))))) (gName 6))
  (tSeq (tIfP (tTst (tOp (zEqP K) (tCal (sp_l_take K) [] W (tCons (tV 5) (tCons (tC (.int 2)) tNil))) (tC (.int 1)))) (tSeq (tAsg (tCal (sp_l_take K) [] W (tCons (tV 5) (tCons (tOp zAdd (tCB (zLen K) (tCons (tV 6) tNil)) (tC (.int 1))) tNil))) (gName 7))
  (tAsg (tOp zAdd (tOp zAdd (tSl (zSlP K) (tV 6) tNoPart (tPrt (tV 7))) (tCal (sp_l_char K) [] W (tCons (tV 5) tNil))) (tSl (zSlP K) (tV 6) (tPrt (tOp zAdd (tV 7) (tCal (sp_l_take K) [] W (tCons (tV 5) (tCons (tC (.int 2)) tNil))))) tNoPart)) (gName 6))) tNext)
  (tForP (jR1 (tCons (tC (.int 2)) tNil)) (gName 8) (b_l_strings_2 K W)))))
def t_l_strings (K : PySem.W.Frag) (W : WX) : TS :=
  (tSeq (tForP (jR1 (tCons (tC (.int 4)) tNil)) (gName 4) (b_l_strings_1 K W))
  (tRet (tC (.bl true))))
theorem tm_l_strings {P : Program} {w : World} {K : PySem.W.Frag} {mg : Str → Option Value} {base : Heap} {f : Addr} {cdv : Value} {A : Around} {outer : List Env} {s : Shared} {H : Hp} {E : XK} (T : Tx K mg) (G_Alphabet_is_text : Me P w K mg base (He.ga K "Alphabet") "is_text" 5 [] (sp_Alphabet_is_text K)) (G_kind_after : Fn P w K mg base "kind_after" 5 [] (sp_kind_after K)) (G_l_box : Fn P w K mg base "_law_box" 5 [] (sp_l_box K)) (G_l_char : Fn P w K mg base "_law_char" 7 [] (sp_l_char K)) (G_l_checked : Fn P w K mg base "_law_checked" 9 [] (sp_l_checked K)) (G_l_kind : Fn P w K mg base "_law_kind" 5 [] (sp_l_kind K)) (G_l_take : Fn P w K mg base "_law_take" 5 [] (sp_l_take K)) (G_l_text : Fn P w K mg base "_law_text" 7 [] (sp_l_text K)) (hr : Room 10 (A.deeper (envOfC "_law_strings" (defScope s_l_strings) s.heap.objs.size f cdv))) :
    PSs (cxOf (L2.CX P w) P w K mg base ["_law_script", "_law_pairs", "_law_alphabets", "_law_signs", "_law_turn", "_law_box_here", "_law_text_here", "_law_at", "_law_k", "_law_right", "_law_sign", "_law_told", "_law_due"] "_law_strings" (defScope s_l_strings) f cdv A outer s H E) (defBody s_l_strings) (t_l_strings K (WD E)) :=
  (pss_cons (psfor ownD rfl (pjr1 T.f_range (pa_cons pe_int pa_nil)) (pgn 4 sc_l_strings.nd) (pss_cons (pset 5 sc_l_strings.nd (pcall G_l_box (hr.mono (by decide)) takesD (pa_cons (Ta.pv 0) (pa_cons (pe_op opadd pe_int (Ta.pv 4)) pa_nil))))
  (pss_cons (pset 6 sc_l_strings.nd (pcall G_l_text (hr.mono (by decide)) takesD (pa_cons (Ta.pv 5) (pa_cons (Ta.pv 3) (pa_cons pe_int (pa_cons pe_int pa_nil))))))
  (pss_cons (psif (ptcmp (opeq hr.units) (pcall G_l_take (hr.mono (by decide)) takesD (pa_cons (Ta.pv 5) (pa_cons pe_int pa_nil))) pe_int) (pss_cons (pset 7 sc_l_strings.nd (pcall G_l_take (hr.mono (by decide)) takesD (pa_cons (Ta.pv 5) (pa_cons (pe_op opadd (pcb (crlen) T.f_len (pa_cons (Ta.pv 6) pa_nil)) pe_int) pa_nil))))
  (pss_one (pset 6 sc_l_strings.nd (pe_op opadd (pe_op opadd (psl (Ta.pv 6) po_none (posome (Ta.pv 7))) (pcall G_l_char (hr.mono (by decide)) takesD (pa_cons (Ta.pv 5) pa_nil))) (psl (Ta.pv 6) (posome (pe_op opadd (Ta.pv 7) (pcall G_l_take (hr.mono (by decide)) takesD (pa_cons (Ta.pv 5) (pa_cons pe_int pa_nil))))) po_none))))) pss_nil)
  (pss_one (psfor ownD rfl (pjr1 T.f_range (pa_cons pe_int pa_nil)) (pgn 8 sc_l_strings.nd) (pss_cons (pset 9 sc_l_strings.nd (pcb (crall rfl) T.f_all (pa_cons (plc [("_law_sign", 10)] rfl sc_l_strings.nd (pja (Ta.pv 6)) (by kernel_rfl) (fun _ _ _ _ _ => (pgn 10 sc_l_strings.nd)) (fun _ _ _ _ _ => pts_nil) (fun _ _ _ _ _ => (peor (pe_cmpR (opeq hr.units) (Ta.pv 10) (pstr [45]) rfl) (pe_one (pe_cmpR opin (Ta.pv 10) (pix (pix (Ta.pv 1) (Ta.pv 8)) pe_int) rfl))))) pa_nil)))
  (pss_cons (pset 11 sc_l_strings.nd (pmeth (ms := [(He.ga K "Alphabet", [], sp_Alphabet_is_text K)]) (fun e he => by obtain rfl := List.mem_singleton.mp he; exact G_Alphabet_is_text) (hr.mono (by decide)) takesD (pix (Ta.pv 2) (Ta.pv 8)) (pa_cons (Ta.pv 6) pa_nil)))
  (pss_cons (psif (PW.pt (pwor (pt_not (ptru (pcb (crisa) T.f_isinstance (pa_cons (Ta.pv 11) (pa_cons (pbty T.f_bool) pa_nil))))) (pw_or1 (ptcmp (opne hr.units) (Ta.pv 11) (Ta.pv 9))))) (pss_one (ps_ret pe_bl)) pss_nil)
  (pss_cons (pset 12 sc_l_strings.nd (pe_tup (pa_cons pe_bl (pa_cons (Ta.pv 6) pa_nil))))
  (pss_cons (psif (ptru (Ta.pv 9)) (pss_one (pset 12 sc_l_strings.nd (pe_tup (pa_cons pe_bl (pa_cons (pstr []) pa_nil))))) pss_nil)
  (pss_cons (psif (ptcmp (opne hr.units) (pcall G_l_checked (hr.mono (by decide)) takesD (pa_cons (pix (Ta.pv 2) (Ta.pv 8)) (pa_cons (Ta.pv 6) pa_nil))) (Ta.pv 12)) (pss_one (ps_ret pe_bl)) pss_nil)
  (pss_one (psif (PW.pt (pwand (ptru (Ta.pv 9)) (pw_and1 (ptcmp (opne hr.units) (pcall G_kind_after (hr.mono (by decide)) takesD (pa_cons (Ta.pv 6) pa_nil)) (pcall G_l_kind (hr.mono (by decide)) takesD (pa_cons (Ta.pv 6) pa_nil)))))) (pss_one (ps_ret pe_bl)) pss_nil))))))))))))))
  (pss_one (ps_ret pe_bl)))
/-! _law_texts -/
abbrev s_l_texts : Stmt := top 22
theorem sc_l_texts : FnScope ["_law_box_here", "_law_signs", "_law_texts_here", "_law_turn"] ["_law_box_here", "_law_signs"] (defScope s_l_texts) := ⟨rfl, rfl, rfl, by decide +kernel, rfl, by decide +kernel, by decide +kernel⟩
structure sp_l_texts (K : PySem.W.Frag) (vs : List V) (H : Hp) (Q : VK) (E : XK) : Prop where
  out : ∃ (p : Addr) (a b : Int) (g : List Nat), vs = [.ref p, .str (S g)] ∧ (H p = some (pr a b)) ∧ (g ≠ []) ∧ (g.length < 1000) ∧ (∀ r us a' b' H', Kp [p] H H' → H' p = some (pr a' b') → H r = none → H' r = some (ksl us) → us.length ≤ 6 → (∀ u ∈ us, u.length ≤ 24 ∧ ∀ c ∈ u, c ∈ g) → Q (.ref r) H')
theorem i_l_texts {K : PySem.W.Frag} {p : Addr} {a b : Int} {g : List Nat} {H : Hp} {Q : VK} {E : XK} (hp : H p = some (pr a b)) (hg : g ≠ []) (hg2 : g.length < 1000) (q : ∀ r us a' b' H', Kp [p] H H' → H' p = some (pr a' b') → H r = none → H' r = some (ksl us) → us.length ≤ 6 → (∀ u ∈ us, u.length ≤ 24 ∧ ∀ c ∈ u, c ∈ g) → Q (.ref r) H') : sp_l_texts K [.ref p, .str (S g)] H Q E := by
  exact ⟨⟨p, a, b, g, rfl, hp, hg, hg2, q⟩⟩

def b_l_texts_1 (K : PySem.W.Frag) (W : WX) : TS :=
  (tIfP (tAndP (tTru K (tV 2)) (tTst (tOp (zEqP K) (tCal (sp_l_take K) [] W (tCons (tV 0) (tCons (tC (.int 3)) tNil))) (tC (.int 1))))) (tDrop (tLM zAppP (tV 2) (tCons (tOp (zIxP K) (tV 2) (tCal (sp_l_take K) [] W (tCons (tV 0) (tCons (tCB (zLen K) (tCons (tV 2) tNil)) tNil)))) tNil))) (tDrop (tLM zAppP (tV 2) (tCons (tCal (sp_l_text K) [] W (tCons (tV 0) (tCons (tV 1) (tCons (tC (.int 4)) (tCons (tC (.int 24)) tNil))))) tNil))))
def t_l_texts (K : PySem.W.Frag) (W : WX) : TS :=
  (tSeq (tAsg (tLst tNil) (gName 2))
  (tSeq (tForP (jR1 (tCons (tCal (sp_l_take K) [] W (tCons (tV 0) (tCons (tC (.int 7)) tNil))) tNil)) (gName 3) (b_l_texts_1 K W))
  (tRet (tV 2))))
theorem tm_l_texts {P : Program} {w : World} {K : PySem.W.Frag} {mg : Str → Option Value} {base : Heap} {f : Addr} {cdv : Value} {A : Around} {outer : List Env} {s : Shared} {H : Hp} {E : XK} (T : Tx K mg) (G_l_take : Fn P w K mg base "_law_take" 5 [] (sp_l_take K)) (G_l_text : Fn P w K mg base "_law_text" 7 [] (sp_l_text K)) (hr : Room 8 (A.deeper (envOfC "_law_texts" (defScope s_l_texts) s.heap.objs.size f cdv))) :
    PSs (cxOf (L2.CX P w) P w K mg base ["_law_box_here", "_law_signs", "_law_texts_here", "_law_turn"] "_law_texts" (defScope s_l_texts) f cdv A outer s H E) (defBody s_l_texts) (t_l_texts K (WD E)) :=
  (pss_cons (pset 2 sc_l_texts.nd (pe_lst pa_nil))
  (pss_cons (psfor ownD rfl (pjr1 T.f_range (pa_cons (pcall G_l_take (hr.mono (by decide)) takesD (pa_cons (Ta.pv 0) (pa_cons pe_int pa_nil))) pa_nil)) (pgn 3 sc_l_texts.nd) (pss_one (psif (PW.pt (pwand (ptru (Ta.pv 2)) (pw_and1 (ptcmp (opeq hr.units) (pcall G_l_take (hr.mono (by decide)) takesD (pa_cons (Ta.pv 0) (pa_cons pe_int pa_nil))) pe_int)))) (pss_one (ps_expr (plm PySem.F.slot_list_append PySem.F.type_list_append mtapp (Ta.pv 2) (pa_cons (pix (Ta.pv 2) (pcall G_l_take (hr.mono (by decide)) takesD (pa_cons (Ta.pv 0) (pa_cons (pcb (crlen) T.f_len (pa_cons (Ta.pv 2) pa_nil)) pa_nil)))) pa_nil)))) (pss_one (ps_expr (plm PySem.F.slot_list_append PySem.F.type_list_append mtapp (Ta.pv 2) (pa_cons (pcall G_l_text (hr.mono (by decide)) takesD (pa_cons (Ta.pv 0) (pa_cons (Ta.pv 1) (pa_cons pe_int (pa_cons pe_int pa_nil))))) pa_nil)))))))
  (pss_one (ps_ret (Ta.pv 2)))))
/-! shortlex -/
abbrev s_shortlex : Stmt := top 9
theorem sc_shortlex : FnScope ["texts"] ["texts"] (defScope s_shortlex) := ⟨rfl, rfl, rfl, by decide +kernel, rfl, by decide +kernel, by decide +kernel⟩
structure sp_shortlex (K : PySem.W.Frag) (vs : List V) (H : Hp) (Q : VK) (E : XK) : Prop where
  out : ∃ (r : Addr) (us : List (List Nat)), vs = [.ref r] ∧ (H r = some (ksl us)) ∧ (us.length < 64) ∧ (∀ u ∈ us, u.length < 1000) ∧ (∀ z zs H', Kp [] H H' → H z = none → H' z = some (ksl zs) → slx us zs → zs.length < 64 → Q (.ref z) H')
theorem i_shortlex {K : PySem.W.Frag} {r : Addr} {us : List (List Nat)} {H : Hp} {Q : VK} {E : XK} (hr : H r = some (ksl us)) (h1 : us.length < 64) (h2 : ∀ u ∈ us, u.length < 1000) (q : ∀ z zs H', Kp [] H H' → H z = none → H' z = some (ksl zs) → slx us zs → zs.length < 64 → Q (.ref z) H') : sp_shortlex K [.ref r] H Q E := by
  exact ⟨⟨r, us, rfl, hr, h1, h2, q⟩⟩

def t_shortlex (K : PySem.W.Frag) (W : WX) : TS :=
  (tRet (tSL (tCons (tSS (tV 0)) tNil)))
theorem tm_shortlex {P : Program} {w : World} {K : PySem.W.Frag} {mg : Str → Option Value} {base : Heap} {f : Addr} {cdv : Value} {A : Around} {outer : List Env} {s : Shared} {H : Hp} {E : XK} (T : Tx K mg) (hr : Room 4 (A.deeper (envOfC "shortlex" (defScope s_shortlex) s.heap.objs.size f cdv))) :
    PSs (cxOf (L2.CX P w) P w K mg base ["texts"] "shortlex" (defScope s_shortlex) f cdv A outer s H E) (defBody s_shortlex) (t_shortlex K (WD E)) :=
  (pss_one (ps_ret (ps_len hr T.f_sorted T.f_len (pa_cons (pss_set rfl T.f_sorted T.f_set (Ta.pv 0)) pa_nil))))
/-! _law_before -/
abbrev s_l_before : Stmt := top 23
theorem sc_l_before : FnScope ["_law_signs", "_law_one", "_law_other", "_law_k"] ["_law_signs", "_law_one", "_law_other"] (defScope s_l_before) := ⟨rfl, rfl, rfl, by decide +kernel, rfl, by decide +kernel, by decide +kernel⟩
structure sp_l_before (K : PySem.W.Frag) (vs : List V) (H : Hp) (Q : VK) (E : XK) : Prop where
  out : ∃ (l a b : List Nat), vs = [.str (S (45 :: srt l)), .str (S a), .str (S b)] ∧ (badL l = false) ∧ (∀ c ∈ a, c ∈ 45 :: srt l) ∧ (∀ c ∈ b, c ∈ 45 :: srt l) ∧ (a.length < 1000) ∧ (b.length < 1000) ∧ (Q (.bl (bfr a b)) H)
theorem i_l_before {K : PySem.W.Frag} {l a b : List Nat} {H : Hp} {Q : VK} {E : XK} (hl : badL l = false) (ha : ∀ c ∈ a, c ∈ 45 :: srt l) (hb : ∀ c ∈ b, c ∈ 45 :: srt l) (h1 : a.length < 1000) (h2 : b.length < 1000) (q : Q (.bl (bfr a b)) H) : sp_l_before K [.str (S (45 :: srt l)), .str (S a), .str (S b)] H Q E := by
  exact ⟨⟨l, a, b, rfl, hl, ha, hb, h1, h2, q⟩⟩

def b_l_before_1 (K : PySem.W.Frag) (W : WX) : TS :=
  (tIfP (tTst (tOp (zNeP K) (tOp (zIxP K) (tV 1) (tV 3)) (tOp (zIxP K) (tV 2) (tV 3)))) (tRet (tOp zLt (tSM (zFind) (tV 0) (tCons (tOp (zIxP K) (tV 1) (tV 3)) tNil)) (tSM (zFind) (tV 0) (tCons (tOp (zIxP K) (tV 2) (tV 3)) tNil)))) tNext)
def t_l_before (K : PySem.W.Frag) (W : WX) : TS :=
  (tSeq (tIfP (tTst (tOp (zNeP K) (tCB (zLen K) (tCons (tV 1) tNil)) (tCB (zLen K) (tCons (tV 2) tNil)))) (tRet (tOp zLt (tCB (zLen K) (tCons (tV 1) tNil)) (tCB (zLen K) (tCons (tV 2) tNil)))) tNext)
  (tSeq (tForP (jR1 (tCons (tCB (zLen K) (tCons (tV 1) tNil)) tNil)) (gName 3) (b_l_before_1 K W))
  (tRet (tC (.bl false)))))
theorem tm_l_before {P : Program} {w : World} {K : PySem.W.Frag} {mg : Str → Option Value} {base : Heap} {f : Addr} {cdv : Value} {A : Around} {outer : List Env} {s : Shared} {H : Hp} {E : XK} (T : Tx K mg) (hr : Room 4 (A.deeper (envOfC "_law_before" (defScope s_l_before) s.heap.objs.size f cdv))) :
    PSs (cxOf (L2.CX P w) P w K mg base ["_law_signs", "_law_one", "_law_other", "_law_k"] "_law_before" (defScope s_l_before) f cdv A outer s H E) (defBody s_l_before) (t_l_before K (WD E)) :=
  (pss_cons (psif (ptcmp (opne hr.units) (pcb (crlen) T.f_len (pa_cons (Ta.pv 1) pa_nil)) (pcb (crlen) T.f_len (pa_cons (Ta.pv 2) pa_nil))) (pss_one (ps_ret (pe_cmpR oplt (pcb (crlen) T.f_len (pa_cons (Ta.pv 1) pa_nil)) (pcb (crlen) T.f_len (pa_cons (Ta.pv 2) pa_nil)) rfl))) pss_nil)
  (pss_cons (psfor ownD rfl (pjr1 T.f_range (pa_cons (pcb (crlen) T.f_len (pa_cons (Ta.pv 1) pa_nil)) pa_nil)) (pgn 3 sc_l_before.nd) (pss_one (psif (ptcmp (opne hr.units) (pix (Ta.pv 1) (Ta.pv 3)) (pix (Ta.pv 2) (Ta.pv 3))) (pss_one (ps_ret (pe_cmpR oplt (psm PySem.F.slot_str_find PySem.F.type_str_find mtfind (Ta.pv 0) (pa_cons (pix (Ta.pv 1) (Ta.pv 3)) pa_nil)) (psm PySem.F.slot_str_find PySem.F.type_str_find mtfind (Ta.pv 0) (pa_cons (pix (Ta.pv 2) (Ta.pv 3)) pa_nil)) rfl))) pss_nil)))
  (pss_one (ps_ret pe_bl))))
/-! _law_each_once -/
abbrev s_l_each_once : Stmt := top 24
theorem sc_l_each_once : FnScope ["_law_signs", "_law_texts_here", "_law_told", "_law_k", "_law_text_here"] ["_law_signs", "_law_texts_here", "_law_told"] (defScope s_l_each_once) := ⟨rfl, rfl, rfl, by decide +kernel, rfl, by decide +kernel, by decide +kernel⟩
structure sp_l_each_once (K : PySem.W.Frag) (vs : List V) (H : Hp) (Q : VK) (E : XK) : Prop where
  out : ∃ (r z : Addr) (l : List Nat) (us zs : List (List Nat)), vs = [.str (S (45 :: srt l)), .ref r, .ref z] ∧ (badL l = false) ∧ (H r = some (ksl us)) ∧ (H z = some (ksl zs)) ∧ (slx us zs) ∧ (∀ u ∈ us, u.length ≤ 24 ∧ ∀ c ∈ u, c ∈ 45 :: srt l) ∧ (us.length ≤ 6) ∧ (zs.length < 64) ∧ (∀ H', Kp [] H H' → Q (.bl true) H')
theorem i_l_each_once {K : PySem.W.Frag} {r z : Addr} {l : List Nat} {us zs : List (List Nat)} {H : Hp} {Q : VK} {E : XK} (hl : badL l = false) (hr : H r = some (ksl us)) (hz : H z = some (ksl zs)) (hs : slx us zs) (hu : ∀ u ∈ us, u.length ≤ 24 ∧ ∀ c ∈ u, c ∈ 45 :: srt l) (h1 : us.length ≤ 6) (h2 : zs.length < 64) (q : ∀ H', Kp [] H H' → Q (.bl true) H') : sp_l_each_once K [.str (S (45 :: srt l)), .ref r, .ref z] H Q E := by
  exact ⟨⟨r, z, l, us, zs, rfl, hl, hr, hz, hs, hu, h1, h2, q⟩⟩

def b_l_each_once_1 (K : PySem.W.Frag) (W : WX) : TS :=
  (tSeq (tIfP (tOrP (tNot (tTru K (tCB (zIsa K) (tCons (tOp (zIxP K) (tV 2) (tV 3)) (tCons (tC (.ty "str")) tNil))))) (tTst (tOp (zNinP K) (tOp (zIxP K) (tV 2) (tV 3)) (tV 1)))) (tRet (tC (.bl false))) tNext)
  (tIfP (tAndP (tTst (tOp zGt (tV 3) (tC (.int 0)))) (tNot (tTru K (tCal (sp_l_before K) [] W (tCons (tV 0) (tCons (tOp (zIxP K) (tV 2) (tOp zSub (tV 3) (tC (.int 1)))) (tCons (tOp (zIxP K) (tV 2) (tV 3)) tNil))))))) (tRet (tC (.bl false))) tNext))
def t_l_each_once (K : PySem.W.Frag) (W : WX) : TS :=
  (tSeq (tIfP (tNot (tTru K (tCB (zIsa K) (tCons (tV 2) (tCons (tC (.ty "list")) tNil))))) (tRet (tC (.bl false))) tNext)
  (tSeq (tForP (jR1 (tCons (tCB (zLen K) (tCons (tV 2) tNil)) tNil)) (gName 3) (b_l_each_once_1 K W))
  (tRet (tCB (zAllP K) (tCons (tLcP (jA K (tV 1)) (gName 4) tYes (tOp (zInP K) (tV 4) (tV 2)) [4]) tNil)))))
theorem tm_l_each_once {P : Program} {w : World} {K : PySem.W.Frag} {mg : Str → Option Value} {base : Heap} {f : Addr} {cdv : Value} {A : Around} {outer : List Env} {s : Shared} {H : Hp} {E : XK} (T : Tx K mg) (G_l_before : Fn P w K mg base "_law_before" 5 [] (sp_l_before K)) (hr : Room 6 (A.deeper (envOfC "_law_each_once" (defScope s_l_each_once) s.heap.objs.size f cdv))) :
    PSs (cxOf (L2.CX P w) P w K mg base ["_law_signs", "_law_texts_here", "_law_told", "_law_k", "_law_text_here"] "_law_each_once" (defScope s_l_each_once) f cdv A outer s H E) (defBody s_l_each_once) (t_l_each_once K (WD E)) :=
  (pss_cons (psif (pt_not (ptru (pcb (crisa) T.f_isinstance (pa_cons (Ta.pv 2) (pa_cons (pbty T.f_list) pa_nil))))) (pss_one (ps_ret pe_bl)) pss_nil)
  (pss_cons (psfor ownD rfl (pjr1 T.f_range (pa_cons (pcb (crlen) T.f_len (pa_cons (Ta.pv 2) pa_nil)) pa_nil)) (pgn 3 sc_l_each_once.nd) (pss_cons (psif (PW.pt (pwor (pt_not (ptru (pcb (crisa) T.f_isinstance (pa_cons (pix (Ta.pv 2) (Ta.pv 3)) (pa_cons (pbty T.f_str) pa_nil))))) (pw_or1 (ptcmp opnin (pix (Ta.pv 2) (Ta.pv 3)) (Ta.pv 1))))) (pss_one (ps_ret pe_bl)) pss_nil)
  (pss_one (psif (PW.pt (pwand (ptcmp opgt (Ta.pv 3) pe_int) (pw_and1 (pt_not (ptru (pcall G_l_before (hr.mono (by decide)) takesD (pa_cons (Ta.pv 0) (pa_cons (pix (Ta.pv 2) (pe_op opsub (Ta.pv 3) pe_int)) (pa_cons (pix (Ta.pv 2) (Ta.pv 3)) pa_nil))))))))) (pss_one (ps_ret pe_bl)) pss_nil))))
  (pss_one (ps_ret (pcb (crall rfl) T.f_all (pa_cons (plc [("_law_text_here", 4)] rfl sc_l_each_once.nd (pja (Ta.pv 1)) (by kernel_rfl) (fun _ _ _ _ _ => (pgn 4 sc_l_each_once.nd)) (fun _ _ _ _ _ => pts_nil) (fun _ _ _ _ _ => (pe_cmpR opin (Ta.pv 4) (Ta.pv 2) rfl))) pa_nil))))))
/-! _law_lists -/
abbrev s_l_lists : Stmt := top 27
theorem sc_l_lists : FnScope ["_law_box_here", "_law_signs", "_law_texts_here", "_law_handed", "_law_told", "_law_again"] ["_law_box_here", "_law_signs"] (defScope s_l_lists) := ⟨rfl, rfl, rfl, by decide +kernel, rfl, by decide +kernel, by decide +kernel⟩
structure sp_l_lists (K : PySem.W.Frag) (vs : List V) (H : Hp) (Q : VK) (E : XK) : Prop where
  out : ∃ (b : Addr) (x y : Int) (l : List Nat), vs = [.ref b, .str (S (45 :: srt l))] ∧ (H b = some (pr x y)) ∧ (badL l = false) ∧ (∀ H', Kp [b] H H' → Q (.bl true) H')
theorem i_l_lists {K : PySem.W.Frag} {b : Addr} {x y : Int} {l : List Nat} {H : Hp} {Q : VK} {E : XK} (hb : H b = some (pr x y)) (hl : badL l = false) (q : ∀ H', Kp [b] H H' → Q (.bl true) H') : sp_l_lists K [.ref b, .str (S (45 :: srt l))] H Q E := by
  exact ⟨⟨b, x, y, l, rfl, hb, hl, q⟩⟩

def t_l_lists (K : PySem.W.Frag) (W : WX) : TS :=
  (tSeq (tAsg (tCal (sp_l_texts K) [] W (tCons (tV 0) (tCons (tV 1) tNil))) (gName 2))
  (tSeq (tAsg (tCB (zListX K) (tCons (tV 2) tNil)) (gName 3))
  (tSeq (tAsg (tCal (sp_shortlex K) [] W (tCons (tV 3) tNil)) (gName 4))
  (tSeq (tIfP (tOrP (tTst (tOp (zNeP K) (tV 3) (tV 2))) (tNot (tTru K (tCal (sp_l_each_once K) [] W (tCons (tV 1) (tCons (tV 2) (tCons (tV 4) tNil))))))) (tRet (tC (.bl false))) tNext)
  (tSeq (tDrop (tLM zAppP (tV 4) (tCons (tC (.str (S [45]))) tNil)))
  (tSeq (tDrop (tLM0 zRevP (tV 4)))
  (tSeq (tIfP (tTst (tOp (zNeP K) (tV 3) (tV 2))) (tRet (tC (.bl false))) tNext)
  (tSeq (tAsg (tCal (sp_shortlex K) [] W (tCons (tV 3) tNil)) (gName 5))
  (tSeq (tIfP (tNot (tTru K (tCal (sp_l_each_once K) [] W (tCons (tV 1) (tCons (tV 2) (tCons (tV 5) tNil)))))) (tRet (tC (.bl false))) tNext)
  (tSeq (tDrop (tLM0 zRevP (tV 3)))
  (tRet (tAndE K (tCal (sp_l_each_once K) [] W (tCons (tV 1) (tCons (tV 2) (tCons (tV 5) tNil)))) (tCal (sp_l_each_once K) [] W (tCons (tV 1) (tCons (tV 2) (tCons (tCal (sp_shortlex K) [] W (tCons (tV 3) tNil)) tNil))))))))))))))))
theorem tm_l_lists {P : Program} {w : World} {K : PySem.W.Frag} {mg : Str → Option Value} {base : Heap} {f : Addr} {cdv : Value} {A : Around} {outer : List Env} {s : Shared} {H : Hp} {E : XK} (T : Tx K mg) (G_l_each_once : Fn P w K mg base "_law_each_once" 7 [] (sp_l_each_once K)) (G_l_texts : Fn P w K mg base "_law_texts" 9 [] (sp_l_texts K)) (G_shortlex : Fn P w K mg base "shortlex" 5 [] (sp_shortlex K)) (hr : Room 10 (A.deeper (envOfC "_law_lists" (defScope s_l_lists) s.heap.objs.size f cdv))) :
    PSs (cxOf (L2.CX P w) P w K mg base ["_law_box_here", "_law_signs", "_law_texts_here", "_law_handed", "_law_told", "_law_again"] "_law_lists" (defScope s_l_lists) f cdv A outer s H E) (defBody s_l_lists) (t_l_lists K (WD E)) :=
  (pss_cons (pset 2 sc_l_lists.nd (pcall G_l_texts (hr.mono (by decide)) takesD (pa_cons (Ta.pv 0) (pa_cons (Ta.pv 1) pa_nil))))
  (pss_cons (pset 3 sc_l_lists.nd (pct (crlistX rfl) T.f_list (pa_cons (Ta.pv 2) pa_nil)))
  (pss_cons (pset 4 sc_l_lists.nd (pcall G_shortlex (hr.mono (by decide)) takesD (pa_cons (Ta.pv 3) pa_nil)))
  (pss_cons (psif (PW.pt (pwor (ptcmp (opne hr.units) (Ta.pv 3) (Ta.pv 2)) (pw_or1 (pt_not (ptru (pcall G_l_each_once (hr.mono (by decide)) takesD (pa_cons (Ta.pv 1) (pa_cons (Ta.pv 2) (pa_cons (Ta.pv 4) pa_nil))))))))) (pss_one (ps_ret pe_bl)) pss_nil)
  (pss_cons (ps_expr (plm PySem.F.slot_list_append PySem.F.type_list_append mtapp (Ta.pv 4) (pa_cons (pstr [45]) pa_nil)))
  (pss_cons (ps_expr (plm0 PySem.F.slot_list_reverse PySem.F.type_list_reverse mtrev (Ta.pv 4)))
  (pss_cons (psif (ptcmp (opne hr.units) (Ta.pv 3) (Ta.pv 2)) (pss_one (ps_ret pe_bl)) pss_nil)
  (pss_cons (pset 5 sc_l_lists.nd (pcall G_shortlex (hr.mono (by decide)) takesD (pa_cons (Ta.pv 3) pa_nil)))
  (pss_cons (psif (pt_not (ptru (pcall G_l_each_once (hr.mono (by decide)) takesD (pa_cons (Ta.pv 1) (pa_cons (Ta.pv 2) (pa_cons (Ta.pv 5) pa_nil)))))) (pss_one (ps_ret pe_bl)) pss_nil)
  (pss_cons (ps_expr (plm0 PySem.F.slot_list_reverse PySem.F.type_list_reverse mtrev (Ta.pv 3)))
  (pss_one (ps_ret (peand (pcall G_l_each_once (hr.mono (by decide)) takesD (pa_cons (Ta.pv 1) (pa_cons (Ta.pv 2) (pa_cons (Ta.pv 5) pa_nil)))) (pe_one (pcall G_l_each_once (hr.mono (by decide)) takesD (pa_cons (Ta.pv 1) (pa_cons (Ta.pv 2) (pa_cons (pcall G_shortlex (hr.mono (by decide)) takesD (pa_cons (Ta.pv 3) pa_nil)) pa_nil))))))))))))))))))
/-! Alphabet_listed_signs -/
abbrev s_Alphabet_listed_signs : Stmt := inClass (top 8) 5
theorem sc_Alphabet_listed_signs : FnScope ["self", "name", "signs"] ["self", "name"] (defScope s_Alphabet_listed_signs) := ⟨rfl, rfl, rfl, by decide +kernel, rfl, by decide +kernel, by decide +kernel⟩
structure sp_Alphabet_listed_signs (K : PySem.W.Frag) (vs : List V) (H : Hp) (Q : VK) (E : XK) : Prop where
  out : ∃ (A dA : Addr) (l v n : List Nat), vs = [.ref A, .str (S n)] ∧ H A = some (alo K dA l v) ∧ n.length < 60 ∧ setK K (lsv l n) n H Q E
theorem i_Alphabet_listed_signs {K : PySem.W.Frag} {A dA : Addr} {l v n : List Nat} {H : Hp} {Q : VK} {E : XK} (hA : H A = some (alo K dA l v)) (hn : n.length < 60) (q : setK K (lsv l n) n H Q E) : sp_Alphabet_listed_signs K [.ref A, .str (S n)] H Q E := by
  exact ⟨⟨A, dA, l, v, n, rfl, hA, hn, q⟩⟩

def t_Alphabet_listed_signs (K : PySem.W.Frag) (W : WX) : TS :=
  (tSeq (tIfP (tOrP (tTst (tOp zLt (tCB (zLen K) (tCons (tV 1) tNil)) (tC (.int 3)))) (tOrP (tTst (tOp (zNeP K) (tOp (zIxP K) (tV 1) (tC (.int 0))) (tC (.str (S [91]))))) (tTst (tOp (zNeP K) (tOp (zIxP K) (tV 1) (tUn zNeg (tC (.int 1)))) (tC (.str (S [93]))))))) (tRs (He.ga K "BadSet") ["name"] W (tCons (tV 1) tNil)) tNext)
  (tSeq (tAsg (tSl (zSlP K) (tV 1) (tPrt (tC (.int 1))) (tPrt (tUn zNeg (tC (.int 1))))) (gName 2))
  (tSeq (tIfP (tOrP (tNot (tTru K (tMe [(He.ga K "Alphabet", [], sp_Alphabet_is_text K)] "is_text" W (tV 0) (tCons (tV 2) tNil)))) (tTst (tOp (zNeP K) (tSM (zJoin K) (tC (.str (S []))) (tCons (tSS (tV 2)) tNil)) (tV 2)))) (tRs (He.ga K "BadSet") ["name"] W (tCons (tV 1) tNil)) tNext)
  (tRet (tV 2)))))
theorem tm_Alphabet_listed_signs {P : Program} {w : World} {K : PySem.W.Frag} {mg : Str → Option Value} {base : Heap} {f : Addr} {cdv : Value} {A : Around} {outer : List Env} {s : Shared} {H : Hp} {E : XK} (T : Tx K mg) (G_Alphabet_is_text : Me P w K mg base (He.ga K "Alphabet") "is_text" 5 [] (sp_Alphabet_is_text K)) (X_BadSet : Ex P w K mg base "BadSet" (He.ga K "BadSet") ["name"]) (hr : Room 6 (A.deeper (envOfC "Alphabet.listed_signs" (defScope s_Alphabet_listed_signs) s.heap.objs.size f cdv))) :
    PSs (cxOf (L2.CX P w) P w K mg base ["self", "name", "signs"] "Alphabet.listed_signs" (defScope s_Alphabet_listed_signs) f cdv A outer s H E) (defBody s_Alphabet_listed_signs) (t_Alphabet_listed_signs K (WD E)) :=
  (pss_cons (psif (PW.pt (pwor (ptcmp oplt (pcb (crlen) T.f_len (pa_cons (Ta.pv 1) pa_nil)) pe_int) (pwor (ptcmp (opne hr.units) (pix (Ta.pv 1) pe_int) (pstr [91])) (pw_or1 (ptcmp (opne hr.units) (pix (Ta.pv 1) (pe_un unneg pe_int)) (pstr [93])))))) (pss_one (praise X_BadSet (hr.mono (by decide)) takesD (pa_cons (Ta.pv 1) pa_nil))) pss_nil)
  (pss_cons (pset 2 sc_Alphabet_listed_signs.nd (psl (Ta.pv 1) (posome pe_int) (posome (pe_un unneg pe_int))))
  (pss_cons (psif (PW.pt (pwor (pt_not (ptru (pmeth (ms := [(He.ga K "Alphabet", [], sp_Alphabet_is_text K)]) (fun e he => by obtain rfl := List.mem_singleton.mp he; exact G_Alphabet_is_text) (hr.mono (by decide)) takesD (Ta.pv 0) (pa_cons (Ta.pv 2) pa_nil)))) (pw_or1 (ptcmp (opne hr.units) (psm PySem.F.slot_str_join PySem.F.type_str_join mtjoin (pstr []) (pa_cons (pss_set rfl T.f_sorted T.f_set (Ta.pv 2)) pa_nil)) (Ta.pv 2))))) (pss_one (praise X_BadSet (hr.mono (by decide)) takesD (pa_cons (Ta.pv 1) pa_nil))) pss_nil)
  (pss_one (ps_ret (Ta.pv 2))))))
/-! Alphabet_signs_of -/
abbrev s_Alphabet_signs_of : Stmt := inClass (top 8) 4
theorem sc_Alphabet_signs_of : FnScope ["self", "name"] ["self", "name"] (defScope s_Alphabet_signs_of) := ⟨rfl, rfl, rfl, by decide +kernel, rfl, by decide +kernel, by decide +kernel⟩
structure sp_Alphabet_signs_of (K : PySem.W.Frag) (vs : List V) (H : Hp) (Q : VK) (E : XK) : Prop where
  out : ∃ (A dA : Addr) (l v n : List Nat), vs = [.ref A, .str (S n)] ∧ H A = some (alo K dA l v) ∧ n.length < 60 ∧ setK K (stv l v n) n H Q E
theorem i_Alphabet_signs_of {K : PySem.W.Frag} {A dA : Addr} {l v n : List Nat} {H : Hp} {Q : VK} {E : XK} (hA : H A = some (alo K dA l v)) (hn : n.length < 60) (q : setK K (stv l v n) n H Q E) : sp_Alphabet_signs_of K [.ref A, .str (S n)] H Q E := by
  exact ⟨⟨A, dA, l, v, n, rfl, hA, hn, q⟩⟩

def t_Alphabet_signs_of (K : PySem.W.Frag) (W : WX) : TS :=
  (tMat (tV 1) (mVal [97, 108, 108] (tRet (tAt K (tV 0) "signs")) (mVal [108, 101, 116, 116, 101, 114, 115] (tRet (tAt K (tV 0) "letters")) (mVal [118, 111, 119, 101, 108, 115] (tRet (tAt K (tV 0) "vowels")) (mVal [99, 111, 110, 115, 111, 110, 97, 110, 116, 115] (tRet (tAt K (tV 0) "consonants")) (mVal [106, 111, 105, 110, 116, 115] (tRet (tC (.str (S [45])))) (mWild (tRet (tMe [(He.ga K "Alphabet", [], sp_Alphabet_listed_signs K)] "listed_signs" W (tV 0) (tCons (tV 1) tNil))))))))))
theorem tm_Alphabet_signs_of {P : Program} {w : World} {K : PySem.W.Frag} {mg : Str → Option Value} {base : Heap} {f : Addr} {cdv : Value} {A : Around} {outer : List Env} {s : Shared} {H : Hp} {E : XK} (T : Tx K mg) (G_Alphabet_listed_signs : Me P w K mg base (He.ga K "Alphabet") "listed_signs" 7 [] (sp_Alphabet_listed_signs K)) (hr : Room 8 (A.deeper (envOfC "Alphabet.signs_of" (defScope s_Alphabet_signs_of) s.heap.objs.size f cdv))) :
    PSs (cxOf (L2.CX P w) P w K mg base ["self", "name"] "Alphabet.signs_of" (defScope s_Alphabet_signs_of) f cdv A outer s H E) (defBody s_Alphabet_signs_of) (t_Alphabet_signs_of K (WD E)) :=
  (pss_one (psmat (Ta.pv 1) (pms_val [97, 108, 108] (pss_one (ps_ret (patt (Ta.pv 0)))) (pms_val [108, 101, 116, 116, 101, 114, 115] (pss_one (ps_ret (patt (Ta.pv 0)))) (pms_val [118, 111, 119, 101, 108, 115] (pss_one (ps_ret (patt (Ta.pv 0)))) (pms_val [99, 111, 110, 115, 111, 110, 97, 110, 116, 115] (pss_one (ps_ret (patt (Ta.pv 0)))) (pms_val [106, 111, 105, 110, 116, 115] (pss_one (ps_ret (pclv T.cc_Alphabet_JOINT))) (pms_wild (pss_one (ps_ret (pmeth (ms := [(He.ga K "Alphabet", [], sp_Alphabet_listed_signs K)]) (fun e he => by obtain rfl := List.mem_singleton.mp he; exact G_Alphabet_listed_signs) (hr.mono (by decide)) takesD (Ta.pv 0) (pa_cons (Ta.pv 1) pa_nil))))))))))))
/-! _law_told_set -/
abbrev s_l_told_set : Stmt := top 19
theorem sc_l_told_set : FnScope ["_law_alphabet", "_law_name_here", "_law_told", "e"] ["_law_alphabet", "_law_name_here"] (defScope s_l_told_set) := ⟨rfl, rfl, rfl, by decide +kernel, rfl, by decide +kernel, by decide +kernel⟩
structure sp_l_told_set (K : PySem.W.Frag) (vs : List V) (H : Hp) (Q : VK) (E : XK) : Prop where
  out : ∃ (A dA : Addr) (l v n : List Nat), vs = [.ref A, .str (S n)] ∧ (H A = some (alo K dA l v)) ∧ (n.length < 60) ∧ (∀ r H', Kp [] H H' → H' r = some (.tup (setP (stv l v n) n)) → Q (.ref r) H')
theorem i_l_told_set {K : PySem.W.Frag} {A dA : Addr} {l v n : List Nat} {H : Hp} {Q : VK} {E : XK} (hA : H A = some (alo K dA l v)) (hn : n.length < 60) (q : ∀ r H', Kp [] H H' → H' r = some (.tup (setP (stv l v n) n)) → Q (.ref r) H') : sp_l_told_set K [.ref A, .str (S n)] H Q E := by
  exact ⟨⟨A, dA, l, v, n, rfl, hA, hn, q⟩⟩

def t_l_told_set (K : PySem.W.Frag) (W : WX) : TS :=
  (tSeq (fun D0 σ0 H0 => (fun (W1 : WX) => (tAsg (tMe [(He.ga K "Alphabet", [], sp_Alphabet_signs_of K)] "signs_of" W1 (tV 0) (tCons (tV 1) tNil)) (gName 2))) (wAs K (.ref (He.ga K "TaleError")) 3 (fun a cls d => (tSeq (tIfP (tAndP (tTru K (tCB (zIsX K a cls d) (tCons (tV 3) (tCons (tC (.ref (He.ga K "BadSet"))) tNil)))) (tAndP (tTru K (tCB (zIsX K a cls d) (tCons (tV 3) (tCons (tC (.ty "ValueError")) tNil)))) (tNot (tTru K (tCB (zIsX K a cls d) (tCons (tV 3) (tCons (tTup (tCons (tC (.ref (He.ga K "BadText"))) (tCons (tC (.ref (He.ga K "BadAlphabet"))) tNil))) tNil))))))) (tRet (tTup (tCons (tC (.bl false)) (tCons (tXat K a cls d "name" (tV 3)) tNil)))) tNext)
  (tRet (tTup (tCons (tC (.bl false)) (tCons (tC .non) tNil)))))) W D0) D0 σ0 H0)
  (tSeq (tIfP (tNot (tTru K (tCB (zIsa K) (tCons (tV 2) (tCons (tC (.ty "str")) tNil))))) (tRet (tTup (tCons (tC (.bl true)) (tCons (tC .non) tNil)))) tNext)
  (tRet (tTup (tCons (tC (.bl true)) (tCons (tV 2) tNil))))))
theorem tm_l_told_set {P : Program} {w : World} {K : PySem.W.Frag} {mg : Str → Option Value} {base : Heap} {f : Addr} {cdv : Value} {A : Around} {outer : List Env} {s : Shared} {H : Hp} {E : XK} (T : Tx K mg) (G_Alphabet_signs_of : Me P w K mg base (He.ga K "Alphabet") "signs_of" 9 [] (sp_Alphabet_signs_of K)) (hr : Room 10 (A.deeper (envOfC "_law_told_set" (defScope s_l_told_set) s.heap.objs.size f cdv))) :
    PSs (cxOf (L2.CX P w) P w K mg base ["_law_alphabet", "_law_name_here", "_law_told", "e"] "_law_told_set" (defScope s_l_told_set) f cdv A outer s H E) (defBody s_l_told_set) (t_l_told_set K (WD E)) :=
  (pss_cons (ps_try_as (i := 3) rfl rfl sc_l_told_set.nd rfl rfl (names_of T.v_TaleError) takesD (tb := fun W1 => (tAsg (tMe [(He.ga K "Alphabet", [], sp_Alphabet_signs_of K)] "signs_of" W1 (tV 0) (tCons (tV 1) tNil)) (gName 2))) (ts := fun a cls d => (tSeq (tIfP (tAndP (tTru K (tCB (zIsX K a cls d) (tCons (tV 3) (tCons (tC (.ref (He.ga K "BadSet"))) tNil)))) (tAndP (tTru K (tCB (zIsX K a cls d) (tCons (tV 3) (tCons (tC (.ty "ValueError")) tNil)))) (tNot (tTru K (tCB (zIsX K a cls d) (tCons (tV 3) (tCons (tTup (tCons (tC (.ref (He.ga K "BadText"))) (tCons (tC (.ref (He.ga K "BadAlphabet"))) tNil))) tNil))))))) (tRet (tTup (tCons (tC (.bl false)) (tCons (tXat K a cls d "name" (tV 3)) tNil)))) tNext)
  (tRet (tTup (tCons (tC (.bl false)) (tCons (tC .non) tNil)))))) (fun W1 pn xe tk1 _ => (pss_one (pset 2 sc_l_told_set.nd (pmeth (ms := [(He.ga K "Alphabet", [], sp_Alphabet_signs_of K)]) (fun e he => by obtain rfl := List.mem_singleton.mp he; exact G_Alphabet_signs_of) (hr.mono (by decide)) tk1 (Ta.pv 0) (pa_cons (Ta.pv 1) pa_nil))))) (fun a oe cls d pn hz hf => (pss_cons (psif (PW.pt (pwand (ptru (pcb (crisx hz hf) T.f_isinstance (pa_cons (Ta.pv 3) (pa_cons (pglo T.v_BadSet) pa_nil)))) (pwand (ptru (pcb (crisx hz hf) T.f_isinstance (pa_cons (Ta.pv 3) (pa_cons (pbty T.f_ValueError) pa_nil)))) (pw_and1 (pt_not (ptru (pcb (crisx hz hf) T.f_isinstance (pa_cons (Ta.pv 3) (pa_cons (pe_tup (pa_cons (pglo T.v_BadText) (pa_cons (pglo T.v_BadAlphabet) pa_nil))) pa_nil))))))))) (pss_one (ps_ret (pe_tup (pa_cons pe_bl (pa_cons (pxat hz hf (Ta.pv 3)) pa_nil))))) pss_nil)
  (pss_one (ps_ret (pe_tup (pa_cons pe_bl (pa_cons pe_non pa_nil))))))))
  (pss_cons (psif (pt_not (ptru (pcb (crisa) T.f_isinstance (pa_cons (Ta.pv 2) (pa_cons (pbty T.f_str) pa_nil))))) (pss_one (ps_ret (pe_tup (pa_cons pe_bl (pa_cons pe_non pa_nil))))) pss_nil)
  (pss_one (ps_ret (pe_tup (pa_cons pe_bl (pa_cons (Ta.pv 2) pa_nil)))))))
/-! _law_set -/
abbrev s_l_set : Stmt := top 18
theorem sc_l_set : FnScope ["_law_name_here", "_law_letters", "_law_vowels", "_law_ordered", "_law_signs", "_law_sign", "_law_last"] ["_law_name_here", "_law_letters", "_law_vowels"] (defScope s_l_set) := ⟨rfl, rfl, rfl, by decide +kernel, rfl, by decide +kernel, by decide +kernel⟩
structure sp_l_set (K : PySem.W.Frag) (vs : List V) (H : Hp) (Q : VK) (E : XK) : Prop where
  out : ∃ (l v n : List Nat), vs = [.str (S n), .str (S l), .str (S v)] ∧ (good l v) ∧ (n.length < 60) ∧ (∀ r H', Kp [] H H' → H' r = some (.tup (setP (stv l v n) n)) → Q (.ref r) H')
theorem i_l_set {K : PySem.W.Frag} {l v n : List Nat} {H : Hp} {Q : VK} {E : XK} (hg : good l v) (hn : n.length < 60) (q : ∀ r H', Kp [] H H' → H' r = some (.tup (setP (stv l v n) n)) → Q (.ref r) H') : sp_l_set K [.str (S n), .str (S l), .str (S v)] H Q E := by
  exact ⟨⟨l, v, n, rfl, hg, hn, q⟩⟩

def b_l_set_1 (K : PySem.W.Frag) (W : WX) : TS :=
  (tSeq (tIfP (tTst (tOp zLe (tSM (zFind) (tV 4) (tCons (tV 5) tNil)) (tV 6))) (tRet (tTup (tCons (tC (.bl false)) (tCons (tV 0) tNil)))) tNext)
  (tAsg (tSM (zFind) (tV 4) (tCons (tV 5) tNil)) (gName 6)))
def t_l_set (K : PySem.W.Frag) (W : WX) : TS :=
  (tSeq (tAsg (tSM (zJoin K) (tC (.str (S []))) (tCons (tCB (zSort1) (tCons (tV 1) tNil)) tNil)) (gName 3))
  (tSeq (tAsg (tOp zAdd (tC (.str (S [45]))) (tV 3)) (gName 4))
  (tSeq (tIfP (tTst (tOp (zEqP K) (tV 0) (tC (.str (S [97, 108, 108]))))) (tRet (tTup (tCons (tC (.bl true)) (tCons (tV 4) tNil)))) tNext)
  (tSeq (tIfP (tTst (tOp (zEqP K) (tV 0) (tC (.str (S [108, 101, 116, 116, 101, 114, 115]))))) (tRet (tTup (tCons (tC (.bl true)) (tCons (tV 3) tNil)))) tNext)
  (tSeq (tIfP (tTst (tOp (zEqP K) (tV 0) (tC (.str (S [118, 111, 119, 101, 108, 115]))))) (tRet (tTup (tCons (tC (.bl true)) (tCons (tSM (zJoin K) (tC (.str (S []))) (tCons (tLcP (jA K (tV 3)) (gName 5) (tTst (tOp (zInP K) (tV 5) (tV 2))) (tV 5) [5]) tNil)) tNil)))) tNext)
  (tSeq (tIfP (tTst (tOp (zEqP K) (tV 0) (tC (.str (S [99, 111, 110, 115, 111, 110, 97, 110, 116, 115]))))) (tRet (tTup (tCons (tC (.bl true)) (tCons (tSM (zJoin K) (tC (.str (S []))) (tCons (tLcP (jA K (tV 3)) (gName 5) (tTst (tOp (zNinP K) (tV 5) (tV 2))) (tV 5) [5]) tNil)) tNil)))) tNext)
  (tSeq (tIfP (tTst (tOp (zEqP K) (tV 0) (tC (.str (S [106, 111, 105, 110, 116, 115]))))) (tRet (tTup (tCons (tC (.bl true)) (tCons (tC (.str (S [45]))) tNil)))) tNext)
  (tSeq (tIfP (tOrP (tTst (tOp zLt (tCB (zLen K) (tCons (tV 0) tNil)) (tC (.int 3)))) (tOrP (tTst (tOp (zNeP K) (tOp (zIxP K) (tV 0) (tC (.int 0))) (tC (.str (S [91]))))) (tTst (tOp (zNeP K) (tOp (zIxP K) (tV 0) (tUn zNeg (tC (.int 1)))) (tC (.str (S [93]))))))) (tRet (tTup (tCons (tC (.bl false)) (tCons (tV 0) tNil)))) tNext)
  (tSeq (tAsg (tUn zNeg (tC (.int 1))) (gName 6))
  (tSeq (tForP (jA K (tSl (zSlP K) (tV 0) (tPrt (tC (.int 1))) (tPrt (tUn zNeg (tC (.int 1)))))) (gName 5) (b_l_set_1 K W))
  (tRet (tTup (tCons (tC (.bl true)) (tCons (tSl (zSlP K) (tV 0) (tPrt (tC (.int 1))) (tPrt (tUn zNeg (tC (.int 1))))) tNil))))))))))))))
theorem tm_l_set {P : Program} {w : World} {K : PySem.W.Frag} {mg : Str → Option Value} {base : Heap} {f : Addr} {cdv : Value} {A : Around} {outer : List Env} {s : Shared} {H : Hp} {E : XK} (T : Tx K mg) (hr : Room 4 (A.deeper (envOfC "_law_set" (defScope s_l_set) s.heap.objs.size f cdv))) :
    PSs (cxOf (L2.CX P w) P w K mg base ["_law_name_here", "_law_letters", "_law_vowels", "_law_ordered", "_law_signs", "_law_sign", "_law_last"] "_law_set" (defScope s_l_set) f cdv A outer s H E) (defBody s_l_set) (t_l_set K (WD E)) :=
  (pss_cons (pset 3 sc_l_set.nd (psm PySem.F.slot_str_join PySem.F.type_str_join mtjoin (pstr []) (pa_cons (pcb (crsort rfl) T.f_sorted (pa_cons (Ta.pv 1) pa_nil)) pa_nil)))
  (pss_cons (pset 4 sc_l_set.nd (pe_op opadd (pstr [45]) (Ta.pv 3)))
  (pss_cons (psif (ptcmp (opeq hr.units) (Ta.pv 0) (pstr [97, 108, 108])) (pss_one (ps_ret (pe_tup (pa_cons pe_bl (pa_cons (Ta.pv 4) pa_nil))))) pss_nil)
  (pss_cons (psif (ptcmp (opeq hr.units) (Ta.pv 0) (pstr [108, 101, 116, 116, 101, 114, 115])) (pss_one (ps_ret (pe_tup (pa_cons pe_bl (pa_cons (Ta.pv 3) pa_nil))))) pss_nil)
  (pss_cons (psif (ptcmp (opeq hr.units) (Ta.pv 0) (pstr [118, 111, 119, 101, 108, 115])) (pss_one (ps_ret (pe_tup (pa_cons pe_bl (pa_cons (psm PySem.F.slot_str_join PySem.F.type_str_join mtjoin (pstr []) (pa_cons (plc [("_law_sign", 5)] rfl sc_l_set.nd (pja (Ta.pv 3)) (by kernel_rfl) (fun _ _ _ _ _ => (pgn 5 sc_l_set.nd)) (fun _ _ _ _ _ => (pts_one (ptcmp opin (Ta.pv 5) (Ta.pv 2)))) (fun _ _ _ _ _ => (Ta.pv 5))) pa_nil)) pa_nil))))) pss_nil)
  (pss_cons (psif (ptcmp (opeq hr.units) (Ta.pv 0) (pstr [99, 111, 110, 115, 111, 110, 97, 110, 116, 115])) (pss_one (ps_ret (pe_tup (pa_cons pe_bl (pa_cons (psm PySem.F.slot_str_join PySem.F.type_str_join mtjoin (pstr []) (pa_cons (plc [("_law_sign", 5)] rfl sc_l_set.nd (pja (Ta.pv 3)) (by kernel_rfl) (fun _ _ _ _ _ => (pgn 5 sc_l_set.nd)) (fun _ _ _ _ _ => (pts_one (ptcmp opnin (Ta.pv 5) (Ta.pv 2)))) (fun _ _ _ _ _ => (Ta.pv 5))) pa_nil)) pa_nil))))) pss_nil)
  (pss_cons (psif (ptcmp (opeq hr.units) (Ta.pv 0) (pstr [106, 111, 105, 110, 116, 115])) (pss_one (ps_ret (pe_tup (pa_cons pe_bl (pa_cons (pstr [45]) pa_nil))))) pss_nil)
  (pss_cons (psif (PW.pt (pwor (ptcmp oplt (pcb (crlen) T.f_len (pa_cons (Ta.pv 0) pa_nil)) pe_int) (pwor (ptcmp (opne hr.units) (pix (Ta.pv 0) pe_int) (pstr [91])) (pw_or1 (ptcmp (opne hr.units) (pix (Ta.pv 0) (pe_un unneg pe_int)) (pstr [93])))))) (pss_one (ps_ret (pe_tup (pa_cons pe_bl (pa_cons (Ta.pv 0) pa_nil))))) pss_nil)
  (pss_cons (pset 6 sc_l_set.nd (pe_un unneg pe_int))
  (pss_cons (psfor ownD rfl (pja (psl (Ta.pv 0) (posome pe_int) (posome (pe_un unneg pe_int)))) (pgn 5 sc_l_set.nd) (pss_cons (psif (ptcmp ople (psm PySem.F.slot_str_find PySem.F.type_str_find mtfind (Ta.pv 4) (pa_cons (Ta.pv 5) pa_nil)) (Ta.pv 6)) (pss_one (ps_ret (pe_tup (pa_cons pe_bl (pa_cons (Ta.pv 0) pa_nil))))) pss_nil)
  (pss_one (pset 6 sc_l_set.nd (psm PySem.F.slot_str_find PySem.F.type_str_find mtfind (Ta.pv 4) (pa_cons (Ta.pv 5) pa_nil))))))
  (pss_one (ps_ret (pe_tup (pa_cons pe_bl (pa_cons (psl (Ta.pv 0) (posome pe_int) (posome (pe_un unneg pe_int))) pa_nil)))))))))))))))
/-! _law_changed -/
abbrev s_l_changed : Stmt := top 16
theorem sc_l_changed : FnScope ["_law_box_here", "_law_string", "_law_way", "_law_at"] ["_law_box_here", "_law_string"] (defScope s_l_changed) := ⟨rfl, rfl, rfl, by decide +kernel, rfl, by decide +kernel, by decide +kernel⟩
structure sp_l_changed (K : PySem.W.Frag) (vs : List V) (H : Hp) (Q : VK) (E : XK) : Prop where
  out : ∃ (p : Addr) (a b : Int) (s : List Nat), vs = [.ref p, .str (S s)] ∧ (H p = some (pr a b)) ∧ (s.length < 900) ∧ (∀ c ∈ s, c < 128) ∧ (∀ (u : List Nat) a' b', u.length ≤ s.length + 1 → (∀ c ∈ u, c < 128) → Q (.str (S u)) (upd H p (pr a' b')))
theorem i_l_changed {K : PySem.W.Frag} {p : Addr} {a b : Int} {s : List Nat} {H : Hp} {Q : VK} {E : XK} (hp : H p = some (pr a b)) (h1 : s.length < 900) (h2 : ∀ c ∈ s, c < 128) (q : ∀ (u : List Nat) a' b', u.length ≤ s.length + 1 → (∀ c ∈ u, c < 128) → Q (.str (S u)) (upd H p (pr a' b'))) : sp_l_changed K [.ref p, .str (S s)] H Q E := by
  exact ⟨⟨p, a, b, s, rfl, hp, h1, h2, q⟩⟩

def t_l_changed (K : PySem.W.Frag) (W : WX) : TS :=
  (tSeq (tAsg (tCal (sp_l_take K) [] W (tCons (tV 0) (tCons (tC (.int 3)) tNil))) (gName 2))
  (tSeq (tAsg (tCal (sp_l_take K) [] W (tCons (tV 0) (tCons (tOp zAdd (tCB (zLen K) (tCons (tV 1) tNil)) (tC (.int 1))) tNil))) (gName 3))
  (tSeq (tIfP (tTst (tOp (zEqP K) (tV 2) (tC (.int 0)))) (tRet (tOp zAdd (tOp zAdd (tSl (zSlP K) (tV 1) tNoPart (tPrt (tV 3))) (tCal (sp_l_char K) [] W (tCons (tV 0) tNil))) (tSl (zSlP K) (tV 1) (tPrt (tV 3)) tNoPart))) tNext)
  (tSeq (tIfP (tTst (tOp (zEqP K) (tV 2) (tC (.int 1)))) (tRet (tOp zAdd (tOp zAdd (tSl (zSlP K) (tV 1) tNoPart (tPrt (tV 3))) (tCal (sp_l_char K) [] W (tCons (tV 0) tNil))) (tSl (zSlP K) (tV 1) (tPrt (tOp zAdd (tV 3) (tC (.int 1)))) tNoPart))) tNext)
  (tRet (tOp zAdd (tSl (zSlP K) (tV 1) tNoPart (tPrt (tV 3))) (tSl (zSlP K) (tV 1) (tPrt (tOp zAdd (tV 3) (tC (.int 1)))) tNoPart)))))))
theorem tm_l_changed {P : Program} {w : World} {K : PySem.W.Frag} {mg : Str → Option Value} {base : Heap} {f : Addr} {cdv : Value} {A : Around} {outer : List Env} {s : Shared} {H : Hp} {E : XK} (T : Tx K mg) (G_l_char : Fn P w K mg base "_law_char" 7 [] (sp_l_char K)) (G_l_take : Fn P w K mg base "_law_take" 5 [] (sp_l_take K)) (hr : Room 8 (A.deeper (envOfC "_law_changed" (defScope s_l_changed) s.heap.objs.size f cdv))) :
    PSs (cxOf (L2.CX P w) P w K mg base ["_law_box_here", "_law_string", "_law_way", "_law_at"] "_law_changed" (defScope s_l_changed) f cdv A outer s H E) (defBody s_l_changed) (t_l_changed K (WD E)) :=
  (pss_cons (pset 2 sc_l_changed.nd (pcall G_l_take (hr.mono (by decide)) takesD (pa_cons (Ta.pv 0) (pa_cons pe_int pa_nil))))
  (pss_cons (pset 3 sc_l_changed.nd (pcall G_l_take (hr.mono (by decide)) takesD (pa_cons (Ta.pv 0) (pa_cons (pe_op opadd (pcb (crlen) T.f_len (pa_cons (Ta.pv 1) pa_nil)) pe_int) pa_nil))))
  (pss_cons (psif (ptcmp (opeq hr.units) (Ta.pv 2) pe_int) (pss_one (ps_ret (pe_op opadd (pe_op opadd (psl (Ta.pv 1) po_none (posome (Ta.pv 3))) (pcall G_l_char (hr.mono (by decide)) takesD (pa_cons (Ta.pv 0) pa_nil))) (psl (Ta.pv 1) (posome (Ta.pv 3)) po_none)))) pss_nil)
  (pss_cons (psif (ptcmp (opeq hr.units) (Ta.pv 2) pe_int) (pss_one (ps_ret (pe_op opadd (pe_op opadd (psl (Ta.pv 1) po_none (posome (Ta.pv 3))) (pcall G_l_char (hr.mono (by decide)) takesD (pa_cons (Ta.pv 0) pa_nil))) (psl (Ta.pv 1) (posome (pe_op opadd (Ta.pv 3) pe_int)) po_none)))) pss_nil)
  (pss_one (ps_ret (pe_op opadd (psl (Ta.pv 1) po_none (posome (Ta.pv 3))) (psl (Ta.pv 1) (posome (pe_op opadd (Ta.pv 3) pe_int)) po_none))))))))
/-! _law_name -/
abbrev s_l_name : Stmt := top 17
theorem sc_l_name : FnScope ["_law_box_here", "_law_signs", "_law_way", "_law_name_here", "_law_inside", "_law_sign", "_law_turn"] ["_law_box_here", "_law_signs"] (defScope s_l_name) := ⟨rfl, rfl, rfl, by decide +kernel, rfl, by decide +kernel, by decide +kernel⟩
structure sp_l_name (K : PySem.W.Frag) (vs : List V) (H : Hp) (Q : VK) (E : XK) : Prop where
  out : ∃ (p : Addr) (a b : Int) (l : List Nat), vs = [.ref p, .str (S (45 :: srt l))] ∧ (H p = some (pr a b)) ∧ (l.length ≤ 4) ∧ (∀ c ∈ l, c ∈ AZ) ∧ (∀ (n : List Nat) a' b' H', n.length ≤ 20 → (∀ c ∈ n, c < 128) → Kp [p] H H' → H' p = some (pr a' b') → Q (.str (S n)) H')
theorem i_l_name {K : PySem.W.Frag} {p : Addr} {a b : Int} {l : List Nat} {H : Hp} {Q : VK} {E : XK} (hp : H p = some (pr a b)) (h1 : l.length ≤ 4) (h2 : ∀ c ∈ l, c ∈ AZ) (q : ∀ (n : List Nat) a' b' H', n.length ≤ 20 → (∀ c ∈ n, c < 128) → Kp [p] H H' → H' p = some (pr a' b') → Q (.str (S n)) H') : sp_l_name K [.ref p, .str (S (45 :: srt l))] H Q E := by
  exact ⟨⟨p, a, b, l, rfl, hp, h1, h2, q⟩⟩

def b_l_name_2 (K : PySem.W.Frag) (W : WX) : TS :=
  (tAsg (tOp zAdd (tV 4) (tOp (zIxP K) (tV 1) (tCal (sp_l_take K) [] W (tCons (tV 0) (tCons (tCB (zLen K) (tCons (tV 1) tNil)) tNil))))) (gName 4))
def b_l_name_1 (K : PySem.W.Frag) (W : WX) : TS :=
  (tIfP (tTst (tOp (zEqP K) (tCal (sp_l_take K) [] W (tCons (tV 0) (tCons (tC (.int 2)) tNil))) (tC (.int 1)))) (tAsg (tOp zAdd (tV 4) (tV 5)) (gName 4)) tNext)
structure t_l_name_5 (K : PySem.W.Frag) (W : WX) (D : Ends) (σ : L2.St) (H : Hp) : Prop where
  out : (tSeq (tIfP (tOrP (tTst (tOp (zEqP K) (tV 2) (tC (.int 1)))) (tOrP (tTst (tOp (zEqP K) (tV 2) (tC (.int 3)))) (tTst (tOp (zEqP K) (tV 2) (tC (.int 5)))))) (tRet (tCal (sp_l_changed K) [] W (tCons (tV 0) (tCons (tV 3) tNil)))) tNext)
  (tRet (tV 3))) D σ H
structure t_l_name_4 (K : PySem.W.Frag) (W : WX) (D : Ends) (σ : L2.St) (H : Hp) : Prop where
  out : (tSeq (tIfP (tOrP (tTst (tOp (zEqP K) (tV 2) (tC (.int 4)))) (tTst (tOp (zEqP K) (tV 2) (tC (.int 5))))) (tSeq (tForP (jR1 (tCons (tCal (sp_l_take K) [] W (tCons (tV 0) (tCons (tC (.int 7)) tNil))) tNil)) (gName 6) (b_l_name_2 K W))
  (tAsg (tOp zAdd (tOp zAdd (tC (.str (S [91]))) (tV 4)) (tC (.str (S [93])))) (gName 3))) tNext)
  (t_l_name_5 K W)) D σ H
structure t_l_name_3 (K : PySem.W.Frag) (W : WX) (D : Ends) (σ : L2.St) (H : Hp) : Prop where
  out : (tSeq (tIfP (tOrP (tTst (tOp (zEqP K) (tV 2) (tC (.int 2)))) (tTst (tOp (zEqP K) (tV 2) (tC (.int 3))))) (tSeq (tForP (jA K (tV 1)) (gName 5) (b_l_name_1 K W))
  (tAsg (tOp zAdd (tOp zAdd (tC (.str (S [91]))) (tV 4)) (tC (.str (S [93])))) (gName 3))) tNext)
  (t_l_name_4 K W)) D σ H
def t_l_name (K : PySem.W.Frag) (W : WX) : TS :=
  (tSeq (tAsg (tCal (sp_l_take K) [] W (tCons (tV 0) (tCons (tC (.int 6)) tNil))) (gName 2))
  (tSeq (tAsg (tOp (zIxP K) (tLst (tCons (tC (.str (S [97, 108, 108]))) (tCons (tC (.str (S [108, 101, 116, 116, 101, 114, 115]))) (tCons (tC (.str (S [118, 111, 119, 101, 108, 115]))) (tCons (tC (.str (S [99, 111, 110, 115, 111, 110, 97, 110, 116, 115]))) (tCons (tC (.str (S [106, 111, 105, 110, 116, 115]))) tNil)))))) (tCal (sp_l_take K) [] W (tCons (tV 0) (tCons (tC (.int 5)) tNil)))) (gName 3))
  (tSeq (tAsg (tC (.str (S []))) (gName 4))
  (t_l_name_3 K W))))
theorem tm_l_name {P : Program} {w : World} {K : PySem.W.Frag} {mg : Str → Option Value} {base : Heap} {f : Addr} {cdv : Value} {A : Around} {outer : List Env} {s : Shared} {H : Hp} {E : XK} (T : Tx K mg) (G_l_changed : Fn P w K mg base "_law_changed" 9 [] (sp_l_changed K)) (G_l_take : Fn P w K mg base "_law_take" 5 [] (sp_l_take K)) (hr : Room 10 (A.deeper (envOfC "_law_name" (defScope s_l_name) s.heap.objs.size f cdv))) :
    PSs (cxOf (L2.CX P w) P w K mg base ["_law_box_here", "_law_signs", "_law_way", "_law_name_here", "_law_inside", "_law_sign", "_law_turn"] "_law_name" (defScope s_l_name) f cdv A outer s H E) (defBody s_l_name) (t_l_name K (WD E)) :=
  (pss_cons (pset 2 sc_l_name.nd (pcall G_l_take (hr.mono (by decide)) takesD (pa_cons (Ta.pv 0) (pa_cons pe_int pa_nil))))
  (pss_cons (pset 3 sc_l_name.nd (pix (pe_lst (pa_cons (pstr [97, 108, 108]) (pa_cons (pstr [108, 101, 116, 116, 101, 114, 115]) (pa_cons (pstr [118, 111, 119, 101, 108, 115]) (pa_cons (pstr [99, 111, 110, 115, 111, 110, 97, 110, 116, 115]) (pa_cons (pstr [106, 111, 105, 110, 116, 115]) pa_nil)))))) (pcall G_l_take (hr.mono (by decide)) takesD (pa_cons (Ta.pv 0) (pa_cons pe_int pa_nil)))))
  (pss_cons (pset 4 sc_l_name.nd (pstr []))
  (pss_imp (pss_cons (psif (PW.pt (pwor (ptcmp (opeq hr.units) (Ta.pv 2) pe_int) (pw_or1 (ptcmp (opeq hr.units) (Ta.pv 2) pe_int)))) (pss_cons (psfor ownD rfl (pja (Ta.pv 1)) (pgn 5 sc_l_name.nd) (pss_one (psif (ptcmp (opeq hr.units) (pcall G_l_take (hr.mono (by decide)) takesD (pa_cons (Ta.pv 0) (pa_cons pe_int pa_nil))) pe_int) (pss_one (pset 4 sc_l_name.nd (pe_op opadd (Ta.pv 4) (Ta.pv 5)))) pss_nil)))
  (pss_one (pset 3 sc_l_name.nd (pe_op opadd (pe_op opadd (pstr [91]) (Ta.pv 4)) (pstr [93]))))) pss_nil)
  (pss_imp (pss_cons (psif (PW.pt (pwor (ptcmp (opeq hr.units) (Ta.pv 2) pe_int) (pw_or1 (ptcmp (opeq hr.units) (Ta.pv 2) pe_int)))) (pss_cons (psfor ownD rfl (pjr1 T.f_range (pa_cons (pcall G_l_take (hr.mono (by decide)) takesD (pa_cons (Ta.pv 0) (pa_cons pe_int pa_nil))) pa_nil)) (pgn 6 sc_l_name.nd) (pss_one (pset 4 sc_l_name.nd (pe_op opadd (Ta.pv 4) (pix (Ta.pv 1) (pcall G_l_take (hr.mono (by decide)) takesD (pa_cons (Ta.pv 0) (pa_cons (pcb (crlen) T.f_len (pa_cons (Ta.pv 1) pa_nil)) pa_nil))))))))
  (pss_one (pset 3 sc_l_name.nd (pe_op opadd (pe_op opadd (pstr [91]) (Ta.pv 4)) (pstr [93]))))) pss_nil)
  (pss_imp (pss_cons (psif (PW.pt (pwor (ptcmp (opeq hr.units) (Ta.pv 2) pe_int) (pwor (ptcmp (opeq hr.units) (Ta.pv 2) pe_int) (pw_or1 (ptcmp (opeq hr.units) (Ta.pv 2) pe_int))))) (pss_one (ps_ret (pcall G_l_changed (hr.mono (by decide)) takesD (pa_cons (Ta.pv 0) (pa_cons (Ta.pv 3) pa_nil))))) pss_nil)
  (pss_one (ps_ret (Ta.pv 3)))) fun _ _ _ h => h.out)) fun _ _ _ h => h.out)) fun _ _ _ h => h.out))))
/-! all_different -/
abbrev s_all_different : Stmt := top 7
theorem sc_all_different : FnScope ["string"] ["string"] (defScope s_all_different) := ⟨rfl, rfl, rfl, by decide +kernel, rfl, by decide +kernel, by decide +kernel⟩
structure sp_all_different (K : PySem.W.Frag) (vs : List V) (H : Hp) (Q : VK) (E : XK) : Prop where
  out : ∃ (l : List Nat), vs = [.str (S l)] ∧ l.length < 4000 ∧ Q (.bl (dif l)) H
theorem i_all_different {K : PySem.W.Frag} {l : List Nat} {H : Hp} {Q : VK} {E : XK} (h : l.length < 4000) (q : Q (.bl (dif l)) H) : sp_all_different K [.str (S l)] H Q E := by
  exact ⟨⟨l, rfl, h, q⟩⟩

def t_all_different (K : PySem.W.Frag) (W : WX) : TS :=
  (tRet (tOp (zEqP K) (tLset (tV 0)) (tCB (zLen K) (tCons (tV 0) tNil))))
theorem tm_all_different {P : Program} {w : World} {K : PySem.W.Frag} {mg : Str → Option Value} {base : Heap} {f : Addr} {cdv : Value} {A : Around} {outer : List Env} {s : Shared} {H : Hp} {E : XK} (T : Tx K mg) (hr : Room 4 (A.deeper (envOfC "all_different" (defScope s_all_different) s.heap.objs.size f cdv))) :
    PSs (cxOf (L2.CX P w) P w K mg base ["string"] "all_different" (defScope s_all_different) f cdv A outer s H E) (defBody s_all_different) (t_all_different K (WD E)) :=
  (pss_one (ps_ret (pe_cmpR (opeq hr.units) (plset rfl T.f_len T.f_set (Ta.pv 0)) (pcb (crlen) T.f_len (pa_cons (Ta.pv 0) pa_nil)) rfl)))
/-! Alphabet___init__ -/
abbrev s_Alphabet_init : Stmt := inClass (top 8) 2
theorem sc_Alphabet_init : FnScope ["self", "letters", "vowels", "foreign", "sign"] ["self", "letters", "vowels"] (defScope s_Alphabet_init) := ⟨rfl, rfl, rfl, by decide +kernel, rfl, by decide +kernel, by decide +kernel⟩
structure sp_Alphabet_init (K : PySem.W.Frag) (vs : List V) (H : Hp) (Q : VK) (E : XK) : Prop where
  out : ∃ (a dx : Addr) (l v : List Nat), vs = [.ref a, .str (S l), .str (S v)] ∧ H a = some (.ins (He.ga K "Alphabet") dx []) ∧ l.length < 64 ∧ v.length < 64 ∧
  (badL l = true → ∀ H' d, Kp [] H H' → H' d = none → E (.ref (He.ga K "BadAlphabet")) (some d) (upd H' d (.xd [("part", .str (S tLet))]))) ∧
  (badL l = false → badV l v = true → ∀ H' d, Kp [] H H' → H' d = none → E (.ref (He.ga K "BadAlphabet")) (some d) (upd H' d (.xd [("part", .str (S tVow))]))) ∧
  (badL l = false → badV l v = false → ∀ H', Kp [a] H H' → H' a = some (.ins (He.ga K "Alphabet") dx (alf l v)) → Q .non H')
theorem i_Alphabet_init {K : PySem.W.Frag} {a dx : Addr} {l v : List Nat} {H : Hp} {Q : VK} {E : XK} (ha : H a = some (.ins (He.ga K "Alphabet") dx [])) (h1 : l.length < 64) (h2 : v.length < 64)
  (q1 : badL l = true → ∀ H' d, Kp [] H H' → H' d = none → E (.ref (He.ga K "BadAlphabet")) (some d) (upd H' d (.xd [("part", .str (S tLet))])))
  (q2 : badL l = false → badV l v = true → ∀ H' d, Kp [] H H' → H' d = none → E (.ref (He.ga K "BadAlphabet")) (some d) (upd H' d (.xd [("part", .str (S tVow))])))
  (q3 : badL l = false → badV l v = false → ∀ H', Kp [a] H H' → H' a = some (.ins (He.ga K "Alphabet") dx (alf l v)) → Q .non H') : sp_Alphabet_init K [.ref a, .str (S l), .str (S v)] H Q E := by
  exact ⟨⟨a, dx, l, v, rfl, ha, h1, h2, q1, q2, q3⟩⟩
/-- good letters and vowels -/
theorem g_Alphabet_init {K : PySem.W.Frag} {a dx : Addr} {l v : List Nat} {H : Hp} {Q : VK} {E : XK} (ha : H a = some (.ins (He.ga K "Alphabet") dx [])) (h1 : l.length < 64) (h2 : v.length < 64) (e1 : badL l = false) (e2 : badV l v = false)
  (q3 : ∀ H', Kp [a] H H' → H' a = some (.ins (He.ga K "Alphabet") dx (alf l v)) → Q .non H') : sp_Alphabet_init K [.ref a, .str (S l), .str (S v)] H Q E := by
  refine i_Alphabet_init ha h1 h2 (fun z => ?_) (fun _ z => ?_) fun _ _ => q3
  · rw [e1] at z; cases z
  · rw [e2] at z; cases z

def t_Alphabet_init (K : PySem.W.Frag) (W : WX) : TS :=
  (tSeq (tAsg (tLcP (jA K (tV 1)) (gName 4) (tTst (tOp (zNinP K) (tV 4) (tC (.str (S [97, 98, 99, 100, 101, 102, 103, 104, 105, 106, 107, 108, 109, 110, 111, 112, 113, 114, 115, 116, 117, 118, 119, 120, 121, 122]))))) (tV 4) [4]) (gName 3))
  (tSeq (tIfP (tOrP (tTru K (tV 3)) (tOrP (tNot (tTst (tChn zLe zLe (tC (.int 1)) (tCB (zLen K) (tCons (tV 1) tNil)) (tC (.int 4))))) (tNot (tTru K (tCal (sp_all_different K) [] W (tCons (tV 1) tNil)))))) (tRs (He.ga K "BadAlphabet") ["part"] W (tCons (tC (.str (S [108, 101, 116, 116, 101, 114, 115]))) tNil)) tNext)
  (tSeq (tIfP (tOrP (tTru K (tLcP (jA K (tV 2)) (gName 4) (tTst (tOp (zNinP K) (tV 4) (tV 1))) (tV 4) [4])) (tNot (tTru K (tCal (sp_all_different K) [] W (tCons (tV 2) tNil))))) (tRs (He.ga K "BadAlphabet") ["part"] W (tCons (tC (.str (S [118, 111, 119, 101, 108, 115]))) tNil)) tNext)
  (tSeq (sAt K (tV 0) (tSM (zJoin K) (tC (.str (S []))) (tCons (tCB (zSort1) (tCons (tV 1) tNil)) tNil)) "letters")
  (tSeq (sAt K (tV 0) (tSM (zJoin K) (tC (.str (S []))) (tCons (tCB (zSort1) (tCons (tV 2) tNil)) tNil)) "vowels")
  (tSeq (sAt K (tV 0) (tSM (zJoin K) (tC (.str (S []))) (tCons (tLcP (jA K (tCB (zSort1) (tCons (tV 1) tNil))) (gName 4) (tTst (tOp (zNinP K) (tV 4) (tV 2))) (tV 4) [4]) tNil)) "consonants")
  (sAt K (tV 0) (tOp zAdd (tC (.str (S [45]))) (tAt K (tV 0) "letters")) "signs")))))))
theorem tm_Alphabet_init {P : Program} {w : World} {K : PySem.W.Frag} {mg : Str → Option Value} {base : Heap} {f : Addr} {cdv : Value} {A : Around} {outer : List Env} {s : Shared} {H : Hp} {E : XK} (T : Tx K mg) (G_all_different : Fn P w K mg base "all_different" 5 [] (sp_all_different K)) (X_BadAlphabet : Ex P w K mg base "BadAlphabet" (He.ga K "BadAlphabet") ["part"]) (hr : Room 6 (A.deeper (envOfC "Alphabet.__init__" (defScope s_Alphabet_init) s.heap.objs.size f cdv))) :
    PSs (cxOf (L2.CX P w) P w K mg base ["self", "letters", "vowels", "foreign", "sign"] "Alphabet.__init__" (defScope s_Alphabet_init) f cdv A outer s H E) (defBody s_Alphabet_init) (t_Alphabet_init K (WD E)) :=
  (pss_cons (pslc (i := 3) [("sign", 4)] rfl sc_Alphabet_init.nd rfl rfl (sw_true rfl rfl rfl (by decide +kernel)) (pja (Ta.pv 1)) (by kernel_rfl) (fun _ _ _ _ _ => (pgn 4 sc_Alphabet_init.nd)) (fun _ _ _ _ _ => (pts_one (ptcmp opnin (Ta.pv 4) (pglo T.v_SMALL)))) (fun _ _ _ _ _ => (Ta.pv 4)))
  (pss_cons (psif (PW.pt (pwor (ptru (Ta.pv 3)) (pwor (pt_not (ptchn ople ople pe_int (pcb (crlen) T.f_len (pa_cons (Ta.pv 1) pa_nil)) (pclv T.cc_Alphabet_MOST))) (pw_or1 (pt_not (ptru (pcall G_all_different (hr.mono (by decide)) takesD (pa_cons (Ta.pv 1) pa_nil)))))))) (pss_one (praise X_BadAlphabet (hr.mono (by decide)) takesD (pa_cons (pstr [108, 101, 116, 116, 101, 114, 115]) pa_nil))) pss_nil)
  (pss_cons (psif (PW.pt (pwor (ptru (plc [("sign", 4)] rfl sc_Alphabet_init.nd (pja (Ta.pv 2)) (by kernel_rfl) (fun _ _ _ _ _ => (pgn 4 sc_Alphabet_init.nd)) (fun _ _ _ _ _ => (pts_one (ptcmp opnin (Ta.pv 4) (Ta.pv 1)))) (fun _ _ _ _ _ => (Ta.pv 4)))) (pw_or1 (pt_not (ptru (pcall G_all_different (hr.mono (by decide)) takesD (pa_cons (Ta.pv 2) pa_nil))))))) (pss_one (praise X_BadAlphabet (hr.mono (by decide)) takesD (pa_cons (pstr [118, 111, 119, 101, 108, 115]) pa_nil))) pss_nil)
  (pss_cons (psat (Ta.pv 0) (psm PySem.F.slot_str_join PySem.F.type_str_join mtjoin (pstr []) (pa_cons (pcb (crsort rfl) T.f_sorted (pa_cons (Ta.pv 1) pa_nil)) pa_nil)))
  (pss_cons (psat (Ta.pv 0) (psm PySem.F.slot_str_join PySem.F.type_str_join mtjoin (pstr []) (pa_cons (pcb (crsort rfl) T.f_sorted (pa_cons (Ta.pv 2) pa_nil)) pa_nil)))
  (pss_cons (psat (Ta.pv 0) (psm PySem.F.slot_str_join PySem.F.type_str_join mtjoin (pstr []) (pa_cons (plc [("sign", 4)] rfl sc_Alphabet_init.nd (pja (pcb (crsort rfl) T.f_sorted (pa_cons (Ta.pv 1) pa_nil))) (by kernel_rfl) (fun _ _ _ _ _ => (pgn 4 sc_Alphabet_init.nd)) (fun _ _ _ _ _ => (pts_one (ptcmp opnin (Ta.pv 4) (Ta.pv 2)))) (fun _ _ _ _ _ => (Ta.pv 4))) pa_nil)))
  (pss_one (psat (Ta.pv 0) (pe_op opadd (pclv T.cc_Alphabet_JOINT) (patt (Ta.pv 0)))))))))))
/-! _law_pick -/
abbrev s_l_pick : Stmt := top 14
theorem sc_l_pick : FnScope ["_law_box_here", "_law_string", "_law_many", "_law_picked", "_law_turn", "_law_at"] ["_law_box_here", "_law_string", "_law_many"] (defScope s_l_pick) := ⟨rfl, rfl, rfl, by decide +kernel, rfl, by decide +kernel, by decide +kernel⟩
structure sp_l_pick (K : PySem.W.Frag) (vs : List V) (H : Hp) (Q : VK) (E : XK) : Prop where
  out : ∃ (p : Addr) (s : List Nat) (m a b : Int), vs = [.ref p, .str (S s), .int m] ∧ H p = some (pr a b) ∧ 0 ≤ m ∧ m ≤ s.length ∧ s.length < 1000 ∧ ∀ (l r : List Nat) a' b', (l.length : Int) = m → (l ++ r).Perm s → Q (.str (S l)) (upd H p (pr a' b'))
theorem i_l_pick {K : PySem.W.Frag} {p : Addr} {s : List Nat} {m a b : Int} {H : Hp} {Q : VK} {E : XK} (hp : H p = some (pr a b)) (h0 : 0 ≤ m) (h1 : m ≤ s.length) (h2 : s.length < 1000) (q : ∀ (l r : List Nat) a' b', (l.length : Int) = m → (l ++ r).Perm s → Q (.str (S l)) (upd H p (pr a' b'))) : sp_l_pick K [.ref p, .str (S s), .int m] H Q E := by
  exact ⟨⟨p, s, m, a, b, rfl, hp, h0, h1, h2, q⟩⟩

def b_l_pick_1 (K : PySem.W.Frag) (W : WX) : TS :=
  (tSeq (tAsg (tCal (sp_l_take K) [] W (tCons (tV 0) (tCons (tCB (zLen K) (tCons (tV 1) tNil)) tNil))) (gName 5))
  (tSeq (tAsg (tOp zAdd (tV 3) (tOp (zIxP K) (tV 1) (tV 5))) (gName 3))
  (tAsg (tOp zAdd (tSl (zSlP K) (tV 1) tNoPart (tPrt (tV 5))) (tSl (zSlP K) (tV 1) (tPrt (tOp zAdd (tV 5) (tC (.int 1)))) tNoPart)) (gName 1))))
def t_l_pick (K : PySem.W.Frag) (W : WX) : TS :=
  (tSeq (tAsg (tC (.str (S []))) (gName 3))
  (tSeq (tForP (jR1 (tCons (tV 2) tNil)) (gName 4) (b_l_pick_1 K W))
  (tRet (tV 3))))
theorem tm_l_pick {P : Program} {w : World} {K : PySem.W.Frag} {mg : Str → Option Value} {base : Heap} {f : Addr} {cdv : Value} {A : Around} {outer : List Env} {s : Shared} {H : Hp} {E : XK} (T : Tx K mg) (G_l_take : Fn P w K mg base "_law_take" 5 [] (sp_l_take K)) (hr : Room 6 (A.deeper (envOfC "_law_pick" (defScope s_l_pick) s.heap.objs.size f cdv))) :
    PSs (cxOf (L2.CX P w) P w K mg base ["_law_box_here", "_law_string", "_law_many", "_law_picked", "_law_turn", "_law_at"] "_law_pick" (defScope s_l_pick) f cdv A outer s H E) (defBody s_l_pick) (t_l_pick K (WD E)) :=
  (pss_cons (pset 3 sc_l_pick.nd (pstr []))
  (pss_cons (psfor ownD rfl (pjr1 T.f_range (pa_cons (Ta.pv 2) pa_nil)) (pgn 4 sc_l_pick.nd) (pss_cons (pset 5 sc_l_pick.nd (pcall G_l_take (hr.mono (by decide)) takesD (pa_cons (Ta.pv 0) (pa_cons (pcb (crlen) T.f_len (pa_cons (Ta.pv 1) pa_nil)) pa_nil))))
  (pss_cons (pset 3 sc_l_pick.nd (pe_op opadd (Ta.pv 3) (pix (Ta.pv 1) (Ta.pv 5))))
  (pss_one (pset 1 sc_l_pick.nd (pe_op opadd (psl (Ta.pv 1) po_none (posome (Ta.pv 5))) (psl (Ta.pv 1) (posome (pe_op opadd (Ta.pv 5) pe_int)) po_none)))))))
  (pss_one (ps_ret (Ta.pv 3)))))
/-! law -/
abbrev s_law : Stmt := top 28
theorem sc_law : FnScope ["_law_script", "_law_pairs", "_law_k", "_law_box_here", "_law_letters", "_law_alphabets", "_law_pair", "_law_signs", "_law_names", "_law_turn", "_law_name_here"] ["_law_script"] (defScope s_law) := ⟨rfl, rfl, rfl, by decide +kernel, rfl, by decide +kernel, by decide +kernel⟩
structure sp_law (K : PySem.W.Frag) (vs : List V) (H : Hp) (Q : VK) (E : XK) : Prop where
  out : ∃ (p : Addr) (ob : Obj) (ns : List Int), vs = [.ref p] ∧ (H p = some (scr ob ns)) ∧ (ns.length < 1000) ∧ (∀ H', Q (.bl true) H')
theorem i_law {K : PySem.W.Frag} {p : Addr} {ob : Obj} {ns : List Int} {H : Hp} {Q : VK} {E : XK} (hp : H p = some (scr ob ns)) (h1 : ns.length < 1000) (q : ∀ H', Q (.bl true) H') : sp_law K [.ref p] H Q E := by
  exact ⟨⟨p, ob, ns, rfl, hp, h1, q⟩⟩

def b_law_4 (K : PySem.W.Frag) (W : WX) : TS :=
  (tIfP (tTst (tOp (zNeP K) (tCal (sp_l_told_set K) [] W (tCons (tOp (zIxP K) (tV 5) (tV 2)) (tCons (tV 10) tNil))) (tCal (sp_l_set K) [] W (tCons (tV 10) (tCons (tOp (zIxP K) (tOp (zIxP K) (tV 1) (tV 2)) (tC (.int 0))) (tCons (tOp (zIxP K) (tOp (zIxP K) (tV 1) (tV 2)) (tC (.int 1))) tNil)))))) (tRet (tC (.bl false))) tNext)
def b_law_3 (K : PySem.W.Frag) (W : WX) : TS :=
  (tForP (jR1 (tCons (tC (.int 2)) tNil)) (gName 2) (b_law_4 K W))
def b_law_2 (K : PySem.W.Frag) (W : WX) : TS :=
  (tForP (jA K (tV 8)) (gName 10) (b_law_3 K W))
def b_law_1 (K : PySem.W.Frag) (W : WX) : TS :=
  (tSeq (tAsg (tCal (sp_l_box K) [] W (tCons (tV 0) (tCons (tV 2) tNil))) (gName 3))
  (tSeq (tAsg (tCal (sp_l_pick K) [] W (tCons (tV 3) (tCons (tC (.str (S [97, 98, 99, 100, 101, 102, 103, 104, 105, 106, 107, 108, 109, 110, 111, 112, 113, 114, 115, 116, 117, 118, 119, 120, 121, 122]))) (tCons (tOp zAdd (tC (.int 1)) (tCal (sp_l_take K) [] W (tCons (tV 3) (tCons (tC (.int 4)) tNil)))) tNil)))) (gName 4))
  (tDrop (tLM zAppP (tV 1) (tCons (tTup (tCons (tV 4) (tCons (tCal (sp_l_pick K) [] W (tCons (tV 3) (tCons (tV 4) (tCons (tCal (sp_l_take K) [] W (tCons (tV 3) (tCons (tOp zAdd (tCB (zLen K) (tCons (tV 4) tNil)) (tC (.int 1))) tNil))) tNil)))) tNil))) tNil)))))
structure t_law_6 (K : PySem.W.Frag) (W : WX) (D : Ends) (σ : L2.St) (H : Hp) : Prop where
  out : (tRet (tAndE K (tCal (sp_l_strings K) [] W (tCons (tV 0) (tCons (tV 1) (tCons (tV 5) (tCons (tV 7) tNil))))) (tCal (sp_l_lists K) [] W (tCons (tCal (sp_l_box K) [] W (tCons (tV 0) (tCons (tC (.int 10)) tNil))) (tCons (tV 7) tNil))))) D σ H
structure t_law_5 (K : PySem.W.Frag) (W : WX) (D : Ends) (σ : L2.St) (H : Hp) : Prop where
  out : (tSeq (tForP (jR1 (tCons (tC (.int 2)) tNil)) (gName 9) (b_law_2 K W))
  (t_law_6 K W)) D σ H
structure t_law_4 (K : PySem.W.Frag) (W : WX) (D : Ends) (σ : L2.St) (H : Hp) : Prop where
  out : (tSeq (tAsg (tOp zAdd (tLcP (jR1 (tCons (tC (.int 4)) tNil)) (gName 2) tYes (tCal (sp_l_name K) [] WF (tCons (tCal (sp_l_box K) [] WF (tCons (tV 0) (tCons (tOp zAdd (tC (.int 2)) (tV 2)) tNil))) (tCons (tV 7) tNil))) [2]) (tLst (tCons (tC (.str (S []))) tNil))) (gName 8))
  (t_law_5 K W)) D σ H
structure t_law_2 (K : PySem.W.Frag) (W : WX) (D : Ends) (σ : L2.St) (H : Hp) : Prop where
  out : (tSeq (tAsg (tLcP (jA K (tV 1)) (gName 6) tYes (tMak (He.ga K "Alphabet") (sp_Alphabet_init K) [] WF (tCons (tOp (zIxP K) (tV 6) (tC (.int 0))) (tCons (tOp (zIxP K) (tV 6) (tC (.int 1))) tNil))) [6]) (gName 5))
  (tSeq (tAsg (tOp zAdd (tC (.str (S [45]))) (tSM (zJoin K) (tC (.str (S []))) (tCons (tCB (zSort1) (tCons (tOp (zIxP K) (tOp (zIxP K) (tV 1) (tC (.int 0))) (tC (.int 0))) tNil)) tNil))) (gName 7))
  (t_law_4 K W))) D σ H
def t_law (K : PySem.W.Frag) (W : WX) : TS :=
  (tSeq (tAsg (tLst tNil) (gName 1))
  (tSeq (tForP (jR1 (tCons (tC (.int 2)) tNil)) (gName 2) (b_law_1 K W))
  (t_law_2 K W)))
theorem tm_law {P : Program} {w : World} {K : PySem.W.Frag} {mg : Str → Option Value} {base : Heap} {f : Addr} {cdv : Value} {A : Around} {outer : List Env} {s : Shared} {H : Hp} {E : XK} (T : Tx K mg) (G_Alphabet : Mks P w K mg base "Alphabet" (He.ga K "Alphabet") 7 [] (sp_Alphabet_init K)) (G_l_box : Fn P w K mg base "_law_box" 5 [] (sp_l_box K)) (G_l_lists : Fn P w K mg base "_law_lists" 11 [] (sp_l_lists K)) (G_l_name : Fn P w K mg base "_law_name" 11 [] (sp_l_name K)) (G_l_pick : Fn P w K mg base "_law_pick" 7 [] (sp_l_pick K)) (G_l_set : Fn P w K mg base "_law_set" 5 [] (sp_l_set K)) (G_l_strings : Fn P w K mg base "_law_strings" 11 [] (sp_l_strings K)) (G_l_take : Fn P w K mg base "_law_take" 5 [] (sp_l_take K)) (G_l_told_set : Fn P w K mg base "_law_told_set" 11 [] (sp_l_told_set K)) (hr : Room 12 (A.deeper (envOfC "law" (defScope s_law) s.heap.objs.size f cdv))) :
    PSs (cxOf (L2.CX P w) P w K mg base ["_law_script", "_law_pairs", "_law_k", "_law_box_here", "_law_letters", "_law_alphabets", "_law_pair", "_law_signs", "_law_names", "_law_turn", "_law_name_here"] "law" (defScope s_law) f cdv A outer s H E) (defBody s_law) (t_law K (WD E)) :=
  (pss_cons (pset 1 sc_law.nd (pe_lst pa_nil))
  (pss_cons (psfor ownD rfl (pjr1 T.f_range (pa_cons pe_int pa_nil)) (pgn 2 sc_law.nd) (pss_cons (pset 3 sc_law.nd (pcall G_l_box (hr.mono (by decide)) takesD (pa_cons (Ta.pv 0) (pa_cons (Ta.pv 2) pa_nil))))
  (pss_cons (pset 4 sc_law.nd (pcall G_l_pick (hr.mono (by decide)) takesD (pa_cons (Ta.pv 3) (pa_cons (pstr [97, 98, 99, 100, 101, 102, 103, 104, 105, 106, 107, 108, 109, 110, 111, 112, 113, 114, 115, 116, 117, 118, 119, 120, 121, 122]) (pa_cons (pe_op opadd pe_int (pcall G_l_take (hr.mono (by decide)) takesD (pa_cons (Ta.pv 3) (pa_cons pe_int pa_nil)))) pa_nil)))))
  (pss_one (ps_expr (plm PySem.F.slot_list_append PySem.F.type_list_append mtapp (Ta.pv 1) (pa_cons (pe_tup (pa_cons (Ta.pv 4) (pa_cons (pcall G_l_pick (hr.mono (by decide)) takesD (pa_cons (Ta.pv 3) (pa_cons (Ta.pv 4) (pa_cons (pcall G_l_take (hr.mono (by decide)) takesD (pa_cons (Ta.pv 3) (pa_cons (pe_op opadd (pcb (crlen) T.f_len (pa_cons (Ta.pv 4) pa_nil)) pe_int) pa_nil))) pa_nil)))) pa_nil))) pa_nil)))))))
  (pss_imp (pss_cons (pslc (i := 5) [("_law_pair", 6)] rfl sc_law.nd rfl rfl (sw_true rfl rfl rfl (by decide +kernel)) (pja (Ta.pv 1)) (by kernel_rfl) (fun _ _ _ _ _ => (pgn 6 sc_law.nd)) (fun _ _ _ _ _ => pts_nil) (fun _ _ _ _ _ => (pmak G_Alphabet (hr.mono (by decide)) takes0 (pa_cons (pix (Ta.pv 6) pe_int) (pa_cons (pix (Ta.pv 6) pe_int) pa_nil)))))
  (pss_cons (pset 7 sc_law.nd (pe_op opadd (pstr [45]) (psm PySem.F.slot_str_join PySem.F.type_str_join mtjoin (pstr []) (pa_cons (pcb (crsort rfl) T.f_sorted (pa_cons (pix (pix (Ta.pv 1) pe_int) pe_int) pa_nil)) pa_nil))))
  (pss_imp (pss_cons (pset 8 sc_law.nd (pe_op opadd (plc [("_law_k", 2)] rfl sc_law.nd (pjr1 T.f_range (pa_cons pe_int pa_nil)) (by kernel_rfl) (fun _ _ _ _ _ => (pgn 2 sc_law.nd)) (fun _ _ _ _ _ => pts_nil) (fun _ _ _ _ _ => (pcall G_l_name (hr.mono (by decide)) takes0 (pa_cons (pcall G_l_box (hr.mono (by decide)) takes0 (pa_cons (Ta.pv 0) (pa_cons (pe_op opadd pe_int (Ta.pv 2)) pa_nil))) (pa_cons (Ta.pv 7) pa_nil))))) (pe_lst (pa_cons (pstr []) pa_nil))))
  (pss_imp (pss_cons (psfor ownD rfl (pjr1 T.f_range (pa_cons pe_int pa_nil)) (pgn 9 sc_law.nd) (pss_one (psfor ownD rfl (pja (Ta.pv 8)) (pgn 10 sc_law.nd) (pss_one (psfor ownD rfl (pjr1 T.f_range (pa_cons pe_int pa_nil)) (pgn 2 sc_law.nd) (pss_one (psif (ptcmp (opne hr.units) (pcall G_l_told_set (hr.mono (by decide)) takesD (pa_cons (pix (Ta.pv 5) (Ta.pv 2)) (pa_cons (Ta.pv 10) pa_nil))) (pcall G_l_set (hr.mono (by decide)) takesD (pa_cons (Ta.pv 10) (pa_cons (pix (pix (Ta.pv 1) (Ta.pv 2)) pe_int) (pa_cons (pix (pix (Ta.pv 1) (Ta.pv 2)) pe_int) pa_nil))))) (pss_one (ps_ret pe_bl)) pss_nil)))))))
  (pss_imp (pss_one (ps_ret (peand (pcall G_l_strings (hr.mono (by decide)) takesD (pa_cons (Ta.pv 0) (pa_cons (Ta.pv 1) (pa_cons (Ta.pv 5) (pa_cons (Ta.pv 7) pa_nil))))) (pe_one (pcall G_l_lists (hr.mono (by decide)) takesD (pa_cons (pcall G_l_box (hr.mono (by decide)) takesD (pa_cons (Ta.pv 0) (pa_cons pe_int pa_nil))) (pa_cons (Ta.pv 7) pa_nil))))))) fun _ _ _ h => h.out)) fun _ _ _ h => h.out)) fun _ _ _ h => h.out))) fun _ _ _ h => h.out)))
end Lw

set_option Elab.async false
set_option linter.all false
set_option maxRecDepth 100000
set_option maxHeartbeats 4000000
namespace Lw
open PySem PySem.Spec PyProof.Rows L2 Ta
theorem nd_len {l m : List Nat} (hn : l.Nodup) (hs : ∀ c ∈ l, c ∈ m) : l.length ≤ m.length := by
  induction l generalizing m with
  | nil => exact Nat.zero_le _
  | cons a l ih =>
    obtain ⟨h1, h2⟩ := List.nodup_cons.mp hn
    have ha := hs a List.mem_cons_self
    have := ih (m := m.erase a) h2 fun c hc => (List.mem_erase_of_ne (fun e : c = a => h1 (by rw [← e]; exact hc))).mpr (hs c (List.mem_cons_of_mem _ hc))
    rw [List.length_erase_of_mem ha] at this
    have hp : 0 < m.length := List.length_pos_of_mem ha
    rw [List.length_cons]
    omega
theorem badL_inv {l : List Nat} (h : badL l = false) : 1 ≤ l.length ∧ l.length ≤ 4 ∧ l.Nodup ∧ ∀ c ∈ l, c ∈ AZ := by
  unfold badL at h
  simp only [Bool.or_eq_false_iff, Bool.not_eq_false', decide_eq_true_eq, List.any_eq_false] at h
  obtain ⟨⟨h1, h2⟩, h3⟩ := h
  refine ⟨h2.1, h2.2, (dif_nd l).mp h3, fun c hc => ?_⟩
  have z := h1 c hc
  exact Decidable.byContradiction fun hn => z (by rw [decide_eq_false hn]; rfl)
theorem badV_inv {l v : List Nat} (h : badV l v = false) : v.Nodup ∧ ∀ c ∈ v, c ∈ l := by
  unfold badV at h
  simp only [Bool.or_eq_false_iff, Bool.not_eq_false', List.any_eq_false] at h
  obtain ⟨h1, h3⟩ := h
  refine ⟨(dif_nd v).mp h3, fun c hc => ?_⟩
  have z := h1 c hc
  simpa using z
theorem good_v {l v : List Nat} (h : good l v) : v.length ≤ 4 := by
  have h1 := badL_inv h.1
  have h2 := badV_inv h.2
  have := nd_len h2.1 h2.2
  omega
theorem pick_sub {m r s : List Nat} (hp : (m ++ r).Perm s) (hn : s.Nodup) : m.Nodup ∧ ∀ c ∈ m, c ∈ s := by
  have h := hp.nodup_iff.mpr hn
  exact ⟨(List.nodup_append.mp h).1, fun c hc => hp.mem_iff.mp (List.mem_append_left _ hc)⟩
theorem pick_all {m r s : List Nat} (hp : (m ++ r).Perm s) (hl : m.length = s.length) : m.Perm s := by
  have e := hp.length_eq
  rw [List.length_append] at e
  have : r = [] := List.length_eq_zero_iff.mp (by omega)
  rw [this, List.append_nil] at hp
  exact hp
theorem good_perm {l v m u : List Nat} (h : good l v) (hm : m.Perm l) (hu : u.Perm v) : good m u := by
  obtain ⟨a1, a2, a3, a4⟩ := badL_inv h.1
  obtain ⟨b1, b2⟩ := badV_inv h.2
  have e := hm.length_eq
  exact ⟨badL_ok (by omega) (by omega) (hm.nodup_iff.mpr a3) fun c hc => a4 c (hm.mem_iff.mp hc), badV_ok (hu.nodup_iff.mpr b1) fun c hc => hm.mem_iff.mpr (b2 c (hu.mem_iff.mp hc))⟩
theorem good_sub {l u r : List Nat} (h : badL l = false) (hu : (u ++ r).Perm l) : good l u := by
  obtain ⟨a1, a2, a3, a4⟩ := badL_inv h
  obtain ⟨b1, b2⟩ := pick_sub hu a3
  exact ⟨h, badV_ok b1 b2⟩
theorem good_new {m r : List Nat} (h1 : 1 ≤ m.length) (h2 : m.length ≤ 4) (hm : (m ++ r).Perm AZ) : badL m = false := by
  obtain ⟨b1, b2⟩ := pick_sub hm (by decide)
  exact badL_ok h1 h2 b1 b2
abbrev oth (l : List Nat) : List Nat := AZ.filter fun c => !decide (c ∈ l)
theorem oth_mem {l : List Nat} {d : Nat} (h : d ∈ oth l) : d ∈ AZ ∧ ¬ d ∈ l := by
  have := List.mem_filter.mp h
  simpa using this
theorem flt_len (f : Nat → Bool) : ∀ s : List Nat, (s.filter f).length + (s.filter fun c => !f c).length = s.length
  | [] => rfl
  | a :: s => by
    have ih := flt_len f s
    rw [List.filter_cons, List.filter_cons]
    cases f a with
    | true => simp only [Bool.not_true, List.length_cons, if_true]; simp; omega
    | false => simp only [Bool.not_false, List.length_cons, if_true]; simp; omega
theorem oth_len {l : List Nat} (h : l.length ≤ 4) : 22 ≤ (oth l).length ∧ (oth l).length ≤ 26 := by
  have h1 : (AZ.filter fun c => decide (c ∈ l)).length ≤ l.length := nd_len (List.Pairwise.filter _ (by decide : AZ.Nodup)) fun c hc => by
    have := (List.mem_filter.mp hc).2
    simpa using this
  have h2 := flt_len (fun c => decide (c ∈ l)) AZ
  have h3 : AZ.length = 26 := rfl
  show 22 ≤ (AZ.filter fun c => !decide (c ∈ l)).length ∧ (AZ.filter fun c => !decide (c ∈ l)).length ≤ 26
  have h4 := List.length_filter_le (fun c => !decide (c ∈ l)) AZ
  omega
theorem good_rp {l v : List Nat} {c d : Nat} (h : good l v) (hc : c ∈ l) (hd : d ∈ oth l) : good (rp c d l) (rp c d v) := by
  obtain ⟨a1, a2, a3, a4⟩ := badL_inv h.1
  obtain ⟨b1, b2⟩ := badV_inv h.2
  obtain ⟨d1, d2⟩ := oth_mem hd
  have inj : ∀ s : List Nat, s.Nodup → (∀ x ∈ s, x ∈ l) → (rp c d s).Nodup := fun s => by
    induction s with
    | nil => exact fun _ _ => .nil
    | cons x s ih =>
      intro hn hs
      obtain ⟨n1, n2⟩ := List.nodup_cons.mp hn
      have hx := hs x List.mem_cons_self
      show ((if x = c then d else x) :: rp c d s).Nodup
      refine List.nodup_cons.mpr ⟨fun hm => ?_, ih n2 fun y hy => hs y (List.mem_cons_of_mem _ hy)⟩
      obtain ⟨y, hy, e⟩ := List.mem_map.mp hm
      have hyl := hs y (List.mem_cons_of_mem _ hy)
      by_cases e1 : x = c
      · rw [if_pos e1] at e
        by_cases e2 : y = c
        · exact n1 (by rw [e1, ← e2]; exact hy)
        · rw [if_neg e2] at e; exact d2 (e ▸ hyl)
      · rw [if_neg e1] at e
        by_cases e2 : y = c
        · rw [if_pos e2] at e; exact d2 (e ▸ hx)
        · rw [if_neg e2] at e; exact n1 (e ▸ hy)
  have len : (rp c d l).length = l.length := List.length_map _
  refine ⟨badL_ok (by omega) (by omega) (inj l a3 fun _ h => h) fun x hx => ?_, badV_ok (inj v b1 b2) fun x hx => ?_⟩
  · obtain ⟨y, hy, e⟩ := List.mem_map.mp hx
    rw [← e]
    split
    · exact d1
    · exact a4 y hy
  · obtain ⟨y, hy, e⟩ := List.mem_map.mp hx
    exact List.mem_map.mpr ⟨y, b2 y hy, e⟩
theorem good_cons {l v : List Nat} {d : Nat} (h : good l v) (hl : l.length < 4) (hd : d ∈ oth l) : good (d :: l) v := by
  obtain ⟨a1, a2, a3, a4⟩ := badL_inv h.1
  obtain ⟨b1, b2⟩ := badV_inv h.2
  obtain ⟨d1, d2⟩ := oth_mem hd
  refine ⟨badL_ok (by simp) (by simp; omega) (List.nodup_cons.mpr ⟨d2, a3⟩) fun x hx => ?_, badV_ok b1 fun x hx => List.mem_cons_of_mem _ (b2 x hx)⟩
  rcases List.mem_cons.mp hx with rfl | hx
  · exact d1
  · exact a4 x hx
theorem good_sg {l : List Nat} (h : badL l = false) : (45 :: srt l).Pairwise (· < ·) := by
  obtain ⟨a1, a2, a3, a4⟩ := badL_inv h
  refine .cons (fun c hc => ?_) (srt_lt a3)
  have := a4 c ((srt_perm l).mem_iff.mp hc)
  simp only [AZ, List.mem_cons, List.not_mem_nil, or_false] at this
  omega
theorem AZ_lt {l : List Nat} (h : ∀ c ∈ l, c ∈ AZ) : ∀ c ∈ 45 :: srt l, c < 128 := by
  intro c hc
  rcases List.mem_cons.mp hc with rfl | hc
  · decide
  · have := h c ((srt_perm l).mem_iff.mp hc)
    simp only [AZ, List.mem_cons, List.not_mem_nil, or_false] at this
    omega
theorem asc_iff {m sg : List Nat} : asc m sg = true ↔ (∀ c ∈ m, c ∈ sg) ∧ m.Pairwise (· < ·) := by
  unfold asc
  rw [Bool.and_eq_true, decide_eq_true_eq, pw_srt, List.all_eq_true]
  simp only [decide_eq_true_eq]
-- two addresses
local macro_rules | `(tactic| and_intros) => `(tactic| first
  | assumption
  | (apply Ne.symm; assumption)
  | (apply ne_x; (focus assumption); (focus (apply Exists.intro; contradiction)))
  | (apply ne_y; (focus assumption); (focus (apply Exists.intro; contradiction))))
-- heap facts
local macro_rules | `(tactic| contradiction) => `(tactic| first
  | assumption
  | with_reducible exact upd_at
  | (apply upd_fr; (focus assumption); contradiction)
  | (apply upd_off; (focus and_intros); contradiction)
  | (apply Kp.get0; (focus assumption); contradiction)
  | (apply Kp.get1; (focus assumption); (focus contradiction); (focus and_intros))
  | (apply Kp.get2; (focus assumption); (focus contradiction); (focus and_intros); (focus and_intros)))
-- what is kept
local macro_rules | `(tactic| nofun) => `(tactic| first
  | exact Kp.rfl'
  | assumption
  | (apply Kp.nil; assumption)
  | (apply Kp.at; (focus nofun); (focus first | exact List.mem_cons_self | exact List.mem_cons_of_mem _ List.mem_cons_self))
  | (apply Kp.new; (focus nofun); (focus assumption))
  | (apply Kp.own; (focus nofun); (focus assumption))
  | (apply Kp.trans; rotate_left 1; (focus (first | assumption | (apply Kp.nil; assumption))); (focus nofun)))
-- side facts
local macro_rules | `(tactic| bv_omega) => `(tactic| first
  | with_reducible assumption
  | omega
  | (with_reducible refine lim_of ?_; omega)
  | (simp only [tl, S, List.toList_toArray, srt_len, sgn_len, List.length_append, List.length_cons, List.length_nil, List.length_take, List.length_drop, List.length_map, cut_to, cut_from, cut_both, cut_one, cut_fr1, cut_t1]; omega)
  | (with_reducible refine lim_of ?_; simp only [tl, S, List.toList_toArray, srt_len, sgn_len, List.length_append, List.length_cons, List.length_nil, List.length_take, List.length_drop, List.length_map, cut_to, cut_from, cut_both, cut_one, cut_fr1, cut_t1]; omega)
  | exact rfl
  | exact flat_k _
  | (refine rg_ok ?_ ?_ ?_ ?_ <;> omega)
  | (refine rg_ok ?_ ?_ ?_ ?_ <;> (simp only [tl, S, List.toList_toArray, List.length_cons, List.length_nil]; omega))
  | (refine And.intro ?_ ?_ <;> omega)
  | (refine Or.inr (And.intro ?_ ?_) <;> omega)
  | (refine Or.inl (And.intro ?_ ?_) <;> omega)
  | (dsimp only; omega)
  | (refine And.intro ?_ ?_ <;> (simp only [tl, S, List.toList_toArray, srt_len, sgn_len, List.length_append, List.length_cons, List.length_nil, List.length_take, List.length_drop, List.length_map, cut_to, cut_from, cut_both, cut_one, cut_fr1, cut_t1]; omega))
  | (show _ < 1000; exact Nat.le_of_ble_eq_true (Eq.refl true))
  | (rw [sizeLine_eq]; exact Nat.le_of_ble_eq_true (Eq.refl true))
  | (with_reducible refine lim_of ?_; simp only [tl, S, List.toList_toArray, srt_len, sgn_len, List.length_append, List.length_cons, List.length_nil, List.length_take, List.length_drop, List.length_map, cut_to, cut_from, cut_both, cut_one, cut_fr1, cut_t1]; grind [cut_len])
  | assumption)
-- one step
local macro_rules | `(tactic| ac_rfl) => `(tactic| (conv => whnf) <;> first
  | (apply look_i; (focus contradiction))
  | (refine itm_i (by first | rfl | assumption) ?_)
  | (refine itm_0 ?_)
  | (refine itm_1 ?_)
  | (apply itm_z0; (focus omega))
  | (apply itm_z1; (focus omega))
  | (apply itm_2; (focus omega); (focus omega))
  | (apply itm_3; (focus omega); (focus omega))
  | (refine fld_i (by first | rfl | assumption) ?_)
  | (apply itm_k; (focus bv_omega); (focus bv_omega))
  | (apply itm_s; (focus bv_omega); (focus bv_omega))
  | (refine isa_1 rfl (by first | assumption | rfl) ?_)
  | (apply isa_t; (focus contradiction); (focus rfl); (focus assumption))
  | (refine i_all_different ?_ ?_; (focus bv_omega))
  | (apply i_Alphabet_eqS; (focus contradiction))
  | (apply i_Alphabet_eq; (focus contradiction); (focus contradiction))
  | (apply i_l_take; (focus contradiction); (focus bv_omega); (focus bv_omega))
  | (apply i_l_char; (focus contradiction))
  | (apply i_l_box; (focus contradiction); (focus bv_omega); (focus bv_omega))
  | (apply i_l_pick; (focus contradiction); (focus bv_omega); (focus bv_omega); (focus bv_omega))
  | (apply i_Alphabet_is_text; (focus contradiction))
  | (apply i_Alphabet_listed_signs; (focus contradiction); (focus assumption))
  | (refine pick_1 ?_)
  | (apply itm_m1; (focus bv_omega))
  | (apply i_l_changed; (focus contradiction); (focus bv_omega); (focus assumption))
  | (apply i_l_name; (focus contradiction); (focus bv_omega); (focus assumption))
  | (apply i_l_set; (focus assumption); (focus bv_omega))
  | (apply i_Alphabet_signs_of; (focus contradiction); (focus assumption))
  | (apply i_l_told_set; (focus contradiction); (focus bv_omega))
  | (apply i_l_checked; (focus contradiction); (focus bv_omega))
  | (apply i_l_text; (focus contradiction); (focus assumption); (focus bv_omega); (focus bv_omega); (focus bv_omega); (focus bv_omega); (focus bv_omega))
  | (apply i_l_texts; (focus contradiction); (focus assumption); (focus bv_omega))
  | (apply i_l_before; (focus assumption); (focus assumption); (focus assumption); (focus bv_omega); (focus bv_omega))
  | (apply i_l_each_once; (focus assumption); (focus contradiction); (focus contradiction); (focus assumption); (focus assumption); (focus bv_omega); (focus bv_omega))
  | (apply i_l_kind; (focus bv_omega))
  | (apply i_kind_after; (focus bv_omega))
  | (apply i_shortlex; (focus contradiction); (focus bv_omega); (focus assumption))
  | (apply i_l_strings; (focus contradiction); (focus bv_omega); (focus contradiction); (focus contradiction); (focus contradiction); (focus contradiction); (focus contradiction); (focus contradiction); (focus assumption); (focus assumption))
  | (apply i_l_lists; (focus contradiction); (focus assumption))
  | (apply eq_lst; (focus contradiction); (focus contradiction); (focus assumption))
  | (apply eq_tup; (focus contradiction); (focus contradiction); (focus assumption))
  | (refine joi_i ?_ ?_; (focus bv_omega))
  | (refine And.intro (fun (_ : true = true) => ?_) (fun (z : true = false) => Bool.noConfusion z))
  | (refine And.intro (fun (z : false = true) => Bool.noConfusion z) (fun (_ : false = false) => ?_))
  | (refine And.intro ?_ ?_; (focus bv_omega))
  | (refine And.intro (sd_e ?_) ?_)
  | (refine Exists.intro _ (And.intro (by first | rfl | assumption) ?_))
  | (refine cnd_t (Eq.refl true) ?_)
  | (refine cnd_f (Eq.refl false) ?_)
  | (refine cnd_n ?_)
  | (apply cnd_t; (focus (apply decide_eq_true; omega)))
  | (apply cnd_f; (focus (apply decide_eq_false; omega)))
  | (refine cnd_d (fun _ => ?_) (fun _ => ?_))
  | (refine cnd_i (fun _ => ?_) (fun _ => ?_))
  | (intro _))


theorem rd_l_box {K : PySem.W.Frag} {mg : Str → Option Value} (T : Tx K mg) : ∀ vs H Q E, sp_l_box K vs H Q E → t_l_box K (WD E) (EndD Q) (start ["_law_script", "_law_k", "_law_cell"] vs) H := by
  intro vs H Q E h
  replace h := h.out
  obtain ⟨p, k, ob, ns, rfl, hp, h0, h1, q⟩ := h
  cases T
  have hlen : (ns.map V.int).length = ns.length := List.length_map _
  repeat' ac_rfl
  all_goals (try (conv => whnf))
  · rename_i p' hp'
    exact q _ _ _ hp'
  · rename_i x
    refine sd_i ?_
    show (0 : Int) < ((ns.map V.int).length : Int)
    cases ns with
    | nil => cases x
    | cons n ns => simp only [List.map_cons, List.length_cons]; omega
  · rename_i x
    have hpos : 0 < ns.length := by
      cases ns with
      | nil => cases x
      | cons n ns => exact Nat.succ_pos _
    have hlt := Int.emod_lt_of_pos k (show (0 : Int) < (ns.map V.int).length by omega)
    have hge := Int.emod_nonneg k (show ((ns.map V.int).length : Int) ≠ 0 by omega)
    obtain ⟨j, hj⟩ := Int.eq_ofNat_of_zero_le hge
    have hj2 : j < ns.length := by omega
    refine itm_n (v := .int ns[j]) hj (by rw [List.getElem?_map, List.getElem?_eq_getElem hj2]; rfl) ?_
    repeat' ac_rfl
    all_goals (try (conv => whnf))
    · exact q _ _ _ (by assumption)
    · exact q _ _ _ (by assumption)


theorem rd_l_take {K : PySem.W.Frag} {mg : Str → Option Value} (T : Tx K mg) : ∀ vs H Q E, sp_l_take K vs H Q E → t_l_take K (WD E) (EndD Q) (start ["_law_box_here", "_law_size", "_law_digit", "_law_mixed"] vs) H := by
  intro vs H Q E h
  replace h := h.out
  obtain ⟨p, n, a, b, rfl, hp, h0, h1, q⟩ := h
  repeat' ac_rfl
  all_goals (conv => whnf)
  · exact q _ _ _ (Int.emod_nonneg _ (by omega)) (Int.emod_lt_of_pos _ h0)
  · exact q _ _ _ (Int.emod_nonneg _ (by omega)) (Int.emod_lt_of_pos _ h0)

theorem txt_loop {K : PySem.W.Frag} {mg : Str → Option Value} (T : Tx K mg) {W : WX} {D : Ends} {H H0 : Hp} {p : Addr} {a b : Int} {g : List Nat} {n : Nat} {w2 w3 w4 : Option V} (hg : g ≠ []) (hg2 : g.length < 1000) (hn : n ≤ 60) (hH : H0 = upd H p (pr a b))
    (k : ∀ (t : List Nat) a b, (∀ c ∈ t, c ∈ g) → t.length = n → D.rt (.str (S t)) (upd H p (pr a b))) :
    loop n (itR 0) (fun _ => True) (gName 6) (b_l_text_1 K W) { nx := tRet (tV 5) D, rt := D.rt } [some (.ref p), some (.str (S g)), w2, w3, w4, some (.str (S [])), none] H0 := by
  have hgp : 0 < g.length := List.length_pos_iff.mpr hg
  subst hH
  cases T
  refine loop_r (fun i σ H' => Sd (∃ (t : List Nat) (a b : Int) (v6 : Option V), σ = [some (.ref p), some (.str (S g)), w2, w3, w4, some (.str (S t)), v6] ∧ H' = upd H p (pr a b) ∧ t.length = i ∧ ∀ c ∈ t, c ∈ g)) ?_ ?_ ?_
  · exact sd_i ⟨[], a, b, none, rfl, rfl, rfl, fun c hc => (nomatch hc)⟩
  · rintro i σ H' hi hP
    obtain ⟨t, a, b, v6, rfl, rfl, hl, ht⟩ := sd_e hP
    have hl9 : t.length < 100 := by omega
    repeat' ac_rfl
    all_goals (try (conv => whnf))
    rename_i r a' b' z1 z2 j hj e
    refine sd_i ⟨t ++ [g[j]], a', b', _, rfl, upd_tw, by rw [List.length_append, hl]; rfl, fun c hc => ?_⟩
    rcases List.mem_append.mp hc with hc | hc
    · exact ht c hc
    · rw [List.mem_singleton.mp hc]; exact List.getElem_mem hj
  · rintro σ H' hP
    obtain ⟨t, a, b, v6, rfl, rfl, hl, ht⟩ := sd_e hP
    conv => whnf
    exact k t a b ht hl

theorem rd_l_text {K : PySem.W.Frag} {mg : Str → Option Value} (T : Tx K mg) : ∀ vs H Q E, sp_l_text K vs H Q E → t_l_text K (WD E) (EndD Q) (start ["_law_box_here", "_law_signs", "_law_few", "_law_many", "_law_size", "_law_text_here", "_law_turn"] vs) H := by
  intro vs H Q E h
  replace h := h.out
  obtain ⟨p, a, b, f, m, g, rfl, hp, hg, hg2, f0, f1, m0, m1, q⟩ := h
  have T0 := T
  cases T
  repeat' ac_rfl
  all_goals (try (conv => whnf))
  · rename_i r1 a1 b1 z1 z2 r a2 b2 z3 z4 x
    refine txt_loop T0 (p := p) (g := g) (H := H) (a := a2) (b := b2) (n := m.toNat) hg hg2 (by omega) upd_tw (fun t a' b' ht hl => ?_)
    exact q t a' b' ht (.inr (by omega))
  · rename_i r1 a1 b1 z1 z2 r a2 b2 z3 z4 x
    refine txt_loop T0 (p := p) (g := g) (H := H) (a := a2) (b := b2) (n := r1.toNat) hg hg2 (by omega) upd_tw (fun t a' b' ht hl => ?_)
    exact q t a' b' ht (.inl (by omega))


theorem rd_l_char {K : PySem.W.Frag} {mg : Str → Option Value} (T : Tx K mg) : ∀ vs H Q E, sp_l_char K vs H Q E → t_l_char K (WD E) (EndD Q) (start ["_law_box_here", "_law_chars"] vs) H := by
  intro vs H Q E h
  replace h := h.out
  obtain ⟨p, a, b, rfl, hp, q⟩ := h
  cases T
  repeat' ac_rfl
  all_goals (try (conv => whnf))
  rename_i r a' b' h0 h1 j hj e
  refine q _ _ _ ?_
  have : ∀ c ∈ ([32, 33, 34, 35, 36, 38, 39, 40, 41, 42, 43, 44, 45, 46, 47, 48, 49, 50, 51, 52, 53, 54, 55, 56, 57, 58, 59, 60, 61, 62, 63, 64, 65, 66, 67, 68, 69, 70, 71, 72, 73, 74, 75, 76, 77, 78, 79, 80, 81, 82, 83, 84, 85, 86, 87, 88, 89, 90, 91, 92, 93, 94, 95, 96, 97, 98, 99, 100, 101, 102, 103, 104, 105, 106, 107, 108, 109, 110, 111, 112, 113, 114, 115, 116, 117, 118, 119, 120, 121, 122, 123, 124, 125, 126, 10, 9] : List Nat), c < 128 := by decide
  exact this _ (List.getElem_mem hj)


theorem rd_Alphabet_is_text {K : PySem.W.Frag} {mg : Str → Option Value} (T : Tx K mg) : ∀ vs H Q E, sp_Alphabet_is_text K vs H Q E → t_Alphabet_is_text K (WD E) (EndD Q) (start ["self", "text", "sign"] vs) H := by
  intro vs H Q E h
  replace h := h.out
  obtain ⟨A, dA, l, v, t, rfl, hA, q⟩ := h
  cases T
  repeat' ac_rfl
  all_goals (try (conv => whnf))
  refine loop_s (fun i σ H' => Sd (∃ v2 : Option V, σ = [some (.ref A), some (.str (S t)), v2] ∧ H' = H ∧ ∀ c ∈ t.take i, c ∈ 45 :: srt l)) ?_ ?_ ?_
  · exact sd_i ⟨none, rfl, rfl, fun _ z => (nomatch z)⟩
  · rintro i hi σ H' hP
    obtain ⟨v2, rfl, rfl, al⟩ := sd_e hP
    repeat' ac_rfl
    all_goals (try (conv => whnf))
    · rename_i x
      exact sd_i ⟨_, rfl, rfl, al_take hi x al⟩
    · rename_i x
      refine q_bl ?_ q
      symm
      rw [List.all_eq_false]
      exact ⟨_, List.getElem_mem hi, by rw [decide_eq_false x]; decide⟩
  · rintro σ H' hP
    obtain ⟨v2, rfl, rfl, al⟩ := sd_e hP
    have e : t.take (tl (S t)).length = t := List.take_length
    rw [e] at al
    repeat' ac_rfl
    all_goals (try (conv => whnf))
    refine q_bl ?_ q
    symm
    rw [List.all_eq_true]
    exact fun c hc => decide_eq_true (al c hc)


theorem rd_Alphabet_check {K : PySem.W.Frag} {mg : Str → Option Value} (T : Tx K mg) : ∀ vs H Q E, sp_Alphabet_check K vs H Q E → t_Alphabet_check K (WD E) (EndD Q) (start ["self", "text"] vs) H := by
  intro vs H Q E h
  replace h := h.out
  obtain ⟨A, dA, l, v, t, rfl, hA, q1, q2⟩ := h
  cases T
  repeat' ac_rfl
  all_goals (try (conv => whnf))
  · rename_i x
    exact q1 fun c hc => of_decide_eq_true (List.all_eq_true.mp x c hc)
  · rename_i x d hd
    exact q2 x d hd


theorem rd_l_checked {K : PySem.W.Frag} {mg : Str → Option Value} (T : Tx K mg) : ∀ vs H Q E, sp_l_checked K vs H Q E → t_l_checked K (WD E) (EndD Q) (start ["_law_alphabet", "_law_text_here", "_law_told", "e"] vs) H := by
  intro vs H Q E h
  replace h := h.out
  obtain ⟨A, dA, l, v, t, rfl, hA, hl, q⟩ := h
  cases T
  repeat' ac_rfl
  all_goals (try (conv => whnf))
  refine i_Alphabet_checkB hA (fun h => ?_) (fun h d hd => ?_)
  · have e : (t.all fun c => decide (c ∈ 45 :: srt l)) = true := List.all_eq_true.mpr fun c hc => decide_eq_true (h c hc)
    rw [e] at q
    repeat' ac_rfl
    all_goals (try (conv => whnf))
    exact q _ _ (by nofun) (upd_at.trans rfl)
  · rw [h] at q
    repeat' ac_rfl
    all_goals (try (conv => whnf))
    exact q _ _ (by nofun) (upd_at.trans rfl)


theorem rd_kind_after {K : PySem.W.Frag} {mg : Str → Option Value} (T : Tx K mg) : ∀ vs H Q E, sp_kind_after K vs H Q E → t_kind_after K (WD E) (EndD Q) (start ["text"] vs) H := by
  intro vs H Q E h
  replace h := h.out
  obtain ⟨t, rfl, h1, q⟩ := h
  cases T
  cases t with
  | nil =>
    repeat' ac_rfl
    all_goals (try (conv => whnf))
    all_goals first | exact q | (rename_i z; exact absurd rfl z)
  | cons a t =>
    have e0 : knd (a :: t) = if (a :: t)[(a :: t).length - 1]? = some 45 then [106, 111, 105, 110, 116] else [108, 101, 116, 116, 101, 114] := if_neg (by intro z; cases z)
    repeat' ac_rfl
    all_goals (try (conv => whnf))
    all_goals first
      | (rename_i z; cases z)
      | (rename_i j hj e z
         have hj : j < (a :: t).length := hj
         have e : j = (a :: t).length - 1 := e
         subst e
         have z : (a :: t)[(a :: t).length - 1] = 45 := by injection z
         rw [e0, if_pos (by rw [List.getElem?_eq_getElem hj, z])] at q
         exact q)
      | (rename_i j hj e z
         have hj : j < (a :: t).length := hj
         have e : j = (a :: t).length - 1 := e
         subst e
         rw [e0, if_neg (fun y => z (by
           have y := (List.getElem?_eq_getElem hj).symm.trans y
           exact congrArg (fun c => [c]) (Option.some.inj y)))] at q
         exact q)
      | trace_state


theorem rd_l_kind {K : PySem.W.Frag} {mg : Str → Option Value} (T : Tx K mg) : ∀ vs H Q E, sp_l_kind K vs H Q E → t_l_kind K (WD E) (EndD Q) (start ["_law_text_here"] vs) H := by
  intro vs H Q E h
  replace h := h.out
  obtain ⟨t, rfl, h1, q⟩ := h
  cases T
  cases t with
  | nil =>
    repeat' ac_rfl
    all_goals (try (conv => whnf))
    all_goals first | exact q | (rename_i z; exact absurd rfl z)
  | cons a t =>
    have e0 : knd (a :: t) = if (a :: t)[(a :: t).length - 1]? = some 45 then [106, 111, 105, 110, 116] else [108, 101, 116, 116, 101, 114] := if_neg (by intro z; cases z)
    repeat' ac_rfl
    all_goals (try (conv => whnf))
    all_goals first
      | (rename_i z; cases z)
      | (rename_i j hj e z
         have hj : j < (a :: t).length := hj
         have e : j = (a :: t).length - 1 := e
         subst e
         have z : (a :: t)[(a :: t).length - 1] = 45 := by injection z
         rw [e0, if_pos (by rw [List.getElem?_eq_getElem hj, z])] at q
         exact q)
      | (rename_i j hj e z
         have hj : j < (a :: t).length := hj
         have e : j = (a :: t).length - 1 := e
         subst e
         rw [e0, if_neg (fun y => z (by
           have y := (List.getElem?_eq_getElem hj).symm.trans y
           exact congrArg (fun c => [c]) (Option.some.inj y)))] at q
         exact q)
      | trace_state

theorem all_sg {l t : List Nat} : (t.all fun c => decide (c = 45) || decide (c ∈ l)) = t.all fun c => decide (c ∈ 45 :: srt l) := by
  refine List.all_congr rfl fun c => ?_
  rw [← Bool.decide_or]
  refine decide_eq_decide.mpr ?_
  rw [List.mem_cons, (srt_perm l).mem_iff]
theorem str_body {K : PySem.W.Frag} {mg : Str → Option Value} (T : Tx K mg) {W : WX} {D : Ends} {H : Hp} {P B t0 t1 A0 A1 tk Ak dk : Addr} {l v t : List Nat} {i : Int} {w0 w3 w4 w5 w7 w9 w11 w12 : Option V}
    (hP : H P = some (.lst [.ref t0, .ref t1])) (hB : H B = some (.lst [.ref A0, .ref A1])) (hPi : atI [V.ref t0, V.ref t1] i = some (.ref tk)) (hBi : atI [V.ref A0, V.ref A1] i = some (.ref Ak))
    (htk : H tk = some (.tup [.str (S l), .str (S v)])) (hAk : H Ak = some (alo K dk l v)) (hl4 : l.length ≤ 4) (ht : t.length < 1000) (hta : ∀ c ∈ t, c < 128)
    (k : ∀ H' w9 w11 w12, Kp [] H H' → D.nx [w0, some (.ref P), some (.ref B), w3, w4, w5, some (.str (S t)), w7, some (.int i), w9, none, w11, w12] H') :
    b_l_strings_2 K W D [w0, some (.ref P), some (.ref B), w3, w4, w5, some (.str (S t)), w7, some (.int i), w9, none, w11, w12] H := by
  cases T
  repeat' ac_rfl
  all_goals (try (conv => whnf))
  refine lcp_T (fun c => .bl (decide (c = 45) || decide (c ∈ l))) (by show t.length < 1000000; omega) ?_ (fun _ => rfl) ?_
  · rintro c D' H2 Q' hD hc ⟨ys, rfl⟩ q'
    have hP' := upd_fr (o' := .lst ys) hD hP
    have htk' := upd_fr (o' := .lst ys) hD htk
    by_cases hc45 : c = 45
    · subst hc45
      repeat' ac_rfl
      all_goals (try (conv => whnf))
      exact q'
    · rw [decide_eq_false hc45, Bool.false_or] at q'
      repeat' ac_rfl
      all_goals (try (conv => whnf))
      all_goals first
        | exact q'
        | (rename_i z; exact absurd (by injection z) hc45)
  · intro D' hD
    have eb : (t.map fun c => decide (c = 45) || decide (c ∈ l)).all id = t.all fun c => decide (c ∈ 45 :: srt l) := by
      rw [List.all_map, ← all_sg]; rfl
    have hB' := upd_fr (o' := .lst (t.map fun c => V.bl (decide (c = 45) || decide (c ∈ l)))) hD hB
    have hAk' := upd_fr (o' := .lst (t.map fun c => V.bl (decide (c = 45) || decide (c ∈ l)))) hD hAk
    repeat' ac_rfl
    all_goals (try (conv => whnf))
    refine bls_f ?_
    rw [eb]
    have kk : Kp [] H (upd H D' (.lst (t.map fun c => V.bl (decide (c = 45) || decide (c ∈ l))))) := Kp.rfl'.new hD
    generalize upd H D' (.lst (t.map fun c => V.bl (decide (c = 45) || decide (c ∈ l)))) = H2 at hB' hAk' kk
    clear hB hP hAk htk hD
    have ft : flts [.bl false, .str (S t)] = some [.bool false, .str (S t)] := by
      show ((flt (.bl false)).bind fun d => (flts [.str (S t)]).map (d :: ·)) = _
      have : flts [.str (S t)] = some [.str (S t)] := flts_s (ks := [t]) fun k hk => by rw [List.mem_singleton.mp hk]; exact hta
      rw [this]; rfl
    have ft2 : flts [.bl true, .str (S [])] = some [.bool true, .str (S [])] := by
      show ((flt (.bl true)).bind fun d => (flts [.str (S [])]).map (d :: ·)) = _
      have : flts [.str (S [])] = some [.str (S [])] := flts_s (ks := [[]]) fun k hk => by rw [List.mem_singleton.mp hk]; exact fun c hc => by cases hc
      rw [this]; rfl
    cases hb : (t.all fun c => decide (c ∈ 45 :: srt l)) with
    | true =>
      repeat' ac_rfl
      all_goals (try (conv => whnf))
      rename_i p1 hp1 p2 hp2 r H3 k3 h3
      rw [hb] at h3
      have h3 : H3 r = some (.tup [.bl true, .str (S [])]) := h3
      refine eq_tup h3 (k3.get0 upd_at) ft2 ?_
      repeat' ac_rfl
      all_goals (try (conv => whnf))
      all_goals first
        | exact k _ _ _ _ (((kk.new hp1).new hp2).trans k3)
        | (rename_i z; exact absurd rfl z)
        | trace_state
    | false =>
      repeat' ac_rfl
      all_goals (try (conv => whnf))
      rename_i p1 hp1 r H3 k3 h3
      rw [hb] at h3
      have h3 : H3 r = some (.tup [.bl false, .str (S t)]) := h3
      refine eq_tup h3 (k3.get0 upd_at) ft ?_
      repeat' ac_rfl
      all_goals (try (conv => whnf))
      all_goals first
        | exact k _ _ _ _ ((kk.new hp1).trans k3)
        | (rename_i z; exact absurd rfl z)
        | trace_state

theorem rd_l_strings {K : PySem.W.Frag} {mg : Str → Option Value} (T : Tx K mg) : ∀ vs H Q E, sp_l_strings K vs H Q E → t_l_strings K (WD E) (EndD Q) (start ["_law_script", "_law_pairs", "_law_alphabets", "_law_signs", "_law_turn", "_law_box_here", "_law_text_here", "_law_at", "_law_k", "_law_right", "_law_sign", "_law_told", "_law_due"] vs) H := by
  intro vs H Q E h
  replace h := h.out
  obtain ⟨p, P, B, ob, ns, t0, t1, A0, A1, d0, d1, l0, v0, l1, v1, rfl, hp, hn, hP, hB, h0, h1, hA0, hA1, g0, g1, q⟩ := h
  have T0 := T
  cases T
  repeat' ac_rfl
  all_goals (try (conv => whnf))
  have hsn : (45 :: srt l0) ≠ [] := by simp
  have hsl : (srt l0).length = l0.length := srt_len l0
  have hl4 : l0.length ≤ 4 := (badL_inv g0.1).2.1
  have hl41 : l1.length ≤ 4 := (badL_inv g1.1).2.1
  have hsg := AZ_lt (badL_inv g0.1).2.2.2
  refine loop_r (n := 4) (fun i σ H' => Sd (∃ (v4 v5 v6 v7 v8 v9 v11 v12 : Option V), σ = [some (.ref p), some (.ref P), some (.ref B), some (.str (S (45 :: srt l0))), v4, v5, v6, v7, v8, v9, none, v11, v12] ∧ Kp [] H H')) ?_ ?_ ?_
  · exact sd_i ⟨_, _, _, _, _, _, _, _, rfl, Kp.rfl'⟩
  · rintro i σ H' hi hI
    obtain ⟨v4, v5, v6, v7, v8, v9, v11, v12, rfl, k0⟩ := sd_e hI
    have hp' := k0.get0 hp
    have hP' := k0.get0 hP
    have hB' := k0.get0 hB
    have h0' := k0.get0 h0
    have h1' := k0.get0 h1
    have hA0' := k0.get0 hA0
    have hA1' := k0.get0 hA1
    repeat' ac_rfl
    all_goals (try (conv => whnf))
    · rename_i q0 a0 b0 hq0 t a1 b1 ht htl r1 a2 b2 z1 z2 z3 r a3 b3 y0 y1 c a4 b4 hc r2 a5 b5 x0 x1
      have hq0H : H q0 = none := Kp.none k0 hq0
      have y1 : r < (t.length : Int) + 1 := y1
      have hx := chg1 (s := t) (r := r) (k := r + r2) (fun c hc => hsg c (ht c hc)) y0 (by omega) (by omega) (by omega) hc
      refine loop_r2 ?_
      refine str_body T0 (by contradiction) (by contradiction) rfl rfl (by contradiction) (by contradiction) hl4 (Nat.lt_of_le_of_lt hx.1 (by omega)) hx.2 fun H2 w9 w11 w12 k2 => ?_
      refine str_body T0 (k2.get0 (by contradiction)) (k2.get0 (by contradiction)) rfl rfl (k2.get0 (by contradiction)) (k2.get0 (by contradiction)) hl41 (Nat.lt_of_le_of_lt hx.1 (by omega)) hx.2 fun H3 w9' w11' w12' k3 => ?_
      refine sd_i ⟨_, _, _, _, _, _, _, _, rfl, Kp.trans (Kp.trans ?_ k2) k3⟩
      nofun
    · rename_i q0 a0 b0 hq0 t a1 b1 ht htl r1 a2 b2 z1 z2 z3
      have hq0H : H q0 = none := Kp.none k0 hq0
      refine loop_r2 ?_
      refine str_body T0 (by contradiction) (by contradiction) rfl rfl (by contradiction) (by contradiction) hl4 (by omega) (fun c hc => hsg c (ht c hc)) fun H2 w9 w11 w12 k2 => ?_
      refine str_body T0 (k2.get0 (by contradiction)) (k2.get0 (by contradiction)) rfl rfl (k2.get0 (by contradiction)) (k2.get0 (by contradiction)) hl41 (by omega) (fun c hc => hsg c (ht c hc)) fun H3 w9' w11' w12' k3 => ?_
      refine sd_i ⟨_, _, _, _, _, _, _, _, rfl, Kp.trans (Kp.trans ?_ k2) k3⟩
      nofun
  · rintro σ H' hP
    obtain ⟨v4, v5, v6, v7, v8, v9, v11, v12, rfl, k0⟩ := sd_e hP
    conv => whnf
    exact q H' k0


theorem rd_l_texts {K : PySem.W.Frag} {mg : Str → Option Value} (T : Tx K mg) : ∀ vs H Q E, sp_l_texts K vs H Q E → t_l_texts K (WD E) (EndD Q) (start ["_law_box_here", "_law_signs", "_law_texts_here", "_law_turn"] vs) H := by
  intro vs H Q E h
  replace h := h.out
  obtain ⟨p, a, b, g, rfl, hp, hg, hg2, q⟩ := h
  cases T
  repeat' ac_rfl
  all_goals (try (conv => whnf))
  rename_i L hL r1 a1 b1 z1 z2
  have hLp : L ≠ p := fun e => by rw [e, hp] at hL; cases hL
  refine loop_r (fun i σ H' => Sd (∃ (us : List (List Nat)) (a b : Int) (v3 : Option V), σ = [some (.ref p), some (.str (S g)), some (.ref L), v3] ∧ Kp [p] H H' ∧ H' p = some (pr a b) ∧ H' L = some (ksl us) ∧ us.length ≤ i ∧ ∀ u ∈ us, u.length ≤ 24 ∧ ∀ c ∈ u, c ∈ g)) ?_ ?_ ?_
  · exact sd_i ⟨[], a1, b1, none, rfl, by nofun, upd_at, upd_off hLp upd_at, Nat.le_refl _, fun u hu => by cases hu⟩
  · rintro i σ H' hi hP
    obtain ⟨us, a, b, v3, rfl, k0, hp', hL', hul, hug⟩ := sd_e hP
    have hi : i < r1.toNat := hi
    have hul9 : us.length < 100 := by omega
    have app : ∀ {us : List (List Nat)} {t : List Nat}, (∀ u ∈ us, u.length ≤ 24 ∧ ∀ c ∈ u, c ∈ g) → t.length ≤ 24 → (∀ c ∈ t, c ∈ g) → ∀ u ∈ us ++ [t], u.length ≤ 24 ∧ ∀ c ∈ u, c ∈ g := by
      intro us t h1 h2 h3 u hu
      rcases List.mem_append.mp hu with hu | hu
      · exact h1 u hu
      · rw [List.mem_singleton.mp hu]; exact ⟨h2, h3⟩
    have e2 : ∀ t : List Nat, (List.map (fun k => V.str (S k)) us) ++ [V.str (S t)] = (us ++ [t]).map fun k => V.str (S k) := fun t => by rw [List.map_append]; rfl
    have hlm : (List.map (fun k => V.str (S k)) us).length = us.length := List.length_map _
    have ne : (List.map (fun k => V.str (S k)) us).isEmpty = false → 0 < us.length := fun h => by
      cases us with
      | nil => cases h
      | cons a l => exact Nat.succ_pos _
    repeat' ac_rfl
    all_goals (try (conv => whnf))
    · rename_i x t a2 b2 ht htl
      refine sd_i ⟨us ++ [t], a2, b2, _, rfl, by nofun, upd_off hLp.symm upd_at, upd_at.trans (by rw [e2]), ?_, app hug (by omega) ht⟩
      rw [List.length_append]; simp only [List.length_cons, List.length_nil]; omega
    · rename_i x r a2 b2 z1 z2 z3
      have hne := ne x
      refine i_l_take upd_at (by rw [hlm]; omega) (by rw [hlm]; omega) fun r' a3 b3 y0 y1 => ?_
      rw [hlm] at y1
      repeat' ac_rfl
      all_goals (try (conv => whnf))
      rename_i j hj e
      have hu := hug _ (List.getElem_mem hj)
      refine sd_i ⟨us ++ [us[j]], a3, b3, _, rfl, by nofun, upd_off hLp.symm upd_at, upd_at.trans (by rw [e2]), ?_, app hug hu.1 hu.2⟩
      rw [List.length_append]; simp only [List.length_cons, List.length_nil]; omega
    · rename_i x r a1' b1' z1 z2 z3 t a2 b2 ht htl
      refine sd_i ⟨us ++ [t], a2, b2, _, rfl, by nofun, upd_off hLp.symm upd_at, upd_at.trans (by rw [e2]), ?_, app hug (by omega) ht⟩
      rw [List.length_append]; simp only [List.length_cons, List.length_nil]; omega
  · rintro σ H' hP
    obtain ⟨us, a, b, v3, rfl, k0, hp', hL', hul, hug⟩ := sd_e hP
    conv => whnf
    exact q L us a b H' k0 hp' hL hL' (by omega) hug


theorem rd_shortlex {K : PySem.W.Frag} {mg : Str → Option Value} (T : Tx K mg) : ∀ vs H Q E, sp_shortlex K vs H Q E → t_shortlex K (WD E) (EndD Q) (start ["texts"] vs) H := by
  intro vs H Q E h
  replace h := h.out
  obtain ⟨r, us, rfl, hr, h1, h2, q⟩ := h
  have hl : (us.map S).length = us.length := List.length_map _
  cases T
  repeat' ac_rfl
  all_goals (try (conv => whnf))
  refine txs_l ⟨by omega, fun ys p g1 g2 g3 g4 => ?_⟩
  have hx := slx_of g1 g2 g3
  have hyl : ys.length ≤ us.length := by have := pf_len g2 fun y hy => (g3 y).mp hy; rwa [hl] at this
  repeat' ac_rfl
  all_goals (try (conv => whnf))
  refine txs_i ⟨by omega, fun y hy => ?_, fun z hz => ?_⟩
  · obtain ⟨u, hu, e⟩ := List.mem_map.mp ((g3 y).mp hy)
    have := h2 u hu
    rw [← e, len_tl]; show u.length < 1000000; omega
  · repeat' ac_rfl
    all_goals (try (conv => whnf))
    refine q z _ _ ((Kp.rfl'.new g4).new hz) (Kp.none (Kp.rfl'.new g4) hz) (upd_at.trans (by rw [ksl_slen])) hx ?_
    have := hx.nd; omega


theorem rd_l_before {K : PySem.W.Frag} {mg : Str → Option Value} (T : Tx K mg) : ∀ vs H Q E, sp_l_before K vs H Q E → t_l_before K (WD E) (EndD Q) (start ["_law_signs", "_law_one", "_law_other", "_law_k"] vs) H := by
  intro vs H Q E h
  replace h := h.out
  obtain ⟨l, a, b, rfl, hl, ha, hb, h1, h2, q⟩ := h
  have hsg := good_sg hl
  cases T
  repeat' ac_rfl
  all_goals (try (conv => whnf))
  · rename_i x
    have x : (a.length : Int) = b.length := x
    have x : a.length = b.length := by omega
    have eb : bfr a b = decide (a < b) := by unfold bfr; rw [decide_eq_false (by omega), decide_eq_true x]; rfl
    rw [eb] at q
    refine loop_r (fun i σ H' => Sd (∃ v3 : Option V, σ = [some (.str (S (45 :: srt l))), some (.str (S a)), some (.str (S b)), v3] ∧ H' = H ∧ a.take i = b.take i)) ?_ ?_ ?_
    · exact sd_i ⟨none, rfl, rfl, rfl⟩
    · rintro i σ H' hi hP
      obtain ⟨v3, rfl, rfl, et⟩ := sd_e hP
      have hi : i < a.length := hi
      have hib : i < b.length := by omega
      repeat' ac_rfl
      all_goals (try (conv => whnf))
      · rename_i j1 hj1 e1 j2 hj2 e2 z
        have f1 : j1 = i := by omega
        have f2 : j2 = i := by omega
        subst f1
        subst f2
        have z : a[j2] = b[j2] := by injection z
        refine sd_i ⟨_, rfl, rfl, ?_⟩
        rw [List.take_succ_eq_append_getElem hi, List.take_succ_eq_append_getElem hib, et, z]
      · rename_i j1 hj1 e1 j2 hj2 e2 z j3 hj3 e3 j4 hj4 e4
        have f1 : j1 = i := by omega
        have f2 : j2 = i := by omega
        have f3 : j3 = i := by omega
        have f4 : j4 = i := by omega
        subst f1
        subst f2
        subst f3
        subst f4
        have z : a[j4] ≠ b[j4] := fun h => z (congrArg (fun c => [c]) h)
        refine q_bl ?_ q
        show decide (fnd a[j4] (45 :: srt l) < fnd b[j4] (45 :: srt l)) = decide (a < b)
        refine decide_eq_decide.mpr ((fnd_lt hsg (ha _ (List.getElem_mem hi)) (hb _ (List.getElem_mem hib))).trans ?_)
        have ea := cut_at hi
        have eb := cut_at hib
        rw [← et] at eb
        have h := lt_app z (s := a.drop (j4 + 1)) (t := b.drop (j4 + 1)) (a.take j4)
        have h2 : a < b ↔ a.take j4 ++ a[j4] :: a.drop (j4 + 1) < a.take j4 ++ b[j4] :: b.drop (j4 + 1) := by rw [← ea, ← eb]
        exact h.symm.trans h2.symm
    · rintro σ H' hP
      obtain ⟨v3, rfl, rfl, et⟩ := sd_e hP
      have et : a.take a.length = b.take a.length := et
      rw [List.take_length, x, List.take_length] at et
      conv => whnf
      refine q_bl ?_ q
      rw [et]
      exact (decide_eq_false (List.lt_irrefl b)).symm
  · rename_i x
    have x : ¬ (a.length : Int) = b.length := x
    refine q_bl ?_ q
    show decide ((a.length : Int) < b.length) = _
    unfold bfr
    rw [decide_eq_false (show ¬ a.length = b.length by omega), Bool.false_and, Bool.or_false]
    exact decide_eq_decide.mpr (by omega)


theorem rd_l_each_once {K : PySem.W.Frag} {mg : Str → Option Value} (T : Tx K mg) : ∀ vs H Q E, sp_l_each_once K vs H Q E → t_l_each_once K (WD E) (EndD Q) (start ["_law_signs", "_law_texts_here", "_law_told", "_law_k", "_law_text_here"] vs) H := by
  intro vs H Q E h
  replace h := h.out
  obtain ⟨r, z, l, us, zs, rfl, hl, hr, hz, hs, hu, h1, h2, q⟩ := h
  cases T
  repeat' ac_rfl
  all_goals (try (conv => whnf))
  have hlz : (zs.map fun k => V.str (S k)).length = zs.length := List.length_map _
  have hz2 : ∀ u ∈ zs, u.length ≤ 24 ∧ ∀ c ∈ u, c ∈ 45 :: srt l := fun u h => hu u (hs.sub u h)
  refine loop_r (fun i σ H' => Sd (∃ v3 : Option V, σ = [some (.str (S (45 :: srt l))), some (.ref r), some (.ref z), v3, none] ∧ H' = H)) ?_ ?_ ?_
  · exact sd_i ⟨none, rfl, rfl⟩
  · rintro i σ H' hi hP
    obtain ⟨v3, rfl, rfl⟩ := sd_e hP
    have hi : i < (zs.map fun k => V.str (S k)).length := hi
    rw [hlz] at hi
    repeat' ac_rfl
    all_goals (try (conv => whnf))
    · rename_i j1 hj1 e1 j2 hj2 e2 x1 x2 j3 hj3 e3 j4 hj4 e4
      have hb : bfr zs[j3] zs[j4] = true := (List.pairwise_iff_getElem.mp hs.ord) j3 j4 hj3 hj4 (by omega)
      have g3 := hz2 _ (List.getElem_mem hj3)
      have g4 := hz2 _ (List.getElem_mem hj4)
      refine i_l_before hl g3.2 g4.2 (by omega) (by omega) ?_
      rw [hb]
      repeat' ac_rfl
      all_goals (try (conv => whnf))
      exact sd_i ⟨_, rfl, rfl⟩
    · exact sd_i ⟨_, rfl, rfl⟩
    · rename_i j1 hj1 e1 j2 hj2 e2 x1
      rw [inV_k, decide_eq_true (hs.sub _ (List.getElem_mem hj2))] at x1
      cases x1
  · rintro σ H' hP
    obtain ⟨v3, rfl, rfl⟩ := sd_e hP
    repeat' ac_rfl
    all_goals (try (conv => whnf))
    refine lcp_TL hr (fun c => .bl (decide (c ∈ zs))) (by omega) ?_ (fun _ => rfl) ?_
    · rintro c D H2 Q' hD hc ⟨ys, rfl⟩ q'
      have hz' : upd H' D (.lst ys) z = some (ksl zs) := upd_fr hD hz
      repeat' ac_rfl
      all_goals (try (conv => whnf))
      exact q_bl (inV_k _ _) q'
    · intro D hD
      repeat' ac_rfl
      all_goals (try (conv => whnf))
      refine bls_f ?_
      refine q_bl ?_ (q _ (Kp.rfl'.new hD))
      rw [List.all_eq_true]
      intro b hb
      obtain ⟨c, hc, rfl⟩ := List.mem_map.mp hb
      exact decide_eq_true (hs.all c hc)


theorem rd_l_lists {K : PySem.W.Frag} {mg : Str → Option Value} (T : Tx K mg) : ∀ vs H Q E, sp_l_lists K vs H Q E → t_l_lists K (WD E) (EndD Q) (start ["_law_box_here", "_law_signs", "_law_texts_here", "_law_handed", "_law_told", "_law_again"] vs) H := by
  intro vs H Q E h
  replace h := h.out
  obtain ⟨b, x, y, l, rfl, hb, hl, q⟩ := h
  have hsn : (45 :: srt l) ≠ [] := by simp
  have hsl : (srt l).length = l.length := srt_len l
  have hl4 : l.length ≤ 4 := (badL_inv hl).2.1
  have hsg : ∀ c ∈ 45 :: srt l, c < 128 := by
    intro c hc
    rcases List.mem_cons.mp hc with rfl | hc
    · decide
    · have := (badL_inv hl).2.2.2 c ((srt_perm l).mem_iff.mp hc)
      simp only [AZ, List.mem_cons, List.not_mem_nil, or_false] at this
      omega
  have T0 := T
  cases T
  repeat' ac_rfl
  all_goals (try (conv => whnf))
  rename_i r us a' b' H1 k1 hb1 hr0 hr1 hul hug L hL
  have hf := flts_s (ks := us) (fun k hk c hc => hsg c ((hug k hk).2 c hc))
  have hu1000 : ∀ u ∈ us, u.length < 1000 := fun u hu => by have := (hug u hu).1; omega
  refine i_shortlex (us := us) upd_at (by omega) hu1000 fun z zs H3 k3 hz0 hz3 hx hzl => ?_
  have hr3 : H3 r = some (ksl us) := k3.get0 (upd_fr hL hr1)
  have hL3 : H3 L = some (ksl us) := k3.get0 upd_at
  have kk : Kp [b] H H3 := (k1.new hL).trans (Kp.nil k3)
  have hzr := ne_none' (show upd H1 L (ksl us) r = _ from upd_fr hL hr1) hz0
  have hzL := ne_none' (show upd H1 L (ksl us) L = _ from upd_at) hz0
  have hLr := ne_none' hr1 hL
  have hLH : H L = none := by
    cases e : H L with
    | none => rfl
    | some o =>
      by_cases eb : L = b
      · rw [eb, hb1] at hL; cases hL
      · rw [k1.get1 e eb] at hL; cases hL
  have hzH : H z = none := by
    cases e : H z with
    | none => rfl
    | some o =>
      by_cases eb : z = b
      · rw [eb, upd_fr hL hb1] at hz0; cases hz0
      · rw [upd_fr hL (k1.get1 e eb)] at hz0; cases hz0
  clear k3 k1 hb1 hz0 hr1 hL
  repeat' ac_rfl
  all_goals (try (conv => whnf))
  rename_i H4 k4 z5 zs5 H6 k6 n6 h5 hx5 hzl5 H7 k7 H8 k8
  have hu1001 : ∀ u ∈ us.reverse, u.length < 1000 := fun u hu => hu1000 u (List.mem_reverse.mp hu)
  have hr8 : H8 r = some (ksl us) := k8.get0 (upd_off hLr.symm (k7.get0 (k6.get0 (upd_off hzr.symm (upd_off hzr.symm (k4.get0 hr3))))))
  have hL8 : H8 L = some (ksl us.reverse) := (k8.get0 upd_at).trans (by rw [← List.map_reverse])
  refine i_shortlex (us := us.reverse) hL8 (by rw [List.length_reverse]; omega) hu1001 fun z9 zs9 H9 k9 hz9 hz90 hx9 hzl9 => ?_
  have hr9 : H9 r = some (ksl us) := k9.get0 hr8
  have hx9' : slx us zs9 := ⟨fun z h => List.mem_reverse.mp (hx9.sub z h), fun u h => hx9.all u (List.mem_reverse.mpr h), hx9.ord, by have := hx9.nd; rwa [List.length_reverse] at this⟩
  repeat' ac_rfl
  all_goals (try (conv => whnf))
  rename_i H10 k10
  have hzb : z ≠ b := fun e => by rw [e] at hzH; rw [hb] at hzH; cases hzH
  refine q H10 fun x u hx hn => ?_
  have nb : x ≠ b := fun e => hn (e ▸ List.mem_cons_self)
  have x3 := kk x u hx hn
  have nz := ne_none hx hzH
  have nL := ne_none hx hLH
  exact k10.get0 (k9.get0 (k8.get0 (upd_off nL (k7.get0 (k6.get0 (upd_off nz (upd_off nz (k4.get0 x3))))))))


theorem rd_Alphabet_listed_signs {K : PySem.W.Frag} {mg : Str → Option Value} (T : Tx K mg) : ∀ vs H Q E, sp_Alphabet_listed_signs K vs H Q E → t_Alphabet_listed_signs K (WD E) (EndD Q) (start ["self", "name", "signs"] vs) H := by
  intro vs H Q E h
  replace h := h.out
  obtain ⟨A, dA, l, v, n, rfl, hA, hn, q⟩ := h
  have hm : (mid n).length ≤ n.length := cut_len n (some 1) (some (-1))
  have hm2 : (cut (tl (S n)) (some 1) (some (-1))).length ≤ n.length := hm
  have hd : (mid n).eraseDups.length ≤ (mid n).length := dn_le _
  have hd2 : (cut (tl (S n)) (some 1) (some (-1))).eraseDups.length ≤ (cut (tl (S n)) (some 1) (some (-1))).length := hd
  have hsr : (srt (mid n).eraseDups).length = (mid n).eraseDups.length := srt_len _
  have hsr2 : (srt (cut (tl (S n)) (some 1) (some (-1))).eraseDups).length ≤ 1000000 := by
    show (srt (mid n).eraseDups).length ≤ 1000000; omega
  cases T
  repeat' ac_rfl
  all_goals (try (conv => whnf))
  · rename_i x d hd
    exact setK_n q (lsv_1 (by have x : (n.length : Int) < 3 := x; omega)) H d Kp.rfl' hd
  · refine sd_i ?_
    show (mid n).length < 64
    omega
  · rename_i x1 i hi e1 x2 j hj e2 x3 x4 p hp x5
    have x1 : ¬ (n.length : Int) < 3 := x1
    have e0 := lsv_0 (l := l) (n := n) (by omega) hi e1 x2 hj e2 x3
    have x4 : (mid n).all (fun c => decide (c ∈ 45 :: srt l)) = true := x4
    have x5 : srt (mid n).eraseDups = mid n := x5
    have ea : asc (mid n) (45 :: srt l) = true := by unfold asc; rw [x4, decide_eq_true x5]; rfl
    rw [if_pos ea] at e0
    exact setK_s q e0 _ (Kp.rfl'.new hp)
  · rename_i x1 i hi e1 x2 j hj e2 x3 x4 p hp x5 d hd
    have x1 : ¬ (n.length : Int) < 3 := x1
    have e0 := lsv_0 (l := l) (n := n) (by omega) hi e1 x2 hj e2 x3
    have x5 : ¬ srt (mid n).eraseDups = mid n := x5
    have ea : asc (mid n) (45 :: srt l) = false := by unfold asc; rw [decide_eq_false x5, Bool.and_false]
    rw [if_neg (by rw [ea]; decide)] at e0
    exact setK_n q e0 _ d (Kp.rfl'.new hp) hd
  · rename_i x1 i hi e1 x2 j hj e2 x3 x4 d hd
    have x1 : ¬ (n.length : Int) < 3 := x1
    have e0 := lsv_0 (l := l) (n := n) (by omega) hi e1 x2 hj e2 x3
    have x4 : (mid n).all (fun c => decide (c ∈ 45 :: srt l)) = false := x4
    have ea : asc (mid n) (45 :: srt l) = false := by unfold asc; rw [x4, Bool.false_and]
    rw [if_neg (by rw [ea]; decide)] at e0
    exact setK_n q e0 _ d Kp.rfl' hd
  · rename_i x1 i hi e1 x2 j hj e2 x3 d hd
    exact setK_n q (lsv_3 hj e2 x3) H d Kp.rfl' hd
  · rename_i x1 i hi e1 x2 d hd
    exact setK_n q (lsv_2 hi e1 x2) H d Kp.rfl' hd


theorem rd_Alphabet_signs_of {K : PySem.W.Frag} {mg : Str → Option Value} (T : Tx K mg) : ∀ vs H Q E, sp_Alphabet_signs_of K vs H Q E → t_Alphabet_signs_of K (WD E) (EndD Q) (start ["self", "name"] vs) H := by
  intro vs H Q E h
  replace h := h.out
  obtain ⟨A, dA, l, v, n, rfl, hA, hn, q⟩ := h
  cases T
  repeat' ac_rfl
  all_goals (try (conv => whnf))
  · rename_i x1
    exact setK_s q (by unfold stv; rw [if_pos x1]) H Kp.rfl'
  · rename_i x1 x2
    exact setK_s q (by unfold stv; rw [if_neg x1, if_pos x2]) H Kp.rfl'
  · rename_i x1 x2 x3
    exact setK_s q (by unfold stv; rw [if_neg x1, if_neg x2, if_pos x3]) H Kp.rfl'
  · rename_i x1 x2 x3 x4
    exact setK_s q (by unfold stv; rw [if_neg x1, if_neg x2, if_neg x3, if_pos x4]) H Kp.rfl'
  · rename_i x1 x2 x3 x4 x5
    exact setK_s q (by unfold stv; rw [if_neg x1, if_neg x2, if_neg x3, if_neg x4, if_pos x5]) H Kp.rfl'
  · rename_i x1 x2 x3 x4 x5
    have e : stv l v n = lsv l n := by unfold stv; rw [if_neg x1, if_neg x2, if_neg x3, if_neg x4, if_neg x5]
    rw [e] at q
    exact q


theorem rd_l_told_set {K : PySem.W.Frag} {mg : Str → Option Value} (T : Tx K mg) : ∀ vs H Q E, sp_l_told_set K vs H Q E → t_l_told_set K (WD E) (EndD Q) (start ["_law_alphabet", "_law_name_here", "_law_told", "e"] vs) H := by
  intro vs H Q E h
  replace h := h.out
  obtain ⟨A, dA, l, v, n, rfl, hA, hn, q⟩ := h
  cases T
  repeat' ac_rfl
  all_goals (try (conv => whnf))
  refine setK_i (fun m e H1 k1 => ?_) (fun e H1 d k1 hd => ?_)
  · rw [e] at q
    repeat' ac_rfl
    all_goals (try (conv => whnf))
    exact q _ _ (by nofun) upd_at
  · rw [e] at q
    repeat' ac_rfl
    all_goals (try (conv => whnf))
    exact q _ _ (by nofun) upd_at


theorem rd_l_set {K : PySem.W.Frag} {mg : Str → Option Value} (T : Tx K mg) : ∀ vs H Q E, sp_l_set K vs H Q E → t_l_set K (WD E) (EndD Q) (start ["_law_name_here", "_law_letters", "_law_vowels", "_law_ordered", "_law_signs", "_law_sign", "_law_last"] vs) H := by
  intro vs H Q E h
  replace h := h.out
  obtain ⟨l, v, n, rfl, hg, hn, q⟩ := h
  obtain ⟨a1, a2, a3, a4⟩ := badL_inv hg.1
  obtain ⟨b1, b2⟩ := badV_inv hg.2
  have hsl : (srt l).length = l.length := srt_len l
  have T0 := T
  cases T
  repeat' ac_rfl
  all_goals (try (conv => whnf))
  · rename_i L hL x p hp
    exact q _ _ (by nofun) (upd_at.trans (by unfold stv; rw [if_pos x]; rfl))
  · rename_i L hL x1 x p hp
    exact q _ _ (by nofun) (upd_at.trans (by unfold stv; rw [if_neg x1, if_pos x]; rfl))
  · rename_i L hL x1 x2 x
    refine lcp_f (fun c => decide (c ∈ v)) (by show (srt l).length < 1000000; omega) ?_ ?_ (fun _ => rfl) ?_
    · rintro c D _ Q' hD hc ⟨xs, rfl⟩ q
      exact q
    · intro c H' Q' q
      exact q
    intro D hD
    have hfl : ((srt (tl (S l))).filter fun c => decide (c ∈ v)).length ≤ 1000000 := Nat.le_trans (List.length_filter_le _ _) (by show (srt l).length ≤ 1000000; omega)
    repeat' ac_rfl
    all_goals (try (conv => whnf))
    rename_i p hp
    refine q _ _ (by nofun) (upd_at.trans ?_)
    have e : (srt (tl (S l))).filter (fun c => decide (c ∈ v)) = srt v := srt_flt a3 b1 b2
    unfold stv; rw [if_neg x1, if_neg x2, if_pos x, e]; rfl
  · rename_i L hL x1 x2 x3 x
    refine lcp_f (fun c => !decide (c ∈ v)) (by show (srt l).length < 1000000; omega) ?_ ?_ (fun _ => rfl) ?_
    · rintro c D _ Q' hD hc ⟨xs, rfl⟩ q
      exact q
    · intro c H' Q' q
      exact q
    intro D hD
    have hfl : ((srt (tl (S l))).filter fun c => !decide (c ∈ v)).length ≤ 1000000 := Nat.le_trans (List.length_filter_le _ _) (by show (srt l).length ≤ 1000000; omega)
    repeat' ac_rfl
    all_goals (try (conv => whnf))
    rename_i p hp
    refine q _ _ (by nofun) (upd_at.trans ?_)
    unfold stv; rw [if_neg x1, if_neg x2, if_neg x3, if_pos x]; rfl
  · rename_i L hL x1 x2 x3 x4 x p hp
    exact q _ _ (by nofun) (upd_at.trans (by unfold stv; rw [if_neg x1, if_neg x2, if_neg x3, if_neg x4, if_pos x]; rfl))
  · rename_i L hL x1 x2 x3 x4 x5 y p hp
    have y : (n.length : Int) < 3 := y
    exact q _ _ (by nofun) (upd_at.trans (by unfold stv; rw [if_neg x1, if_neg x2, if_neg x3, if_neg x4, if_neg x5, lsv_1 (by omega)]; rfl))
  · rename_i L hL x1 x2 x3 x4 x5 y i hi e1 y2 j hj e2 y3
    have y : ¬ (n.length : Int) < 3 := y
    have e0 := lsv_0 (l := l) (n := n) (by omega) hi e1 y2 hj e2 y3
    have e5 : stv l v n = lsv l n := by unfold stv; rw [if_neg x1, if_neg x2, if_neg x3, if_neg x4, if_neg x5]
    have hsg := good_sg hg.1
    have hml : (mid n).length ≤ n.length := cut_len n (some 1) (some (-1))
    rw [e5, e0] at q
    show loop (mid n).length (itS (mid n)) _ _ _ _ _ _
    refine loop_s (l := mid n) (fun i σ H' => Sd (∃ (last : Int) (v5 : Option V), σ = [some (.str (S n)), some (.str (S l)), some (.str (S v)), some (.str (S (srt l))), some (.str (S (45 :: srt l))), v5, some (.int last)] ∧ H' = upd H L (.lst (sgn (srt (tl (S l))))) ∧ (∀ c ∈ (mid n).take i, c ∈ 45 :: srt l) ∧ ((mid n).take i).Pairwise (· < ·) ∧ (∀ c ∈ (mid n).take i, fnd c (45 :: srt l) ≤ last) ∧ -1 ≤ last ∧ (last = -1 ∨ ∃ c ∈ (mid n).take i, last = fnd c (45 :: srt l)))) ?_ ?_ ?_
    · exact sd_i ⟨-1, none, rfl, rfl, (fun c hc => by cases hc), .nil, (fun c hc => by cases hc), Int.le_refl _, .inl rfl⟩
    · rintro i hi σ H' hP
      obtain ⟨last, v5, rfl, rfl, i1, i2, i3, i4, i5⟩ := sd_e hP
      repeat' ac_rfl
      all_goals (try (conv => whnf))
      · rename_i z p hp
        have z : fnd (mid n)[i] (45 :: srt l) ≤ last := z
        have ea : ¬ asc (mid n) (45 :: srt l) = true := by
          intro h
          obtain ⟨g1, g2⟩ := asc_iff.mp h
          have hd := g1 _ (List.getElem_mem hi)
          rcases i5 with rfl | ⟨c, hc, rfl⟩
          · have := fnd_ge hd; omega
          · have := (fnd_lt hsg (i1 c hc) hd).mpr (pw_at g2 hi hc); omega
        rw [if_neg ea] at q
        exact q _ _ (by nofun) upd_at
      · rename_i z
        have z : ¬ fnd (mid n)[i] (45 :: srt l) ≤ last := z
        have hd : (mid n)[i] ∈ 45 :: srt l := fnd_in (by omega)
        have et : (mid n).take (i + 1) = (mid n).take i ++ [(mid n)[i]] := by rw [List.take_succ_eq_append_getElem hi]
        refine sd_i ⟨fnd (mid n)[i] (45 :: srt l), _, rfl, rfl, fun c hc => ?_, ?_, fun c hc => ?_, by omega, .inr ⟨_, ?_, rfl⟩⟩
        · rw [et] at hc
          rcases List.mem_append.mp hc with hc | hc
          · exact i1 c hc
          · rw [List.mem_singleton.mp hc]; exact hd
        · rw [et, List.pairwise_append]
          refine ⟨i2, List.pairwise_singleton _ _, fun c hc d hd2 => ?_⟩
          rw [List.mem_singleton.mp hd2]
          refine (fnd_lt hsg (i1 c hc) hd).mp ?_
          have := i3 c hc; omega
        · rw [et] at hc
          rcases List.mem_append.mp hc with hc | hc
          · have := i3 c hc; omega
          · rw [List.mem_singleton.mp hc]; exact Int.le_refl _
        · rw [et]; exact List.mem_append_right _ (List.mem_singleton.mpr rfl)
    · rintro σ H' hP
      obtain ⟨last, v5, rfl, rfl, i1, i2, i3, i4, i5⟩ := sd_e hP
      rw [List.take_length] at i1 i2
      rw [if_pos (asc_iff.mpr ⟨i1, i2⟩)] at q
      repeat' ac_rfl
      all_goals (try (conv => whnf))
      exact q _ _ (by nofun) (upd_at.trans rfl)
  · rename_i L hL x1 x2 x3 x4 x5 y i hi e1 y2 j hj e2 y3 p hp
    exact q _ _ (by nofun) (upd_at.trans (by unfold stv; rw [if_neg x1, if_neg x2, if_neg x3, if_neg x4, if_neg x5, lsv_3 hj e2 y3]; rfl))
  · rename_i L hL x1 x2 x3 x4 x5 y i hi e1 y2 p hp
    exact q _ _ (by nofun) (upd_at.trans (by unfold stv; rw [if_neg x1, if_neg x2, if_neg x3, if_neg x4, if_neg x5, lsv_2 hi e1 y2]; rfl))


theorem rd_l_changed {K : PySem.W.Frag} {mg : Str → Option Value} (T : Tx K mg) : ∀ vs H Q E, sp_l_changed K vs H Q E → t_l_changed K (WD E) (EndD Q) (start ["_law_box_here", "_law_string", "_law_way", "_law_at"] vs) H := by
  intro vs H Q E h
  replace h := h.out
  obtain ⟨p, a, b, s, rfl, hp, h1, h2, q⟩ := h
  cases T
  repeat' ac_rfl
  all_goals (try (conv => whnf))
  · rename_i r1 a1 b1 z1 z2 r a2 b2 r0 r1' x c a3 b3 hc
    have r1' : r < (s.length : Int) + 1 := r1'
    have h := chg1 (k := r) h2 r0 r0 (Int.le_refl _) (by omega) hc
    exact q_H upd_tw2 (q _ a3 b3 h.1 h.2)
  · rename_i r1 a1 b1 z1 z2 r a2 b2 r0 r1' x x2 c a3 b3 hc
    have r1' : r < (s.length : Int) + 1 := r1'
    have h := chg1 (k := r + 1) h2 r0 (by omega) (by omega) (by omega) hc
    exact q_H upd_tw2 (q _ a3 b3 h.1 h.2)
  · rename_i r1 a1 b1 z1 z2 r a2 b2 r0 r1' x x2
    have r1' : r < (s.length : Int) + 1 := r1'
    have h := chg2 (k := r + 1) h2 r0 (by omega) (by omega) (by omega)
    exact q_H upd_tw (q _ a2 b2 h.1 h.2)

theorem nseg5 {K : PySem.W.Frag} {mg : Str → Option Value} (T : Tx K mg) {W : WX} {H : Hp} {p : Addr} {a b r : Int} {n : List Nat} {w1 w4 w5 w6 : Option V} {Q : VK}
    (hp : H p = some (pr a b)) (hn : n.length ≤ 19) (hc : ∀ c ∈ n, c < 128) (k : ∀ (n' : List Nat) a' b', n'.length ≤ 20 → (∀ c ∈ n', c < 128) → Q (.str (S n')) (upd H p (pr a' b'))) :
    t_l_name_5 K W (EndD Q) [some (.ref p), w1, some (.int r), some (.str (S n)), w4, w5, w6] H := by
  refine ⟨?_⟩
  cases T
  repeat' ac_rfl
  all_goals (try (conv => whnf))
  all_goals first
    | (rename_i u a' b' h1 h2; exact k u a' b' (by omega) h2)
    | exact q_H (upd_self hp).symm (k n a b (by omega) hc)
theorem nloop2 {K : PySem.W.Frag} {mg : Str → Option Value} (T : Tx K mg) {W : WX} {D : Ends} {H H0 : Hp} {p : Addr} {a b : Int} {g u : List Nat} {n : Nat} {w2 w3 w5 w6 : Option V} (hg : 0 < g.length) (hg1 : g.length ≤ 5) (hg2 : ∀ c ∈ g, c < 128) (hu : u.length ≤ 6) (hu2 : ∀ c ∈ u, c < 128) (hn : n ≤ 6) (hH : H0 = upd H p (pr a b))
    (k : ∀ (u : List Nat) a b w6, u.length ≤ 12 → (∀ c ∈ u, c < 128) → D.nx [some (.ref p), some (.str (S g)), w2, w3, some (.str (S u)), w5, w6] (upd H p (pr a b))) :
    loop n (itR 0) (fun _ => True) (gName 6) (b_l_name_2 K W) D [some (.ref p), some (.str (S g)), w2, w3, some (.str (S u)), w5, w6] H0 := by
  subst hH
  cases T
  refine loop_r (fun i σ H' => Sd (∃ (u : List Nat) (a b : Int) (w6 : Option V), σ = [some (.ref p), some (.str (S g)), w2, w3, some (.str (S u)), w5, w6] ∧ H' = upd H p (pr a b) ∧ u.length ≤ 6 + i ∧ ∀ c ∈ u, c < 128)) ?_ ?_ ?_
  · exact sd_i ⟨u, a, b, _, rfl, rfl, by omega, hu2⟩
  · rintro i σ H' hi hP
    obtain ⟨u, a, b, v6, rfl, rfl, hl, ht⟩ := sd_e hP
    have hl9 : u.length < 100 := by omega
    repeat' ac_rfl
    all_goals (try (conv => whnf))
    rename_i r a' b' z1 z2 j hj e
    refine sd_i ⟨u ++ [g[j]], a', b', _, rfl, upd_tw, by rw [List.length_append]; simp only [List.length_cons, List.length_nil]; omega, fun c hc => ?_⟩
    rcases List.mem_append.mp hc with hc | hc
    · exact ht c hc
    · rw [List.mem_singleton.mp hc]; exact hg2 _ (List.getElem_mem hj)
  · rintro σ H' hP
    obtain ⟨u, a, b, v6, rfl, rfl, hl, ht⟩ := sd_e hP
    exact k u a b v6 (by omega) ht
theorem nloop1 {K : PySem.W.Frag} {mg : Str → Option Value} (T : Tx K mg) {W : WX} {D : Ends} {H H0 : Hp} {p : Addr} {a b : Int} {g : List Nat} {w2 w3 w5 w6 : Option V} (hg1 : g.length ≤ 5) (hg2 : ∀ c ∈ g, c < 128) (hH : H0 = upd H p (pr a b))
    (k : ∀ (u : List Nat) a b w5, u.length ≤ 5 → (∀ c ∈ u, c < 128) → D.nx [some (.ref p), some (.str (S g)), w2, w3, some (.str (S u)), w5, w6] (upd H p (pr a b))) :
    loop (tl (S g)).length (itS (tl (S g))) (fun _ => True) (gName 5) (b_l_name_1 K W) D [some (.ref p), some (.str (S g)), w2, w3, some (.str (S [])), w5, w6] H0 := by
  subst hH
  cases T
  refine loop_s (fun i σ H' => Sd (∃ (u : List Nat) (a b : Int) (w5 : Option V), σ = [some (.ref p), some (.str (S g)), w2, w3, some (.str (S u)), w5, w6] ∧ H' = upd H p (pr a b) ∧ u.length ≤ i ∧ ∀ c ∈ u, c < 128)) ?_ ?_ ?_
  · exact sd_i ⟨[], a, b, _, rfl, rfl, Nat.le_refl _, fun c hc => (nomatch hc)⟩
  · rintro i hi σ H' hP
    obtain ⟨u, a, b, v6, rfl, rfl, hl, ht⟩ := sd_e hP
    have hi : i < g.length := hi
    have hl9 : u.length < 100 := by omega
    repeat' ac_rfl
    all_goals (try (conv => whnf))
    · rename_i r a' b' z1 z2 x
      refine sd_i ⟨u ++ [g[i]], a', b', _, rfl, upd_tw, by rw [List.length_append]; simp only [List.length_cons, List.length_nil]; omega, fun c hc => ?_⟩
      rcases List.mem_append.mp hc with hc | hc
      · exact ht c hc
      · rw [List.mem_singleton.mp hc]; exact hg2 _ (List.getElem_mem hi)
    · rename_i r a' b' z1 z2 x
      exact sd_i ⟨u, a', b', _, rfl, upd_tw, by omega, ht⟩
  · rintro σ H' hP
    obtain ⟨u, a, b, v6, rfl, rfl, hl, ht⟩ := sd_e hP
    have hl : u.length ≤ g.length := hl
    exact k u a b v6 (by omega) ht
theorem brk {u : List Nat} (h : ∀ c ∈ u, c < 128) : ∀ c ∈ [91] ++ u ++ [93], c < 128 := by
  intro c hc
  simp only [List.mem_append, List.mem_singleton] at hc
  rcases hc with (rfl | hc) | rfl
  · decide
  · exact h c hc
  · decide
theorem nseg4 {K : PySem.W.Frag} {mg : Str → Option Value} (T : Tx K mg) {W : WX} {H : Hp} {p : Addr} {a b r : Int} {n g u : List Nat} {w5 w6 : Option V} {Q : VK}
    (hp : H p = some (pr a b)) (hn : n.length ≤ 19) (hc : ∀ c ∈ n, c < 128) (hu : u.length ≤ 6) (hu2 : ∀ c ∈ u, c < 128) (hg : 0 < g.length) (hg1 : g.length ≤ 5) (hg2 : ∀ c ∈ g, c < 128) (k : ∀ (n' : List Nat) a' b', n'.length ≤ 20 → (∀ c ∈ n', c < 128) → Q (.str (S n')) (upd H p (pr a' b'))) :
    t_l_name_4 K W (EndD Q) [some (.ref p), some (.str (S g)), some (.int r), some (.str (S n)), some (.str (S u)), w5, w6] H := by
  refine ⟨?_⟩
  have T0 := T
  have k2 : ∀ {a b : Int} (n' : List Nat) a' b', n'.length ≤ 20 → (∀ c ∈ n', c < 128) → Q (.str (S n')) (upd (upd H p (pr a b)) p (pr a' b')) := fun n' a' b' h1 h2 => q_H upd_tw (k n' a' b' h1 h2)
  cases T
  repeat' ac_rfl
  all_goals (try (conv => whnf))
  all_goals first
    | exact nseg5 T0 hp hn hc k
    | (refine nloop2 (H := H) (a := _) (b := _) T0 hg hg1 hg2 hu hu2 (by omega) rfl fun u a b w6 h1 h2 => ?_
       repeat' ac_rfl
       all_goals (try (conv => whnf))
       exact nseg5 T0 upd_at (by simp; omega) (brk h2) k2)
theorem nseg3 {K : PySem.W.Frag} {mg : Str → Option Value} (T : Tx K mg) {W : WX} {H : Hp} {p : Addr} {a b r : Int} {n g : List Nat} {w5 w6 : Option V} {Q : VK}
    (hp : H p = some (pr a b)) (hn : n.length ≤ 19) (hc : ∀ c ∈ n, c < 128) (hg : 0 < g.length) (hg1 : g.length ≤ 5) (hg2 : ∀ c ∈ g, c < 128) (k : ∀ (n' : List Nat) a' b', n'.length ≤ 20 → (∀ c ∈ n', c < 128) → Q (.str (S n')) (upd H p (pr a' b'))) :
    t_l_name_3 K W (EndD Q) [some (.ref p), some (.str (S g)), some (.int r), some (.str (S n)), some (.str (S [])), w5, w6] H := by
  refine ⟨?_⟩
  have T0 := T
  have k2 : ∀ {a b : Int} (n' : List Nat) a' b', n'.length ≤ 20 → (∀ c ∈ n', c < 128) → Q (.str (S n')) (upd (upd H p (pr a b)) p (pr a' b')) := fun n' a' b' h1 h2 => q_H upd_tw (k n' a' b' h1 h2)
  cases T
  repeat' ac_rfl
  all_goals (try (conv => whnf))
  all_goals first
    | exact nseg4 T0 hp hn hc (by decide) (fun c hc => (nomatch hc)) hg hg1 hg2 k
    | (refine nloop1 (H := H) (a := a) (b := b) T0 hg1 hg2 (upd_self hp).symm fun u a b w5 h1 h2 => ?_
       repeat' ac_rfl
       all_goals (try (conv => whnf))
       exact nseg4 T0 upd_at (by simp; omega) (brk h2) (by omega) h2 hg hg1 hg2 k2)

theorem rd_l_name {K : PySem.W.Frag} {mg : Str → Option Value} (T : Tx K mg) : ∀ vs H Q E, sp_l_name K vs H Q E → t_l_name K (WD E) (EndD Q) (start ["_law_box_here", "_law_signs", "_law_way", "_law_name_here", "_law_inside", "_law_sign", "_law_turn"] vs) H := by
  intro vs H Q E h
  replace h := h.out
  obtain ⟨p, a, b, l, rfl, hp, h1, h2, q⟩ := h
  have hsl : (srt l).length = l.length := srt_len l
  have hg2 : ∀ c ∈ 45 :: srt l, c < 128 := by
    intro c hc
    rcases List.mem_cons.mp hc with rfl | hc
    · decide
    · have := h2 c ((srt_perm l).mem_iff.mp hc)
      simp only [AZ, List.mem_cons, List.not_mem_nil, or_false] at this
      omega
  have T0 := T
  cases T
  repeat' ac_rfl
  all_goals (try (conv => whnf))
  rename_i r1 a1 b1 z1 z2 L hL r2 a2 b2 z3 z4 j hj e
  have hx : ∃ k, (k.length ≤ 19 ∧ ∀ c ∈ k, c < 128) ∧ [V.str (S nAll), .str (S nLet), .str (S nVow), .str (S nCon), .str (S nJoi)][j] = .str (S k) := by
    have : ∀ v ∈ [V.str (S nAll), .str (S nLet), .str (S nVow), .str (S nCon), .str (S nJoi)], ∃ k, (k.length ≤ 19 ∧ ∀ c ∈ k, c < 128) ∧ v = .str (S k) := by
      intro v hv
      simp only [List.mem_cons, List.not_mem_nil, or_false] at hv
      rcases hv with rfl | rfl | rfl | rfl | rfl <;> exact ⟨_, ⟨by decide, by decide⟩, rfl⟩
    exact this _ (List.getElem_mem hj)
  obtain ⟨n, ⟨hn1, hn2⟩, en⟩ := hx
  have hpL := ne_none (show upd H p (pr a1 b1) p = _ from upd_at) hL
  have e2 : ([V.str (S [97, 108, 108]), V.str (S [108, 101, 116, 116, 101, 114, 115]), V.str (S [118, 111, 119, 101, 108, 115]), V.str (S [99, 111, 110, 115, 111, 110, 97, 110, 116, 115]), V.str (S [106, 111, 105, 110, 116, 115])])[j] = .str (S n) := en
  rw [e2]
  refine nseg3 T0 (a := a2) (b := b2) upd_at hn1 hn2 (by simp) (by simp; omega) hg2 fun n' a' b' h1 h2 => ?_
  exact q n' a' b' _ h1 h2 (by nofun) upd_at


theorem rd_all_different {K : PySem.W.Frag} {mg : Str → Option Value} (T : Tx K mg) : ∀ vs H Q E, sp_all_different K vs H Q E → t_all_different K (WD E) (EndD Q) (start ["string"] vs) H := by
  intro vs H Q E h
  replace h := h.out
  obtain ⟨l, rfl, h1, q⟩ := h
  repeat' ac_rfl
  all_goals (conv => whnf)
  exact q


theorem rd_Alphabet_init {K : PySem.W.Frag} {mg : Str → Option Value} (T : Tx K mg) : ∀ vs H Q E, sp_Alphabet_init K vs H Q E → t_Alphabet_init K (WD E) (EndD Q) (start ["self", "letters", "vowels", "foreign", "sign"] vs) H := by
  intro vs H Q E h
  replace h := h.out
  obtain ⟨a, dx, l, v, rfl, ha, h1, h2, q1, q2, q3⟩ := h
  cases T
  have g1 : (tl (S l)).length < 64 := h1
  have g2 : (tl (S v)).length < 64 := h2
  conv => whnf
  refine lcp_f (fun c => !decide (c ∈ AZ)) (by omega) ?_ ?_ (fun _ => rfl) ?_
  · rintro c D _ Q' hD hc ⟨xs, rfl⟩ q
    exact q
  · intro c H' Q' q
    exact q
  intro D hD
  repeat' ac_rfl
  all_goals (try (conv => whnf))
  rotate_left 1
  · rename_i d hd; exact q1 (badL4 (by assumption)) _ d (Kp.rfl'.new hD) hd
  · rename_i d hd; exact q1 (badL3 (by assumption)) _ d (Kp.rfl'.new hD) hd
  · rename_i d hd; exact q1 (badL2 (by assumption)) _ d (Kp.rfl'.new hD) hd
  · rename_i d hd; exact q1 (badL1 (by assumption)) _ d (Kp.rfl'.new hD) hd
  have hL : badL l = false := badL0 (by assumption) (by assumption) (by assumption) (by assumption)
  refine lcp_f (fun c => !decide (c ∈ l)) (by omega) ?_ ?_ (fun _ => rfl) ?_
  · rintro c D _ Q' hD hc ⟨xs, rfl⟩ q
    exact q
  · intro c H' Q' q
    exact q
  intro D2 hD2
  repeat' ac_rfl
  all_goals (try (conv => whnf))
  rotate_left 1
  · rename_i d hd; exact q2 hL (badV2 (by assumption)) _ d (by nofun) hd
  · rename_i d hd; exact q2 hL (badV1 (by assumption)) _ d (by nofun) hd
  have hV : badV l v = false := badV0 (by assumption) (by assumption)
  have q3 := q3 hL hV
  refine lcp_l (by contradiction) (fun c => !decide (c ∈ v)) (by bv_omega) ?_ ?_ (fun _ => rfl) ?_
  · rintro c D _ Q' hD hc ⟨xs, rfl⟩ q
    exact q
  · intro c H' Q' q
    exact q
  intro D3 hD3
  have hfl : ((srt (tl (S l))).filter fun c => !decide (c ∈ v)).length ≤ 1000000 := Nat.le_trans (List.length_filter_le _ _) (by bv_omega)
  repeat' ac_rfl
  all_goals (try (conv => whnf))
  exact q3 _ (by nofun) (upd_at.trans rfl)


theorem rd_l_pick {K : PySem.W.Frag} {mg : Str → Option Value} (T : Tx K mg) : ∀ vs H Q E, sp_l_pick K vs H Q E → t_l_pick K (WD E) (EndD Q) (start ["_law_box_here", "_law_string", "_law_many", "_law_picked", "_law_turn", "_law_at"] vs) H := by
  intro vs H Q E h
  replace h := h.out
  obtain ⟨p, s, m, a, b, rfl, hp, h0, h1, h2, q⟩ := h
  cases T
  repeat' ac_rfl
  all_goals (try (conv => whnf))
  refine loop_i (fun i σ H' => Sd (∃ (l r : List Nat) (a b : Int) (v4 v5 : Option V), l.length = i ∧ (l ++ r).Perm s ∧ σ = [some (.ref p), some (.str (S r)), some (.int m), some (.str (S l)), v4, v5] ∧ H' = upd H p (pr a b))) ?_ (fun _ _ _ _ _ => trivial) ?_ ?_
  · exact sd_i ⟨[], s, a, b, none, none, rfl, List.Perm.refl _, rfl, (upd_self hp).symm⟩
  · rintro i x σ H' H'' hi hP ⟨rfl, rfl⟩
    obtain ⟨l, r, a, b, v4, v5, hl, hpm, rfl, rfl⟩ := sd_e hP
    have hlen := hpm.length_eq
    rw [List.length_append] at hlen
    have hr : r.length < 1000 := by omega
    have hr0 : 0 < r.length := by omega
    have hc1 : ∀ a b, (cut r a b).length ≤ r.length := fun a b => cut_len r a b
    repeat' ac_rfl
    all_goals (try (conv => whnf))
    · rename_i n a' b' _ _ j hj e
      subst e
      have e1 : cut r none (some (j : Int)) = r.take j := cut_to r j
      have e2 : cut r (some ((j : Int) + 1)) none = r.drop (j + 1) := by
        have z : ((j : Int) + 1) = ((j + 1 : Nat) : Int) := by omega
        rw [z, cut_from]
      refine sd_i ⟨l ++ [r[j]], cut r none (some (j : Int)) ++ cut r (some ((j : Int) + 1)) none, a', b', _, _, ?_, ?_, rfl, upd_tw⟩
      · rw [List.length_append, hl]; rfl
      · rw [e1, e2]
        exact (perm_out hj).trans hpm
  · rintro σ H' hP
    obtain ⟨l, r, a, b, v4, v5, hl, hpm, rfl, rfl⟩ := sd_e hP
    exact q l r a b (by omega) hpm

theorem mid_sub {n : List Nat} : ∀ c ∈ mid n, c ∈ n := by
  intro c hc
  unfold mid cut at hc
  exact List.mem_of_mem_take (List.mem_of_mem_drop hc)
theorem setP_f {l v n : List Nat} (hl : ∀ c ∈ l, c ∈ AZ) (hv : ∀ c ∈ v, c ∈ l) (hn : ∀ c ∈ n, c < 128) : ∃ ds, flts (setP (stv l v n) n) = some ds := by
  have hsg := AZ_lt hl
  have hs : ∀ c ∈ srt l, c < 128 := fun c hc => hsg c (List.mem_cons_of_mem _ hc)
  have two : ∀ (b : Bool) (m : List Nat), (∀ c ∈ m, c < 128) → ∃ ds, flts [.bl b, .str (S m)] = some ds := by
    intro b m hm
    have : flts [.str (S m)] = some [.str (S m)] := flts_s (ks := [m]) fun k hk => by rw [List.mem_singleton.mp hk]; exact hm
    refine ⟨[.bool b, .str (S m)], ?_⟩
    show ((flt (.bl b)).bind fun d => (flts [.str (S m)]).map (d :: ·)) = _
    rw [this]; rfl
  cases h : stv l v n with
  | none => exact two false n hn
  | some m =>
    refine two true m ?_
    unfold stv at h
    split at h
    · cases h; exact hsg
    · split at h
      · cases h; exact hs
      · split at h
        · cases h; exact fun c hc => hs c ((srt_perm l).mem_iff.mpr (hv c ((srt_perm v).mem_iff.mp hc)))
        · split at h
          · cases h; exact fun c hc => hs c (List.mem_filter.mp hc).1
          · split at h
            · cases h; decide
            · unfold lsv at h
              split at h
              · cases h
              · split at h
                · cases h; exact fun c hc => hn c (mid_sub c hc)
                · cases h
theorem set_body {K : PySem.W.Frag} {mg : Str → Option Value} (T : Tx K mg) {W : WX} {D : Ends} {H : Hp} {P B t0 t1 A0 A1 tk Ak dk : Addr} {l v n : List Nat} {i : Int} {w0 w3 w4 w6 w7 w8 w9 : Option V}
    (hP : H P = some (.lst [.ref t0, .ref t1])) (hB : H B = some (.lst [.ref A0, .ref A1])) (hPi : atI [V.ref t0, V.ref t1] i = some (.ref tk)) (hBi : atI [V.ref A0, V.ref A1] i = some (.ref Ak))
    (htk : H tk = some (.tup [.str (S l), .str (S v)])) (hAk : H Ak = some (alo K dk l v)) (hg : good l v) (hn : n.length < 60) (hna : ∀ c ∈ n, c < 128)
    (k : ∀ H', Kp [] H H' → D.nx [w0, some (.ref P), some (.int i), w3, w4, some (.ref B), w6, w7, w8, w9, some (.str (S n))] H') :
    b_law_4 K W D [w0, some (.ref P), some (.int i), w3, w4, some (.ref B), w6, w7, w8, w9, some (.str (S n))] H := by
  obtain ⟨ds, hds⟩ := setP_f (badL_inv hg.1).2.2.2 (badV_inv hg.2).2 hna
  cases T
  repeat' ac_rfl
  all_goals (try (conv => whnf))
  all_goals first
    | (rename_i r H1 k1 h1 r2 H2 k2 h2; exact k _ (k1.trans k2))
    | trace_state
theorem lseg6 {K : PySem.W.Frag} {mg : Str → Option Value} (T : Tx K mg) {W : WX} {H : Hp} {p P B t0 t1 A0 A1 d0 d1 : Addr} {ob : Obj} {ns : List Int} {l0 v0 l1 v1 : List Nat} {w2 w3 w4 w6 w8 w9 w10 : Option V} {Q : VK}
    (hp : H p = some (scr ob ns)) (hn : ns.length < 1000) (hP : H P = some (.lst [.ref t0, .ref t1])) (hB : H B = some (.lst [.ref A0, .ref A1])) (h0 : H t0 = some (.tup [.str (S l0), .str (S v0)])) (h1 : H t1 = some (.tup [.str (S l1), .str (S v1)]))
    (hA0 : H A0 = some (alo K d0 l0 v0)) (hA1 : H A1 = some (alo K d1 l1 v1)) (g0 : good l0 v0) (g1 : good l1 v1) (q : ∀ H', Q (.bl true) H') :
    t_law_6 K W (EndD Q) [some (.ref p), some (.ref P), w2, w3, w4, some (.ref B), w6, some (.str (S (45 :: srt l0))), w8, w9, w10] H := by
  refine ⟨?_⟩
  have hl := g0.1
  cases T
  repeat' ac_rfl
  all_goals (try (conv => whnf))
  exact q _
theorem lseg5 {K : PySem.W.Frag} {mg : Str → Option Value} (T : Tx K mg) {W : WX} {H : Hp} {p P B N t0 t1 A0 A1 d0 d1 : Addr} {ob : Obj} {ns : List Int} {l0 v0 l1 v1 : List Nat} {nm : List (List Nat)} {w2 w3 w4 w6 w9 w10 : Option V} {Q : VK}
    (hp : H p = some (scr ob ns)) (hn : ns.length < 1000) (hP : H P = some (.lst [.ref t0, .ref t1])) (hB : H B = some (.lst [.ref A0, .ref A1])) (h0 : H t0 = some (.tup [.str (S l0), .str (S v0)])) (h1 : H t1 = some (.tup [.str (S l1), .str (S v1)]))
    (hA0 : H A0 = some (alo K d0 l0 v0)) (hA1 : H A1 = some (alo K d1 l1 v1)) (g0 : good l0 v0) (g1 : good l1 v1) (hN : H N = some (ksl nm)) (hnm : ∀ n ∈ nm, n.length < 60 ∧ ∀ c ∈ n, c < 128) (q : ∀ H', Q (.bl true) H') :
    t_law_5 K W (EndD Q) [some (.ref p), some (.ref P), w2, w3, w4, some (.ref B), w6, some (.str (S (45 :: srt l0))), some (.ref N), w9, w10] H := by
  refine ⟨?_⟩
  have T0 := T
  cases T
  repeat' ac_rfl
  all_goals (try (conv => whnf))
  refine loop_r (n := 2) (fun i σ H' => Sd (∃ w2 w9 w10 : Option V, σ = [some (.ref p), some (.ref P), w2, w3, w4, some (.ref B), w6, some (.str (S (45 :: srt l0))), some (.ref N), w9, w10] ∧ Kp [] H H')) ?_ ?_ ?_
  · exact sd_i ⟨_, _, _, rfl, Kp.rfl'⟩
  · rintro i σ H' hi hI
    obtain ⟨w2, w9, w10, rfl, k0⟩ := sd_e hI
    have hN' := k0.get0 hN
    repeat' ac_rfl
    all_goals (try (conv => whnf))
    refine loop_l (xs := nm.map fun k => .str (S k)) (p := N) (fun j σ H' => Sd (∃ w2 w10 : Option V, σ = [some (.ref p), some (.ref P), w2, w3, w4, some (.ref B), w6, some (.str (S (45 :: srt l0))), some (.ref N), some (.int (0 + i)), w10] ∧ Kp [] H H')) ?_ ?_ ?_ ?_
    · exact sd_i ⟨_, _, rfl, k0⟩
    · rintro j σ H2 hj hI
      obtain ⟨w2, w10, rfl, k0⟩ := sd_e hI
      exact k0.get0 hN
    · rintro j hj σ H2 hI
      obtain ⟨w2, w10, rfl, k0⟩ := sd_e hI
      have hj' : j < nm.length := by simpa using hj
      have e1 : (nm.map fun k => V.str (S k))[j] = .str (S nm[j]) := List.getElem_map _
      rw [e1]
      have hx := hnm _ (List.getElem_mem hj')
      generalize nm[j] = n at hx
      repeat' ac_rfl
      all_goals (try (conv => whnf))
      refine loop_r2 ?_
      refine set_body T0 (k0.get0 hP) (k0.get0 hB) rfl rfl (k0.get0 h0) (k0.get0 hA0) g0 hx.1 hx.2 fun H3 k3 => ?_
      have k03 := k0.trans k3
      refine set_body T0 (k03.get0 hP) (k03.get0 hB) rfl rfl (k03.get0 h1) (k03.get0 hA1) g1 hx.1 hx.2 fun H4 k4 => ?_
      exact sd_i ⟨_, _, rfl, k03.trans k4⟩
    · rintro σ H2 hI
      obtain ⟨w2, w10, rfl, k0⟩ := sd_e hI
      exact sd_i ⟨_, _, _, rfl, k0⟩
  · rintro σ H' hI
    obtain ⟨w2, w9, w10, rfl, k0⟩ := sd_e hI
    exact lseg6 T0 (k0.get0 hp) hn (k0.get0 hP) (k0.get0 hB) (k0.get0 h0) (k0.get0 h1) (k0.get0 hA0) (k0.get0 hA1) g0 g1 q
theorem lseg4 {K : PySem.W.Frag} {mg : Str → Option Value} (T : Tx K mg) {W : WX} {H : Hp} {p P B t0 t1 A0 A1 d0 d1 : Addr} {ob : Obj} {ns : List Int} {l0 v0 l1 v1 : List Nat} {w3 w4 w9 w10 : Option V} {Q : VK}
    (hp : H p = some (scr ob ns)) (hn : ns.length < 1000) (hP : H P = some (.lst [.ref t0, .ref t1])) (hB : H B = some (.lst [.ref A0, .ref A1])) (h0 : H t0 = some (.tup [.str (S l0), .str (S v0)])) (h1 : H t1 = some (.tup [.str (S l1), .str (S v1)]))
    (hA0 : H A0 = some (alo K d0 l0 v0)) (hA1 : H A1 = some (alo K d1 l1 v1)) (g0 : good l0 v0) (g1 : good l1 v1) (q : ∀ H', Q (.bl true) H') :
    t_law_4 K W (EndD Q) [some (.ref p), some (.ref P), some (.int 1), w3, w4, some (.ref B), none, some (.str (S (45 :: srt l0))), none, w9, w10] H := by
  refine ⟨?_⟩
  have hl4 : l0.length ≤ 4 := (badL_inv g0.1).2.1
  have hlA := (badL_inv g0.1).2.2.2
  have T0 := T
  cases T
  repeat' ac_rfl
  all_goals (try (conv => whnf))
  refine lcp_i (fun D k H' => ∃ nm : List (List Nat), H' D = some (ksl nm) ∧ Kp [] H H' ∧ nm.length ≤ k ∧ ∀ n ∈ nm, n.length < 60 ∧ ∀ c ∈ n, c < 128) (fun D hD => ⟨[], upd_at, Kp.rfl'.new hD, Nat.le_refl _, fun n hn => by cases hn⟩) (fun D k H hD _ e => trivial) ?_ ?_
  · rintro D k x H1 H1' hD hk ⟨nm, hD1, kk, hl, hnm⟩ hi
    obtain ⟨rfl, rfl⟩ := hi
    have hk : k < 4 := hk
    have hp' := kk.get0 hp
    refine ⟨rfl, ?_⟩
    unfold tYes; dsimp only
    rw [if_pos rfl]
    repeat' ac_rfl
    all_goals (try (conv => whnf))
    rename_i q0 a0 b0 hq0 n a1 b1 H2 hn1 hn2 k2 hq2
    have hDq := ne_none hD1 hq0
    have hq0H : H q0 = none := Kp.none kk hq0
    refine ⟨_, k2.get1 (upd_fr hq0 hD1) hDq, ?_, nm ++ [n], upd_at.trans (by rw [ah_map]), ?_, ?_, fun m hm => ?_⟩
    · rw [List.length_map, sizeLine_eq]; omega
    · exact ((kk.fu hq0H).fr k2 fun z hz => by rw [List.mem_singleton.mp hz]; exact hq0H).fu hD
    · rw [List.length_append]; simp only [List.length_cons, List.length_nil]; omega
    · rcases List.mem_append.mp hm with hm | hm
      · exact hnm m hm
      · rw [List.mem_singleton.mp hm]; exact ⟨by omega, hn2⟩
  · rintro D H1 hD ⟨nm, hD1, kk, hl, hnm⟩
    have hl : nm.length ≤ 4 := hl
    have hlm : (nm.map fun k => V.str (S k)).length = nm.length := List.length_map _
    repeat' ac_rfl
    all_goals (try (conv => whnf))
    rename_i r hr r2 hr2
    have k3 := (kk.new hr).new (o := .lst ((nm.map fun k => V.str (S k)) ++ [.str (S [])])) hr2
    refine lseg5 T0 (nm := nm ++ [[]]) (k3.get0 hp) hn (k3.get0 hP) (k3.get0 hB) (k3.get0 h0) (k3.get0 h1) (k3.get0 hA0) (k3.get0 hA1) g0 g1 (upd_at.trans (by rw [ah_map])) (fun m hm => ?_) q
    rcases List.mem_append.mp hm with hm | hm
    · exact hnm m hm
    · rw [List.mem_singleton.mp hm]; exact ⟨by decide, fun c hc => by cases hc⟩
theorem law_pair {K : PySem.W.Frag} {mg : Str → Option Value} (T : Tx K mg) {W : WX} {D : Ends} {H : Hp} {p P : Addr} {ob : Obj} {ns : List Int} {xs : List V} {i : Int} {w3 w4 : Option V}
    (hp : H p = some (scr ob ns)) (hn : ns.length < 1000) (h0 : 0 ≤ i) (hP : H P = some (.lst xs)) (hx : xs.length < 100)
    (k : ∀ H' t l v w3 w4, good l v → Kp [P] H H' → H t = none → H' P = some (.lst (xs ++ [.ref t])) → H' t = some (.tup [.str (S l), .str (S v)]) → D.nx [some (.ref p), some (.ref P), some (.int i), w3, w4, none, none, none, none, none, none] H') :
    b_law_1 K W D [some (.ref p), some (.ref P), some (.int i), w3, w4, none, none, none, none, none, none] H := by
  have hAZ : AZ.length = 26 := rfl
  cases T
  repeat' ac_rfl
  all_goals (try (conv => whnf))
  rename_i q0 a0 b0 hq0 r1 a1 b1 z1 z2 l r a2 b2 hl hperm r2 a3 b3 z3 z4
  have hperm : (l ++ r).Perm AZ := hperm
  have z4 : r2 < (l.length : Int) + 1 := z4
  have hlb : badL l = false := good_new (by omega) (by omega) hperm
  have hqP := ne_none hP hq0
  refine i_l_pick upd_at z3 (by omega) (by omega) fun v r' a4 b4 hv hpv => ?_
  repeat' ac_rfl
  all_goals (try (conv => whnf))
  rename_i t ht
  have htH : H t = none := by
    cases e : H t with
    | none => rfl
    | some o =>
      have nt := ne_none e hq0
      rw [upd_off nt (upd_off nt (upd_off nt (upd_off nt (upd_off nt e))))] at ht
      cases ht
  have hPt := ne_none hP htH
  refine k _ t l v _ _ (good_sub hlb hpv) ?_ htH upd_at (upd_off hPt.symm upd_at)
  intro z u hz hn
  have nP : z ≠ P := fun e => hn (e ▸ List.mem_cons_self)
  have nq := ne_none hz hq0
  exact upd_off nP (upd_off (ne_none hz htH) (upd_off nq (upd_off nq (upd_off nq (upd_off nq (upd_off nq hz))))))
theorem lseg2 {K : PySem.W.Frag} {mg : Str → Option Value} (T : Tx K mg) {W : WX} {H : Hp} {p P t0 t1 : Addr} {ob : Obj} {ns : List Int} {l0 v0 l1 v1 : List Nat} {w3 w4 : Option V} {Q : VK}
    (hp : H p = some (scr ob ns)) (hn : ns.length < 1000) (hP : H P = some (.lst [.ref t0, .ref t1])) (h0 : H t0 = some (.tup [.str (S l0), .str (S v0)])) (h1 : H t1 = some (.tup [.str (S l1), .str (S v1)]))
    (g0 : good l0 v0) (g1 : good l1 v1) (q : ∀ H', Q (.bl true) H') :
    t_law_2 K W (EndD Q) [some (.ref p), some (.ref P), some (.int 1), w3, w4, none, none, none, none, none, none] H := by
  refine ⟨?_⟩
  have hl4 : l0.length ≤ 4 := (badL_inv g0.1).2.1
  have hl41 : l1.length ≤ 4 := (badL_inv g1.1).2.1
  have hv4 := good_v g0
  have hv41 := good_v g1
  have hsl : (srt l0).length = l0.length := srt_len l0
  have T0 := T
  cases T
  repeat' ac_rfl
  all_goals (try (conv => whnf))
  refine lcp_i (fun D k H' => H' P = some (.lst [.ref t0, .ref t1]) ∧ Kp [] H H' ∧ match k with
    | 0 => H' D = some (.lst [])
    | 1 => ∃ A0 d0, H' D = some (.lst [.ref A0]) ∧ H' A0 = some (alo K d0 l0 v0)
    | _ => ∃ A0 d0 A1 d1, H' D = some (.lst [.ref A0, .ref A1]) ∧ H' A0 = some (alo K d0 l0 v0) ∧ H' A1 = some (alo K d1 l1 v1)) (fun D hD => ⟨upd_fr hD hP, Kp.rfl'.new hD, upd_at⟩) (fun D k H hD _ e => e.1) ?_ ?_
  · rintro D k x H1 H1' hD hk ⟨hP1, kk, hm⟩ hi
    obtain ⟨rfl, hx⟩ := hi
    have hk : k < 2 := hk
    match k, hk, hm, hx with
    | 0, _, hm, hx =>
      have hm : H1' D = some (.lst []) := hm
      have h0' := kk.get0 h0
      cases hx
      refine ⟨rfl, ?_⟩
      unfold tYes; dsimp only
      rw [if_pos rfl]
      repeat' ac_rfl
      all_goals (try (conv => whnf))
      rename_i x dx hx hdx hne
      refine g_Alphabet_init upd_at (by omega) (by omega) g0.1 g0.2 fun H4 k4 hA4 => ⟨rfl, ?_⟩
      have nDx := ne_none hm hx
      have nPx := ne_none hP1 hx
      have kk2 : Kp [] H H4 := kk.trans (Kp.made hx hdx k4)
      refine ⟨[], k4.get1 (upd_off nDx (upd_fr hdx hm)) nDx, Nat.le_of_ble_eq_true rfl, upd_off (ne_none hP hD) (k4.get1 (upd_off nPx (upd_fr hdx hP1)) nPx), kk2.fu hD, x, dx, upd_at, upd_off nDx.symm hA4⟩
    | 1, _, hm, hx =>
      obtain ⟨A0, d0, hm, hA0⟩ := hm
      have h1' := kk.get0 h1
      cases hx
      refine ⟨rfl, ?_⟩
      unfold tYes; dsimp only
      rw [if_pos rfl]
      repeat' ac_rfl
      all_goals (try (conv => whnf))
      rename_i x dx hx hdx hne
      refine g_Alphabet_init upd_at (by omega) (by omega) g1.1 g1.2 fun H4 k4 hA4 => ⟨rfl, ?_⟩
      have nDx := ne_none hm hx
      have nPx := ne_none hP1 hx
      have nAx := ne_none hA0 hx
      have nAD : A0 ≠ D := fun e => by rw [e, hm] at hA0; cases hA0
      have kk2 : Kp [] H H4 := kk.trans (Kp.made hx hdx k4)
      refine ⟨[.ref A0], k4.get1 (upd_off nDx (upd_fr hdx hm)) nDx, Nat.le_of_ble_eq_true rfl, upd_off (ne_none hP hD) (k4.get1 (upd_off nPx (upd_fr hdx hP1)) nPx), kk2.fu hD, A0, d0, x, dx, upd_at, upd_off nAD (k4.get1 (upd_off nAx (upd_fr hdx hA0)) nAx), upd_off nDx.symm hA4⟩
  · rintro D H1 hD ⟨hP1, kk, A0, d0, A1, d1, hD1, hA0, hA1⟩
    have h0' := kk.get0 h0
    repeat' ac_rfl
    all_goals (try (conv => whnf))
    rename_i L hL
    have k3 := kk.new (o := .lst (sgn (srt (tl (S l0))))) hL
    exact lseg4 T0 (k3.get0 hp) hn (upd_fr hL hP1) (upd_fr hL hD1) (k3.get0 h0) (k3.get0 h1) (upd_fr hL hA0) (upd_fr hL hA1) g0 g1 q

theorem rd_law {K : PySem.W.Frag} {mg : Str → Option Value} (T : Tx K mg) : ∀ vs H Q E, sp_law K vs H Q E → t_law K (WD E) (EndD Q) (start ["_law_script", "_law_pairs", "_law_k", "_law_box_here", "_law_letters", "_law_alphabets", "_law_pair", "_law_signs", "_law_names", "_law_turn", "_law_name_here"] vs) H := by
  intro vs H Q E h
  replace h := h.out
  obtain ⟨p, ob, ns, rfl, hp, h1, q⟩ := h
  have T0 := T
  cases T
  repeat' ac_rfl
  all_goals (try (conv => whnf))
  rename_i P hPn
  have hPH := ne_none hp hPn
  refine loop_r2 ?_
  refine law_pair T0 (upd_fr hPn hp) h1 (Int.le_refl 0) upd_at (by decide) fun H1 t0 l0 v0 w3 w4 g0 k1 ht0 hP1 ht1 => ?_
  have hp1 := k1.get1 (upd_fr hPn hp) hPH
  refine law_pair T0 hp1 h1 (by decide) hP1 (by simp) fun H2 t1 l1 v1 w3' w4' g1 k2 ht2 hP2 ht3 => ?_
  have nt : t0 ≠ P := fun e => by rw [e, upd_at] at ht0; cases ht0
  exact lseg2 T0 (k2.get1 hp1 hPH) h1 hP2 (k2.get1 ht1 nt) ht3 g0 g1 q

theorem law_in {K : PySem.W.Frag} {H : Hp} {a : Addr} {oj : Obj} {ns : List Int} {E : XK} (h : H a = some (.frz oj (.lst (ns.map V.int)))) (hl : ns.length ≤ 63) : sp_law K [.ref a] H (fun v _ => v = .bl true) E := by
  exact ⟨⟨a, oj, ns, rfl, h, by omega, fun _ => rfl⟩⟩

end Lw

set_option Elab.async false
set_option linter.all false
set_option maxRecDepth 100000
set_option maxHeartbeats 4000000
namespace Lw
open PySem PySem.Spec PyProof.Rows L2 Ta
abbrev PP : Program := PySem.Challenge.rw_talepost_k01_texts_and_sets.prog
abbrev R : PySem.W.OpenRow := PySem.W.OpenLaw.row PySem.Challenge.rw_talepost_k01_texts_and_sets
def fa : List BF := [bFree "ValueError", bFree "abs", bFree "all", bFree "bool", bFree "int", bFree "isinstance", bFree "len", bFree "list", bFree "range", bFree "set", bFree "sorted", bFree "str", bGlo "BadAlphabet", bGlo "BadSet", bGlo "BadText", bVal "SMALL" (.str (S [97, 98, 99, 100, 101, 102, 103, 104, 105, 106, 107, 108, 109, 110, 111, 112, 113, 114, 115, 116, 117, 118, 119, 120, 121, 122])), bGlo "TaleError", bCC "Alphabet" "JOINT" (.str (S [45])), bCC "Alphabet" "MOST" (.int 4), bCls "Alphabet", bIsc "Alphabet", bNo "Alphabet" "letters", bNo "Alphabet" "vowels", bNo "Alphabet" "consonants", bNo "Alphabet" "signs", bKit "Alphabet" "Alphabet" true, bXc "BadSet", bNo "BadSet" "name", bExm "BadSet" "TaleError" true, bKit "BadSet" "BadSet" true, bKitT "BadSet" "ValueError" true, bKitA "BadSet" ["BadText", "BadAlphabet"] false, bXc "BadText", bNo "BadText" "text", bExm "BadText" "TaleError" true, bKit "BadText" "BadText" true, bKitT "BadText" "ValueError" true, bKitA "BadText" ["BadSet", "BadAlphabet"] false, bNo "BadAlphabet" "part", bOex "BadAlphabet", bSup "BadAlphabet" "BadAlphabet", bFree "super", bOex "BadSet", bSup "BadSet" "BadSet", bOex "BadText", bSup "BadText" "BadText", bGlo "_law_box", bGlo "_law_take", bGlo "_law_text", bGlo "_law_char", bMe "Alphabet" "is_text", bMe "Alphabet" "check", bGlo "_law_checked", bGlo "kind_after", bGlo "_law_kind", bGlo "_law_strings", bGlo "_law_texts", bGlo "shortlex", bGlo "_law_before", bGlo "_law_each_once", bGlo "_law_lists", bMe "Alphabet" "listed_signs", bMe "Alphabet" "signs_of", bGlo "_law_told_set", bGlo "_law_set", bGlo "_law_changed", bGlo "_law_name", bGlo "all_different", bMk "Alphabet", bGlo "Alphabet", bGlo "_law_pick", bNoL, bGlo "law"]
def dd_l_box : XD := ⟨fun K => (He.fAd K ("_law_box", none)), "_law_box", "_law_box", defArgs s_l_box, defBody s_l_box, defScope s_l_box, [], []⟩
def dd_l_take : XD := ⟨fun K => (He.fAd K ("_law_take", none)), "_law_take", "_law_take", defArgs s_l_take, defBody s_l_take, defScope s_l_take, [], []⟩
def dd_l_text : XD := ⟨fun K => (He.fAd K ("_law_text", none)), "_law_text", "_law_text", defArgs s_l_text, defBody s_l_text, defScope s_l_text, [], []⟩
def dd_l_char : XD := ⟨fun K => (He.fAd K ("_law_char", none)), "_law_char", "_law_char", defArgs s_l_char, defBody s_l_char, defScope s_l_char, [], []⟩
def dd_Alphabet_is_text : XD := ⟨fun K => (He.fAd K ("Alphabet", some "is_text")), "is_text", "Alphabet.is_text", defArgs s_Alphabet_is_text, defBody s_Alphabet_is_text, defScope s_Alphabet_is_text, [], []⟩
def dd_Alphabet_check : XD := ⟨fun K => (He.fAd K ("Alphabet", some "check")), "check", "Alphabet.check", defArgs s_Alphabet_check, defBody s_Alphabet_check, defScope s_Alphabet_check, [], []⟩
def dd_l_checked : XD := ⟨fun K => (He.fAd K ("_law_checked", none)), "_law_checked", "_law_checked", defArgs s_l_checked, defBody s_l_checked, defScope s_l_checked, [], []⟩
def dd_kind_after : XD := ⟨fun K => (He.fAd K ("kind_after", none)), "kind_after", "kind_after", defArgs s_kind_after, defBody s_kind_after, defScope s_kind_after, [], []⟩
def dd_l_kind : XD := ⟨fun K => (He.fAd K ("_law_kind", none)), "_law_kind", "_law_kind", defArgs s_l_kind, defBody s_l_kind, defScope s_l_kind, [], []⟩
def dd_l_strings : XD := ⟨fun K => (He.fAd K ("_law_strings", none)), "_law_strings", "_law_strings", defArgs s_l_strings, defBody s_l_strings, defScope s_l_strings, [], []⟩
def dd_l_texts : XD := ⟨fun K => (He.fAd K ("_law_texts", none)), "_law_texts", "_law_texts", defArgs s_l_texts, defBody s_l_texts, defScope s_l_texts, [], []⟩
def dd_shortlex : XD := ⟨fun K => (He.fAd K ("shortlex", none)), "shortlex", "shortlex", defArgs s_shortlex, defBody s_shortlex, defScope s_shortlex, [], []⟩
def dd_l_before : XD := ⟨fun K => (He.fAd K ("_law_before", none)), "_law_before", "_law_before", defArgs s_l_before, defBody s_l_before, defScope s_l_before, [], []⟩
def dd_l_each_once : XD := ⟨fun K => (He.fAd K ("_law_each_once", none)), "_law_each_once", "_law_each_once", defArgs s_l_each_once, defBody s_l_each_once, defScope s_l_each_once, [], []⟩
def dd_l_lists : XD := ⟨fun K => (He.fAd K ("_law_lists", none)), "_law_lists", "_law_lists", defArgs s_l_lists, defBody s_l_lists, defScope s_l_lists, [], []⟩
def dd_Alphabet_listed_signs : XD := ⟨fun K => (He.fAd K ("Alphabet", some "listed_signs")), "listed_signs", "Alphabet.listed_signs", defArgs s_Alphabet_listed_signs, defBody s_Alphabet_listed_signs, defScope s_Alphabet_listed_signs, [], []⟩
def dd_Alphabet_signs_of : XD := ⟨fun K => (He.fAd K ("Alphabet", some "signs_of")), "signs_of", "Alphabet.signs_of", defArgs s_Alphabet_signs_of, defBody s_Alphabet_signs_of, defScope s_Alphabet_signs_of, [], []⟩
def dd_l_told_set : XD := ⟨fun K => (He.fAd K ("_law_told_set", none)), "_law_told_set", "_law_told_set", defArgs s_l_told_set, defBody s_l_told_set, defScope s_l_told_set, [], []⟩
def dd_l_set : XD := ⟨fun K => (He.fAd K ("_law_set", none)), "_law_set", "_law_set", defArgs s_l_set, defBody s_l_set, defScope s_l_set, [], []⟩
def dd_l_changed : XD := ⟨fun K => (He.fAd K ("_law_changed", none)), "_law_changed", "_law_changed", defArgs s_l_changed, defBody s_l_changed, defScope s_l_changed, [], []⟩
def dd_l_name : XD := ⟨fun K => (He.fAd K ("_law_name", none)), "_law_name", "_law_name", defArgs s_l_name, defBody s_l_name, defScope s_l_name, [], []⟩
def dd_all_different : XD := ⟨fun K => (He.fAd K ("all_different", none)), "all_different", "all_different", defArgs s_all_different, defBody s_all_different, defScope s_all_different, [], []⟩
def dd_Alphabet_init : XD := ⟨fun K => (He.fAd K ("Alphabet", some "__init__")), "__init__", "Alphabet.__init__", defArgs s_Alphabet_init, defBody s_Alphabet_init, defScope s_Alphabet_init, [.str (S [])], []⟩
def dd_l_pick : XD := ⟨fun K => (He.fAd K ("_law_pick", none)), "_law_pick", "_law_pick", defArgs s_l_pick, defBody s_l_pick, defScope s_l_pick, [], []⟩
def dd_law : XD := ⟨fun K => (He.fAd K ("law", none)), "law", "law", defArgs s_law, defBody s_law, defScope s_law, [], []⟩
def sd_BadAlphabet : SupD := ⟨"BadAlphabet", "__init__", "BadAlphabet.__init__", defArgs (inClass (top 2) 0), defBody (inClass (top 2) 0), defScope (inClass (top 2) 0)⟩
def sd_BadSet : SupD := ⟨"BadSet", "__init__", "BadSet.__init__", defArgs (inClass (top 4) 0), defBody (inClass (top 4) 0), defScope (inClass (top 4) 0)⟩
def sd_BadText : SupD := ⟨"BadText", "__init__", "BadText.__init__", defArgs (inClass (top 3) 0), defBody (inClass (top 3) 0), defScope (inClass (top 3) 0)⟩
def fn : List XD := [dd_l_box, dd_l_take, dd_l_text, dd_l_char, dd_Alphabet_is_text, dd_Alphabet_check, dd_l_checked, dd_kind_after, dd_l_kind, dd_l_strings, dd_l_texts, dd_shortlex, dd_l_before, dd_l_each_once, dd_l_lists, dd_Alphabet_listed_signs, dd_Alphabet_signs_of, dd_l_told_set, dd_l_set, dd_l_changed, dd_l_name, dd_all_different, dd_Alphabet_init, dd_l_pick, dd_law]
def sn : List SupD := [sd_BadAlphabet, sd_BadSet, sd_BadText]
def loose : List Str := (["TaleError", "BadAlphabet", "BadText", "BadSet", "SMALL", "all_different", "Alphabet", "shortlex", "kind_after", "_law_box", "_law_take", "_law_pick", "_law_char", "_law_changed", "_law_name", "_law_set", "_law_told_set", "_law_checked", "_law_text", "_law_texts", "_law_before", "_law_each_once", "_law_kind", "_law_strings", "_law_lists"] : List Str)
abbrev hk : PySem.W.Hook := hookX 5 PP.main.file fa fn sn
def ob (s : PySem.W.SharedT) : AlX := obsXG 5 PP.main.file fa fn sn (HandSHeadRun.getT s)
theorem ob_eq (s : PySem.W.SharedT) : ob s = hk.obs s.abs := obsXG_eq (HandSHeadRun.getT_eq s)
theorem run (w : World) : HandSHeadRun.RunEq R (PySem.W.view R.prog [28]) hk ob 3000 loose w := by
  intro os
  kernel_rfl
theorem ex_BadAlphabet {w : World} {K : PySem.W.Frag} {mg : Str → Option Value} {base h : Heap} (X : K.In h) (G : h.Ns mainGlobals mg) (c : SaysX PP.main.file fa fn sn K) : Ex PP w K mg base "BadAlphabet" (He.ga K "BadAlphabet") ["part"] := by
  obtain ⟨F, fd, e1, e2, e3, e4, e5, SF⟩ := c.sup (P := PP) 0 (by decide +kernel) (d := sd_BadAlphabet) rfl
  obtain ⟨n1, n2, n3, n4, n5, n6, n7⟩ := F
  dsimp only at e1 e2 e3 e4 e5
  subst e1 e2 e3 e4 e5
  have S := sup_of (c.fact 39) (c.fact 40)
  refine ⟨⟨_, fd, ["self", "part"], ok_exc1 (hbd := by rfl) SF S.1 (show NdefX.NScope ["self", "part", "__class__"] ["self", "part"] ["__class__"] sd_BadAlphabet.scope from NdefX.nscope_by (by decide +kernel)) (free_of X G (c.fact 41)) (by rfl) (show sd_BadAlphabet.scope.names.lookup ("super" : Str) = some .globalImplicit by decide +kernel) (no_of' (c.fact 38)) (by decide +kernel) (by decide +kernel) (fun env => ⟨_, rfl⟩), S.2.1, S.2.2, ?_, glo_of X G (c.fact 12)⟩, oex_of (c.fact 39)⟩
  obtain ⟨cc, oc, od, an, dV, kV, doc, pm, ct, osl, hcl, rfl, lk, hD, _⟩ := SF.ex
  rcases hD with ⟨_, rfl⟩ | ⟨e, _⟩
  · exact .all fun us hl => match us, hl with | [_, _], _ => rfl
  · exact absurd rfl e
theorem ex_BadSet {w : World} {K : PySem.W.Frag} {mg : Str → Option Value} {base h : Heap} (X : K.In h) (G : h.Ns mainGlobals mg) (c : SaysX PP.main.file fa fn sn K) : Ex PP w K mg base "BadSet" (He.ga K "BadSet") ["name"] := by
  obtain ⟨F, fd, e1, e2, e3, e4, e5, SF⟩ := c.sup (P := PP) 1 (by decide +kernel) (d := sd_BadSet) rfl
  obtain ⟨n1, n2, n3, n4, n5, n6, n7⟩ := F
  dsimp only at e1 e2 e3 e4 e5
  subst e1 e2 e3 e4 e5
  have S := sup_of (c.fact 42) (c.fact 43)
  refine ⟨⟨_, fd, ["self", "name"], ok_exc1 (hbd := by rfl) SF S.1 (show NdefX.NScope ["self", "name", "__class__"] ["self", "name"] ["__class__"] sd_BadSet.scope from NdefX.nscope_by (by decide +kernel)) (free_of X G (c.fact 41)) (by rfl) (show sd_BadSet.scope.names.lookup ("super" : Str) = some .globalImplicit by decide +kernel) (no_of' (c.fact 27)) (by decide +kernel) (by decide +kernel) (fun env => ⟨_, rfl⟩), S.2.1, S.2.2, ?_, glo_of X G (c.fact 13)⟩, oex_of (c.fact 42)⟩
  obtain ⟨cc, oc, od, an, dV, kV, doc, pm, ct, osl, hcl, rfl, lk, hD, _⟩ := SF.ex
  rcases hD with ⟨_, rfl⟩ | ⟨e, _⟩
  · exact .all fun us hl => match us, hl with | [_, _], _ => rfl
  · exact absurd rfl e
theorem ex_BadText {w : World} {K : PySem.W.Frag} {mg : Str → Option Value} {base h : Heap} (X : K.In h) (G : h.Ns mainGlobals mg) (c : SaysX PP.main.file fa fn sn K) : Ex PP w K mg base "BadText" (He.ga K "BadText") ["text"] := by
  obtain ⟨F, fd, e1, e2, e3, e4, e5, SF⟩ := c.sup (P := PP) 2 (by decide +kernel) (d := sd_BadText) rfl
  obtain ⟨n1, n2, n3, n4, n5, n6, n7⟩ := F
  dsimp only at e1 e2 e3 e4 e5
  subst e1 e2 e3 e4 e5
  have S := sup_of (c.fact 44) (c.fact 45)
  refine ⟨⟨_, fd, ["self", "text"], ok_exc1 (hbd := by rfl) SF S.1 (show NdefX.NScope ["self", "text", "__class__"] ["self", "text"] ["__class__"] sd_BadText.scope from NdefX.nscope_by (by decide +kernel)) (free_of X G (c.fact 41)) (by rfl) (show sd_BadText.scope.names.lookup ("super" : Str) = some .globalImplicit by decide +kernel) (no_of' (c.fact 33)) (by decide +kernel) (by decide +kernel) (fun env => ⟨_, rfl⟩), S.2.1, S.2.2, ?_, glo_of X G (c.fact 14)⟩, oex_of (c.fact 44)⟩
  obtain ⟨cc, oc, od, an, dV, kV, doc, pm, ct, osl, hcl, rfl, lk, hD, _⟩ := SF.ex
  rcases hD with ⟨_, rfl⟩ | ⟨e, _⟩
  · exact .all fun us hl => match us, hl with | [_, _], _ => rfl
  · exact absurd rfl e
theorem len_l_box {K : PySem.W.Frag} : ∀ vs H Q E, sp_l_box K vs H Q E → vs.length = 2 := by
  intro vs H Q E h
  replace h := h.out
  repeat (obtain ⟨_, h⟩ := h; try subst_vars)
  all_goals rfl
theorem len_l_take {K : PySem.W.Frag} : ∀ vs H Q E, sp_l_take K vs H Q E → vs.length = 2 := by
  intro vs H Q E h
  replace h := h.out
  repeat (obtain ⟨_, h⟩ := h; try subst_vars)
  all_goals rfl
theorem len_l_text {K : PySem.W.Frag} : ∀ vs H Q E, sp_l_text K vs H Q E → vs.length = 4 := by
  intro vs H Q E h
  replace h := h.out
  repeat (obtain ⟨_, h⟩ := h; try subst_vars)
  all_goals rfl
theorem len_l_char {K : PySem.W.Frag} : ∀ vs H Q E, sp_l_char K vs H Q E → vs.length = 1 := by
  intro vs H Q E h
  replace h := h.out
  repeat (obtain ⟨_, h⟩ := h; try subst_vars)
  all_goals rfl
theorem len_Alphabet_is_text {K : PySem.W.Frag} : ∀ vs H Q E, sp_Alphabet_is_text K vs H Q E → vs.length = 2 := by
  intro vs H Q E h
  replace h := h.out
  repeat (obtain ⟨_, h⟩ := h; try subst_vars)
  all_goals rfl
theorem len_Alphabet_check {K : PySem.W.Frag} : ∀ vs H Q E, sp_Alphabet_check K vs H Q E → vs.length = 2 := by
  intro vs H Q E h
  replace h := h.out
  repeat (obtain ⟨_, h⟩ := h; try subst_vars)
  all_goals rfl
theorem len_l_checked {K : PySem.W.Frag} : ∀ vs H Q E, sp_l_checked K vs H Q E → vs.length = 2 := by
  intro vs H Q E h
  replace h := h.out
  repeat (obtain ⟨_, h⟩ := h; try subst_vars)
  all_goals rfl
theorem len_kind_after {K : PySem.W.Frag} : ∀ vs H Q E, sp_kind_after K vs H Q E → vs.length = 1 := by
  intro vs H Q E h
  replace h := h.out
  repeat (obtain ⟨_, h⟩ := h; try subst_vars)
  all_goals rfl
theorem len_l_kind {K : PySem.W.Frag} : ∀ vs H Q E, sp_l_kind K vs H Q E → vs.length = 1 := by
  intro vs H Q E h
  replace h := h.out
  repeat (obtain ⟨_, h⟩ := h; try subst_vars)
  all_goals rfl
theorem len_l_strings {K : PySem.W.Frag} : ∀ vs H Q E, sp_l_strings K vs H Q E → vs.length = 4 := by
  intro vs H Q E h
  replace h := h.out
  repeat (obtain ⟨_, h⟩ := h; try subst_vars)
  all_goals rfl
theorem len_l_texts {K : PySem.W.Frag} : ∀ vs H Q E, sp_l_texts K vs H Q E → vs.length = 2 := by
  intro vs H Q E h
  replace h := h.out
  repeat (obtain ⟨_, h⟩ := h; try subst_vars)
  all_goals rfl
theorem len_shortlex {K : PySem.W.Frag} : ∀ vs H Q E, sp_shortlex K vs H Q E → vs.length = 1 := by
  intro vs H Q E h
  replace h := h.out
  repeat (obtain ⟨_, h⟩ := h; try subst_vars)
  all_goals rfl
theorem len_l_before {K : PySem.W.Frag} : ∀ vs H Q E, sp_l_before K vs H Q E → vs.length = 3 := by
  intro vs H Q E h
  replace h := h.out
  repeat (obtain ⟨_, h⟩ := h; try subst_vars)
  all_goals rfl
theorem len_l_each_once {K : PySem.W.Frag} : ∀ vs H Q E, sp_l_each_once K vs H Q E → vs.length = 3 := by
  intro vs H Q E h
  replace h := h.out
  repeat (obtain ⟨_, h⟩ := h; try subst_vars)
  all_goals rfl
theorem len_l_lists {K : PySem.W.Frag} : ∀ vs H Q E, sp_l_lists K vs H Q E → vs.length = 2 := by
  intro vs H Q E h
  replace h := h.out
  repeat (obtain ⟨_, h⟩ := h; try subst_vars)
  all_goals rfl
theorem len_Alphabet_listed_signs {K : PySem.W.Frag} : ∀ vs H Q E, sp_Alphabet_listed_signs K vs H Q E → vs.length = 2 := by
  intro vs H Q E h
  replace h := h.out
  repeat (obtain ⟨_, h⟩ := h; try subst_vars)
  all_goals rfl
theorem len_Alphabet_signs_of {K : PySem.W.Frag} : ∀ vs H Q E, sp_Alphabet_signs_of K vs H Q E → vs.length = 2 := by
  intro vs H Q E h
  replace h := h.out
  repeat (obtain ⟨_, h⟩ := h; try subst_vars)
  all_goals rfl
theorem len_l_told_set {K : PySem.W.Frag} : ∀ vs H Q E, sp_l_told_set K vs H Q E → vs.length = 2 := by
  intro vs H Q E h
  replace h := h.out
  repeat (obtain ⟨_, h⟩ := h; try subst_vars)
  all_goals rfl
theorem len_l_set {K : PySem.W.Frag} : ∀ vs H Q E, sp_l_set K vs H Q E → vs.length = 3 := by
  intro vs H Q E h
  replace h := h.out
  repeat (obtain ⟨_, h⟩ := h; try subst_vars)
  all_goals rfl
theorem len_l_changed {K : PySem.W.Frag} : ∀ vs H Q E, sp_l_changed K vs H Q E → vs.length = 2 := by
  intro vs H Q E h
  replace h := h.out
  repeat (obtain ⟨_, h⟩ := h; try subst_vars)
  all_goals rfl
theorem len_l_name {K : PySem.W.Frag} : ∀ vs H Q E, sp_l_name K vs H Q E → vs.length = 2 := by
  intro vs H Q E h
  replace h := h.out
  repeat (obtain ⟨_, h⟩ := h; try subst_vars)
  all_goals rfl
theorem len_all_different {K : PySem.W.Frag} : ∀ vs H Q E, sp_all_different K vs H Q E → vs.length = 1 := by
  intro vs H Q E h
  replace h := h.out
  repeat (obtain ⟨_, h⟩ := h; try subst_vars)
  all_goals rfl
theorem len_Alphabet_init {K : PySem.W.Frag} : ∀ vs H Q E, sp_Alphabet_init K vs H Q E → vs.length = 3 := by
  intro vs H Q E h
  replace h := h.out
  repeat (obtain ⟨_, h⟩ := h; try subst_vars)
  all_goals rfl
theorem len_l_pick {K : PySem.W.Frag} : ∀ vs H Q E, sp_l_pick K vs H Q E → vs.length = 3 := by
  intro vs H Q E h
  replace h := h.out
  repeat (obtain ⟨_, h⟩ := h; try subst_vars)
  all_goals rfl
theorem len_law {K : PySem.W.Frag} : ∀ vs H Q E, sp_law K vs H Q E → vs.length = 1 := by
  intro vs H Q E h
  replace h := h.out
  repeat (obtain ⟨_, h⟩ := h; try subst_vars)
  all_goals rfl
theorem all_ok {w : World} {K : PySem.W.Frag} {mg : Str → Option Value} {h : Heap} (X : K.In h) (G : h.Ns mainGlobals mg) (c : SaysX PP.main.file fa fn sn K) :
    ∃ fd : FuncData, (∀ (s : Shared) (v : Value), BindsTo s fd ⟨[v], []⟩ [("_law_script", v)]) ∧ ∀ base : Heap, K.In base → base.Ns mainGlobals mg → FnOk PP w K mg base (L2.CX PP w) 13 (He.ga K "law") fd ["_law_script"] (sp_law K) := by
  have T : Tx K mg := ⟨free_of X G (c.fact 0), free_of X G (c.fact 1), free_of X G (c.fact 2), free_of X G (c.fact 3), free_of X G (c.fact 4), free_of X G (c.fact 5), free_of X G (c.fact 6), free_of X G (c.fact 7), free_of X G (c.fact 8), free_of X G (c.fact 9), free_of X G (c.fact 10), free_of X G (c.fact 11), gv_of X G (c.fact 12), gv_of X G (c.fact 13), gv_of X G (c.fact 14), val_of X G (c.fact 15), gv_of X G (c.fact 16), cc_of X G (c.fact 17), cc_of X G (c.fact 18), cls_of (c.fact 19), isc_of (c.fact 20), no_of (c.fact 21), no_of (c.fact 22), no_of (c.fact 23), no_of (c.fact 24), kit_of (c.fact 25), xc_of (c.fact 26), no_of' (c.fact 27), exm_of (c.fact 28), kit_of (c.fact 29), kitT_of (c.fact 30), kitA_of (c.fact 31), xc_of (c.fact 32), no_of' (c.fact 33), exm_of (c.fact 34), kit_of (c.fact 35), kitT_of (c.fact 36), kitA_of (c.fact 37)⟩
  obtain ⟨fd_l_box, F_l_box⟩ := c.def_ 0 (d := dd_l_box) rfl
  obtain ⟨fd_l_take, F_l_take⟩ := c.def_ 1 (d := dd_l_take) rfl
  obtain ⟨fd_l_text, F_l_text⟩ := c.def_ 2 (d := dd_l_text) rfl
  obtain ⟨fd_l_char, F_l_char⟩ := c.def_ 3 (d := dd_l_char) rfl
  obtain ⟨fd_Alphabet_is_text, F_Alphabet_is_text⟩ := c.def_ 4 (d := dd_Alphabet_is_text) rfl
  obtain ⟨fd_Alphabet_check, F_Alphabet_check⟩ := c.def_ 5 (d := dd_Alphabet_check) rfl
  obtain ⟨fd_l_checked, F_l_checked⟩ := c.def_ 6 (d := dd_l_checked) rfl
  obtain ⟨fd_kind_after, F_kind_after⟩ := c.def_ 7 (d := dd_kind_after) rfl
  obtain ⟨fd_l_kind, F_l_kind⟩ := c.def_ 8 (d := dd_l_kind) rfl
  obtain ⟨fd_l_strings, F_l_strings⟩ := c.def_ 9 (d := dd_l_strings) rfl
  obtain ⟨fd_l_texts, F_l_texts⟩ := c.def_ 10 (d := dd_l_texts) rfl
  obtain ⟨fd_shortlex, F_shortlex⟩ := c.def_ 11 (d := dd_shortlex) rfl
  obtain ⟨fd_l_before, F_l_before⟩ := c.def_ 12 (d := dd_l_before) rfl
  obtain ⟨fd_l_each_once, F_l_each_once⟩ := c.def_ 13 (d := dd_l_each_once) rfl
  obtain ⟨fd_l_lists, F_l_lists⟩ := c.def_ 14 (d := dd_l_lists) rfl
  obtain ⟨fd_Alphabet_listed_signs, F_Alphabet_listed_signs⟩ := c.def_ 15 (d := dd_Alphabet_listed_signs) rfl
  obtain ⟨fd_Alphabet_signs_of, F_Alphabet_signs_of⟩ := c.def_ 16 (d := dd_Alphabet_signs_of) rfl
  obtain ⟨fd_l_told_set, F_l_told_set⟩ := c.def_ 17 (d := dd_l_told_set) rfl
  obtain ⟨fd_l_set, F_l_set⟩ := c.def_ 18 (d := dd_l_set) rfl
  obtain ⟨fd_l_changed, F_l_changed⟩ := c.def_ 19 (d := dd_l_changed) rfl
  obtain ⟨fd_l_name, F_l_name⟩ := c.def_ 20 (d := dd_l_name) rfl
  obtain ⟨fd_all_different, F_all_different⟩ := c.def_ 21 (d := dd_all_different) rfl
  obtain ⟨fd_Alphabet_init, F_Alphabet_init⟩ := c.def_ 22 (d := dd_Alphabet_init) rfl
  obtain ⟨fd_l_pick, F_l_pick⟩ := c.def_ 23 (d := dd_l_pick) rfl
  obtain ⟨fd_law, F_law⟩ := c.def_ 24 (d := dd_law) rfl
  refine ⟨fd_law, fun s v => FunD.bindsA (ps := ["_law_script"]) F_law (fun _ _ _ _ _ _ us hl => match us, hl with | [_], _ => rfl) s [v] rfl, fun base _ _ => ?_⟩
  have X_BadAlphabet : Ex PP w K mg base "BadAlphabet" (He.ga K "BadAlphabet") ["part"] := ex_BadAlphabet X G c
  have X_BadSet : Ex PP w K mg base "BadSet" (He.ga K "BadSet") ["name"] := ex_BadSet X G c
  have X_BadText : Ex PP w K mg base "BadText" (He.ga K "BadText") ["text"] := ex_BadText X G c
  have O_l_box : FnOk PP w K mg base (L2.CX PP w) 5 (He.fAd K ("_law_box", none)) fd_l_box ["_law_script", "_law_k"] (sp_l_box K) := def_ok F_l_box sc_l_box len_l_box (t_l_box K) (fun cdv A outer s H E hr => tm_l_box T  hr) (rd_l_box T)
  have B_l_box : ∃ ds, Vals ([] : List V) ds ∧ Binds K fd_l_box ["_law_script", "_law_k"] ds := ⟨[], .nil, F_l_box.bindsN (ps := ["_law_script", "_law_k"]) fun _ _ _ _ _ _ us hl => match us, hl with | [_, _], _ => rfl⟩
  obtain ⟨ds_l_box, v_l_box, b_l_box⟩ := B_l_box
  have G_l_box : Fn PP w K mg base "_law_box" 5 [] (sp_l_box K) := ⟨⟨_, fd_l_box, ["_law_script", "_law_k"], ds_l_box, O_l_box, glo_of X G (c.fact 46), F_l_box.kp, v_l_box, b_l_box⟩⟩
  have O_l_take : FnOk PP w K mg base (L2.CX PP w) 5 (He.fAd K ("_law_take", none)) fd_l_take ["_law_box_here", "_law_size"] (sp_l_take K) := def_ok F_l_take sc_l_take len_l_take (t_l_take K) (fun cdv A outer s H E hr => tm_l_take T  hr) (rd_l_take T)
  have B_l_take : ∃ ds, Vals ([] : List V) ds ∧ Binds K fd_l_take ["_law_box_here", "_law_size"] ds := ⟨[], .nil, F_l_take.bindsN (ps := ["_law_box_here", "_law_size"]) fun _ _ _ _ _ _ us hl => match us, hl with | [_, _], _ => rfl⟩
  obtain ⟨ds_l_take, v_l_take, b_l_take⟩ := B_l_take
  have G_l_take : Fn PP w K mg base "_law_take" 5 [] (sp_l_take K) := ⟨⟨_, fd_l_take, ["_law_box_here", "_law_size"], ds_l_take, O_l_take, glo_of X G (c.fact 47), F_l_take.kp, v_l_take, b_l_take⟩⟩
  have O_l_text : FnOk PP w K mg base (L2.CX PP w) 7 (He.fAd K ("_law_text", none)) fd_l_text ["_law_box_here", "_law_signs", "_law_few", "_law_many"] (sp_l_text K) := def_ok F_l_text sc_l_text len_l_text (t_l_text K) (fun cdv A outer s H E hr => tm_l_text T G_l_take hr) (rd_l_text T)
  have B_l_text : ∃ ds, Vals ([] : List V) ds ∧ Binds K fd_l_text ["_law_box_here", "_law_signs", "_law_few", "_law_many"] ds := ⟨[], .nil, F_l_text.bindsN (ps := ["_law_box_here", "_law_signs", "_law_few", "_law_many"]) fun _ _ _ _ _ _ us hl => match us, hl with | [_, _, _, _], _ => rfl⟩
  obtain ⟨ds_l_text, v_l_text, b_l_text⟩ := B_l_text
  have G_l_text : Fn PP w K mg base "_law_text" 7 [] (sp_l_text K) := ⟨⟨_, fd_l_text, ["_law_box_here", "_law_signs", "_law_few", "_law_many"], ds_l_text, O_l_text, glo_of X G (c.fact 48), F_l_text.kp, v_l_text, b_l_text⟩⟩
  have O_l_char : FnOk PP w K mg base (L2.CX PP w) 7 (He.fAd K ("_law_char", none)) fd_l_char ["_law_box_here"] (sp_l_char K) := def_ok F_l_char sc_l_char len_l_char (t_l_char K) (fun cdv A outer s H E hr => tm_l_char T G_l_take hr) (rd_l_char T)
  have B_l_char : ∃ ds, Vals ([] : List V) ds ∧ Binds K fd_l_char ["_law_box_here"] ds := ⟨[], .nil, F_l_char.bindsN (ps := ["_law_box_here"]) fun _ _ _ _ _ _ us hl => match us, hl with | [_], _ => rfl⟩
  obtain ⟨ds_l_char, v_l_char, b_l_char⟩ := B_l_char
  have G_l_char : Fn PP w K mg base "_law_char" 7 [] (sp_l_char K) := ⟨⟨_, fd_l_char, ["_law_box_here"], ds_l_char, O_l_char, glo_of X G (c.fact 49), F_l_char.kp, v_l_char, b_l_char⟩⟩
  have O_Alphabet_is_text : FnOk PP w K mg base (L2.CX PP w) 5 (He.fAd K ("Alphabet", some "is_text")) fd_Alphabet_is_text ["self", "text"] (sp_Alphabet_is_text K) := def_ok F_Alphabet_is_text sc_Alphabet_is_text len_Alphabet_is_text (t_Alphabet_is_text K) (fun cdv A outer s H E hr => tm_Alphabet_is_text T  hr) (rd_Alphabet_is_text T)
  have B_Alphabet_is_text : ∃ ds, Vals ([] : List V) ds ∧ Binds K fd_Alphabet_is_text ["self", "text"] ds := ⟨[], .nil, F_Alphabet_is_text.bindsN (ps := ["self", "text"]) fun _ _ _ _ _ _ us hl => match us, hl with | [_, _], _ => rfl⟩
  obtain ⟨ds_Alphabet_is_text, v_Alphabet_is_text, b_Alphabet_is_text⟩ := B_Alphabet_is_text
  have G_Alphabet_is_text : Me PP w K mg base (He.ga K "Alphabet") "is_text" 5 [] (sp_Alphabet_is_text K) := ⟨⟨_, fd_Alphabet_is_text, ["self", "text"], ds_Alphabet_is_text, O_Alphabet_is_text, me_of (c.fact 50), v_Alphabet_is_text, b_Alphabet_is_text⟩, cls_of (c.fact 19)⟩
  have O_Alphabet_check : FnOk PP w K mg base (L2.CX PP w) 7 (He.fAd K ("Alphabet", some "check")) fd_Alphabet_check ["self", "text"] (sp_Alphabet_check K) := def_ok F_Alphabet_check sc_Alphabet_check len_Alphabet_check (t_Alphabet_check K) (fun cdv A outer s H E hr => tm_Alphabet_check T G_Alphabet_is_text X_BadText hr) (rd_Alphabet_check T)
  have B_Alphabet_check : ∃ ds, Vals ([] : List V) ds ∧ Binds K fd_Alphabet_check ["self", "text"] ds := ⟨[], .nil, F_Alphabet_check.bindsN (ps := ["self", "text"]) fun _ _ _ _ _ _ us hl => match us, hl with | [_, _], _ => rfl⟩
  obtain ⟨ds_Alphabet_check, v_Alphabet_check, b_Alphabet_check⟩ := B_Alphabet_check
  have G_Alphabet_check : Me PP w K mg base (He.ga K "Alphabet") "check" 7 [] (sp_Alphabet_check K) := ⟨⟨_, fd_Alphabet_check, ["self", "text"], ds_Alphabet_check, O_Alphabet_check, me_of (c.fact 51), v_Alphabet_check, b_Alphabet_check⟩, cls_of (c.fact 19)⟩
  have O_l_checked : FnOk PP w K mg base (L2.CX PP w) 9 (He.fAd K ("_law_checked", none)) fd_l_checked ["_law_alphabet", "_law_text_here"] (sp_l_checked K) := def_ok F_l_checked sc_l_checked len_l_checked (t_l_checked K) (fun cdv A outer s H E hr => tm_l_checked T G_Alphabet_check hr) (rd_l_checked T)
  have B_l_checked : ∃ ds, Vals ([] : List V) ds ∧ Binds K fd_l_checked ["_law_alphabet", "_law_text_here"] ds := ⟨[], .nil, F_l_checked.bindsN (ps := ["_law_alphabet", "_law_text_here"]) fun _ _ _ _ _ _ us hl => match us, hl with | [_, _], _ => rfl⟩
  obtain ⟨ds_l_checked, v_l_checked, b_l_checked⟩ := B_l_checked
  have G_l_checked : Fn PP w K mg base "_law_checked" 9 [] (sp_l_checked K) := ⟨⟨_, fd_l_checked, ["_law_alphabet", "_law_text_here"], ds_l_checked, O_l_checked, glo_of X G (c.fact 52), F_l_checked.kp, v_l_checked, b_l_checked⟩⟩
  have O_kind_after : FnOk PP w K mg base (L2.CX PP w) 5 (He.fAd K ("kind_after", none)) fd_kind_after ["text"] (sp_kind_after K) := def_ok F_kind_after sc_kind_after len_kind_after (t_kind_after K) (fun cdv A outer s H E hr => tm_kind_after T  hr) (rd_kind_after T)
  have B_kind_after : ∃ ds, Vals ([] : List V) ds ∧ Binds K fd_kind_after ["text"] ds := ⟨[], .nil, F_kind_after.bindsN (ps := ["text"]) fun _ _ _ _ _ _ us hl => match us, hl with | [_], _ => rfl⟩
  obtain ⟨ds_kind_after, v_kind_after, b_kind_after⟩ := B_kind_after
  have G_kind_after : Fn PP w K mg base "kind_after" 5 [] (sp_kind_after K) := ⟨⟨_, fd_kind_after, ["text"], ds_kind_after, O_kind_after, glo_of X G (c.fact 53), F_kind_after.kp, v_kind_after, b_kind_after⟩⟩
  have O_l_kind : FnOk PP w K mg base (L2.CX PP w) 5 (He.fAd K ("_law_kind", none)) fd_l_kind ["_law_text_here"] (sp_l_kind K) := def_ok F_l_kind sc_l_kind len_l_kind (t_l_kind K) (fun cdv A outer s H E hr => tm_l_kind T  hr) (rd_l_kind T)
  have B_l_kind : ∃ ds, Vals ([] : List V) ds ∧ Binds K fd_l_kind ["_law_text_here"] ds := ⟨[], .nil, F_l_kind.bindsN (ps := ["_law_text_here"]) fun _ _ _ _ _ _ us hl => match us, hl with | [_], _ => rfl⟩
  obtain ⟨ds_l_kind, v_l_kind, b_l_kind⟩ := B_l_kind
  have G_l_kind : Fn PP w K mg base "_law_kind" 5 [] (sp_l_kind K) := ⟨⟨_, fd_l_kind, ["_law_text_here"], ds_l_kind, O_l_kind, glo_of X G (c.fact 54), F_l_kind.kp, v_l_kind, b_l_kind⟩⟩
  have O_l_strings : FnOk PP w K mg base (L2.CX PP w) 11 (He.fAd K ("_law_strings", none)) fd_l_strings ["_law_script", "_law_pairs", "_law_alphabets", "_law_signs"] (sp_l_strings K) := def_ok F_l_strings sc_l_strings len_l_strings (t_l_strings K) (fun cdv A outer s H E hr => tm_l_strings T G_Alphabet_is_text G_kind_after G_l_box G_l_char G_l_checked G_l_kind G_l_take G_l_text hr) (rd_l_strings T)
  have B_l_strings : ∃ ds, Vals ([] : List V) ds ∧ Binds K fd_l_strings ["_law_script", "_law_pairs", "_law_alphabets", "_law_signs"] ds := ⟨[], .nil, F_l_strings.bindsN (ps := ["_law_script", "_law_pairs", "_law_alphabets", "_law_signs"]) fun _ _ _ _ _ _ us hl => match us, hl with | [_, _, _, _], _ => rfl⟩
  obtain ⟨ds_l_strings, v_l_strings, b_l_strings⟩ := B_l_strings
  have G_l_strings : Fn PP w K mg base "_law_strings" 11 [] (sp_l_strings K) := ⟨⟨_, fd_l_strings, ["_law_script", "_law_pairs", "_law_alphabets", "_law_signs"], ds_l_strings, O_l_strings, glo_of X G (c.fact 55), F_l_strings.kp, v_l_strings, b_l_strings⟩⟩
  have O_l_texts : FnOk PP w K mg base (L2.CX PP w) 9 (He.fAd K ("_law_texts", none)) fd_l_texts ["_law_box_here", "_law_signs"] (sp_l_texts K) := def_ok F_l_texts sc_l_texts len_l_texts (t_l_texts K) (fun cdv A outer s H E hr => tm_l_texts T G_l_take G_l_text hr) (rd_l_texts T)
  have B_l_texts : ∃ ds, Vals ([] : List V) ds ∧ Binds K fd_l_texts ["_law_box_here", "_law_signs"] ds := ⟨[], .nil, F_l_texts.bindsN (ps := ["_law_box_here", "_law_signs"]) fun _ _ _ _ _ _ us hl => match us, hl with | [_, _], _ => rfl⟩
  obtain ⟨ds_l_texts, v_l_texts, b_l_texts⟩ := B_l_texts
  have G_l_texts : Fn PP w K mg base "_law_texts" 9 [] (sp_l_texts K) := ⟨⟨_, fd_l_texts, ["_law_box_here", "_law_signs"], ds_l_texts, O_l_texts, glo_of X G (c.fact 56), F_l_texts.kp, v_l_texts, b_l_texts⟩⟩
  have O_shortlex : FnOk PP w K mg base (L2.CX PP w) 5 (He.fAd K ("shortlex", none)) fd_shortlex ["texts"] (sp_shortlex K) := def_ok F_shortlex sc_shortlex len_shortlex (t_shortlex K) (fun cdv A outer s H E hr => tm_shortlex T  hr) (rd_shortlex T)
  have B_shortlex : ∃ ds, Vals ([] : List V) ds ∧ Binds K fd_shortlex ["texts"] ds := ⟨[], .nil, F_shortlex.bindsN (ps := ["texts"]) fun _ _ _ _ _ _ us hl => match us, hl with | [_], _ => rfl⟩
  obtain ⟨ds_shortlex, v_shortlex, b_shortlex⟩ := B_shortlex
  have G_shortlex : Fn PP w K mg base "shortlex" 5 [] (sp_shortlex K) := ⟨⟨_, fd_shortlex, ["texts"], ds_shortlex, O_shortlex, glo_of X G (c.fact 57), F_shortlex.kp, v_shortlex, b_shortlex⟩⟩
  have O_l_before : FnOk PP w K mg base (L2.CX PP w) 5 (He.fAd K ("_law_before", none)) fd_l_before ["_law_signs", "_law_one", "_law_other"] (sp_l_before K) := def_ok F_l_before sc_l_before len_l_before (t_l_before K) (fun cdv A outer s H E hr => tm_l_before T  hr) (rd_l_before T)
  have B_l_before : ∃ ds, Vals ([] : List V) ds ∧ Binds K fd_l_before ["_law_signs", "_law_one", "_law_other"] ds := ⟨[], .nil, F_l_before.bindsN (ps := ["_law_signs", "_law_one", "_law_other"]) fun _ _ _ _ _ _ us hl => match us, hl with | [_, _, _], _ => rfl⟩
  obtain ⟨ds_l_before, v_l_before, b_l_before⟩ := B_l_before
  have G_l_before : Fn PP w K mg base "_law_before" 5 [] (sp_l_before K) := ⟨⟨_, fd_l_before, ["_law_signs", "_law_one", "_law_other"], ds_l_before, O_l_before, glo_of X G (c.fact 58), F_l_before.kp, v_l_before, b_l_before⟩⟩
  have O_l_each_once : FnOk PP w K mg base (L2.CX PP w) 7 (He.fAd K ("_law_each_once", none)) fd_l_each_once ["_law_signs", "_law_texts_here", "_law_told"] (sp_l_each_once K) := def_ok F_l_each_once sc_l_each_once len_l_each_once (t_l_each_once K) (fun cdv A outer s H E hr => tm_l_each_once T G_l_before hr) (rd_l_each_once T)
  have B_l_each_once : ∃ ds, Vals ([] : List V) ds ∧ Binds K fd_l_each_once ["_law_signs", "_law_texts_here", "_law_told"] ds := ⟨[], .nil, F_l_each_once.bindsN (ps := ["_law_signs", "_law_texts_here", "_law_told"]) fun _ _ _ _ _ _ us hl => match us, hl with | [_, _, _], _ => rfl⟩
  obtain ⟨ds_l_each_once, v_l_each_once, b_l_each_once⟩ := B_l_each_once
  have G_l_each_once : Fn PP w K mg base "_law_each_once" 7 [] (sp_l_each_once K) := ⟨⟨_, fd_l_each_once, ["_law_signs", "_law_texts_here", "_law_told"], ds_l_each_once, O_l_each_once, glo_of X G (c.fact 59), F_l_each_once.kp, v_l_each_once, b_l_each_once⟩⟩
  have O_l_lists : FnOk PP w K mg base (L2.CX PP w) 11 (He.fAd K ("_law_lists", none)) fd_l_lists ["_law_box_here", "_law_signs"] (sp_l_lists K) := def_ok F_l_lists sc_l_lists len_l_lists (t_l_lists K) (fun cdv A outer s H E hr => tm_l_lists T G_l_each_once G_l_texts G_shortlex hr) (rd_l_lists T)
  have B_l_lists : ∃ ds, Vals ([] : List V) ds ∧ Binds K fd_l_lists ["_law_box_here", "_law_signs"] ds := ⟨[], .nil, F_l_lists.bindsN (ps := ["_law_box_here", "_law_signs"]) fun _ _ _ _ _ _ us hl => match us, hl with | [_, _], _ => rfl⟩
  obtain ⟨ds_l_lists, v_l_lists, b_l_lists⟩ := B_l_lists
  have G_l_lists : Fn PP w K mg base "_law_lists" 11 [] (sp_l_lists K) := ⟨⟨_, fd_l_lists, ["_law_box_here", "_law_signs"], ds_l_lists, O_l_lists, glo_of X G (c.fact 60), F_l_lists.kp, v_l_lists, b_l_lists⟩⟩
  have O_Alphabet_listed_signs : FnOk PP w K mg base (L2.CX PP w) 7 (He.fAd K ("Alphabet", some "listed_signs")) fd_Alphabet_listed_signs ["self", "name"] (sp_Alphabet_listed_signs K) := def_ok F_Alphabet_listed_signs sc_Alphabet_listed_signs len_Alphabet_listed_signs (t_Alphabet_listed_signs K) (fun cdv A outer s H E hr => tm_Alphabet_listed_signs T G_Alphabet_is_text X_BadSet hr) (rd_Alphabet_listed_signs T)
  have B_Alphabet_listed_signs : ∃ ds, Vals ([] : List V) ds ∧ Binds K fd_Alphabet_listed_signs ["self", "name"] ds := ⟨[], .nil, F_Alphabet_listed_signs.bindsN (ps := ["self", "name"]) fun _ _ _ _ _ _ us hl => match us, hl with | [_, _], _ => rfl⟩
  obtain ⟨ds_Alphabet_listed_signs, v_Alphabet_listed_signs, b_Alphabet_listed_signs⟩ := B_Alphabet_listed_signs
  have G_Alphabet_listed_signs : Me PP w K mg base (He.ga K "Alphabet") "listed_signs" 7 [] (sp_Alphabet_listed_signs K) := ⟨⟨_, fd_Alphabet_listed_signs, ["self", "name"], ds_Alphabet_listed_signs, O_Alphabet_listed_signs, me_of (c.fact 61), v_Alphabet_listed_signs, b_Alphabet_listed_signs⟩, cls_of (c.fact 19)⟩
  have O_Alphabet_signs_of : FnOk PP w K mg base (L2.CX PP w) 9 (He.fAd K ("Alphabet", some "signs_of")) fd_Alphabet_signs_of ["self", "name"] (sp_Alphabet_signs_of K) := def_ok F_Alphabet_signs_of sc_Alphabet_signs_of len_Alphabet_signs_of (t_Alphabet_signs_of K) (fun cdv A outer s H E hr => tm_Alphabet_signs_of T G_Alphabet_listed_signs hr) (rd_Alphabet_signs_of T)
  have B_Alphabet_signs_of : ∃ ds, Vals ([] : List V) ds ∧ Binds K fd_Alphabet_signs_of ["self", "name"] ds := ⟨[], .nil, F_Alphabet_signs_of.bindsN (ps := ["self", "name"]) fun _ _ _ _ _ _ us hl => match us, hl with | [_, _], _ => rfl⟩
  obtain ⟨ds_Alphabet_signs_of, v_Alphabet_signs_of, b_Alphabet_signs_of⟩ := B_Alphabet_signs_of
  have G_Alphabet_signs_of : Me PP w K mg base (He.ga K "Alphabet") "signs_of" 9 [] (sp_Alphabet_signs_of K) := ⟨⟨_, fd_Alphabet_signs_of, ["self", "name"], ds_Alphabet_signs_of, O_Alphabet_signs_of, me_of (c.fact 62), v_Alphabet_signs_of, b_Alphabet_signs_of⟩, cls_of (c.fact 19)⟩
  have O_l_told_set : FnOk PP w K mg base (L2.CX PP w) 11 (He.fAd K ("_law_told_set", none)) fd_l_told_set ["_law_alphabet", "_law_name_here"] (sp_l_told_set K) := def_ok F_l_told_set sc_l_told_set len_l_told_set (t_l_told_set K) (fun cdv A outer s H E hr => tm_l_told_set T G_Alphabet_signs_of hr) (rd_l_told_set T)
  have B_l_told_set : ∃ ds, Vals ([] : List V) ds ∧ Binds K fd_l_told_set ["_law_alphabet", "_law_name_here"] ds := ⟨[], .nil, F_l_told_set.bindsN (ps := ["_law_alphabet", "_law_name_here"]) fun _ _ _ _ _ _ us hl => match us, hl with | [_, _], _ => rfl⟩
  obtain ⟨ds_l_told_set, v_l_told_set, b_l_told_set⟩ := B_l_told_set
  have G_l_told_set : Fn PP w K mg base "_law_told_set" 11 [] (sp_l_told_set K) := ⟨⟨_, fd_l_told_set, ["_law_alphabet", "_law_name_here"], ds_l_told_set, O_l_told_set, glo_of X G (c.fact 63), F_l_told_set.kp, v_l_told_set, b_l_told_set⟩⟩
  have O_l_set : FnOk PP w K mg base (L2.CX PP w) 5 (He.fAd K ("_law_set", none)) fd_l_set ["_law_name_here", "_law_letters", "_law_vowels"] (sp_l_set K) := def_ok F_l_set sc_l_set len_l_set (t_l_set K) (fun cdv A outer s H E hr => tm_l_set T  hr) (rd_l_set T)
  have B_l_set : ∃ ds, Vals ([] : List V) ds ∧ Binds K fd_l_set ["_law_name_here", "_law_letters", "_law_vowels"] ds := ⟨[], .nil, F_l_set.bindsN (ps := ["_law_name_here", "_law_letters", "_law_vowels"]) fun _ _ _ _ _ _ us hl => match us, hl with | [_, _, _], _ => rfl⟩
  obtain ⟨ds_l_set, v_l_set, b_l_set⟩ := B_l_set
  have G_l_set : Fn PP w K mg base "_law_set" 5 [] (sp_l_set K) := ⟨⟨_, fd_l_set, ["_law_name_here", "_law_letters", "_law_vowels"], ds_l_set, O_l_set, glo_of X G (c.fact 64), F_l_set.kp, v_l_set, b_l_set⟩⟩
  have O_l_changed : FnOk PP w K mg base (L2.CX PP w) 9 (He.fAd K ("_law_changed", none)) fd_l_changed ["_law_box_here", "_law_string"] (sp_l_changed K) := def_ok F_l_changed sc_l_changed len_l_changed (t_l_changed K) (fun cdv A outer s H E hr => tm_l_changed T G_l_char G_l_take hr) (rd_l_changed T)
  have B_l_changed : ∃ ds, Vals ([] : List V) ds ∧ Binds K fd_l_changed ["_law_box_here", "_law_string"] ds := ⟨[], .nil, F_l_changed.bindsN (ps := ["_law_box_here", "_law_string"]) fun _ _ _ _ _ _ us hl => match us, hl with | [_, _], _ => rfl⟩
  obtain ⟨ds_l_changed, v_l_changed, b_l_changed⟩ := B_l_changed
  have G_l_changed : Fn PP w K mg base "_law_changed" 9 [] (sp_l_changed K) := ⟨⟨_, fd_l_changed, ["_law_box_here", "_law_string"], ds_l_changed, O_l_changed, glo_of X G (c.fact 65), F_l_changed.kp, v_l_changed, b_l_changed⟩⟩
  have O_l_name : FnOk PP w K mg base (L2.CX PP w) 11 (He.fAd K ("_law_name", none)) fd_l_name ["_law_box_here", "_law_signs"] (sp_l_name K) := def_ok F_l_name sc_l_name len_l_name (t_l_name K) (fun cdv A outer s H E hr => tm_l_name T G_l_changed G_l_take hr) (rd_l_name T)
  have B_l_name : ∃ ds, Vals ([] : List V) ds ∧ Binds K fd_l_name ["_law_box_here", "_law_signs"] ds := ⟨[], .nil, F_l_name.bindsN (ps := ["_law_box_here", "_law_signs"]) fun _ _ _ _ _ _ us hl => match us, hl with | [_, _], _ => rfl⟩
  obtain ⟨ds_l_name, v_l_name, b_l_name⟩ := B_l_name
  have G_l_name : Fn PP w K mg base "_law_name" 11 [] (sp_l_name K) := ⟨⟨_, fd_l_name, ["_law_box_here", "_law_signs"], ds_l_name, O_l_name, glo_of X G (c.fact 66), F_l_name.kp, v_l_name, b_l_name⟩⟩
  have O_all_different : FnOk PP w K mg base (L2.CX PP w) 5 (He.fAd K ("all_different", none)) fd_all_different ["string"] (sp_all_different K) := def_ok F_all_different sc_all_different len_all_different (t_all_different K) (fun cdv A outer s H E hr => tm_all_different T  hr) (rd_all_different T)
  have B_all_different : ∃ ds, Vals ([] : List V) ds ∧ Binds K fd_all_different ["string"] ds := ⟨[], .nil, F_all_different.bindsN (ps := ["string"]) fun _ _ _ _ _ _ us hl => match us, hl with | [_], _ => rfl⟩
  obtain ⟨ds_all_different, v_all_different, b_all_different⟩ := B_all_different
  have G_all_different : Fn PP w K mg base "all_different" 5 [] (sp_all_different K) := ⟨⟨_, fd_all_different, ["string"], ds_all_different, O_all_different, glo_of X G (c.fact 67), F_all_different.kp, v_all_different, b_all_different⟩⟩
  have O_Alphabet_init : FnOk PP w K mg base (L2.CX PP w) 7 (He.fAd K ("Alphabet", some "__init__")) fd_Alphabet_init ["self", "letters", "vowels"] (sp_Alphabet_init K) := def_ok F_Alphabet_init sc_Alphabet_init len_Alphabet_init (t_Alphabet_init K) (fun cdv A outer s H E hr => tm_Alphabet_init T G_all_different X_BadAlphabet hr) (rd_Alphabet_init T)
  have B_Alphabet : ∃ ds, Vals ([] : List V) ds ∧ Binds K fd_Alphabet_init ["self", "letters", "vowels"] ds := F_Alphabet_init.binds1 (ps := ["self", "letters", "vowels"]) 3 1 (List.cons_ne_nil _ _) rfl (fun _ _ _ _ _ _ _ us its h1 h2 => match us, its, h1, h2 with | [_, _, _], [_], _, _ => ⟨_, rfl, rfl⟩)
  obtain ⟨ds_Alphabet, v_Alphabet, b_Alphabet⟩ := B_Alphabet
  have G_Alphabet : Mks PP w K mg base "Alphabet" (He.ga K "Alphabet") 7 [] (sp_Alphabet_init K) := ⟨⟨_, fd_Alphabet_init, ["self", "letters", "vowels"], ds_Alphabet, O_Alphabet_init, mk_of (c.fact 68), glo_of X G (c.fact 69), v_Alphabet, b_Alphabet⟩⟩
  have O_l_pick : FnOk PP w K mg base (L2.CX PP w) 7 (He.fAd K ("_law_pick", none)) fd_l_pick ["_law_box_here", "_law_string", "_law_many"] (sp_l_pick K) := def_ok F_l_pick sc_l_pick len_l_pick (t_l_pick K) (fun cdv A outer s H E hr => tm_l_pick T G_l_take hr) (rd_l_pick T)
  have B_l_pick : ∃ ds, Vals ([] : List V) ds ∧ Binds K fd_l_pick ["_law_box_here", "_law_string", "_law_many"] ds := ⟨[], .nil, F_l_pick.bindsN (ps := ["_law_box_here", "_law_string", "_law_many"]) fun _ _ _ _ _ _ us hl => match us, hl with | [_, _, _], _ => rfl⟩
  obtain ⟨ds_l_pick, v_l_pick, b_l_pick⟩ := B_l_pick
  have G_l_pick : Fn PP w K mg base "_law_pick" 7 [] (sp_l_pick K) := ⟨⟨_, fd_l_pick, ["_law_box_here", "_law_string", "_law_many"], ds_l_pick, O_l_pick, glo_of X G (c.fact 70), F_l_pick.kp, v_l_pick, b_l_pick⟩⟩
  have O_law : FnOk PP w K mg base (L2.CX PP w) 13 (He.fAd K ("law", none)) fd_law ["_law_script"] (sp_law K) := def_ok F_law sc_law len_law (t_law K) (fun cdv A outer s H E hr => tm_law T G_Alphabet G_l_box G_l_lists G_l_name G_l_pick G_l_set G_l_strings G_l_take G_l_told_set hr) (rd_law T)
  exact O_law
end Lw
open PySem PySem.W PySem.Calls PyProof.Rows
set_option maxHeartbeats 0 in
theorem PySem.Challenge.cw_talepost_k01_texts_and_sets_holds : PySem.Challenge.rw_talepost_k01_texts_and_sets.Holds := by
  w_on; o_law
  refine HandSHeadRun.head_any (r := OpenLaw.row PySem.Challenge.rw_talepost_k01_texts_and_sets) (q := view (OpenLaw.row PySem.Challenge.rw_talepost_k01_texts_and_sets).prog [28]) (H := Lw.hk) (ob := Lw.ob) (M := 3000) (loose := Lw.loose) (d := HandSHeadRun.topDef (OpenLaw.row PySem.Challenge.rw_talepost_k01_texts_and_sets).prog 28) (kwd := []) Lw.ob_eq
    (by kernel_rfl) (fun s => by kernel_rfl) Lw.run (by kernel_rfl) (by kernel_rfl) (by kernel_rfl) (by rfl) (by first | assumption | decide +kernel) (by decide +kernel) ⟨rfl, rfl, rfl, rfl, rfl, by decide +kernel⟩ ?hw ?hc
  case hw => w_witness2
  case hc =>
    refine Ta.walk_ofX (l := PySem.Challenge.rw_talepost_k01_texts_and_sets) (n := 63) (k := 13) (x := "_law_script") rfl (by decide) (by kernel_rfl) ⟨rfl, by decide, by decide⟩ ?F
    intro w mg fa h Y G hmg0
    obtain ⟨K, KX, c⟩ := Y
    have hmg : mg ("law" : PySem.Str) = some (.ref fa) := by
      have e : (HandSHeadRun.topDef (OpenLaw.row PySem.Challenge.rw_talepost_k01_texts_and_sets).prog 28).name = ("law" : PySem.Str) := by kernel_rfl
      rw [← e]
      exact hmg0
    obtain ⟨fd, hb, hF⟩ := Lw.all_ok (w := w) KX G c
    have e := hmg.symm.trans (Ta.glo_of KX G (x := "law") (c.fact 72))
    cases e
    refine ⟨K, fd, Lw.sp_law K, KX, hb, fun H a ns hl hO hS => ?_, hF⟩
    obtain ⟨oj, hS⟩ := Ta.scr_of (c.fact 71) hO hS
    exact Lw.law_in hS hl

