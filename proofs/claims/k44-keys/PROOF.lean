import PyProof.Rows.All
import Wide.All
import OpenK.AllK
import Wide.FinOn
import HandS.ForMost
import HandS.ForExc
import HandS.Flow
import HandS.Defaults
import HandS.CallSlots
import HandS.IsInst
import HandS.Codes
import HandS.ClsMeth
import HandS.OwnEq
import HandS.Property
import HandS.ExcInit
import HandS.ExcField
import HandS.ExcIs
import HandS.Nested
import KE.KExcSuper
import KE.KExcIs
import HandS.Strs
import HandS.SetTxtIn
import HandS.More
import HandS.Replace
import HandS.ReplaceList
import HandS.Head0
import HandS.Head1
import HandS.Head2
import HandS.HeadEnd
import HandS.HeadHook1
import HandS.HeadHook2
import HandS.TupLe
import HandS.Text
import HandS.List
import PyProof.Rows.StrFirst
import HandS.Conv
import PyProof.ListStr
import PySem.Challenge.RW_talepost_k44_single_keys
set_option Elab.async false
set_option linter.all false
set_option maxRecDepth 100000
set_option maxHeartbeats 1000000
namespace Ta
open PySem PySem.Spec PyProof.Rows L2
abbrev St := L2.St

/-! ### texts as lists of codes -/
abbrev tl (x : Str) : List Nat := x.cps.toList
abbrev S (l : List Nat) : Str := ⟨l.toArray⟩
theorem tl_S (l : List Nat) : tl (S l) = l := rfl
theorem S_tl (x : Str) : S (tl x) = x := TL.mk_tl x
theorem ext_tl {x y : Str} (h : tl x = tl y) : x = y := TL.ext_tl h
theorem len_tl (x : Str) : x.length = (tl x).length := TL.len_tl x
theorem add_S (x y : Str) : x ++ y = S (tl x ++ tl y) := ext_tl (TL.tl_append x y)

/-! ### marks: a look at the heap, a branch -/
structure look (H : Hp) (p : Addr) (k : Option HO → Prop) : Prop where
  out : k (H p)
theorem look_i {H : Hp} {p : Addr} {k : Option HO → Prop} {o : HO} (h : H p = some o) (q : k (some o)) : look H p k := by
  refine ⟨?_⟩; rw [h]; exact q
theorem look_n {H : Hp} {p : Addr} {k : Option HO → Prop} (h : H p = none) (q : k none) : look H p k := by
  refine ⟨?_⟩; rw [h]; exact q
theorem look_e {H : Hp} {p : Addr} {k : Option HO → Prop} (q : look H p k) : k (H p) := by
  replace q := q.out; exact q
structure cnd (c : Bool) (p q : Prop) : Prop where
  out : match c with
  | true => p
  | false => q
theorem cnd_i {c : Bool} {p q : Prop} (h1 : c = true → p) (h2 : c = false → q) : cnd c p q := by
  refine ⟨?_⟩; cases c
  · exact h2 rfl
  · exact h1 rfl
theorem cnd_t {c : Bool} {p q : Prop} (h : c = true) (h1 : p) : cnd c p q := by refine ⟨?_⟩; rw [h]; exact h1
theorem cnd_f {c : Bool} {p q : Prop} (h : c = false) (h1 : q) : cnd c p q := by refine ⟨?_⟩; rw [h]; exact h1
theorem cnd_e {c : Bool} {p q : Prop} (h : cnd c p q) : if c = true then p else q := by
  replace h := h.out; cases c
  · exact h
  · exact h

/-! ### weakening -/
section
variable {X : Cx}
theorem pe_imp {e : Expr} {t t' : TE} (h : PE X e t) (i : ∀ σ H Q, t' σ H Q → t σ H Q) : PE X e t' := ⟨fun pins s σ H Q I q => h.run pins s σ H Q I (i σ H Q q)⟩
theorem pt_imp {e : Expr} {t t' : TT} (h : PT X e t) (i : ∀ σ H Q, t' σ H Q → t σ H Q) : PT X e t' := ⟨fun pins s σ H Q I q => h.run pins s σ H Q I (i σ H Q q)⟩
theorem pw_imp {e : Expr} {t t' : TT} (h : PW X e t) (i : ∀ σ H Q, t' σ H Q → t σ H Q) : PW X e t' := ⟨fun whole pins s σ H Q I q => h.run whole pins s σ H Q I (i σ H Q q)⟩
theorem ps_imp {e : Stmt} {t t' : TS} (h : PS X e t) (i : ∀ D σ H, t' D σ H → t D σ H) : PS X e t' := ⟨fun pins s σ H D I q => h.run pins s σ H D I (i D σ H q)⟩
theorem pss_imp {e : List Stmt} {t t' : TS} (h : PSs X e t) (i : ∀ D σ H, t' D σ H → t D σ H) : PSs X e t' := ⟨fun pins s σ H D I q => h.run pins s σ H D I (i D σ H q)⟩
theorem op_imp {f : Value → Value → Sem Value} {r r' : R2} (h : OpR X f r) (i : ∀ x y H Q, r' x y H Q → r x y H Q) : OpR X f r' := fun pins s σ H x y v u Q I rx ry q => h pins s σ H x y v u Q I rx ry (i x y H Q q)
theorem ix_imp {r r' : R2} (h : IxR X r) (i : ∀ x y H Q, r' x y H Q → r x y H Q) : IxR X r' := fun va sl pins s σ H x y v u Q I rx ry q => h va sl pins s σ H x y v u Q I rx ry (i x y H Q q)
theorem cr_imp {f : Value} {r r' : List V → Hp → VK → Prop} (h : CallR X f r) (i : ∀ xs H Q, r' xs H Q → r xs H Q) : CallR X f r' := fun pins s σ H xs us Q I rx q => h pins s σ H xs us Q I rx (i xs H Q q)
theorem sl_imp {r r' : V → Option Int → Option Int → Hp → VK → Prop} (h : SlR X r) (i : ∀ x a b H Q, r' x a b H Q → r x a b H Q) : SlR X r' := fun pins s σ H x v vl vu lo hi sl Q I rx rs pl pu q => h pins s σ H x v vl vu lo hi sl Q I rx rs pl pu (i x lo hi H Q q)
theorem mt_imp {id : String} {r r' : V → List V → Hp → VK → Prop} (h : MtR X id r) (i : ∀ x xs H Q, r' x xs H Q → r x xs H Q) : MtR X id r' := fun pins s σ H x xs v us Q I rx rs q => h pins s σ H x xs v us Q I rx rs (i x xs H Q q)
end

/-! ### limits -/
def Lim (n : Nat) : Prop := n ≤ sizeLine
theorem lim_of {n : Nat} (h : n ≤ 16777216) : Lim n := by unfold Lim; rw [sizeLine_eq]; exact h

/-! ### names, constants -/
section
variable {X : Cx}
def tV (i : Nat) : TE := fun σ H Q => match σ[i]? with
  | some (some v) => Q v H
  | _ => False
theorem tV_e {i : Nat} {σ : St} {H : Hp} {Q : VK} (h : tV i σ H Q) : tVar i σ H Q := by
  unfold tV at h
  split at h
  · rename_i v e
    exact ⟨v, e, h⟩
  · exact h.elim
theorem pv (i : Nat) {x : Str} {pos : Pos} (hN : X.N[i]? = some x := by rfl) (hv : Vis X.env.scope x := by first | exact Or.inl rfl | exact Or.inr (Or.inl rfl) | exact Or.inr (Or.inr rfl)) (hd : (x == ("__debug__" : Str)) = false := by decide +kernel)
    (hcd : (x == ("__classdict__" : Str)) = false := by decide +kernel) : PE X (.Name x pos) (tV i) := pe_imp (pe_var hN hv hd hcd) fun _ _ _ h => tV_e h
theorem pstr (l : List Nat) {x : Str} {j : Nat} {pos : Pos} (h : x = S l := by decide +kernel) : PE X (.Constant (.str x) j pos) (tC (.str (S l))) := by
  subst h; exact pe_str

/-! ### truth -/
def truP (K : PySem.W.Frag) (x : V) (H : Hp) (Q : Bool → Prop) : Prop := match x with
  | .non => Q false
  | .bl b => Q b
  | .int i => Q (!decide (i = 0))
  | .str y => Lim (tl y).length ∧ Q (!(tl y).isEmpty)
  | .ref p => look H p fun o => match o with
    | some (.lst xs) => Q (!xs.isEmpty)
    | some (.tup xs) => Q (!xs.isEmpty)
    | some (.dK kvs) => Q (!kvs.isEmpty)
    | some (.frz _ (.lst xs)) => Q (!xs.isEmpty)
    | _ => ∃ xs, (SqL K H p xs ∨ SqT K H p xs) ∧ Q (!xs.isEmpty)
  | _ => False
theorem truP_e {K : PySem.W.Frag} {x : V} {H : Hp} {Q : Bool → Prop} (h : truP K x H Q) : ∃ k, TruV K x H k ∧ Q k := by
  cases x with
  | non => exact ⟨false, rfl, h⟩
  | bl b => exact ⟨b, rfl, h⟩
  | int i => exact ⟨!decide (i = 0), by show (!decide (i = 0)) = (i != 0); simp only [bne]; congr 1, h⟩
  | str y =>
    obtain ⟨h1, h2⟩ := h
    refine ⟨!(tl y).isEmpty, ⟨by rw [len_tl]; exact h1, ?_⟩, h2⟩
    rw [len_tl]
    cases e : tl y with
    | nil => rfl
    | cons c r => simp; omega
  | ref p =>
    have h' := look_e h
    revert h'
    cases e : H p with
    | none => exact fun ⟨xs, h1, h2⟩ => ⟨_, h1.elim (fun z => .inl ⟨xs, z, rfl⟩) (fun z => .inr (.inl ⟨xs, z, rfl⟩)), h2⟩
    | some o =>
      cases o with
      | lst xs => exact fun h2 => ⟨_, .inl ⟨xs, SqL.of e, rfl⟩, h2⟩
      | tup xs => exact fun h2 => ⟨_, .inr (.inl ⟨xs, SqT.of e, rfl⟩), h2⟩
      | dK xs => exact fun h2 => ⟨_, .inr (.inr ⟨xs, e, rfl⟩), h2⟩
      | frz ob u =>
        cases u with
        | lst xs => exact fun h2 => ⟨_, .inl ⟨xs, .inl (.inr ⟨_, e⟩), rfl⟩, h2⟩
        | _ => exact fun ⟨xs, h1, h2⟩ => ⟨_, h1.elim (fun z => .inl ⟨xs, z, rfl⟩) (fun z => .inr (.inl ⟨xs, z, rfl⟩)), h2⟩
      | _ => exact fun ⟨xs, h1, h2⟩ => ⟨_, h1.elim (fun z => .inl ⟨xs, z, rfl⟩) (fun z => .inr (.inl ⟨xs, z, rfl⟩)), h2⟩
  | _ => exact h.elim
def tTru (K : PySem.W.Frag) (ta : TE) : TT := fun σ H Q => ta σ H fun x H1 => truP K x H1 fun k => Q k H1
variable {a b c : Expr} {ta tb tc : TE} {rest : List Expr} {pos : Pos}
theorem ptru (ha : PE X a ta) (he : ∀ whole, isTrue a X.env whole = (do let v ← whole; standAt a.pos; holding [v] (truthy v)) := by intro _; rfl) : PT X a (tTru X.K ta) := by
  refine ⟨fun pins s σ H Q I h => ?_⟩
  exact isTrue_plain (thn (ha.run pins s σ H _ I h) fun v s1 ⟨x, H1, I1, r1, q1⟩ => tru_ok pins s1 σ H1 x v Q I1 r1 (truP_e (Q := fun k => Q k H1) q1)) (he _)
/-- a test that is a comparison -/
def tTst (t : TE) : TT := fun σ H Q => t σ H fun x H' => match x with
  | .bl k => Q k H'
  | _ => False
theorem bl_of {x : V} {P : Bool → Prop} (h : match x with | .bl k => P k | _ => False) : ∃ k, x = .bl k ∧ P k := by
  cases x with
  | bl k => exact ⟨k, rfl, h⟩
  | _ => exact h.elim
theorem ptcmp {op : CmpOp} {r : R2} (ho : OpR X (compareOp op) r) (ha : PE X a ta) (hb : PE X b tb) (hm : behindInMarks op b = false := by rfl) : PT X (.Compare a [op] [b] pos) (tTst (tOp r ta tb)) := by
  refine ⟨fun pins s σ H Q I h => ?_⟩
  refine wpAny_isTrue_Compare1 (binT ha hb I h fun v u s2 x y H2 I2 rx ry q => ?_) hm
  refine thn (ho pins s2 σ H2 x y v u _ I2 rx ry q) fun c s3 ⟨z, H3, I3, r3, q3⟩ => ?_
  obtain ⟨k, rfl, q3⟩ := bl_of q3
  cases r3
  exact wpAny_truthy_bool ⟨H3, I3, q3⟩
def tAndP (t u : TT) : TT := fun σ H Q => t σ H fun c H1 => cnd c (u σ H1 Q) (Q false H1)
def tOrP (t u : TT) : TT := fun σ H Q => t σ H fun c H1 => cnd c (Q true H1) (u σ H1 Q)
variable {tA tB' : TT}
theorem pwand (ha : PT X a tA) (hb : PW X (.BoolOp .And (b :: rest) pos) tB') : PW X (.BoolOp .And (a :: b :: rest) pos) (tAndP tA tB') := by
  refine ⟨fun wh pins s σ H Q I h => ?_⟩
  refine isTrue_and (thn (ha.run pins s σ H _ I h) fun c s1 ⟨H1, I1, q1⟩ => ?_)
  have q1 := cnd_e q1
  cases c with
  | true => exact hb.run wh pins s1 σ H1 Q I1 q1
  | false => exact ⟨H1, I1, q1⟩
theorem pwor (ha : PT X a tA) (hb : PW X (.BoolOp .Or (b :: rest) pos) tB') : PW X (.BoolOp .Or (a :: b :: rest) pos) (tOrP tA tB') := by
  refine ⟨fun wh pins s σ H Q I h => ?_⟩
  refine isTrue_or (thn (ha.run pins s σ H _ I h) fun c s1 ⟨H1, I1, q1⟩ => ?_)
  have q1 := cnd_e q1
  cases c with
  | true => exact ⟨H1, I1, q1⟩
  | false => exact hb.run wh pins s1 σ H1 Q I1 q1
/-! ### and, or, not as values -/
def tAndE (K : PySem.W.Frag) (ta tb : TE) : TE := fun σ H Q => ta σ H fun x H1 => truP K x H1 fun k => cnd k (tb σ H1 Q) (Q x H1)
def tOrE (K : PySem.W.Frag) (ta tb : TE) : TE := fun σ H Q => ta σ H fun x H1 => truP K x H1 fun k => cnd k (Q x H1) (tb σ H1 Q)
def tNotE (K : PySem.W.Frag) (ta : TE) : TE := fun σ H Q => ta σ H fun x H1 => truP K x H1 fun k => Q (.bl (!k)) H1
theorem peor (ha : PE X a ta) (hb : PE X (.BoolOp .Or (b :: rest) pos) tb) : PE X (.BoolOp .Or (a :: b :: rest) pos) (tOrE X.K ta tb) := by
  refine ⟨fun pins s σ H Q I h => ?_⟩
  refine BoolOp_or (thn (ha.run pins s σ H _ I h) fun v s1 ⟨x, H1, I1, r1, q1⟩ => ?_)
  obtain ⟨k, e, q1⟩ := truP_e q1
  refine thn (tru_ok pins s1 σ H1 x v (fun c H2 => c = k ∧ H2 = H1) I1 r1 ⟨k, e, rfl, rfl⟩) fun c s2 hc => ?_
  obtain ⟨H2, I2, e1, e2⟩ := hc
  rw [e2] at I2
  rw [← e1] at q1
  have q1 := cnd_e q1
  cases c with
  | true => exact ⟨x, H1, I2, r1, q1⟩
  | false => exact hb.run pins s2 σ H1 Q I2 q1
theorem peand (ha : PE X a ta) (hb : PE X (.BoolOp .And (b :: rest) pos) tb) : PE X (.BoolOp .And (a :: b :: rest) pos) (tAndE X.K ta tb) := by
  refine ⟨fun pins s σ H Q I h => ?_⟩
  refine BoolOp_and (thn (ha.run pins s σ H _ I h) fun v s1 ⟨x, H1, I1, r1, q1⟩ => ?_)
  obtain ⟨k, e, q1⟩ := truP_e q1
  refine thn (tru_ok pins s1 σ H1 x v (fun c H2 => c = k ∧ H2 = H1) I1 r1 ⟨k, e, rfl, rfl⟩) fun c s2 hc => ?_
  obtain ⟨H2, I2, e1, e2⟩ := hc
  rw [e2] at I2
  rw [← e1] at q1
  have q1 := cnd_e q1
  cases c with
  | true => exact hb.run pins s2 σ H1 Q I2 q1
  | false => exact ⟨x, H1, I2, r1, q1⟩
theorem penot (ha : PE X a ta) : PE X (.UnaryOp .Not a pos) (tNotE X.K ta) := by
  refine ⟨fun pins s σ H Q I h => ?_⟩
  refine UnaryOp_ (thn (ha.run pins s σ H _ I h) fun v s1 ⟨x, H1, I1, r1, q1⟩ => ?_)
  obtain ⟨k, e, q1⟩ := truP_e q1
  exact not_of (thn (tru_ok pins s1 σ H1 x v (fun c H2 => Q (.bl (!c)) H2) I1 r1 ⟨k, e, q1⟩) fun c s2 ⟨H2, I2, q2⟩ => ⟨.bl (!c), H2, I2, rfl, q2⟩)
def tIfE (t : TT) (ta tb : TE) : TE := fun σ H Q => t σ H fun c H1 => cnd c (ta σ H1 Q) (tb σ H1 Q)
theorem peif (hc : PT X c tA) (ha : PE X a ta) (hb : PE X b tb) : PE X (.IfExp c a b pos) (tIfE tA ta tb) := by
  refine ⟨fun pins s σ H Q I h => ?_⟩
  refine wpAny_IfExp (thn (hc.run pins s σ H _ I h) fun d s1 ⟨H1, I1, q1⟩ => ?_)
  have q1 := cnd_e q1
  cases d with
  | true => exact ha.run pins s1 σ H1 Q I1 q1
  | false => exact hb.run pins s1 σ H1 Q I1 q1
/-- a op1 b op2 c -/
def tChn (r r' : R2) (ta tb tc : TE) : TE := fun σ H Q => ta σ H fun x H1 => tb σ H1 fun y H2 => r x y H2 fun z H3 => match z with
  | .bl k => cnd k (tc σ H3 fun w' H4 => r' y w' H4 Q) (Q (.bl false) H3)
  | _ => False
theorem pechn {op op' : CmpOp} {r r' : R2} (ho : OpR X (compareOp op) r) (ho' : OpR X (compareOp op') r') (ha : PE X a ta) (hb : PE X b tb) (hc : PE X c tc)
    (hm : lastMarks [op, op'] [b, c] = false := by with_unfolding_all rfl) : PE X (.Compare a [op, op'] [b, c] pos) (tChn r r' ta tb tc) := by
  refine ⟨fun pins s σ H Q I h => ?_⟩
  refine Compare_chain (thn (ha.run pins s σ H _ I h) fun v s1 ⟨x, H1, I1, r1, q1⟩ => chain_link (thn (hb.run pins s1 σ H1 _ I1 q1) fun u s2 ⟨y, H2, I2, r2, q2⟩ =>
    thn (ho pins s2 σ H2 x y v u _ I2 r1 r2 q2) fun d s3 ⟨z, H3, I3, r3, q3⟩ => ?_)) hm
  obtain ⟨k, rfl, q3⟩ := bl_of q3
  have q3 := cnd_e q3
  cases r3
  refine wpAny_truthy_bool ?_
  cases k with
  | false => exact ite_ff ⟨.bl false, H3, I3, rfl, q3⟩
  | true => exact ite_tt (chain_last (thn (hc.run pins s3 σ H3 _ I3 q3) fun w' s4 ⟨z', H4, I4, r4, q4⟩ => ho' pins s4 σ H4 y z' u w' Q I4 r2 r4 q4))
theorem ptchn {op op' : CmpOp} {r r' : R2} (ho : OpR X (compareOp op) r) (ho' : OpR X (compareOp op') r') (ha : PE X a ta) (hb : PE X b tb) (hc : PE X c tc)
    (hm : lastMarks [op, op'] [b, c] = false := by with_unfolding_all rfl) : PT X (.Compare a [op, op'] [b, c] pos) (tTst (tChn r r' ta tb tc)) := by
  refine ⟨fun pins s σ H Q I h => ?_⟩
  refine isTrue_chain (thn (ha.run pins s σ H _ I h) fun v s1 ⟨x, H1, I1, r1, q1⟩ => test_link (thn (hb.run pins s1 σ H1 _ I1 q1) fun u s2 ⟨y, H2, I2, r2, q2⟩ =>
    thn (ho pins s2 σ H2 x y v u _ I2 r1 r2 q2) fun d s3 ⟨z, H3, I3, r3, q3⟩ => ?_)) hm
  obtain ⟨k, rfl, q3⟩ := bl_of q3
  have q3 := cnd_e q3
  cases r3
  refine wpAny_truthy_bool ?_
  cases k with
  | false => exact ite_ff ⟨H3, I3, q3⟩
  | true =>
    refine ite_tt (test_last (thn (hc.run pins s3 σ H3 _ I3 q3) fun w' s4 ⟨z', H4, I4, r4, q4⟩ => thn (ho' pins s4 σ H4 y z' u w' _ I4 r2 r4 q4) fun d' s5 ⟨z2, H5, I5, r5, q5⟩ => ?_))
    obtain ⟨k2, rfl, q5⟩ := bl_of q5
    cases r5
    exact wpAny_truthy_bool ⟨H5, I5, q5⟩
end

/-! ### operators by value -/
section
variable {X : Cx}
def zAdd : R2 := fun x y H Q => match x with
  | .int i => (match y with
    | .int j => Q (.int (i + j)) H
    | _ => False)
  | .str a => (match y with
    | .str b => Lim ((tl a).length + (tl b).length) ∧ Q (.str (S (tl a ++ tl b))) H
    | _ => False)
  | .ref p => (match y with
    | .ref q => look H p fun o => match o with
      | some (.lst xs) => look H q fun o' => (match o' with
        | some (.lst ys) => Lim (xs.length + ys.length) ∧ ∀ r, H r = none → Q (.ref r) (upd H r (.lst (xs ++ ys)))
        | _ => False)
      | _ => False
    | _ => False)
  | _ => False
theorem opadd : OpR X (binaryOp .Add) zAdd := by
  intro pins s σ H x y v u Q I rx ry h
  cases x with
  | int i =>
    cases y with
    | int j => exact op_add pins s σ H _ _ v u Q I rx ry ⟨i, j, rfl, rfl, h⟩
    | _ => exact False.elim h
  | str i =>
    cases y with
    | str j => exact op_add_str pins s σ H _ _ v u Q I rx ry ⟨i, j, rfl, rfl, by rw [len_tl, len_tl]; exact h.1, by rw [add_S]; exact h.2⟩
    | _ => exact False.elim h
  | ref p =>
    cases y with
    | ref q =>
      have h := look_e h
      cases e : H p with
      | none => rw [e] at h; exact h.elim
      | some o =>
        rw [e] at h
        cases o with
        | lst xs =>
          have h := look_e h
          cases e' : H q with
          | none => rw [e'] at h; exact h.elim
          | some o' =>
            rw [e'] at h
            cases o' with
            | lst ys => exact op_cat pins s σ H _ _ v u Q I rx ry ⟨p, q, xs, ys, rfl, rfl, e, e', h.1, h.2⟩
            | _ => exact h.elim
        | _ => exact h.elim
    | _ => exact False.elim h
  | _ => exact False.elim h
def zI2 (C : Int → Int → Prop) (g : Int → Int → V) : R2 := fun x y H Q => match x with
  | .int i => (match y with
    | .int j => C i j ∧ Q (g i j) H
    | _ => False)
  | _ => False
def zI2f (g : Int → Int → V) : R2 := fun x y H Q => match x with
  | .int i => (match y with
    | .int j => Q (g i j) H
    | _ => False)
  | _ => False
theorem zI2_e {C : Int → Int → Prop} {g : Int → Int → V} {x y : V} {H : Hp} {Q : VK} (h : zI2 C g x y H Q) : rI C g x y H Q := by
  cases x with
  | int i => cases y with
    | int j => exact ⟨i, j, rfl, rfl, h.1, h.2⟩
    | _ => exact h.elim
  | _ => exact h.elim
theorem zI2f_e {g : Int → Int → V} {x y : V} {H : Hp} {Q : VK} (h : zI2f g x y H Q) : rI0 g x y H Q := by
  cases x with
  | int i => cases y with
    | int j => exact ⟨i, j, rfl, rfl, h⟩
    | _ => exact h.elim
  | _ => exact h.elim
def zSub : R2 := zI2f fun i j => .int (i - j)
def zMul : R2 := zI2 CMul fun i j => .int (i * j)
def zMod : R2 := zI2 (fun _ j => 0 < j) fun i j => .int (i % j)
def zDiv : R2 := zI2 CDiv fun i j => .int (i / j)
def zPow : R2 := zI2 CPow fun i j => .int (i ^ j.toNat)
theorem opsub : OpR X (binaryOp .Sub) zSub := op_imp op_sub fun _ _ _ _ h => zI2f_e h
theorem opmul : OpR X (binaryOp .Mult) zMul := op_imp op_mul fun _ _ _ _ h => zI2_e h
theorem opmod : OpR X (binaryOp .Mod) zMod := op_imp op_mod fun _ _ _ _ h => zI2_e h
theorem opdiv : OpR X (binaryOp .FloorDiv) zDiv := op_imp op_fdiv fun _ _ _ _ h => zI2_e h
theorem oppow : OpR X (binaryOp .Pow) zPow := op_imp op_pow fun _ _ _ _ h => zI2_e h
def zNeg : V → Hp → VK → Prop := fun x H Q => match x with
  | .int i => Q (.int (-i)) H
  | _ => False
theorem unneg : UnR X (unaryOp .USub) zNeg := fun pins s σ H x v Q I rx h => by
  cases x with
  | int i => exact un_neg pins s σ H _ v Q I rx ⟨i, rfl, h⟩
  | _ => exact h.elim
/-! comparisons -/
def zLt : R2 := fun x y H Q => match x with
  | .int i => (match y with
    | .int j => Q (.bl (decide (i < j))) H
    | _ => False)
  | .str a => (match y with
    | .str b => Q (.bl (decide (tl a < tl b))) H
    | _ => False)
  | _ => False
theorem oplt : OpR X (compareOp .Lt) zLt := by
  intro pins s σ H x y v u Q I rx ry h
  cases x with
  | int i => cases y with
    | int j => exact op_lt pins s σ H _ _ v u Q I rx ry ⟨i, j, rfl, rfl, h⟩
    | _ => exact False.elim h
  | str i => cases y with
    | str j => exact op_lt_str pins s σ H _ _ v u Q I rx ry ⟨i, j, rfl, rfl, h⟩
    | _ => exact False.elim h
  | _ => exact False.elim h
def zLe : R2 := zI2f fun i j => .bl (decide (i ≤ j))
def zGt : R2 := zI2f fun i j => .bl (decide (j < i))
def zGe : R2 := zI2f fun i j => .bl (decide (j ≤ i))
theorem ople : OpR X (compareOp .LtE) zLe := op_imp op_le fun _ _ _ _ h => zI2f_e h
theorem opgt : OpR X (compareOp .Gt) zGt := op_imp op_gt fun _ _ _ _ h => zI2f_e h
theorem opge : OpR X (compareOp .GtE) zGe := op_imp op_ge fun _ _ _ _ h => zI2f_e h
/-- == of data at addresses -/
structure dpq (K : PySem.W.Frag) (x y : V) (H : Hp) (Q : Bool → Prop) : Prop where
  out : ∃ d e, Dp K H x d ∧ Dp K H y e ∧ SeqAt.shaped d = true ∧ SeqAt.shaped e = true ∧ Q (PyData.eqv d e)
theorem dpq_i {K : PySem.W.Frag} {x y : V} {H : Hp} {Q : Bool → Prop} {d e : PyData} (h1 : Dp K H x d) (h2 : Dp K H y e) (h3 : SeqAt.shaped d = true) (h4 : SeqAt.shaped e = true) (q : Q (PyData.eqv d e)) : dpq K x y H Q := by refine ⟨?_⟩; exact ⟨d, e, h1, h2, h3, h4, q⟩
theorem dpq_e {K : PySem.W.Frag} {x y : V} {H : Hp} {Q : Bool → Prop} (h : dpq K x y H Q) : ∃ d e, Dp K H x d ∧ Dp K H y e ∧ SeqAt.shaped d = true ∧ SeqAt.shaped e = true ∧ Q (PyData.eqv d e) := by replace h := h.out; exact h
/-- what == tells of two values; data at addresses by Dp -/
def eqP (K : PySem.W.Frag) (x y : V) (H : Hp) (Q : Bool → Prop) : Prop := match x with
  | .int i => (match y with
    | .int j => Q (decide (i = j))
    | .non => Q false
    | .str _ => Q false
    | _ => False)
  | .str a => (match y with
    | .str b => Q (decide (tl a = tl b))
    | .non => Q false
    | .int _ => Q false
    | .bl _ => Q false
    | _ => False)
  | .bl a => (match y with
    | .bl b => Q (decide (a = b))
    | .non => Q false
    | .str _ => Q false
    | _ => False)
  | .non => (match y with
    | .non => Q true
    | .int _ => Q false
    | .bl _ => Q false
    | .str _ => Q false
    | _ => False)
  | .ref p => dpq K x y H Q
  | _ => False
theorem eqP_e {K : PySem.W.Frag} {x y : V} {H : Hp} {Q : Bool → Prop} (h : eqP K x y H Q) : (scal x y = true ∧ Q (decide (x = y))) ∨ ∃ d e, Dp K H x d ∧ Dp K H y e ∧ SeqAt.shaped d = true ∧ SeqAt.shaped e = true ∧ Q (PyData.eqv d e) := by
  cases x with
  | int i => cases y with
    | int j => exact .inl ⟨rfl, by simp; exact h⟩
    | non => exact .inl ⟨rfl, by simp; exact h⟩
    | str j => exact .inl ⟨rfl, by simp; exact h⟩
    | _ => exact h.elim
  | str i => cases y with
    | str j =>
      refine .inl ⟨rfl, ?_⟩
      have e : decide (V.str i = V.str j) = decide (tl i = tl j) := decide_eq_decide.mpr ⟨fun z => by injection z with z; rw [z], fun z => by rw [ext_tl z]⟩
      rw [e]; exact h
    | non => exact .inl ⟨rfl, by simp; exact h⟩
    | int j => exact .inl ⟨rfl, by simp; exact h⟩
    | bl j => exact .inl ⟨rfl, by simp; exact h⟩
    | _ => exact h.elim
  | bl i => cases y with
    | bl j => exact .inl ⟨rfl, by simp; exact h⟩
    | non => exact .inl ⟨rfl, by simp; exact h⟩
    | str j => exact .inl ⟨rfl, by simp; exact h⟩
    | _ => exact h.elim
  | non => cases y with
    | non => exact .inl ⟨rfl, by simp; exact h⟩
    | int j => exact .inl ⟨rfl, by simp; exact h⟩
    | bl j => exact .inl ⟨rfl, by simp; exact h⟩
    | str j => exact .inl ⟨rfl, by simp; exact h⟩
    | _ => exact h.elim
  | ref p => exact .inr (dpq_e h)
  | _ => exact h.elim
def zEqP (K : PySem.W.Frag) : R2 := fun x y H Q => eqP K x y H fun k => Q (.bl k) H
def zNeP (K : PySem.W.Frag) : R2 := fun x y H Q => eqP K x y H fun k => Q (.bl (!k)) H
theorem opeq (hu : X.A.units + 64 < cLine) : OpR X (compareOp .Eq) (zEqP X.K) := fun pins s σ H x y v u Q I rx ry h => by
  rcases eqP_e h with h | h
  · exact op_eq pins s σ H x y v u Q I rx ry h
  · exact op_eqD hu pins s σ H x y v u Q I rx ry h
theorem opne (hu : X.A.units + 64 < cLine) : OpR X (compareOp .NotEq) (zNeP X.K) := fun pins s σ H x y v u Q I rx ry h => by
  rcases eqP_e (Q := fun k => Q (.bl (!k)) H) h with h | h
  · exact op_ne pins s σ H x y v u Q I rx ry h
  · exact op_neD hu pins s σ H x y v u Q I rx ry h
/-- x is None -/
def zIsP : R2 := fun x y H Q => match y with
  | .non => Q (.bl (decide (x = .non))) H
  | _ => False
def zIsnP : R2 := fun x y H Q => match y with
  | .non => Q (.bl (!decide (x = .non))) H
  | _ => False
theorem opis : OpR X (compareOp .Is) zIsP := op_imp op_isN fun x y H Q h => by
  cases y with
  | non => exact ⟨rfl, h⟩
  | _ => exact h.elim
theorem opisn : OpR X (compareOp .IsNot) zIsnP := op_imp op_notN fun x y H Q h => by
  cases y with
  | non => exact ⟨rfl, h⟩
  | _ => exact h.elim
end
end Ta

set_option Elab.async false
set_option linter.all false
set_option maxRecDepth 100000
set_option maxHeartbeats 1000000
namespace Ta
open PySem PySem.Spec PyProof.Rows L2

/-! ### items -/
structure itm {α : Type} (xs : List α) (i : Int) (k : α → Prop) : Prop where
  out : ∃ v, atI xs i = some v ∧ k v
theorem itm_i {α : Type} {xs : List α} {i : Int} {k : α → Prop} {v : α} (h : atI xs i = some v) (q : k v) : itm xs i k := by refine ⟨?_⟩; exact ⟨v, h, q⟩
theorem itm_e {α : Type} {xs : List α} {i : Int} {k : α → Prop} (q : itm xs i k) : ∃ v, atI xs i = some v ∧ k v := by replace q := q.out; exact q
theorem itm_n {α : Type} {xs : List α} {i : Int} {j : Nat} {k : α → Prop} {v : α} (e : i = (j : Int)) (h : xs[j]? = some v) (q : k v) : itm xs i k := by
  subst e; exact itm_i (atI_nat h) q
section
variable {X : Cx}
def zIxP (K : PySem.W.Frag) : R2 := fun x y H Q => match y with
  | .int i => (match x with
    | .str z => Lim (tl z).length ∧ itm (tl z) i fun c => Q (.str (S [c])) H
    | .ref p => look H p fun o => match o with
      | some (.lst xs) => itm xs i fun v => Q v H
      | some (.tup xs) => itm xs i fun v => Q v H
      | some (.frz _ (.lst xs)) => itm xs i fun v => Q v H
      | _ => ∃ xs, (SqL K H p xs ∨ SqT K H p xs) ∧ itm xs i fun v => Q v H
    | _ => False)
  | _ => False
theorem ixp : IxR X (zIxP X.K) := by
  refine ix_imp ix_seq fun x y H Q h => ?_
  cases y with
  | int i =>
    cases x with
    | str z =>
      obtain ⟨h1, h2⟩ := h
      obtain ⟨c, e, q⟩ := itm_e h2
      exact .inr (.inr ⟨z, i, c, rfl, rfl, by rw [len_tl]; exact h1, e, q⟩)
    | ref p =>
      have h := look_e h
      have fin : ∀ xs, SqL X.K H p xs ∨ SqT X.K H p xs → (itm xs i fun v => Q v H) → rIx X.K (.ref p) (.int i) H Q := fun xs hs h2 => by
        obtain ⟨v, e, q⟩ := itm_e h2
        rcases hs with hs | hs
        · exact .inl ⟨p, xs, i, v, rfl, rfl, hs, e, q⟩
        · exact .inr (.inl ⟨p, xs, i, v, rfl, rfl, hs, e, q⟩)
      revert h
      cases e : H p with
      | none => exact fun ⟨xs, h1, h2⟩ => fin xs h1 h2
      | some o =>
        cases o with
        | lst xs => exact fun h2 => fin xs (.inl (SqL.of e)) h2
        | tup xs => exact fun h2 => fin xs (.inr (SqT.of e)) h2
        | frz ob u =>
          cases u with
          | lst xs => exact fun h2 => fin xs (.inl (.inl (.inr ⟨_, e⟩))) h2
          | _ => exact fun ⟨xs, h1, h2⟩ => fin xs h1 h2
        | _ => exact fun ⟨xs, h1, h2⟩ => fin xs h1 h2
    | _ => exact h.elim
  | _ => exact h.elim
variable {a b c : Expr} {ta tb tc : TE} {pos : Pos}
theorem pix (ha : PE X a ta) (hb : PE X b tb) (hs : PlainIx b := by exact fun _ _ => rfl) : PE X (.Subscript a b pos) (tOp (zIxP X.K) ta tb) := pe_ix ixp ha hb hs

/-! ### slices -/
def cut0 {α : Type} (xs : List α) (lo hi : Option Int) : List α := (xs.drop (HT.sIx xs.length 0 lo)).take (HT.sIx xs.length xs.length hi - HT.sIx xs.length 0 lo)
def ixS (n : Nat) (i : Int) : Nat := match i with
  | .ofNat k => k
  | .negSucc k => n - (k + 1)
/-- xs[lo:hi], as take and drop -/
def cut {α : Type} (xs : List α) (lo hi : Option Int) : List α := match hi with
  | none => (match lo with
    | none => xs
    | some i => xs.drop (ixS xs.length i))
  | some j => (match lo with
    | none => xs.take (ixS xs.length j)
    | some i => (xs.take (ixS xs.length j)).drop (ixS xs.length i))
theorem sIx_ixS (n d : Nat) (i : Int) : HT.sIx n d (some i) = min (ixS n i) n := by
  cases i with
  | ofNat k => exact HT.sIx_nat n d k
  | negSucc k =>
    show (if (Int.negSucc k) < 0 then (Int.negSucc k + (n : Int)).toNat else min (Int.negSucc k).toNat n) = min (n - (k + 1)) n
    rw [if_pos (by omega)]; omega
theorem take_min {α : Type} (xs : List α) (k : Nat) : xs.take (min k xs.length) = xs.take k := by
  rw [List.take_eq_take_iff]; omega
theorem drop_min {α : Type} (xs : List α) (k : Nat) : xs.drop (min k xs.length) = xs.drop k := by
  by_cases h : k ≤ xs.length
  · rw [Nat.min_eq_left h]
  · rw [Nat.min_eq_right (by omega), List.drop_eq_nil_of_le (Nat.le_refl _), List.drop_eq_nil_of_le (by omega)]
theorem cut_eq0 {α : Type} (xs : List α) (lo hi : Option Int) : cut0 xs lo hi = cut xs lo hi := by
  unfold cut0
  rw [← List.drop_take]
  cases hi with
  | none =>
    cases lo with
    | none => rw [HT.sIx_none, HT.sIx_none, List.take_length]; rfl
    | some i => rw [HT.sIx_none, sIx_ixS, List.take_length]; exact drop_min xs _
  | some j =>
    rw [sIx_ixS, take_min]
    cases lo with
    | none => rfl
    | some i =>
      rw [sIx_ixS]
      show (xs.take (ixS xs.length j)).drop (min (ixS xs.length i) xs.length) = (xs.take (ixS xs.length j)).drop (ixS xs.length i)
      by_cases h : ixS xs.length i ≤ xs.length
      · rw [Nat.min_eq_left h]
      · rw [Nat.min_eq_right (by omega), List.drop_eq_nil_of_le (by rw [List.length_take]; omega), List.drop_eq_nil_of_le (by rw [List.length_take]; omega)]
theorem cutS_S (z : Str) (lo hi : Option Int) : cutS z lo hi = S (cut (tl z) lo hi) := by
  rw [← cut_eq0]
  unfold cutS cut0
  simp only [len_tl]
theorem cut_len {α : Type} (xs : List α) (lo hi : Option Int) : (cut xs lo hi).length ≤ xs.length := by
  rw [← cut_eq0]; unfold cut0; rw [List.length_take, List.length_drop]; omega
theorem cut_to {α : Type} (xs : List α) (k : Nat) : cut xs none (some (k : Int)) = xs.take k := rfl
theorem cut_from {α : Type} (xs : List α) (k : Nat) : cut xs (some (k : Int)) none = xs.drop k := rfl
theorem cut_both {α : Type} (xs : List α) (i j : Nat) : cut xs (some (i : Int)) (some (j : Int)) = (xs.take j).drop i := rfl
theorem cut_toI {α : Type} (xs : List α) {k : Int} (h : 0 ≤ k) : cut xs none (some k) = xs.take k.toNat := by
  obtain ⟨n, rfl⟩ := Int.eq_ofNat_of_zero_le h; exact cut_to xs n
theorem cut_fromI {α : Type} (xs : List α) {k : Int} (h : 0 ≤ k) : cut xs (some k) none = xs.drop k.toNat := by
  obtain ⟨n, rfl⟩ := Int.eq_ofNat_of_zero_le h; exact cut_from xs n
def zSlP (K : PySem.W.Frag) : V → Option Int → Option Int → Hp → VK → Prop := fun x lo hi H Q => match x with
  | .str z => Lim (tl z).length ∧ Q (.str (S (cut (tl z) lo hi))) H
  | .ref p => look H p fun o => match o with
    | some (.lst xs) => ∀ p', H p' = none → Q (.ref p') (upd H p' (.lst (cut xs lo hi)))
    | some (.frz _ (.lst xs)) => ∀ p', H p' = none → Q (.ref p') (upd H p' (.lst (cut xs lo hi)))
    | _ => False
  | _ => False
theorem slp : SlR X (zSlP X.K) := by
  refine sl_imp (sl_str.or sl_list) fun x lo hi H Q h => ?_
  cases x with
  | str z => exact .inl ⟨z, rfl, by rw [len_tl]; exact h.1, by rw [cutS_S]; exact h.2⟩
  | ref p =>
    have h := look_e h
    revert h
    cases e : H p with
    | none => exact fun h => h.elim
    | some o =>
      cases o with
      | lst xs => exact fun h2 => .inr ⟨p, xs, rfl, SqL.of e, (cut_eq0 xs lo hi ▸ h2 : ∀ p', H p' = none → Q (V.ref p') (upd H p' (HO.lst (cut0 xs lo hi))))⟩
      | frz ob u =>
        cases u with
        | lst xs => exact fun h2 => .inr ⟨p, xs, rfl, .inl (.inr ⟨_, e⟩), (cut_eq0 xs lo hi ▸ h2 : ∀ p', H p' = none → Q (V.ref p') (upd H p' (HO.lst (cut0 xs lo hi))))⟩
        | _ => exact fun h => h.elim
      | _ => exact fun h => h.elim
  | _ => exact h.elim
def tPrt (t : TE) : TO := fun σ H Q => t σ H fun x H1 => match x with
  | .int i => Q (some i) H1
  | _ => False
theorem posome (h : PE X a ta) : PO X (some a) (tPrt ta) := by
  refine ⟨fun pins s σ H Q I hw => ?_⟩
  rw [evalPart_some]
  refine thn (h.run pins s σ H _ I hw) fun u s1 ⟨x, H1, I1, r1, q1⟩ => ?_
  cases x with
  | int i =>
    obtain ⟨t, rfl⟩ := r1
    exact ⟨some i, H1, I1, .int i t, q1⟩
  | _ => exact False.elim q1
theorem psl {lo hi : Option Expr} {t1 t2 : TO} {p2 : Pos} (ha : PE X a ta) (hl : PO X lo t1) (hh : PO X hi t2) : PE X (.Subscript a (.Slice lo hi none p2) pos) (tSl (zSlP X.K) ta t1 t2) := pe_slice slp ha hl hh

/-! ### in -/
def occ (a b : List Nat) : Bool := !(Builtin.Str.occurrences (S b) (S a) 0 (S b).length 1).isEmpty
def inP (K : PySem.W.Frag) (x y : V) (H : Hp) (Q : Bool → Prop) : Prop := match y with
  | .str b => (match x with
    | .str a => (match tl a with
      | [c] => Q (decide (c ∈ tl b))
      | l => Q (occ l (tl b)))
    | _ => False)
  | .ref p => look H p fun o => match o with
    | some (.lst xs) => flatV x = true ∧ xs.all flatV = true ∧ Q (inV x xs)
    | some (.tup xs) => flatV x = true ∧ xs.all flatV = true ∧ Q (inV x xs)
    | some (.frz _ (.lst xs)) => flatV x = true ∧ xs.all flatV = true ∧ Q (inV x xs)
    | _ => ∃ xs, (SqL K H p xs ∨ SqT K H p xs) ∧ flatV x = true ∧ xs.all flatV = true ∧ Q (inV x xs)
  | _ => False
theorem inP_e {K : PySem.W.Frag} {x y : V} {H : Hp} {Q : Bool → Prop} (h : inP K x y H Q) :
    (∃ (c : Nat) (z : Str), x = .str ⟨#[c]⟩ ∧ y = .str z ∧ Q (decide (c ∈ z.cps.toList))) ∨ (∃ i j, x = .str i ∧ y = .str j ∧ Q (!(Builtin.Str.occurrences j i 0 j.length 1).isEmpty)) ∨
    ∃ p xs, y = .ref p ∧ (SqL K H p xs ∨ SqT K H p xs) ∧ flatV x = true ∧ xs.all flatV = true ∧ Q (inV x xs) := by
  cases y with
  | str b =>
    cases x with
    | str a =>
      have h' : (match tl a with
        | [c] => Q (decide (c ∈ tl b))
        | l => Q (occ l (tl b))) := h
      split at h'
      · rename_i c e
        exact .inl ⟨c, b, by rw [← S_tl a, e], rfl, h'⟩
      · refine .inr (.inl ⟨a, b, rfl, rfl, ?_⟩)
        unfold occ at h'
        rw [S_tl, S_tl] at h'
        exact h'
    | _ => exact h.elim
  | ref p =>
    have h := look_e h
    revert h
    cases e : H p with
    | none => exact fun ⟨xs, h1, h2⟩ => .inr (.inr ⟨p, xs, rfl, h1, h2⟩)
    | some o =>
      cases o with
      | lst xs => exact fun h2 => .inr (.inr ⟨p, xs, rfl, .inl (SqL.of e), h2⟩)
      | tup xs => exact fun h2 => .inr (.inr ⟨p, xs, rfl, .inr (SqT.of e), h2⟩)
      | frz ob u =>
        cases u with
        | lst xs => exact fun h2 => .inr (.inr ⟨p, xs, rfl, .inl (.inl (.inr ⟨_, e⟩)), h2⟩)
        | _ => exact fun ⟨xs, h1, h2⟩ => .inr (.inr ⟨p, xs, rfl, h1, h2⟩)
      | _ => exact fun ⟨xs, h1, h2⟩ => .inr (.inr ⟨p, xs, rfl, h1, h2⟩)
  | _ => exact h.elim
def zInP (K : PySem.W.Frag) : R2 := fun x y H Q => inP K x y H fun k => Q (.bl k) H
def zNinP (K : PySem.W.Frag) : R2 := fun x y H Q => inP K x y H fun k => Q (.bl (!k)) H
theorem opin : OpR X (compareOp .In) (zInP X.K) := by
  refine op_imp (op_in_sign.or (op_in_str.or op_in_seq)) fun x y H Q h => ?_
  rcases inP_e h with h | h | h
  · exact .inl h
  · exact .inr (.inl h)
  · exact .inr (.inr h)
theorem opnin : OpR X (compareOp .NotIn) (zNinP X.K) := by
  refine op_imp (op_notIn_sign.or (op_notin_str.or op_notIn_seq)) fun x y H Q h => ?_
  rcases inP_e (Q := fun k => Q (.bl (!k)) H) h with h | h | h
  · exact .inl h
  · exact .inr (.inl h)
  · exact .inr (.inr h)

/-! ### statements -/
variable {st : Stmt} {t u : TS} {rest : List Stmt} {tA : TT}
def tIfP (c : TT) (t u : TS) : TS := fun D σ H => c σ H fun b H1 => cnd b (t D σ H1) (u D σ H1)
theorem psif {p q : List Stmt} (hc : PT X c tA) (ha : PSs X p t) (hb : PSs X q u) : PS X (.If c p q pos) (tIfP tA t u) := by
  refine ⟨fun pins s σ H D I h => ?_⟩
  refine wpAny_If (thn (hc.run pins s σ H _ I h) fun d s1 ⟨H1, I1, q1⟩ => ?_)
  have q1 := cnd_e q1
  cases d with
  | true => exact ha.run pins s1 σ H1 D I1 q1
  | false => exact hb.run pins s1 σ H1 D I1 q1
/-- o[i] = e, o a list -/
def zSetP : TSet := fun o i v H Q => match o with
  | .ref p => (match i with
    | .int k => look H p fun ob => (match ob with
      | some (.lst xs) => ∃ j, ixN xs.length k = some j ∧ Q (upd H p (.lst (xs.set j v)))
      | _ => False)
    | _ => False)
  | _ => False
theorem setp : PSet X zSetP := by
  have base : ∀ o i v H Q, zSetP o i v H Q → rSetL o i v H Q := fun o i v H Q h => by
    cases o with
    | ref p => cases i with
      | int k =>
        have h := look_e h
        revert h
        cases e : H p with
        | none => exact fun h => h.elim
        | some ob =>
          cases ob with
          | lst xs => exact fun ⟨j, h1, h2⟩ => ⟨p, xs, k, j, rfl, rfl, e, h1, h2⟩
          | _ => exact fun h => h.elim
      | _ => exact h.elim
    | _ => exact h.elim
  intro pins s σ H o i v ov iv vv Q I r1 r2 r3 h
  exact set_list pins s σ H o i v ov iv vv Q I r1 r2 r3 (base _ _ _ _ _ h)
end
end Ta

set_option Elab.async false
set_option linter.all false
set_option maxRecDepth 100000
set_option maxHeartbeats 1000000
namespace Ta
open PySem PySem.Spec PyProof.Rows L2

/-! ### defs, methods, classes of the text -/
section
variable (P : Program) (w : World) (K : PySem.W.Frag) (mg : Str → Option Value) (base : Heap)
structure Fn (x : Str) (lv : Nat) (dvs : List V) (sp : Sp) : Prop where
  ex : ∃ (f : Addr) (fd : FuncData) (ps : List Str) (ds : List Value), FnOk P w K mg base (L2.CX P w) lv f fd ps sp ∧ mg x = some (.ref f) ∧ PySem.W.keepIn K (.ref f) = true ∧ Vals dvs ds ∧ Binds K fd ps ds
structure Me (C : Addr) (m : Str) (lv : Nat) (dvs : List V) (sp : Sp) : Prop where
  ex : ∃ (f : Addr) (fd : FuncData) (ps : List Str) (ds : List Value), FnOk P w K mg base (L2.CX P w) lv f fd ps sp ∧ Meth K C m f ∧ Vals dvs ds ∧ Binds K fd ps ds
  cl : Cls K C
structure Mks (x : Str) (C : Addr) (lv : Nat) (dvs : List V) (sp : Sp) : Prop where
  ex : ∃ (f : Addr) (fd : FuncData) (ps : List Str) (ds : List Value), FnOk P w K mg base (L2.CX P w) lv f fd ps sp ∧ Mk K C f ∧ mg x = some (.ref C) ∧ Vals dvs ds ∧ Binds K fd ps ds
end
abbrev WF : WX := fun _ _ _ _ => False
/-- f(..) -/
def tCal (sp : Sp) (dvs : List V) (W : WX) (t : TA) : TE := fun σ H Q => t σ H fun vs H1 => sp (vs ++ dvs) H1 Q fun c d H' => W c d σ H'
/-- C(..) -/
def tMak (C : Addr) (sp : Sp) (dvs : List V) (W : WX) (t : TA) : TE := fun σ H Q => t σ H fun vs H1 => ∀ x dx, H1 x = none → H1 dx = none → dx ≠ x →
  sp (.ref x :: (vs ++ dvs)) (upd (upd H1 dx (.own x)) x (.ins C dx [])) (fun v H2 => v = .non ∧ Q (.ref x) H2) fun c d H' => W c d σ H'
abbrev MS := List (Addr × List V × Sp)
structure pick (ms : MS) (C : Addr) (k : List V → Sp → Prop) : Prop where
  out : ∃ e ∈ ms, e.1 = C ∧ k e.2.1 e.2.2
theorem pick_1 {C : Addr} {dvs : List V} {sp : Sp} {k : List V → Sp → Prop} {r : MS} (h : k dvs sp) : pick ((C, dvs, sp) :: r) C k := by refine ⟨?_⟩; exact ⟨_, List.mem_cons_self, rfl, h⟩
theorem pick_n {ms : MS} {C : Addr} {k : List V → Sp → Prop} {e} (h : pick ms C k) : pick (e :: ms) C k := by
  replace h := h.out; refine ⟨?_⟩
  obtain ⟨e', h1, h2⟩ := h
  exact ⟨e', List.mem_cons_of_mem _ h1, h2⟩
/-- o.m(..) -/
def tMe (ms : MS) (m : Str) (W : WX) (ta : TE) (t : TA) : TE := fun σ H Q => ta σ H fun x H1 => match x with
  | .ref a => look H1 a fun o => (match o with
    | some (.ins C dx fs) => pick ms C fun dvs sp => fs.lookup m = none ∧ t σ H1 fun vs H2 => sp (.ref a :: (vs ++ dvs)) H2 Q fun c d H' => W c d σ H'
    | _ => False)
  | _ => False
section
variable {X : Cx} {x m : Str} {p pos apos : Pos} {e o : Expr} {es : List Expr} {ta : TE} {t : TA} {lv : Nat} {dvs : List V} {sp : Sp} {W : WX} {C : Addr}
theorem pcall (F : Fn X.prog X.w X.K X.mg X.base x lv dvs sp) (hr : Room lv X.A) (tk : Takes X W) (ha : PA X (e :: es) t) (hg : Gl X x := by rfl) (hdb : (x == ("__debug__" : Str)) = false := by decide +kernel)
    (he : starEach (e :: es) X.env = (false, eval e X.env) :: starEach es X.env := by rfl) (hpl : (backTo pos (starEach es X.env)).any (·.1) = false := by rfl) :
    PE X (.Call (.Name x p) (e :: es) [] pos) (tCal sp dvs W t) := by
  obtain ⟨f, fd, ps, ds, F, hm, hk, hd, hb⟩ := F.ex
  refine ⟨fun pins s σ H Q I h => ?_⟩
  refine wpAny_Call_Name_kw (ld_glob I hg hm ?_ hdb)
  refine PySem.W.callWith_K (h₀ := X.base) I.ok.mod.kin hk (thn (ha.run pos pins s σ H _ I h) fun us s1 ⟨vs, H1, I1, r, q⟩ => ⟨I1.kIn, ?_⟩) he hpl
  exact run_fnSD (E := WE W) F hr hb hd (passAt tk σ) I1 r q
theorem pcall0 (F : Fn X.prog X.w X.K X.mg X.base x lv dvs sp) (hr : Room lv X.A) (tk : Takes X W) (hg : Gl X x := by rfl) (hdb : (x == ("__debug__" : Str)) = false := by decide +kernel) :
    PE X (.Call (.Name x p) [] [] pos) (tCal sp dvs W tNil) := by
  obtain ⟨f, fd, ps, ds, F, hm, hk, hd, hb⟩ := F.ex
  refine ⟨fun pins s σ H Q I h => ?_⟩
  refine wpAny_Call_Name_kw (ld_glob I hg hm ?_ hdb)
  exact PySem.W.callWith_K0 I.kIn hk (run_fnSD (E := WE W) (us := []) F hr hb hd (passAt tk σ) I .nil h)
theorem run_makeS {pins : List (Addr × Obj)} {σ : St} {H : Hp} {s : Shared} {Q : VK} {us ds : List Value} {vs : List V} {f : Addr} {fd : FuncData} {ps : List Str} (M : Mk X.K C f) (F : FnOk X.prog X.w X.K X.mg X.base (L2.CX X.prog X.w) lv f fd ps sp) (hr : Room (lv + 1) X.A)
    (hb : Binds X.K fd ps ds) (hd : Vals dvs ds) (tk : Takes X W) (I : Inv X pins σ H s) (r : Vals vs us)
    (h : ∀ x dx, H x = none → H dx = none → dx ≠ x → sp (.ref x :: (vs ++ dvs)) (upd (upd H dx (.own x)) x (.ins C dx [])) (fun v H2 => v = .non ∧ Q (.ref x) H2) fun c d H' => W c d σ H') :
    wpAny (model X.prog X.w) X.A (call (.ref C) us) (EP X pins σ Q) X.xe s := by
  have hq := h (s.heap.objs.size + 1) s.heap.objs.size (I.hok.fresh (Nat.le_succ _)) (I.hok.fresh (Nat.le_refl _)) (Nat.ne_of_lt (Nat.lt_succ_self _))
  have I2 := Inv.made (C := C) I
  have r2 : Vals (V.ref (s.heap.objs.size + 1) :: (vs ++ dvs)) (Value.ref (s.heap.objs.size + 1) :: (us ++ ds)) := .cons rfl (r.append hd)
  have hl : (Value.ref (s.heap.objs.size + 1) :: us ++ ds).length = ps.length := by
    have e := r2.length
    rw [F.len _ _ _ _ hq] at e
    exact e.symm
  refine wpAny_call (make_map (f := f) I.kIn M.makes M.init (beq_iff_eq.mp M.fn) (codeAny_mono (F.run _ X.stack _ _ ⟨Value.ref (s.heap.objs.size + 1) :: us, []⟩ (Value.ref (s.heap.objs.size + 1) :: (us ++ ds)) _ _ (WE W σ) (hr.make C us [])
    (I2.env0.make C us []) (hb _ (Value.ref (s.heap.objs.size + 1) :: us) I2.kIn hl) r2 hq) fun r s' hq' => ?_))
  cases r with
  | error e => exact passAt tk σ pins _ _ e s' I2 hq'
  | ok fl =>
    cases fl with
    | ret u =>
      obtain ⟨v, H', I3, rv, ev, q3⟩ := I2.after hq'
      subst ev
      exact ⟨rv, ⟨V.ref (s.heap.objs.size + 1), H', I3, rfl, q3⟩⟩
    | next => exact False.elim hq'
    | brk => exact False.elim hq'
    | cont => exact False.elim hq'
theorem pmak (F : Mks X.prog X.w X.K X.mg X.base x C lv dvs sp) (hr : Room (lv + 1) X.A) (tk : Takes X W) (ha : PA X (e :: es) t) (hg : Gl X x := by rfl) (hdb : (x == ("__debug__" : Str)) = false := by decide +kernel)
    (he : starEach (e :: es) X.env = (false, eval e X.env) :: starEach es X.env := by rfl) (hpl : (backTo pos (starEach es X.env)).any (·.1) = false := by rfl) :
    PE X (.Call (.Name x p) (e :: es) [] pos) (tMak C sp dvs W t) := by
  obtain ⟨f, fd, ps, ds, F, M, hm, hd, hb⟩ := F.ex
  refine ⟨fun pins s σ H Q I h => ?_⟩
  refine wpAny_Call_Name_kw (ld_glob I hg hm ?_ hdb)
  refine PySem.W.callWith_K (h₀ := X.base) I.ok.mod.kin M.kp (thn (ha.run pos pins s σ H _ I h) fun us s1 ⟨vs, H1, I1, r, q⟩ => ⟨I1.kIn, ?_⟩) he hpl
  exact run_makeS M F hr hb hd tk I1 r q
theorem tMe_e {ms : MS} {a : Addr} {H : Hp} {k : List V → Sp → List (Str × V) → Prop} (h : look H a fun o => (match o with
    | some (.ins C dx fs) => pick ms C fun dvs sp => k dvs sp fs
    | _ => False)) : ∃ C dx fs, H a = some (.ins C dx fs) ∧ ∃ e ∈ ms, e.1 = C ∧ k e.2.1 e.2.2 fs := by
  have h := look_e h
  revert h
  cases e : H a with
  | none => exact fun h => h.elim
  | some o =>
    cases o with
    | ins C dx fs => exact fun h => ⟨C, dx, fs, rfl, by replace h := h.out; exact h⟩
    | _ => exact fun h => h.elim
theorem pmeth {ms : MS} {pl : Sem Bool} (hms : ∀ e ∈ ms, Me X.prog X.w X.K X.mg X.base e.1 m lv e.2.1 e.2.2) (hr : Room lv X.A) (tk : Takes X W) (ho : PE X o ta) (ha : PA X (e :: es) t)
    (hst : starEach (e :: es) X.env = (false, eval e X.env) :: starEach es X.env := by rfl) (hpl : (backTo pos (starEach es X.env)).any (·.1) = false := by rfl)
    (ht : eval (.Call (.Attribute o m apos) (e :: es) [] pos) X.env = (do
      let ov ← eval o X.env
      standAt apos.atName
      let (f, first) ← holding [ov] (getMethod ov m pl)
      callWith pos f first (backTo pos (starEach (e :: es) X.env)) (backToKw pos (keywordEach [] X.env))) := by rfl) :
    PE X (.Call (.Attribute o m apos) (e :: es) [] pos) (tMe ms m W ta t) := by
  refine ⟨fun pins s σ H Q I h => ?_⟩
  refine PySem.W.methodCall_KW (pl := pl) (thn (ho.run pins s σ H _ I h) fun u s1 ⟨x, H1, I1, rx, q⟩ => ?_) ht
  cases x with
  | ref a =>
    obtain rfl : u = Value.ref a := rx
    obtain ⟨C, dx, fs, ea, en, hen, eC, l, q⟩ := tMe_e (k := fun dvs sp fs => fs.lookup m = none ∧ t σ H1 fun vs H2 => sp (.ref a :: (vs ++ dvs)) H2 Q fun c d H' => W c d σ H') q
    obtain ⟨⟨f, fd, ps, ds, F, hm, hd, hb⟩, cl⟩ := hms en hen
    rw [← eC] at ea
    refine getmeth_ok I1 ea cl hm l ?_
    refine PySem.W.callWith_K (first := [.ref a]) (h₀ := X.base) I.ok.mod.kin hm.kp (thn (ha.run pos pins s1 σ H1 _ I1 q) fun us s2 ⟨vs, H2, I2, r, q2⟩ => ⟨I2.kIn, ?_⟩) hst hpl
    exact run_fnSD (E := WE W) (us := .ref a :: us) (vs := .ref a :: vs) F hr hb hd (passAt tk σ) I2 (.cons rfl r) q2
  | _ => exact False.elim q
theorem pmeth0 {ms : MS} {pl : Sem Bool} (hms : ∀ e ∈ ms, Me X.prog X.w X.K X.mg X.base e.1 m lv e.2.1 e.2.2) (hr : Room lv X.A) (tk : Takes X W) (ho : PE X o ta)
    (ht : eval (.Call (.Attribute o m apos) [] [] pos) X.env = (do
      let ov ← eval o X.env
      standAt apos.atName
      let (f, first) ← holding [ov] (getMethod ov m pl)
      callWith pos f first (backTo pos (starEach [] X.env)) (backToKw pos (keywordEach [] X.env))) := by rfl) :
    PE X (.Call (.Attribute o m apos) [] [] pos) (tMe ms m W ta tNil) := by
  refine ⟨fun pins s σ H Q I h => ?_⟩
  refine PySem.W.methodCall_KW (pl := pl) (thn (ho.run pins s σ H _ I h) fun u s1 ⟨x, H1, I1, rx, q⟩ => ?_) ht
  cases x with
  | ref a =>
    obtain rfl : u = Value.ref a := rx
    obtain ⟨C, dx, fs, ea, en, hen, eC, l, q⟩ := tMe_e (k := fun dvs sp fs => fs.lookup m = none ∧ tNil σ H1 fun vs H2 => sp (.ref a :: (vs ++ dvs)) H2 Q fun c d H' => W c d σ H') q
    obtain ⟨⟨f, fd, ps, ds, F, hm, hd, hb⟩, cl⟩ := hms en hen
    rw [← eC] at ea
    refine getmeth_ok I1 ea cl hm l ?_
    exact PySem.W.callWith_K0 (first := [.ref a]) I1.kIn hm.kp (run_fnSD (E := WE W) (us := [.ref a]) (vs := [.ref a]) F hr hb hd (passAt tk σ) I1 (.cons rfl .nil) q)
  | _ => exact False.elim q

/-! ### attributes -/
structure fld (fs : List (Str × V)) (f : Str) (k : V → Prop) : Prop where
  out : ∃ v, fs.lookup f = some v ∧ k v
theorem fld_i {fs : List (Str × V)} {f : Str} {k : V → Prop} {v : V} (h : fs.lookup f = some v) (q : k v) : fld fs f k := by refine ⟨?_⟩; exact ⟨v, h, q⟩
theorem fld_e {fs : List (Str × V)} {f : Str} {k : V → Prop} (q : fld fs f k) : ∃ v, fs.lookup f = some v ∧ k v := by replace q := q.out; exact q
/-- e.f, a field of an instance -/
def tAt (K : PySem.W.Frag) (ta : TE) (f : Str) : TE := fun σ H Q => ta σ H fun x H1 => match x with
  | .ref a => look H1 a fun o => (match o with
    | some (.ins C dx fs) => Cls K C ∧ NoAttr K C f ∧ fld fs f fun v => Q v H1
    | _ => False)
  | _ => False
theorem patt {f : Str} (he : PE X e ta) (hb : attributeBase e f X.env (eval e X.env) = eval e X.env := by rfl) : PE X (.Attribute e f pos) (tAt X.K ta f) := by
  refine ⟨fun pins s σ H Q I h => ?_⟩
  refine attr_of hb (thn (he.run pins s σ H _ I h) fun u s1 ⟨x, H1, I1, rx, q⟩ => ?_)
  cases x with
  | ref a =>
    obtain rfl : u = Value.ref a := rx
    have q := look_e q
    cases ea : H1 a with
    | none => rw [ea] at q; exact q.elim
    | some o =>
      rw [ea] at q
      cases o with
      | ins C dx fs =>
        obtain ⟨c, n, q⟩ := q
        obtain ⟨v, l, q⟩ := fld_e q
        exact getattr_ok I1 ea c n l fun u' s2 I2 r2 => ⟨v, H1, I2, r2, q⟩
      | _ => exact q.elim
  | _ => exact False.elim q
/-- e.f, a constant of the instance's class -/
def tAtC (K : PySem.W.Frag) (ta : TE) (f : Str) (v0 : V) : TE := fun σ H Q => ta σ H fun x H1 => match x with
  | .ref a => look H1 a fun o => (match o with
    | some (.ins C dx fs) => Cls K C ∧ (∃ u, Con K C f v0 u) ∧ fs.lookup f = none ∧ Q v0 H1
    | _ => False)
  | _ => False
theorem pattC {f : Str} (v0 : V) (he : PE X e ta) (hb : attributeBase e f X.env (eval e X.env) = eval e X.env := by rfl) : PE X (.Attribute e f pos) (tAtC X.K ta f v0) := by
  refine ⟨fun pins s σ H Q I h => ?_⟩
  refine attr_of hb (thn (he.run pins s σ H _ I h) fun u s1 ⟨x, H1, I1, rx, q⟩ => ?_)
  cases x with
  | ref a =>
    obtain rfl : u = Value.ref a := rx
    have q := look_e q
    cases ea : H1 a with
    | none => rw [ea] at q; exact q.elim
    | some o =>
      rw [ea] at q
      cases o with
      | ins C dx fs =>
        obtain ⟨c, ⟨u, n⟩, l, q⟩ := q
        exact getcon_ok I1 ea c n l fun s2 I2 => ⟨v0, H1, I2, n.rel, q⟩
      | _ => exact q.elim
  | _ => exact False.elim q
/-- C.f, C a class of the text by its name -/
structure ClsConst (K : PySem.W.Frag) (mg : Str → Option Value) (x f : Str) (v : V) : Prop where
  ex : ∃ C mc u, mg x = some (.ref C) ∧ ClX.CRead K C mc ∧ ClX.CVal K C mc f v u
theorem pclv {f : Str} {v0 : V} (h : ClsConst X.K X.mg x f v0) (hg : Gl X x := by rfl) (hdb : (x == ("__debug__" : Str)) = false := by decide +kernel)
    (hb : attributeBase (.Name x p) f X.env (eval (.Name x p) X.env) = eval (.Name x p) X.env := by rfl) : PE X (.Attribute (.Name x p) f pos) (tC v0) := by
  obtain ⟨C, mc, u, hm, r, c⟩ := h.ex
  exact pe_imp (ClX.pe_cval (pe_glob (v := .ref C) hg hm rfl hdb) hb) fun _ _ _ h => ⟨C, mc, v0, u, rfl, r, c, h⟩
/-- a module's constant -/
structure GlobV (mg : Str → Option Value) (x : Str) (v : V) : Prop where
  ex : ∃ u, mg x = some u ∧ RelV v u
theorem pglo {v0 : V} (h : GlobV X.mg x v0) (hg : Gl X x := by rfl) (hdb : (x == ("__debug__" : Str)) = false := by decide +kernel) : PE X (.Name x p) (tC v0) := by
  obtain ⟨u, hm, r⟩ := h.ex
  exact pe_glob hg hm r hdb
/-- a built-in type by its name -/
theorem pbty {T : String} (hm : X.mg x = none) (hv : bootBuiltins x = some (.type T) := by decide +kernel) (hg : Gl X x := by rfl) (hn : x ≠ "__name__" := by decide +kernel) (hd : (x == ("__debug__" : Str)) = false := by decide +kernel) : PE X (.Name x p) (tC (.ty T)) :=
  pe_bltn (v := .ty T) hg hm hv rfl hn hd
/-- o.f = e -/
def sAt (K : PySem.W.Frag) (ta tv : TE) (f : Str) : TS := fun D σ H => tv σ H fun y H1 => ta σ H1 fun x H2 => match x with
  | .ref a => look H2 a fun ob => (match ob with
    | some (.ins C dx fs) => Cls K C ∧ NoAttr K C f ∧ fs.length < 1000 ∧ D.nx σ (upd H2 a (.ins C dx (putF f y fs)))
    | _ => False)
  | _ => False
theorem sAt_e {K : PySem.W.Frag} {x : V} {f : Str} {y : V} {H : Hp} {k : Hp → Prop} (h : match x with
  | .ref a => look H a fun ob => (match ob with
    | some (.ins C dx fs) => Cls K C ∧ NoAttr K C f ∧ fs.length < 1000 ∧ k (upd H a (.ins C dx (putF f y fs)))
    | _ => False)
  | _ => False) : ∃ a C dx fs, x = .ref a ∧ H a = some (.ins C dx fs) ∧ Cls K C ∧ NoAttr K C f ∧ fs.length < 1000 ∧ k (upd H a (.ins C dx (putF f y fs))) := by
  cases x with
  | ref a =>
    have h := look_e h
    cases ea : H a with
    | none => rw [ea] at h; exact h.elim
    | some o =>
      rw [ea] at h
      cases o with
      | ins C dx fs => exact ⟨a, C, dx, fs, rfl, ea, h⟩
      | _ => exact h.elim
  | _ => exact h.elim
theorem psat {f : Str} {value : Expr} {tv : TE} {pos' : Pos} (ha : PE X o ta) (hv : PE X value tv) (hs : swapsWith value (some (.Attribute o f pos')) pos.line X.env = pure false := by rfl) : PS X (.Assign [.Attribute o f pos'] value pos) (sAt X.K ta tv f) := by
  refine ⟨fun pins s σ H D I h => ?_⟩
  refine plainObj_wpAny_Assign_Attribute (thn (hv.run pins s σ H _ I h) fun v s1 ⟨y, H1, I1, r1, q1⟩ => thn (ha.run pins s1 σ H1 _ I1 q1) fun u s2 ⟨x, H2, I2, r2, q⟩ => ?_) hs
  obtain ⟨a, C, dx, fs, rfl, ea, c, n, hl, q⟩ := sAt_e q
  obtain rfl : u = Value.ref a := r2
  exact setattr_ok I2 ea c n hl r1 fun s' I' => ⟨σ, _, I', q⟩
end

/-! ### built-in calls -/
section
variable {X : Cx}
def lenP (K : PySem.W.Frag) (x : V) (H : Hp) (Q : Nat → Prop) : Prop := match x with
  | .str z => Lim (tl z).length ∧ Q (tl z).length
  | .ref p => look H p fun o => (match o with
    | some (.lst xs) => Q xs.length
    | some (.tup xs) => Q xs.length
    | some (.frz _ (.lst xs)) => Q xs.length
    | _ => ∃ xs, (SqL K H p xs ∨ SqT K H p xs) ∧ Q xs.length)
  | _ => False
def one (xs : List V) (k : V → Prop) : Prop := match xs with
  | [x] => k x
  | _ => False
def two (xs : List V) (k : V → V → Prop) : Prop := match xs with
  | [x, y] => k x y
  | _ => False
theorem one_e {xs : List V} {k : V → Prop} (h : one xs k) : ∃ x, xs = [x] ∧ k x := by
  match xs, h with
  | [x], h => exact ⟨x, rfl, h⟩
theorem two_e {xs : List V} {k : V → V → Prop} (h : two xs k) : ∃ x y, xs = [x, y] ∧ k x y := by
  match xs, h with
  | [x, y], h => exact ⟨x, y, rfl, h⟩
def zLen (K : PySem.W.Frag) : List V → Hp → VK → Prop := fun xs H Q => one xs fun x => lenP K x H fun n => Q (.int n) H
theorem crlen : CallR X (.builtin "len") (zLen X.K) := by
  refine cr_imp (call_len_seq.or call_len_str) fun xs H Q h => ?_
  obtain ⟨x, rfl, h⟩ := one_e h
  cases x with
  | str z => exact .inr ⟨z, rfl, by rw [len_tl]; exact h.1, by rw [len_tl]; exact h.2⟩
  | ref p =>
    have h := look_e h
    revert h
    cases e : H p with
    | none => exact fun ⟨xs, h1, h2⟩ => .inl ⟨p, xs, rfl, h1, h2⟩
    | some o =>
      cases o with
      | lst xs => exact fun h2 => .inl ⟨p, xs, rfl, .inl (SqL.of e), h2⟩
      | tup xs => exact fun h2 => .inl ⟨p, xs, rfl, .inr (SqT.of e), h2⟩
      | frz ob u =>
        cases u with
        | lst xs => exact fun h2 => .inl ⟨p, xs, rfl, .inl (.inl (.inr ⟨_, e⟩)), h2⟩
        | _ => exact fun ⟨xs, h1, h2⟩ => .inl ⟨p, xs, rfl, h1, h2⟩
      | _ => exact fun ⟨xs, h1, h2⟩ => .inl ⟨p, xs, rfl, h1, h2⟩
  | _ => exact h.elim
def zAbs : List V → Hp → VK → Prop := fun xs H Q => one xs fun x => match x with
  | .int i => Q (.int (if i < 0 then -i else i)) H
  | _ => False
theorem crabs : CallR X (.builtin "abs") zAbs := cr_imp call_abs fun xs H Q h => by
  obtain ⟨x, rfl, h⟩ := one_e h
  cases x with
  | int i => exact ⟨i, rfl, h⟩
  | _ => exact h.elim
def zInt : List V → Hp → VK → Prop := fun xs H Q => one xs fun x => match x with
  | .int i => Q (.int i) H
  | .bl b => Q (.int (if b then 1 else 0)) H
  | _ => False
theorem crint : CallR X (.type "int") zInt := cr_imp call_int1 fun xs H Q h => by
  obtain ⟨x, rfl, h⟩ := one_e h
  cases x with
  | int i => exact .inl ⟨i, rfl, h⟩
  | bl i => exact .inr ⟨i, rfl, h⟩
  | _ => exact h.elim
def zMax2 : List V → Hp → VK → Prop := fun xs H Q => two xs fun x y => match x with
  | .int i => (match y with
    | .int j => Q (.int (max i j)) H
    | _ => False)
  | _ => False
def zMin2 : List V → Hp → VK → Prop := fun xs H Q => two xs fun x y => match x with
  | .int i => (match y with
    | .int j => Q (.int (min i j)) H
    | _ => False)
  | _ => False
theorem crmax (hc : X.calm = true) : CallR X (.builtin "max") zMax2 := cr_imp (call_max2 hc) fun xs H Q h => by
  obtain ⟨x, y, rfl, h⟩ := two_e h
  cases x with
  | int i => cases y with
    | int j =>
      refine ⟨i, j, rfl, ?_⟩
      have e : (if j > i then j else i) = max i j := by omega
      rw [e]; exact h
    | _ => exact h.elim
  | _ => exact h.elim
theorem crmin (hc : X.calm = true) : CallR X (.builtin "min") zMin2 := cr_imp (call_min2 hc) fun xs H Q h => by
  obtain ⟨x, y, rfl, h⟩ := two_e h
  cases x with
  | int i => cases y with
    | int j =>
      refine ⟨i, j, rfl, ?_⟩
      have e : (if j < i then j else i) = min i j := by omega
      rw [e]; exact h
    | _ => exact h.elim
  | _ => exact h.elim
/-! isinstance -/
def isP (K : PySem.W.Frag) (x : V) (c : Value) (H : Hp) (Q : Bool → Prop) : Prop := match x with
  | .str _ => ∃ b, PySem.W.kitOne K (.type "str") c = some b ∧ Q b
  | .int _ => ∃ b, PySem.W.kitOne K (.type "int") c = some b ∧ Q b
  | .bl _ => ∃ b, PySem.W.kitOne K (.type "bool") c = some b ∧ Q b
  | .non => ∃ b, PySem.W.kitOne K (.type "NoneType") c = some b ∧ Q b
  | .ref p => ∃ t b, TyX K H (.ref p) t ∧ PySem.W.kitOne K t c = some b ∧ Q b
  | _ => False
theorem isP_e {K : PySem.W.Frag} {x : V} {c : Value} {H : Hp} {Q : Bool → Prop} (h : isP K x c H Q) : ∃ t b, TyX K H x t ∧ PySem.W.kitOne K t c = some b ∧ Q b := by
  cases x with
  | str z => obtain ⟨b, h⟩ := h; exact ⟨_, b, .base (.str z), h⟩
  | int z => obtain ⟨b, h⟩ := h; exact ⟨_, b, .base (.int z), h⟩
  | bl z => obtain ⟨b, h⟩ := h; exact ⟨_, b, .base (.bl z), h⟩
  | non => obtain ⟨b, h⟩ := h; exact ⟨_, b, .base .non, h⟩
  | ref p => exact h
  | _ => exact h.elim
def zIs (K : PySem.W.Frag) : List V → Hp → VK → Prop := fun xs H Q => two xs fun x c => match c with
  | .ty n => isP K x (.type n) H fun b => Q (.bl b) H
  | .ref C => isP K x (.ref C) H fun b => Q (.bl b) H
  | _ => False
theorem cris : CallR X (.builtin "isinstance") (zIs X.K) := cr_imp call_isi fun xs H Q h => by
  obtain ⟨x, c, rfl, h⟩ := two_e h
  cases c with
  | ty n => obtain ⟨t, b, h1, h2, h3⟩ := isP_e h; exact ⟨x, _, t, _, b, rfl, .ty n, h1, h2, h3⟩
  | ref C => obtain ⟨t, b, h1, h2, h3⟩ := isP_e h; exact ⟨x, _, t, _, b, rfl, .own C, h1, h2, h3⟩
  | _ => exact h.elim
variable {x : Str} {p pos : Pos} {e : Expr} {es : List Expr} {t : TA} {id T : String} {r : List V → Hp → VK → Prop}
theorem pcb (hc : CallR X (.builtin id) r) (hm : X.mg x = none) (ha : PA X (e :: es) t) (hv : bootBuiltins x = some (.builtin id) := by decide +kernel) (hg : Gl X x := by rfl) (hn : x ≠ "__name__" := by decide +kernel) (hdb : (x == ("__debug__" : Str)) = false := by decide +kernel)
    (he : starEach (e :: es) X.env = (false, eval e X.env) :: starEach es X.env := by rfl) (hpl : (backTo pos (starEach es X.env)).any (·.1) = false := by rfl) : PE X (.Call (.Name x p) (e :: es) [] pos) (tCB r t) := pe_callB hc hg hm hv ha hn hdb he hpl
theorem pct (hc : CallR X (.type T) r) (hm : X.mg x = none) (ha : PA X (e :: es) t) (hv : bootBuiltins x = some (.type T) := by decide +kernel) (hg : Gl X x := by rfl) (hn : x ≠ "__name__" := by decide +kernel) (hdb : (x == ("__debug__" : Str)) = false := by decide +kernel)
    (he : starEach (e :: es) X.env = (false, eval e X.env) :: starEach es X.env := by rfl) (hpl : (backTo pos (starEach es X.env)).any (·.1) = false := by rfl) : PE X (.Call (.Name x p) (e :: es) [] pos) (tCB r t) := pe_callTy hc hg hm hv ha hn hdb he hpl
/-! methods of texts and lists -/
structure joi (vs : List V) (a : List Nat) (k : List Nat → Prop) : Prop where
  out : ∃ ys : List (List Nat), vs = ys.map (fun l => V.str (S l)) ∧ (ys.map List.length).sum + ys.length * a.length ≤ 16777216 ∧ k (TL.joinL a ys)
theorem joi_e {vs : List V} {a : List Nat} {k : List Nat → Prop} (h : joi vs a k) : ∃ ys : List (List Nat), vs = ys.map (fun l => V.str (S l)) ∧ (ys.map List.length).sum + ys.length * a.length ≤ 16777216 ∧ k (TL.joinL a ys) := by replace h := h.out; exact h
def zJoin (K : PySem.W.Frag) : V → List V → Hp → VK → Prop := fun x xs H Q => match x with
  | .str a => one xs fun y => (match y with
    | .ref p => look H p fun o => (match o with
      | some (.lst vs) => joi vs (tl a) fun t => Q (.str (S t)) H
      | some (.tup vs) => joi vs (tl a) fun t => Q (.str (S t)) H
      | _ => False)
    | _ => False)
  | _ => False
theorem mtjoin : MtR X "str.join" (zJoin X.K) := by
  refine mt_imp mt_join fun x xs H Q h => ?_
  cases x with
  | str a =>
    obtain ⟨y, rfl, h⟩ := one_e h
    cases y with
    | ref p =>
      have fin : ∀ vs, SqL X.K H p vs ∨ SqT X.K H p vs → (∃ ys : List (List Nat), vs = ys.map (fun l => V.str (S l)) ∧ (ys.map List.length).sum + ys.length * (tl a).length ≤ 16777216 ∧ Q (.str (S (TL.joinL (tl a) ys))) H) →
          ∃ a' p', ∃ ys : List Str, V.str a = .str a' ∧ [V.ref p] = [.ref p'] ∧ (SqL X.K H p' (ys.map V.str) ∨ SqT X.K H p' (ys.map V.str)) ∧ (ys.map (·.length)).sum + ys.length * a'.length ≤ 16777216 ∧ Q (.str (Txt.join a' ys)) H := by
        rintro vs hs ⟨ys, rfl, h1, h2⟩
        refine ⟨a, p, ys.map S, rfl, rfl, ?_, ?_, ?_⟩
        · rw [List.map_map]; exact hs
        · rw [List.map_map, List.length_map, len_tl]
          have e : ((fun z : Str => z.length) ∘ S) = List.length := funext fun l => by show (S l).length = l.length; rw [len_tl]
          rw [e]; exact h1
        · rw [TL.join_eq]
          have e : Str.join a (ys.map S) = S (TL.joinL (tl a) ys) := ext_tl ((TL.tl_join a (ys.map S)).trans (by
            rw [List.map_map]
            have e2 : (TL.tl ∘ S) = id := funext fun l => rfl
            rw [e2, List.map_id]))
          rw [e]; exact h2
      have h := look_e h
      revert h
      cases e : H p with
      | none => exact fun h => h.elim
      | some o =>
        cases o with
        | lst vs => exact fun h => fin vs (.inl (SqL.of e)) (joi_e h)
        | tup vs => exact fun h => fin vs (.inr (SqT.of e)) (joi_e h)
        | _ => exact fun h => h.elim
    | _ => exact h.elim
  | _ => exact h.elim
variable {o : Expr} {to : TE} {name : Str} {apos cpos : Pos}
/-- text.m(..) -/
def tSM (r : V → List V → Hp → VK → Prop) (to : TE) (t : TA) : TE := fun σ H Q => to σ H fun x H1 => match x with
  | .str z => t σ H1 fun xs H2 => r (.str z) xs H2 Q
  | _ => False
theorem psm {mid : String} {r : V → List V → Hp → VK → Prop} (slot : Slot "str" name mid) (hty : typeOf (.builtin mid) = pure (.type "method_descriptor")) (hm : MtR X mid r) (ho : PE X o to) (ha : PA X (e :: es) t)
    (hbase : attributeBase o name X.env (eval o X.env) = eval o X.env := by rfl)
    (hfew : ((backTo cpos (starEach (e :: es) X.env)).all (fun x => !x.1) && (backToKw cpos (keywordEach [] X.env)).all (fun x => x.1.isSome)
      && decide ((e :: es).length + ([] : List Keyword).length + (if ([] : List Keyword).isEmpty then 0 else 1) < 30)) = true := by rfl)
    (hline : (apos.endLine == cpos.line) = true := by rfl) (hs : starEach (e :: es) X.env = (false, eval e X.env) :: starEach es X.env := by rfl) (hplain : (backTo cpos (starEach es X.env)).any (·.1) = false := by rfl) :
    PE X (.Call (.Attribute o name apos) (e :: es) [] cpos) (tSM r to t) := by
  refine ⟨fun pins s σ H Q I h => ?_⟩
  refine wpAny_Call_method_late hbase hfew hline rfl (thn (ho.run pins s σ H _ I h) fun v s1 ⟨x, H1, I1, r1, q1⟩ => ?_)
  cases x with
  | str z =>
    obtain ⟨h1, h2⟩ := tyV_is (T := "str") (x := .str z) I1 r1 rfl
    refine ⟨"str", mid, F.plainAttrs_str, slot, hty, h1, h2, ?_⟩
    have hA := ha.run cpos pins s1 σ H1 _ I1 q1
    rw [hs] at hA ⊢
    refine Calls.callWith_builtin (by show (false || (backTo cpos (starEach es X.env)).any (·.1)) = false; rw [hplain] <;> rfl) (Calls.evalArgs_plain ?_)
    exact thn hA fun us s2 ⟨vs, H2, I2, r2, q2⟩ => hm pins s2 σ H2 _ vs v us Q I2 r1 r2 q2
  | _ => exact False.elim q1
end
end Ta

set_option Elab.async false
set_option linter.all false
set_option maxRecDepth 100000
set_option maxHeartbeats 1000000
namespace Ta
open PySem PySem.Spec PyProof.Rows L2

/-! ### what is walked: n turns, turn i yields x (heap H to H'), while st holds -/
abbrev Itm := Nat → Hp → V → Hp → Prop
structure Adm (J : It) (n : Nat) (it : Itm) (st : Hp → Prop) : Prop where
  go : ∀ i H, i < n → st H → J.go i H
  yl : ∀ i H x H', i < n → st H → J.yld i H x H' → it i H x H'
  sp : ∀ H, st H → J.stop n H
abbrev TJ := St → Hp → (Nat → Itm → (Hp → Prop) → Hp → Prop) → Prop
def toI (wi : TJ) : TI := fun σ H R => wi σ H fun n it st H1 => ∀ J, Adm J n it st → R J H1
abbrev PJ (X : Cx) (tg iter : Expr) (wi : TJ) : Prop := PI X tg iter (toI wi)
def itL (xs : List V) : Itm := fun i H x H' => H' = H ∧ xs[i]? = some x
def itR (lo : Int) : Itm := fun i H x H' => H' = H ∧ x = .int (lo + i)
def itS (l : List Nat) : Itm := fun i H x H' => H' = H ∧ ∃ c, l[i]? = some c ∧ x = .str (S [c])

structure loop (n : Nat) (it : Itm) (st : Hp → Prop) (g : TG) (tb : TS) (D : Ends) (σ : St) (H : Hp) : Prop where
  out : ∀ J, Adm J n it st → ∃ W : Nat → Nat → St → Hp → Prop, (∃ m, W 0 m σ H) ∧ ∀ i m σ H, W i m σ H →
  (J.stop i H ∧ D.nx σ H) ∨ (J.go i H ∧ ∃ N : St → Hp → Prop, (∀ σ' H', N σ' H' → ∃ m', m' < m ∧ W (i + 1) m' σ' H') ∧ ∀ x H', J.yld i H x H' → g x σ H' fun σ2 H2 => tb { D with nx := N, ct := N, bk := D.nx } σ2 H2)
theorem loop_i {n : Nat} {it : Itm} {st : Hp → Prop} {g : TG} {tb : TS} {D : Ends} {σ : St} {H : Hp} (Pv : Nat → St → Hp → Prop) (h0 : Pv 0 σ H) (hst : ∀ i σ H, i ≤ n → Pv i σ H → st H)
    (hs : ∀ i x σ H H', i < n → Pv i σ H → it i H x H' → g x σ H' fun σ2 H2 => tb { D with nx := Pv (i + 1), ct := Pv (i + 1), bk := D.nx } σ2 H2) (hd : ∀ σ H, Pv n σ H → D.nx σ H) : loop n it st g tb D σ H := by
  refine ⟨?_⟩
  intro J A
  refine ⟨fun i m σ H => m = n - i ∧ i ≤ n ∧ Pv i σ H, ⟨n, by simp, Nat.zero_le _, h0⟩, ?_⟩
  rintro i m σ H ⟨rfl, hi, p⟩
  have q := hst i σ H hi p
  by_cases hlt : i < n
  · exact .inr ⟨A.go i H hlt q, Pv (i + 1), fun σ' H' p' => ⟨n - (i + 1), by omega, rfl, hlt, p'⟩, fun x H' y => hs i x σ H H' hlt p (A.yl i H x H' hlt q y)⟩
  · have e : i = n := by omega
    subst e
    exact .inl ⟨A.sp H q, hd σ H p⟩
def tForP (wi : TJ) (g : TG) (tb : TS) : TS := fun D σ H => wi σ H fun n it st H1 => loop n it st g tb D σ H1
section
variable {X : Cx} {tg : Expr}
theorem psfor {iter : Expr} {body : List Stmt} {wi : TJ} {g : TG} {tb : TS} {pos : Pos} (hp : PassesOwn (model X.prog X.w) X.A X.env X.xe) (hc : X.calm = true) (hi : PJ X tg iter wi) (hg : PG X tg g) (hb : PSs X body tb)
    (hs : ∀ x, foldedSetIterable iter X.env x = pure x := by intro _; rfl) : PS X (.For tg iter body [] pos) (tForP wi g tb) := by
  refine ps_imp (ps_for (wi := toI wi) hp hc hi hg hb hs) fun D σ H h => ?_
  have e : (fun n it st H1 => loop n it st g tb D σ H1) = (fun n it st H1 => ∀ J, Adm J n it st → ∃ W : Nat → Nat → St → Hp → Prop, (∃ m, W 0 m σ H1) ∧ ∀ i m σ H, W i m σ H →
      (J.stop i H ∧ D.nx σ H) ∨ (J.go i H ∧ ∃ N : St → Hp → Prop, (∀ σ' H', N σ' H' → ∃ m', m' < m ∧ W (i + 1) m' σ' H') ∧ ∀ x H', J.yld i H x H' → g x σ H' fun σ2 H2 => tb { D with nx := N, ct := N, bk := D.nx } σ2 H2)) := by
    funext n it st H1
    exact propext ⟨fun h => h.out, fun h => ⟨h⟩⟩
  have h : wi σ H fun n it st H1 => loop n it st g tb D σ H1 := h
  rw [e] at h
  exact h
/-- range(n) -/
def jR1 (ta : TA) : TJ := fun σ H R => ta σ H fun vs H1 => one vs fun x => match x with
  | .int j => (-(2 ^ 62) ≤ j ∧ j < 2 ^ 62) ∧ R j.toNat (itR 0) (fun _ => True) H1
  | _ => False
def jR2 (ta : TA) : TJ := fun σ H R => ta σ H fun vs H1 => two vs fun x y => match x with
  | .int i => (match y with
    | .int j => (-(2 ^ 62) ≤ i ∧ i < 2 ^ 62 ∧ -(2 ^ 62) ≤ j ∧ j < 2 ^ 62) ∧ R (j - i).toNat (itR i) (fun _ => True) H1
    | _ => False)
  | _ => False
theorem adm_r (lo : Int) (n : Nat) : Adm (Itr lo n) n (itR lo) (fun _ => True) := ⟨fun i H h _ => h, fun i H x H' _ _ h => h, fun H _ => Nat.le_refl n⟩
theorem pjr1 {a : Expr} {ta : TA} {p pos : Pos} (hm : X.mg "range" = none) (ha : PA X [a] ta) (hg : Gl X "range" := by rfl) (hs : starEach [a] X.env = [(false, eval a X.env)] := by rfl) : PJ X tg (.Call (.Name "range" p) [a] [] pos) (jR1 ta) := by
  refine ⟨fun pins s σ H R I h => ?_⟩
  refine Call_ (ld_blt I hg hm boot_range (PyProof.Rows.callWith_type1 (thn (ha.run pos pins s σ H _ I h) fun us s1 ⟨vs, H1, I1, r1, q1⟩ => ?_) hs rfl))
  obtain ⟨x, rfl, q1⟩ := one_e q1
  cases x with
  | int j =>
    obtain ⟨⟨q1, q2⟩, q⟩ := q1
    cases r1 with
    | cons r rr =>
      cases rr
      obtain ⟨t, rfl⟩ := r
      exact call_range_1 (range_it I1 (by omega) (by omega) q1 q2 (by simpa using q _ (adm_r 0 j.toNat)))
  | _ => exact False.elim q1
theorem pjr2 {a b : Expr} {ta : TA} {p pos : Pos} (hm : X.mg "range" = none) (ha : PA X [a, b] ta) (hg : Gl X "range" := by rfl) (hs : starEach [a, b] X.env = [(false, eval a X.env), (false, eval b X.env)] := by rfl) (hs2 : starEach [b] X.env = [(false, eval b X.env)] := by rfl) :
    PJ X tg (.Call (.Name "range" p) [a, b] [] pos) (jR2 ta) := by
  refine ⟨fun pins s σ H R I h => ?_⟩
  refine Call_ (ld_blt I hg hm boot_range (PyProof.Rows.callWith_type1 (thn (ha.run pos pins s σ H _ I h) fun us s1 ⟨vs, H1, I1, r1, q1⟩ => ?_) (by rw [hs, hs2]) (by rw [hs2]; rfl)))
  obtain ⟨x, y, rfl, q1⟩ := two_e q1
  cases x with
  | int i =>
    cases y with
    | int j =>
      obtain ⟨⟨q1, q2, q3, q4⟩, q⟩ := q1
      cases r1 with
      | cons r rr =>
        cases rr with
        | cons r' rr =>
          cases rr
          obtain ⟨t, rfl⟩ := r
          obtain ⟨t', rfl⟩ := r'
          exact call_range_2 (range_it I1 q1 q2 q3 q4 (q _ (adm_r i _)))
    | _ => exact False.elim q1
  | _ => exact False.elim q1
/-- a text, a list, a tuple -/
def jA (K : PySem.W.Frag) (te : TE) : TJ := fun σ H R => te σ H fun x H1 => match x with
  | .str z => R (tl z).length (itS (tl z)) (fun _ => True) H1
  | .ref a => look H1 a fun o => (match o with
    | some (.lst xs) => R xs.length (itL xs) (fun H' => H' a = some (.lst xs)) H1
    | some (.tup xs) => R xs.length (itL xs) (fun H' => H' a = some (.tup xs)) H1
    | some (.frz ob (.lst xs)) => R xs.length (itL xs) (fun H' => H' a = some (.frz ob (.lst xs))) H1
    | _ => ∃ xs, SqT K (fun _ => none) a xs ∧ R xs.length (itL xs) (fun _ => True) H1)
  | _ => False
theorem adm_l {K : PySem.W.Frag} {a : Addr} {xs : List V} {st : Hp → Prop} (h : ∀ H, st H → SqL K H a xs) : Adm (Itl K a) xs.length (itL xs) st :=
  ⟨fun i H hi q => ⟨xs, xs[i], h H q, by simp [hi]⟩, fun i H x H' hi q y => ⟨y.1, y.2 xs (h H q)⟩, fun H q => ⟨xs, h H q, Nat.le_refl _⟩⟩
theorem adm_t {K : PySem.W.Frag} {a : Addr} {xs : List V} {st : Hp → Prop} (h : ∀ H, st H → SqT K H a xs) : Adm (Itt K a) xs.length (itL xs) st :=
  ⟨fun i H hi q => ⟨xs, xs[i], h H q, by simp [hi]⟩, fun i H x H' hi q y => ⟨y.1, y.2 xs (h H q)⟩, fun H q => ⟨xs, h H q, Nat.le_refl _⟩⟩
theorem adm_s (z : Str) : Adm (Its z) (tl z).length (itS (tl z)) (fun _ => True) := by
  have e : z.cps.size = (tl z).length := by simp [tl]
  refine ⟨fun i H h _ => ?_, fun i H x H' _ _ y => ⟨y.1, ?_⟩, fun H _ => ?_⟩
  · show i < z.cps.size; rw [e]; exact h
  · obtain ⟨c, h1, h2⟩ := y.2
    exact ⟨c, by simpa [tl] using h1, h2⟩
  · show z.cps.size ≤ _; rw [e]; exact Nat.le_refl _
theorem sqT_k {K : PySem.W.Frag} {H : Hp} {a : Addr} {xs : List V} (h : SqT K (fun _ => none) a xs) : SqT K H a xs := by
  rcases h with (h | ⟨o, h⟩) | h
  · cases h
  · cases h
  · exact .inr h
theorem pja {l : Expr} {te : TE} (hl : PE X l te) : PJ X tg l (jA X.K te) := by
  refine ⟨fun pins s σ H R I h => ?_⟩
  refine thn (hl.run pins s σ H _ I h) fun v s1 ⟨x, H1, I1, r1, q1⟩ => ?_
  cases x with
  | str z =>
    obtain ⟨t, rfl⟩ := r1
    have q := q1 _ (adm_s z)
    cases ha : z.cps.all (· < 128)
    · exact wpAny_pyIter_wide ha (pi_one (tk := s1.toks) I1 _ (turn_str _ z t "str_iterator" (.inr rfl)) ⟨_, Heap.get?_push_size _ rfl, rfl, rfl⟩ q)
    · exact wpAny_pyIter_ascii ha (pi_one (tk := s1.toks) I1 _ (turn_str _ z t "str_ascii_iterator" (.inl rfl)) ⟨_, Heap.get?_push_size _ rfl, rfl, rfl⟩ q)
  | ref a =>
    cases r1
    have fl : ∀ xs, SqL X.K H1 a xs → R (Itl X.K a) H1 → wpAny (model X.prog X.w) X.A (pyIter (.ref a)) (PIE X pins σ tg R) X.xe s1 := fun xs hq q => by
      obtain ⟨its, rv, p, hz⟩ := I1.list hq
      refine wpAny_pyIter_list p.isList ?_
      refine ⟨s1.heap.objs.size, [s1.heap.objs.size], _, _, H1, rfl, I1.kept (t' := s1.toks) fun b o e => Heap.get?_push_of_some _ e, turn_list a _, ⟨_, Heap.get?_push_size _ rfl, rfl, rfl⟩, fun b hb => ?_, q⟩
      have e : b = s1.heap.objs.size := by simpa using hb
      subst e
      exact I1.fpOk (Nat.le_refl _) (I1.hok.fresh (Nat.le_refl _))
    have ft : ∀ xs, SqT X.K H1 a xs → R (Itt X.K a) H1 → wpAny (model X.prog X.w) X.A (pyIter (.ref a)) (PIE X pins σ tg R) X.xe s1 := fun xs hq q => by
      obtain ⟨its, rv, p, hz⟩ := I1.tuple hq
      refine wpAny_pyIter_tuple (show s1.heap.IsTuple a its.toArray from p) ?_
      refine ⟨s1.heap.objs.size, [s1.heap.objs.size], _, _, H1, rfl, I1.kept (t' := s1.toks) fun b o e => Heap.get?_push_of_some _ e, turn_tuple a _, ⟨_, Heap.get?_push_size _ rfl, rfl, rfl⟩, fun b hb => ?_, q⟩
      have e : b = s1.heap.objs.size := by simpa using hb
      subst e
      exact I1.fpOk (Nat.le_refl _) (I1.hok.fresh (Nat.le_refl _))
    have q1 := look_e q1
    have fk : (∃ xs, SqT X.K (fun _ => none) a xs ∧ ∀ J, Adm J xs.length (itL xs) (fun _ => True) → R J H1) → wpAny (model X.prog X.w) X.A (pyIter (.ref a)) (PIE X pins σ tg R) X.xe s1 :=
      fun ⟨xs, h1, h2⟩ => ft xs (sqT_k h1) (h2 _ (adm_t fun H' _ => sqT_k h1))
    revert q1
    cases e : H1 a with
    | none => exact fk
    | some o =>
      cases o with
      | lst xs => exact fun q1 => fl xs (SqL.of e) (q1 _ (adm_l fun H' h => SqL.of h))
      | tup xs => exact fun q1 => ft xs (SqT.of e) (q1 _ (adm_t fun H' h => SqT.of h))
      | frz ob u =>
        cases u with
        | lst xs => exact fun q1 => fl xs (.inl (.inr ⟨_, e⟩)) (q1 _ (adm_l fun H' h => .inl (.inr ⟨_, h⟩)))
        | _ => exact fk
      | _ => exact fk
  | _ => exact False.elim q1

/-! ### while -/
structure whl (c : TT) (tb : TS) (D : Ends) (σ : St) (H : Hp) : Prop where
  out : tWhile c tb D σ H
/-- by a word and a measure; the test's reading is asked with its own wish -/
theorem whl_i {c : TT} {tb : TS} {D : Ends} {σ : St} {H : Hp} (W : Nat → St → Hp → Prop) (m : Nat) (h0 : W m σ H)
    (hs : ∀ m σ H, W m σ H → c σ H fun b H1 => if b = true then ∃ N : St → Hp → Prop, (∀ σ' H', N σ' H' → ∃ m', m' < m ∧ W m' σ' H') ∧ tb { D with nx := N, ct := N, bk := D.nx } σ H1 else D.nx σ H1) : whl c tb D σ H := by
  refine ⟨?_⟩
  exact ⟨W, ⟨m, h0⟩, hs⟩
theorem pswhl {c : Expr} {body : List Stmt} {tc : TT} {tb : TS} {pos : Pos} (hp : PassesOwn (model X.prog X.w) X.A X.env X.xe) (hc : PT X c tc) (hb : PSs X body tb) : PS X (.While c body [] pos) (whl tc tb) :=
  ps_imp (ps_while hp hc hb) fun D σ H h => by replace h := h.out; exact h

/-! ### list comprehensions -/
structure lcp (n : Nat) (it : Itm) (st : Hp → Prop) (g : TG) (tt : TT) (te : TE) (vs : List Nat) (σ : St) (H1 : Hp) (Q : VK) : Prop where
  out : ∀ J, Adm J n it st → ∀ D, H1 D = none → ∃ W : Nat → Nat → Hp → Prop, (∃ m, W 0 m (upd H1 D (.lst []))) ∧ ∀ i m H, W i m H →
  (J.stop i H ∧ Q (.ref D) H) ∨ (J.go i H ∧ ∃ Nx : Hp → Prop, (∀ H', Nx H' → ∃ m', m' < m ∧ W (i + 1) m' H') ∧ ∀ x H', J.yld i H x H' → g x (wipe σ vs) H' fun σ2 H2 => wipe σ2 vs = wipe σ vs ∧ tt σ2 H2 fun b H3 =>
    if b = true then te σ2 H3 fun y H4 => ∃ acc, H4 D = some (.lst acc) ∧ acc.length < sizeLine ∧ Nx (upd H4 D (.lst (acc ++ [y]))) else Nx H3)
def tLcP (wi : TJ) (g : TG) (tt : TT) (te : TE) (vs : List Nat) : TE := fun σ H Q => wi σ H fun n it st H1 => lcp n it st g tt te vs σ H1 Q
theorem tLcP_e {wi : TJ} {g : TG} {tt : TT} {te : TE} {vs : List Nat} {σ : St} {H : Hp} {Q : VK} (h : tLcP wi g tt te vs σ H Q) : tLc (toI wi) g tt te vs σ H Q := by
  have e : (fun n it st H1 => lcp n it st g tt te vs σ H1 Q) = (fun n it st H1 => ∀ J, Adm J n it st → ∀ D, H1 D = none → ∃ W : Nat → Nat → Hp → Prop, (∃ m, W 0 m (upd H1 D (.lst []))) ∧ ∀ i m H, W i m H →
      (J.stop i H ∧ Q (.ref D) H) ∨ (J.go i H ∧ ∃ Nx : Hp → Prop, (∀ H', Nx H' → ∃ m', m' < m ∧ W (i + 1) m' H') ∧ ∀ x H', J.yld i H x H' → g x (wipe σ vs) H' fun σ2 H2 => wipe σ2 vs = wipe σ vs ∧ tt σ2 H2 fun b H3 =>
        if b = true then te σ2 H3 fun y H4 => ∃ acc, H4 D = some (.lst acc) ∧ acc.length < sizeLine ∧ Nx (upd H4 D (.lst (acc ++ [y]))) else Nx H3)) := by
    funext n it st H1
    exact propext ⟨fun h => h.out, fun h => ⟨h⟩⟩
  have h : wi σ H fun n it st H1 => lcp n it st g tt te vs σ H1 Q := h
  rw [e] at h
  exact h
theorem plc {elt iter : Expr} {ifs : List Expr} {scope : Scope} (own : List (Str × Nat)) {pos : Pos} {wi : TJ} {g : TG} {tt : TT} {te : TE} (hc : X.calm = true) (hN : X.N.Nodup) (hi : PJ X tg iter wi) (ok : blkC X.N X.env.scope scope own = true)
    (hg : ∀ (s : Shared) (H : Hp) (C : Addr) (cl : List (Str × Addr)) (fp : List Addr), PG (X.blk s H scope (compEnvC scope cl C X.env) fp) tg g) (ht : ∀ (s : Shared) (H : Hp) (C : Addr) (cl : List (Str × Addr)) (fp : List Addr), PTs (X.blk s H scope (compEnvC scope cl C X.env) fp) ifs tt)
    (he : ∀ (s : Shared) (H : Hp) (C : Addr) (cl : List (Str × Addr)) (fp : List Addr), PE (X.blk s H scope (compEnvC scope cl C X.env) fp) elt te) (hs : ∀ x, foldedSetIterable iter X.env x = pure x := by intro _; rfl) :
    PE X (.ListComp elt [⟨tg, iter, ifs, 0⟩] scope pos) (tLcP wi g tt te (own.map (·.2))) := pe_imp (pe_lc hc hN hi (blkOk_by ok) hg ht he hs) fun _ _ _ h => tLcP_e h
theorem pslc {i : Nat} {y : Str} {py : Pos} {elt iter : Expr} {ifs : List Expr} {scope : Scope} (own : List (Str × Nat)) {pos spos : Pos} {wi : TJ} {g : TG} {tt : TT} {te : TE} (hc : X.calm = true) (hN : X.N.Nodup) (hy : X.N[i]? = some y) (hyl : X.env.scope.names.lookup y = some .local)
    (hsw : swapsWith (.ListComp elt [⟨tg, iter, ifs, 0⟩] scope pos) (some (.Name y py)) spos.line X.env = pure true) (hi : PJ X tg iter wi) (ok : blkC X.N X.env.scope scope own = true)
    (hg : ∀ (s : Shared) (H : Hp) (C : Addr) (cl : List (Str × Addr)) (fp : List Addr), PG (X.blk s H scope (compEnvC scope cl C X.env) fp) tg g) (ht : ∀ (s : Shared) (H : Hp) (C : Addr) (cl : List (Str × Addr)) (fp : List Addr), PTs (X.blk s H scope (compEnvC scope cl C X.env) fp) ifs tt)
    (he : ∀ (s : Shared) (H : Hp) (C : Addr) (cl : List (Str × Addr)) (fp : List Addr), PE (X.blk s H scope (compEnvC scope cl C X.env) fp) elt te) (hs : ∀ x, foldedSetIterable iter X.env x = pure x := by intro _; rfl) :
    PS X (.Assign [.Name y py] (.ListComp elt [⟨tg, iter, ifs, 0⟩] scope pos) spos) (tAsg (tLcP wi g tt te (own.map (·.2))) (gName i)) :=
  ps_imp (ps_setLc hc hN hy hyl hsw hi (blkOk_by ok) hg ht he hs) fun D σ H h => tLcP_e h
theorem lcp_i {n : Nat} {it : Itm} {st : Hp → Prop} {g : TG} {tt : TT} {te : TE} {vs : List Nat} {σ : St} {H1 : Hp} {Q : VK} (Pv : Addr → Nat → Hp → Prop) (h0 : ∀ D, H1 D = none → Pv D 0 (upd H1 D (.lst []))) (hst : ∀ D i H, H1 D = none → i ≤ n → Pv D i H → st H)
    (hs : ∀ D i x H H', H1 D = none → i < n → Pv D i H → it i H x H' → g x (wipe σ vs) H' fun σ2 H2 => wipe σ2 vs = wipe σ vs ∧ tt σ2 H2 fun b H3 =>
      if b = true then te σ2 H3 fun y H4 => ∃ acc, H4 D = some (.lst acc) ∧ acc.length < sizeLine ∧ Pv D (i + 1) (upd H4 D (.lst (acc ++ [y]))) else Pv D (i + 1) H3) (hd : ∀ D H, H1 D = none → Pv D n H → Q (.ref D) H) : lcp n it st g tt te vs σ H1 Q := by
  refine ⟨?_⟩
  intro J A D hD
  refine ⟨fun i m H => m = n - i ∧ i ≤ n ∧ Pv D i H, ⟨n, by simp, Nat.zero_le _, h0 D hD⟩, ?_⟩
  rintro i m H ⟨rfl, hi, p⟩
  have q := hst D i H hD hi p
  by_cases hlt : i < n
  · exact .inr ⟨A.go i H hlt q, Pv D (i + 1), fun H' p' => ⟨n - (i + 1), by omega, rfl, hlt, p'⟩, fun x H' y => hs D i x H H' hD hlt p (A.yl i H x H' hlt q y)⟩
  · have e : i = n := by omega
    subst e
    exact .inl ⟨A.sp H q, hd D H hD p⟩
end
end Ta

set_option Elab.async false
set_option linter.all false
set_option maxRecDepth 100000
set_option maxHeartbeats 1000000
namespace Ta
open PySem PySem.Spec PyProof.Rows L2

/-! ### a def that says super(): its closure is the cell of __class__ -/
structure SupFn (P : Program) (K : PySem.W.Frag) (f : Addr) (F : NdefX.NF) (D : Addr) (dvs : List V) (fd : FuncData) : Prop where
  ex : ∃ (cc : Addr) (oc : Value) (od an : Option Addr) (dV kV doc pm ct : Value) (osl : Array (Option Value)), F.cl = [(("__class__" : Str), cc)] ∧ fd = PySem.W.fnX F.name F.qual F.params F.body F.scope F.cl dV kV doc pm an (.ref F.c) ct ∧
    K.lookup f = some ⟨oc, od, .func fd, osl⟩ ∧ DflV K dV dvs ∧ ∃ (cl : Value) (cld : Option Addr) (csl : Array (Option Value)), K.lookup cc = some ⟨cl, cld, .cell (some (.ref D)), csl⟩
  cd : PySem.W.codeIn K (.ref F.c) F.qual = true
  file : ∃ (ccl : Value) (cdd : Option Addr) (vs : Array Value) (ccs : Array (Option Value)) (fl : Str) (tf : Tok), K.lookup F.c = some ⟨ccl, cdd, .fields vs, ccs⟩ ∧ vs[2]? = some (.str fl tf) ∧ ((P.main.file : Str) == fl) = true
  clsD : ∃ cdD, PySem.W.clsIn K D = some cdD
  top : (P.main.scope.names.lookup ("super" : Str)).isSome = false
  kp : PySem.W.keepIn K (.ref f) = true
section
variable {P : Program} {w : World} {K : PySem.W.Frag} {mg : Str → Option Value} {base : Heap}
/-- such a def by its first statement (at the code itself) and the rest -/
theorem fn_sup {f D : Addr} {F : NdefX.NF} {fd : FuncData} {N ps : List Str} {sp : Sp} {k : Nat} {st0 : Stmt} {rest : List Stmt} {dvs : List V} (SF : SupFn P K f F D dvs fd) (hbd : F.body = st0 :: rest) (S : NdefX.NScope N ps ["__class__"] F.scope)
    (len : ∀ vs H Q E, sp vs H Q E → vs.length = ps.length)
    (hbody : ∀ (A : Around) (outer : List Env) (s : Shared) (H : Hp) (vs : List V) (Q : VK) (E : XK), Room k (A.deeper (NdefX.envF F f s.heap.objs.size)) → sp vs H Q E →
      ∃ (t : TS), PSs (NdefX.ncx (L2.CX P w) P w K mg base N F f A outer s H E) rest t ∧
        ∀ s', Inv (NdefX.ncx (L2.CX P w) P w K mg base N F f A outer s H E) [] (NdefX.startF N vs [some (.ref D)]) H s' →
          PySem.wpAt (model P w) (A.deeper (NdefX.envF F f s.heap.objs.size)) (.func F.body (NdefX.envF F f s.heap.objs.size)) (exec st0 (NdefX.envF F f s.heap.objs.size))
            (fun fl s'' => fl = .next ∧ ∃ σ' H', Inv (NdefX.ncx (L2.CX P w) P w K mg base N F f A outer s H E) [] σ' H' s'' ∧ t { nx := fun _ H' => Q .non H', rt := Q } σ' H')
            (NdefX.ncx (L2.CX P w) P w K mg base N F f A outer s H E).xe s') :
    FnOk P w K mg base (L2.CX P w) (k + 1) f fd ps sp := by
  obtain ⟨cc, oc, od, an, dV, kV, doc, pm, ct, osl, hcl, rfl, lk, hD, cl, cld, csl, hcell⟩ := SF.ex
  refine ⟨len, fun A outer s H args us vs Q E hr e0 hb r hsp => ?_⟩
  have hl := len _ _ _ _ hsp
  have KX : K.In s.heap := e0.mod.kin.keeps fun b o e => (e0.bs b o e).1
  have lim : s.heap.NoLimit := e0.mod.nolimit.keeps fun b o e => (e0.bs b o e).1
  have C : NdefX.CellsAt F.cl ["__class__"] [some (.ref D)] s.heap H := by
    rw [hcl]
    have hK : ∀ y c, ([("__class__", cc)] : List (Str × Addr)).lookup y = some c → y = "__class__" ∧ c = cc := fun y c e => by
      simp only [List.lookup] at e
      split at e
      · rename_i hb; cases e; exact ⟨eq_of_beq hb, rfl⟩
      · cases e
    refine ⟨rfl, fun y c e => ?_, fun x y c e1 e2 => (hK x c e1).1.trans (hK y c e2).1.symm, fun i y e => ?_⟩
    · obtain ⟨_, rfl⟩ := hK y c e
      exact ⟨(e0.bs _ _ (e0.mod.kin _ _ hcell)).2, _, _, KX _ _ hcell, rfl⟩
    · cases i with
      | zero =>
        have e' : y = "__class__" := by simpa using e.symm
        subst e'
        refine ⟨cc, by simp [List.lookup], fun v hv => ?_⟩
        have hv' : V.ref D = v := by simpa using hv
        subst hv'
        exact ⟨.ref D, rfl, _, KX _ _ hcell, rfl⟩
      | succ i => simp at e
  refine PySem.ks_codeAny_call_defAt hr.depth (KX _ _ lk) rfl lim (PySem.W.codeRec_of KX SF.cd) (body := F.body) rfl hb S.nocell (fun ⟨n, v⟩ hy => S.par n (List.of_mem_zip hy).1) (fun h₁ hns kp => ?_) S.co S.gen S.kind
  obtain ⟨t, ht, hq⟩ := hbody A outer s H vs Q E (hr.deeper _) hsp
  have I : Inv (NdefX.ncx (L2.CX P w) P w K mg base N F f A outer s H E) [] (NdefX.startF N vs [some (.ref D)]) H { s with heap := h₁, toks := s.toks + (ps.zip us).length } := NdefX.inv_startN S hr.hd e0 hl r C hns kp
  have fin : ∀ {s' : Shared} {σ' : L2.St} {H' : Hp} {v : V} {u : Value}, Inv (NdefX.ncx (L2.CX P w) P w K mg base N F f A outer s H E) [] σ' H' s' → RelV v u → Q v H' → CE outer P w H s Q u s' :=
    fun {s' σ' H' v u} J rv q => ⟨v, H', J.os, J.bare, J.base, J.hok, rv, q⟩
  have key : PySem.wpAt (model P w) (A.deeper (NdefX.envF F f s.heap.objs.size)) (.func F.body (NdefX.envF F f s.heap.objs.size)) (execs F.body (NdefX.envF F f s.heap.objs.size))
      (fun fl s' => CR (L2.CX P w) outer P w H s Q E (.ok (.ret (match fl with | .ret v => v | _ => .none))) s') (NdefX.ncx (L2.CX P w) P w K mg base N F f A outer s H E).xe { s with heap := h₁, toks := s.toks + (ps.zip us).length } := by
    have q0 := hq _ I
    rw [hbd] at q0 ⊢
    refine PySem.ks_wpAt_execs_cons (PySem.ks_wpAt_mono q0 (fun fl s1 h1 => ?_) fun _ _ z => z)
    obtain ⟨rfl, σ1, H1, I1, q1⟩ := h1
    refine PySem.wpAt_of_wpAny (thn (ht.run [] s1 σ1 H1 _ I1 q1) fun fl s2 h2 => ?_)
    cases fl with
    | ret u =>
      obtain ⟨v, σ', H', J, rv, q⟩ := h2
      exact fin J rv q
    | next =>
      obtain ⟨σ', H', J, q⟩ := h2
      exact fin (v := V.non) (u := Value.none) J rfl q
    | brk =>
      obtain ⟨_, _, _, q⟩ := h2
      exact False.elim q
    | cont =>
      obtain ⟨_, _, _, q⟩ := h2
      exact False.elim q
  exact key
end
/-! ### super() -/
section
variable {X : Cx} {pins : List (Addr × Obj)} {σ : St} {H : Hp} {s : Shared} {f D x C : Addr} {F : NdefX.NF} {dvs : List V} {fd : FuncData}
abbrev supO (D x C : Addr) : Obj := { cls := .type "super", dict := none, data := .fields #[.ref D, .ref x, .ref C], slots := #[] }
theorem sup_base {p0 p1 : Pos} {attr : Str} {whole : Sem Value} {E : Value → Shared → Prop} {Q : Value → Shared → Prop} {ar : Arg} {ox : Obj} (SF : SupFn X.prog X.K f F D dvs fd) (hE : X.env = NdefX.envF F f X.env.locals) (I : Inv X pins σ H s)
    (hsup : X.mg "super" = none) (hp : (F.params.posonlyargs ++ F.params.args).head? = some ar) (i : Nat) (hN : X.N[i]? = some ar.arg) (hσ : σ[i]? = some (some (.ref x))) (hka : F.scope.names.lookup ar.arg = some .local)
    (hx : s.heap.get? x = some ox) (hxc : ox.cls = .ref C) (hnc : ∀ c, ox.data ≠ .cls c) (hsub : PySem.W.mroIn X.K C (.ref D) = some true)
    (hks : F.scope.names.lookup ("super" : Str) = some .globalImplicit) (hkc : F.scope.names.lookup ("__class__" : Str) = some .free) (hk : F.scope.kind = .function) (hat : (attr == ("__class__" : Str)) = false)
    (h : ∀ so s', s'.heap.get? so = some (supO D x C) → (∀ b o, s.heap.get? b = some o → s'.heap.get? b = some o) → Inv X pins σ H s' → Q (.ref so) s') :
    PySem.wpAt (model X.prog X.w) X.A (.func F.body X.env) (attributeBase (.Call (.Name "super" p0) [] [] p1) attr X.env whole) Q E s := by
  obtain ⟨cc, oc, od, an, dV, kV, doc, pm, ct, osl, hcl, rfl, lk, hD, cl, cld, csl, hcell⟩ := SF.ex
  obtain ⟨ccl, cdd, vs, ccs, fl, tf, hcode, hvs, hfile⟩ := SF.file
  obtain ⟨cdD, hcD⟩ := SF.clsD
  have KX : X.K.In s.heap := I.kIn
  obtain ⟨oD, hD1, hD2⟩ : ∃ oD, s.heap.get? D = some oD ∧ oD.data = .cls cdD := by
    unfold PySem.W.clsIn at hcD
    split at hcD
    · rename_i c d cd' sl ho
      cases hcD
      exact ⟨_, KX _ _ ho, rfl⟩
    · cases hcD
  obtain ⟨m, hn, hloc⟩ := I.loc
  have hsc : X.env.scope = F.scope := by rw [hE]
  obtain ⟨u, ru, lu⟩ := hloc i ar.arg (.ref x) hN hσ (.inl (by rw [hsc]; exact hka))
  cases ru
  have hm : m ar.arg = some (.ref x) := by
    rcases lu with ⟨_, e⟩ | ⟨e, _⟩
    · exact e
    · have e2 : X.env.kindOf ar.arg = some .local := by show X.env.scope.names.lookup _ = _; rw [hsc]; exact hka
      rw [e2] at e; rcases e with e | e <;> cases e
  obtain ⟨mb, hb1, hb2⟩ := I.mod.blt
  refine PySem.ks_wpAt_super_base (env := X.env) (by show X.env.scope.names.lookup _ = _; rw [hsc]; exact hks) (by show X.env.scope.names.lookup _ = _; rw [hsc]; exact hkc) hat (by rw [hE]) (KX _ _ lk) rfl hp (by rw [hE]) (KX _ _ hcode) rfl hvs hfile SF.top ?_
  refine PySem.W.ks_loadName_global (by rw [hsc]; exact hk) (by show X.env.scope.names.lookup _ = _; rw [hsc]; exact hks) (Calls.loadGlobal_builtin (by rw [I.ok.glob]; exact I.mod.glob.keeps I.bk) hsup (by rw [I.ok.blt]; exact hb1.keeps I.bk) ((hb2 "super" (by decide +kernel)).trans (by decide +kernel : bootBuiltins "super" = some (.type "super"))) ⟨rfl, ?_⟩)
  refine wpAny_loadName_free (by rw [hsc]; exact hk) (by show X.env.scope.names.lookup _ = _; rw [hsc]; exact hkc) (by rw [hE]; show F.cl.lookup _ = _; rw [hcl]; rfl) ⟨_, KX _ _ hcell, rfl⟩ ?_
  refine wpAny_loadName_local (by rw [hsc]; exact hk) (by show X.env.scope.names.lookup _ = _; rw [hsc]; exact hka) hn hm ?_
  obtain ⟨hp', g', d', t', os'⟩ := s
  refine PySem.ks_wpAny_isType_cls hD1 hD2 ⟨rfl, ?_⟩
  refine PySem.ks_wpAny_call_super hD1 hD2 hx hxc hnc (PySem.W.looks_mroIn KX hsub) (fun h' e k => ?_)
  exact h _ _ e k (I.kept (t' := t') k)

/-- super().__init__('..') of an exception that is being made -/
structure SupExc (K : PySem.W.Frag) (C D : Addr) : Prop where
  oex : OexC K C
  sub : PySem.W.mroIn K C (.ref D) = some true
  ini : PySem.W.ks_superIn K C D "__init__" = some (some (.builtin "ValueError.__init__"))
  ve : PySem.W.subIn K (.ref C) (.type "ValueError") = some true
  third : PySem.W.nsIn K cStatics "thirdparty.any" = some none
theorem sup_exc {p0 p1 p2 p3 p4 p5 : Pos} {j : Nat} {msg : Str} {E : Value → Shared → Prop} {Q : Flow → Shared → Prop} {ar : Arg} (SF : SupFn X.prog X.K f F D dvs fd) (SE : SupExc X.K C D) (hE : X.env = NdefX.envF F f X.env.locals) (I : Inv X pins σ H s)
    (hsup : X.mg "super" = none) (hp : (F.params.posonlyargs ++ F.params.args).head? = some ar) (i : Nat) (hN : X.N[i]? = some ar.arg) (hσ : σ[i]? = some (some (.ref x))) (hka : F.scope.names.lookup ar.arg = some .local)
    (hx : H x = some (exo x C none)) (hks : F.scope.names.lookup ("super" : Str) = some .globalImplicit) (hkc : F.scope.names.lookup ("__class__" : Str) = some .free) (hk : F.scope.kind = .function)
    (h : ∀ s', Inv X pins σ H s' → Q .next s') (hli : p2.endLine = p2.endLine)
    (hsw : swapsWith (.Call (.Attribute (.Call (.Name "super" p0) [] [] p1) "__init__" p2) [.Constant (.str msg) j p5] [] p3) none p4.line X.env = pure false := by rfl)
    (pl : Sem Bool) (he : eval (.Call (.Attribute (.Call (.Name "super" p0) [] [] p1) "__init__" p2) [.Constant (.str msg) j p5] [] p3) X.env = (do
      let ov ← attributeBase (.Call (.Name "super" p0) [] [] p1) "__init__" X.env (eval (.Call (.Name "super" p0) [] [] p1) X.env)
      standAt p2.atName
      let (f, first) ← holding [ov] (getMethod ov "__init__" pl)
      callWith p3 f first (backTo p3 (starEach [.Constant (.str msg) j p5] X.env)) [])) :
    PySem.wpAt (model X.prog X.w) X.A (.func F.body X.env) (exec (.Expr (.Call (.Attribute (.Call (.Name "super" p0) [] [] p1) "__init__" p2) [.Constant (.str msg) j p5] [] p3) p4) X.env) Q E s := by
  obtain ⟨t1, ho⟩ := exo_at I.hok hx
  obtain ⟨nm, q, N, bs, bm, sn, sub, ab, col, dd, k0, k1, k2, k3, k5, hC, hbm⟩ := SE.oex.cls
  refine PySem.ks_wpAt_Expr_any (PySem.ks_wpAt_MethodCall (pl := pl) (sup_base SF hE I hsup hp i hN hσ hka ho rfl (fun c z => nomatch z) SE.sub hks hkc hk (by decide +kernel) fun so s1 hso kp I1 => ?_) he) I.quiet hsw
  have KX1 : X.K.In s1.heap := I1.kIn
  have ho1 := kp _ _ ho
  have hmro := SE.ini
  unfold PySem.W.ks_superIn at hmro
  cases hcl : PySem.W.clsIn X.K C with
  | none => rw [hcl] at hmro; cases hmro
  | some cd =>
    rw [hcl] at hmro
    have LT : PySem.W.Looks (model X.prog X.w) s1.heap (typeOf (.ref x)) (.ref C) := fun A Q E s k q => wpAny_typeOf_ref (k _ _ ho1) q
    have hI : PySem.W.Looks (model X.prog X.w) s1.heap (isInstance (.ref x) (.type "ValueError")) true := LT.andThen (PySem.W.looks_subIn KX1 SE.ve)
    have hxC : x ≠ C := fun z => by
      have e1 := KX1 _ _ hC
      rw [← z, ho1] at e1
      cases e1
    obtain ⟨h1, g1, d1, t1', os1⟩ := s1
    refine PySem.W.kxs_getMethod PySem.W.kxs_ValueError hso (PySem.W.looks_opaque KX1 SE.third) (l₀ := cd.mro) ?_ rfl KX1 hmro hI hxC (by decide +kernel) ?_
    · exact fun A Q E s k q => wpAny_bind ((PySem.W.looks_clsIn KX1 hcl) A _ E s k (wpAny_pure q))
    · show wpAny _ _ (callWith p3 (.ref h1.objs.size) [] (backTo p3 (starEach [.Constant (.str msg) j p5] X.env)) []) _ _ _
      have I2 : Inv X pins σ H ⟨h1.push (PySem.W.kxs_mw "ValueError.__init__" x), g1, d1, t1' + 1, os1⟩ := I1.kept (t' := t1' + 1) fun b o e => Heap.get?_push_of_some _ e
      have hu : (h1.push (PySem.W.kxs_mw "ValueError.__init__" x)).get? h1.objs.size = some (PySem.W.kxs_mw "ValueError.__init__" x) := Heap.get?_push_size _ rfl
      refine PySem.W.kxs_callWith (i := "ValueError.__init__") (x := x) rfl (Calls.evalArgs_plain (Calls.spliced_cons (Calls.Constant_str (pos := p5) (k := j) (Calls.spliced_nil ⟨hu, ?_⟩))))
      have I3 := I2.tok (t1' + 1 + 1)
      have ho3 : (h1.push (PySem.W.kxs_mw "ValueError.__init__" x)).get? x = some _ := Heap.get?_push_of_some _ ho1
      have hC3 : (h1.push (PySem.W.kxs_mw "ValueError.__init__" x)).get? C = some _ := Heap.get?_push_of_some _ (KX1 _ _ hC)
      show wpAny _ _ (call (.ref h1.objs.size) [.str msg _] []) _ _ _
      refine wpAny_call (codeAny_of_tree ?_)
      show wpAny _ _ (callAny (.ref h1.objs.size) ⟨[.str msg _], []⟩) _ _ _
      simp only [callAny]
      refine wpAny_bind (wpAny_load hu ?_)
      simp only [PySem.W.kxs_mw, show (Value.type "method-wrapper" == Value.type "method" || Value.type "method-wrapper" == Value.type "builtin_function_or_method" || Value.type "method-wrapper" == Value.type "method-wrapper") = true by decide, if_true]
      refine PySem.W.KFB.if_so (by decide) ?_
      refine wpAny_bind (PySem.W.check_bound_init PySem.F.excBase_ValueError.toExcCallFacts hC3 ho3 rfl ?_)
      refine wpAny_bind (wpAny_pure (wpAny_pure ?_))
      refine ⟨plainId_quiet PySem.F.excBase_ValueError.init.plain _, codeAny_builtin PySem.F.excBase_ValueError.initEntry ?_⟩
      refine PySem.W.exc_init_tree (cls := .ref C) (dv := none) (c2 := .none) (c3 := .none) (b4 := .bool false) ho3 (by show 1 ≤ sizeLine; decide) fun h' k hx' _ => ?_
      have J := I3.write (t' := t1' + 1 + 1) (x := x) (e := x) (o := exo x C none) (by rw [hx]; exact True.intro) (.inl rfl) k ⟨_, hx'⟩ (exo_ok hx')
      have eu : upd H x (exo x C none) = H := by
        funext b
        by_cases hb : b = x
        · rw [hb, upd_same, hx]
        · rw [upd_ne hb]
      rw [eu] at J
      exact h _ J
end
end Ta

set_option Elab.async false
set_option linter.all false
set_option maxRecDepth 100000
set_option maxHeartbeats 1000000
namespace Ta
open PySem PySem.Spec PyProof.Rows L2

theorem upd_comm {H : Hp} {a b : Addr} {o u : HO} (h : a ≠ b) : upd (upd H a o) b u = upd (upd H b u) a o := by
  funext c
  unfold upd
  by_cases h1 : c = a
  · subst h1; simp [h]
  · by_cases h2 : c = b
    · subst h2; simp [h1]
    · simp [h1, h2]
/-- __init__ of an exception with the fields fs -/
def spE (C : Addr) (fs : List Str) : Sp := fun vs H Q _ => ∃ a ws, vs = .ref a :: ws ∧ ws.length = fs.length ∧ H a = some (exo a C none) ∧
  (fs = [] → Q .non H) ∧ (fs ≠ [] → ∀ dx, H dx = none → dx ≠ a → Q .non (upd (upd H dx (exd dx (fs.zip ws).reverse)) a (exo a C (some dx))))
section
variable {P : Program} {w : World} {K : PySem.W.Frag} {mg : Str → Option Value} {base : Heap} {f D C : Addr} {F : NdefX.NF} {fd : FuncData}
  {p0 p1 p2 p3 p4 p5 q0 q1 q2 q3 r0 r1 r2 r3 s0 s1 s2 s3 : Pos} {j : Nat} {msg g1 g2 g3 : Str}
abbrev supSt (p0 p1 p2 p3 p4 p5 : Pos) (j : Nat) (msg : Str) : Stmt := .Expr (.Call (.Attribute (.Call (.Name "super" p0) [] [] p1) "__init__" p2) [.Constant (.str msg) j p5] [] p3) p4
abbrev stoSt (q0 q1 q2 q3 : Pos) (g : Str) : Stmt := .Assign [.Attribute (.Name "self" q0) g q1] (.Name g q2) q3
theorem sup_start {N ps : List Str} {A : Around} {outer : List Env} {s : Shared} {H : Hp} {vs ws : List V} {E : XK} {T : St → Hp → Prop} {a : Addr} {ar : Arg} (SF : SupFn P K f F D [] fd) (SE : SupExc K C D) (S : NdefX.NScope N ps ["__class__"] F.scope)
    (hsup : mg "super" = none) (hp : (F.params.posonlyargs ++ F.params.args).head? = some ar) (hN : N[0]? = some ar.arg) (hka : F.scope.names.lookup ar.arg = some .local) (hks : F.scope.names.lookup ("super" : Str) = some .globalImplicit)
    (hev : ∀ env : Env, ∃ pl, eval (.Call (.Attribute (.Call (.Name "super" p0) [] [] p1) "__init__" p2) [.Constant (.str msg) j p5] [] p3) env = (do
      let ov ← attributeBase (.Call (.Name "super" p0) [] [] p1) "__init__" env (eval (.Call (.Name "super" p0) [] [] p1) env)
      standAt p2.atName
      let (f, first) ← holding [ov] (getMethod ov "__init__" pl)
      callWith p3 f first (backTo p3 (starEach [.Constant (.str msg) j p5] env)) [])) (hvs : vs = .ref a :: ws) (ha : H a = some (exo a C none)) (q : T (NdefX.startF N vs [some (.ref D)]) H) :
    ∀ s', Inv (NdefX.ncx (L2.CX P w) P w K mg base N F f A outer s H E) [] (NdefX.startF N vs [some (.ref D)]) H s' →
      PySem.wpAt (model P w) (A.deeper (NdefX.envF F f s.heap.objs.size)) (.func F.body (NdefX.envF F f s.heap.objs.size)) (exec (supSt p0 p1 p2 p3 p4 p5 j msg) (NdefX.envF F f s.heap.objs.size))
        (fun fl s'' => fl = .next ∧ ∃ σ' H', Inv (NdefX.ncx (L2.CX P w) P w K mg base N F f A outer s H E) [] σ' H' s'' ∧ T σ' H')
        (NdefX.ncx (L2.CX P w) P w K mg base N F f A outer s H E).xe s' := fun s' I => by
  obtain ⟨pl, hev⟩ := hev (NdefX.envF F f s.heap.objs.size)
  refine sup_exc (X := NdefX.ncx (L2.CX P w) P w K mg base N F f A outer s H E) SF SE rfl I hsup hp 0 hN (by subst hvs; rfl) hka ha hks (S.frk _ List.mem_cons_self) S.kind (fun s2 I2 => ⟨rfl, _, _, I2, q⟩) rfl rfl pl hev
theorem ok_exc0 (hbd : F.body = [supSt p0 p1 p2 p3 p4 p5 j msg]) (SF : SupFn P K f F D [] fd) (SE : SupExc K C D) (S : NdefX.NScope ["self", "__class__"] ["self"] ["__class__"] F.scope) (hsup : mg "super" = none)
    (hp : (F.params.posonlyargs ++ F.params.args).head?.map (·.arg) = some ("self" : Str)) (hks : F.scope.names.lookup ("super" : Str) = some .globalImplicit)
    (hev : ∀ env : Env, ∃ pl, eval (.Call (.Attribute (.Call (.Name "super" p0) [] [] p1) "__init__" p2) [.Constant (.str msg) j p5] [] p3) env = (do
      let ov ← attributeBase (.Call (.Name "super" p0) [] [] p1) "__init__" env (eval (.Call (.Name "super" p0) [] [] p1) env)
      standAt p2.atName
      let (f, first) ← holding [ov] (getMethod ov "__init__" pl)
      callWith p3 f first (backTo p3 (starEach [.Constant (.str msg) j p5] env)) [])) : FnOk P w K mg base (L2.CX P w) 1 f fd ["self"] (spE C []) := by
  obtain ⟨ar, hp, har⟩ := Option.map_eq_some_iff.mp hp
  refine fn_sup SF hbd S (fun vs H Q E h => ?_) (fun A outer s H vs Q E hr h => ?_)
  · obtain ⟨a, ws, rfl, hl, _⟩ := h
    simp at hl; subst hl; rfl
  · obtain ⟨a, ws, rfl, hl, ha, h1, h2⟩ := h
    refine ⟨tNext, pss_nil, ?_⟩
    exact sup_start (T := tNext _) SF SE S hsup hp (by rw [har]; rfl) (by rw [har]; exact S.par _ List.mem_cons_self) hks hev rfl ha (h1 rfl)
theorem ok_exc1 (hbd : F.body = [supSt p0 p1 p2 p3 p4 p5 j msg, stoSt q0 q1 q2 q3 g1]) (SF : SupFn P K f F D [] fd) (SE : SupExc K C D) (S : NdefX.NScope ["self", g1, "__class__"] ["self", g1] ["__class__"] F.scope) (hsup : mg "super" = none)
    (hp : (F.params.posonlyargs ++ F.params.args).head?.map (·.arg) = some ("self" : Str)) (hks : F.scope.names.lookup ("super" : Str) = some .globalImplicit) (hg : PySem.W.findIn K (.ref C) g1 = some none)
    (hd : (g1 == ("__debug__" : Str)) = false) (hd2 : (g1 == ("__classdict__" : Str)) = false)
    (hev : ∀ env : Env, ∃ pl, eval (.Call (.Attribute (.Call (.Name "super" p0) [] [] p1) "__init__" p2) [.Constant (.str msg) j p5] [] p3) env = (do
      let ov ← attributeBase (.Call (.Name "super" p0) [] [] p1) "__init__" env (eval (.Call (.Name "super" p0) [] [] p1) env)
      standAt p2.atName
      let (f, first) ← holding [ov] (getMethod ov "__init__" pl)
      callWith p3 f first (backTo p3 (starEach [.Constant (.str msg) j p5] env)) [])) : FnOk P w K mg base (L2.CX P w) 1 f fd ["self", g1] (spE C [g1]) := by
  obtain ⟨ar, hp, har⟩ := Option.map_eq_some_iff.mp hp
  refine fn_sup SF hbd S (fun vs H Q E h => ?_) (fun A outer s H vs Q E hr h => ?_)
  · obtain ⟨a, ws, rfl, hl, _⟩ := h
    simpa using hl
  · obtain ⟨a, ws, rfl, hl, ha, h1, h2⟩ := h
    obtain ⟨v, rfl⟩ : ∃ v, ws = [v] := by
      match ws, hl with
      | [v], _ => exact ⟨v, rfl⟩
    have hv := S.par g1 (by simp)
    have hs := S.par "self" (by simp)
    refine ⟨_, pss_one (ps_ost (pe_var (i := 0) rfl (.inl hs) (by decide +kernel) (by decide +kernel)) (pe_var (i := 1) rfl (.inl hv) hd hd2) (by rfl)), ?_⟩
    refine sup_start (T := tOst K g1 (tVar 0) (tVar 1) _) SF SE S hsup hp (by rw [har]; rfl) (by rw [har]; exact hs) hks hev rfl ha ?_
    exact ⟨v, rfl, .ref a, rfl, a, C, rfl, SE.oex, hg, .inl ⟨ha, fun dx n ne => h2 (by simp) dx n ne⟩⟩
theorem ok_exc2 (hbd : F.body = [supSt p0 p1 p2 p3 p4 p5 j msg, stoSt q0 q1 q2 q3 g1, stoSt r0 r1 r2 r3 g2]) (SF : SupFn P K f F D [] fd) (SE : SupExc K C D) (S : NdefX.NScope ["self", g1, g2, "__class__"] ["self", g1, g2] ["__class__"] F.scope) (hsup : mg "super" = none)
    (hp : (F.params.posonlyargs ++ F.params.args).head?.map (·.arg) = some ("self" : Str)) (hks : F.scope.names.lookup ("super" : Str) = some .globalImplicit) (hg : PySem.W.findIn K (.ref C) g1 = some none) (hg2 : PySem.W.findIn K (.ref C) g2 = some none)
    (hd : (g1 == ("__debug__" : Str)) = false) (hd2 : (g1 == ("__classdict__" : Str)) = false) (hd3 : (g2 == ("__debug__" : Str)) = false) (hd4 : (g2 == ("__classdict__" : Str)) = false)
    (hev : ∀ env : Env, ∃ pl, eval (.Call (.Attribute (.Call (.Name "super" p0) [] [] p1) "__init__" p2) [.Constant (.str msg) j p5] [] p3) env = (do
      let ov ← attributeBase (.Call (.Name "super" p0) [] [] p1) "__init__" env (eval (.Call (.Name "super" p0) [] [] p1) env)
      standAt p2.atName
      let (f, first) ← holding [ov] (getMethod ov "__init__" pl)
      callWith p3 f first (backTo p3 (starEach [.Constant (.str msg) j p5] env)) [])) : FnOk P w K mg base (L2.CX P w) 1 f fd ["self", g1, g2] (spE C [g1, g2]) := by
  obtain ⟨ar, hp, har⟩ := Option.map_eq_some_iff.mp hp
  refine fn_sup SF hbd S (fun vs H Q E h => ?_) (fun A outer s H vs Q E hr h => ?_)
  · obtain ⟨a, ws, rfl, hl, _⟩ := h
    simpa using hl
  · obtain ⟨a, ws, rfl, hl, ha, h1, h2⟩ := h
    obtain ⟨v, v2, rfl⟩ : ∃ v v2, ws = [v, v2] := by
      match ws, hl with
      | [v, v2], _ => exact ⟨v, v2, rfl⟩
    have hv := S.par g1 (by simp)
    have hv2 := S.par g2 (by simp)
    have hs := S.par "self" (by simp)
    refine ⟨_, pss_cons (ps_ost (pe_var (i := 0) rfl (.inl hs) (by decide +kernel) (by decide +kernel)) (pe_var (i := 1) rfl (.inl hv) hd hd2) (by rfl)) (pss_one (ps_ost (pe_var (i := 0) rfl (.inl hs) (by decide +kernel) (by decide +kernel)) (pe_var (i := 2) rfl (.inl hv2) hd3 hd4) (by rfl))), ?_⟩
    refine sup_start (T := tSeq (tOst K g1 (tVar 0) (tVar 1)) (tOst K g2 (tVar 0) (tVar 2)) _) SF SE S hsup hp (by rw [har]; rfl) (by rw [har]; exact hs) hks hev rfl ha ?_
    refine ⟨v, rfl, .ref a, rfl, a, C, rfl, SE.oex, hg, .inl ⟨ha, fun dx n ne => ?_⟩⟩
    refine ⟨v2, rfl, .ref a, rfl, a, C, rfl, SE.oex, hg2, .inr ⟨dx, _, upd_same, by rw [upd_ne ne, upd_same], by simp, ?_⟩⟩
    have e := h2 (by simp) dx n ne
    rw [upd_comm (Ne.symm ne), upd_upd]
    exact e
theorem ok_exc3 (hbd : F.body = [supSt p0 p1 p2 p3 p4 p5 j msg, stoSt q0 q1 q2 q3 g1, stoSt r0 r1 r2 r3 g2, stoSt s0 s1 s2 s3 g3]) (SF : SupFn P K f F D [] fd) (SE : SupExc K C D) (S : NdefX.NScope ["self", g1, g2, g3, "__class__"] ["self", g1, g2, g3] ["__class__"] F.scope) (hsup : mg "super" = none)
    (hp : (F.params.posonlyargs ++ F.params.args).head?.map (·.arg) = some ("self" : Str)) (hks : F.scope.names.lookup ("super" : Str) = some .globalImplicit) (hg : PySem.W.findIn K (.ref C) g1 = some none) (hg2 : PySem.W.findIn K (.ref C) g2 = some none) (hg3 : PySem.W.findIn K (.ref C) g3 = some none)
    (hd : (g1 == ("__debug__" : Str)) = false) (hd2 : (g1 == ("__classdict__" : Str)) = false) (hd3 : (g2 == ("__debug__" : Str)) = false) (hd4 : (g2 == ("__classdict__" : Str)) = false) (hd5 : (g3 == ("__debug__" : Str)) = false) (hd6 : (g3 == ("__classdict__" : Str)) = false)
    (hev : ∀ env : Env, ∃ pl, eval (.Call (.Attribute (.Call (.Name "super" p0) [] [] p1) "__init__" p2) [.Constant (.str msg) j p5] [] p3) env = (do
      let ov ← attributeBase (.Call (.Name "super" p0) [] [] p1) "__init__" env (eval (.Call (.Name "super" p0) [] [] p1) env)
      standAt p2.atName
      let (f, first) ← holding [ov] (getMethod ov "__init__" pl)
      callWith p3 f first (backTo p3 (starEach [.Constant (.str msg) j p5] env)) [])) :
    FnOk P w K mg base (L2.CX P w) 1 f fd ["self", g1, g2, g3] (spE C [g1, g2, g3]) := by
  obtain ⟨ar, hp, har⟩ := Option.map_eq_some_iff.mp hp
  refine fn_sup SF hbd S (fun vs H Q E h => ?_) (fun A outer s H vs Q E hr h => ?_)
  · obtain ⟨a, ws, rfl, hl, _⟩ := h
    simpa using hl
  · obtain ⟨a, ws, rfl, hl, ha, h1, h2⟩ := h
    obtain ⟨v, v2, v3, rfl⟩ : ∃ v v2 v3, ws = [v, v2, v3] := by
      match ws, hl with
      | [v, v2, v3], _ => exact ⟨v, v2, v3, rfl⟩
    have hv := S.par g1 (by simp)
    have hv2 := S.par g2 (by simp)
    have hv3 := S.par g3 (by simp)
    have hs := S.par "self" (by simp)
    refine ⟨_, pss_cons (ps_ost (pe_var (i := 0) rfl (.inl hs) (by decide +kernel) (by decide +kernel)) (pe_var (i := 1) rfl (.inl hv) hd hd2) (by rfl)) (pss_cons (ps_ost (pe_var (i := 0) rfl (.inl hs) (by decide +kernel) (by decide +kernel)) (pe_var (i := 2) rfl (.inl hv2) hd3 hd4) (by rfl))
      (pss_one (ps_ost (pe_var (i := 0) rfl (.inl hs) (by decide +kernel) (by decide +kernel)) (pe_var (i := 3) rfl (.inl hv3) hd5 hd6) (by rfl)))), ?_⟩
    refine sup_start (T := tSeq (tOst K g1 (tVar 0) (tVar 1)) (tSeq (tOst K g2 (tVar 0) (tVar 2)) (tOst K g3 (tVar 0) (tVar 3))) _) SF SE S hsup hp (by rw [har]; rfl) (by rw [har]; exact hs) hks hev rfl ha ?_
    refine ⟨v, rfl, .ref a, rfl, a, C, rfl, SE.oex, hg, .inl ⟨ha, fun dx n ne => ?_⟩⟩
    refine ⟨v2, rfl, .ref a, rfl, a, C, rfl, SE.oex, hg2, .inr ⟨dx, _, upd_same, by rw [upd_ne ne, upd_same], by simp, ?_⟩⟩
    refine ⟨v3, rfl, .ref a, rfl, a, C, rfl, SE.oex, hg3, .inr ⟨dx, _, by rw [upd_ne (Ne.symm ne), upd_same], upd_same, by simp, ?_⟩⟩
    have e := h2 (by simp) dx n ne
    rw [upd_upd, upd_comm (Ne.symm ne), upd_upd]
    exact e
end
/-! ### raise X(..) -/
section
variable (P : Program) (w : World) (K : PySem.W.Frag) (mg : Str → Option Value) (base : Heap)
structure Ex (x : Str) (C : Addr) (fs : List Str) : Prop where
  ex : ∃ (f : Addr) (fd : FuncData) (ps : List Str), FnOk P w K mg base (L2.CX P w) 1 f fd ps (spE C fs) ∧ PySem.W.findIn K (.ref C) "__init__" = some (some (.ref f)) ∧ PySem.W.typeIn K (.ref f) = some (.type "function") ∧ Binds K fd ps [] ∧ mg x = some (.ref C)
  oex : OexC K C
end
section
variable {X : Cx} {x : Str} {p pos : Pos} {e : Expr} {es : List Expr} {t : TA} {W : WX} {C : Addr} {fs : List Str}
def tRs (C : Addr) (fs : List Str) (W : WX) (t : TA) : TS := fun _ σ H => t σ H fun vs H1 => vs.length = fs.length ∧ ∀ d, H1 d = none → W (.ref C) (some d) σ (upd H1 d (.xd (fs.zip vs).reverse))
theorem xd_eq {H1 : Hp} {a d : Addr} {o1 o2 u v : HO} (ha : H1 a = none) (hda : d ≠ a) : upd (del (upd (upd (upd H1 a o1) d u) a o2) a) d v = upd H1 d v := by
  funext c
  unfold upd del
  by_cases h1 : c = d
  · simp [h1]
  · by_cases h2 : c = a
    · subst h2; simp [h1, ha]
    · simp [h1, h2]
theorem pmkE (G : Ex X.prog X.w X.K X.mg X.base x C fs) (hne : fs ≠ []) (hlen : fs.length ≤ 900) (hr : Room 2 X.A) (tk : Takes X W) (ha : PA X (e :: es) t) (hg : Gl X x) (hdb : (x == ("__debug__" : Str)) = false)
    (he : starEach (e :: es) X.env = (false, eval e X.env) :: starEach es X.env) (hpl : (backTo pos (starEach es X.env)).any (·.1) = false) :
    PMk X (.Call (.Name x p) (e :: es) [] pos) (fun σ H Q => t σ H fun vs H1 => vs.length = fs.length ∧ ∀ d, H1 d = none → Q (.ref C) (some d) (upd H1 d (.xd (fs.zip vs).reverse))) := by
  obtain ⟨fI, fd, ps, F1, iC, tI, hb, hm⟩ := G.ex
  have T := G.oex
  intro pins s σ H Q I h
  obtain ⟨nm, q, N, bs, bm, sn, sub, ab, col, dd, k0, k1, k2, k3, k5, hC, hbm⟩ := T.cls
  refine wpAny_Call_Name_kw (ld_glob I hg hm ?_ hdb)
  refine PySem.W.callWith_K (h₀ := X.base) I.ok.mod.kin T.kC (thn (ha.run pos pins s σ H _ I h) fun us s1 ⟨vs, H1, I1, r1, hz, q1⟩ => ⟨I1.kIn, ?_⟩) he hpl
  show wpAny _ _ (call (.ref C) us) _ _ _
  obtain ⟨hp, g, dr, tok, os⟩ := s1
  have hsz : hp.objs.size ≤ hp.objs.size + 1 := Nat.le_succ _
  have hn : H1 (hp.objs.size + 1) = none := I1.hok.fresh hsz
  have hq : spE C fs (.ref (hp.objs.size + 1) :: vs) (upd H1 (hp.objs.size + 1) (exo (hp.objs.size + 1) C none))
      (fun v H2 => v = .non ∧ ∃ (d : Addr) (gs : List (Str × V)), H2 (hp.objs.size + 1) = some (exo (hp.objs.size + 1) C (some d)) ∧ H2 d = some (exd d gs) ∧ H1 d = none ∧ Q (.ref C) (some d) (upd (del H2 (hp.objs.size + 1)) d (.xd gs))) (fun _ _ _ => False) := by
    refine ⟨_, vs, rfl, hz, upd_same, fun e0 => absurd e0 hne, fun _ dx n ne => ⟨rfl, dx, _, upd_same, by rw [upd_ne ne, upd_same], ?_, ?_⟩⟩
    · rw [upd_ne ne] at n; exact n
    · rw [upd_ne ne] at n
      rw [xd_eq hn ne]; exact q1 dx n
  have kk : ∀ b o, hp.get? b = some o → ((hp.push (PySem.W.kdv_tup us)).push (PySem.HandSPX.excO C hp.objs.size)).get? b = some o := fun b o e => Heap.get?_push_of_some _ (Heap.get?_push_of_some _ e)
  have hget : ((hp.push (PySem.W.kdv_tup us)).push (PySem.HandSPX.excO C hp.objs.size)).get? (hp.objs.size + 1) = some (PySem.HandSPX.excO C hp.objs.size) := by heap_get
  have I2 : Inv X pins σ (upd H1 (hp.objs.size + 1) (exo (hp.objs.size + 1) C none)) ⟨(hp.push (PySem.W.kdv_tup us)).push (PySem.HandSPX.excO C hp.objs.size), g, dr, tok, os⟩ :=
    I1.laid (t' := tok) (a := hp.objs.size + 1) (o := exo (hp.objs.size + 1) C none) (h' := (hp.push (PySem.W.kdv_tup us)).push (PySem.HandSPX.excO C hp.objs.size)) kk hsz (exo_ok hget)
  have r2 : Vals (V.ref (hp.objs.size + 1) :: vs) (Value.ref (hp.objs.size + 1) :: us) := .cons rfl r1
  have hl : (Value.ref (hp.objs.size + 1) :: us ++ []).length = ps.length := by
    have e := r2.length
    rw [F1.len _ _ _ _ hq] at e
    rw [List.append_nil]
    exact e.symm
  have hus : us.length ≤ sizeLine := by
    rw [← Paired.length r1, sizeLine_eq]
    omega
  have hbi := hb ⟨(hp.push (PySem.W.kdv_tup us)).push (PySem.HandSPX.excO C hp.objs.size), g, dr, tok, os⟩ (Value.ref (hp.objs.size + 1) :: us) I2.kIn hl
  rw [List.append_nil] at hbi
  refine wpAny_call (PySem.HandSPX.call_own PySem.F.excBase_ValueError (fun Y => PySem.HandSPX.refsVE_contains Y bm hbm) (I1.kIn _ _ hC) (PySem.W.looks_findIn I1.kIn iC) (fun self => PySem.W.bind_fn I1.kIn self tI) hus
    (codeAny_mono (F1.run _ X.stack _ _ ⟨Value.ref (hp.objs.size + 1) :: us, []⟩ (Value.ref (hp.objs.size + 1) :: us) _ _ (fun _ _ _ => False) (hr.make C us []) (I2.env0.make C us []) hbi r2 hq) fun r s' hq' => ?_))
  cases r with
  | error er => exact tk er s' (XE.of_call I2 (fun _ _ _ z => z.elim) hq')
  | ok fl =>
    cases fl with
    | ret u =>
      obtain ⟨v, H2, os2, bare2, un2, hok2, rv, ev, d, gs, ea, ed, hd1, q2⟩ := hq'
      subst ev
      obtain ⟨h2, g2, d2, t2, os'⟩ := s'
      exact ⟨rv, mk_end (raises_own T.exC T.tyC) I1 hsz kk un2 hok2 os2 bare2 ea ed hd1 q2⟩
    | next => exact False.elim hq'
    | brk => exact False.elim hq'
    | cont => exact False.elim hq'
theorem praise (G : Ex X.prog X.w X.K X.mg X.base x C fs) (hr : Room 2 X.A) (tk : Takes X W) (ha : PA X (e :: es) t) {pos' : Pos} (hc : X.calm = true := by rfl) (hne : fs ≠ [] := by decide) (hlen : fs.length ≤ 900 := by decide) (hg : Gl X x := by rfl) (hdb : (x == ("__debug__" : Str)) = false := by decide +kernel)
    (he : starEach (e :: es) X.env = (false, eval e X.env) :: starEach es X.env := by rfl) (hpl : (backTo pos (starEach es X.env)).any (·.1) = false := by rfl) :
    PS X (.Raise (some (.Call (.Name x p) (e :: es) [] pos)) none pos') (tRs C fs W t) :=
  ps_raise hc tk (pmkE G hne hlen hr tk ha hg hdb he hpl)
end
end Ta

set_option Elab.async false
set_option linter.all false
set_option maxRecDepth 100000
set_option maxHeartbeats 1000000
namespace Ta
open PySem PySem.Spec PyProof.Rows L2

/-! ### a caught exception: its fields, isinstance -/
section
variable {X : Cx} {a : Addr} {oe : Obj} {cls : Value} {d : Option Addr} {pn : List (Addr × Obj)}
structure XC (K : PySem.W.Frag) (C : Addr) : Prop where
  x : XfC K C
  e : ExcC K C
def tXat (K : PySem.W.Frag) (a : Addr) (cls : Value) (d : Option Addr) (f : Str) (te : TE) : TE := fun σ H Q => te σ H fun x H1 => x = .ref a ∧ match cls with
  | .ref C => (match d with
    | some dd => XC K C ∧ PySem.W.findIn K (.ref C) f = some none ∧ look H1 dd fun o => (match o with
      | some (.xd fs) => fld fs f fun v => Q v H1
      | _ => False)
    | none => False)
  | _ => False
theorem tXat_e {K : PySem.W.Frag} {cls : Value} {d : Option Addr} {f : Str} {H1 : Hp} {k : V → Prop} (h : match cls with
  | .ref C => (match d with
    | some dd => XC K C ∧ PySem.W.findIn K (.ref C) f = some none ∧ look H1 dd fun o => (match o with
      | some (.xd fs) => fld fs f fun v => k v
      | _ => False)
    | none => False)
  | _ => False) : ∃ (C dd : Addr), cls = .ref C ∧ d = some dd ∧ XC K C ∧ PySem.W.findIn K (.ref C) f = some none ∧ look H1 dd fun o => match o with
    | some (.xd fs) => fld fs f fun v => k v
    | _ => False := by
  cases cls with
  | ref C =>
    cases d with
    | none => exact h.elim
    | some dd => exact ⟨C, dd, rfl, rfl, h⟩
  | _ => exact h.elim
theorem pxat {e : Expr} {te : TE} {pos : Pos} {n : Str} (hz : Zc cls d oe) (hf : ∃ vs, oe.data = .fields vs) (he : PE (X.suite a ((a, oe) :: pn)) e te) (hb : attributeBase e n X.env (eval e X.env) = eval e X.env := by rfl) :
    PE (X.suite a ((a, oe) :: pn)) (.Attribute e n pos) (tXat X.K a cls d n te) := by
  refine ⟨fun pins s σ H Q I h => ?_⟩
  refine attr_of hb (thn (he.run pins s σ H _ I h) fun u s1 hh => ?_)
  obtain ⟨x, H1, I1, rx, ex, hh⟩ := hh
  obtain ⟨C, dd, ec, ed, T, hno, q⟩ := tXat_e hh
  subst ex
  obtain rfl : u = Value.ref a := rx
  subst ec
  subst ed
  have q := look_e q
  cases ea : H1 dd with
  | none => rw [ea] at q; exact q.elim
  | some ob =>
    rw [ea] at q
    cases ob with
    | xd fs =>
      obtain ⟨v, l, q⟩ := fld_e q
      obtain ⟨ha, _⟩ := I1.pin (a, oe) (List.mem_append_left _ List.mem_cons_self)
      obtain ⟨vs, hd⟩ := hf
      have hx : ObjOk X.prog X.w H1 s1.heap dd (.xd fs) := I1.hok dd _ ea
      obtain ⟨mA, hns, hr⟩ := hx
      obtain ⟨od, ho, hl⟩ := lookIn_ns hns
      obtain ⟨u, hu, ru⟩ := RelO.some_of (v := v) (o := mA n) (by rw [← l]; exact hr n)
      have J : PySem.W.InstAt s1.heap a oe C (some od) := ⟨ha, hz.1, by unfold PySem.W.notCls; rw [hd] <;> rfl, by rw [hz.2]; exact ho⟩
      exact HandSPX.exc_get I1.kIn J T.x.ga T.x.gg T.x.exC (PySem.W.findObj_own T.x.hdC hno rfl (by rw [hl, hu])) (handed_of ru) ⟨v, H1, I1.tok _, ru, q⟩
    | _ => exact q.elim
def clsOf : V → Value
  | .ty n => .type n
  | .ref C => .ref C
  | _ => .none
def isCls : V → Bool
  | .ty _ => true
  | .ref _ => true
  | _ => false
theorem clsV_of {c : V} (h : isCls c = true) : ClsV c (clsOf c) := by
  cases c with
  | ty n => exact .ty n
  | ref C => exact .own C
  | _ => cases h
theorem clsV_all : ∀ {cs : List V}, cs.all isCls = true → Paired ClsV cs (cs.map clsOf)
  | [], _ => .nil
  | c :: cs, h => by
    simp only [List.all_cons, Bool.and_eq_true] at h
    exact .cons (clsV_of h.1) (clsV_all h.2)
/-- isinstance's second argument: a class, a tuple of classes that was laid -/
structure isaP (K : PySem.W.Frag) (t : Value) (c : V) (H : Hp) (Q : Bool → Prop) : Prop where
  out : (isCls c = true ∧ ∃ b, PySem.W.kitOne K t (clsOf c) = some b ∧ Q b) ∨ ∃ tp cs b, c = .ref tp ∧ H tp = some (.tup cs) ∧ cs.all isCls = true ∧ PySem.W.kitAny K t (cs.map clsOf) = some b ∧ Q b
theorem isa_1 {K : PySem.W.Frag} {t : Value} {c : V} {H : Hp} {Q : Bool → Prop} {b : Bool} (h : isCls c = true) (h2 : PySem.W.kitOne K t (clsOf c) = some b) (q : Q b) : isaP K t c H Q := by
  refine ⟨?_⟩; exact .inl ⟨h, b, h2, q⟩
theorem isa_t {K : PySem.W.Frag} {t : Value} {tp : Addr} {cs : List V} {H : Hp} {Q : Bool → Prop} {b : Bool} (h : H tp = some (.tup cs)) (h1 : cs.all isCls = true) (h2 : PySem.W.kitAny K t (cs.map clsOf) = some b) (q : Q b) : isaP K t (.ref tp) H Q := by
  refine ⟨?_⟩; exact .inr ⟨tp, cs, b, rfl, h, h1, h2, q⟩
/-- isinstance(e, ..), e the caught exception -/
def zIsX (K : PySem.W.Frag) (a : Addr) (cls : Value) (d : Option Addr) : List V → Hp → VK → Prop := fun xs H Q => two xs fun x c => x = .ref a ∧ match cls with
  | .ref D => XC K D ∧ (match d with
    | some dd => look H dd fun o => (match o with
      | some (.xd fs) => isaP K (.ref D) c H fun b => Q (.bl b) H
      | _ => False)
    | none => isaP K (.ref D) c H fun b => Q (.bl b) H)
  | _ => False
theorem zIsX_e {K : PySem.W.Frag} {cls : Value} {d : Option Addr} {c : V} {H : Hp} {k : Bool → Prop} (h : match cls with
  | .ref D => XC K D ∧ (match d with
    | some dd => look H dd fun o => (match o with
      | some (.xd fs) => isaP K (.ref D) c H k
      | _ => False)
    | none => isaP K (.ref D) c H k)
  | _ => False) : (∃ D, cls = .ref D ∧ XC K D) ∧ (∀ dd, d = some dd → ∃ fs, H dd = some (.xd fs)) ∧ isaP K cls c H k := by
  cases cls with
  | ref D =>
    obtain ⟨h1, h2⟩ := h
    cases d with
    | none => exact ⟨⟨D, rfl, h1⟩, fun _ z => (nomatch z), h2⟩
    | some dd =>
      have h2 := look_e h2
      cases e : H dd with
      | none => rw [e] at h2; exact h2.elim
      | some o =>
        rw [e] at h2
        cases o with
        | xd fs => exact ⟨⟨D, rfl, h1⟩, fun dd' z => by cases z; exact ⟨fs, e⟩, h2⟩
        | _ => exact h2.elim
  | _ => exact h.elim
theorem crisx (hz : Zc cls d oe) (hf : ∃ vs, oe.data = .fields vs) : CallR (X.suite a ((a, oe) :: pn)) (.builtin "isinstance") (zIsX X.K a cls d) := by
  intro pins s σ H xs us Q I r h
  obtain ⟨x, c, rfl, h⟩ := two_e h
  obtain ⟨rfl, h'⟩ := h
  obtain ⟨⟨D, rfl, T⟩, hdd, h⟩ := zIsX_e (k := fun b => Q (.bl b) H) h'
  obtain ⟨u1, u2, rfl, r1, r2⟩ := vals2 r
  cases (show u1 = Value.ref a from r1)
  obtain ⟨hget, _⟩ := I.pin (a, oe) (List.mem_append.mpr (.inl List.mem_cons_self))
  obtain ⟨vs, hv⟩ := hf
  have J : ∃ od, PySem.W.InstAt s.heap a oe D od := by
    cases d with
    | none => exact ⟨none, hget, hz.1, by unfold PySem.W.notCls; rw [hv] <;> rfl, by rw [hz.2]; trivial⟩
    | some dd =>
      obtain ⟨fs, hx⟩ := hdd dd rfl
      obtain ⟨mA, hns, _⟩ := (show ObjOk X.prog X.w H s.heap dd (.xd fs) from I.hok dd _ hx)
      obtain ⟨od, ho, _⟩ := lookIn_ns hns
      exact ⟨some od, hget, hz.1, by unfold PySem.W.notCls; rw [hv] <;> rfl, by rw [hz.2]; exact ho⟩
  obtain ⟨od, J⟩ := J
  have hcl : (PySem.W.clsIn X.K D).isSome = true := by
    obtain ⟨cd, h1, _⟩ := PySem.W.any_some T.e.hd
    rw [h1]; rfl
  have Z := PySem.W.kitx_exc (x := a) (ox := oe) (od := od) hcl T.e.hg T.e.hk T.e.hs T.e.ha T.e.hn T.e.ht T.e.hm
  replace h := h.out
  rcases h with ⟨hc, b, e, q⟩ | ⟨tp, cs, b, rfl, hT, hc, e, q⟩
  · have e2 := (clsV_of hc).eq r2
    subst e2
    exact PySem.W.kia_one Z I.kIn J e (fun z => nomatch z) fun tk => ⟨.bl b, H, I.kept (t' := tk) fun _ _ z => z, rfl, q⟩
  · cases (show u2 = Value.ref tp from r2)
    obtain ⟨_, its, rv, o, h1, h2, n, h3⟩ := (show ObjOk X.prog X.w H s.heap tp (.tup cs) from I.hok tp _ hT)
    have e3 := ClsV.all (clsV_all hc) rv
    subst e3
    obtain ⟨oc, odd, dt, sl⟩ := o
    simp only at h2 h3
    subst h2 h3
    exact PySem.W.kia_tup Z I.kIn J h1 e (fun z => nomatch z) fun tk => ⟨.bl b, H, I.kept (t' := tk) fun _ _ z => z, rfl, q⟩
structure IsC (K : PySem.W.Frag) (C : Addr) : Prop where
  ex : ∀ (H : Hp) (a dx : Addr) (fs : List (Str × V)), H a = some (.ins C dx fs) → TyOf K H (.ref a) (.ref C)
/-- isinstance(x, ..) of any value -/
def tyOf (K : PySem.W.Frag) (x : V) (H : Hp) (k : Value → Prop) : Prop := match x with
  | .str _ => k (.type "str")
  | .int _ => k (.type "int")
  | .bl _ => k (.type "bool")
  | .non => k (.type "NoneType")
  | .ref p => look H p fun o => match o with
    | some (.ins C dx fs) => IsC K C ∧ k (.ref C)
    | some (.lst xs) => k (.type "list")
    | some (.tup xs) => k (.type "tuple")
    | some (.dK xs) => k (.type "dict")
    | _ => ∃ t, TyX K H (.ref p) t ∧ k t
  | _ => False
theorem tyOf_e {K : PySem.W.Frag} {x : V} {H : Hp} {k : Value → Prop} (h : tyOf K x H k) : ∃ t, TyX K H x t ∧ k t := by
  cases x with
  | str z => exact ⟨_, .base (.str z), h⟩
  | int z => exact ⟨_, .base (.int z), h⟩
  | bl z => exact ⟨_, .base (.bl z), h⟩
  | non => exact ⟨_, .base .non, h⟩
  | ref p =>
    have h := look_e h
    revert h
    cases e : H p with
    | none => exact fun h => h
    | some o =>
      cases o with
      | ins C dx fs => exact fun h => ⟨_, .base (h.1.ex H p dx fs e), h.2⟩
      | lst xs => exact fun h => ⟨_, .base (.lst e), h⟩
      | tup xs => exact fun h => ⟨_, .base (.tup e), h⟩
      | dK xs => exact fun h => ⟨_, .base (.dK e), h⟩
      | _ => exact fun h => h
  | _ => exact h.elim
def zIsa (K : PySem.W.Frag) : List V → Hp → VK → Prop := fun xs H Q => two xs fun x c => tyOf K x H fun t => isaP K t c H fun b => Q (.bl b) H
theorem crisa {X : Cx} : CallR X (.builtin "isinstance") (zIsa X.K) := by
  refine cr_imp (call_isi.or call_isiT) fun xs H Q h => ?_
  obtain ⟨x, c, rfl, h'⟩ := two_e h
  obtain ⟨t, ht, h⟩ := tyOf_e (K := X.K) (k := fun t => isaP X.K t c H fun b => Q (.bl b) H) h'
  replace h := h.out
  rcases h with ⟨hc, b, e, q⟩ | ⟨tp, cs, b, rfl, hT, hc, e, q⟩
  · exact .inl ⟨x, c, t, _, b, rfl, clsV_of hc, ht, e, q⟩
  · exact .inr ⟨x, tp, cs, t, _, b, rfl, hT, clsV_all hc, ht, e, q⟩
end
/-! ### a def: its promise by its body -/
section
variable {P : Program} {w : World} {K : PySem.W.Frag} {mg : Str → Option Value} {base : Heap} {x qual : Str} {params : Arguments} {body : List Stmt} {scope : Scope} {dvs : List V} {kws : List (Str × V)} {f : Addr} {fd : FuncData}
/-- the wish of a def about what is raised -/
abbrev WD (E : XK) : WX := fun c d _ H => E c d H
abbrev EndD (Q : VK) : Ends := { nx := fun _ H' => Q .non H', rt := Q }
theorem def_ok {N ps : List Str} {k : Nat} {sp : Sp} (F : FunD K x qual params body scope dvs kws f fd) (S : FnScope N ps scope) (len : ∀ vs H Q E, sp vs H Q E → vs.length = ps.length) (t : WX → TS)
    (term : ∀ (cdv : Value) (A : Around) (outer : List Env) (s : Shared) (H : Hp) (E : XK), Room k (A.deeper (envOfC qual scope s.heap.objs.size f cdv)) → PSs (cxOf (L2.CX P w) P w K mg base N qual scope f cdv A outer s H E) body (t (WD E)))
    (rd : ∀ vs H Q E, sp vs H Q E → t (WD E) (EndD Q) (start N vs) H) : FnOk P w K mg base (L2.CX P w) (k + 1) f fd ps sp := by
  refine F.ok S len fun cdv A outer s H vs Q E hr h => ⟨t (WD E), ?_, rd vs H Q E h⟩
  exact term cdv A outer s H E hr
/-- the wish of the def's context -/
theorem takesD {P : Program} {w : World} {K : PySem.W.Frag} {mg : Str → Option Value} {base : Heap} {N : List Str} {qual : Str} {scope : Scope} {f : Addr} {cdv : Value} {A : Around} {outer : List Env} {s : Shared} {H : Hp} {E : XK} :
    Takes (cxOf (L2.CX P w) P w K mg base N qual scope f cdv A outer s H E) (WD E) := takes_of rfl rfl rfl rfl
theorem ownD {P : Program} {w : World} {K : PySem.W.Frag} {mg : Str → Option Value} {base : Heap} {N : List Str} {qual : Str} {scope : Scope} {f : Addr} {cdv : Value} {A : Around} {outer : List Env} {s : Shared} {H : Hp} {E : XK} :
    PassesOwn (model P w) (cxOf (L2.CX P w) P w K mg base N qual scope f cdv A outer s H E).A (cxOf (L2.CX P w) P w K mg base N qual scope f cdv A outer s H E).env (cxOf (L2.CX P w) P w K mg base N qual scope f cdv A outer s H E).xe := PassesOwn.leaving
end
end Ta
namespace Ta
open PySem PySem.Spec PyProof.Rows L2
/-! ### short forms for printed terms -/
section
variable {X : Cx}
theorem pset (i : Nat) {x : Str} {e : Expr} {te : TE} {pos pos' : Pos} (hN : X.N.Nodup) (he : PE X e te) (hi : X.N[i]? = some x := by rfl) (hx : Loc X.env.scope x := by first | exact Or.inl rfl | exact Or.inr rfl)
    (hs : swapsWith e (some (.Name x pos')) pos.line X.env = pure false := by rfl) (hf : X.fn x = true ∨ X.env.scope.names.lookup x = some .local := by first | exact .inl rfl | exact .inr rfl) : PS X (.Assign [.Name x pos'] e pos) (tAsg te (gName i)) := ps_set hN hi hx he hs hf
theorem pgn (i : Nat) {x : Str} {pos : Pos} (hN : X.N.Nodup) (hi : X.N[i]? = some x := by rfl) (hx : Loc X.env.scope x := by first | exact Or.inl rfl | exact Or.inr rfl)
    (hf : X.fn x = true ∨ X.env.scope.names.lookup x = some .local := by first | exact .inl rfl | exact .inr rfl) : PG X (.Name x pos) (gName i) := pg_name hN hi hx hf
theorem psub {o i e : Expr} {to ti te : TE} {pos pos' : Pos} (he : PE X e te) (ho : PE X o to) (hi : PE X i ti) (hs : swapsWithSole [.Subscript o i pos'] e pos.line X.env = pure false := by rfl) (hw : swappedStores [.Subscript o i pos'] e X.env = pure none := by rfl)
    (h3 : List.map (fun x => x.snd) (assignEach [.Subscript o i pos'] X.env) = [assign (.Subscript o i pos') X.env] := by rfl) (h4 : ∀ v : Value, assign (.Subscript o i pos') X.env v = (do
      let ov ← holding [v] (eval o X.env)
      let iv ← holding [v, ov] (eval i X.env)
      standAt pos'
      holding [v, ov, iv] (setItem ov iv v)
      release [v, ov, iv] []) := by intro v; rfl) : PS X (.Assign [.Subscript o i pos'] e pos) (tAsg te (gSub to ti zSetP)) := ps_asg he (pg_sub ho hi setp h4) hs hw h3
end
end Ta

set_option Elab.async false
set_option linter.all false
set_option maxRecDepth 100000
set_option maxHeartbeats 3200000
namespace Ta
open PySem PySem.Spec PyProof.Rows L2

/-! ### len(set(text)) -/
def dn {α : Type} [BEq α] (l : List α) : Nat := l.eraseDups.length
theorem dn_snoc {α : Type} [BEq α] [LawfulBEq α] (l : List α) (x : α) : dn (l ++ [x]) = if l.any (· == x) = true then dn l else dn l + 1 := by
  unfold dn
  rw [List.eraseDups_append]
  by_cases h : x ∈ l
  · have e : [x].removeAll l = [] := by simp [List.removeAll, h]
    rw [e, if_pos (by simpa using h)]; simp
  · have e : [x].removeAll l = [x] := by simp [List.removeAll, h]
    rw [e, if_neg (by simpa using h)]; simp [List.eraseDups_cons]
section
variable {prog : Program} {w : World} {A : Around} {R : Result → Shared → Prop} {I : Addr} {fp wr : List Addr} {G : Array GenState → Array GenState → Prop} {n : Nat} {P : Nat → Value → Prop} {St : Nat → Shared → Prop}
theorem dn_le {α : Type} [BEq α] [LawfulBEq α] (l : List α) : dn l ≤ l.length := by
  suffices h : ∀ m : List α, dn m.reverse ≤ m.reverse.length by
    have z := h l.reverse
    rw [List.reverse_reverse] at z
    exact z
  intro m
  induction m with
  | nil => simp [dn]
  | cons x m ih =>
    rw [List.reverse_cons, dn_snoc]
    split <;> simp <;> simp at ih <;> omega
theorem loopN (W : WalksS prog w A.in1 I fp wr G n P St) (S : Addr) (hSf : S ∉ fp) (xs : List Str) (hsz : xs.length = n) (hn1 : n + 1 < scanBound)
    (hval : ∀ i v, P i v → ∃ t, v = .str (xs.getD i Str.empty) t) :
    ∀ (k i : Nat) (s : Shared), n - i = k → i ≤ n → St i s →
      s.heap.SetOf (PySem.strKind prog w) S (fun k' => (xs.take i).any (· == k')) (dn (xs.take i)) →
      (∀ s', Moved (S :: wr) G s s' → s'.heap.SetOf (PySem.strKind prog w) S (fun k' => xs.any (· == k')) (dn xs) → R (.ok (.ret .none)) s') →
      codeAny (model prog w) A (.builtin "set.update.loop" ⟨[.ref S, .ref I], []⟩) R s := by
  have hSw : S ∉ wr := fun h => hSf (W.sub _ h)
  have hsub : ∀ b ∈ wr, b ∈ S :: wr := fun b hb => List.mem_cons_of_mem _ hb
  intro k
  induction k with
  | zero =>
    intro i s hk hi hst hS hR
    have hin : i = n := by omega
    subst hin
    refine codeAny_builtin PyProof.Rows.F.entry_set_update_loop ?_
    rw [Around.under_plainId PyProof.Rows.F.plain_set_update_loop _]
    show wpAny _ A.in1 (pyNext (.ref I) >>= _) _ _ s
    refine wpAny_bind (W.done s _ _ hst fun s' hm => ?_)
    show wpAny _ A.in1 (ret Value.none) _ _ s'
    rw [List.take_of_length_le (Nat.le_of_eq hsz)] at hS
    exact wpAny_pure (hR s' (hm.mono hsub) (by
      obtain ⟨o, es, ep, t, ho, rest⟩ := hS
      exact ⟨o, es, ep, t, hm.heap S _ hSw ho, rest⟩))
  | succ k ih =>
    intro i s hk hi hst hS hR
    have hlt : i < n := by omega
    have hlx : i < xs.length := by omega
    refine codeAny_builtin PyProof.Rows.F.entry_set_update_loop ?_
    rw [Around.under_plainId PyProof.Rows.F.plain_set_update_loop _]
    show wpAny _ A.in1 (pyNext (.ref I) >>= _) _ _ s
    refine wpAny_bind (W.item i s _ _ hlt hst fun v s' hP hst' hm => ?_)
    obtain ⟨t, rfl⟩ := hval i v hP
    have hS' : s'.heap.SetOf (PySem.strKind prog w) S (fun k' => (xs.take i).any (· == k')) (dn (xs.take i)) := by
      obtain ⟨o, es, ep, tb, ho, rest⟩ := hS
      exact ⟨o, es, ep, tb, hm.heap S _ hSw ho, rest⟩
    show wpAny _ A.in1 (holding [Value.str (xs.getD i Str.empty) t] (setAdd S (.str (xs.getD i Str.empty) t)) >>= _) _ _ s'
    refine wpAny_bind (wpAny_holding ?_)
    unfold setAdd
    refine wpAny_holding ?_
    refine wpAny_bind ((PySem.strKind prog w).pyHash (k := xs.getD i Str.empty) (strKind_is _ _ _ _) ?_)
    have hdn := dn_le (xs.take i)
    have htk : (xs.take i).length ≤ i := by rw [List.length_take]; omega
    refine wpAny_setAddHashed_of (knd := PySem.strKind prog w) (s := { s' with toks := s'.toks + 1 }) (strKind_is _ _ _ _) rfl hS' (by unfold scanBound at hn1 ⊢; omega) fun h' hsb hS2 => ?_
    have ex : xs.getD i Str.empty = xs[i] := by simp [List.getD, hlx]
    have et : xs.take (i + 1) = xs.take i ++ [xs[i]] := by rw [List.take_succ_eq_append_getElem hlx]
    have hSi : h'.SetOf (PySem.strKind prog w) S (fun k' => (xs.take (i + 1)).any (· == k')) (dn (xs.take (i + 1))) := by
      refine SetOf_congr hS2 (fun k' => ?_) ?_
      · show ((xs.take i).any (· == k') || decide (k' = xs.getD i Str.empty)) = (xs.take (i + 1)).any (· == k')
        rw [et, ex, List.any_append]
        congr 1
        by_cases e : k' = xs[i]
        · subst e; simp
        · have hb : (xs[i] == k') = false := by simpa [beq_iff_eq] using (fun h' : xs[i] = k' => e h'.symm)
          simp [hb, e]
      · rw [et, dn_snoc, ex]
    refine wpAny_pure ⟨plainId_quiet PyProof.Rows.F.plain_set_update_loop _, ih (i + 1) _ (by omega) hlt (W.frame _ s' _ _ hst' (Nat.le_succ _) fun b hb o e => ?_) hSi fun s'' hm'' hS'' => ?_⟩
    · rw [hsb.2 b (fun h : b = S => hSf (by rw [← h]; exact hb))]; exact e
    · refine hR s'' (Moved.trans W.gtrans ((hm.mono hsub).then_heap (Nat.le_succ _) fun b o hb e => ?_) hm'') hS''
      rw [hsb.2 b (fun h : b = S => hb (by rw [h]; exact List.mem_cons_self))]; exact e
end
section
variable {prog : Program} {w : World} {A : Around} {E : Value → Shared → Prop} {s : Shared}
def one1 (l : List Nat) : List Str := l.map fun c => S [c]
theorem sign_one {x : Str} {i : Nat} {v : Value} (h : SignAt x i v) : ∃ t, v = .str ((one1 (tl x)).getD i Str.empty) t := by
  obtain ⟨c, u, h1, rfl⟩ := h
  have e : (tl x)[i]? = some c := by simpa [tl] using h1
  exact ⟨u, by simp [one1, List.getD, List.getElem?_map, e]⟩
theorem call_set_text {x : Str} {t : Tok} {Q : Value → Shared → Prop} (hh : A.handled = none) (hn : (tl x).length + 1 < scanBound)
    (h : ∀ (h' : Heap) (tk : Nat), h'.SetOf (PySem.strKind prog w) s.heap.objs.size (fun k' => (one1 (tl x)).any (· == k')) (dn (one1 (tl x))) →
      (∀ b o, b < s.heap.objs.size → s.heap.get? b = some o → h'.get? b = some o) → Q (.ref s.heap.objs.size) { s with heap := h', toks := tk }) :
    wpAny (model prog w) A (call (.type "set") [.str x t]) Q E s := by
  obtain ⟨c, tl', hmro⟩ := PySem.F.called_set.mro
  have hmade := PySem.F.called_set.made
  have hsub := PySem.F.called_set.sub
  refine wpAny_call (codeAny_of_tree ?_)
  show wpAny _ _ (callAny (.type "set") _) _ _ _
  refine wpAny_pure ⟨Code.quiet_builtin _ (by decide +kernel), codeAny_builtin PySem.F.entry_type_call ?_⟩
  rw [Around.under_plain (weight_type_call_type "set" [.str x t] []) rfl]
  have h1 := PySem.F.called_set.notType
  have h2 := PySem.F.called_set.canCreate
  have hct := PySem.F.typeCall_set_1 (.str x t)
  repeat (any_goals (first | assumption | wp_step))
  refine codeAny_mono (code_set_new_1 (.str x t) (E := E) (Q₁ := fun obj s₁ => ∃ led : Bool, obj = .ref s.heap.objs.size ∧ s₁ = { s with heap := s.heap.push { cls := .type "set", dict := none, data := .set #[] 0 (.fresh 0 0 led) } }) fun led => ⟨led, rfl, rfl⟩) fun r s₁ hr => ?_
  cases r with
  | error e => exact hr
  | ok fl =>
    cases fl with
    | ret obj =>
      obtain ⟨led, rfl, rfl⟩ := hr
      have hS : (s.heap.push { cls := .type "set", dict := none, data := .set #[] 0 (.fresh 0 0 led) }).get? s.heap.objs.size = some { cls := .type "set", dict := none, data := .set #[] 0 (.fresh 0 0 led) } := Heap.get?_push_size _ rfl
      have hT : Shared.TypeIs { s with heap := s.heap.push { cls := .type "set", dict := none, data := .set #[] 0 (.fresh 0 0 led) } } (.ref s.heap.objs.size) "set" := ⟨_, hS, rfl⟩
      have hli := PySem.F.called_set.init.lookup
      have hbi := PySem.F.called_set.init.bind (.ref s.heap.objs.size)
      repeat (any_goals (first | assumption | wp_step))
      refine codeAny_mono (codeAny_call_builtin (R := wants (fun r s₂ => r = .none ∧ ∃ h' tk, s₂ = { s with heap := h', toks := tk } ∧
          h'.SetOf (PySem.strKind prog w) s.heap.objs.size (fun k' => (one1 (tl x)).any (· == k')) (dn (one1 (tl x))) ∧
          (∀ b o, b < s.heap.objs.size → s.heap.get? b = some o → h'.get? b = some o)) E) PySem.F.called_set.init.plain PySem.F.entry_set_init (check_set_init_1 hT ?_)) fun r₂ s₂ hr₂ => ?_
      · have hsls := PySem.F.sub_str_set
        have hslf := PySem.F.sub_str_frozenset
        have hne : (Value.type "str" == Value.type "dict") = false := by decide
        unfold Builtin.«set.__init__» noKeywords Builtin.Frozenset.updateFrom
        generalize hPI : pyIter = PI
        wp_walk
        subst hPI
        refine wpAny_pyIter_str fun o St W hst => ?_
        refine wpAny_bind (wpAny_runValue ?_)
        have hh3 : A.in1.in1.in1.handled = none := by simp [hh]
        have hSf : s.heap.objs.size ∉ [(s.heap.push { cls := .type "set", dict := none, data := .set #[] 0 (.fresh 0 0 led) }).objs.size] := by
          rw [Heap.size_push]; simp only [List.mem_singleton]
          exact Nat.ne_of_lt (Nat.lt_succ_self _)
        have hsz : (one1 (tl x)).length = x.cps.size := by simp [one1, tl]
        have hszn : x.cps.size = (tl x).length := by simp [tl]
        refine loopN ((W _ hh3).toS) s.heap.objs.size
          hSf (one1 (tl x)) hsz (by rw [hszn]; exact hn) (fun i v h => sign_one h) (x.cps.size - 0) 0 _ (by omega) (Nat.zero_le _)
          hst ?hS0 ?hR
        case hS0 =>
          have hget : ((s.heap.push { cls := .type "set", dict := none, data := .set #[] 0 (.fresh 0 0 led) }).push o).get? s.heap.objs.size
              = some { cls := .type "set", dict := none, data := .set #[] 0 (.fresh 0 0 led) } := Heap.get?_push_of_some _ hS
          exact PyProof.Rows.SetOf_congr ((PyProof.Rows.setObjOf_fresh (knd := PySem.strKind prog w) led).setOf hget (by unfold scanBound; omega)) (fun _ => rfl) rfl
        case hR =>
          intro s' hm hS'
          obtain ⟨h', g', d', tk', os'⟩ := s'
          have eg : g' = s.gens := hm.gens
          have ed : d' = s.drawn := hm.drawn
          have eo : os' = s.os := hm.os
          subst eg; subst ed; subst eo
          show wpAny _ _ _ _ _ _
          refine wpAny_pure ?_
          show wpAny _ _ (ret Value.none) _ _ _
          refine wpAny_pure ⟨rfl, h', tk', rfl, hS', fun b o hb e => ?_⟩
          have hb1 : b ≠ s.heap.objs.size := Nat.ne_of_lt hb
          have hb2 : b ≠ (s.heap.push { cls := .type "set", dict := none, data := .set #[] 0 (.fresh 0 0 led) }).objs.size := by
            rw [Heap.size_push]; exact Nat.ne_of_lt (Nat.lt_succ_of_lt hb)
          exact hm.heap b o (by simp only [List.mem_cons, List.mem_singleton, List.not_mem_nil, or_false, not_or]; exact ⟨hb1, hb2⟩) (Heap.get?_push_of_some _ (Heap.get?_push_of_some _ e))
      · cases r₂ with
        | error e => exact hr₂
        | ok fl₂ =>
          cases fl₂ with
          | ret r =>
            obtain ⟨rfl, h', tk, rfl, hS', hk'⟩ := hr₂
            repeat (any_goals (first | assumption | wp_step))
            exact h _ _ hS' hk'
          | _ => exact hr₂.elim
    | _ => exact hr.elim
end
end Ta

set_option Elab.async false
set_option linter.all false
set_option maxRecDepth 100000
set_option maxHeartbeats 3200000
namespace Ta
open PySem PySem.Spec PyProof.Rows L2
theorem dn_map {α β : Type} [BEq α] [LawfulBEq α] [BEq β] [LawfulBEq β] (f : α → β) (hf : ∀ x y, f x = f y → x = y) (l : List α) : dn (l.map f) = dn l := by
  suffices h : ∀ m : List α, dn (m.reverse.map f) = dn m.reverse by
    have z := h l.reverse
    rw [List.reverse_reverse] at z
    exact z
  intro m
  induction m with
  | nil => simp [dn]
  | cons x m ih =>
    rw [List.reverse_cons, List.map_append, List.map_cons, List.map_nil, dn_snoc, dn_snoc, ih]
    have e : ((m.reverse.map f).any fun y => y == f x) = (m.reverse.any fun y => y == x) := by
      rw [List.any_map]
      congr 1
      funext y
      show (f y == f x) = (y == x)
      by_cases e : y = x
      · subst e; rw [beq_self_eq_true, beq_self_eq_true]
      · rw [beq_eq_false_iff_ne.mpr e, beq_eq_false_iff_ne.mpr fun z => e (hf _ _ z)]
    rw [e]
theorem S1_inj (x y : Nat) (h : S [x] = S [y]) : x = y := by
  injection h with h
  injection h with h
  injection h
def zLset (x : V) (H : Hp) (Q : VK) : Prop := match x with
  | .str z => (tl z).length < 4000 ∧ Q (.int (dn (tl z))) H
  | _ => False
def tLset (ta : TE) : TE := fun σ H Q => ta σ H fun x H1 => zLset x H1 Q
section
variable {X : Cx}
theorem plset {a : Expr} {ta : TE} {p p2 q pos : Pos} (hc : X.calm = true) (hm : X.mg "len" = none) (hm2 : X.mg "set" = none) (ha : PE X a ta) (hg : Gl X "len" := by rfl) (hg2 : Gl X "set" := by rfl)
    (na : starEach [a] X.env = (false, eval a X.env) :: starEach [] X.env := by rfl) : PE X (.Call (.Name "len" p) [.Call (.Name "set" p2) [a] [] q] [] pos) (tLset ta) := by
  refine ⟨fun pins s σ H Q I h => ?_⟩
  refine Call_ (ld_blt I hg hm boot_len ?_)
  refine PyProof.Rows.callWith_builtin1 (PyProof.Rows.args_cons ?_ rfl) rfl rfl
  refine Call_ (ld_blt I hg2 hm2 boot_set ?_)
  refine PyProof.Rows.callWith_type1 (PyProof.Rows.args_cons (thn (ha.run pins s σ H _ I h) fun v s1 ⟨x, H1, I1, r1, q1⟩ => PyProof.Rows.args_nil ?_) na) na rfl
  cases x with
  | str z =>
    obtain ⟨h1, q1⟩ := q1
    obtain ⟨t, rfl⟩ := r1
    refine call_set_text (I1.ok.hd hc) (by unfold scanBound; omega) fun h' tk hS hk => ?_
    refine PyProof.Rows.args_nil ?_
    have edn : dn (one1 (tl z)) = dn (tl z) := dn_map _ S1_inj _
    have hle := dn_le (tl z)
    obtain ⟨o, es, ep, t, ho, hex, hd, _, _, _, hf, hn⟩ := hS
    have I2 : Inv X pins σ H1 { s1 with heap := h', toks := tk } := I1.kept fun b o e => hk b o (Heap.lt_size e) e
    refine call_len_set ho hex hd hf (by rw [hn, edn]; omega) ⟨.int (dn (tl z)), H1, I2.tok _, ⟨_, by rw [hn, edn]⟩, q1⟩
  | _ => exact False.elim q1
end

/-! ### sorted(text) -/
def srt (l : List Nat) : List Nat := l.mergeSort fun a b => decide (a ≤ b)
theorem srt_perm (l : List Nat) : (srt l).Perm l := List.mergeSort_perm _ _
theorem srt_pw (l : List Nat) : (srt l).Pairwise (· ≤ ·) := by
  have h := List.pairwise_mergeSort (le := fun a b : Nat => decide (a ≤ b)) (fun a b c h1 h2 => by simp at *; omega) (fun a b => by simp; omega) l
  exact h.imp fun z => by simpa using z
theorem srt_uniq {l m : List Nat} (h : m.Perm l) (hp : m.Pairwise (· ≤ ·)) : m = srt l :=
  List.Perm.eq_of_pairwise (fun _ _ _ _ a b => Nat.le_antisymm a b) hp (srt_pw l) (h.trans (srt_perm l).symm)
def sgn (l : List Nat) : List V := l.map fun c => V.str (S [c])
theorem perm_map_inv {α β : Type} {f : α → β} : ∀ {l : List α} {m : List β}, m.Perm (l.map f) → ∃ l' : List α, m = l'.map f ∧ l'.Perm l := by
  intro l m h
  generalize e : l.map f = k at h
  induction h generalizing l with
  | nil => exact ⟨[], rfl, by simp at e; subst e; exact .nil⟩
  | cons x h ih =>
    cases l with
    | nil => cases e
    | cons y l =>
      injection e with e1 e2
      obtain ⟨l', h1, h2⟩ := ih e2
      exact ⟨y :: l', by rw [h1, ← e1]; rfl, h2.cons y⟩
  | swap x y t =>
    cases l with
    | nil => cases e
    | cons a l => cases l with
      | nil => cases e
      | cons b l =>
        injection e with e1 e2
        injection e2 with e2 e3
        exact ⟨b :: a :: l, by rw [List.map_cons, List.map_cons, e1, e2, e3], .swap a b l⟩
  | trans h1 h2 ih1 ih2 =>
    obtain ⟨l1, e1, p1⟩ := ih2 e
    obtain ⟨l2, e2, p2⟩ := ih1 e1.symm
    exact ⟨l2, e2, p2.trans p1⟩
theorem rising_one : ∀ (l : List Nat) (a : Nat), risingS (S [a]) (l.map fun c => S [c]) = true → l.Pairwise (· ≤ ·) ∧ ∀ b ∈ l, a ≤ b
  | [], a, _ => ⟨.nil, fun _ h => nomatch h⟩
  | b :: l, a, h => by
    simp only [List.map_cons, risingS, Bool.and_eq_true] at h
    obtain ⟨h1, h2⟩ := h
    obtain ⟨i1, i2⟩ := rising_one l b h2
    have hab : a ≤ b := by
      have z : ltCps [b] [a] = false := by simpa using h1
      unfold ltCps at z
      apply Decidable.byContradiction
      intro hc
      have : b < a := by omega
      simp [this] at z
    refine ⟨.cons i2 i1, fun c hc => ?_⟩
    rcases List.mem_cons.mp hc with rfl | hc
    · exact hab
    · exact Nat.le_trans hab (i2 c hc)
theorem sorted_one (l : List Nat) (h : sortedS (l.map fun c => S [c]) = true) : l.Pairwise (· ≤ ·) := by
  cases l with
  | nil => exact .nil
  | cons a l => exact .cons (rising_one l a h).2 (rising_one l a h).1
def zSrt1 (x : V) (H : Hp) (Q : VK) : Prop := match x with
  | .str z => (tl z).length < 64 ∧ ∀ p, H p = none → Q (.ref p) (upd H p (.lst (sgn (srt (tl z)))))
  | _ => False
def zSort1 : List V → Hp → VK → Prop := fun xs H Q => one xs fun x => zSrt1 x H Q
section
variable {X : Cx}
theorem crsort (hcalm : X.calm = true) : CallR X (.builtin "sorted") zSort1 := by
  intro pins s σ H xs us Q I r q
  obtain ⟨x, rfl, q⟩ := one_e q
  obtain ⟨u, eu, rx⟩ := vals1 r
  subst eu
  cases x with
  | str z =>
    obtain ⟨h64, q⟩ := q
    obtain ⟨t, rfl⟩ := rx
    refine Calls.call_function_entry PyProof.Rows.kind_sorted PyProof.Rows.plain_sorted PyProof.Rows.entry_sorted (PyProof.Rows.args_sorted1 _) ?_
    unfold Builtin.«sorted»
    refine wpAny_bind (m := checkCount "sorted" 1 1 _) (wpAny_pure ?_)
    have hsz : z.cps.size = (tl z).length := by simp [tl]
    refine wpAny_bind (wpAny_collect_str (A := X.A.in1) (I.ok.hd hcalm) z t (fun s' acc hk hg hd ho hacc => ?_) (by rw [hsz, sizeLine_eq]; omega))
    obtain ⟨h', g', d', tk, os'⟩ := s'
    simp only at hk hg hd ho
    subst hg; subst hd; subst ho
    have hal : acc.toList.length = (one1 (tl z)).length := by rw [Array.length_toList, hacc.1, hsz]; simp [one1]
    have hS : StrsAre acc.toList (one1 (tl z)) := L2.strs_at hal fun j v e => by
      obtain ⟨c, u, e1, e2⟩ := hacc.2 j v (by rw [← Array.getElem?_toList]; exact e)
      exact ⟨S [c], u, by simp [one1, tl, e1], e2⟩
    have hal2 : acc.toList.length < 64 := by rw [hal]; simpa [one1] using h64
    have I1 : Inv X pins σ H { s with heap := h', toks := tk } := I.kept hk
    refine wpAny_bind (wpAny_newList ?_ (by rw [sizeLine_eq]; omega))
    have hoL : (h'.push (seqObj "list" acc.toList.toArray 0)).get? h'.objs.size = some (seqObj "list" acc.toList.toArray 0) := Heap.get?_push_size _ rfl
    show wpAny _ _ _ _ _ { s with heap := h'.push (seqObj "list" acc.toList.toArray 0), toks := tk }
    refine wpAny_bind (wpAny_holding (wpAny_call_entry PyProof.Rows.slot_list_sort ⟨_, hoL, rfl⟩ PyProof.Rows.entry_list_sort
      (list_sort_treeK strKind_oneLt (s := { s with heap := h'.push (seqObj "list" acc.toList.toArray 0), toks := tk }) hoL hS.keysOf (fun v₁ v₂ rest e => keyKind_strs (by rw [← e]; exact hS)) hal2 fun st' hp hs => ⟨_, rfl, ?_⟩)
      (PyProof.Rows.args_list_sort _)))
    obtain ⟨ys, g1, g2, g3⟩ := sorted_out_str hS hp hs
    obtain ⟨e', he'⟩ := PyProof.Rows.sortedHeap_at (vs := acc.toList) (out := (arrOf st').map (·.2)) hoL
    obtain ⟨l', rfl, pl⟩ := perm_map_inv g2
    have el : l' = srt (tl z) := srt_uniq pl (sorted_one l' g3)
    subst el
    have hlen : (sgn (srt (tl z))).length ≤ sizeLine := by
      unfold sgn
      rw [List.length_map, (srt_perm _).length_eq, sizeLine_eq]; omega
    have ev : ((srt (tl z)).map fun c => S [c]).map V.str = sgn (srt (tl z)) := by unfold sgn; rw [List.map_map]; rfl
    refine wpAny_pure ⟨_, rfl, .ref h'.objs.size, upd H h'.objs.size (.lst (sgn (srt (tl z)))), I1.laid (t' := tk) (fun b u e => ?_) (Nat.le_refl _)
      (show ObjOk X.prog X.w _ _ _ (.lst (sgn (srt (tl z)))) from ⟨hlen, ((arrOf st').map (·.2)).toList, e', by rw [← ev]; exact vals_of_strs g1, by rw [Array.toArray_toList]; exact he'⟩), rfl, q _ (I1.hok.fresh (Nat.le_refl _))⟩
    have hb : b < h'.objs.size := Heap.lt_size e
    rw [PyProof.Rows.sortedHeap_old (Nat.ne_of_lt hb) (by rw [size_push']; exact Nat.lt_succ_of_lt hb)]
    exact Heap.get?_push_of_some _ e
  | _ => exact False.elim q
end
end Ta

set_option Elab.async false
set_option linter.all false
set_option maxRecDepth 100000
set_option maxHeartbeats 3200000
namespace Ta
open PySem PySem.Spec PyProof.Rows L2

/-! ### own == of two instances of one class -/
def zOwn (C : Addr) (sp : Sp) : R2 := fun x y H Q => match x with
  | .ref a => (match y with
    | .ref b => look H a fun o => (match o with
      | some (.ins C1 dx fs) => look H b fun o' => (match o' with
        | some (.ins C2 dy gs) => C1 = C ∧ C2 = C ∧ sp [.ref a, .ref b] H (fun v H' => ∃ k, v = .bl k ∧ Q (.bl k) H') fun _ _ _ => False
        | _ => False)
      | _ => False)
    | _ => False)
  | _ => False
theorem zOwn_e {C : Addr} {sp : Sp} {x y : V} {H : Hp} {Q : VK} (h : zOwn C sp x y H Q) : ∃ a b dx fs dy gs, x = .ref a ∧ y = .ref b ∧ H a = some (.ins C dx fs) ∧ H b = some (.ins C dy gs) ∧ sp [.ref a, .ref b] H (fun v H' => ∃ k, v = .bl k ∧ Q (.bl k) H') fun _ _ _ => False := by
  cases x with
  | ref a =>
    cases y with
    | ref b =>
      have h := look_e h
      cases ea : H a with
      | none => rw [ea] at h; exact h.elim
      | some o =>
        rw [ea] at h
        cases o with
        | ins C1 dx fs =>
          have h := look_e h
          cases eb : H b with
          | none => rw [eb] at h; exact h.elim
          | some o' =>
            rw [eb] at h
            cases o' with
            | ins C2 dy gs =>
              obtain ⟨e1, e2, h3⟩ := h
              subst e1
              subst e2
              exact ⟨a, b, dx, fs, dy, gs, rfl, rfl, ea, eb, h3⟩
            | _ => exact h.elim
        | _ => exact h.elim
    | _ => exact h.elim
  | _ => exact h.elim
section
variable {X : Cx}
theorem opown {C : Addr} {lv : Nat} {sp : Sp} (M : Me X.prog X.w X.K X.mg X.base C "__eq__" lv [] sp) (hr : Room lv X.A) : OpR X (compareOp .Eq) (zOwn C sp) := by
  intro pins s σ H x y v u Q I rx ry h
  obtain ⟨a, b, dx, fs, dy, gs, rfl, rfl, ha, hb', h⟩ := zOwn_e h
  cases rx
  cases ry
  obtain ⟨⟨f, fd, ps, ds, F, hm, hd, hb⟩, cl⟩ := M
  cases hd
  obtain ⟨mA, J, _⟩ := ins_get I.hok ha
  obtain ⟨mB, J', _⟩ := ins_get I.hok hb'
  obtain ⟨od, J, _⟩ := J.look
  obtain ⟨od', J', _⟩ := J'.look
  obtain ⟨m, hF⟩ := I.fr
  show wpAny (model X.prog X.w) X.A (richCompare .Eq (.ref a) (.ref b)) (EP X pins σ Q) X.xe s
  refine PySem.W.cmp_K (op := .Eq) (tb := .ref C) hr.units0 hF I.ok.mod.kin J J'.type (by simp [PySem.W.notFirst]) hm.at_ hm.fn ?_
  have r2 : Vals [V.ref a, V.ref b] [Value.ref a, Value.ref b] := .cons rfl (.cons rfl .nil)
  refine wpAny_mono (run_fnSD (E := WE WF) (us := [.ref a, .ref b]) (vs := [.ref a, .ref b]) (Q := fun v H' => ∃ k, v = .bl k ∧ Q (.bl k) H') F hr hb .nil (passAt takes0 σ) I r2 h) (fun r s' q => ?_) fun _ _ z => z
  obtain ⟨z, H', I', rz, k, rfl, q⟩ := q
  cases rz
  exact ⟨.bl k, H', I', rfl, q⟩
theorem names_of {x : Str} {C : Addr} (h : GlobV X.mg x (.ref C)) (hg : Gl X x := by rfl) (hdb : (x == ("__debug__" : Str)) = false := by decide +kernel) : Names X x (.ref C) := by
  obtain ⟨u, hm, r⟩ := h.ex
  cases (show u = Value.ref C from r)
  exact ⟨hg, hdb, .inl hm⟩
end

/-! ### the clause of a try -/
theorem was_t {K : PySem.W.Frag} {c : Value} {i : Nat} {ts : Addr → Value → Option Addr → TS} {Wout : WX} {D : Ends} {cls : Value} {d : Option Addr} {σ : St} {H : Hp} (h : PySem.W.exmOne K cls c = some true)
    (q : ∀ a, H a = none → ts a cls d { nx := fun σ' H' => D.nx (σ'.set i none) H', rt := D.rt, bk := fun σ' H' => D.bk (σ'.set i none) H', ct := fun σ' H' => D.ct (σ'.set i none) H' } (σ.set i (some (.ref a))) H) : wAs K c i ts Wout D cls d σ H :=
  ⟨true, h, fun _ => q, (fun z => by cases z)⟩
theorem was_f {K : PySem.W.Frag} {c : Value} {i : Nat} {ts : Addr → Value → Option Addr → TS} {Wout : WX} {D : Ends} {cls : Value} {d : Option Addr} {σ : St} {H : Hp} (h : PySem.W.exmOne K cls c = some false)
    (q : Wout cls d σ H) : wAs K c i ts Wout D cls d σ H :=
  ⟨false, h, (fun z => by cases z), fun _ => q⟩

/-! ### heaps -/
/-- H' keeps what H has, but for F -/
def Kp (F : List Addr) (H H' : Hp) : Prop := ∀ q o, H q = some o → q ∉ F → H' q = some o
theorem Kp.rfl' {F : List Addr} {H : Hp} : Kp F H H := fun _ _ h _ => h
theorem Kp.trans {F : List Addr} {H H1 H2 : Hp} (a : Kp F H H1) (b : Kp F H1 H2) : Kp F H H2 := fun q o h n => b q o (a q o h n) n
theorem Kp.mono {F F' : List Addr} {H H' : Hp} (a : Kp F H H') (h : ∀ q ∈ F, q ∈ F') : Kp F' H H' := fun q o e n => a q o e fun z => n (h q z)
theorem Kp.nil {F : List Addr} {H H' : Hp} (a : Kp [] H H') : Kp F H H' := a.mono fun _ z => nomatch z
theorem Kp.new {F : List Addr} {H H1 : Hp} {p : Addr} {o : HO} (a : Kp F H H1) (h : H1 p = none) : Kp F H (upd H1 p o) := fun q o' e n => by
  have z := a q o' e n
  rw [upd_ne (ne_of_none z h)]; exact z
theorem Kp.at {F : List Addr} {H H1 : Hp} {p : Addr} {o : HO} (a : Kp F H H1) (h : p ∈ F) : Kp F H (upd H1 p o) := fun q o' e n => by
  have hne : q ≠ p := fun z => n (by rw [z]; exact h)
  rw [upd_ne hne]; exact a q o' e n
theorem Kp.own {F : List Addr} {H H1 : Hp} {p : Addr} {o : HO} (a : Kp F H H1) (h : H p = none) : Kp F H (upd H1 p o) := fun q o' e n => by
  rw [upd_ne (ne_of_none e h)]; exact a q o' e n
theorem upd_at {H : Hp} {p : Addr} {o : HO} : upd H p o p = some o := by unfold upd; rw [if_pos rfl]
theorem upd_fr {H : Hp} {p q : Addr} {o o' : HO} (h : H p = none) (hq : H q = some o) : upd H p o' q = some o := by rw [upd_ne (ne_of_none hq h)]; exact hq
theorem upd_off {H : Hp} {p q : Addr} {o o' : HO} (h : q ≠ p) (hq : H q = some o) : upd H p o' q = some o := by rw [upd_ne h]; exact hq
theorem upd_tw {H : Hp} {p : Addr} {o o' : HO} : upd (upd H p o) p o' = upd H p o' := by
  funext q; unfold upd; split <;> rfl
theorem mem1 {F : List Addr} {q : Addr} (h : ∀ x ∈ F, q ≠ x) : q ∉ F := fun z => h q z rfl
theorem ne_none {H : Hp} {p q : Addr} {o : HO} (h : H q = some o) (hp : H p = none) : q ≠ p := ne_of_none h hp
theorem ne_none' {H : Hp} {p q : Addr} {o : HO} (h : H q = some o) (hp : H p = none) : p ≠ q := (ne_of_none h hp).symm
theorem Kp.get {F : List Addr} {H H' : Hp} {q : Addr} {o : HO} (a : Kp F H H') (h : H q = some o) (n : q ∉ F) : H' q = some o := a q o h n
theorem Kp.get0 {H H' : Hp} {q : Addr} {o : HO} (a : Kp [] H H') (h : H q = some o) : H' q = some o := a q o h fun z => nomatch z
theorem Kp.get1 {p : Addr} {H H' : Hp} {q : Addr} {o : HO} (a : Kp [p] H H') (h : H q = some o) (n : q ≠ p) : H' q = some o := a q o h fun z => n (List.mem_singleton.mp z)
/-- a side goal, left to the end -/
structure Sd (p : Prop) : Prop where
  out : p
theorem sd_i {p : Prop} (h : p) : Sd p := by refine ⟨?_⟩; exact h
theorem sd_e {p : Prop} (h : Sd p) : p := by replace h := h.out; exact h
theorem cnd_d {c : Prop} [Decidable c] {p q : Prop} (h1 : c → p) (h2 : ¬ c → q) : cnd (decide c) p q := cnd_i (fun h => h1 (of_decide_eq_true h)) (fun h => h2 (of_decide_eq_false h))
theorem cnd_n {c : Bool} {p q : Prop} (h : cnd c q p) : cnd (!c) p q := by
  replace h := h.out; refine ⟨?_⟩
  cases c <;> exact h

/-! ### [c for c in text if test] -/
theorem filter_take {l : List Nat} {f : Nat → Bool} {k c : Nat} (h : l[k]? = some c) : (l.take (k + 1)).filter f = (l.take k).filter f ++ (if f c = true then [c] else []) := by
  rw [List.take_succ, h]
  simp [List.filter_append, List.filter_cons]
theorem lcp_g {n : Nat} {it : Itm} {st : Hp → Prop} {l : List Nat} {i : Nat} {tt : TT} {te : TE} {σ : St} {H1 : Hp} {Q : VK} {vs : List Nat} (hn : n = l.length) (hit : ∀ k H x H', it k H x H' → H' = H ∧ ∃ c, l[k]? = some c ∧ x = .str (S [c])) (hst : ∀ D xs, H1 D = none → st (upd H1 D (.lst xs)))
    (f : Nat → Bool) (hl : l.length < 1000000) (ht : ∀ c D H' Q', H1 D = none → c ∈ l → (∃ xs, H' = upd H1 D (.lst xs)) → Q' (f c) H' → tt ((wipe σ vs).set i (some (.str (S [c])))) H' Q')
    (he : ∀ c H' Q', Q' (.str (S [c])) H' → te ((wipe σ vs).set i (some (.str (S [c])))) H' Q')
    (hw : ∀ v, wipe ((wipe σ vs).set i v) vs = wipe σ vs) (q : ∀ D, H1 D = none → Q (.ref D) (upd H1 D (.lst (sgn (l.filter f))))) : lcp n it st (gName i) tt te vs σ H1 Q := by
  subst hn
  refine lcp_i (fun D k H => H = upd H1 D (.lst (sgn ((l.take k).filter f)))) (fun D hD => rfl) (fun D k H hD _ e => by rw [e]; exact hst D _ hD) ?_ ?_
  · rintro D k x H H' hD hk rfl hi
    obtain ⟨rfl, c, hc, rfl⟩ := hit _ _ _ _ hi
    refine ⟨hw _, ht c D _ _ hD (List.mem_of_getElem? hc) ⟨_, rfl⟩ ?_⟩
    cases e : f c with
    | true =>
      rw [if_pos rfl]
      refine he c _ _ ⟨_, upd_at, ?_, ?_⟩
      · unfold sgn
        rw [List.length_map, sizeLine_eq]
        have h1 := List.length_filter_le f (l.take k)
        rw [List.length_take] at h1
        omega
      · rw [upd_tw, filter_take hc, e, if_pos rfl]
        unfold sgn
        rw [List.map_append]
        rfl
    | false =>
      rw [if_neg (by simp), filter_take hc, e, if_neg (by simp), List.append_nil]
  · rintro D H hD rfl
    rw [List.take_length]
    exact q D hD
theorem lcp_f {l : List Nat} {i : Nat} {tt : TT} {te : TE} {σ : St} {H1 : Hp} {Q : VK} {vs : List Nat} (f : Nat → Bool) (hl : l.length < 1000000)
    (ht : ∀ c D H' Q', H1 D = none → c ∈ l → (∃ xs, H' = upd H1 D (.lst xs)) → Q' (f c) H' → tt ((wipe σ vs).set i (some (.str (S [c])))) H' Q')
    (he : ∀ c H' Q', Q' (.str (S [c])) H' → te ((wipe σ vs).set i (some (.str (S [c])))) H' Q')
    (hw : ∀ v, wipe ((wipe σ vs).set i v) vs = wipe σ vs) (q : ∀ D, H1 D = none → Q (.ref D) (upd H1 D (.lst (sgn (l.filter f))))) : lcp l.length (itS l) (fun _ => True) (gName i) tt te vs σ H1 Q :=
  lcp_g rfl (fun _ _ _ _ h => h) (fun _ _ _ => trivial) f hl ht he hw q
theorem lcp_l {l : List Nat} {p : Addr} {i : Nat} {tt : TT} {te : TE} {σ : St} {H1 : Hp} {Q : VK} {vs : List Nat} (hp : H1 p = some (.lst (sgn l))) (f : Nat → Bool) (hl : l.length < 1000000)
    (ht : ∀ c D H' Q', H1 D = none → c ∈ l → (∃ xs, H' = upd H1 D (.lst xs)) → Q' (f c) H' → tt ((wipe σ vs).set i (some (.str (S [c])))) H' Q')
    (he : ∀ c H' Q', Q' (.str (S [c])) H' → te ((wipe σ vs).set i (some (.str (S [c])))) H' Q')
    (hw : ∀ v, wipe ((wipe σ vs).set i v) vs = wipe σ vs) (q : ∀ D, H1 D = none → Q (.ref D) (upd H1 D (.lst (sgn (l.filter f))))) : lcp (sgn l).length (itL (sgn l)) (fun H' => H' p = some (.lst (sgn l))) (gName i) tt te vs σ H1 Q := by
  refine lcp_g (l := l) (by unfold sgn; rw [List.length_map]) (fun k H x H' h => ⟨h.1, ?_⟩) (fun D xs hD => upd_fr hD hp) f hl ht he hw q
  have h2 := h.2
  unfold sgn at h2
  rw [List.getElem?_map] at h2
  cases e : l[k]? with
  | none => rw [e] at h2; cases h2
  | some c => rw [e] at h2; exact ⟨c, rfl, (Option.some.inj h2).symm⟩
theorem upd_self {H : Hp} {p : Addr} {o : HO} (h : H p = some o) : upd H p o = H := by
  funext q; unfold upd; split
  · rename_i e; rw [e, h]
  · rfl

theorem joinL_one : ∀ l : List Nat, TL.joinL [] (l.map fun c => [c]) = l
  | [] => rfl
  | [a] => rfl
  | a :: b :: l => by
    have ih := joinL_one (b :: l)
    show [a] ++ [] ++ TL.joinL [] ((b :: l).map fun c => [c]) = _
    rw [ih]
    rfl
theorem sum_one (l : List Nat) : ((l.map fun c => [c]).map List.length).sum = l.length := by
  induction l with
  | nil => rfl
  | cons a l ih => simp only [List.map_cons, List.sum_cons, ih, List.length_cons, List.length_nil]; omega
theorem joi_i {l : List Nat} {k : List Nat → Prop} (h : l.length ≤ 1000000) (q : k l) : joi (sgn l) (tl (S [])) k := by
  refine ⟨?_⟩
  refine ⟨l.map fun c => [c], by unfold sgn; rw [List.map_map]; rfl, ?_, ?_⟩
  · rw [sum_one, List.length_map]
    show _ + _ * 0 ≤ _
    omega
  · show k (TL.joinL [] _)
    rw [joinL_one]; exact q
theorem sgn_len (l : List Nat) : (sgn l).length = l.length := by unfold sgn; rw [List.length_map]
theorem srt_len (l : List Nat) : (srt l).length = l.length := (srt_perm l).length_eq
theorem sgn_fe (l : List Nat) (f : Nat → Bool) : (sgn (l.filter f)).isEmpty = !l.any f := by
  induction l with
  | nil => rfl
  | cons a l ih =>
    rw [List.filter_cons, List.any_cons]
    cases f a with
    | true => rfl
    | false => exact ih

theorem itm_s {α : Type} {l : List α} {i : Int} {k : α → Prop} (h0 : 0 ≤ i) (h1 : i < (l.length : Int)) (q : ∀ (j : Nat) (hj : j < l.length), i = (j : Int) → k l[j]) : itm l i k := by
  obtain ⟨j, rfl⟩ := Int.eq_ofNat_of_zero_le h0
  have hj : j < l.length := by omega
  exact itm_n rfl (List.getElem?_eq_getElem hj) (q j hj rfl)
theorem perm_out {l r : List Nat} {j : Nat} (hj : j < r.length) : ((l ++ [r[j]]) ++ (r.take j ++ r.drop (j + 1))).Perm (l ++ r) := by
  have e : r = r.take j ++ r[j] :: r.drop (j + 1) := by
    rw [List.getElem_cons_drop, List.take_append_drop]
  have h1 : (r[j] :: (r.take j ++ r.drop (j + 1))).Perm r := by
    refine List.Perm.trans ?_ (List.Perm.of_eq e.symm)
    exact List.perm_middle.symm
  rw [List.append_assoc]
  exact h1.append_left l
theorem dn_nodup (l : List Nat) : dn l = l.length ↔ l.Nodup := by
  suffices h : ∀ m : List Nat, dn m.reverse = m.reverse.length ↔ m.reverse.Nodup by
    have z := h l.reverse
    rw [List.reverse_reverse] at z
    exact z
  intro m
  induction m with
  | nil => simp [dn]
  | cons x m ih =>
    rw [List.reverse_cons, dn_snoc, List.length_append, List.nodup_append]
    have hle := dn_le m.reverse
    have ea : (m.reverse.any fun y => y == x) = decide (x ∈ m.reverse) := by
      rw [Bool.eq_iff_iff]; simp
    rw [ea]
    by_cases hx : x ∈ m.reverse
    · rw [if_pos (decide_eq_true hx)]
      constructor
      · intro h; simp at h hle; omega
      · rintro ⟨_, _, h⟩
        exact absurd rfl (h x hx x (List.mem_singleton.mpr rfl))
    · rw [if_neg (by simpa using hx)]
      constructor
      · intro h
        refine ⟨ih.mp (by simp at h ⊢; omega), by simp, fun a ha b hb => ?_⟩
        rw [List.mem_singleton.mp hb]
        exact fun e => hx (e ▸ ha)
      · rintro ⟨h, _, _⟩
        rw [ih.mpr h]; rfl

theorem Kp.made {F : List Addr} {H H' : Hp} {x dx : Addr} {o1 o2 : HO} (hx : H x = none) (hdx : H dx = none) (k : Kp (x :: F) (upd (upd H dx o1) x o2) H') : Kp F H H' := fun q o e n => by
  have n1 : q ≠ x := ne_of_none e hx
  have n2 : q ≠ dx := ne_of_none e hdx
  refine k q o (by rw [upd_ne n1, upd_ne n2]; exact e) fun z => ?_
  rcases List.mem_cons.mp z with z | z
  · exact n1 z
  · exact n z

theorem upd_tw2 {H : Hp} {p : Addr} {o o1 o2 : HO} : upd (upd (upd H p o) p o1) p o2 = upd H p o2 := by rw [upd_tw, upd_tw]
theorem upd_tw3 {H : Hp} {p : Addr} {o o1 o2 o3 : HO} : upd (upd (upd (upd H p o) p o1) p o2) p o3 = upd H p o3 := by rw [upd_tw, upd_tw, upd_tw]
theorem upd_tw4 {H : Hp} {p : Addr} {o o1 o2 o3 o4 : HO} : upd (upd (upd (upd (upd H p o) p o1) p o2) p o3) p o4 = upd H p o4 := by rw [upd_tw, upd_tw, upd_tw, upd_tw]
/-- a loop that changes nothing but its own name -/
theorem loop_c {n k : Nat} {it : Itm} {st : Hp → Prop} {tb : TS} {D : Ends} {σ : St} {H : Hp} (h0 : st H) (hit : ∀ i H x H', it i H x H' → H' = H) (hk : ∃ v0, σ.set k v0 = σ)
    (hs : ∀ i x v, i < n → it i H x H → tb { D with nx := fun σ' H' => Sd (∃ v', σ' = σ.set k v' ∧ H' = H), ct := fun σ' H' => Sd (∃ v', σ' = σ.set k v' ∧ H' = H), bk := D.nx } ((σ.set k v).set k (some x)) H) (hd : ∀ v, D.nx (σ.set k v) H) : loop n it st (gName k) tb D σ H := by
  obtain ⟨v0, hv0⟩ := hk
  refine loop_i (fun _ σ' H' => Sd (∃ v', σ' = σ.set k v' ∧ H' = H)) (sd_i ⟨v0, hv0.symm, rfl⟩) ?_ ?_ ?_
  · intro i σ' H' _ h
    obtain ⟨v', _, rfl⟩ := sd_e h
    exact h0
  · intro i x σ' H' H'' hi h hI
    obtain ⟨v', rfl, rfl⟩ := sd_e h
    obtain rfl := hit _ _ _ _ hI
    exact hs i x v' hi hI
  · intro σ' H' h
    obtain ⟨v', rfl, rfl⟩ := sd_e h
    exact hd v'

theorem Kp.none {H H' : Hp} {q : Addr} (k : Kp [] H H') (h : H' q = none) : H q = none := by
  cases e : H q with
  | none => rfl
  | some o => rw [k.get0 e] at h; cases h
end Ta

set_option Elab.async false
set_option linter.all false
set_option maxRecDepth 100000
set_option maxHeartbeats 400000
namespace Ta
open PySem PySem.Spec PyProof.Rows L2

/-! ### locals at the code itself -/
def FT (X : Cx) (f : List (Str × Value)) (s : Shared) : Prop := ∃ m, s.heap.Ns X.env.locals m ∧ ∀ e ∈ f, m e.1 = some e.2
section
variable {X : Cx} {pins : List (Addr × Obj)} {σ : St} {H : Hp} {s s' : Shared} {ff : List (Str × Value)}
theorem FT.after {Q : VK} {u : Value} (h : FT X ff s) (I : Inv X pins σ H s) (c : CE X.stack X.prog X.w H s Q u s') : FT X ff s' := by
  obtain ⟨m, ⟨o, es, ep, ho, r⟩, hf⟩ := h
  obtain ⟨v, H', os, bare, un, hok, rr, q⟩ := c
  obtain ⟨sl, hL⟩ := un.any ho I.free (by simp)
  exact ⟨m, ⟨_, es, ep, hL, r⟩, hf⟩
theorem FT.nil (I : Inv X pins σ H s) : FT X [] s := by
  obtain ⟨m, hn, _⟩ := I.loc
  exact ⟨m, hn, fun _ z => nomatch z⟩
theorem run_fnF {CX : CXT} {k : Nat} {f : Addr} {fd : FuncData} {ps : List Str} {sp : Sp} {E : St → XK} {dvs : List V} {ds : List Value} {Q : VK} {us : List Value} {vs : List V} (F : FnOk X.prog X.w X.K X.mg X.base CX k f fd ps sp) (hr : Room k X.A) (hb : Binds X.K fd ps ds) (hd : Vals dvs ds) (hx : PassesAt CX X σ (E σ))
    (I : Inv X pins σ H s) (hF : FT X ff s) (r : Vals vs us) (h : sp (vs ++ dvs) H Q (E σ)) : wpAny (model X.prog X.w) X.A (call (.ref f) us) (fun u s' => EP X pins σ Q u s' ∧ FT X ff s') X.xe s := by
  have r2 : Vals (vs ++ dvs) (us ++ ds) := r.append hd
  have hl : (us ++ ds).length = ps.length := by rw [← r2.length]; exact F.len _ _ _ _ h
  refine wpAny_call (codeAny_mono (F.run X.A X.stack s H ⟨us, []⟩ (us ++ ds) (vs ++ dvs) Q (E σ) hr I.env0 (hb s us I.kIn hl) r2 h) fun r s' hq => ?_)
  cases r with
  | error e => exact hx pins H s e s' I hq
  | ok fl =>
    cases fl with
    | ret u => exact ⟨I.after hq, hF.after I hq⟩
    | next => exact False.elim hq
    | brk => exact False.elim hq
    | cont => exact False.elim hq
/-- s[take(box, len(s))] -/
def tPk (sp : Sp) (W : WX) (il ib : Nat) : TE := fun σ H Q => match σ[il]? with
  | some (some (.str z)) => (match σ[ib]? with
    | some (some bv) => Lim (tl z).length ∧ sp [bv, .int (tl z).length] H (fun v H' => match v with
      | .int i => itm (tl z) i fun c => Q (.str (S [c])) H'
      | _ => False) (fun c d H' => W c d σ H')
    | _ => False)
  | _ => False
theorem tPk_e {sp : Sp} {W : WX} {il ib : Nat} {Q : VK} (h : tPk sp W il ib σ H Q) : ∃ z bv, σ[il]? = some (some (.str z)) ∧ σ[ib]? = some (some bv) ∧ Lim (tl z).length ∧ sp [bv, .int (tl z).length] H (fun v H' => match v with
      | .int i => itm (tl z) i fun c => Q (.str (S [c])) H'
      | _ => False) (fun c d H' => W c d σ H') := by
  unfold tPk at h
  split at h
  · rename_i z e1
    split at h
    · rename_i bv e2
      exact ⟨z, bv, e1, e2, h⟩
    · exact h.elim
  · exact h.elim
theorem ev_pk {il ib lv : Nat} {l b tk : Str} {sp : Sp} {W : WX} {Q : VK} {p1 p2 p3 p4 p5 p6 p7 p8 : Pos} (F : Fn X.prog X.w X.K X.mg X.base tk lv [] sp) (hr : Room lv X.A) (tks : Takes X W) (hlen : X.mg "len" = none) (I : Inv X pins σ H s) (hF : FT X ff s) (h : tPk sp W il ib σ H Q)
    (hNl : X.N[il]? = some l) (hvl : Vis X.env.scope l) (hNb : X.N[ib]? = some b) (hvb : Vis X.env.scope b) (hg : Gl X tk) (hgl : Gl X "len") (hdt : (tk == ("__debug__" : Str)) = false) (hdl : (l == ("__debug__" : Str)) = false) (hcl : (l == ("__classdict__" : Str)) = false)
    (hdb : (b == ("__debug__" : Str)) = false) (hcb : (b == ("__classdict__" : Str)) = false)
    (hst : starEach [.Name b p3, .Call (.Name "len" p4) [.Name l p5] [] p6] X.env = [(false, eval (.Name b p3) X.env), (false, eval (.Call (.Name "len" p4) [.Name l p5] [] p6) X.env)])
    (hst1 : starEach [.Call (.Name "len" p4) [.Name l p5] [] p6] X.env = [(false, eval (.Call (.Name "len" p4) [.Name l p5] [] p6) X.env)])
    (hst2 : starEach [.Name l p5] X.env = [(false, eval (.Name l p5) X.env)])
    (hix : PlainIx (.Call (.Name tk p2) [.Name b p3, .Call (.Name "len" p4) [.Name l p5] [] p6] [] p7)) :
    wpAny (model X.prog X.w) X.A (eval (.Subscript (.Name l p1) (.Call (.Name tk p2) [.Name b p3, .Call (.Name "len" p4) [.Name l p5] [] p6] [] p7) p8) X.env)
      (fun u s' => ∃ (c : Nat) (t : Nat) (H' : Hp), u = .str (S [c]) t ∧ 1 ≤ t ∧ s.toks ≤ t ∧ t < s'.toks ∧ Inv X pins σ H' s' ∧ Q (.str (S [c])) H' ∧ FT X ff s') X.xe s := by
  obtain ⟨z, bv, e1, e2, hlim, h⟩ := tPk_e h
  obtain ⟨f, fd, ps, ds, F, hm, hk, hd, hb⟩ := F.ex
  cases hd
  refine Subscript_ (raw_name hNl hvl I e1 (fun v r => ?_) hdl hcl)
  obtain ⟨tz, rfl⟩ := r
  refine wpAny_Call_Name_kw (ld_glob I hg hm ?_ hdt)
  refine PySem.W.callWith_K (h₀ := X.base) I.ok.mod.kin hk ?_ (by rw [hst, hst1]) (by rw [hst1]; rfl)
  rw [hst]
  show wpAny _ _ (spliced ((false, eval (.Name b p3) X.env) :: backTo p7 [(false, eval (.Call (.Name "len" p4) [.Name l p5] [] p6) X.env)])) _ _ s
  refine Calls.spliced_cons (raw_name hNb hvb I e2 (fun ub rb => ?_) hdb hcb)
  show wpAny _ _ (spliced ((false, eval (.Call (.Name "len" p4) [.Name l p5] [] p6) X.env) :: backTo p7 [])) _ _ s
  refine Calls.spliced_cons ?_
  refine Call_ (ld_blt I hgl hlen boot_len ?_)
  refine PyProof.Rows.callWith_builtin1 (PyProof.Rows.args_cons (raw_name hNl hvl I e1 (fun v r => ?_) hdl hcl) (by rw [hst2]; rfl)) (by rw [hst2]; rfl) rfl
  obtain ⟨tz2, rfl⟩ := r
  refine PyProof.Rows.args_nil ?_
  have hn := line63
  have hz : z.length ≤ sizeLine := by rw [len_tl]; exact hlim
  refine len_str (by omega) ?_
  refine Calls.spliced_nil ⟨(I.tok _).kIn, ?_⟩
  have I1 : Inv X pins σ H { s with toks := s.toks + 1 + 1 } := I.tok _
  have rv : Vals [bv, .int (tl z).length] [ub, .int z.length (s.toks + 1)] := .cons rb (.cons ⟨_, by rw [len_tl]⟩ .nil)
  refine wpAny_mono (wpAny_toks_of (n := s.toks + 1 + 1) (Nat.le_refl _) (run_fnF (E := WE W) (ff := ff) (us := [ub, .int z.length (s.toks + 1)]) (vs := [bv, .int (tl z).length]) F hr hb .nil (passAt tks σ) I1 hF rv h)) (fun u s2 hq => ?_) fun _ _ z => z.2
  obtain ⟨hle, ⟨y, H2, I2, ry, q⟩, hF2⟩ := hq
  cases y with
  | int i =>
    obtain ⟨ti, rfl⟩ := ry
    obtain ⟨c, hat, q⟩ := itm_e q
    obtain ⟨j, h1, h2, h3, h4, h5⟩ := atI_get hat
    have hl : z.cps.toList.length = z.length := by simp [Str.length]
    rw [hl] at h1 h4 h5
    refine tail_any (typeIs_str s2 z tz) slot_str_getitem.lookup (getItem_str (c := c) (by
      have e1 : decide (i < -(2 ^ 63 : Int)) = false := decide_eq_false (by omega)
      have e2 : decide (i ≥ 2 ^ 63) = false := decide_eq_false (by omega)
      rw [e1, e2, Bool.or_false]) (by rw [h1]; simpa using h2) ?_) (hix _ _)
    exact ⟨c, s2.toks, H2, rfl, by omega, by omega, Nat.lt_succ_self _, I2.tok _, q, hF2⟩
  | _ => exact False.elim q
theorem store_F {M : Model} {A : Around} {E : Value → Shared → Prop} {i : Nat} {x : Str} {v : V} {u : Value} {Q : Unit → Shared → Prop} (I : Inv X pins σ H s) (hN : X.N.Nodup) (hi : X.N[i]? = some x) (hk : X.env.kindOf x = some .local) (r : RelV v u) (hF : FT X ff s) (hx : ∀ e ∈ ff, e.1 ≠ x)
    (h : ∀ s', Inv X pins (σ.set i (some v)) H s' → FT X ((x, u) :: ff) s' → s'.toks = s.toks + 1 → Q () s') : wpAny M A (storeName X.env x u) Q E s := by
  obtain ⟨m, hn, hl⟩ := id I.loc
  obtain ⟨m2, hn2, hf⟩ := hF
  have em : m2 = m := by
    obtain ⟨o, es, ep, ho, hd, _, r⟩ := hn
    obtain ⟨o2, es2, ep2, ho2, hd2, _, r2⟩ := hn2
    rw [ho] at ho2
    cases ho2
    rw [hd] at hd2
    cases hd2
    funext name
    rw [← r2 name, ← r name]
  subst em
  have hcls : (X.env.scope.kind == .class || (X.env.scope.kind == .module && X.env.locals != X.env.globals)) = false := by rw [I.ok.kind]; rfl
  have hiσ : i < σ.length := by rw [I.len]; exact (List.getElem?_eq_some_iff.mp hi).1
  have cne := I.cne
  have tracked : ∀ {a : Addr} {h' : Heap}, (∃ o, s.heap.get? a = some o ∧ H a = none) → Heap.SameBut a s.heap h' → HOk X.prog X.w H h' := fun {a h'} ha hs b ob e => by
    obtain ⟨_, _, hfree⟩ := ha
    refine (I.hok b ob e).stay (fun c w' hc q => (hs.2 c ?_).trans q) (fun _ q => q) fun _ _ q => q
    rintro rfl
    rcases hc with rfl | hc
    · rw [hfree] at e; cases e
    · rw [hfree] at hc; cases hc
  refine wpAny_storeName_local hk hn (fun h' hn' hs => ?_) hcls
  obtain ⟨oL, _, _, hoL, _⟩ := id hn
  refine h _ ⟨I.ok, I.os, I.bare, ⟨fun b o e n hb hx => ?_, fun b o e n hb hx => ?_, I.base.free, fun b o e hx => ?_, I.base.tups, I.base.frzs, I.base.tbls⟩, ⟨_, hn', fun j y v' e1 e2 e3 => ?_⟩, fun y c e => ?_, I.free, I.freeC, fun p hp => ?_, tracked ⟨oL, hoL, I.free⟩ hs, by simpa using I.len⟩ ⟨_, hn', fun e he => ?_⟩ rfl
  · exact (hs.2 b (Nat.ne_of_lt (Nat.lt_of_lt_of_le (Heap.lt_size e) I.ok.above))).trans (I.base.keep b o e n hb hx)
  · obtain ⟨sl, e1⟩ := I.base.slot b o e n hb hx
    exact ⟨sl, (hs.2 b (Nat.ne_of_lt (Nat.lt_of_lt_of_le (Heap.lt_size e) I.ok.above))).trans e1⟩
  · obtain ⟨o', e1⟩ := I.base.there b o e hx
    exact ⟨o', (hs.2 b (Nat.ne_of_lt (Nat.lt_of_lt_of_le (Heap.lt_size e) I.ok.above))).trans e1⟩
  · by_cases hj : j = i
    · subst hj
      rw [hi] at e1; cases e1
      rw [List.getElem?_set_self hiσ] at e2
      cases e2
      exact ⟨u, r, .inl ⟨hk, by simp⟩⟩
    · rw [List.getElem?_set_ne (Ne.symm hj)] at e2
      obtain ⟨u', r', q⟩ := hl j y v' e1 e2 e3
      refine ⟨u', r', ?_⟩
      rcases q with ⟨k, e⟩ | ⟨k, c, e, z⟩
      · refine .inl ⟨k, ?_⟩
        have : y ≠ x := fun e => hj (nodup_ix hN e1 (e ▸ hi))
        simp [this, e]
      · exact .inr ⟨k, c, e, z.sameBut hs (cne y c e)⟩
  · obtain ⟨w', z⟩ := I.cell y c e
    exact ⟨w', z.sameBut hs (cne y c e)⟩
  · obtain ⟨e, n, ne, nf, d⟩ := I.pin p hp
    exact ⟨(hs.2 p.1 ne).trans e, n, ne, nf, d⟩
  · rcases List.mem_cons.mp he with rfl | he
    · show (if x = x then some u else m2 x) = some u
      rw [if_pos rfl]
    · show (if e.1 = x then some u else m2 e.1) = some e.2
      rw [if_neg (hx e he)]
      exact hf e he
/-! ### texts in locals whose tokens are out and apart -/
def tokOf : Value → Nat
  | .str _ t => t
  | _ => 0
def TKs (X : Cx) (ns : List Str) (s : Shared) : Prop := ∃ ff : List (Str × Value), FT X ff s ∧ ff.map (·.1) = ns ∧ (∀ e ∈ ff, ∃ (x : Str) (t : Nat), e.2 = .str x t ∧ 1 ≤ t ∧ t < s.toks) ∧ (ff.map fun e => tokOf e.2).Nodup
structure PSsK (X : Cx) (ns : List Str) (st : List Stmt) (t : TS) : Prop where
  run : ∀ (pins : List (Addr × Obj)) (s : Shared) (σ : St) (H : Hp) (D : Ends), Inv X pins σ H s → TKs X ns s → t D σ H → wpAny (model X.prog X.w) X.A (execs st X.env) (SP X pins D) X.xe s
structure PEK (X : Cx) (ns : List Str) (e : Expr) (t : TE) : Prop where
  run : ∀ (pins : List (Addr × Obj)) (s : Shared) (σ : St) (H : Hp) (Q : VK), Inv X pins σ H s → TKs X ns s → t σ H Q → wpAny (model X.prog X.w) X.A (eval e X.env) (fun u s' => EP X pins σ Q u s' ∧ TKs X ns s') X.xe s
structure PAK (X : Cx) (ns : List Str) (es : List Expr) (t : TA) : Prop where
  run : ∀ (pos : Pos) (pins : List (Addr × Obj)) (s : Shared) (σ : St) (H : Hp) (Q : List V → Hp → Prop), Inv X pins σ H s → TKs X ns s → t σ H Q → wpAny (model X.prog X.w) X.A (spliced (backTo pos (starEach es X.env))) (fun us s' => AP X pins σ Q us s' ∧ TKs X ns s') X.xe s
theorem pssk0 {st : List Stmt} {t : TS} (h : PSsK X [] st t) : PSs X st t :=
  ⟨fun pins s σ H D I q => h.run pins s σ H D I ⟨[], FT.nil I, rfl, fun _ z => (nomatch z), .nil⟩ q⟩
theorem pak_nil {ns : List Str} : PAK X ns [] tNil := ⟨fun _ _ _ _ H Q I k h => Calls.spliced_nil ⟨⟨[], H, I, .nil, h⟩, k⟩⟩
theorem pak_cons {ns : List Str} {e : Expr} {es : List Expr} {te : TE} {t : TA} (ha : PEK X ns e te) (hr : PAK X ns es t) (hs : starEach (e :: es) X.env = (false, eval e X.env) :: starEach es X.env := by rfl) : PAK X ns (e :: es) (tCons te t) := by
  refine ⟨fun pos pins s σ H Q I k h => ?_⟩
  rw [hs]
  show wpAny _ _ (spliced ((false, eval e X.env) :: backTo pos (starEach es X.env))) _ _ s
  refine Calls.spliced_cons (thn (ha.run pins s σ H _ I k h) fun u s1 ⟨⟨x, H1, I1, r1, q1⟩, k1⟩ => ?_)
  exact thn (hr.run pos pins s1 σ H1 _ I1 k1 q1) fun us s2 ⟨⟨xs, H2, I2, r2, q2⟩, k2⟩ => ⟨⟨x :: xs, H2, I2, .cons r1 r2, q2⟩, k2⟩
/-- return (..), the items under known tokens -/
theorem pssk_rtup {ns : List Str} {es : List Expr} {x1} {t : TA} {pos pos' : Pos} (h : PAK X ns es t) : PSsK X ns [.Return (some (.Tuple es x1 pos)) pos'] (tRet (tTup t)) := by
  refine ⟨fun pins s σ H D I k q => ?_⟩
  refine wpAny_execs_cons (wpAny_Return_some ?_)
  refine wpAny_Tuple_spliced (thn (h.run pos pins s σ H _ I k q) fun us s1 ⟨⟨xs, H1, I1, r, z, q⟩, _⟩ => ⟨by rw [← r.length]; exact z, ?_⟩)
  have hf : H1 s1.heap.objs.size = none := I1.hok.fresh (Nat.le_refl _)
  refine ⟨.ref s1.heap.objs.size, σ, upd H1 s1.heap.objs.size (.tup xs), I1.laid (t' := s1.toks) (fun b u e => Heap.get?_push_of_some _ e) (Nat.le_refl _) ?_, rfl, q _ hf⟩
  exact ⟨z, us, r, ⟨_, Heap.get?_push_size _ rfl, rfl, _, rfl⟩⟩
theorem pssk_set {ns : List Str} {i : Nat} {x : Str} {e : Expr} {te : TE} {rest : List Stmt} {u : TS} {pos pos' : Pos} (hN : X.N.Nodup) (he : PEK X ns e te) (hrest : PSs X rest u) (hi : X.N[i]? = some x := by rfl) (hx : Loc X.env.scope x := by first | exact Or.inl rfl | exact Or.inr rfl)
    (hs : swapsWith e (some (.Name x pos')) pos.line X.env = pure false := by rfl) (hf : X.fn x = true ∨ X.env.scope.names.lookup x = some .local := by first | exact .inl rfl | exact .inr rfl) : PSsK X ns (.Assign [.Name x pos'] e pos :: rest) (tSeq (tAsg te (gName i)) u) := by
  refine ⟨fun pins s σ H D I k h => ?_⟩
  refine wpAny_execs_cons (wpAny_Assign_Name (thn (he.run pins s σ H _ I k h) fun v s1 ⟨⟨y, H1, I1, r1, q1⟩, _⟩ => ?_) hs)
  exact store_ok I1 hN hi hx r1 (fun s2 I2 => hrest.run pins s2 _ H1 D I2 q1) hf
theorem pssk_pk {ns : List Str} {ix il ib lv : Nat} {x l b tk : Str} {sp : Sp} {W : WX} {rest : List Stmt} {u : TS} {px pos p1 p2 p3 p4 p5 p6 p7 p8 : Pos} (hN : X.N.Nodup) (F : Fn X.prog X.w X.K X.mg X.base tk lv [] sp) (hr : Room lv X.A) (tks : Takes X W) (hlen : X.mg "len" = none) (hrest : PSsK X (x :: ns) rest u) (hxn : x ∉ ns := by decide +kernel)
    (hNx : X.N[ix]? = some x := by rfl) (hkx : X.env.kindOf x = some .local := by rfl)
    (hNl : X.N[il]? = some l := by rfl) (hvl : Vis X.env.scope l := by first | exact Or.inl rfl | exact Or.inr (Or.inl rfl) | exact Or.inr (Or.inr rfl)) (hNb : X.N[ib]? = some b := by rfl) (hvb : Vis X.env.scope b := by first | exact Or.inl rfl | exact Or.inr (Or.inl rfl) | exact Or.inr (Or.inr rfl)) (hg : Gl X tk := by rfl) (hgl : Gl X "len" := by rfl)
    (hdt : (tk == ("__debug__" : Str)) = false := by decide +kernel) (hdl : (l == ("__debug__" : Str)) = false := by decide +kernel) (hcl : (l == ("__classdict__" : Str)) = false := by decide +kernel)
    (hdb : (b == ("__debug__" : Str)) = false := by decide +kernel) (hcb : (b == ("__classdict__" : Str)) = false := by decide +kernel)
    (hst : starEach [.Name b p3, .Call (.Name "len" p4) [.Name l p5] [] p6] X.env = [(false, eval (.Name b p3) X.env), (false, eval (.Call (.Name "len" p4) [.Name l p5] [] p6) X.env)] := by rfl)
    (hst1 : starEach [.Call (.Name "len" p4) [.Name l p5] [] p6] X.env = [(false, eval (.Call (.Name "len" p4) [.Name l p5] [] p6) X.env)] := by rfl)
    (hst2 : starEach [.Name l p5] X.env = [(false, eval (.Name l p5) X.env)] := by rfl)
    (hix : PlainIx (.Call (.Name tk p2) [.Name b p3, .Call (.Name "len" p4) [.Name l p5] [] p6] [] p7) := by exact fun _ _ => rfl)
    (hs : swapsWith (.Subscript (.Name l p1) (.Call (.Name tk p2) [.Name b p3, .Call (.Name "len" p4) [.Name l p5] [] p6] [] p7) p8) (some (.Name x px)) pos.line X.env = pure false := by rfl) :
    PSsK X ns (.Assign [.Name x px] (.Subscript (.Name l p1) (.Call (.Name tk p2) [.Name b p3, .Call (.Name "len" p4) [.Name l p5] [] p6] [] p7) p8) pos :: rest) (tSeq (tAsg (tPk sp W il ib) (gName ix)) u) := by
  refine ⟨fun pins s σ H D I k h => ?_⟩
  obtain ⟨ff, hF, hns, htok, hnd⟩ := k
  have h : tPk sp W il ib σ H fun x H1 => u D (σ.set ix (some x)) H1 := h
  refine wpAny_execs_cons (wpAny_Assign_Name (thn (ev_pk F hr tks hlen I hF h hNl hvl hNb hvb hg hgl hdt hdl hcl hdb hcb hst hst1 hst2 hix) fun v s1 hv => ?_) hs)
  obtain ⟨c, t, H1, rfl, h1, h2, h3, I1, q, hF1⟩ := hv
  refine store_F (v := .str (S [c])) I1 hN hNx hkx ⟨t, rfl⟩ hF1 (fun e he z => hxn (by rw [← hns, ← z]; exact List.mem_map_of_mem he)) fun s2 I2 hF2 ht2 => ?_
  refine hrest.run pins s2 _ H1 D I2 ⟨_, hF2, by rw [List.map_cons, hns], fun e he => ?_, ?_⟩ q
  · rcases List.mem_cons.mp he with rfl | he
    · exact ⟨S [c], t, rfl, h1, by omega⟩
    · obtain ⟨x', t', e1, e2, e3⟩ := htok e he
      exact ⟨x', t', e1, e2, by omega⟩
  · rw [List.map_cons]
    refine List.nodup_cons.mpr ⟨fun hm => ?_, hnd⟩
    obtain ⟨e, he, ee⟩ := List.mem_map.mp hm
    obtain ⟨x', t', e1, e2, e3⟩ := htok e he
    rw [e1] at ee
    have ee : t' = t := ee
    omega
/-! ### x.replace(old, new) -/
def rp (c d : Nat) (l : List Nat) : List Nat := l.map fun a => if a = c then d else a
theorem replL_rp (c d : Nat) : ∀ l : List Nat, StrLaws.replL [c] [d] l = rp c d l
  | [] => StrLaws.replL_nil
  | a :: l => by
    by_cases h : a = c
    · subst h
      rw [StrLaws.replL_hit (by simp) (by simp)]
      show [d] ++ StrLaws.replL [a] [d] l = _
      rw [replL_rp a d l]
      simp [rp]
    · rw [StrLaws.replL_miss (by simp [h]), replL_rp c d l]
      simp [rp, h]
theorem repl_S (x : Str) (c d : Nat) : Txt.replace x (S [c]) (S [d]) = S (rp c d (tl x)) := by
  refine ext_tl ?_
  have e := StrLaws.replace_list (x := x) (y := S [c]) (z := S [d]) (by rw [len_tl]; exact Nat.le_refl 1)
  exact e.trans (replL_rp c d (tl x))
def tRp (ix io iw : Nat) : TE := fun σ H Q => match σ[ix]? with
  | some (some (.str x)) => (match σ[io]? with
    | some (some (.str y)) => (match σ[iw]? with
      | some (some (.str z)) => (match tl y with
        | [c] => (match tl z with
          | [d] => c ≠ d ∧ (tl x).length ≤ 1000000 ∧ Q (.str (S (rp c d (tl x)))) H
          | _ => False)
        | _ => False)
      | _ => False)
    | _ => False)
  | _ => False
theorem tRp_e {ix io iw : Nat} {Q : VK} (h : tRp ix io iw σ H Q) : ∃ x c d, σ[ix]? = some (some (.str x)) ∧ σ[io]? = some (some (.str (S [c]))) ∧ σ[iw]? = some (some (.str (S [d]))) ∧ c ≠ d ∧ (tl x).length ≤ 1000000 ∧ Q (.str (S (rp c d (tl x)))) H := by
  unfold tRp at h
  split at h
  · rename_i x e1
    split at h
    · rename_i y e2
      split at h
      · rename_i z e3
        split at h
        · rename_i c ey
          split at h
          · rename_i d ez
            exact ⟨x, c, d, e1, by rw [e2, ← S_tl y, ey], by rw [e3, ← S_tl z, ez], h⟩
          · exact h.elim
        · exact h.elim
      · exact h.elim
    · exact h.elim
  · exact h.elim
theorem ns_uniq {m m2 : Str → Option Value} {h : Heap} {a : Addr} (hn : h.Ns a m) (hn2 : h.Ns a m2) : m2 = m := by
  obtain ⟨o, es, ep, ho, hd, _, r⟩ := hn
  obtain ⟨o2, es2, ep2, ho2, hd2, _, r2⟩ := hn2
  rw [ho] at ho2
  cases ho2
  rw [hd] at hd2
  cases hd2
  funext name
  rw [← r2 name, ← r name]
/-- a local's text: its token is known -/
theorem tk_name {ns : List Str} {ff : List (Str × Value)} {i : Nat} {x : Str} {y : Str} {pos : Pos} {Q E : Value → Shared → Prop} (hF : FT X ff s) (hns : ff.map (·.1) = ns) (htok : ∀ e ∈ ff, ∃ (x : Str) (t : Nat), e.2 = .str x t ∧ 1 ≤ t ∧ t < s.toks) (hx : x ∈ ns)
    (hN : X.N[i]? = some x) (hk : X.env.kindOf x = some .local) (I : Inv X pins σ H s) (hσ : σ[i]? = some (some (.str y))) (fin : ∀ t : Nat, 1 ≤ t → t < s.toks → (x, Value.str y t) ∈ ff → Q (.str y t) s)
    (hd : (x == ("__debug__" : Str)) = false) : wpAny (model X.prog X.w) X.A (eval (.Name x pos) X.env) Q E s := by
  obtain ⟨m, hn, hl⟩ := I.loc
  obtain ⟨u, ⟨t0, rfl⟩, l⟩ := hl i x _ hN hσ (.inl hk)
  obtain ⟨m2, hn2, hf⟩ := hF
  obtain rfl := ns_uniq hn hn2
  rw [← hns] at hx
  obtain ⟨e, he, rfl⟩ := List.mem_map.mp hx
  obtain ⟨y', t, e1, e2, e3⟩ := htok e he
  rcases l with ⟨_, hm⟩ | ⟨hk', _⟩
  · have hm2 := hf e he
    rw [hm] at hm2
    have e4 : e.2 = .str y t0 := (Option.some.inj hm2).symm
    rw [e4] at e1
    cases e1
    exact wpAny_Name (wpAny_loadName_local I.ok.kind hk hn2 hm (fin t0 e2 e3 (by rw [← e4]; exact he))) hd
  · rw [hk] at hk'
    rcases hk' with z | z <;> cases z
theorem pek_repl {ns : List Str} {ix io iw : Nat} {x o w' : Str} {p1 p2 p3 apos pos : Pos} (hNx : X.N[ix]? = some x := by rfl) (hvx : Vis X.env.scope x := by first | exact Or.inl rfl | exact Or.inr (Or.inl rfl) | exact Or.inr (Or.inr rfl)) (hNo : X.N[io]? = some o := by rfl) (hko : X.env.kindOf o = some .local := by rfl) (hNw : X.N[iw]? = some w' := by rfl) (hkw : X.env.kindOf w' = some .local := by rfl)
    (ho : o ∈ ns := by decide +kernel) (hw : w' ∈ ns := by decide +kernel) (hne : o ≠ w' := by decide +kernel) (hdx : (x == ("__debug__" : Str)) = false := by decide +kernel) (hcx : (x == ("__classdict__" : Str)) = false := by decide +kernel) (hdo : (o == ("__debug__" : Str)) = false := by decide +kernel) (hdw : (w' == ("__debug__" : Str)) = false := by decide +kernel)
    (hst : starEach [.Name o p2, .Name w' p3] X.env = [(false, eval (.Name o p2) X.env), (false, eval (.Name w' p3) X.env)] := by rfl)
    (hbase : attributeBase (.Name x p1) "replace" X.env (eval (.Name x p1) X.env) = eval (.Name x p1) X.env := by rfl) (hline : (apos.endLine == pos.line) = true := by rfl) :
    PEK X ns (.Call (.Attribute (.Name x p1) "replace" apos) [.Name o p2, .Name w' p3] [] pos) (tRp ix io iw) := by
  refine ⟨fun pins s σ H Q I k h => ?_⟩
  obtain ⟨z, c, d, e1, e2, e3, hcd, hb, q⟩ := tRp_e h
  obtain ⟨ff, hF, hns, htok, hnd⟩ := k
  refine wpAny_mono (wpAny_toks (Q := fun u s' => EP X pins σ Q u s' ∧ ∃ k : Nat, s' = { s with toks := k }) (PySem.Call_method2 hbase hst hline (raw_name hNx hvx I e1 (fun v r => ?_) hdx hcx))) (fun u s' hq => ?_) fun _ _ z => z.2
  · obtain ⟨tx, rfl⟩ := r
    refine ⟨"str", _, F.plainAttrs_str, F.slot_str_replace, F.type_str_replace, typeIs_str _ _ _, (fun _ e => nomatch e), Calls.callWith_builtin rfl (Calls.evalArgs_plain (Calls.spliced_cons ?_))⟩
    refine tk_name hF hns htok ho hNo hko I e2 (fun t h1 h2 hm1 => ?_) hdo
    refine Calls.spliced_cons (tk_name hF hns htok hw hNw hkw I e3 (fun t2 h3 h4 hm2 => ?_) hdw)
    refine Calls.spliced_nil ?_
    have hneq : t ≠ t2 := fun et => by
      obtain ⟨i, hi, ei⟩ := List.mem_iff_getElem.mp hm1
      obtain ⟨j, hj, ej⟩ := List.mem_iff_getElem.mp hm2
      have eij : i = j := by
        have hi' : i < (ff.map fun e => tokOf e.2).length := by rw [List.length_map]; exact hi
        have hj' : j < (ff.map fun e => tokOf e.2).length := by rw [List.length_map]; exact hj
        refine (List.getElem_inj hnd (h₀ := hi') (h₁ := hj')).mp ?_
        rw [List.getElem_map, List.getElem_map, ei, ej]
        exact et
      subst eij
      rw [ei] at ej
      exact hne (congrArg Prod.fst ej)
    refine PySem.SC.replace (show t ≠ (0 : Nat) from by omega) (show t2 ≠ (0 : Nat) from by omega) hneq (by simp only [beq_eq_false_iff_ne]; exact fun z => hcd (S1_inj _ _ z)) (by
      have : (S [d]).length = 1 := by rw [len_tl]; rfl
      rw [this, len_tl]; omega) fun t' k => ⟨⟨.str (S (rp c d (tl z))), H, I.tok k, ⟨t', by rw [repl_S]⟩, q⟩, k, rfl⟩
  · obtain ⟨hle, he, k, rfl⟩ := hq
    exact ⟨he, ff, hF, hns, fun e he => (let ⟨x, t, a, b, c⟩ := htok e he; ⟨x, t, a, b, Nat.lt_of_lt_of_le c hle⟩), hnd⟩
end
end Ta

set_option Elab.async false
set_option linter.all false
set_option maxRecDepth 100000
set_option maxHeartbeats 1000000
namespace Ta
open PySem PySem.Spec PyProof.Rows L2 He

/-! ### facts of the written part as Bools -/
abbrev BF := PySem.W.Frag → Bool
def bFree (x : Str) : BF := fun K => (Fa.free x).ok K
def bGlo (x : Str) : BF := fun K => (Fa.glo x).ok K
def bVal (x : Str) (v : V) : BF := fun K => match PySem.W.nsIn K mainGlobals x with
  | some (some u) => relB v u
  | _ => false
def bCls (x : Str) : BF := fun K => (Fa.cls x).ok K
def bNo (x f : Str) : BF := fun K => (Fa.noat x f).ok K
def bMe (x m : Str) : BF := fun K => (Fa.meth x m).ok K
def bMk (x : Str) : BF := fun K => (Fa.mkr x).ok K
def bExm (x y : Str) (b : Bool) : BF := fun K => (Fa.exm x y b).ok K
def bExmT (x : Str) (y : String) (b : Bool) : BF := fun K => decide (PySem.W.exmOne K (.ref (ga K x)) (.type y) = some b)
def bKit (x y : Str) (b : Bool) : BF := fun K => decide (PySem.W.kitOne K (.ref (ga K x)) (.ref (ga K y)) = some b)
def bKitT (x : Str) (y : String) (b : Bool) : BF := fun K => decide (PySem.W.kitOne K (.ref (ga K x)) (.type y) = some b)
def bKitA (x : Str) (ys : List Str) (b : Bool) : BF := fun K => decide (PySem.W.kitAny K (.ref (ga K x)) (ys.map fun y => .ref (ga K y)) = some b)
def bTKit (x : String) (y : Str) (b : Bool) : BF := fun K => decide (PySem.W.kitOne K (.type x) (.ref (ga K y)) = some b)
def bIsc (x : Str) : BF := fun K => (Fa.cls x).ok K && (eqO (PySem.W.findIn K (.ref (ga K x)) "__class__") (some (some (.builtin "object.__class__"))) &&
  (eqO (PySem.W.specialIn K (.builtin "object.__class__") "__get__") (some (some (.builtin "getset_descriptor.__get__"))) && (decide (PySem.W.takesIn K (.builtin "object.__class__") = some true) && decide (PySem.W.mroIn K (ga K x) (.type "object") = some true))))
def bXc (x : Str) : BF := fun K => xfB K (ga K x) && (eqO (PySem.W.findIn K (.ref (ga K x)) "__class__") (some (some (.builtin "object.__class__"))) &&
  (eqO (PySem.W.specialIn K (.builtin "object.__class__") "__get__") (some (some (.builtin "getset_descriptor.__get__"))) && (decide (PySem.W.takesIn K (.builtin "object.__class__") = some true) && decide (PySem.W.mroIn K (ga K x) (.type "object") = some true))))
def bCC (x f : Str) (v : V) : BF := fun K => (Fa.glo x).ok K && (PySem.W.readsIn K (ga K x) (.type "type") && (eqO (PySem.W.specialIn K (.ref (ga K x)) "__getattribute__") (some (some (.builtin "type.__getattribute__"))) &&
  (match PySem.W.findCls K (.ref (ga K x)) (.type "type") f with
    | some (.val u) => relB v u
    | _ => false)))
def bCon (x f : Str) (v : V) : BF := fun K => !PySem.W.copiedNames.contains f && (match PySem.W.findIn K (.ref (ga K x)) f with
  | some (some u) => relB v u && eqO (PySem.W.specialIn K u "__get__") (some none)
  | _ => false)
/-- no list of the written part holds whole numbers alone -/
def bNoL : BF := fun K => K.all fun e => match e.2 with
  | ⟨.type t, _, .seq its _, _⟩ => !decide (t = "list") || its.toList.any fun v => match v with
    | .int _ _ => false
    | _ => true
  | _ => true
def oexB (K : PySem.W.Frag) (C : Addr) : Bool := match K.lookup C with
  | some ⟨.type t, _, .cls cd, sl⟩ => decide (t = "type") && (match cd.mro, sl.toList with
    | .ref c :: bm, [_, _, _, _, some (.builtin i), _] => decide (c = C) && (PySem.HandSPX.refsVE bm && (decide (i = "ValueError.__new__") && (cd.hasDict && !cd.hasDel)))
    | _, _ => false)
  | _ => false
def bOex (x : Str) : BF := fun K => oexB K (ga K x) && (eqO (PySem.W.findIn K (.ref (ga K x)) "__setattr__") (some (some (.builtin "object.__setattr__"))) && (decide (PySem.W.subIn K (.ref (ga K x)) (.type "BaseException") = some true) &&
  (decide (PySem.W.typeIn K (.ref (ga K x)) = some (.type "type")) && PySem.W.keepIn K (.ref (ga K x)))))
/-- class x, its __init__ of class y -/
def bSup (x y : Str) : BF := fun K => decide (PySem.W.mroIn K (ga K x) (.ref (ga K y)) = some true) && (eqO (PySem.W.ks_superIn K (ga K x) (ga K y) "__init__") (some (some (.builtin "ValueError.__init__"))) &&
  (decide (PySem.W.subIn K (.ref (ga K x)) (.type "ValueError") = some true) && (eqO (PySem.W.nsIn K cStatics "thirdparty.any") (some none) &&
  (eqO (PySem.W.findIn K (.ref (ga K x)) "__init__") (some (some (.ref (ma K (ga K y) "__init__")))) && decide (PySem.W.typeIn K (.ref (ma K (ga K y) "__init__")) = some (.type "function"))))))
section
variable {K : PySem.W.Frag} {h : Heap} {mg : Str → Option Value} {x y f : Str} {v : V}
theorem free_of (X : K.In h) (G : h.Ns mainGlobals mg) (c : bFree x K = true) : mg x = none := He.free_ok X G c
theorem glo_of (X : K.In h) (G : h.Ns mainGlobals mg) (c : bGlo x K = true) : mg x = some (.ref (ga K x)) := He.glo_ok X G c
theorem gv_of (X : K.In h) (G : h.Ns mainGlobals mg) (c : bGlo x K = true) : GlobV mg x (.ref (ga K x)) := ⟨_, glo_of X G c, rfl⟩
theorem val_of (X : K.In h) (G : h.Ns mainGlobals mg) (c : bVal x v K = true) : GlobV mg x v := by
  unfold bVal at c
  split at c
  · rename_i u e
    exact ⟨u, PySem.W.mg_of X G e, relB_ok c⟩
  · cases c
theorem cls_of (c : bCls x K = true) : Cls K (ga K x) := He.cls_ok c
theorem no_of (c : bNo x f K = true) : NoAttr K (ga K x) f := He.noat_ok c
theorem no_of' (c : bNo x f K = true) : PySem.W.findIn K (.ref (ga K x)) f = some none := He.noat_ok c
theorem me_of (c : bMe x f K = true) : Meth K (ga K x) f (ma K (ga K x) f) := He.meth_ok c
theorem mk_of (c : bMk x K = true) : Mk K (ga K x) (ma K (ga K x) "__init__") := He.mkr_ok c
theorem exm_of {b : Bool} (c : bExm x y b K = true) : PySem.W.exmOne K (.ref (ga K x)) (.ref (ga K y)) = some b := He.exm_ok c
theorem exmT_of {b : Bool} {y : String} (c : bExmT x y b K = true) : PySem.W.exmOne K (.ref (ga K x)) (.type y) = some b := of_decide_eq_true c
theorem kit_of {b : Bool} (c : bKit x y b K = true) : PySem.W.kitOne K (.ref (ga K x)) (.ref (ga K y)) = some b := of_decide_eq_true c
theorem kitT_of {b : Bool} {y : String} (c : bKitT x y b K = true) : PySem.W.kitOne K (.ref (ga K x)) (.type y) = some b := of_decide_eq_true c
theorem tkit_of {b : Bool} {x : String} (c : bTKit x y b K = true) : PySem.W.kitOne K (.type x) (.ref (ga K y)) = some b := of_decide_eq_true c
theorem kitA_of {b : Bool} {ys : List Str} (c : bKitA x ys b K = true) : PySem.W.kitAny K (.ref (ga K x)) (ys.map fun y => .ref (ga K y)) = some b := of_decide_eq_true c
theorem isc_of (c : bIsc x K = true) : IsC K (ga K x) := by
  obtain ⟨c1, c⟩ := He.ba c
  obtain ⟨c2, c⟩ := He.ba c
  obtain ⟨c3, c⟩ := He.ba c
  obtain ⟨c4, c5⟩ := He.ba c
  exact ⟨fun H a dx fs e => .ins e (cls_of c1) (eqO_ok c2) (eqO_ok c3) (of_decide_eq_true c4) (of_decide_eq_true c5)⟩
theorem xc_of (c : bXc x K = true) : XC K (ga K x) := by
  obtain ⟨c1, c⟩ := He.ba c
  obtain ⟨c2, c⟩ := He.ba c
  obtain ⟨c3, c⟩ := He.ba c
  obtain ⟨c4, c5⟩ := He.ba c
  have q := xfB_ok c1
  exact ⟨q, ⟨q.ga, q.gg, q.exC, q.hdC, eqO_ok c2, eqO_ok c3, of_decide_eq_true c4, of_decide_eq_true c5⟩⟩
theorem cc_of (X : K.In h) (G : h.Ns mainGlobals mg) (c : bCC x f v K = true) : ClsConst K mg x f v := by
  obtain ⟨c1, c⟩ := He.ba c
  obtain ⟨c2, c⟩ := He.ba c
  obtain ⟨c3, c⟩ := He.ba c
  split at c
  · rename_i u e
    exact ⟨_, _, u, He.glo_ok X G c1, ⟨c2, eqO_ok c3⟩, ⟨e, relB_ok c⟩⟩
  · cases c
theorem con_of (c : bCon x f v K = true) : ∃ u, Con K (ga K x) f v u := by
  obtain ⟨c1, c⟩ := He.ba c
  split at c
  · rename_i u e
    obtain ⟨c2, c3⟩ := He.ba c
    exact ⟨u, e, relB_ok c2, eqO_ok c3, by simpa using c1⟩
  · cases c
theorem oexB_ok {C : Addr} (c : oexB K C = true) : ∃ nm q N bs bm sn sub ab col dd k0 k1 k2 k3 k5, K.lookup C = some (excClassObj nm q C N bs bm true sn sub ab col dd k0 k1 k2 k3 k5 "ValueError.__new__") ∧ PySem.HandSPX.refsVE bm = true := by
  unfold oexB at c
  split at c
  · rename_i t dd cd sl e
    obtain ⟨c1, c⟩ := He.ba c
    have c1 := of_decide_eq_true c1
    subst c1
    split at c
    · rename_i cc bm k0 k1 k2 k3 i k5 e1 e2
      obtain ⟨_, c⟩ := He.ba c
      obtain ⟨c2, c⟩ := He.ba c
      obtain ⟨c3, c⟩ := He.ba c
      obtain ⟨c4, c⟩ := He.ba c
      obtain ⟨c5, c6⟩ := He.ba c
      have c2 := of_decide_eq_true c2
      have c4 := of_decide_eq_true c4
      subst c2 c4
      obtain ⟨m1, m2, m3, m4, m5, m6, m7, m8, m9, m10, m11⟩ := cd
      obtain ⟨sl⟩ := sl
      simp only at e1 e2 c5 c6
      simp only [Bool.not_eq_true'] at c6
      subst e1 e2 c5 c6
      exact ⟨_, _, _, _, bm, _, _, _, _, _, k0, k1, k2, k3, k5, e, c3⟩
    · cases c
  · cases c
theorem oex_of (c : bOex x K = true) : OexC K (ga K x) := by
  obtain ⟨c1, c⟩ := He.ba c
  obtain ⟨c2, c⟩ := He.ba c
  obtain ⟨c3, c⟩ := He.ba c
  obtain ⟨c4, c5⟩ := He.ba c
  exact ⟨oexB_ok c1, eqO_ok c2, of_decide_eq_true c3, of_decide_eq_true c4, c5⟩
theorem sup_of (o : bOex x K = true) (c : bSup x y K = true) : SupExc K (ga K x) (ga K y) ∧ PySem.W.findIn K (.ref (ga K x)) "__init__" = some (some (.ref (ma K (ga K y) "__init__"))) ∧ PySem.W.typeIn K (.ref (ma K (ga K y) "__init__")) = some (.type "function") := by
  obtain ⟨c1, c⟩ := He.ba c
  obtain ⟨c2, c⟩ := He.ba c
  obtain ⟨c3, c⟩ := He.ba c
  obtain ⟨c4, c⟩ := He.ba c
  obtain ⟨c5, c6⟩ := He.ba c
  exact ⟨⟨oex_of o, of_decide_eq_true c1, eqO_ok c2, of_decide_eq_true c3, eqO_ok c4⟩, eqO_ok c5, of_decide_eq_true c6⟩
theorem vals_int : ∀ {ns : List Int} {us : List Value}, Vals (ns.map V.int) us → (us.any fun v => match v with
      | .int _ _ => false
      | _ => true) = false
  | [], _, .nil => rfl
  | n :: ns, _, .cons r t => by
    obtain ⟨k, rfl⟩ := r
    rw [List.any_cons, vals_int t]
    rfl
theorem scr_of {H : Hp} {a : Addr} {ns : List Int} (c : bNoL K = true) (hO : Only H) (hS : SqL K H a (ns.map V.int)) : ∃ ob, H a = some (.frz ob (.lst (ns.map V.int))) := by
  rcases hS with (hS | ⟨ob, hS⟩) | ⟨o, its, n, lk, o1, o2, o3, o4, o5⟩
  · rcases hO a with z | ⟨ob, xs, z⟩
    · rw [hS] at z; cases z
    · rw [hS] at z; cases z
  · exact ⟨ob, hS⟩
  · exfalso
    obtain ⟨oc, od, dt, sl⟩ := o
    simp only at o1 o2 o3
    subst o1 o2 o3
    have hm : (a, (⟨.type "list", none, .seq its n, sl⟩ : Obj)) ∈ K := by
      clear c o5 o4
      induction K with
      | nil => cases lk
      | cons e K ih =>
        obtain ⟨b, u⟩ := e
        rw [List.lookup_cons] at lk
        split at lk
        · rename_i hb
          have hb := eq_of_beq hb
          cases lk
          subst hb
          exact List.mem_cons_self
        · exact List.mem_cons_of_mem _ (ih lk)
    have q := List.all_eq_true.mp c _ hm
    have q : (!decide ("list" = "list") || its.toList.any fun v => match v with
      | .int _ _ => false
      | _ => true) = true := q
    rw [vals_int o5, Bool.or_false] at q
    simp at q
end

/-! ### a def that says super(), the Hook -/
abbrev FnS : Type := Option (Str × Str × Arguments × FuncBody × Scope × Addr × List Str × Addr)
structure SupD where
  cls : Str
  name : Str
  qual : Str
  params : Arguments
  body : List Stmt
  scope : Scope
def SupD.at_ (K : PySem.W.Frag) (d : SupD) : Addr := ma K (ga K d.cls) d.name
def fnS (K : PySem.W.Frag) (f : Addr) : FnS := match K.lookup f with
  | some ⟨_, _, .func fd, _⟩ => some (fd.name, fd.qualname, fd.params, fd.body, fd.scope, fd.globals, fd.closure.map (·.1), fd.builtins)
  | _ => none
def SupD.val (d : SupD) : FnS := some (d.name, d.qual, d.params, .stmts d.body, d.scope, mainGlobals, ["__class__"], builtinsNs)
def SupD.ok (file : Str) (K : PySem.W.Frag) (d : SupD) : Bool := PySem.W.keepIn K (.ref (d.at_ K)) && (match K.lookup (d.at_ K) with
  | some ⟨_, _, .func fd, _⟩ => (match fd.closure with
    | [(_, cc)] => (match K.lookup cc with
      | some ⟨_, _, .cell (some (.ref D)), _⟩ => decide (D = ga K d.cls)
      | _ => false)
    | _ => false) && ((match fd.defaults with
      | .none => true
      | _ => false) && ((PySem.W.clsIn K (ga K d.cls)).isSome && (match fd.code with
    | .ref c => PySem.W.codeIn K (.ref c) d.qual && (match K.lookup c with
      | some ⟨_, _, .fields vs, _⟩ => (match (vs[2]? : Option Value) with
        | some (.str fl _) => (file == fl)
        | _ => false)
      | _ => false)
    | _ => false)))
  | _ => false)
theorem SupD.fn {P : Program} {K : PySem.W.Frag} {d : SupD} (e : fnS K (d.at_ K) = d.val) (c : d.ok P.main.file K = true) (top : (P.main.scope.names.lookup ("super" : Str)).isSome = false) :
    ∃ (F : NdefX.NF) (fd : FuncData), F.name = d.name ∧ F.qual = d.qual ∧ F.params = d.params ∧ F.body = d.body ∧ F.scope = d.scope ∧ SupFn P K (d.at_ K) F (ga K d.cls) [] fd := by
  obtain ⟨kp, c2⟩ := He.ba c
  unfold fnS at e
  cases q : K.lookup (d.at_ K) with
  | none => rw [q] at c2; cases c2
  | some o =>
    obtain ⟨oc, od, dt, osl⟩ := o
    rw [q] at c2 e
    cases dt with
    | func fd =>
      obtain ⟨n1, n2, n3, n4, n5, n6, n7, n8, n9, n10, n11, n12, n13, n14, n15⟩ := fd
      have e2 : (some (n1, n2, n3, n4, n5, n6, n7.map (·.1), n15) : FnS) = (some (d.name, d.qual, d.params, FuncBody.stmts d.body, d.scope, mainGlobals, ["__class__"], builtinsNs) : FnS) := e
      simp only [Option.some.injEq, Prod.mk.injEq] at e2
      obtain ⟨h1, h2, h3, h4, h5, h6, h7, h8⟩ := e2
      obtain ⟨k1, c3⟩ := He.ba c2
      obtain ⟨k2, c4⟩ := He.ba c3
      obtain ⟨k3, k4⟩ := He.ba c4
      clear c4 c3 c2 e c
      obtain _ | ⟨⟨xc, cc⟩, _ | ⟨b, r⟩⟩ := n7
      · cases h7
      · simp only [List.map_cons, List.map_nil, List.cons.injEq, and_true] at h7
        subst h7
        simp only at k1 k2 k4
        split at k1
        · rename_i c1 c2 D c3 hc
          have k1' := of_decide_eq_true k1
          clear k1
          split at k2
          · split at k4
            · rename_i c
              obtain ⟨k5, k6⟩ := He.ba k4
              clear k4 k2
              split at k6
              · rename_i a1 a2 vs a3 hcc
                split at k6
                · rename_i fl tf hvs
                  subst h1 h2 h3 h4 h5 h6 h8
                  obtain ⟨cdD, hcd⟩ := Option.isSome_iff_exists.mp k3
                  subst k1'
                  exact ⟨⟨d.name, d.qual, d.params, d.body, d.scope, [("__class__", cc)], _⟩, _, rfl, rfl, rfl, rfl, rfl, ⟨⟨cc, oc, od, _, _, _, _, _, _, osl, rfl, rfl, q, .inl ⟨rfl, rfl⟩, _, _, _, hc⟩, k5, ⟨_, _, vs, _, fl, tf, hcc, hvs, k6⟩, ⟨cdD, hcd⟩, top, kp⟩⟩
                · cases k6
              · cases k6
            · cases k4
          · cases k2
        · cases k1
      · cases h7
    | _ => cases c2
/-! ### a def, wherever it stands -/
structure XD where
  at_ : PySem.W.Frag → Addr
  name : Str
  qual : Str
  params : Arguments
  body : List Stmt
  scope : Scope
  dfl : List Dv := []
  kwd : List (Str × Dv) := []
def XD.val (d : XD) : FnS := some (d.name, d.qual, d.params, .stmts d.body, d.scope, mainGlobals, ([] : List Str), builtinsNs)
def XD.vs (K : PySem.W.Frag) (d : XD) : List V := d.dfl.map fun z => Dv.v K z
def XD.ks (K : PySem.W.Frag) (d : XD) : List (Str × V) := d.kwd.map fun z => (z.1, z.2.v K)
def XD.ok (K : PySem.W.Frag) (d : XD) : Bool := PySem.W.keepIn K (.ref (d.at_ K)) && (match K.lookup (d.at_ K) with
  | some ⟨_, _, .func fd, _⟩ => dflB K fd.defaults (d.vs K) && (kwdB K fd.kwdefaults (d.ks K) && PySem.W.codeIn K fd.code d.qual)
  | _ => false)
theorem XD.fn {K : PySem.W.Frag} {d : XD} (e : fnS K (d.at_ K) = d.val) (c : d.ok K = true) : ∃ fd, FunD K d.name d.qual d.params d.body d.scope (d.vs K) (d.ks K) (d.at_ K) fd := by
  obtain ⟨kp, c1⟩ := He.ba c
  unfold fnS at e
  cases lk : K.lookup (d.at_ K) with
  | none => rw [lk] at c1; cases c1
  | some o =>
    obtain ⟨o1, o2, dt, o4⟩ := o
    rw [lk] at c1 e
    cases dt with
    | func fd =>
      obtain ⟨m1, m2, m3, m4, m5, m6, m7, m8, m9, m10, m11, m12, m13, m14, m15⟩ := fd
      have e2 : (some (m1, m2, m3, m4, m5, m6, m7.map (·.1), m15) : FnS) = (some (d.name, d.qual, d.params, FuncBody.stmts d.body, d.scope, mainGlobals, ([] : List Str), builtinsNs) : FnS) := e
      simp only [Option.some.injEq, Prod.mk.injEq] at e2
      obtain ⟨z1, z2, z3, z4, z5, z6, z7, z8⟩ := e2
      obtain ⟨y1, y2⟩ := He.ba c1
      obtain ⟨y3, y4⟩ := He.ba y2
      have z7 : m7 = [] := List.map_eq_nil_iff.mp z7
      subst z1 z2 z3 z4 z5 z6 z7 z8
      exact ⟨_, ⟨o1, o2, m8, m9, m10, m11, m12, m13, m14, o4, rfl, lk, y4, dflB_ok y1, kwdB_ok y3⟩, kp⟩
    | _ => cases c1
/-- a property's getter -/
def prA (K : PySem.W.Frag) (C : Addr) (f : Str) : Addr := match PySem.W.recIn K (ma K C f) "property" with
  | some (.ref g :: _) => g
  | _ => 0
def bPrp (x f : Str) : BF := fun K => eqO (PySem.W.findIn K (.ref (ga K x)) f) (some (some (.ref (ma K (ga K x) f)))) && (eqO (PySem.W.specialIn K (.ref (ma K (ga K x) f)) "__get__") (some (some (.builtin "property.__get__"))) &&
  (decide (PySem.W.takesIn K (.ref (ma K (ga K x) f)) = some true) && (match PySem.W.recIn K (ma K (ga K x) f) "property" with
    | some (.ref _ :: _) => true
    | _ => false)))
theorem prp_of {K : PySem.W.Frag} {x f : Str} (c : bPrp x f K = true) : PropOf K (ga K x) f (ma K (ga K x) f) (prA K (ga K x) f) := by
  obtain ⟨c1, c⟩ := He.ba c
  obtain ⟨c2, c⟩ := He.ba c
  obtain ⟨c3, c4⟩ := He.ba c
  refine ⟨eqO_ok c1, eqO_ok c2, of_decide_eq_true c3, ?_⟩
  split at c4
  · rename_i g r e
    refine ⟨r, ?_⟩
    unfold prA
    rw [e]
  · cases c4
abbrev AlX : Type := Bool × List FnS × List FnS
def obsX (file : Str) (fa : List BF) (fn : List XD) (sn : List SupD) (K : PySem.W.Frag) : AlX := ((fa.all fun f => f K) && (fn.all (fun d => d.ok K) && sn.all fun d => d.ok file K), fn.map (fun d => fnS K (d.at_ K)), sn.map fun d => fnS K (d.at_ K))
def valX (fn : List XD) (sn : List SupD) : AlX := (true, fn.map XD.val, sn.map SupD.val)
def SaysX (file : Str) (fa : List BF) (fn : List XD) (sn : List SupD) (K : PySem.W.Frag) : Prop := obsX file fa fn sn K = valX fn sn
def asX (g : Addr → Option Obj) (n : Nat) : List Addr := asD g n ++ [cStatics]
def obsXG (n : Nat) (file : Str) (fa : List BF) (fn : List XD) (sn : List SupD) (g : Addr → Option Obj) : AlX := obsX file fa fn sn (frG g (asX g n))
def hookX (n : Nat) (file : Str) (fa : List BF) (fn : List XD) (sn : List SupD) : PySem.W.Hook where
  α := AlX
  obs := fun s => obsXG n file fa fn sn s.heap.get?
  val := fun _ => valX fn sn
  says := fun _ h => ∃ K : PySem.W.Frag, K.In h ∧ SaysX file fa fn sn K
  of := fun _ _ e => ⟨_, frG_in, e⟩
  keeps := fun _ _ _ ⟨K, hK, c⟩ k => ⟨K, PySem.W.Frag.In.keeps hK k, c⟩
theorem obsXG_eq {n : Nat} {file : Str} {fa : List BF} {fn : List XD} {sn : List SupD} {g : Addr → Option Obj} {s : Shared} (h : ∀ a, g a = s.heap.get? a) : obsXG n file fa fn sn g = (hookX n file fa fn sn).obs s := by
  have e : g = s.heap.get? := funext h
  rw [e] <;> rfl
section
variable {file : Str} {fa : List BF} {fn : List XD} {sn : List SupD} {K : PySem.W.Frag}
theorem SaysX.fact (c : SaysX file fa fn sn K) (i : Nat) {f : BF} (h : fa[i]? = some f := by rfl) : f K = true := by
  have c1 := (He.ba (show ((fa.all fun f => f K) && (fn.all (fun d => d.ok K) && sn.all fun d => d.ok file K)) = true from congrArg (fun z : AlX => z.1) c)).1
  exact List.all_eq_true.mp c1 f (List.mem_of_getElem? h)
theorem SaysX.def_ (c : SaysX file fa fn sn K) (i : Nat) {d : XD} (h : fn[i]? = some d := by rfl) : ∃ fd, FunD K d.name d.qual d.params d.body d.scope (d.vs K) (d.ks K) (d.at_ K) fd := by
  have c2 := (He.ba (He.ba (show ((fa.all fun f => f K) && (fn.all (fun d => d.ok K) && sn.all fun d => d.ok file K)) = true from congrArg (fun z : AlX => z.1) c)).2).1
  have e : fn.map (fun d => fnS K (d.at_ K)) = fn.map XD.val := congrArg (fun z : AlX => z.2.1) c
  have e2 : (fn.map fun d => fnS K (d.at_ K))[i]? = (fn.map XD.val)[i]? := by rw [e]
  rw [List.getElem?_map, List.getElem?_map, h] at e2
  exact XD.fn (Option.some.inj e2) (List.all_eq_true.mp c2 d (List.mem_of_getElem? h))
theorem SaysX.sup {P : Program} (c : SaysX P.main.file fa fn sn K) (i : Nat) (top : (P.main.scope.names.lookup ("super" : Str)).isSome = false) {d : SupD} (h : sn[i]? = some d := by rfl) :
    ∃ (F : NdefX.NF) (fd : FuncData), F.name = d.name ∧ F.qual = d.qual ∧ F.params = d.params ∧ F.body = d.body ∧ F.scope = d.scope ∧ SupFn P K (d.at_ K) F (ga K d.cls) [] fd := by
  have c2 := (He.ba (He.ba (show ((fa.all fun f => f K) && (fn.all (fun d => d.ok K) && sn.all fun d => d.ok P.main.file K)) = true from congrArg (fun z : AlX => z.1) c)).2).2
  have e : sn.map (fun d => fnS K (d.at_ K)) = sn.map SupD.val := congrArg (fun z : AlX => z.2.2) c
  have e2 : (sn.map fun d => fnS K (d.at_ K))[i]? = (sn.map SupD.val)[i]? := by rw [e]
  rw [List.getElem?_map, List.getElem?_map, h] at e2
  exact SupD.fn (Option.some.inj e2) (List.all_eq_true.mp c2 d (List.mem_of_getElem? h)) top
end
/-- a law's end -/
theorem walk_ofX {l : PySem.W.OpenLaw} {n k : Nat} {q : Program} {loose : List Str} {XP : (Str → Option Value) → Heap → Prop} {YP : World → Heap → Prop} {d : DefRec} {x : Str}
    (hn : l.most = some n) (hn2 : n ≤ sizeLine) (hdf : d.params.defaults = []) (hr : Room k callerA)
    (F : ∀ (w : World) (mg : Str → Option Value) (fa : Addr) (h : Heap), YP w h → h.Ns mainGlobals mg → mg d.name = some (.ref fa) →
      ∃ (K : PySem.W.Frag) (fd : FuncData) (sp : Sp), K.In h ∧ (∀ (s : Shared) (u : Value), BindsTo s fd ⟨[u], []⟩ [(x, u)]) ∧
        (∀ (H : Hp) (a : Addr) (ns : List Int), ns.length ≤ n → Only H → SqL K H a (ns.map V.int) → sp [.ref a] H (fun v _ => v = .bl true) fun _ _ _ => False) ∧
        ∀ base : Heap, K.In base → base.Ns mainGlobals mg → FnOk l.prog w K mg base (L2.CX l.prog w) k fa fd [x] sp) :
    PySem.W.WalkO q loose XP YP l.row.toRowW d [] (fun f vs => PySem.call f vs) := by
  refine Att.attach_call hn hdf fun w s₀ s₁ mg mb fa o pm cd doc a vs ns G Y ho hd hcd hmg hobj hints hlen hg => ?_
  obtain ⟨K, fd, sp, KX, hb, hsp, hF⟩ := F w mg fa _ Y G.T.g hmg
  exact law_call KX G.T.g G.T.b G.T.builtins G.T.nolimit hg hobj hints (Nat.le_trans hlen hn2) hr hF hb (fun H hO hS => hsp H a ns hlen hO hS) fun H e s' ⟨_, _, _, _, _, _, _, _, _, _, _, _, z⟩ => z
end Ta

set_option Elab.async false
set_option linter.all false
set_option maxRecDepth 100000
set_option maxHeartbeats 1000000
namespace Ta
open PySem PySem.Spec PyProof.Rows L2

/-! ### is, is not: None, truth values -/
def zIsB : R2 := fun x y H Q => match y with
  | .non => Q (.bl (decide (x = .non))) H
  | .bl b => (match x with
    | .bl a => Q (.bl (decide (a = b))) H
    | _ => False)
  | _ => False
def zIsnB : R2 := fun x y H Q => match y with
  | .non => Q (.bl (!decide (x = .non))) H
  | .bl b => (match x with
    | .bl a => Q (.bl (!decide (a = b))) H
    | _ => False)
  | _ => False
section
variable {X : Cx}
theorem opisb : OpR X (compareOp .Is) zIsB := by
  intro pins s σ H x y v u Q I rx ry h
  cases y with
  | non => exact op_isN pins s σ H _ _ v u Q I rx ry ⟨rfl, h⟩
  | bl b => cases x with
    | bl a => exact op_is_bl pins s σ H _ _ v u Q I rx ry ⟨a, b, rfl, rfl, h⟩
    | _ => exact False.elim h
  | _ => exact False.elim h
theorem opisnb : OpR X (compareOp .IsNot) zIsnB := by
  intro pins s σ H x y v u Q I rx ry h
  cases y with
  | non => exact op_notN pins s σ H _ _ v u Q I rx ry ⟨rfl, h⟩
  | bl b => cases x with
    | bl a => exact op_isnot_bl pins s σ H _ _ v u Q I rx ry ⟨a, b, rfl, rfl, h⟩
    | _ => exact False.elim h
  | _ => exact False.elim h
/-! ### o.f += e -/
def sAug (K : PySem.W.Frag) (ta tv : TE) (f : Str) (g : Int → Int → Int) : TS := fun D σ H => ta σ H fun x H1 => match x with
  | .ref a => look H1 a fun ob => (match ob with
    | some (.ins C dx fs) => Cls K C ∧ NoAttr K C f ∧ fld fs f fun v => match v with
      | .int i => tv σ H1 fun y H2 => (match y with
        | .int j => look H2 a fun ob' => (match ob' with
          | some (.ins C' dx' fs') => C' = C ∧ fs'.length < 1000 ∧ D.nx σ (upd H2 a (.ins C dx' (putF f (.int (g i j)) fs')))
          | _ => False)
        | _ => False)
      | _ => False
    | _ => False)
  | _ => False
theorem sAug_e {K : PySem.W.Frag} {tv : TE} {f : Str} {g : Int → Int → Int} {rd : V → V → Hp → VK → Prop} {D : Ends} {σ : St} {x : V} {H1 : Hp} (h : match x with
  | .ref a => look H1 a fun ob => (match ob with
    | some (.ins C dx fs) => Cls K C ∧ NoAttr K C f ∧ fld fs f fun v => match v with
      | .int i => tv σ H1 fun y H2 => (match y with
        | .int j => look H2 a fun ob' => (match ob' with
          | some (.ins C' dx' fs') => C' = C ∧ fs'.length < 1000 ∧ D.nx σ (upd H2 a (.ins C dx' (putF f (.int (g i j)) fs')))
          | _ => False)
        | _ => False)
      | _ => False
    | _ => False)
  | _ => False) (hrd : ∀ i j H Q, Q (.int (g i j)) H → rd (.int i) (.int j) H Q) (hm : ∀ σ H Q Q', (∀ v H, Q v H → Q' v H) → tv σ H Q → tv σ H Q') : ∃ a C dx fs v, x = .ref a ∧ H1 a = some (.ins C dx fs) ∧ Cls K C ∧ NoAttr K C f ∧ fs.lookup f = some v ∧
  tv σ H1 fun y H2 => rd v y H2 fun z H3 => ∃ dx' fs', H3 a = some (.ins C dx' fs') ∧ fs'.length < 1000 ∧ D.nx σ (upd H3 a (.ins C dx' (putF f z fs'))) := by
  cases x with
  | ref a =>
    have h := look_e h
    cases e : H1 a with
    | none => rw [e] at h; exact h.elim
    | some ob =>
      rw [e] at h
      cases ob with
      | ins C dx fs =>
        obtain ⟨h1, h2, h3⟩ := h
        obtain ⟨v, l, q⟩ := fld_e h3
        cases v with
        | int i =>
          refine ⟨a, C, dx, fs, _, rfl, e, h1, h2, l, hm _ _ _ _ (fun y H2 h => ?_) q⟩
          cases y with
          | int j =>
            have h := look_e h
            cases e2 : H2 a with
            | none => rw [e2] at h; exact h.elim
            | some ob2 =>
              rw [e2] at h
              cases ob2 with
              | ins C' dx' fs' =>
                obtain ⟨rfl, h5, h6⟩ := h
                exact hrd i j H2 _ ⟨dx', fs', e2, h5, h6⟩
              | _ => exact h.elim
          | _ => exact h.elim
        | _ => exact q.elim
      | _ => exact h.elim
  | _ => exact h.elim
theorem psaddC {o : Expr} {f : Str} {ta : TE} {n : Int} {j : Nat} {p1 tpos pos : Pos} (ha : PE X o ta) : PS X (.AugAssign (.Attribute o f tpos) .Add (.Constant (.int n) j p1) pos) (sAug X.K ta (tC (.int n)) f (· + ·)) := by
  refine ⟨fun pins s σ H D I h => ?_⟩
  refine wpAny_AugAssign_AttributeAny (thn (ha.run pins s σ H _ I h) fun ov s1 ⟨x, H1, I1, rx, q0⟩ => ?_)
  obtain ⟨a, C, dx, fs, v, ex, ea, c, n, l, q⟩ := sAug_e (rd := rAdd) (tv := tC (.int n)) (g := (· + ·)) q0 (fun i j H Q q => ⟨i, j, rfl, rfl, q⟩) (fun _ _ _ _ h q => h _ _ q)
  clear q0
  subst ex
  obtain rfl : ov = Value.ref a := rx
  refine getattr_ok I1 ea c n l fun u s2 I2 ru => thn (pe_int.run pins s2 σ H1 _ I2 q) fun w3 s3 ⟨y, H2, I3, ry, q3⟩ => thn (in_add pins s3 σ H2 v y u w3 _ I3 ru ry q3) fun w4 s4 ⟨z, H3, I4, rz, dx', fs', ea', l', q4⟩ => ?_
  exact setattr_ok I4 ea' c n l' rz fun s5 I5 => ⟨σ, _, I5, q4⟩
end
/-! ### a property -/
structure Pr (P : Program) (w : World) (K : PySem.W.Frag) (mg : Str → Option Value) (base : Heap) (C : Addr) (f : Str) (lv : Nat) (sp : Sp) : Prop where
  ex : ∃ (p g : Addr) (fd : FuncData) (ps : List Str), PropOf K C f p g ∧ FnOk P w K mg base (L2.CX P w) lv g fd ps sp ∧ Binds K fd ps []
  cl : Cls K C
def tPrp (C : Addr) (sp : Sp) (ta : TE) : TE := fun σ H Q => ta σ H fun x H1 => match x with
  | .ref a => look H1 a fun ob => (match ob with
    | some (.ins C' dx fs) => C' = C ∧ sp [.ref a] H1 Q fun _ _ _ => False
    | _ => False)
  | _ => False
section
variable {X : Cx} {e : Expr} {ta : TE} {C : Addr} {f : Str} {lv : Nat} {sp : Sp} {pos : Pos}
theorem pprp (F : Pr X.prog X.w X.K X.mg X.base C f lv sp) (hr : Room (lv + 1) X.A) (he : PE X e ta) (hab : attributeBase e f X.env (eval e X.env) = eval e X.env := by rfl) : PE X (.Attribute e f pos) (tPrp C sp ta) := by
  obtain ⟨p, g, fd, ps, hp, F1, hb⟩ := F.ex
  refine ⟨fun pins s σ H Q I h => ?_⟩
  refine attr_of hab (thn (he.run pins s σ H _ I h) fun u s1 ⟨x, H1, I1, rx, q⟩ => ?_)
  cases x with
  | ref a =>
    have q1 := look_e q
    clear q
    cases ea : H1 a with
    | none => rw [ea] at q1; exact q1.elim
    | some ob =>
      rw [ea] at q1
      cases ob with
      | ins C' dx fs =>
        obtain ⟨e2, q2⟩ := q1
        subst e2
        obtain rfl : u = Value.ref a := rx
        exact getprop_ok (E := fun _ _ _ => False) I1 ea F.cl hp F1 hr hb .nil (fun _ _ _ _ _ _ _ z => False.elim (let ⟨_, _, _, _, _, _, _, _, _, _, _, _, z⟩ := z; z)) q2
      | _ => exact q1.elim
  | _ => exact q.elim
end
/-! ### x = l[e], then known -/
section
variable {X : Cx} {pins : List (Addr × Obj)} {σ : St} {H : Hp} {s s' : Shared} {ff : List (Str × Value)}
/-- .. and a token is out -/
structure PEn (X : Cx) (e : Expr) (t : TE) : Prop where
  run : ∀ (pins : List (Addr × Obj)) (s : Shared) (σ : St) (H : Hp) (Q : VK), Inv X pins σ H s → t σ H Q → wpAny (model X.prog X.w) X.A (eval e X.env) (fun u s' => EP X pins σ Q u s' ∧ 1 ≤ s'.toks) X.xe s
structure PAn (X : Cx) (es : List Expr) (t : TA) : Prop where
  run : ∀ (pos : Pos) (pins : List (Addr × Obj)) (s : Shared) (σ : St) (H : Hp) (Q : List V → Hp → Prop), Inv X pins σ H s → t σ H Q → wpAny (model X.prog X.w) X.A (spliced (backTo pos (starEach es X.env))) (fun us s' => AP X pins σ Q us s' ∧ 1 ≤ s'.toks) X.xe s
theorem toks1 {α : Type} {t : Sem α} {Q : α → Shared → Prop} {E : Value → Shared → Prop} {M : Model} {A : Around} {s : Shared} (h1 : 1 ≤ s.toks) (h : wpAny M A t Q E s) : wpAny M A t (fun a s' => Q a s' ∧ 1 ≤ s'.toks) E s :=
  wpAny_mono (PySem.wpAny_toks_of h1 h) (fun _ _ z => ⟨z.2, z.1⟩) fun _ _ z => z.2
theorem pen_int {i : Int} {j : Nat} {pos : Pos} : PEn X (.Constant (.int i) j pos) (tC (.int i)) :=
  ⟨fun _ s _ H _ I h => wpAny_Constant_int ⟨⟨.int i, H, I.tok _, ⟨_, rfl⟩, h⟩, Nat.le_add_left 1 s.toks⟩⟩
theorem pen_op {op : Operator} {r : R2} {a b : Expr} {ta tb : TE} {pos : Pos} (ho : OpR X (binaryOp op) r) (ha : PEn X a ta) (hb : PE X b tb) : PEn X (.BinOp a op b pos) (tOp r ta tb) := by
  refine ⟨fun pins s σ H Q I h => wpAny_BinOp ?_⟩
  refine thn (ha.run pins s σ H _ I h) fun v s1 ⟨⟨x, H1, I1, r1, q1⟩, h1⟩ => ?_
  refine thn (toks1 h1 (hb.run pins s1 σ H1 _ I1 q1)) fun u s2 ⟨⟨y, H2, I2, r2, q2⟩, h2⟩ => ?_
  exact toks1 h2 (ho pins s2 σ H2 x y v u Q I2 r1 r2 q2)
theorem pan_hd {e : Expr} {es : List Expr} {te : TE} {t : TA} (ha : PEn X e te) (hr : PA X es t) (hs : starEach (e :: es) X.env = (false, eval e X.env) :: starEach es X.env := by rfl) : PAn X (e :: es) (tCons te t) := by
  refine ⟨fun pos pins s σ H Q I h => ?_⟩
  rw [hs]
  show wpAny _ _ (spliced ((false, eval e X.env) :: backTo pos (starEach es X.env))) _ _ s
  refine Calls.spliced_cons (thn (ha.run pins s σ H _ I h) fun u s1 ⟨⟨x, H1, I1, r1, q1⟩, h1⟩ => ?_)
  exact thn (toks1 h1 (hr.run pos pins s1 σ H1 _ I1 q1)) fun us s2 ⟨⟨xs, H2, I2, r2, q2⟩, h2⟩ => ⟨⟨x :: xs, H2, I2, .cons r1 r2, q2⟩, h2⟩
theorem pan_tl {e : Expr} {es : List Expr} {te : TE} {t : TA} (ha : PE X e te) (hr : PAn X es t) (hs : starEach (e :: es) X.env = (false, eval e X.env) :: starEach es X.env := by rfl) : PAn X (e :: es) (tCons te t) := by
  refine ⟨fun pos pins s σ H Q I h => ?_⟩
  rw [hs]
  show wpAny _ _ (spliced ((false, eval e X.env) :: backTo pos (starEach es X.env))) _ _ s
  refine Calls.spliced_cons (thn (ha.run pins s σ H _ I h) fun u s1 ⟨x, H1, I1, r1, q1⟩ => ?_)
  exact thn (hr.run pos pins s1 σ H1 _ I1 q1) fun us s2 ⟨⟨xs, H2, I2, r2, q2⟩, h2⟩ => ⟨⟨x :: xs, H2, I2, .cons r1 r2, q2⟩, h2⟩
theorem pen_lst {es : List Expr} {t : TA} {pos : Pos} (h : PAn X es t) : PEn X (.List es pos) (tLst t) := by
  refine ⟨fun pins s σ H Q I hq => ?_⟩
  refine wpAny_List_spliced (thn (h.run pos pins s σ H _ I hq) fun us s1 ⟨⟨xs, H1, I1, r, z, q⟩, h1⟩ => ⟨by rw [← r.length]; exact z, ?_⟩)
  have hf : H1 s1.heap.objs.size = none := I1.hok.fresh (Nat.le_refl _)
  refine ⟨⟨.ref s1.heap.objs.size, upd H1 s1.heap.objs.size (.lst xs), I1.laid (t' := s1.toks) (fun b u e => Heap.get?_push_of_some _ e) (Nat.le_refl _) ?_, rfl, q _ hf⟩, h1⟩
  exact ⟨z, us, 0, r, Heap.get?_push_size _ rfl⟩
theorem pen_ix {a b : Expr} {ta tb : TE} {pos : Pos} (ha : PEn X a ta) (hb : PE X b tb) (hs : PlainIx b := by exact fun _ _ => rfl) : PEn X (.Subscript a b pos) (tOp (zIxP X.K) ta tb) := by
  refine ⟨fun pins s σ H Q I h => Subscript_ ?_⟩
  refine thn (ha.run pins s σ H _ I h) fun v s1 ⟨⟨x, H1, I1, r1, q1⟩, h1⟩ => ?_
  refine thn (toks1 h1 (hb.run pins s1 σ H1 _ I1 q1)) fun u s2 ⟨⟨y, H2, I2, r2, q2⟩, h2⟩ => ?_
  exact toks1 h2 (ixp a b pins s2 σ H2 x y v u Q I2 r1 r2 q2 (hs _ _))
theorem pen_call {x : Str} {p pos : Pos} {e : Expr} {es : List Expr} {t : TA} {lv : Nat} {dvs : List V} {sp : Sp} {W : WX} (F : Fn X.prog X.w X.K X.mg X.base x lv dvs sp) (hr : Room lv X.A) (tk : Takes X W) (ha : PAn X (e :: es) t) (hg : Gl X x := by rfl) (hdb : (x == ("__debug__" : Str)) = false := by decide +kernel)
    (he : starEach (e :: es) X.env = (false, eval e X.env) :: starEach es X.env := by rfl) (hpl : (backTo pos (starEach es X.env)).any (·.1) = false := by rfl) :
    PEn X (.Call (.Name x p) (e :: es) [] pos) (tCal sp dvs W t) := by
  obtain ⟨f, fd, ps, ds, F, hm, hk, hd, hb⟩ := F.ex
  refine ⟨fun pins s σ H Q I h => ?_⟩
  refine wpAny_Call_Name_kw (ld_glob I hg hm ?_ hdb)
  refine PySem.W.callWith_K (h₀ := X.base) I.ok.mod.kin hk (thn (ha.run pos pins s σ H _ I h) fun us s1 ⟨⟨vs, H1, I1, r, q⟩, h1⟩ => ⟨I1.kIn, ?_⟩) he hpl
  exact toks1 h1 (run_fnSD (E := WE W) F hr hb hd (passAt tk σ) I1 r q)
def tIx (il : Nat) (te : TE) : TE := fun σ H Q => match σ[il]? with
  | some (some (.str z)) => Lim (tl z).length ∧ te σ H fun v H' => match v with
      | .int i => itm (tl z) i fun c => Q (.str (S [c])) H'
      | _ => False
  | _ => False
theorem pssk_ix {ix il : Nat} {x l : Str} {e : Expr} {te : TE} {rest : List Stmt} {u : TS} {px pos p1 p8 : Pos} (hN : X.N.Nodup) (he : PEn X e te) (hrest : PSsK X [x] rest u)
    (hNx : X.N[ix]? = some x := by rfl) (hkx : X.env.kindOf x = some .local := by rfl)
    (hNl : X.N[il]? = some l := by rfl) (hvl : Vis X.env.scope l := by first | exact Or.inl rfl | exact Or.inr (Or.inl rfl) | exact Or.inr (Or.inr rfl))
    (hdl : (l == ("__debug__" : Str)) = false := by decide +kernel) (hcl : (l == ("__classdict__" : Str)) = false := by decide +kernel)
    (hix : PlainIx e := by exact fun _ _ => rfl)
    (hs : swapsWith (.Subscript (.Name l p1) e p8) (some (.Name x px)) pos.line X.env = pure false := by rfl) :
    PSs X (.Assign [.Name x px] (.Subscript (.Name l p1) e p8) pos :: rest) (tSeq (tAsg (tIx il te) (gName ix)) u) := by
  refine ⟨fun pins s σ H D I h => ?_⟩
  have h : tIx il te σ H fun x H1 => u D (σ.set ix (some x)) H1 := h
  unfold tIx at h
  split at h
  · rename_i z e1
    obtain ⟨hlim, h⟩ := h
    refine wpAny_execs_cons (wpAny_Assign_Name (Subscript_ (raw_name hNl hvl I e1 (fun v r => ?_) hdl hcl)) hs)
    obtain ⟨tz, rfl⟩ := r
    refine thn (he.run pins s σ H _ I h) fun w s2 hq => ?_
    obtain ⟨⟨y, H2, I2, ry, q⟩, h1t⟩ := hq
    cases y with
    | int i =>
      obtain ⟨ti, rfl⟩ := ry
      obtain ⟨c, hat, q⟩ := itm_e q
      obtain ⟨j, h1, h2, h3, h4, h5⟩ := atI_get hat
      have hl : z.cps.toList.length = z.length := by simp [Str.length]
      have hn := line63
      have hz : z.length ≤ sizeLine := by rw [len_tl]; exact hlim
      rw [hl] at h1 h4 h5
      refine tail_any (typeIs_str s2 z tz) slot_str_getitem.lookup (getItem_str (c := c) (by
        have e1 : decide (i < -(2 ^ 63 : Int)) = false := decide_eq_false (by omega)
        have e2 : decide (i ≥ 2 ^ 63) = false := decide_eq_false (by omega)
        rw [e1, e2, Bool.or_false]) (by rw [h1]; simpa using h2) ?_) (hix _ _)
      have I3 := I2.tok (s2.toks + 1)
      refine store_F (v := .str (S [c])) (ff := []) I3 hN hNx hkx ⟨s2.toks, rfl⟩ (FT.nil I3) (fun e he => nomatch he) fun s3 I4 hF2 ht2 => ?_
      refine hrest.run pins s3 _ H2 D I4 ⟨_, hF2, rfl, fun e he => ?_, by simp⟩ q
      obtain rfl := List.mem_singleton.mp he
      exact ⟨S [c], s2.toks, rfl, h1t, by rw [ht2]; exact Nat.lt_succ_of_lt (Nat.lt_succ_self _)⟩
    | _ => exact False.elim q
  · exact h.elim
/-! ### x.replace(o, '') -/
def rpE (c : Nat) (l : List Nat) : List Nat := l.filter fun a => !decide (a = c)
theorem replL_rpE (c : Nat) : ∀ l : List Nat, StrLaws.replL [c] [] l = rpE c l
  | [] => StrLaws.replL_nil
  | a :: l => by
    by_cases h : a = c
    · subst h
      rw [StrLaws.replL_hit (by simp) (by simp)]
      show [] ++ StrLaws.replL [a] [] l = _
      rw [replL_rpE a l]
      simp [rpE]
    · rw [StrLaws.replL_miss (by simp [h]), replL_rpE c l]
      simp [rpE, h]
theorem repl_SE (x : Str) (c : Nat) : Txt.replace x (S [c]) (S []) = S (rpE c (tl x)) := by
  refine ext_tl ?_
  have e := StrLaws.replace_list (x := x) (y := S [c]) (z := S []) (by rw [len_tl]; exact Nat.le_refl 1)
  exact e.trans (replL_rpE c (tl x))
def tRpE (ix io : Nat) : TE := fun σ H Q => match σ[ix]? with
  | some (some (.str x)) => (match σ[io]? with
    | some (some (.str y)) => (match tl y with
      | [c] => (tl x).length ≤ 1000000 ∧ Q (.str (S (rpE c (tl x)))) H
      | _ => False)
    | _ => False)
  | _ => False
theorem tRpE_e {ix io : Nat} {Q : VK} (h : tRpE ix io σ H Q) : ∃ x c, σ[ix]? = some (some (.str x)) ∧ σ[io]? = some (some (.str (S [c]))) ∧ (tl x).length ≤ 1000000 ∧ Q (.str (S (rpE c (tl x)))) H := by
  unfold tRpE at h
  split at h
  · rename_i x e1
    split at h
    · rename_i y e2
      split at h
      · rename_i c ey
        exact ⟨x, c, e1, by rw [e2, ← S_tl y, ey], h⟩
      · exact h.elim
    · exact h.elim
  · exact h.elim
theorem pek_replE {ns : List Str} {ix io : Nat} {x o : Str} {j : Nat} {p1 p2 p3 apos pos : Pos} (hNx : X.N[ix]? = some x := by rfl) (hvx : Vis X.env.scope x := by first | exact Or.inl rfl | exact Or.inr (Or.inl rfl) | exact Or.inr (Or.inr rfl)) (hNo : X.N[io]? = some o := by rfl) (hko : X.env.kindOf o = some .local := by rfl)
    (ho : o ∈ ns := by decide +kernel) (hdx : (x == ("__debug__" : Str)) = false := by decide +kernel) (hcx : (x == ("__classdict__" : Str)) = false := by decide +kernel) (hdo : (o == ("__debug__" : Str)) = false := by decide +kernel)
    (hst : starEach [.Name o p2, .Constant (.str (S [])) j p3] X.env = [(false, eval (.Name o p2) X.env), (false, eval (.Constant (.str (S [])) j p3) X.env)] := by rfl)
    (hbase : attributeBase (.Name x p1) "replace" X.env (eval (.Name x p1) X.env) = eval (.Name x p1) X.env := by rfl) (hline : (apos.endLine == pos.line) = true := by rfl) :
    PEK X ns (.Call (.Attribute (.Name x p1) "replace" apos) [.Name o p2, .Constant (.str (S [])) j p3] [] pos) (tRpE ix io) := by
  refine ⟨fun pins s σ H Q I k h => ?_⟩
  obtain ⟨z, c, e1, e2, hb, q⟩ := tRpE_e h
  obtain ⟨ff, hF, hns, htok, hnd⟩ := k
  refine wpAny_mono (wpAny_toks (Q := fun u s' => EP X pins σ Q u s' ∧ ∃ k : Nat, s' = { s with toks := k }) (PySem.Call_method2 hbase hst hline (raw_name hNx hvx I e1 (fun v r => ?_) hdx hcx))) (fun u s' hq => ?_) fun _ _ z => z.2
  · obtain ⟨tx, rfl⟩ := r
    refine ⟨"str", _, F.plainAttrs_str, F.slot_str_replace, F.type_str_replace, typeIs_str _ _ _, (fun _ e => nomatch e), Calls.callWith_builtin rfl (Calls.evalArgs_plain (Calls.spliced_cons ?_))⟩
    refine tk_name hF hns htok ho hNo hko I e2 (fun t h1 h2 hm1 => ?_) hdo
    refine Calls.spliced_cons (Calls.Constant_str ?_)
    refine Calls.spliced_nil ?_
    refine PySem.SC.replace (show t ≠ (0 : Nat) from by omega) (show s.toks ≠ (0 : Nat) from by omega) (show t ≠ s.toks from by omega) (by simp only [beq_eq_false_iff_ne]; exact fun z => absurd (congrArg (fun y : Str => (tl y).length) z) (show ¬ (1 = 0) by decide)) (by
      have : (S []).length = 0 := by rw [len_tl]; rfl
      rw [this, len_tl]; omega) fun t' k => ⟨⟨.str (S (rpE c (tl z))), H, I.tok k, ⟨t', by rw [repl_SE]⟩, q⟩, k, rfl⟩
  · obtain ⟨hle, he, k, rfl⟩ := hq
    exact ⟨he, ff, hF, hns, fun e he => (let ⟨x, t, a, b, c⟩ := htok e he; ⟨x, t, a, b, Nat.lt_of_lt_of_le c hle⟩), hnd⟩
end
end Ta

set_option Elab.async false
set_option linter.all false
set_option maxRecDepth 100000
set_option maxHeartbeats 1000000
namespace Ta
open PySem PySem.Spec PyProof.Rows L2

/-! ### the part ahead of a sign -/
def bef (c : Nat) (l : List Nat) : List Nat := l.takeWhile fun a => !decide (a = c)
def fnd (c : Nat) (l : List Nat) : Int := if c ∈ l then ((bef c l).length : Int) else -1
theorem bef_at {c : Nat} : ∀ {l : List Nat} {i : Nat}, l[i]? = some c → (∀ k, k < i → ¬ l[k]? = some c) → (bef c l).length = i ∧ l.take i = bef c l
  | [], i, h, _ => by simp at h
  | a :: l, 0, h, _ => by
    have e : a = c := by simpa using h
    subst e
    simp [bef]
  | a :: l, i + 1, h, hk => by
    have e : ¬ a = c := fun z => hk 0 (Nat.succ_pos _) (by simp [z])
    obtain ⟨h1, h2⟩ := bef_at (l := l) (i := i) (by simpa using h) fun k hk' => by
      have := hk (k + 1) (by omega)
      simpa using this
    have e2 : bef c (a :: l) = a :: bef c l := by simp [bef, e]
    rw [e2]
    exact ⟨by simp [h1], by simp [h2]⟩
theorem bef_no {c : Nat} : ∀ {l : List Nat}, ¬ c ∈ l → bef c l = l
  | [], _ => rfl
  | a :: l, h => by
    have e : ¬ a = c := fun z => h (by simp [z])
    have e2 : bef c (a :: l) = a :: bef c l := by simp [bef, e]
    rw [e2, bef_no fun z => h (List.mem_cons_of_mem _ z)]
theorem bef_le (c : Nat) (l : List Nat) : (bef c l).length ≤ l.length := (List.takeWhile_sublist _).length_le
theorem at_one (l : List Nat) (c i : Nat) : StrLaws.At (S l) (S [c]) (S l).length i ↔ l[i]? = some c := StrLaws.subAt_one (S l) c i
theorem find_one (l : List Nat) (c : Nat) : Txt.find (S l) (S [c]) = fnd c l := by
  unfold fnd
  rcases find_whole (S l) (S [c]) with ⟨h1, h2⟩ | ⟨i, h1, h2, h3⟩
  · rw [h1, if_neg]
    intro hm
    obtain ⟨i, hi⟩ := List.mem_iff_getElem?.mp hm
    exact h2 i ((at_one l c i).mpr hi)
  · have hi := (at_one l c i).mp h2
    rw [h1, if_pos (List.mem_iff_getElem?.mpr ⟨i, hi⟩), (bef_at hi fun k hk z => h3 k hk ((at_one l c k).mpr z)).1]
theorem part_one (l : List Nat) (c : Nat) : (Txt.partition (S l) (S [c])).1 = S (bef c l) := by
  have hf := find_one l c
  unfold Txt.find at hf
  unfold Txt.partition
  revert hf
  cases e : Builtin.Str.occurrences (S l) (S [c]) 0 (S l).length 1 with
  | nil =>
    intro hf
    have hn : ¬ c ∈ l := fun z => by
      unfold fnd at hf
      rw [if_pos z] at hf
      have hf : (-1 : Int) = ((bef c l).length : Int) := hf
      omega
    rw [bef_no hn]
  | cons i r =>
    intro hf
    have hf : (i : Int) = fnd c l := hf
    unfold fnd at hf
    by_cases hm : c ∈ l
    · rw [if_pos hm] at hf
      have e2 : i = (bef c l).length := by omega
      refine ext_tl ?_
      have e3 : bef c l = l.take (bef c l).length := List.prefix_iff_eq_take.mp (List.takeWhile_prefix _)
      show ((S l).cps.extract 0 i).toList = bef c l
      rw [Array.toList_extract, e2]
      simp
      exact e3.symm
    · rw [if_neg hm] at hf; omega
section
variable {X : Cx}
def zFind : V → List V → Hp → VK → Prop := fun x xs H Q => match x with
  | .str a => one xs fun y => (match y with
    | .str b => (match tl b with
      | [c] => Q (.int (fnd c (tl a))) H
      | _ => False)
    | _ => False)
  | _ => False
theorem mtfind : MtR X "str.find" zFind := mt_imp mt_find fun x xs H Q h => by
  cases x with
  | str a =>
    obtain ⟨y, rfl, h⟩ := one_e h
    cases y with
    | str b =>
      have h : (match tl b with
        | [c] => Q (.int (fnd c (tl a))) H
        | _ => False) := h
      split at h
      · rename_i c e
        refine ⟨a, b, rfl, rfl, ?_⟩
        have := find_one (tl a) c
        rw [S_tl, ← e, S_tl] at this
        rw [this]; exact h
      · exact h.elim
    | _ => exact h.elim
  | _ => exact h.elim
/-- of its parts the first one is told -/
def zPartition : V → List V → Hp → VK → Prop := fun x xs H Q => match x with
  | .str a => one xs fun y => (match y with
    | .str b => (match tl b with
      | [c] => Lim (tl a).length ∧ ∀ p y1 y2, H p = none → Q (.ref p) (upd H p (.tup [.str (S (bef c (tl a))), .str y1, .str y2]))
      | _ => False)
    | _ => False)
  | _ => False
theorem mtpart : MtR X "str.partition" zPartition := mt_imp mt_partition fun x xs H Q h => by
  cases x with
  | str a =>
    obtain ⟨y, rfl, h⟩ := one_e h
    cases y with
    | str b =>
      have h : (match tl b with
        | [c] => Lim (tl a).length ∧ ∀ p y1 y2, H p = none → Q (.ref p) (upd H p (.tup [.str (S (bef c (tl a))), .str y1, .str y2]))
        | _ => False) := h
      split at h
      · rename_i c e
        refine ⟨a, b, rfl, rfl, by rw [len_tl, e]; rfl, by rw [len_tl]; exact h.1, fun p hp => ?_⟩
        have := part_one (tl a) c
        rw [S_tl, ← e, S_tl] at this
        rw [this]; exact h.2 p _ _ hp
      · exact h.elim
    | _ => exact h.elim
  | _ => exact h.elim
/-- list(x) -/
def zList (K : PySem.W.Frag) : List V → Hp → VK → Prop := fun xs H Q => one xs fun x => match x with
  | .ref p => look H p fun o => (match o with
    | some (.lst ys) => ∀ l, H l = none → Q (.ref l) (upd H l (.lst ys))
    | some (.tup ys) => ∀ l, H l = none → Q (.ref l) (upd H l (.lst ys))
    | some (.frz _ (.lst ys)) => ∀ l, H l = none → Q (.ref l) (upd H l (.lst ys))
    | _ => False)
  | _ => False
theorem crlist : CallR X (.type "list") (zList X.K) := cr_imp call_list_of fun xs H Q h => by
  obtain ⟨x, rfl, h⟩ := one_e h
  cases x with
  | ref p =>
    have h := look_e h
    cases e : H p with
    | none => rw [e] at h; exact h.elim
    | some o =>
      rw [e] at h
      cases o with
      | lst ys => exact ⟨p, ys, rfl, .inl (SqL.of e), h⟩
      | tup ys => exact ⟨p, ys, rfl, .inr (SqT.of e), h⟩
      | frz ob u =>
        cases u with
        | lst ys => exact ⟨p, ys, rfl, .inl (.inl (.inr ⟨_, e⟩)), h⟩
        | _ => exact h.elim
      | _ => exact h.elim
  | _ => exact h.elim
end
end Ta

set_option Elab.async false
set_option linter.all false
set_option maxRecDepth 100000
set_option maxHeartbeats 1000000
namespace Ta
open PySem PySem.Spec PyProof.Rows L2

/-! ### methods of lists -/
section
variable {X : Cx} {o e : Expr} {es : List Expr} {to : TE} {t : TA} {name : Str} {apos cpos : Pos} {T id : String}
abbrev RM := Addr → List V → Hp → VK → Prop
def lstAt (x : V) (H : Hp) (k : Addr → List V → Prop) : Prop := match x with
  | .ref p => look H p fun ob => (match ob with
    | some (.lst xs) => k p xs
    | _ => False)
  | _ => False
theorem lstAt_e {x : V} {H : Hp} {k : Addr → List V → Prop} (h : lstAt x H k) : ∃ p xs, x = .ref p ∧ H p = some (.lst xs) ∧ k p xs := by
  cases x with
  | ref p =>
    have h := look_e h
    cases e : H p with
    | none => rw [e] at h; exact h.elim
    | some ob =>
      rw [e] at h
      cases ob with
      | lst xs => exact ⟨p, xs, rfl, e, h⟩
      | _ => exact h.elim
  | _ => exact h.elim
def tLM (r : RM) (to : TE) (t : TA) : TE := fun σ H Q => to σ H fun x H1 => lstAt x H1 fun p _ => t σ H1 fun xs H2 => r p xs H2 Q
def tLM0 (r : RM) (to : TE) : TE := fun σ H Q => to σ H fun x H1 => lstAt x H1 fun p _ => r p [] H1 Q
def rOf (r : RM) : V → List V → Hp → VK → Prop := fun x vs H Q => ∃ p, x = .ref p ∧ r p vs H Q
theorem plm {r : RM} (slot : Slot "list" name id) (hty : typeOf (.builtin id) = pure (.type "method_descriptor")) (hm : MtR X id (rOf r)) (ho : PE X o to) (ha : PA X (e :: es) t)
    (hbase : attributeBase o name X.env (eval o X.env) = eval o X.env := by rfl)
    (hfew : ((backTo cpos (starEach (e :: es) X.env)).all (fun x => !x.1) && (backToKw cpos (keywordEach [] X.env)).all (fun x => x.1.isSome)
      && decide ((e :: es).length + ([] : List Keyword).length + (if ([] : List Keyword).isEmpty then 0 else 1) < 30)) = true := by rfl)
    (hline : (apos.endLine == cpos.line) = true := by rfl) (hs : starEach (e :: es) X.env = (false, eval e X.env) :: starEach es X.env := by rfl) (hplain : (backTo cpos (starEach es X.env)).any (·.1) = false := by rfl) :
    PE X (.Call (.Attribute o name apos) (e :: es) [] cpos) (tLM r to t) := by
  refine ⟨fun pins s σ H Q I h => ?_⟩
  refine wpAny_Call_method_late hbase hfew hline rfl (thn (ho.run pins s σ H _ I h) fun v s1 ⟨x, H1, I1, r1, q0⟩ => ?_)
  obtain ⟨p, xs, rfl, hp, q1⟩ := lstAt_e q0
  obtain ⟨h1, h2⟩ := tyV_is (T := "list") I1 r1 (.inl ⟨rfl, xs, SqL.of hp⟩)
  refine ⟨"list", id, PySem.F.plainAttrs_list, slot, hty, h1, h2, ?_⟩
  have hA := ha.run cpos pins s1 σ H1 _ I1 q1
  rw [hs] at hA ⊢
  refine Calls.callWith_builtin (by show (false || (backTo cpos (starEach es X.env)).any (·.1)) = false; rw [hplain] <;> rfl) (Calls.evalArgs_plain ?_)
  exact thn hA fun us s2 ⟨vs, H2, I2, r2, q2⟩ => hm pins s2 σ H2 _ vs v us Q I2 r1 r2 ⟨p, rfl, q2⟩
theorem plm0 {r : RM} (slot : Slot "list" name id) (hty : typeOf (.builtin id) = pure (.type "method_descriptor")) (hm : MtR X id (rOf r)) (ho : PE X o to)
    (hbase : attributeBase o name X.env (eval o X.env) = eval o X.env := by rfl) (hline : (apos.endLine == cpos.line) = true := by rfl) : PE X (.Call (.Attribute o name apos) [] [] cpos) (tLM0 r to) := by
  refine ⟨fun pins s σ H Q I h => ?_⟩
  refine wpAny_Call_method0_late hbase hline (thn (ho.run pins s σ H _ I h) fun v s1 ⟨x, H1, I1, r1, q0⟩ => ?_)
  obtain ⟨p, xs, rfl, hp, q1⟩ := lstAt_e q0
  obtain ⟨h1, h2⟩ := tyV_is (T := "list") I1 r1 (.inl ⟨rfl, xs, SqL.of hp⟩)
  exact ⟨"list", id, PySem.F.plainAttrs_list, slot, hty, h1, h2, Calls.callWith_builtin rfl (PySem.evalArgs_none (hm pins s1 σ H1 _ [] v [] Q I1 r1 .nil ⟨p, rfl, q1⟩))⟩
def lkl (H : Hp) (l : Addr) (k : List V → Prop) : Prop := look H l fun ob => match ob with
  | some (.lst xs) => k xs
  | _ => False
theorem lkl_e {H : Hp} {l : Addr} {k : List V → Prop} (h : lkl H l k) : ∃ xs, H l = some (.lst xs) ∧ k xs := by
  have h := look_e h
  cases e : H l with
  | none => rw [e] at h; exact h.elim
  | some ob =>
    rw [e] at h
    cases ob with
    | lst xs => exact ⟨xs, rfl, h⟩
    | _ => exact h.elim
def zAppP : RM := fun l vs H Q => one vs fun y => lkl H l fun xs => Lim (xs.length + 1) ∧ Q .non (upd H l (.lst (xs ++ [y])))
theorem mtapp : MtR X "list.append" (rOf zAppP) := mt_imp mt_append fun x vs H Q h => by
  obtain ⟨l, rfl, h⟩ := h
  obtain ⟨y, rfl, h⟩ := one_e h
  obtain ⟨xs, hl, h1, h2⟩ := lkl_e h
  exact ⟨l, xs, y, rfl, rfl, hl, h1, h2⟩
def zExtP : RM := fun l vs H Q => one vs fun y => match y with
  | .ref b => lkl H l fun xs => lkl H b fun zs => Lim (xs.length + zs.length) ∧ Q .non (upd H l (.lst (xs ++ zs)))
  | _ => False
theorem mtext : MtR X "list.extend" (rOf zExtP) := mt_imp mt_extend fun x vs H Q h => by
  obtain ⟨l, rfl, h⟩ := h
  obtain ⟨y, rfl, h⟩ := one_e h
  cases y with
  | ref b =>
    obtain ⟨xs, hl, h⟩ := lkl_e h
    obtain ⟨zs, hb, h1, h2⟩ := lkl_e h
    exact ⟨l, b, xs, zs, rfl, rfl, hl, hb, h1, h2⟩
  | _ => exact h.elim
def zPopP : RM := fun l vs H Q => match vs with
  | [] => lkl H l fun xs => itm xs ((xs.length : Int) - 1) fun y => Q y (upd H l (.lst xs.dropLast))
  | _ => False
theorem mtpop : MtR X "list.pop" (rOf zPopP) := mt_imp mt_pop fun x vs H Q h => by
  obtain ⟨l, rfl, h⟩ := h
  cases vs with
  | nil =>
    obtain ⟨xs, hl, h⟩ := lkl_e h
    obtain ⟨y, e, q⟩ := itm_e h
    obtain ⟨j, h1, h2, h3, h4, h5⟩ := atI_get e
    refine ⟨l, xs, y, rfl, rfl, hl, ?_, q⟩
    have : seqIndex? ((xs.length : Int) - 1) xs.length = some (xs.length - 1) := by
      have e : ((xs.length : Int) - 1) = ((xs.length - 1 : Nat) : Int) := by omega
      rw [e, PySem.StrLaws.seqIndex_nonneg (by omega) (by omega)]
      simp
    rw [this] at h1
    cases h1
    exact h2
  | cons a b => exact h.elim
def zPopAtP : RM := fun l vs H Q => one vs fun y => match y with
  | .int i => lkl H l fun xs => ∃ j, ixN xs.length i = some j ∧ Lim xs.length ∧ itm xs i fun y => Q y (upd H l (.lst (xs.eraseIdx j)))
  | _ => False
theorem mtpopat : MtR X "list.pop" (rOf zPopAtP) := mt_imp mt_popAt fun x vs H Q h => by
  obtain ⟨l, rfl, h⟩ := h
  obtain ⟨y, rfl, h⟩ := one_e h
  cases y with
  | int i =>
    obtain ⟨xs, hl, j, hj, hlim, h⟩ := lkl_e h
    obtain ⟨y, e, q⟩ := itm_e h
    obtain ⟨j', h1, h2, h3, h4, h5⟩ := atI_get e
    obtain ⟨h6, h7, h8, h9⟩ := ixN_seq hj
    rw [h6] at h1
    cases h1
    have hn := line63
    have hlim : xs.length ≤ sizeLine := hlim
    exact ⟨l, xs, i, j, y, rfl, rfl, hl, by omega, by omega, h6, h2, q⟩
  | _ => exact h.elim
def zRevP : RM := fun l vs H Q => match vs with
  | [] => lkl H l fun xs => Q .non (upd H l (.lst xs.reverse))
  | _ => False
theorem mtrev : MtR X "list.reverse" (rOf zRevP) := mt_imp mt_reverse fun x vs H Q h => by
  obtain ⟨l, rfl, h⟩ := h
  cases vs with
  | nil =>
    obtain ⟨xs, hl, h⟩ := lkl_e h
    exact ⟨l, xs, rfl, rfl, hl, h⟩
  | cons a b => exact h.elim
def zInsP : RM := fun l vs H Q => two vs fun x y => match x with
  | .int i => lkl H l fun xs => Lim (xs.length + 1) ∧ (0 ≤ i ∧ i < 1073741824) ∧ Q .non (upd H l (.lst (xs.take i.toNat ++ [y] ++ xs.drop i.toNat)))
  | _ => False
theorem mtins : MtR X "list.insert" (rOf zInsP) := mt_imp mt_insert fun x vs H Q h => by
  obtain ⟨l, rfl, h⟩ := h
  obtain ⟨x, y, rfl, h⟩ := two_e h
  cases x with
  | int i =>
    obtain ⟨xs, hl, h1, ⟨h2, h3⟩, q⟩ := lkl_e h
    exact ⟨l, xs, i, y, rfl, rfl, hl, h1, h2, by omega, q⟩
  | _ => exact h.elim
end
end Ta

set_option Elab.async false
set_option linter.all false
set_option maxRecDepth 100000
set_option maxHeartbeats 1000000
namespace Ta
open PySem PySem.Spec PyProof.Rows L2

theorem iteT {p q : Prop} (h : p) : if true = true then p else q := by rw [if_pos rfl]; exact h
theorem q_bl {Q : VK} {b c : Bool} {H : Hp} (e : b = c) (q : Q (.bl c) H) : Q (.bl b) H := by rw [e]; exact q
theorem q_v {Q : VK} {b c : V} {H : Hp} (e : b = c) (q : Q c H) : Q b H := by rw [e]; exact q
theorem q_H {Q : VK} {v : V} {H H' : Hp} (e : H = H') (q : Q v H') : Q v H := by rw [e]; exact q
theorem q_vH {Q : VK} {b c : V} {H H' : Hp} (e' : b = c) (e : H = H') (q : Q c H') : Q b H := by rw [e, e']; exact q
theorem Kp.get2 {p r : Addr} {H H' : Hp} {q : Addr} {o : HO} (a : Kp [p, r] H H') (h : H q = some o) (n : q ≠ p) (n2 : q ≠ r) : H' q = some o := a q o h fun z => by
  rcases List.mem_cons.mp z with z | z
  · exact n z
  · exact n2 (List.mem_singleton.mp z)
theorem ne_ho {H : Hp} {p q : Addr} {o o' : HO} (h : H p = some o) (h' : H q = some o') (n : o ≠ o') : p ≠ q := fun e => by
  subst e; rw [h] at h'; exact n (Option.some.inj h')
theorem cut_map {α β : Type} (f : α → β) (xs : List α) (lo hi : Option Int) : cut (xs.map f) lo hi = (cut xs lo hi).map f := by
  rw [← cut_eq0, ← cut_eq0]; unfold cut0; rw [List.length_map, ← List.map_drop, ← List.map_take]
theorem cut_one {α : Type} (xs : List α) (c : Nat) : cut xs (some (c : Int)) (some ((c : Int) + 1)) = (xs.drop c).take 1 := by
  have e : ((c : Int) + 1) = ((c + 1 : Nat) : Int) := by omega
  rw [e, cut_both, List.drop_take]
  congr 1; omega
theorem cut_fr1 {α : Type} (xs : List α) (c : Nat) : cut xs (some ((c : Int) + 1)) none = xs.drop (c + 1) := by
  have e : ((c : Int) + 1) = ((c + 1 : Nat) : Int) := by omega
  rw [e, cut_from]
theorem cut_t1 {α : Type} (xs : List α) : cut xs none (some (1 : Int)) = xs.take 1 := cut_to xs 1
/-- [e for x in xs], e pure -/
theorem lcp_M {n : Nat} {it : Itm} {st : Hp → Prop} {xs : List V} {i : Nat} {te : TE} {σ : St} {H1 : Hp} {Q : VK} {vs : List Nat} (hn : n = xs.length) (hit : ∀ k H x H', it k H x H' → H' = H ∧ xs[k]? = some x) (hst : ∀ D xs, H1 D = none → st (upd H1 D (.lst xs)))
    (f : V → V) (hl : xs.length < 1000000) (he : ∀ x D H' Q', H1 D = none → x ∈ xs → (∃ ys, H' = upd H1 D (.lst ys)) → Q' (f x) H' → te ((wipe σ vs).set i (some x)) H' Q')
    (hw : ∀ v, wipe ((wipe σ vs).set i v) vs = wipe σ vs) (q : ∀ D, H1 D = none → Q (.ref D) (upd H1 D (.lst (xs.map f)))) : lcp n it st (gName i) tYes te vs σ H1 Q := by
  subst hn
  refine lcp_i (fun D k H => H = upd H1 D (.lst ((xs.take k).map f))) (fun D hD => rfl) (fun D k H hD _ e => by rw [e]; exact hst D _ hD) ?_ ?_
  · rintro D k x H H' hD hk rfl hi
    obtain ⟨rfl, hc⟩ := hit _ _ _ _ hi
    refine ⟨hw _, ?_⟩
    unfold tYes; dsimp only
    rw [if_pos rfl]
    refine he x D _ _ hD (List.mem_of_getElem? hc) ⟨_, rfl⟩ ⟨_, upd_at, ?_, ?_⟩
    · rw [List.length_map, List.length_take, sizeLine_eq]; omega
    · rw [upd_tw, List.take_succ, hc]
      simp
  · rintro D H hD rfl
    rw [List.take_length]
    exact q D hD
/-- .. over a list that stands -/
theorem lcp_ML {xs : List V} {p : Addr} {i : Nat} {te : TE} {σ : St} {H1 : Hp} {Q : VK} {vs : List Nat} (hp : H1 p = some (.lst xs))
    (f : V → V) (hl : xs.length < 1000000) (he : ∀ x D H' Q', H1 D = none → x ∈ xs → (∃ ys, H' = upd H1 D (.lst ys)) → Q' (f x) H' → te ((wipe σ vs).set i (some x)) H' Q')
    (hw : ∀ v, wipe ((wipe σ vs).set i v) vs = wipe σ vs) (q : ∀ D, H1 D = none → Q (.ref D) (upd H1 D (.lst (xs.map f)))) : lcp xs.length (itL xs) (fun H' => H' p = some (.lst xs)) (gName i) tYes te vs σ H1 Q :=
  lcp_M rfl (fun k H x H' h => h) (fun D ys hD => upd_fr hD hp) f hl he hw q
/-- .. of a box that is drawn from: after k turns the box b(k) and the items -/
theorem lcp_B {n : Nat} {it : Itm} {st : Hp → Prop} {i : Nat} {te : TE} {σ : St} {H1 : Hp} {Q : VK} {vs : List Nat} (p : Addr) (hp : ∃ o, H1 p = some o) (Bx : HO → Prop) (P : V → Prop) (hb : ∀ o, H1 p = some o → Bx o) (hn : n < 1000000)
    (hit : ∀ k H x H', k < n → it k H x H' → H' = H) (hst : ∀ D xs o, H1 D = none → st (upd (upd H1 p o) D (.lst xs)))
    (he : ∀ k x D o ys Q', k < n → H1 D = none → D ≠ p → it k (upd (upd H1 p o) D (.lst ys)) x (upd (upd H1 p o) D (.lst ys)) → Bx o → (∀ v o', P v → Bx o' → Q' v (upd (upd (upd H1 p o) D (.lst ys)) p o')) → te ((wipe σ vs).set i (some x)) (upd (upd H1 p o) D (.lst ys)) Q')
    (hw : ∀ v, wipe ((wipe σ vs).set i v) vs = wipe σ vs) (q : ∀ D xs o, H1 D = none → D ≠ p → xs.length = n → (∀ v ∈ xs, P v) → Bx o → Q (.ref D) (upd (upd H1 p o) D (.lst xs))) : lcp n it st (gName i) tYes te vs σ H1 Q := by
  obtain ⟨o0, hp⟩ := hp
  refine lcp_i (fun D k H => ∃ xs o, xs.length = k ∧ (∀ v ∈ xs, P v) ∧ Bx o ∧ H = upd (upd H1 p o) D (.lst xs)) (fun D hD => ⟨[], o0, rfl, (fun _ z => nomatch z), hb _ hp, by rw [upd_self hp]⟩) (fun D k H hD _ e => by obtain ⟨xs, o, _, _, _, rfl⟩ := e; exact hst D _ _ hD) ?_ ?_
  · rintro D k x H H' hD hk ⟨xs, o, hl, hP, hB, rfl⟩ hi
    have e := hit _ _ _ _ hk hi
    subst e
    have hne : D ≠ p := fun e => by rw [e, hp] at hD; cases hD
    refine ⟨hw _, ?_⟩
    unfold tYes; dsimp only
    rw [if_pos rfl]
    refine he k x D o xs _ hk hD hne hi hB fun v o' hv hB' => ⟨xs, ?_, ?_, xs ++ [v], o', ?_, ?_, hB', ?_⟩
    · rw [upd_ne hne]; exact upd_at
    · rw [hl, sizeLine_eq]; omega
    · rw [List.length_append, hl]; rfl
    · intro w hw
      rcases List.mem_append.mp hw with h | h
      · exact hP w h
      · rw [List.mem_singleton.mp h]; exact hv
    · funext c
      unfold upd
      by_cases h1 : c = D
      · simp [h1, hne]
      · by_cases h2 : c = p
        · simp [h1, h2]
        · simp [h1, h2]
  · rintro D H hD ⟨xs, o, hl, hP, hB, rfl⟩
    have hne : D ≠ p := fun e => by rw [e, hp] at hD; cases hD
    exact q D xs o hD hne hl hP hB
theorem inV_str (a : Str) (l : List Str) : inV (.str a) (l.map V.str) = decide (a ∈ l) := by
  unfold inV
  induction l with
  | nil => rfl
  | cons b l ih =>
    rw [List.map_cons, List.any_cons, ih]
    show ((b == a) || decide (a ∈ l)) = _
    by_cases h : b = a
    · subst h; simp
    · have h2 : ¬ a = b := fun e => h e.symm
      simp [h, h2]
theorem inV2 (a b c : List Nat) : inV (.str (S a)) [.str (S b), .str (S c)] = (decide (a = b) || decide (a = c)) := by
  show inV (.str (S a)) ([S b, S c].map V.str) = _
  rw [inV_str]
  have e : ∀ x y : List Nat, (S x = S y) ↔ x = y := fun x y => ⟨fun h => congrArg tl h, fun h => by rw [h]⟩
  rw [← Bool.decide_or, decide_eq_decide]
  simp [e]
theorem loop_r {n : Nat} {lo : Int} {g : Nat} {tb : TS} {D : Ends} {σ : St} {H : Hp} (Pv : Nat → St → Hp → Prop) (h0 : Pv 0 σ H)
    (hs : ∀ i σ H, i < n → Pv i σ H → tb { D with nx := Pv (i + 1), ct := Pv (i + 1), bk := D.nx } (σ.set g (some (.int (lo + i)))) H) (hd : ∀ σ H, Pv n σ H → D.nx σ H) : loop n (itR lo) (fun _ => True) (gName g) tb D σ H := by
  refine loop_i Pv h0 (fun _ _ _ _ _ => trivial) ?_ hd
  rintro i x σ H H' hi hP ⟨rfl, rfl⟩
  exact hs i σ H' hi hP
theorem loop_s {l : List Nat} {g : Nat} {tb : TS} {D : Ends} {σ : St} {H : Hp} (Pv : Nat → St → Hp → Prop) (h0 : Pv 0 σ H)
    (hs : ∀ i (hi : i < l.length) σ H, Pv i σ H → tb { D with nx := Pv (i + 1), ct := Pv (i + 1), bk := D.nx } (σ.set g (some (.str (S [l[i]])))) H) (hd : ∀ σ H, Pv l.length σ H → D.nx σ H) : loop l.length (itS l) (fun _ => True) (gName g) tb D σ H := by
  refine loop_i Pv h0 (fun _ _ _ _ _ => trivial) ?_ hd
  rintro i x σ H H' hi hP ⟨rfl, c, hc, rfl⟩
  have e : c = l[i] := by rw [List.getElem?_eq_getElem hi] at hc; exact (Option.some.inj hc).symm
  subst e
  exact hs i hi σ H' hP
end Ta

set_option Elab.async false
set_option linter.all false
set_option maxRecDepth 100000
set_option maxHeartbeats 1000000
namespace Ta
open PySem PySem.Spec PyProof.Rows L2

/-- [e for x in cells], e a whole number by x -/
theorem lcp_I {cs : List Int} {p : Addr} {i : Nat} {te : TE} {σ : St} {H1 : Hp} {Q : VK} {vs : List Nat} (hp : H1 p = some (.lst (cs.map V.int)))
    (g : Int → Int) (hl : cs.length < 1000000) (he : ∀ c D H' Q', H1 D = none → c ∈ cs → (∃ ys, H' = upd H1 D (.lst ys)) → Q' (.int (g c)) H' → te ((wipe σ vs).set i (some (.int c))) H' Q')
    (hw : ∀ v, wipe ((wipe σ vs).set i v) vs = wipe σ vs) (q : ∀ D, H1 D = none → Q (.ref D) (upd H1 D (.lst ((cs.map g).map V.int)))) : lcp (cs.map V.int).length (itL (cs.map V.int)) (fun H' => H' p = some (.lst (cs.map V.int))) (gName i) tYes te vs σ H1 Q := by
  refine lcp_ML hp (fun v => match v with
    | .int c => .int (g c)
    | v => v) (by rw [List.length_map]; exact hl) ?_ hw ?_
  · rintro x D H' Q' hD hx hH hQ
    obtain ⟨c, hc, rfl⟩ := List.mem_map.mp hx
    exact he c D H' Q' hD hc hH hQ
  · intro D hD
    have e : (cs.map V.int).map (fun v => match v with
      | .int c => V.int (g c)
      | v => v) = (cs.map g).map V.int := by rw [List.map_map, List.map_map]; rfl
    rw [e]
    exact q D hD
/-- for x in a list that stands -/
theorem loop_l {xs : List V} {p : Addr} {g : Nat} {tb : TS} {D : Ends} {σ : St} {H : Hp} (Pv : Nat → St → Hp → Prop) (h0 : Pv 0 σ H) (hst : ∀ i σ H, i ≤ xs.length → Pv i σ H → H p = some (.lst xs))
    (hs : ∀ i (hi : i < xs.length) σ H, Pv i σ H → tb { D with nx := Pv (i + 1), ct := Pv (i + 1), bk := D.nx } (σ.set g (some xs[i])) H) (hd : ∀ σ H, Pv xs.length σ H → D.nx σ H) :
    loop xs.length (itL xs) (fun H' => H' p = some (.lst xs)) (gName g) tb D σ H := by
  refine loop_i Pv h0 hst ?_ hd
  rintro i x σ H H' hi hP ⟨rfl, hx⟩
  rw [List.getElem?_eq_getElem hi] at hx
  cases hx
  exact hs i hi σ H' hP
theorem Kp.fr {F : List Addr} {H H1 H2 : Hp} (a : Kp [] H H1) (b : Kp F H1 H2) (hF : ∀ z ∈ F, H z = Option.none) : Kp [] H H2 := fun z u hz _ => b z u (a z u hz (fun h => nomatch h)) (fun hm => by rw [hF z hm] at hz; cases hz)
theorem Kp.fu {H H1 : Hp} {p : Addr} {o : HO} (a : Kp [] H H1) (hp : H p = Option.none) : Kp [] H (upd H1 p o) := Kp.own a hp
theorem Kp.get3 {p r t : Addr} {H H' : Hp} {q : Addr} {o : HO} (a : Kp [p, r, t] H H') (h : H q = some o) (n : q ≠ p) (n2 : q ≠ r) (n3 : q ≠ t) : H' q = some o := a q o h (by simp [n, n2, n3])
theorem ne_x {H : Hp} {p q : Addr} (hp : H p = none) (h : ∃ o, H q = some o) : p ≠ q := by
  obtain ⟨o, h⟩ := h
  exact ne_none' h hp
theorem ne_y {H : Hp} {p q : Addr} (hp : H p = none) (h : ∃ o, H q = some o) : q ≠ p := (ne_x hp h).symm
theorem itm_z0 {α : Type} {x : α} {xs : List α} {i : Int} {k : α → Prop} (e : i = 0) (q : k x) : itm (x :: xs) i k := itm_n (j := 0) e rfl q
theorem itm_z1 {α : Type} {x y : α} {xs : List α} {i : Int} {k : α → Prop} (e : i = 1) (q : k y) : itm (x :: y :: xs) i k := itm_n (j := 1) e rfl q
theorem itm_2 {α : Type} {x y : α} {i : Int} {k : α → Prop} (h0 : 0 ≤ i) (h1 : i < 2) (q0 : i = 0 → k x) (q1 : i = 1 → k y) : itm [x, y] i k := by
  have : i = 0 ∨ i = 1 := by omega
  rcases this with e | e
  · exact itm_z0 e (q0 e)
  · exact itm_z1 e (q1 e)
theorem itm_3 {α : Type} {x y z : α} {i : Int} {k : α → Prop} (h0 : 0 ≤ i) (h1 : i < 3) (q0 : i = 0 → k x) (q1 : i = 1 → k y) (q2 : i = 2 → k z) : itm [x, y, z] i k := by
  have : i = 0 ∨ i = 1 ∨ i = 2 := by omega
  rcases this with e | e | e
  · exact itm_z0 e (q0 e)
  · exact itm_z1 e (q1 e)
  · exact itm_n (j := 2) e rfl (q2 e)
theorem loop_r2 {lo : Int} {g : Nat} {tb : TS} {D : Ends} {σ : St} {H : Hp}
    (h : tb { D with nx := fun σ' H' => tb { D with nx := D.nx, ct := D.nx, bk := D.nx } (σ'.set g (some (.int (lo + 1)))) H', ct := fun σ' H' => tb { D with nx := D.nx, ct := D.nx, bk := D.nx } (σ'.set g (some (.int (lo + 1)))) H', bk := D.nx } (σ.set g (some (.int lo))) H) :
    loop 2 (itR lo) (fun _ => True) (gName g) tb D σ H := by
  refine loop_r (fun i σ' H' => match i with
    | 0 => σ' = σ ∧ H' = H
    | 1 => tb { D with nx := D.nx, ct := D.nx, bk := D.nx } (σ'.set g (some (.int (lo + 1)))) H'
    | _ => D.nx σ' H') ⟨rfl, rfl⟩ ?_ ?_
  · rintro i σ' H' hi hP
    match i, hi, hP with
    | 0, _, hP =>
      obtain ⟨rfl, rfl⟩ := hP
      have e : lo + ((0 : Nat) : Int) = lo := by omega
      rw [e]
      exact h
    | 1, _, hP => exact hP
  · exact fun σ' H' h => h
theorem itm_0 {α : Type} {x : α} {xs : List α} {k : α → Prop} (q : k x) : itm (x :: xs) 0 k := itm_n (j := 0) rfl rfl q
theorem itm_1 {α : Type} {x y : α} {xs : List α} {k : α → Prop} (q : k y) : itm (x :: y :: xs) 1 k := itm_n (j := 1) rfl rfl q
end Ta

set_option Elab.async false
set_option linter.all false
set_option maxRecDepth 100000
set_option maxHeartbeats 1000000
namespace Ta
open PySem PySem.Spec PyProof.Rows L2

section
variable {X : Cx}
/-! ### list(x), x a text too -/
def zListX (K : PySem.W.Frag) : List V → Hp → VK → Prop := fun xs H Q => one xs fun x => match x with
  | .str z => (tl z).length ≤ 1000000 ∧ ∀ l, H l = none → Q (.ref l) (upd H l (.lst (sgn (tl z))))
  | .ref p => look H p fun o => (match o with
    | some (.lst ys) => ∀ l, H l = none → Q (.ref l) (upd H l (.lst ys))
    | some (.tup ys) => ∀ l, H l = none → Q (.ref l) (upd H l (.lst ys))
    | some (.frz _ (.lst ys)) => ∀ l, H l = none → Q (.ref l) (upd H l (.lst ys))
    | _ => False)
  | _ => False
theorem crlistX (hcalm : X.calm = true) : CallR X (.type "list") (zListX X.K) := by
  intro pins s σ H xs us Q I r q
  obtain ⟨x, rfl, q1⟩ := one_e q
  cases x with
  | str z =>
    obtain ⟨h1, q1⟩ := q1
    obtain ⟨u, eu, rx⟩ := vals1 r
    subst eu
    obtain ⟨t, rfl⟩ := rx
    have hsz : z.cps.size = (tl z).length := by simp [tl]
    refine PySem.call_list_str (I.ok.hd hcalm) z t (fun h' tk acc' c' hk hS hacc => ?_) (by rw [hsz, sizeLine_eq]; omega)
    have hal : acc'.toList.length = (one1 (tl z)).length := by rw [Array.length_toList, hacc.1, hsz]; simp [one1]
    have hSt : StrsAre acc'.toList (one1 (tl z)) := L2.strs_at hal fun j v e => by
      obtain ⟨c, u, e1, e2⟩ := hacc.2 j v (by rw [← Array.getElem?_toList]; exact e)
      exact ⟨S [c], u, by simp [one1, tl, e1], e2⟩
    have ev : (one1 (tl z)).map V.str = sgn (tl z) := by unfold sgn one1; rw [List.map_map]; rfl
    have hlen : (sgn (tl z)).length ≤ sizeLine := by unfold sgn; rw [List.length_map, sizeLine_eq]; omega
    exact ⟨.ref s.heap.objs.size, _, I.laid (t' := tk) hk (Nat.le_refl _) (show ObjOk X.prog X.w _ h' _ (.lst (sgn (tl z))) from ⟨hlen, acc'.toList, c', by rw [← ev]; exact vals_of_strs hSt, hS⟩), rfl, q1 _ (I.hok.fresh (Nat.le_refl _))⟩
  | ref p => exact crlist pins s σ H [.ref p] us Q I r q
  | _ => exact False.elim q1
/-! ### list(range(n)) -/
variable {a b : Expr} {ta tb : TE}
abbrev TRg := St → Hp → (Int → Int → Hp → Prop) → Prop
def tRa (ta : TE) : TRg := fun σ H Q => ta σ H fun x H1 => match x with
  | .int n => Q 0 n H1
  | _ => False
def tRb (ta tb : TE) : TRg := fun σ H Q => ta σ H fun x H1 => tb σ H1 fun y H2 => match x with
  | .int n => (match y with
    | .int m => Q n m H2
    | _ => False)
  | _ => False
theorem prga {p pos : Pos} (hm : X.mg "range" = none) (ha : PE X a ta) (hg : Gl X "range" := by rfl) (na : starEach [a] X.env = (false, eval a X.env) :: starEach [] X.env := by rfl) : PRg X (.Call (.Name "range" p) [a] [] pos) (tRa ta) := by
  intro pins s σ H Q I h
  refine Call_ (ld_blt I hg hm boot_range (PyProof.Rows.callWith_type1 (one_arg ha I h (fun v s2 x H2 I2 r q => ?_) na) na))
  cases x with
  | int n =>
    obtain ⟨t, rfl⟩ := r
    exact call_range_1 ⟨_, 0, n, _, _, _, H2, rfl, IsRange.new _ _ _ _ _ _ _, I2.kept fun b u e => Heap.get?_push_of_some _ e, q⟩
  | _ => exact False.elim q
theorem prgb {p pos : Pos} (hm : X.mg "range" = none) (ha : PE X a ta) (hb : PE X b tb) (hg : Gl X "range" := by rfl) (na : starEach [a, b] X.env = (false, eval a X.env) :: starEach [b] X.env := by rfl)
    (nb : starEach [b] X.env = (false, eval b X.env) :: starEach [] X.env := by rfl) (hp : ∀ pos, (backTo pos (starEach [b] X.env)).any (·.1) = false := by exact fun _ => rfl) : PRg X (.Call (.Name "range" p) [a, b] [] pos) (tRb ta tb) := by
  intro pins s σ H Q I h
  refine Call_ (ld_blt I hg hm boot_range (PyProof.Rows.callWith_type1 (args_cons (thn (ha.run pins s σ H _ I h) fun v s1 ⟨x, H1, I1, r1, q1⟩ => one_arg hb I1 q1 (fun u s2 y H2 I2 r2 q => ?_) nb) na) na (hp _)))
  cases x with
  | int i =>
    cases y with
    | int j =>
      obtain ⟨t, rfl⟩ := r1
      obtain ⟨t', rfl⟩ := r2
      exact call_range_2 ⟨_, i, j, _, _, _, H2, rfl, IsRange.new _ _ _ _ _ _ _, I2.kept fun b u e => Heap.get?_push_of_some _ e, q⟩
    | _ => exact False.elim q
  | _ => exact False.elim q
theorem plrg {e : Expr} {te : TRg} {p pos : Pos} (hc : X.calm = true) (hm : X.mg "list" = none) (he : PRg X e te) (hg : Gl X "list" := by rfl) (na : starEach [e] X.env = (false, eval e X.env) :: starEach [] X.env := by rfl) : PE X (.Call (.Name "list" p) [e] [] pos) (tLstRg te) := pe_listRg hc hg hm he na
theorem rg_ok {a b : Int} (h0 : 0 ≤ a) (h1 : b ≤ 1000000) (h2 : a ≤ 1000000) (h3 : 0 ≤ b) : RgOk a b := RgOk.of_le h0 (by omega) (by omega) h3
end
end Ta

set_option Elab.async false
set_option linter.all false
set_option maxRecDepth 100000
set_option maxHeartbeats 4000000
namespace Lw
open PySem PySem.Spec PyProof.Rows L2 Ta
def top (i : Nat) : Stmt := PySem.Challenge.pw_talepost_k44_single_keys.main.body.getD i (.Pass ⟨0, 0, 0, 0⟩)
structure Tx (K : PySem.W.Frag) (mg : Str → Option Value) : Prop where
  f_ValueError : mg "ValueError" = none
  f_abs : mg "abs" = none
  f_bool : mg "bool" = none
  f_int : mg "int" = none
  f_isinstance : mg "isinstance" = none
  f_len : mg "len" = none
  f_list : mg "list" = none
  f_max : mg "max" = none
  f_min : mg "min" = none
  f_range : mg "range" = none
  f_set : mg "set" = none
  f_sorted : mg "sorted" = none
  f_str : mg "str" = none
  v_Alphabet : GlobV mg "Alphabet" (.ref (He.ga K "Alphabet"))
  v_BadKey : GlobV mg "BadKey" (.ref (He.ga K "BadKey"))
  v_HOLD : GlobV mg "HOLD" (.int 2)
  v_PLAIN_KEYS : GlobV mg "PLAIN_KEYS" (.str (S [62, 120, 119, 94, 109, 107, 99, 112]))
  v_SIGN_KEYS : GlobV mg "SIGN_KEYS" (.str (S [39, 61, 47]))
  v_SMALL : GlobV mg "SMALL" (.str (S [97, 98, 99, 100, 101, 102, 103, 104, 105, 106, 107, 108, 109, 110, 111, 112, 113, 114, 115, 116, 117, 118, 119, 120, 121, 122]))
  v_TaleError : GlobV mg "TaleError" (.ref (He.ga K "TaleError"))
  cc_Alphabet_JOINT : ClsConst K mg "Alphabet" "JOINT" (.str (S [45]))
  cc_Alphabet_MOST : ClsConst K mg "Alphabet" "MOST" (.int 4)
  k_Alphabet : Cls K (He.ga K "Alphabet")
  k_Page : Cls K (He.ga K "Page")
  i_Alphabet : IsC K (He.ga K "Alphabet")
  n_Alphabet_letters : NoAttr K (He.ga K "Alphabet") "letters"
  n_Alphabet_vowels : NoAttr K (He.ga K "Alphabet") "vowels"
  n_Alphabet_consonants : NoAttr K (He.ga K "Alphabet") "consonants"
  n_Alphabet_signs : NoAttr K (He.ga K "Alphabet") "signs"
  i_Page : IsC K (He.ga K "Page")
  n_Page_alphabet : NoAttr K (He.ga K "Page") "alphabet"
  n_Page_text : NoAttr K (He.ga K "Page") "text"
  n_Page_caret : NoAttr K (He.ga K "Page") "caret"
  n_Page_mark : NoAttr K (He.ga K "Page") "mark"
  n_Page_kept : NoAttr K (He.ga K "Page") "kept"
  o_Alphabet_Alphabet : PySem.W.kitOne K (.ref (He.ga K "Alphabet")) (.ref (He.ga K "Alphabet")) = some true
  x_BadKey : XC K (He.ga K "BadKey")
  nx_BadKey_key : PySem.W.findIn K (.ref (He.ga K "BadKey")) "key" = some none
  e_BadKey_BadKey : PySem.W.exmOne K (.ref (He.ga K "BadKey")) (.ref (He.ga K "BadKey")) = some true
  o_BadKey_TaleError : PySem.W.kitOne K (.ref (He.ga K "BadKey")) (.ref (He.ga K "TaleError")) = some true
  o_BadKey_ValueError : PySem.W.kitOne K (.ref (He.ga K "BadKey")) (.type "ValueError") = some true
abbrev pr (a b : Int) : HO := .lst [.int a, .int b]
abbrev scr (ob : Obj) (ns : List Int) : HO := .frz ob (.lst (ns.map V.int))
abbrev AZ : List Nat := [97, 98, 99, 100, 101, 102, 103, 104, 105, 106, 107, 108, 109, 110, 111, 112, 113, 114, 115, 116, 117, 118, 119, 120, 121, 122]
def dif (l : List Nat) : Bool := decide ((dn l : Int) = (l.length : Int))
def badL (l : List Nat) : Bool := l.any (fun c => !decide (c ∈ AZ)) || !(decide (1 ≤ l.length ∧ l.length ≤ 4)) || !dif l
def badV (l v : List Nat) : Bool := v.any (fun c => !decide (c ∈ l)) || !dif v
abbrev tLet : List Nat := [108, 101, 116, 116, 101, 114, 115]
abbrev tVow : List Nat := [118, 111, 119, 101, 108, 115]
def alf (l v : List Nat) : List (Str × V) := [("letters", .str (S (srt l))), ("vowels", .str (S (srt v))), ("consonants", .str (S ((srt l).filter fun c => !decide (c ∈ v)))), ("signs", .str (S (45 :: srt l)))]
theorem badL1 {l : List Nat} (h : (sgn (l.filter fun c => !decide (c ∈ AZ))).isEmpty = false) : badL l = true := by
  rw [sgn_fe] at h
  unfold badL
  simp only [Bool.not_eq_false'] at h
  rw [h, Bool.true_or, Bool.true_or]
theorem badL2 {l : List Nat} (h : ¬ (1 : Int) ≤ (l.length : Int)) : badL l = true := by
  unfold badL
  rw [decide_eq_false (by omega : ¬ (1 ≤ l.length ∧ l.length ≤ 4)), Bool.not_false, Bool.or_true, Bool.true_or]
theorem badL3 {l : List Nat} (h : ¬ (l.length : Int) ≤ 4) : badL l = true := by
  unfold badL
  rw [decide_eq_false (by omega : ¬ (1 ≤ l.length ∧ l.length ≤ 4)), Bool.not_false, Bool.or_true, Bool.true_or]
theorem badL4 {l : List Nat} (h : ¬ (dn l : Int) = (l.length : Int)) : badL l = true := by
  unfold badL dif
  rw [decide_eq_false h, Bool.not_false, Bool.or_true]
theorem badL0 {l : List Nat} (h : (sgn (l.filter fun c => !decide (c ∈ AZ))).isEmpty = true) (h1 : (1 : Int) ≤ (l.length : Int)) (h2 : (l.length : Int) ≤ 4) (h3 : (dn l : Int) = (l.length : Int)) : badL l = false := by
  rw [sgn_fe] at h
  unfold badL dif
  simp only [Bool.not_eq_true'] at h
  rw [h, decide_eq_true (by omega : 1 ≤ l.length ∧ l.length ≤ 4), decide_eq_true h3]; rfl
theorem badV1 {l v : List Nat} (h : (sgn (v.filter fun c => !decide (c ∈ l))).isEmpty = false) : badV l v = true := by
  rw [sgn_fe] at h
  unfold badV
  simp only [Bool.not_eq_false'] at h
  rw [h, Bool.true_or]
theorem badV2 {l v : List Nat} (h : ¬ (dn v : Int) = (v.length : Int)) : badV l v = true := by
  unfold badV dif
  rw [decide_eq_false h, Bool.not_false, Bool.or_true]
theorem badV0 {l v : List Nat} (h : (sgn (v.filter fun c => !decide (c ∈ l))).isEmpty = true) (h3 : (dn v : Int) = (v.length : Int)) : badV l v = false := by
  rw [sgn_fe] at h
  unfold badV dif
  simp only [Bool.not_eq_true'] at h
  rw [h, decide_eq_true h3]; rfl
theorem dif_nd (l : List Nat) : dif l = true ↔ l.Nodup := by
  unfold dif
  rw [decide_eq_true_iff, ← dn_nodup]
  omega
theorem badL_any {l : List Nat} {c : Nat} (h : c ∈ l) (hc : ¬ c ∈ AZ) : badL l = true := by
  unfold badL
  have z : (l.any fun c => !decide (c ∈ AZ)) = true := List.any_eq_true.mpr ⟨c, h, by rw [decide_eq_false hc]; rfl⟩
  rw [z, Bool.true_or, Bool.true_or]
theorem badL_nd {l : List Nat} (h : ¬ l.Nodup) : badL l = true := by
  unfold badL
  have z : dif l = false := by
    cases e : dif l with
    | false => rfl
    | true => exact absurd ((dif_nd l).mp e) h
  rw [z, Bool.not_false, Bool.or_true]
theorem badV_any {l v : List Nat} {c : Nat} (h : c ∈ v) (hc : ¬ c ∈ l) : badV l v = true := by
  unfold badV
  have z : (v.any fun c => !decide (c ∈ l)) = true := List.any_eq_true.mpr ⟨c, h, by rw [decide_eq_false hc]; rfl⟩
  rw [z, Bool.true_or]
theorem badV_nd {l v : List Nat} (h : ¬ v.Nodup) : badV l v = true := by
  unfold badV
  have z : dif v = false := by
    cases e : dif v with
    | false => rfl
    | true => exact absurd ((dif_nd v).mp e) h
  rw [z, Bool.not_false, Bool.or_true]
theorem badL_ok {l : List Nat} (h1 : 1 ≤ l.length) (h2 : l.length ≤ 4) (h3 : l.Nodup) (h4 : ∀ c ∈ l, c ∈ AZ) : badL l = false := by
  unfold badL
  have z : (l.any fun c => !decide (c ∈ AZ)) = false := List.any_eq_false.mpr fun c hc => by rw [decide_eq_true (h4 c hc)]; decide
  rw [z, (dif_nd l).mpr h3, decide_eq_true ⟨h1, h2⟩]; rfl
theorem badV_ok {l v : List Nat} (h3 : v.Nodup) (h4 : ∀ c ∈ v, c ∈ l) : badV l v = false := by
  unfold badV
  have z : (v.any fun c => !decide (c ∈ l)) = false := List.any_eq_false.mpr fun c hc => by rw [decide_eq_true (h4 c hc)]; decide
  rw [z, (dif_nd v).mpr h3]; rfl
theorem nd_at {l : List Nat} {j : Nat} (hj : j < l.length) (h : l[j] ∈ l.take j) : ¬ l.Nodup := fun nd => by
  obtain ⟨i, hi, e⟩ := List.mem_iff_getElem.mp h
  have hi2 : i < j := by rw [List.length_take] at hi; omega
  rw [List.getElem_take] at e
  exact absurd ((List.getElem_inj nd).mp e) (by omega)
theorem nd_take {l : List Nat} {j : Nat} (hj : j < l.length) (h : ¬ l[j] ∈ l.take j) (nd : (l.take j).Nodup) : (l.take (j + 1)).Nodup := by
  rw [List.take_succ_eq_append_getElem hj]
  refine List.nodup_append.mpr ⟨nd, by simp, fun a ha b hb => ?_⟩
  rw [List.mem_singleton.mp hb]
  exact fun e => h (e ▸ ha)
theorem al_take {l m : List Nat} {j : Nat} (hj : j < l.length) (h : l[j] ∈ m) (al : ∀ c ∈ l.take j, c ∈ m) : ∀ c ∈ l.take (j + 1), c ∈ m := fun c hc => by
  rw [List.take_succ_eq_append_getElem hj] at hc
  rcases List.mem_append.mp hc with z | z
  · exact al c z
  · rw [List.mem_singleton.mp z]; exact h
/-- letters and vowels that an alphabet takes -/
def good (l v : List Nat) : Prop := badL l = false ∧ badV l v = false
/-- a box: a great number or 0, a count, the cells -/
abbrev bx (a b : Int) (q : Addr) : HO := .lst [.int a, .int b, .ref q]
abbrev cel (cs : List Int) : HO := .lst (cs.map V.int)
def okc (cs : List Int) : Prop := cs ≠ [] ∧ cs.length < 1000 ∧ ∀ c ∈ cs, 0 ≤ c ∧ c < 2305843009213693951
theorem bxq {H : Hp} {p q : Addr} {a b : Int} {cs : List Int} (hp : H p = some (bx a b q)) (hq : H q = some (cel cs)) : q ≠ p := fun e => by
  rw [e, hp] at hq
  have h := Option.some.inj hq
  injection h with h
  match cs, h with
  | [], h => cases h
  | [_], h => cases h
  | [_, _], h => cases h
  | _ :: _ :: c :: cs, h => cases h
theorem rpE_mem {c a : Nat} {l : List Nat} : a ∈ rpE c l ↔ a ∈ l ∧ a ≠ c := by
  unfold rpE; rw [List.mem_filter]; simp
theorem rpE_len {c : Nat} : ∀ {l : List Nat}, l.Nodup → c ∈ l → (rpE c l).length + 1 = l.length
  | [], _, h => (nomatch h)
  | a :: l, hn, h => by
    obtain ⟨h1, h2⟩ := List.nodup_cons.mp hn
    by_cases e : a = c
    · subst e
      have e2 : rpE a (a :: l) = l := by
        unfold rpE
        rw [List.filter_cons]
        simp
        exact fun b hb z => h1 (z ▸ hb)
      rw [e2]; rfl
    · have e2 : rpE c (a :: l) = a :: rpE c l := by unfold rpE; rw [List.filter_cons]; simp [e]
      have hm : c ∈ l := by
        rcases List.mem_cons.mp h with z | z
        · exact absurd z.symm e
        · exact z
      rw [e2, List.length_cons, rpE_len h2 hm, List.length_cons]
theorem rpE_nd {c : Nat} {l : List Nat} (h : l.Nodup) : (rpE c l).Nodup := List.Pairwise.filter _ h
theorem all_sgn {g : List Nat} : ∀ {xs : List V}, (∀ v ∈ xs, ∃ c ∈ g, v = .str (S [c])) → ∃ t : List Nat, xs = sgn t ∧ t.length = xs.length ∧ ∀ c ∈ t, c ∈ g
  | [], _ => ⟨[], rfl, rfl, fun _ z => (nomatch z)⟩
  | v :: xs, h => by
    obtain ⟨t, h1, h2, h3⟩ := all_sgn (xs := xs) fun w hw => h w (List.mem_cons_of_mem _ hw)
    obtain ⟨c, hc, rfl⟩ := h v List.mem_cons_self
    refine ⟨c :: t, by rw [h1]; rfl, by simp [h2], fun d hd => ?_⟩
    rcases List.mem_cons.mp hd with rfl | hd
    · exact hc
    · exact h3 d hd
/-- a page: text, caret, mark, kept -/
structure Pg where
  t : List Nat
  c : Nat
  m : Option Nat
  k : List Nat
def mkv : Option Nat → V
  | none => .non
  | some i => .int (i : Int)
abbrev pgE (K : PySem.W.Frag) (A dx : Addr) (t : List Nat) (c : Nat) (m : V) (k : List Nat) : HO := .ins (He.ga K "Page") dx [("alphabet", .ref A), ("text", .str (S t)), ("caret", .int c), ("mark", m), ("kept", .str (S k))]
abbrev pgf (A : Addr) (s : Pg) : List (Str × V) := [("alphabet", .ref A), ("text", .str (S s.t)), ("caret", .int s.c), ("mark", mkv s.m), ("kept", .str (S s.k))]
abbrev pgo (K : PySem.W.Frag) (A dx : Addr) (s : Pg) : HO := .ins (He.ga K "Page") dx (pgf A s)
abbrev ow (s : Pg) : HO := .lst [.str (S s.t), .int s.c, mkv s.m, .str (S s.k)]
abbrev alo (K : PySem.W.Frag) (dA : Addr) (l v : List Nat) : HO := .ins (He.ga K "Alphabet") dA (alf l v)
structure Pg.ok (s : Pg) (n : Nat) : Prop where
  le : s.c ≤ s.t.length
  mr : ∀ i, s.m = some i → i ≤ s.c ∧ s.c ≤ i + 2
  tl : s.t.length ≤ n
  kl : s.k.length ≤ 2
def Pg.rest (s : Pg) : List Nat := s.t.drop s.c
def Pg.pas (s : Pg) (n : Nat) : Pg := { s with c := s.c + n, m := match s.m with
  | some i => if i + 2 < s.c + n then none else some i
  | none => none }
def Pg.ins (s : Pg) (g : List Nat) : Pg := ({ s with t := s.t.take s.c ++ g ++ s.t.drop s.c } : Pg).pas g.length
def Pg.opn (s : Pg) : Bool := decide (s.c = 0) || decide (s.t[s.c - 1]? = some 45)
def Pg.hld (s : Pg) (i : Nat) : List Nat := (s.t.take s.c).drop i
abbrev PK : List Nat := [62, 120, 119, 94, 109, 107, 99, 112]
abbrev SK : List Nat := [39, 61, 47]
def KeyOk (key sg : List Nat) : Prop := (∃ h ∈ PK, key = [h]) ∨ ∃ h ∈ SK, ∃ s ∈ sg, key = [h, s]
def keyB (key sg : List Nat) : Bool := match key with
  | [h] => decide (h ∈ PK)
  | [h, s] => decide (h ∈ SK) && decide (s ∈ sg)
  | _ => false
theorem keyB_ok {key sg : List Nat} (h : KeyOk key sg) : keyB key sg = true := by
  rcases h with ⟨h, hm, rfl⟩ | ⟨h, hm, s, hs, rfl⟩
  · exact decide_eq_true hm
  · show (decide (h ∈ SK) && decide (s ∈ sg)) = true
    rw [decide_eq_true hm, decide_eq_true hs]; rfl
theorem keyB_inv {key sg : List Nat} (h : keyB key sg = true) : KeyOk key sg := by
  match key, h with
  | [a], h => exact .inl ⟨a, of_decide_eq_true h, rfl⟩
  | [a, b], h =>
    have h := Bool.and_eq_true_iff.mp h
    exact .inr ⟨a, of_decide_eq_true h.1, b, of_decide_eq_true h.2, rfl⟩
theorem key_len {key sg : List Nat} (h : KeyOk key sg) : key.length < 1000 := by
  rcases h with ⟨h, hm, rfl⟩ | ⟨h, hm, s, hs, rfl⟩ <;> exact Nat.le_of_ble_eq_true rfl
/-- a key's work -/
def stp (h : Nat) (g : List Nat) (s : Pg) : Bool × Pg :=
  if h = 109 then (true, { s with m := some s.c }) else
  if h = 39 then (true, s.ins g) else
  if h = 119 then (true, s.pas (bef 45 s.rest).length) else
  if h = 47 then (decide (g.headD 0 ∈ s.rest), s.pas (bef (g.headD 0) s.rest).length) else
  if h = 61 then (decide (s.rest.take 1 = g), s) else
  if h = 94 then (s.opn, s) else
  if h = 112 then (if s.k = [] then (false, s) else (true, s.ins s.k)) else
  if h = 62 then (if s.rest = [] then (false, s) else (true, s.pas 1)) else
  if h = 120 then (if s.rest = [] then (false, s) else (true, { s with t := s.t.take s.c ++ s.rest.drop 1 })) else
  match s.m with
  | none => (false, s)
  | some i => (true, if h = 99 then { s with k := s.hld i, t := s.t.take i ++ s.rest, c := i } else { s with k := s.hld i })
def stk (key : List Nat) (s : Pg) : Bool × Pg := stp (key.headD 0) (key.drop 1) s
theorem pas_pas (s : Pg) (n : Nat) : (s.pas n).pas 1 = s.pas (n + 1) := by
  obtain ⟨t, c, m, k⟩ := s
  cases m with
  | none => rfl
  | some i =>
    unfold Pg.pas
    dsimp only
    by_cases h : i + 2 < c + n
    · rw [if_pos h, if_pos (by omega)]; rfl
    · rw [if_neg h]
      dsimp only
      congr 1
theorem pas0 {s : Pg} {n : Nat} (h : s.ok n) : s.pas 0 = s := by
  obtain ⟨t, c, m, k⟩ := s
  cases m with
  | none => rfl
  | some i =>
    have h2 := (h.mr i rfl).2
    dsimp only at h2
    unfold Pg.pas
    dsimp only
    rw [if_neg (by omega)]
    rfl
theorem ins0 {s : Pg} {n : Nat} (h : s.ok n) : s.ins [] = s := by
  have e : ({ s with t := s.t.take s.c ++ [] ++ s.t.drop s.c } : Pg) = s := by
    rw [List.append_nil, List.take_append_drop]
  unfold Pg.ins
  rw [e]
  exact pas0 h
theorem ins_ins {s : Pg} {n : Nat} (h : s.ok n) (g : List Nat) (c : Nat) : ({ s.ins g with t := (s.ins g).t.take (s.ins g).c ++ [c] ++ (s.ins g).t.drop (s.ins g).c } : Pg).pas 1 = s.ins (g ++ [c]) := by
  obtain ⟨t, p, m, k⟩ := s
  have hp : p ≤ t.length := h.le
  have e1 : (t.take p ++ g ++ t.drop p).take (p + g.length) = t.take p ++ g := by
    rw [List.take_append_of_le_length (by rw [List.length_append, List.length_take]; omega), List.take_of_length_le (by rw [List.length_append, List.length_take]; omega)]
  have e2 : (t.take p ++ g ++ t.drop p).drop (p + g.length) = t.drop p := by
    have : p + g.length = (t.take p ++ g).length := by rw [List.length_append, List.length_take]; omega
    rw [this, List.drop_left]
  have e3 : ∀ m', ({ t := t.take p ++ g ++ [c] ++ t.drop p, c := p + g.length, m := m', k := k } : Pg) = { t := t.take p ++ (g ++ [c]) ++ t.drop p, c := p + g.length, m := m', k := k } := fun _ => by simp
  have e4 : (g ++ [c]).length = g.length + 1 := by simp
  have R : (⟨t, p, m, k⟩ : Pg).ins (g ++ [c]) = Pg.pas (Pg.pas ⟨t.take p ++ (g ++ [c]) ++ t.drop p, p, m, k⟩ g.length) 1 := by
    rw [pas_pas, ← e4]; rfl
  have L : (⟨t, p, m, k⟩ : Pg).ins g = ⟨t.take p ++ g ++ t.drop p, p + g.length, (Pg.pas ⟨t, p, m, k⟩ g.length).m, k⟩ := rfl
  rw [R, L]
  show Pg.pas ⟨(t.take p ++ g ++ t.drop p).take (p + g.length) ++ [c] ++ (t.take p ++ g ++ t.drop p).drop (p + g.length), p + g.length, _, k⟩ 1 = _
  rw [e1, e2, List.append_assoc (t.take p) g [c]]
  rfl
theorem bef_lt {w : Nat} : ∀ {r : List Nat} {n : Nat}, n < (bef w r).length → ∃ d, (r.drop n).take 1 = [d] ∧ d ≠ w
  | [], n, h => by simp [bef] at h
  | a :: r, n, h => by
    by_cases e : a = w
    · simp [bef, e] at h
    · have e2 : bef w (a :: r) = a :: bef w r := by simp [bef, e]
      rw [e2] at h
      cases n with
      | zero => exact ⟨a, rfl, e⟩
      | succ n => exact bef_lt (r := r) (n := n) (by simpa using h)
theorem bef_end {w : Nat} : ∀ {r : List Nat}, (r.drop (bef w r).length).take 1 = if w ∈ r then [w] else []
  | [] => rfl
  | a :: r => by
    by_cases e : a = w
    · subst e; simp [bef]
    · have e2 : bef w (a :: r) = a :: bef w r := by simp [bef, e]
      have e3 : ¬ w = a := fun z => e z.symm
      rw [e2]
      show (r.drop (bef w r).length).take 1 = _
      rw [bef_end]
      simp [e3]
theorem rest_pas (s : Pg) (n : Nat) : (s.pas n).rest = s.rest.drop n := by
  show s.t.drop (s.c + n) = (s.t.drop s.c).drop n
  rw [List.drop_drop]
theorem stk_m (s : Pg) : stk [109] s = (true, { s with m := some s.c }) := rfl
theorem stk_i (s : Pg) (g : Nat) : stk [39, g] s = (true, s.ins [g]) := rfl
theorem stk_w (s : Pg) : stk [119] s = (true, s.pas (bef 45 s.rest).length) := rfl
theorem stk_s (s : Pg) (g : Nat) : stk [47, g] s = (decide (g ∈ s.rest), s.pas (bef g s.rest).length) := rfl
theorem stk_e (s : Pg) (g : Nat) : stk [61, g] s = (decide (s.rest.take 1 = [g]), s) := rfl
theorem stk_o (s : Pg) : stk [94] s = (s.opn, s) := rfl
theorem stk_p (s : Pg) : stk [112] s = (if s.k = [] then (false, s) else (true, s.ins s.k)) := rfl
theorem stk_st (s : Pg) : stk [62] s = (if s.rest = [] then (false, s) else (true, s.pas 1)) := rfl
theorem stk_x (s : Pg) : stk [120] s = (if s.rest = [] then (false, s) else (true, { s with t := s.t.take s.c ++ s.rest.drop 1 })) := rfl
theorem stk_k0 (t : List Nat) (c : Nat) (k : List Nat) : stk [107] ⟨t, c, none, k⟩ = (false, ⟨t, c, none, k⟩) := rfl
theorem stk_c0 (t : List Nat) (c : Nat) (k : List Nat) : stk [99] ⟨t, c, none, k⟩ = (false, ⟨t, c, none, k⟩) := rfl
theorem stk_k1 (t : List Nat) (c i : Nat) (k : List Nat) : stk [107] ⟨t, c, some i, k⟩ = (true, ⟨t, c, some i, (t.take c).drop i⟩) := rfl
theorem stk_c1 (t : List Nat) (c i : Nat) (k : List Nat) : stk [99] ⟨t, c, some i, k⟩ = (true, ⟨t.take i ++ t.drop c, i, some i, (t.take c).drop i⟩) := rfl
theorem pas_ok {s : Pg} {n k : Nat} (h : s.ok n) (hk : s.c + k ≤ s.t.length) : (s.pas k).ok n := by
  obtain ⟨t, c, m, kp⟩ := s
  obtain ⟨h1, h2, h3, h4⟩ := h
  refine ⟨hk, fun i hi => ?_, h3, h4⟩
  cases m with
  | none => cases hi
  | some j =>
    have hj := h2 j rfl
    dsimp only at hj
    unfold Pg.pas at hi ⊢
    dsimp only at hi ⊢
    by_cases z : j + 2 < c + k
    · rw [if_pos z] at hi; cases hi
    · rw [if_neg z] at hi; cases hi; omega
theorem ins_ok {s : Pg} {n : Nat} {g : List Nat} (h : s.ok n) (hg : g.length ≤ 2) : (s.ins g).ok (n + 2) := by
  have hl := h.le
  have ht := h.tl
  have e : ({ s with t := s.t.take s.c ++ g ++ s.t.drop s.c } : Pg).t.length = s.t.length + g.length := by
    show (s.t.take s.c ++ g ++ s.t.drop s.c).length = _
    rw [List.length_append, List.length_append, List.length_take, List.length_drop]; omega
  refine pas_ok ⟨?_, h.mr, ?_, h.kl⟩ ?_
  · show s.c ≤ _; omega
  · omega
  · show s.c + g.length ≤ _; omega
theorem ok_mono {s : Pg} {n m : Nat} (h : s.ok n) (hm : n ≤ m) : s.ok m := ⟨h.le, h.mr, Nat.le_trans h.tl hm, h.kl⟩
theorem stk_ok {s : Pg} {n : Nat} {key g : List Nat} (h : s.ok n) (hk : KeyOk key g) : (stk key s).2.ok (n + 2) := by
  have h0 := ok_mono h (Nat.le_add_right n 2)
  have hp : ∀ c, (s.pas (bef c s.rest).length).ok (n + 2) := fun c => pas_ok h0 (by
    have := bef_le c s.rest
    have e : s.rest.length = s.t.length - s.c := List.length_drop
    have := h.le
    omega)
  have hne : ¬ s.rest = [] → s.c + 1 ≤ s.t.length := fun z => by
    have e : s.rest.length = s.t.length - s.c := List.length_drop
    have : 0 < s.rest.length := List.length_pos_iff.mpr z
    omega
  rcases hk with ⟨a, hm, rfl⟩ | ⟨a, hm, b, hb, rfl⟩
  · simp only [PK, List.mem_cons, List.not_mem_nil, or_false] at hm
    rcases hm with rfl | rfl | rfl | rfl | rfl | rfl | rfl | rfl
    · rw [stk_st]
      split
      · exact h0
      · rename_i z; exact pas_ok h0 (hne z)
    · rw [stk_x]
      split
      · exact h0
      · rename_i z
        have z := hne z
        have e : (s.t.take s.c ++ s.rest.drop 1).length = s.t.length - 1 := by
          show (s.t.take s.c ++ (s.t.drop s.c).drop 1).length = _
          rw [List.length_append, List.length_take, List.length_drop, List.length_drop]; omega
        have := h.tl
        exact ⟨by show s.c ≤ (s.t.take s.c ++ s.rest.drop 1).length; omega, h.mr, by show (s.t.take s.c ++ s.rest.drop 1).length ≤ _; omega, h.kl⟩
    · exact hp 45
    · exact h0
    · exact ⟨h.le, fun i hi => by cases hi; exact ⟨Nat.le_refl _, Nat.le_add_right _ _⟩, h0.tl, h.kl⟩
    · obtain ⟨t, c, m, k⟩ := s
      cases m with
      | none => exact h0
      | some i =>
        have := h.mr i rfl
        rw [stk_k1]
        exact ⟨h.le, h.mr, h0.tl, by show ((t.take c).drop i).length ≤ 2; rw [List.length_drop, List.length_take]; dsimp only at this; omega⟩
    · obtain ⟨t, c, m, k⟩ := s
      cases m with
      | none => exact h0
      | some i =>
        have hm := h.mr i rfl
        have hl := h.le
        have ht := h.tl
        dsimp only at hm hl ht
        rw [stk_c1]
        exact ⟨by show i ≤ (t.take i ++ t.drop c).length; rw [List.length_append, List.length_take]; omega, fun j hj => by cases hj; exact ⟨Nat.le_refl _, Nat.le_add_right _ _⟩, by show (t.take i ++ t.drop c).length ≤ n + 2; rw [List.length_append, List.length_take, List.length_drop]; omega, by show ((t.take c).drop i).length ≤ 2; rw [List.length_drop, List.length_take]; omega⟩
    · rw [stk_p]
      split
      · exact h0
      · exact ins_ok h h.kl
  · simp only [SK, List.mem_cons, List.not_mem_nil, or_false] at hm
    rcases hm with rfl | rfl | rfl
    · exact ins_ok h (by simp)
    · exact h0
    · exact hp b
theorem al_pg {K : PySem.W.Frag} {A dA dx : Addr} {l v : List Nat} {s : Pg} : alo K dA l v ≠ pgo K A dx s := by
  intro z; injection z with _ _ h; have := congrArg List.length h; simp [alf] at this
theorem ins_keep {t k g : List Nat} {c i : Nat} (h : ¬ i + 2 < c + g.length) : (⟨t, c, some i, k⟩ : Pg).ins g = ⟨t.take c ++ g ++ t.drop c, c + g.length, some i, k⟩ := by
  unfold Pg.ins Pg.pas; dsimp only; rw [if_neg h]
theorem ins_drop {t k g : List Nat} {c i : Nat} (h : i + 2 < c + g.length) : (⟨t, c, some i, k⟩ : Pg).ins g = ⟨t.take c ++ g ++ t.drop c, c + g.length, none, k⟩ := by
  unfold Pg.ins Pg.pas; dsimp only; rw [if_pos h]
theorem ins_non {t k g : List Nat} {c : Nat} : (⟨t, c, none, k⟩ : Pg).ins g = ⟨t.take c ++ g ++ t.drop c, c + g.length, none, k⟩ := rfl
theorem lt_ok {s : Pg} {n : Nat} (h : s.ok n) (hn : n < 1000) : s.t.length < 1000 := Nat.lt_of_le_of_lt h.tl hn
def chs : List Nat := [32, 33, 34, 35, 36, 38, 39, 40, 41, 42, 43, 44, 45, 46, 47, 48, 49, 50, 51, 52, 53, 54, 55, 56, 57, 58, 59, 60, 61, 62, 63, 64, 65, 66, 67, 68, 69, 70, 71, 72, 73, 74, 75, 76, 77, 78, 79, 80, 81, 82, 83, 84, 85, 86, 87, 88, 89, 90, 91, 92, 93, 94, 95, 96, 97, 98, 99, 100, 101, 102, 103, 104, 105, 106, 107, 108, 109, 110, 111, 112, 113, 114, 115, 116, 117, 118, 119, 120, 121, 122, 123, 124, 125, 126]
abbrev ksl (ks : List (List Nat)) : HO := .lst (ks.map fun k => V.str (S k))
theorem ah_map (ks : List (List Nat)) (k : List Nat) : (ks.map fun k => V.str (S k)) ++ [.str (S k)] = (ks ++ [k]).map fun k => V.str (S k) := by rw [List.map_append]; rfl

/-! Alphabet_is_text -/
abbrev s_Alphabet_is_text : Stmt := inClass (top 13) 6
theorem sc_Alphabet_is_text : FnScope ["self", "text", "sign"] ["self", "text"] (defScope s_Alphabet_is_text) := ⟨rfl, rfl, rfl, by decide +kernel, rfl, by decide +kernel, by decide +kernel⟩
structure sp_Alphabet_is_text (K : PySem.W.Frag) (vs : List V) (H : Hp) (Q : VK) (E : XK) : Prop where
  out : ∃ (A dA : Addr) (l v t : List Nat), vs = [.ref A, .str (S t)] ∧ H A = some (alo K dA l v) ∧ Q (.bl (t.all fun c => decide (c ∈ 45 :: srt l))) H
theorem i_Alphabet_is_text {K : PySem.W.Frag} {A dA : Addr} {l v t : List Nat} {H : Hp} {Q : VK} {E : XK} (hA : H A = some (alo K dA l v)) (q : Q (.bl (t.all fun c => decide (c ∈ 45 :: srt l))) H) : sp_Alphabet_is_text K [.ref A, .str (S t)] H Q E := by
  exact ⟨⟨A, dA, l, v, t, rfl, hA, q⟩⟩

def b_Alphabet_is_text_1 (K : PySem.W.Frag) (W : WX) : TS :=
  (tIfP (tTst (tOp (zNinP K) (tV 2) (tAt K (tV 0) "signs"))) (tRet (tC (.bl false))) tNext)
def t_Alphabet_is_text (K : PySem.W.Frag) (W : WX) : TS :=
  (tSeq (tForP (jA K (tV 1)) (gName 2) (b_Alphabet_is_text_1 K W))
  (tRet (tC (.bl true))))
theorem tm_Alphabet_is_text {P : Program} {w : World} {K : PySem.W.Frag} {mg : Str → Option Value} {base : Heap} {f : Addr} {cdv : Value} {A : Around} {outer : List Env} {s : Shared} {H : Hp} {E : XK} (T : Tx K mg) (hr : Room 4 (A.deeper (envOfC "Alphabet.is_text" (defScope s_Alphabet_is_text) s.heap.objs.size f cdv))) :
    PSs (cxOf (L2.CX P w) P w K mg base ["self", "text", "sign"] "Alphabet.is_text" (defScope s_Alphabet_is_text) f cdv A outer s H E) (defBody s_Alphabet_is_text) (t_Alphabet_is_text K (WD E)) :=
  (pss_cons (psfor ownD rfl (pja (Ta.pv 1)) (pgn 2 sc_Alphabet_is_text.nd) (pss_one (psif (ptcmp opnin (Ta.pv 2) (patt (Ta.pv 0))) (pss_one (ps_ret pe_bl)) pss_nil)))
  (pss_one (ps_ret pe_bl)))
/-! Alphabet_check -/
abbrev s_Alphabet_check : Stmt := inClass (top 13) 7
theorem sc_Alphabet_check : FnScope ["self", "text"] ["self", "text"] (defScope s_Alphabet_check) := ⟨rfl, rfl, rfl, by decide +kernel, rfl, by decide +kernel, by decide +kernel⟩
structure sp_Alphabet_check (K : PySem.W.Frag) (vs : List V) (H : Hp) (Q : VK) (E : XK) : Prop where
  out : ∃ (A dA : Addr) (l v t : List Nat), vs = [.ref A, .str (S t)] ∧ H A = some (alo K dA l v) ∧ (∀ c ∈ t, c ∈ 45 :: srt l) ∧ Q .non H
theorem i_Alphabet_check {K : PySem.W.Frag} {A dA : Addr} {l v t : List Nat} {H : Hp} {Q : VK} {E : XK} (hA : H A = some (alo K dA l v)) (ht : ∀ c ∈ t, c ∈ 45 :: srt l) (q : Q .non H) : sp_Alphabet_check K [.ref A, .str (S t)] H Q E := by
  exact ⟨⟨A, dA, l, v, t, rfl, hA, ht, q⟩⟩

def t_Alphabet_check (K : PySem.W.Frag) (W : WX) : TS :=
  (tIfP (tNot (tTru K (tMe [(He.ga K "Alphabet", [], sp_Alphabet_is_text K)] "is_text" W (tV 0) (tCons (tV 1) tNil)))) (tRs (He.ga K "BadText") ["text"] W (tCons (tV 1) tNil)) tNext)
theorem tm_Alphabet_check {P : Program} {w : World} {K : PySem.W.Frag} {mg : Str → Option Value} {base : Heap} {f : Addr} {cdv : Value} {A : Around} {outer : List Env} {s : Shared} {H : Hp} {E : XK} (T : Tx K mg) (G_Alphabet_is_text : Me P w K mg base (He.ga K "Alphabet") "is_text" 5 [] (sp_Alphabet_is_text K)) (X_BadText : Ex P w K mg base "BadText" (He.ga K "BadText") ["text"]) (hr : Room 6 (A.deeper (envOfC "Alphabet.check" (defScope s_Alphabet_check) s.heap.objs.size f cdv))) :
    PSs (cxOf (L2.CX P w) P w K mg base ["self", "text"] "Alphabet.check" (defScope s_Alphabet_check) f cdv A outer s H E) (defBody s_Alphabet_check) (t_Alphabet_check K (WD E)) :=
  (pss_one (psif (pt_not (ptru (pmeth (ms := [(He.ga K "Alphabet", [], sp_Alphabet_is_text K)]) (fun e he => by obtain rfl := List.mem_singleton.mp he; exact G_Alphabet_is_text) (hr.mono (by decide)) takesD (Ta.pv 0) (pa_cons (Ta.pv 1) pa_nil)))) (pss_one (praise X_BadText (hr.mono (by decide)) takesD (pa_cons (Ta.pv 1) pa_nil))) pss_nil))
/-! Page___init__ -/
abbrev s_Page_init : Stmt := inClass (top 16) 0
theorem sc_Page_init : FnScope ["self", "alphabet", "text"] ["self", "alphabet", "text"] (defScope s_Page_init) := ⟨rfl, rfl, rfl, by decide +kernel, rfl, by decide +kernel, by decide +kernel⟩
structure sp_Page_init (K : PySem.W.Frag) (vs : List V) (H : Hp) (Q : VK) (E : XK) : Prop where
  out : ∃ (x dx A dA : Addr) (l v t : List Nat), vs = [.ref x, .ref A, .str (S t)] ∧ H x = some (.ins (He.ga K "Page") dx []) ∧ H A = some (alo K dA l v) ∧ (∀ c ∈ t, c ∈ 45 :: srt l) ∧ ∀ H', Kp [x] H H' → H' x = some (pgo K A dx ⟨t, 0, none, []⟩) → Q .non H'
theorem i_Page_init {K : PySem.W.Frag} {x dx A dA : Addr} {l v t : List Nat} {H : Hp} {Q : VK} {E : XK} (hx : H x = some (.ins (He.ga K "Page") dx [])) (hA : H A = some (alo K dA l v)) (ht : ∀ c ∈ t, c ∈ 45 :: srt l) (q : ∀ H', Kp [x] H H' → H' x = some (pgo K A dx ⟨t, 0, none, []⟩) → Q .non H') : sp_Page_init K [.ref x, .ref A, .str (S t)] H Q E := by
  exact ⟨⟨x, dx, A, dA, l, v, t, rfl, hx, hA, ht, q⟩⟩

def t_Page_init (K : PySem.W.Frag) (W : WX) : TS :=
  (tSeq (tDrop (tMe [(He.ga K "Alphabet", [], sp_Alphabet_check K)] "check" W (tV 1) (tCons (tV 2) tNil)))
  (tSeq (sAt K (tV 0) (tV 1) "alphabet")
  (tSeq (sAt K (tV 0) (tV 2) "text")
  (tSeq (sAt K (tV 0) (tC (.int 0)) "caret")
  (tSeq (sAt K (tV 0) (tC .non) "mark")
  (sAt K (tV 0) (tC (.str (S []))) "kept"))))))
theorem tm_Page_init {P : Program} {w : World} {K : PySem.W.Frag} {mg : Str → Option Value} {base : Heap} {f : Addr} {cdv : Value} {A : Around} {outer : List Env} {s : Shared} {H : Hp} {E : XK} (T : Tx K mg) (G_Alphabet_check : Me P w K mg base (He.ga K "Alphabet") "check" 7 [] (sp_Alphabet_check K)) (hr : Room 8 (A.deeper (envOfC "Page.__init__" (defScope s_Page_init) s.heap.objs.size f cdv))) :
    PSs (cxOf (L2.CX P w) P w K mg base ["self", "alphabet", "text"] "Page.__init__" (defScope s_Page_init) f cdv A outer s H E) (defBody s_Page_init) (t_Page_init K (WD E)) :=
  (pss_cons (ps_expr (pmeth (ms := [(He.ga K "Alphabet", [], sp_Alphabet_check K)]) (fun e he => by obtain rfl := List.mem_singleton.mp he; exact G_Alphabet_check) (hr.mono (by decide)) takesD (Ta.pv 1) (pa_cons (Ta.pv 2) pa_nil)))
  (pss_cons (psat (Ta.pv 0) (Ta.pv 1))
  (pss_cons (psat (Ta.pv 0) (Ta.pv 2))
  (pss_cons (psat (Ta.pv 0) pe_int)
  (pss_cons (psat (Ta.pv 0) pe_non)
  (pss_one (psat (Ta.pv 0) (pstr []))))))))
/-! _law_ahead -/
abbrev s_l_ahead : Stmt := top 31
theorem sc_l_ahead : FnScope ["_law_caret", "_law_back", "_law_hold", "_law_row", "_law_at"] ["_law_caret", "_law_back", "_law_hold"] (defScope s_l_ahead) := ⟨rfl, rfl, rfl, by decide +kernel, rfl, by decide +kernel, by decide +kernel⟩
structure sp_l_ahead (K : PySem.W.Frag) (vs : List V) (H : Hp) (Q : VK) (E : XK) : Prop where
  out : ∃ (a b c : Int), vs = [.int a, .int b, .int c] ∧ 0 ≤ a ∧ a ≤ 61 ∧ ∀ p ks H', Kp [] H H' → H p = none → H' p = some (ksl ks) → ks.length ≤ 190 → (∀ k ∈ ks, ∀ sg, KeyOk k sg) → Q (.ref p) H'
theorem i_l_ahead {K : PySem.W.Frag} {a b c : Int} {H : Hp} {Q : VK} {E : XK} (h0 : 0 ≤ a) (h1 : a ≤ 61) (q : ∀ p ks H', Kp [] H H' → H p = none → H' p = some (ksl ks) → ks.length ≤ 190 → (∀ k ∈ ks, ∀ sg, KeyOk k sg) → Q (.ref p) H') : sp_l_ahead K [.int a, .int b, .int c] H Q E := by
  exact ⟨⟨a, b, c, rfl, h0, h1, q⟩⟩

def b_l_ahead_1 (K : PySem.W.Frag) (W : WX) : TS :=
  (tSeq (tIfP (tTst (tOp (zEqP K) (tOp zAdd (tV 4) (tV 1)) (tV 0))) (tDrop (tLM zAppP (tV 3) (tCons (tC (.str (S [109]))) tNil))) tNext)
  (tSeq (tIfP (tTst (tOp (zEqP K) (tOp zAdd (tV 4) (tV 2)) (tV 0))) (tDrop (tLM zAppP (tV 3) (tCons (tC (.str (S [107]))) tNil))) tNext)
  (tIfP (tTst (tOp zLt (tV 4) (tV 0))) (tDrop (tLM zAppP (tV 3) (tCons (tC (.str (S [62]))) tNil))) tNext)))
def t_l_ahead (K : PySem.W.Frag) (W : WX) : TS :=
  (tSeq (tAsg (tLst tNil) (gName 3))
  (tSeq (tForP (jR1 (tCons (tOp zAdd (tV 0) (tC (.int 1))) tNil)) (gName 4) (b_l_ahead_1 K W))
  (tRet (tV 3))))
theorem tm_l_ahead {P : Program} {w : World} {K : PySem.W.Frag} {mg : Str → Option Value} {base : Heap} {f : Addr} {cdv : Value} {A : Around} {outer : List Env} {s : Shared} {H : Hp} {E : XK} (T : Tx K mg) (hr : Room 4 (A.deeper (envOfC "_law_ahead" (defScope s_l_ahead) s.heap.objs.size f cdv))) :
    PSs (cxOf (L2.CX P w) P w K mg base ["_law_caret", "_law_back", "_law_hold", "_law_row", "_law_at"] "_law_ahead" (defScope s_l_ahead) f cdv A outer s H E) (defBody s_l_ahead) (t_l_ahead K (WD E)) :=
  (pss_cons (pset 3 sc_l_ahead.nd (pe_lst pa_nil))
  (pss_cons (psfor ownD rfl (pjr1 T.f_range (pa_cons (pe_op opadd (Ta.pv 0) pe_int) pa_nil)) (pgn 4 sc_l_ahead.nd) (pss_cons (psif (ptcmp (opeq hr.units) (pe_op opadd (Ta.pv 4) (Ta.pv 1)) (Ta.pv 0)) (pss_one (ps_expr (plm PySem.F.slot_list_append PySem.F.type_list_append mtapp (Ta.pv 3) (pa_cons (pstr [109]) pa_nil)))) pss_nil)
  (pss_cons (psif (ptcmp (opeq hr.units) (pe_op opadd (Ta.pv 4) (Ta.pv 2)) (Ta.pv 0)) (pss_one (ps_expr (plm PySem.F.slot_list_append PySem.F.type_list_append mtapp (Ta.pv 3) (pa_cons (pstr [107]) pa_nil)))) pss_nil)
  (pss_one (psif (ptcmp oplt (Ta.pv 4) (Ta.pv 0)) (pss_one (ps_expr (plm PySem.F.slot_list_append PySem.F.type_list_append mtapp (Ta.pv 3) (pa_cons (pstr [62]) pa_nil)))) pss_nil)))))
  (pss_one (ps_ret (Ta.pv 3)))))
/-! _law_keys -/
abbrev s_l_keys : Stmt := top 30
theorem sc_l_keys : FnScope ["_law_signs", "_law_keys_here", "_law_sign"] ["_law_signs"] (defScope s_l_keys) := ⟨rfl, rfl, rfl, by decide +kernel, rfl, by decide +kernel, by decide +kernel⟩
structure sp_l_keys (K : PySem.W.Frag) (vs : List V) (H : Hp) (Q : VK) (E : XK) : Prop where
  out : ∃ (sg : List Nat), vs = [.str (S sg)] ∧ sg.length ≤ 5 ∧ ∀ p ks H', Kp [] H H' → H p = none → H' p = some (ksl ks) → (∀ k ∈ ks, KeyOk k sg) → Q (.ref p) H'
theorem i_l_keys {K : PySem.W.Frag} {sg : List Nat} {H : Hp} {Q : VK} {E : XK} (h1 : sg.length ≤ 5) (q : ∀ p ks H', Kp [] H H' → H p = none → H' p = some (ksl ks) → (∀ k ∈ ks, KeyOk k sg) → Q (.ref p) H') : sp_l_keys K [.str (S sg)] H Q E := by
  exact ⟨⟨sg, rfl, h1, q⟩⟩

def b_l_keys_1 (K : PySem.W.Frag) (W : WX) : TS :=
  (tAsg (tOp zAdd (tV 1) (tLst (tCons (tOp zAdd (tC (.str (S [39]))) (tV 2)) (tCons (tOp zAdd (tC (.str (S [61]))) (tV 2)) (tCons (tOp zAdd (tC (.str (S [47]))) (tV 2)) tNil))))) (gName 1))
def t_l_keys (K : PySem.W.Frag) (W : WX) : TS :=
  (tSeq (tAsg (tCB (zListX K) (tCons (tC (.str (S [62, 120, 119, 94, 109, 107, 99, 112]))) tNil)) (gName 1))
  (tSeq (tForP (jA K (tV 0)) (gName 2) (b_l_keys_1 K W))
  (tRet (tV 1))))
theorem tm_l_keys {P : Program} {w : World} {K : PySem.W.Frag} {mg : Str → Option Value} {base : Heap} {f : Addr} {cdv : Value} {A : Around} {outer : List Env} {s : Shared} {H : Hp} {E : XK} (T : Tx K mg) (hr : Room 4 (A.deeper (envOfC "_law_keys" (defScope s_l_keys) s.heap.objs.size f cdv))) :
    PSs (cxOf (L2.CX P w) P w K mg base ["_law_signs", "_law_keys_here", "_law_sign"] "_law_keys" (defScope s_l_keys) f cdv A outer s H E) (defBody s_l_keys) (t_l_keys K (WD E)) :=
  (pss_cons (pset 1 sc_l_keys.nd (pct (crlistX rfl) T.f_list (pa_cons (pstr [62, 120, 119, 94, 109, 107, 99, 112]) pa_nil)))
  (pss_cons (psfor ownD rfl (pja (Ta.pv 0)) (pgn 2 sc_l_keys.nd) (pss_one (pset 1 sc_l_keys.nd (pe_op opadd (Ta.pv 1) (pe_lst (pa_cons (pe_op opadd (pstr [39]) (Ta.pv 2)) (pa_cons (pe_op opadd (pstr [61]) (Ta.pv 2)) (pa_cons (pe_op opadd (pstr [47]) (Ta.pv 2)) pa_nil))))))))
  (pss_one (ps_ret (Ta.pv 1)))))
/-! _law_whole -/
abbrev s_l_whole : Stmt := top 20
theorem sc_l_whole : FnScope ["_law_told", "_law_due"] ["_law_told", "_law_due"] (defScope s_l_whole) := ⟨rfl, rfl, rfl, by decide +kernel, rfl, by decide +kernel, by decide +kernel⟩
structure sp_l_whole (K : PySem.W.Frag) (vs : List V) (H : Hp) (Q : VK) (E : XK) : Prop where
  out : ∃ a : Int, vs = [.int a, .int a] ∧ Q (.bl true) H
theorem i_l_whole {K : PySem.W.Frag} {a b : Int} {H : Hp} {Q : VK} {E : XK} (h : a = b) (q : Q (.bl true) H) : sp_l_whole K [.int a, .int b] H Q E := by
  subst h; exact ⟨⟨a, rfl, q⟩⟩

def t_l_whole (K : PySem.W.Frag) (W : WX) : TS :=
  (tRet (tAndE K (tCB (zIsa K) (tCons (tV 0) (tCons (tC (.ty "int")) tNil))) (tAndE K (tNotE K (tCB (zIsa K) (tCons (tV 0) (tCons (tC (.ty "bool")) tNil)))) (tOp (zEqP K) (tV 0) (tV 1)))))
theorem tm_l_whole {P : Program} {w : World} {K : PySem.W.Frag} {mg : Str → Option Value} {base : Heap} {f : Addr} {cdv : Value} {A : Around} {outer : List Env} {s : Shared} {H : Hp} {E : XK} (T : Tx K mg) (hr : Room 4 (A.deeper (envOfC "_law_whole" (defScope s_l_whole) s.heap.objs.size f cdv))) :
    PSs (cxOf (L2.CX P w) P w K mg base ["_law_told", "_law_due"] "_law_whole" (defScope s_l_whole) f cdv A outer s H E) (defBody s_l_whole) (t_l_whole K (WD E)) :=
  (pss_one (ps_ret (peand (pcb (crisa) T.f_isinstance (pa_cons (Ta.pv 0) (pa_cons (pbty T.f_int) pa_nil))) (peand (penot (pcb (crisa) T.f_isinstance (pa_cons (Ta.pv 0) (pa_cons (pbty T.f_bool) pa_nil)))) (pe_one (pe_cmpR (opeq hr.units) (Ta.pv 0) (Ta.pv 1) rfl))))))
/-! Page_held -/
abbrev s_Page_held : Stmt := inClass (top 16) 1
theorem sc_Page_held : FnScope ["self"] ["self"] (defScope s_Page_held) := ⟨rfl, rfl, rfl, by decide +kernel, rfl, by decide +kernel, by decide +kernel⟩
structure sp_Page_held (K : PySem.W.Frag) (vs : List V) (H : Hp) (Q : VK) (E : XK) : Prop where
  out : ∃ (x dx A : Addr) (s : Pg), vs = [.ref x] ∧ H x = some (pgo K A dx s) ∧ s.t.length < 1000 ∧ Q (match s.m with | none => .non | some i => .str (S (s.hld i))) H
theorem i_Page_held {K : PySem.W.Frag} {x dx A : Addr} {s : Pg} {H : Hp} {Q : VK} {E : XK} (hx : H x = some (pgo K A dx s)) (hl : s.t.length < 1000) (q : Q (match s.m with | none => .non | some i => .str (S (s.hld i))) H) : sp_Page_held K [.ref x] H Q E := by
  exact ⟨⟨x, dx, A, s, rfl, hx, hl, q⟩⟩

def t_Page_held (K : PySem.W.Frag) (W : WX) : TS :=
  (tSeq (tIfP (tTst (tOp zIsB (tAt K (tV 0) "mark") (tC .non))) (tRet (tC .non)) tNext)
  (tRet (tSl (zSlP K) (tAt K (tV 0) "text") (tPrt (tAt K (tV 0) "mark")) (tPrt (tAt K (tV 0) "caret")))))
theorem tm_Page_held {P : Program} {w : World} {K : PySem.W.Frag} {mg : Str → Option Value} {base : Heap} {f : Addr} {cdv : Value} {A : Around} {outer : List Env} {s : Shared} {H : Hp} {E : XK} (T : Tx K mg) (hr : Room 4 (A.deeper (envOfC "Page.held" (defScope s_Page_held) s.heap.objs.size f cdv))) :
    PSs (cxOf (L2.CX P w) P w K mg base ["self"] "Page.held" (defScope s_Page_held) f cdv A outer s H E) (defBody s_Page_held) (t_Page_held K (WD E)) :=
  (pss_cons (psif (ptcmp opisb (patt (Ta.pv 0)) pe_non) (pss_one (ps_ret pe_non)) pss_nil)
  (pss_one (ps_ret (psl (patt (Ta.pv 0)) (posome (patt (Ta.pv 0))) (posome (patt (Ta.pv 0)))))))
/-! _law_same -/
abbrev s_l_same : Stmt := top 28
theorem sc_l_same : FnScope ["_law_page", "_law_own"] ["_law_page", "_law_own"] (defScope s_l_same) := ⟨rfl, rfl, rfl, by decide +kernel, rfl, by decide +kernel, by decide +kernel⟩
structure sp_l_same (K : PySem.W.Frag) (vs : List V) (H : Hp) (Q : VK) (E : XK) : Prop where
  out : ∃ (x dx A o : Addr) (s : Pg), vs = [.ref x, .ref o] ∧ H x = some (pgo K A dx s) ∧ H o = some (ow s) ∧ s.t.length < 1000 ∧ Q (.bl true) H
theorem i_l_same {K : PySem.W.Frag} {x dx A o : Addr} {s : Pg} {H : Hp} {Q : VK} {E : XK} (hx : H x = some (pgo K A dx s)) (ho : H o = some (ow s)) (hl : s.t.length < 1000) (q : Q (.bl true) H) : sp_l_same K [.ref x, .ref o] H Q E := by
  exact ⟨⟨x, dx, A, o, s, rfl, hx, ho, hl, q⟩⟩

def t_l_same (K : PySem.W.Frag) (W : WX) : TS :=
  (tSeq (tIfP (tOrP (tNot (tTru K (tCB (zIsa K) (tCons (tAt K (tV 0) "text") (tCons (tC (.ty "str")) tNil))))) (tOrP (tTst (tOp (zNeP K) (tAt K (tV 0) "text") (tOp (zIxP K) (tV 1) (tC (.int 0))))) (tNot (tTru K (tCal (sp_l_whole K) [] W (tCons (tAt K (tV 0) "caret") (tCons (tOp (zIxP K) (tV 1) (tC (.int 1))) tNil))))))) (tRet (tC (.bl false))) tNext)
  (tSeq (tIfP (tOrP (tNot (tTru K (tCB (zIsa K) (tCons (tAt K (tV 0) "kept") (tCons (tC (.ty "str")) tNil))))) (tTst (tOp (zNeP K) (tAt K (tV 0) "kept") (tOp (zIxP K) (tV 1) (tC (.int 3)))))) (tRet (tC (.bl false))) tNext)
  (tSeq (tIfP (tTst (tOp zIsB (tOp (zIxP K) (tV 1) (tC (.int 2))) (tC .non))) (tRet (tAndE K (tOp zIsB (tAt K (tV 0) "mark") (tC .non)) (tOp zIsB (tPrp (He.ga K "Page") (sp_Page_held K) (tV 0)) (tC .non)))) tNext)
  (tSeq (tIfP (tOrP (tNot (tTru K (tCal (sp_l_whole K) [] W (tCons (tAt K (tV 0) "mark") (tCons (tOp (zIxP K) (tV 1) (tC (.int 2))) tNil))))) (tNot (tTru K (tCB (zIsa K) (tCons (tPrp (He.ga K "Page") (sp_Page_held K) (tV 0)) (tCons (tC (.ty "str")) tNil)))))) (tRet (tC (.bl false))) tNext)
  (tRet (tOp (zEqP K) (tPrp (He.ga K "Page") (sp_Page_held K) (tV 0)) (tSl (zSlP K) (tOp (zIxP K) (tV 1) (tC (.int 0))) (tPrt (tOp (zIxP K) (tV 1) (tC (.int 2)))) (tPrt (tOp (zIxP K) (tV 1) (tC (.int 1)))))))))))
theorem tm_l_same {P : Program} {w : World} {K : PySem.W.Frag} {mg : Str → Option Value} {base : Heap} {f : Addr} {cdv : Value} {A : Around} {outer : List Env} {s : Shared} {H : Hp} {E : XK} (T : Tx K mg) (G_Page_held : Pr P w K mg base (He.ga K "Page") "held" 5 (sp_Page_held K)) (G_l_whole : Fn P w K mg base "_law_whole" 5 [] (sp_l_whole K)) (hr : Room 6 (A.deeper (envOfC "_law_same" (defScope s_l_same) s.heap.objs.size f cdv))) :
    PSs (cxOf (L2.CX P w) P w K mg base ["_law_page", "_law_own"] "_law_same" (defScope s_l_same) f cdv A outer s H E) (defBody s_l_same) (t_l_same K (WD E)) :=
  (pss_cons (psif (PW.pt (pwor (pt_not (ptru (pcb (crisa) T.f_isinstance (pa_cons (patt (Ta.pv 0)) (pa_cons (pbty T.f_str) pa_nil))))) (pwor (ptcmp (opne hr.units) (patt (Ta.pv 0)) (pix (Ta.pv 1) pe_int)) (pw_or1 (pt_not (ptru (pcall G_l_whole (hr.mono (by decide)) takesD (pa_cons (patt (Ta.pv 0)) (pa_cons (pix (Ta.pv 1) pe_int) pa_nil))))))))) (pss_one (ps_ret pe_bl)) pss_nil)
  (pss_cons (psif (PW.pt (pwor (pt_not (ptru (pcb (crisa) T.f_isinstance (pa_cons (patt (Ta.pv 0)) (pa_cons (pbty T.f_str) pa_nil))))) (pw_or1 (ptcmp (opne hr.units) (patt (Ta.pv 0)) (pix (Ta.pv 1) pe_int))))) (pss_one (ps_ret pe_bl)) pss_nil)
  (pss_cons (psif (ptcmp opisb (pix (Ta.pv 1) pe_int) pe_non) (pss_one (ps_ret (peand (pe_cmpR opisb (patt (Ta.pv 0)) pe_non rfl) (pe_one (pe_cmpR opisb (pprp G_Page_held (hr.mono (by decide)) (Ta.pv 0)) pe_non rfl))))) pss_nil)
  (pss_cons (psif (PW.pt (pwor (pt_not (ptru (pcall G_l_whole (hr.mono (by decide)) takesD (pa_cons (patt (Ta.pv 0)) (pa_cons (pix (Ta.pv 1) pe_int) pa_nil))))) (pw_or1 (pt_not (ptru (pcb (crisa) T.f_isinstance (pa_cons (pprp G_Page_held (hr.mono (by decide)) (Ta.pv 0)) (pa_cons (pbty T.f_str) pa_nil)))))))) (pss_one (ps_ret pe_bl)) pss_nil)
  (pss_one (ps_ret (pe_cmpR (opeq hr.units) (pprp G_Page_held (hr.mono (by decide)) (Ta.pv 0)) (psl (pix (Ta.pv 1) pe_int) (posome (pix (Ta.pv 1) pe_int)) (posome (pix (Ta.pv 1) pe_int))) rfl)))))))
/-! Alphabet___eq__ -/
abbrev s_Alphabet_eq : Stmt := inClass (top 13) 3
theorem sc_Alphabet_eq : FnScope ["self", "other"] ["self", "other"] (defScope s_Alphabet_eq) := ⟨rfl, rfl, rfl, by decide +kernel, rfl, by decide +kernel, by decide +kernel⟩
structure sp_Alphabet_eq (K : PySem.W.Frag) (vs : List V) (H : Hp) (Q : VK) (E : XK) : Prop where
  out : ∃ a b dx dy l v m u, vs = [.ref a, .ref b] ∧ H a = some (.ins (He.ga K "Alphabet") dx (alf l v)) ∧ H b = some (.ins (He.ga K "Alphabet") dy (alf m u)) ∧ Q (.bl (decide (srt l = srt m) && decide (srt v = srt u))) H
theorem i_Alphabet_eq {K : PySem.W.Frag} {a b dx dy : Addr} {l v m u : List Nat} {H : Hp} {Q : VK} {E : XK} (ha : H a = some (.ins (He.ga K "Alphabet") dx (alf l v))) (hb : H b = some (.ins (He.ga K "Alphabet") dy (alf m u))) (q : Q (.bl (decide (srt l = srt m) && decide (srt v = srt u))) H) : sp_Alphabet_eq K [.ref a, .ref b] H Q E := by
  exact ⟨⟨a, b, dx, dy, l, v, m, u, rfl, ha, hb, q⟩⟩
theorem i_Alphabet_eqS {K : PySem.W.Frag} {a dx : Addr} {l v : List Nat} {H : Hp} {Q : VK} {E : XK} (ha : H a = some (.ins (He.ga K "Alphabet") dx (alf l v))) (q : Q (.bl true) H) : sp_Alphabet_eq K [.ref a, .ref a] H Q E :=
  i_Alphabet_eq ha ha (by rw [decide_eq_true rfl, decide_eq_true rfl]; exact q)

def t_Alphabet_eq (K : PySem.W.Frag) (W : WX) : TS :=
  (tRet (tAndE K (tCB (zIsa K) (tCons (tV 1) (tCons (tC (.ref (He.ga K "Alphabet"))) tNil))) (tAndE K (tOp (zEqP K) (tAt K (tV 0) "letters") (tAt K (tV 1) "letters")) (tOp (zEqP K) (tAt K (tV 0) "vowels") (tAt K (tV 1) "vowels")))))
theorem tm_Alphabet_eq {P : Program} {w : World} {K : PySem.W.Frag} {mg : Str → Option Value} {base : Heap} {f : Addr} {cdv : Value} {A : Around} {outer : List Env} {s : Shared} {H : Hp} {E : XK} (T : Tx K mg) (hr : Room 4 (A.deeper (envOfC "Alphabet.__eq__" (defScope s_Alphabet_eq) s.heap.objs.size f cdv))) :
    PSs (cxOf (L2.CX P w) P w K mg base ["self", "other"] "Alphabet.__eq__" (defScope s_Alphabet_eq) f cdv A outer s H E) (defBody s_Alphabet_eq) (t_Alphabet_eq K (WD E)) :=
  (pss_one (ps_ret (peand (pcb (crisa) T.f_isinstance (pa_cons (Ta.pv 1) (pa_cons (pglo T.v_Alphabet) pa_nil))) (peand (pe_cmpR (opeq hr.units) (patt (Ta.pv 0)) (patt (Ta.pv 1)) rfl) (pe_one (pe_cmpR (opeq hr.units) (patt (Ta.pv 0)) (patt (Ta.pv 1)) rfl))))))
/-! is_key -/
abbrev s_is_key : Stmt := top 9
theorem sc_is_key : FnScope ["alphabet", "key"] ["alphabet", "key"] (defScope s_is_key) := ⟨rfl, rfl, rfl, by decide +kernel, rfl, by decide +kernel, by decide +kernel⟩
structure sp_is_key (K : PySem.W.Frag) (vs : List V) (H : Hp) (Q : VK) (E : XK) : Prop where
  out : ∃ (A dA : Addr) (l v key : List Nat), vs = [.ref A, .str (S key)] ∧ H A = some (alo K dA l v) ∧ key.length < 1000 ∧ Q (.bl (keyB key (45 :: srt l))) H
theorem i_is_key {K : PySem.W.Frag} {A dA : Addr} {l v key : List Nat} {H : Hp} {Q : VK} {E : XK} (hA : H A = some (alo K dA l v)) (hk : KeyOk key (45 :: srt l)) (q : Q (.bl true) H) : sp_is_key K [.ref A, .str (S key)] H Q E := by
  exact ⟨⟨A, dA, l, v, key, rfl, hA, key_len hk, by rw [keyB_ok hk]; exact q⟩⟩
theorem i_is_keyX {K : PySem.W.Frag} {A dA : Addr} {l v key : List Nat} {H : Hp} {Q : VK} {E : XK} (hA : H A = some (alo K dA l v)) (hk : keyB key (45 :: srt l) = false) (hl : key.length < 1000) (q : Q (.bl false) H) : sp_is_key K [.ref A, .str (S key)] H Q E := by
  exact ⟨⟨A, dA, l, v, key, rfl, hA, hl, by rw [hk]; exact q⟩⟩

def t_is_key (K : PySem.W.Frag) (W : WX) : TS :=
  (tSeq (tIfP (tTst (tOp (zEqP K) (tCB (zLen K) (tCons (tV 1) tNil)) (tC (.int 1)))) (tRet (tOp (zInP K) (tV 1) (tC (.str (S [62, 120, 119, 94, 109, 107, 99, 112]))))) tNext)
  (tRet (tAndE K (tOp (zEqP K) (tCB (zLen K) (tCons (tV 1) tNil)) (tC (.int 2))) (tAndE K (tOp (zInP K) (tOp (zIxP K) (tV 1) (tC (.int 0))) (tC (.str (S [39, 61, 47])))) (tOp (zInP K) (tOp (zIxP K) (tV 1) (tC (.int 1))) (tAt K (tV 0) "signs"))))))
theorem tm_is_key {P : Program} {w : World} {K : PySem.W.Frag} {mg : Str → Option Value} {base : Heap} {f : Addr} {cdv : Value} {A : Around} {outer : List Env} {s : Shared} {H : Hp} {E : XK} (T : Tx K mg) (hr : Room 4 (A.deeper (envOfC "is_key" (defScope s_is_key) s.heap.objs.size f cdv))) :
    PSs (cxOf (L2.CX P w) P w K mg base ["alphabet", "key"] "is_key" (defScope s_is_key) f cdv A outer s H E) (defBody s_is_key) (t_is_key K (WD E)) :=
  (pss_cons (psif (ptcmp (opeq hr.units) (pcb (crlen) T.f_len (pa_cons (Ta.pv 1) pa_nil)) pe_int) (pss_one (ps_ret (pe_cmpR opin (Ta.pv 1) (pglo T.v_PLAIN_KEYS) rfl))) pss_nil)
  (pss_one (ps_ret (peand (pe_cmpR (opeq hr.units) (pcb (crlen) T.f_len (pa_cons (Ta.pv 1) pa_nil)) pe_int rfl) (peand (pe_cmpR opin (pix (Ta.pv 1) pe_int) (pglo T.v_SIGN_KEYS) rfl) (pe_one (pe_cmpR opin (pix (Ta.pv 1) pe_int) (patt (Ta.pv 0)) rfl)))))))
/-! Page_sign_ahead -/
abbrev s_Page_sign_ahead : Stmt := inClass (top 16) 3
theorem sc_Page_sign_ahead : FnScope ["self"] ["self"] (defScope s_Page_sign_ahead) := ⟨rfl, rfl, rfl, by decide +kernel, rfl, by decide +kernel, by decide +kernel⟩
structure sp_Page_sign_ahead (K : PySem.W.Frag) (vs : List V) (H : Hp) (Q : VK) (E : XK) : Prop where
  out : ∃ (x dx A : Addr) (s : Pg), vs = [.ref x] ∧ H x = some (pgo K A dx s) ∧ s.t.length < 1000 ∧ Q (.str (S (s.rest.take 1))) H
theorem i_Page_sign_ahead {K : PySem.W.Frag} {x dx A : Addr} {s : Pg} {H : Hp} {Q : VK} {E : XK} (hx : H x = some (pgo K A dx s)) (hl : s.t.length < 1000) (q : Q (.str (S (s.rest.take 1))) H) : sp_Page_sign_ahead K [.ref x] H Q E := by
  exact ⟨⟨x, dx, A, s, rfl, hx, hl, q⟩⟩

def t_Page_sign_ahead (K : PySem.W.Frag) (W : WX) : TS :=
  (tRet (tSl (zSlP K) (tAt K (tV 0) "text") (tPrt (tAt K (tV 0) "caret")) (tPrt (tOp zAdd (tAt K (tV 0) "caret") (tC (.int 1))))))
theorem tm_Page_sign_ahead {P : Program} {w : World} {K : PySem.W.Frag} {mg : Str → Option Value} {base : Heap} {f : Addr} {cdv : Value} {A : Around} {outer : List Env} {s : Shared} {H : Hp} {E : XK} (T : Tx K mg) (hr : Room 4 (A.deeper (envOfC "Page.sign_ahead" (defScope s_Page_sign_ahead) s.heap.objs.size f cdv))) :
    PSs (cxOf (L2.CX P w) P w K mg base ["self"] "Page.sign_ahead" (defScope s_Page_sign_ahead) f cdv A outer s H E) (defBody s_Page_sign_ahead) (t_Page_sign_ahead K (WD E)) :=
  (pss_one (ps_ret (psl (patt (Ta.pv 0)) (posome (patt (Ta.pv 0))) (posome (pe_op opadd (patt (Ta.pv 0)) pe_int)))))
/-! Page_pass_sign -/
abbrev s_Page_pass_sign : Stmt := inClass (top 16) 5
theorem sc_Page_pass_sign : FnScope ["self"] ["self"] (defScope s_Page_pass_sign) := ⟨rfl, rfl, rfl, by decide +kernel, rfl, by decide +kernel, by decide +kernel⟩
structure sp_Page_pass_sign (K : PySem.W.Frag) (vs : List V) (H : Hp) (Q : VK) (E : XK) : Prop where
  out : ∃ (x dx A : Addr) (s : Pg), vs = [.ref x] ∧ H x = some (pgo K A dx s) ∧ Q .non (upd H x (pgo K A dx (s.pas 1)))
theorem i_Page_pass_sign {K : PySem.W.Frag} {x dx A : Addr} {s : Pg} {H : Hp} {Q : VK} {E : XK} (hx : H x = some (pgo K A dx s)) (q : Q .non (upd H x (pgo K A dx (s.pas 1)))) : sp_Page_pass_sign K [.ref x] H Q E := by
  exact ⟨⟨x, dx, A, s, rfl, hx, q⟩⟩

def t_Page_pass_sign (K : PySem.W.Frag) (W : WX) : TS :=
  (tSeq (sAug K (tV 0) (tC (.int 1)) "caret" (· + ·))
  (tIfP (tAndP (tTst (tOp zIsnB (tAt K (tV 0) "mark") (tC .non))) (tTst (tOp zGt (tOp zSub (tAt K (tV 0) "caret") (tAt K (tV 0) "mark")) (tC (.int 2))))) (sAt K (tV 0) (tC .non) "mark") tNext))
theorem tm_Page_pass_sign {P : Program} {w : World} {K : PySem.W.Frag} {mg : Str → Option Value} {base : Heap} {f : Addr} {cdv : Value} {A : Around} {outer : List Env} {s : Shared} {H : Hp} {E : XK} (T : Tx K mg) (hr : Room 4 (A.deeper (envOfC "Page.pass_sign" (defScope s_Page_pass_sign) s.heap.objs.size f cdv))) :
    PSs (cxOf (L2.CX P w) P w K mg base ["self"] "Page.pass_sign" (defScope s_Page_pass_sign) f cdv A outer s H E) (defBody s_Page_pass_sign) (t_Page_pass_sign K (WD E)) :=
  (pss_cons (psaddC (Ta.pv 0))
  (pss_one (psif (PW.pt (pwand (ptcmp opisnb (patt (Ta.pv 0)) pe_non) (pw_and1 (ptcmp opgt (pe_op opsub (patt (Ta.pv 0)) (patt (Ta.pv 0))) (pglo T.v_HOLD))))) (pss_one (psat (Ta.pv 0) pe_non)) pss_nil)))
/-! Page_travel -/
abbrev s_Page_travel : Stmt := inClass (top 16) 8
theorem sc_Page_travel : FnScope ["self", "name", "sign", "wanted"] ["self", "name", "sign"] (defScope s_Page_travel) := ⟨rfl, rfl, rfl, by decide +kernel, rfl, by decide +kernel, by decide +kernel⟩
structure sp_Page_travel (K : PySem.W.Frag) (vs : List V) (H : Hp) (Q : VK) (E : XK) : Prop where
  out : ∃ (x dx A : Addr) (s : Pg) (h : Nat) (g : List Nat), vs = [.ref x, .str (S [h]), .str (S g)] ∧ ((h = 47 ∧ g.length = 1) ∨ h = 119) ∧ H x = some (pgo K A dx s) ∧ s.ok 900 ∧ ∀ H', Kp [x] H H' → H' x = some (pgo K A dx (stp h g s).2) → Q (.bl (stp h g s).1) H'
theorem i_Page_travel {K : PySem.W.Frag} {x dx A : Addr} {s : Pg} {h : Nat} {g : List Nat} {H : Hp} {Q : VK} {E : XK} (hh : (h = 47 ∧ g.length = 1) ∨ h = 119) (hx : H x = some (pgo K A dx s)) (ho : s.ok 900) (q : ∀ H', Kp [x] H H' → H' x = some (pgo K A dx (stp h g s).2) → Q (.bl (stp h g s).1) H') : sp_Page_travel K [.ref x, .str (S [h]), .str (S g)] H Q E := by
  exact ⟨⟨x, dx, A, s, h, g, rfl, hh, hx, ho, q⟩⟩

def b_Page_travel_1 (K : PySem.W.Frag) (W : WX) : TS :=
  (tDrop (tMe [(He.ga K "Page", [], sp_Page_pass_sign K)] "pass_sign" W (tV 0) tNil))
def t_Page_travel (K : PySem.W.Frag) (W : WX) : TS :=
  (tSeq (tAsg (tIfE (tTst (tOp (zEqP K) (tV 1) (tC (.str (S [47]))))) (tV 2) (tC (.str (S [45])))) (gName 3))
  (tSeq (whl (tTst (tOp (zNinP K) (tMe [(He.ga K "Page", [], sp_Page_sign_ahead K)] "sign_ahead" W (tV 0) tNil) (tTup (tCons (tC (.str (S []))) (tCons (tV 3) tNil))))) (b_Page_travel_1 K W))
  (tRet (tOrE K (tOp (zEqP K) (tV 1) (tC (.str (S [119])))) (tOp (zEqP K) (tMe [(He.ga K "Page", [], sp_Page_sign_ahead K)] "sign_ahead" W (tV 0) tNil) (tV 3))))))
theorem tm_Page_travel {P : Program} {w : World} {K : PySem.W.Frag} {mg : Str → Option Value} {base : Heap} {f : Addr} {cdv : Value} {A : Around} {outer : List Env} {s : Shared} {H : Hp} {E : XK} (T : Tx K mg) (G_Page_pass_sign : Me P w K mg base (He.ga K "Page") "pass_sign" 5 [] (sp_Page_pass_sign K)) (G_Page_sign_ahead : Me P w K mg base (He.ga K "Page") "sign_ahead" 5 [] (sp_Page_sign_ahead K)) (hr : Room 6 (A.deeper (envOfC "Page.travel" (defScope s_Page_travel) s.heap.objs.size f cdv))) :
    PSs (cxOf (L2.CX P w) P w K mg base ["self", "name", "sign", "wanted"] "Page.travel" (defScope s_Page_travel) f cdv A outer s H E) (defBody s_Page_travel) (t_Page_travel K (WD E)) :=
  (pss_cons (pset 3 sc_Page_travel.nd (peif (ptcmp (opeq hr.units) (Ta.pv 1) (pstr [47])) (Ta.pv 2) (pclv T.cc_Alphabet_JOINT)))
  (pss_cons (pswhl ownD (ptcmp opnin (pmeth0 (ms := [(He.ga K "Page", [], sp_Page_sign_ahead K)]) (fun e he => by obtain rfl := List.mem_singleton.mp he; exact G_Page_sign_ahead) (hr.mono (by decide)) takesD (Ta.pv 0)) (pe_tup (pa_cons (pstr []) (pa_cons (Ta.pv 3) pa_nil)))) (pss_one (ps_expr (pmeth0 (ms := [(He.ga K "Page", [], sp_Page_pass_sign K)]) (fun e he => by obtain rfl := List.mem_singleton.mp he; exact G_Page_pass_sign) (hr.mono (by decide)) takesD (Ta.pv 0)))))
  (pss_one (ps_ret (peor (pe_cmpR (opeq hr.units) (Ta.pv 1) (pstr [119]) rfl) (pe_one (pe_cmpR (opeq hr.units) (pmeth0 (ms := [(He.ga K "Page", [], sp_Page_sign_ahead K)]) (fun e he => by obtain rfl := List.mem_singleton.mp he; exact G_Page_sign_ahead) (hr.mono (by decide)) takesD (Ta.pv 0)) (Ta.pv 3) rfl)))))))
/-! Page_take_sign -/
abbrev s_Page_take_sign : Stmt := inClass (top 16) 7
theorem sc_Page_take_sign : FnScope ["self", "name"] ["self", "name"] (defScope s_Page_take_sign) := ⟨rfl, rfl, rfl, by decide +kernel, rfl, by decide +kernel, by decide +kernel⟩
structure sp_Page_take_sign (K : PySem.W.Frag) (vs : List V) (H : Hp) (Q : VK) (E : XK) : Prop where
  out : ∃ (x dx A : Addr) (s : Pg) (h : Nat), vs = [.ref x, .str (S [h])] ∧ (h = 62 ∨ h = 120) ∧ H x = some (pgo K A dx s) ∧ s.ok 900 ∧ Q (.bl (stp h [] s).1) (upd H x (pgo K A dx (stp h [] s).2))
theorem i_Page_take_sign {K : PySem.W.Frag} {x dx A : Addr} {s : Pg} {h : Nat} {H : Hp} {Q : VK} {E : XK} (hh : h = 62 ∨ h = 120) (hx : H x = some (pgo K A dx s)) (ho : s.ok 900) (q : Q (.bl (stp h [] s).1) (upd H x (pgo K A dx (stp h [] s).2))) : sp_Page_take_sign K [.ref x, .str (S [h])] H Q E := by
  exact ⟨⟨x, dx, A, s, h, rfl, hh, hx, ho, q⟩⟩

def t_Page_take_sign (K : PySem.W.Frag) (W : WX) : TS :=
  (tSeq (tIfP (tTst (tOp (zEqP K) (tMe [(He.ga K "Page", [], sp_Page_sign_ahead K)] "sign_ahead" W (tV 0) tNil) (tC (.str (S []))))) (tRet (tC (.bl false))) tNext)
  (tSeq (tIfP (tTst (tOp (zEqP K) (tV 1) (tC (.str (S [62]))))) (tDrop (tMe [(He.ga K "Page", [], sp_Page_pass_sign K)] "pass_sign" W (tV 0) tNil)) (sAt K (tV 0) (tOp zAdd (tSl (zSlP K) (tAt K (tV 0) "text") tNoPart (tPrt (tAt K (tV 0) "caret"))) (tSl (zSlP K) (tAt K (tV 0) "text") (tPrt (tOp zAdd (tAt K (tV 0) "caret") (tC (.int 1)))) tNoPart)) "text"))
  (tRet (tC (.bl true)))))
theorem tm_Page_take_sign {P : Program} {w : World} {K : PySem.W.Frag} {mg : Str → Option Value} {base : Heap} {f : Addr} {cdv : Value} {A : Around} {outer : List Env} {s : Shared} {H : Hp} {E : XK} (T : Tx K mg) (G_Page_pass_sign : Me P w K mg base (He.ga K "Page") "pass_sign" 5 [] (sp_Page_pass_sign K)) (G_Page_sign_ahead : Me P w K mg base (He.ga K "Page") "sign_ahead" 5 [] (sp_Page_sign_ahead K)) (hr : Room 6 (A.deeper (envOfC "Page.take_sign" (defScope s_Page_take_sign) s.heap.objs.size f cdv))) :
    PSs (cxOf (L2.CX P w) P w K mg base ["self", "name"] "Page.take_sign" (defScope s_Page_take_sign) f cdv A outer s H E) (defBody s_Page_take_sign) (t_Page_take_sign K (WD E)) :=
  (pss_cons (psif (ptcmp (opeq hr.units) (pmeth0 (ms := [(He.ga K "Page", [], sp_Page_sign_ahead K)]) (fun e he => by obtain rfl := List.mem_singleton.mp he; exact G_Page_sign_ahead) (hr.mono (by decide)) takesD (Ta.pv 0)) (pstr [])) (pss_one (ps_ret pe_bl)) pss_nil)
  (pss_cons (psif (ptcmp (opeq hr.units) (Ta.pv 1) (pstr [62])) (pss_one (ps_expr (pmeth0 (ms := [(He.ga K "Page", [], sp_Page_pass_sign K)]) (fun e he => by obtain rfl := List.mem_singleton.mp he; exact G_Page_pass_sign) (hr.mono (by decide)) takesD (Ta.pv 0)))) (pss_one (psat (Ta.pv 0) (pe_op opadd (psl (patt (Ta.pv 0)) po_none (posome (patt (Ta.pv 0)))) (psl (patt (Ta.pv 0)) (posome (pe_op opadd (patt (Ta.pv 0)) pe_int)) po_none)))))
  (pss_one (ps_ret pe_bl))))
/-! Page_keep -/
abbrev s_Page_keep : Stmt := inClass (top 16) 9
theorem sc_Page_keep : FnScope ["self", "name"] ["self", "name"] (defScope s_Page_keep) := ⟨rfl, rfl, rfl, by decide +kernel, rfl, by decide +kernel, by decide +kernel⟩
structure sp_Page_keep (K : PySem.W.Frag) (vs : List V) (H : Hp) (Q : VK) (E : XK) : Prop where
  out : ∃ (x dx A : Addr) (s : Pg) (h : Nat), vs = [.ref x, .str (S [h])] ∧ (h = 107 ∨ h = 99) ∧ H x = some (pgo K A dx s) ∧ s.ok 900 ∧ Q (.bl (stp h [] s).1) (upd H x (pgo K A dx (stp h [] s).2))
theorem i_Page_keep {K : PySem.W.Frag} {x dx A : Addr} {s : Pg} {h : Nat} {H : Hp} {Q : VK} {E : XK} (hh : h = 107 ∨ h = 99) (hx : H x = some (pgo K A dx s)) (ho : s.ok 900) (q : Q (.bl (stp h [] s).1) (upd H x (pgo K A dx (stp h [] s).2))) : sp_Page_keep K [.ref x, .str (S [h])] H Q E := by
  exact ⟨⟨x, dx, A, s, h, rfl, hh, hx, ho, q⟩⟩

def t_Page_keep (K : PySem.W.Frag) (W : WX) : TS :=
  (tSeq (tIfP (tTst (tOp zIsB (tAt K (tV 0) "mark") (tC .non))) (tRet (tC (.bl false))) tNext)
  (tSeq (sAt K (tV 0) (tSl (zSlP K) (tAt K (tV 0) "text") (tPrt (tAt K (tV 0) "mark")) (tPrt (tAt K (tV 0) "caret"))) "kept")
  (tSeq (tIfP (tTst (tOp (zEqP K) (tV 1) (tC (.str (S [99]))))) (tSeq (sAt K (tV 0) (tOp zAdd (tSl (zSlP K) (tAt K (tV 0) "text") tNoPart (tPrt (tAt K (tV 0) "mark"))) (tSl (zSlP K) (tAt K (tV 0) "text") (tPrt (tAt K (tV 0) "caret")) tNoPart)) "text")
  (sAt K (tV 0) (tAt K (tV 0) "mark") "caret")) tNext)
  (tRet (tC (.bl true))))))
theorem tm_Page_keep {P : Program} {w : World} {K : PySem.W.Frag} {mg : Str → Option Value} {base : Heap} {f : Addr} {cdv : Value} {A : Around} {outer : List Env} {s : Shared} {H : Hp} {E : XK} (T : Tx K mg) (hr : Room 4 (A.deeper (envOfC "Page.keep" (defScope s_Page_keep) s.heap.objs.size f cdv))) :
    PSs (cxOf (L2.CX P w) P w K mg base ["self", "name"] "Page.keep" (defScope s_Page_keep) f cdv A outer s H E) (defBody s_Page_keep) (t_Page_keep K (WD E)) :=
  (pss_cons (psif (ptcmp opisb (patt (Ta.pv 0)) pe_non) (pss_one (ps_ret pe_bl)) pss_nil)
  (pss_cons (psat (Ta.pv 0) (psl (patt (Ta.pv 0)) (posome (patt (Ta.pv 0))) (posome (patt (Ta.pv 0)))))
  (pss_cons (psif (ptcmp (opeq hr.units) (Ta.pv 1) (pstr [99])) (pss_cons (psat (Ta.pv 0) (pe_op opadd (psl (patt (Ta.pv 0)) po_none (posome (patt (Ta.pv 0)))) (psl (patt (Ta.pv 0)) (posome (patt (Ta.pv 0))) po_none)))
  (pss_one (psat (Ta.pv 0) (patt (Ta.pv 0))))) pss_nil)
  (pss_one (ps_ret pe_bl)))))
/-! Page_opens_at -/
abbrev s_Page_opens_at : Stmt := inClass (top 16) 2
theorem sc_Page_opens_at : FnScope ["self", "place"] ["self", "place"] (defScope s_Page_opens_at) := ⟨rfl, rfl, rfl, by decide +kernel, rfl, by decide +kernel, by decide +kernel⟩
structure sp_Page_opens_at (K : PySem.W.Frag) (vs : List V) (H : Hp) (Q : VK) (E : XK) : Prop where
  out : ∃ (x dx A : Addr) (s : Pg), vs = [.ref x, .int s.c] ∧ H x = some (pgo K A dx s) ∧ s.t.length < 1000 ∧ s.c ≤ s.t.length ∧ Q (.bl s.opn) H
theorem i_Page_opens_at {K : PySem.W.Frag} {x dx A : Addr} {s : Pg} {H : Hp} {Q : VK} {E : XK} (hx : H x = some (pgo K A dx s)) (hl : s.t.length < 1000) (hc : s.c ≤ s.t.length) (q : Q (.bl s.opn) H) : sp_Page_opens_at K [.ref x, .int s.c] H Q E := by
  exact ⟨⟨x, dx, A, s, rfl, hx, hl, hc, q⟩⟩

def t_Page_opens_at (K : PySem.W.Frag) (W : WX) : TS :=
  (tRet (tOrE K (tOp (zEqP K) (tV 1) (tC (.int 0))) (tOp (zEqP K) (tOp (zIxP K) (tAt K (tV 0) "text") (tOp zSub (tV 1) (tC (.int 1)))) (tC (.str (S [45]))))))
theorem tm_Page_opens_at {P : Program} {w : World} {K : PySem.W.Frag} {mg : Str → Option Value} {base : Heap} {f : Addr} {cdv : Value} {A : Around} {outer : List Env} {s : Shared} {H : Hp} {E : XK} (T : Tx K mg) (hr : Room 4 (A.deeper (envOfC "Page.opens_at" (defScope s_Page_opens_at) s.heap.objs.size f cdv))) :
    PSs (cxOf (L2.CX P w) P w K mg base ["self", "place"] "Page.opens_at" (defScope s_Page_opens_at) f cdv A outer s H E) (defBody s_Page_opens_at) (t_Page_opens_at K (WD E)) :=
  (pss_one (ps_ret (peor (pe_cmpR (opeq hr.units) (Ta.pv 1) pe_int rfl) (pe_one (pe_cmpR (opeq hr.units) (pix (patt (Ta.pv 0)) (pe_op opsub (Ta.pv 1) pe_int)) (pclv T.cc_Alphabet_JOINT) rfl)))))
/-! Page_put_in -/
abbrev s_Page_put_in : Stmt := inClass (top 16) 6
theorem sc_Page_put_in : FnScope ["self", "signs", "sign"] ["self", "signs"] (defScope s_Page_put_in) := ⟨rfl, rfl, rfl, by decide +kernel, rfl, by decide +kernel, by decide +kernel⟩
structure sp_Page_put_in (K : PySem.W.Frag) (vs : List V) (H : Hp) (Q : VK) (E : XK) : Prop where
  out : ∃ (x dx A : Addr) (s : Pg) (g : List Nat), vs = [.ref x, .str (S g)] ∧ H x = some (pgo K A dx s) ∧ s.ok 900 ∧ g.length ≤ 2 ∧ Q .non (upd H x (pgo K A dx (s.ins g)))
theorem i_Page_put_in {K : PySem.W.Frag} {x dx A : Addr} {s : Pg} {g : List Nat} {H : Hp} {Q : VK} {E : XK} (hx : H x = some (pgo K A dx s)) (ho : s.ok 900) (hg : g.length ≤ 2) (q : Q .non (upd H x (pgo K A dx (s.ins g)))) : sp_Page_put_in K [.ref x, .str (S g)] H Q E := by
  exact ⟨⟨x, dx, A, s, g, rfl, hx, ho, hg, q⟩⟩

def b_Page_put_in_1 (K : PySem.W.Frag) (W : WX) : TS :=
  (tSeq (sAt K (tV 0) (tOp zAdd (tOp zAdd (tSl (zSlP K) (tAt K (tV 0) "text") tNoPart (tPrt (tAt K (tV 0) "caret"))) (tV 2)) (tSl (zSlP K) (tAt K (tV 0) "text") (tPrt (tAt K (tV 0) "caret")) tNoPart)) "text")
  (tDrop (tMe [(He.ga K "Page", [], sp_Page_pass_sign K)] "pass_sign" W (tV 0) tNil)))
def t_Page_put_in (K : PySem.W.Frag) (W : WX) : TS :=
  (tForP (jA K (tV 1)) (gName 2) (b_Page_put_in_1 K W))
theorem tm_Page_put_in {P : Program} {w : World} {K : PySem.W.Frag} {mg : Str → Option Value} {base : Heap} {f : Addr} {cdv : Value} {A : Around} {outer : List Env} {s : Shared} {H : Hp} {E : XK} (T : Tx K mg) (G_Page_pass_sign : Me P w K mg base (He.ga K "Page") "pass_sign" 5 [] (sp_Page_pass_sign K)) (hr : Room 6 (A.deeper (envOfC "Page.put_in" (defScope s_Page_put_in) s.heap.objs.size f cdv))) :
    PSs (cxOf (L2.CX P w) P w K mg base ["self", "signs", "sign"] "Page.put_in" (defScope s_Page_put_in) f cdv A outer s H E) (defBody s_Page_put_in) (t_Page_put_in K (WD E)) :=
  (pss_one (psfor ownD rfl (pja (Ta.pv 1)) (pgn 2 sc_Page_put_in.nd) (pss_cons (psat (Ta.pv 0) (pe_op opadd (pe_op opadd (psl (patt (Ta.pv 0)) po_none (posome (patt (Ta.pv 0)))) (Ta.pv 2)) (psl (patt (Ta.pv 0)) (posome (patt (Ta.pv 0))) po_none)))
  (pss_one (ps_expr (pmeth0 (ms := [(He.ga K "Page", [], sp_Page_pass_sign K)]) (fun e he => by obtain rfl := List.mem_singleton.mp he; exact G_Page_pass_sign) (hr.mono (by decide)) takesD (Ta.pv 0)))))))
/-! Page_press -/
abbrev s_Page_press : Stmt := inClass (top 16) 4
theorem sc_Page_press : FnScope ["self", "key", "name", "signs"] ["self", "key"] (defScope s_Page_press) := ⟨rfl, rfl, rfl, by decide +kernel, rfl, by decide +kernel, by decide +kernel⟩
structure sp_Page_press (K : PySem.W.Frag) (vs : List V) (H : Hp) (Q : VK) (E : XK) : Prop where
  out : ∃ (x dx A dA : Addr) (l v : List Nat) (s : Pg) (key : List Nat), vs = [.ref x, .str (S key)] ∧ H x = some (pgo K A dx s) ∧ H A = some (alo K dA l v) ∧
  ((KeyOk key (45 :: srt l) ∧ s.ok 900 ∧ ∀ H', Kp [x] H H' → H' x = some (pgo K A dx (stk key s).2) → Q (.bl (stk key s).1) H') ∨ (keyB key (45 :: srt l) = false ∧ key.length < 1000 ∧ ∀ d, H d = none → E (.ref (He.ga K "BadKey")) (some d) (upd H d (.xd [("key", .str (S key))]))))
theorem i_Page_press {K : PySem.W.Frag} {x dx A dA : Addr} {l v key : List Nat} {s : Pg} {H : Hp} {Q : VK} {E : XK} (hx : H x = some (pgo K A dx s)) (hA : H A = some (alo K dA l v)) (hk : KeyOk key (45 :: srt l)) (ho : s.ok 900) (q : ∀ H', Kp [x] H H' → H' x = some (pgo K A dx (stk key s).2) → Q (.bl (stk key s).1) H') : sp_Page_press K [.ref x, .str (S key)] H Q E := by
  exact ⟨⟨x, dx, A, dA, l, v, s, key, rfl, hx, hA, .inl ⟨hk, ho, q⟩⟩⟩
theorem i_Page_pressX {K : PySem.W.Frag} {x dx A dA : Addr} {l v key : List Nat} {s : Pg} {H : Hp} {Q : VK} {E : XK} (hx : H x = some (pgo K A dx s)) (hA : H A = some (alo K dA l v)) (hk : keyB key (45 :: srt l) = false) (hl : key.length < 1000) (q : ∀ d, H d = none → E (.ref (He.ga K "BadKey")) (some d) (upd H d (.xd [("key", .str (S key))]))) : sp_Page_press K [.ref x, .str (S key)] H Q E := by
  exact ⟨⟨x, dx, A, dA, l, v, s, key, rfl, hx, hA, .inr ⟨hk, hl, q⟩⟩⟩

def t_Page_press (K : PySem.W.Frag) (W : WX) : TS :=
  (tSeq (tIfP (tNot (tTru K (tCal (sp_is_key K) [] W (tCons (tAt K (tV 0) "alphabet") (tCons (tV 1) tNil))))) (tRs (He.ga K "BadKey") ["key"] W (tCons (tV 1) tNil)) tNext)
  (tSeq (tAsg (tOp (zIxP K) (tV 1) (tC (.int 0))) (gName 2))
  (tSeq (tIfP (tOrP (tTst (tOp (zEqP K) (tV 2) (tC (.str (S [47]))))) (tTst (tOp (zEqP K) (tV 2) (tC (.str (S [119])))))) (tRet (tMe [(He.ga K "Page", [], sp_Page_travel K)] "travel" W (tV 0) (tCons (tV 2) (tCons (tSl (zSlP K) (tV 1) (tPrt (tC (.int 1))) tNoPart) tNil)))) tNext)
  (tSeq (tIfP (tOrP (tTst (tOp (zEqP K) (tV 2) (tC (.str (S [62]))))) (tTst (tOp (zEqP K) (tV 2) (tC (.str (S [120])))))) (tRet (tMe [(He.ga K "Page", [], sp_Page_take_sign K)] "take_sign" W (tV 0) (tCons (tV 2) tNil))) tNext)
  (tSeq (tIfP (tOrP (tTst (tOp (zEqP K) (tV 2) (tC (.str (S [107]))))) (tTst (tOp (zEqP K) (tV 2) (tC (.str (S [99])))))) (tRet (tMe [(He.ga K "Page", [], sp_Page_keep K)] "keep" W (tV 0) (tCons (tV 2) tNil))) tNext)
  (tSeq (tIfP (tTst (tOp (zEqP K) (tV 2) (tC (.str (S [61]))))) (tRet (tOp (zEqP K) (tMe [(He.ga K "Page", [], sp_Page_sign_ahead K)] "sign_ahead" W (tV 0) tNil) (tSl (zSlP K) (tV 1) (tPrt (tC (.int 1))) tNoPart))) tNext)
  (tSeq (tIfP (tTst (tOp (zEqP K) (tV 2) (tC (.str (S [94]))))) (tRet (tMe [(He.ga K "Page", [], sp_Page_opens_at K)] "opens_at" W (tV 0) (tCons (tAt K (tV 0) "caret") tNil))) tNext)
  (tSeq (tIfP (tTst (tOp (zEqP K) (tV 2) (tC (.str (S [109]))))) (tSeq (sAt K (tV 0) (tAt K (tV 0) "caret") "mark")
  (tRet (tC (.bl true)))) tNext)
  (tSeq (tAsg (tIfE (tTst (tOp (zEqP K) (tV 2) (tC (.str (S [39]))))) (tSl (zSlP K) (tV 1) (tPrt (tC (.int 1))) tNoPart) (tAt K (tV 0) "kept")) (gName 3))
  (tSeq (tDrop (tMe [(He.ga K "Page", [], sp_Page_put_in K)] "put_in" W (tV 0) (tCons (tV 3) tNil)))
  (tRet (tOp (zNeP K) (tV 3) (tC (.str (S [])))))))))))))))
theorem tm_Page_press {P : Program} {w : World} {K : PySem.W.Frag} {mg : Str → Option Value} {base : Heap} {f : Addr} {cdv : Value} {A : Around} {outer : List Env} {s : Shared} {H : Hp} {E : XK} (T : Tx K mg) (G_Page_keep : Me P w K mg base (He.ga K "Page") "keep" 5 [] (sp_Page_keep K)) (G_Page_opens_at : Me P w K mg base (He.ga K "Page") "opens_at" 5 [] (sp_Page_opens_at K)) (G_Page_put_in : Me P w K mg base (He.ga K "Page") "put_in" 7 [] (sp_Page_put_in K)) (G_Page_sign_ahead : Me P w K mg base (He.ga K "Page") "sign_ahead" 5 [] (sp_Page_sign_ahead K)) (G_Page_take_sign : Me P w K mg base (He.ga K "Page") "take_sign" 7 [] (sp_Page_take_sign K)) (G_Page_travel : Me P w K mg base (He.ga K "Page") "travel" 7 [] (sp_Page_travel K)) (G_is_key : Fn P w K mg base "is_key" 5 [] (sp_is_key K)) (X_BadKey : Ex P w K mg base "BadKey" (He.ga K "BadKey") ["key"]) (hr : Room 8 (A.deeper (envOfC "Page.press" (defScope s_Page_press) s.heap.objs.size f cdv))) :
    PSs (cxOf (L2.CX P w) P w K mg base ["self", "key", "name", "signs"] "Page.press" (defScope s_Page_press) f cdv A outer s H E) (defBody s_Page_press) (t_Page_press K (WD E)) :=
  (pss_cons (psif (pt_not (ptru (pcall G_is_key (hr.mono (by decide)) takesD (pa_cons (patt (Ta.pv 0)) (pa_cons (Ta.pv 1) pa_nil))))) (pss_one (praise X_BadKey (hr.mono (by decide)) takesD (pa_cons (Ta.pv 1) pa_nil))) pss_nil)
  (pss_cons (pset 2 sc_Page_press.nd (pix (Ta.pv 1) pe_int))
  (pss_cons (psif (PW.pt (pwor (ptcmp (opeq hr.units) (Ta.pv 2) (pstr [47])) (pw_or1 (ptcmp (opeq hr.units) (Ta.pv 2) (pstr [119]))))) (pss_one (ps_ret (pmeth (ms := [(He.ga K "Page", [], sp_Page_travel K)]) (fun e he => by obtain rfl := List.mem_singleton.mp he; exact G_Page_travel) (hr.mono (by decide)) takesD (Ta.pv 0) (pa_cons (Ta.pv 2) (pa_cons (psl (Ta.pv 1) (posome pe_int) po_none) pa_nil))))) pss_nil)
  (pss_cons (psif (PW.pt (pwor (ptcmp (opeq hr.units) (Ta.pv 2) (pstr [62])) (pw_or1 (ptcmp (opeq hr.units) (Ta.pv 2) (pstr [120]))))) (pss_one (ps_ret (pmeth (ms := [(He.ga K "Page", [], sp_Page_take_sign K)]) (fun e he => by obtain rfl := List.mem_singleton.mp he; exact G_Page_take_sign) (hr.mono (by decide)) takesD (Ta.pv 0) (pa_cons (Ta.pv 2) pa_nil)))) pss_nil)
  (pss_cons (psif (PW.pt (pwor (ptcmp (opeq hr.units) (Ta.pv 2) (pstr [107])) (pw_or1 (ptcmp (opeq hr.units) (Ta.pv 2) (pstr [99]))))) (pss_one (ps_ret (pmeth (ms := [(He.ga K "Page", [], sp_Page_keep K)]) (fun e he => by obtain rfl := List.mem_singleton.mp he; exact G_Page_keep) (hr.mono (by decide)) takesD (Ta.pv 0) (pa_cons (Ta.pv 2) pa_nil)))) pss_nil)
  (pss_cons (psif (ptcmp (opeq hr.units) (Ta.pv 2) (pstr [61])) (pss_one (ps_ret (pe_cmpR (opeq hr.units) (pmeth0 (ms := [(He.ga K "Page", [], sp_Page_sign_ahead K)]) (fun e he => by obtain rfl := List.mem_singleton.mp he; exact G_Page_sign_ahead) (hr.mono (by decide)) takesD (Ta.pv 0)) (psl (Ta.pv 1) (posome pe_int) po_none) rfl))) pss_nil)
  (pss_cons (psif (ptcmp (opeq hr.units) (Ta.pv 2) (pstr [94])) (pss_one (ps_ret (pmeth (ms := [(He.ga K "Page", [], sp_Page_opens_at K)]) (fun e he => by obtain rfl := List.mem_singleton.mp he; exact G_Page_opens_at) (hr.mono (by decide)) takesD (Ta.pv 0) (pa_cons (patt (Ta.pv 0)) pa_nil)))) pss_nil)
  (pss_cons (psif (ptcmp (opeq hr.units) (Ta.pv 2) (pstr [109])) (pss_cons (psat (Ta.pv 0) (patt (Ta.pv 0)))
  (pss_one (ps_ret pe_bl))) pss_nil)
  (pss_cons (pset 3 sc_Page_press.nd (peif (ptcmp (opeq hr.units) (Ta.pv 2) (pstr [39])) (psl (Ta.pv 1) (posome pe_int) po_none) (patt (Ta.pv 0))))
  (pss_cons (ps_expr (pmeth (ms := [(He.ga K "Page", [], sp_Page_put_in K)]) (fun e he => by obtain rfl := List.mem_singleton.mp he; exact G_Page_put_in) (hr.mono (by decide)) takesD (Ta.pv 0) (pa_cons (Ta.pv 3) pa_nil)))
  (pss_one (ps_ret (pe_cmpR (opne hr.units) (Ta.pv 3) (pstr []) rfl)))))))))))))
/-! _law_pass -/
abbrev s_l_pass : Stmt := top 25
theorem sc_l_pass : FnScope ["_law_page", "_law_count"] ["_law_page", "_law_count"] (defScope s_l_pass) := ⟨rfl, rfl, rfl, by decide +kernel, rfl, by decide +kernel, by decide +kernel⟩
structure sp_l_pass (K : PySem.W.Frag) (vs : List V) (H : Hp) (Q : VK) (E : XK) : Prop where
  out : ∃ (o : Addr) (n : Nat) (s : Pg), vs = [.ref o, .int n] ∧ H o = some (ow s) ∧ Q .non (upd H o (ow (s.pas n)))
theorem i_l_pass {K : PySem.W.Frag} {o : Addr} {i : Int} {n : Nat} {s : Pg} {H : Hp} {Q : VK} {E : XK} (e : i = (n : Int)) (ho : H o = some (ow s)) (q : Q .non (upd H o (ow (s.pas n)))) : sp_l_pass K [.ref o, .int i] H Q E := by
  subst e; exact ⟨⟨o, n, s, rfl, ho, q⟩⟩

def t_l_pass (K : PySem.W.Frag) (W : WX) : TS :=
  (tSeq (tAsg (tOp zAdd (tOp (zIxP K) (tV 0) (tC (.int 1))) (tV 1)) (gSub (tV 0) (tC (.int 1)) zSetP))
  (tIfP (tAndP (tTst (tOp zIsnB (tOp (zIxP K) (tV 0) (tC (.int 2))) (tC .non))) (tTst (tOp zGt (tOp zSub (tOp (zIxP K) (tV 0) (tC (.int 1))) (tOp (zIxP K) (tV 0) (tC (.int 2)))) (tC (.int 2))))) (tAsg (tC .non) (gSub (tV 0) (tC (.int 2)) zSetP)) tNext))
theorem tm_l_pass {P : Program} {w : World} {K : PySem.W.Frag} {mg : Str → Option Value} {base : Heap} {f : Addr} {cdv : Value} {A : Around} {outer : List Env} {s : Shared} {H : Hp} {E : XK} (T : Tx K mg) (hr : Room 4 (A.deeper (envOfC "_law_pass" (defScope s_l_pass) s.heap.objs.size f cdv))) :
    PSs (cxOf (L2.CX P w) P w K mg base ["_law_page", "_law_count"] "_law_pass" (defScope s_l_pass) f cdv A outer s H E) (defBody s_l_pass) (t_l_pass K (WD E)) :=
  (pss_cons (psub (pe_op opadd (pix (Ta.pv 0) pe_int) (Ta.pv 1)) (Ta.pv 0) pe_int)
  (pss_one (psif (PW.pt (pwand (ptcmp opisnb (pix (Ta.pv 0) pe_int) pe_non) (pw_and1 (ptcmp opgt (pe_op opsub (pix (Ta.pv 0) pe_int) (pix (Ta.pv 0) pe_int)) pe_int)))) (pss_one (psub pe_non (Ta.pv 0) pe_int)) pss_nil)))
/-! _law_insert -/
abbrev s_l_insert : Stmt := top 26
theorem sc_l_insert : FnScope ["_law_page", "_law_signs"] ["_law_page", "_law_signs"] (defScope s_l_insert) := ⟨rfl, rfl, rfl, by decide +kernel, rfl, by decide +kernel, by decide +kernel⟩
structure sp_l_insert (K : PySem.W.Frag) (vs : List V) (H : Hp) (Q : VK) (E : XK) : Prop where
  out : ∃ (o : Addr) (g : List Nat) (s : Pg), vs = [.ref o, .str (S g)] ∧ H o = some (ow s) ∧ s.ok 900 ∧ g.length ≤ 2 ∧ Q .non (upd H o (ow (s.ins g)))
theorem i_l_insert {K : PySem.W.Frag} {o : Addr} {g : List Nat} {s : Pg} {H : Hp} {Q : VK} {E : XK} (ho : H o = some (ow s)) (hs : s.ok 900) (hg : g.length ≤ 2) (q : Q .non (upd H o (ow (s.ins g)))) : sp_l_insert K [.ref o, .str (S g)] H Q E := by
  exact ⟨⟨o, g, s, rfl, ho, hs, hg, q⟩⟩

def t_l_insert (K : PySem.W.Frag) (W : WX) : TS :=
  (tSeq (tAsg (tOp zAdd (tOp zAdd (tSl (zSlP K) (tOp (zIxP K) (tV 0) (tC (.int 0))) tNoPart (tPrt (tOp (zIxP K) (tV 0) (tC (.int 1))))) (tV 1)) (tSl (zSlP K) (tOp (zIxP K) (tV 0) (tC (.int 0))) (tPrt (tOp (zIxP K) (tV 0) (tC (.int 1)))) tNoPart)) (gSub (tV 0) (tC (.int 0)) zSetP))
  (tDrop (tCal (sp_l_pass K) [] W (tCons (tV 0) (tCons (tCB (zLen K) (tCons (tV 1) tNil)) tNil)))))
theorem tm_l_insert {P : Program} {w : World} {K : PySem.W.Frag} {mg : Str → Option Value} {base : Heap} {f : Addr} {cdv : Value} {A : Around} {outer : List Env} {s : Shared} {H : Hp} {E : XK} (T : Tx K mg) (G_l_pass : Fn P w K mg base "_law_pass" 5 [] (sp_l_pass K)) (hr : Room 6 (A.deeper (envOfC "_law_insert" (defScope s_l_insert) s.heap.objs.size f cdv))) :
    PSs (cxOf (L2.CX P w) P w K mg base ["_law_page", "_law_signs"] "_law_insert" (defScope s_l_insert) f cdv A outer s H E) (defBody s_l_insert) (t_l_insert K (WD E)) :=
  (pss_cons (psub (pe_op opadd (pe_op opadd (psl (pix (Ta.pv 0) pe_int) po_none (posome (pix (Ta.pv 0) pe_int))) (Ta.pv 1)) (psl (pix (Ta.pv 0) pe_int) (posome (pix (Ta.pv 0) pe_int)) po_none)) (Ta.pv 0) pe_int)
  (pss_one (ps_expr (pcall G_l_pass (hr.mono (by decide)) takesD (pa_cons (Ta.pv 0) (pa_cons (pcb (crlen) T.f_len (pa_cons (Ta.pv 1) pa_nil)) pa_nil))))))
/-! _law_press -/
abbrev s_l_press : Stmt := top 27
theorem sc_l_press : FnScope ["_law_page", "_law_key", "_law_head", "_law_rest", "_law_count"] ["_law_page", "_law_key"] (defScope s_l_press) := ⟨rfl, rfl, rfl, by decide +kernel, rfl, by decide +kernel, by decide +kernel⟩
structure sp_l_press (K : PySem.W.Frag) (vs : List V) (H : Hp) (Q : VK) (E : XK) : Prop where
  out : ∃ (o : Addr) (key sg : List Nat) (s : Pg), vs = [.ref o, .str (S key)] ∧ H o = some (ow s) ∧ KeyOk key sg ∧ s.ok 900 ∧ ∀ H', Kp [o] H H' → H' o = some (ow (stk key s).2) → Q (.bl (stk key s).1) H'
theorem i_l_press {K : PySem.W.Frag} {o : Addr} {key sg : List Nat} {s : Pg} {H : Hp} {Q : VK} {E : XK} (ho : H o = some (ow s)) (hk : KeyOk key sg) (hs : s.ok 900) (q : ∀ H', Kp [o] H H' → H' o = some (ow (stk key s).2) → Q (.bl (stk key s).1) H') : sp_l_press K [.ref o, .str (S key)] H Q E := by
  exact ⟨⟨o, key, sg, s, rfl, ho, hk, hs, q⟩⟩

def t_l_press (K : PySem.W.Frag) (W : WX) : TS :=
  (tSeq (tAsg (tOp (zIxP K) (tV 1) (tC (.int 0))) (gName 2))
  (tSeq (tAsg (tSl (zSlP K) (tOp (zIxP K) (tV 0) (tC (.int 0))) (tPrt (tOp (zIxP K) (tV 0) (tC (.int 1)))) tNoPart) (gName 3))
  (tSeq (tIfP (tTst (tOp (zEqP K) (tV 2) (tC (.str (S [109]))))) (tAsg (tOp (zIxP K) (tV 0) (tC (.int 1))) (gSub (tV 0) (tC (.int 2)) zSetP)) (tIfP (tTst (tOp (zEqP K) (tV 2) (tC (.str (S [39]))))) (tDrop (tCal (sp_l_insert K) [] W (tCons (tV 0) (tCons (tOp (zIxP K) (tV 1) (tC (.int 1))) tNil)))) (tIfP (tTst (tOp (zEqP K) (tV 2) (tC (.str (S [119]))))) (tDrop (tCal (sp_l_pass K) [] W (tCons (tV 0) (tCons (tCB (zLen K) (tCons (tOp (zIxP K) (tSM (zPartition) (tV 3) (tCons (tC (.str (S [45]))) tNil)) (tC (.int 0))) tNil)) tNil)))) (tIfP (tTst (tOp (zEqP K) (tV 2) (tC (.str (S [47]))))) (tSeq (tAsg (tSM (zFind) (tV 3) (tCons (tOp (zIxP K) (tV 1) (tC (.int 1))) tNil)) (gName 4))
  (tSeq (tDrop (tCal (sp_l_pass K) [] W (tCons (tV 0) (tCons (tOp (zIxP K) (tLst (tCons (tV 4) (tCons (tCB (zLen K) (tCons (tV 3) tNil)) tNil))) (tCB (zInt) (tCons (tOp zLt (tV 4) (tC (.int 0))) tNil))) tNil))))
  (tRet (tOp zGe (tV 4) (tC (.int 0)))))) (tIfP (tTst (tOp (zEqP K) (tV 2) (tC (.str (S [61]))))) (tRet (tOp (zEqP K) (tSl (zSlP K) (tV 3) tNoPart (tPrt (tC (.int 1)))) (tOp (zIxP K) (tV 1) (tC (.int 1))))) (tIfP (tTst (tOp (zEqP K) (tV 2) (tC (.str (S [94]))))) (tRet (tOrE K (tOp (zEqP K) (tOp (zIxP K) (tV 0) (tC (.int 1))) (tC (.int 0))) (tOp (zEqP K) (tOp (zIxP K) (tOp (zIxP K) (tV 0) (tC (.int 0))) (tOp zSub (tOp (zIxP K) (tV 0) (tC (.int 1))) (tC (.int 1)))) (tC (.str (S [45])))))) (tIfP (tTst (tOp (zEqP K) (tV 2) (tC (.str (S [112]))))) (tSeq (tIfP (tTst (tOp (zEqP K) (tOp (zIxP K) (tV 0) (tC (.int 3))) (tC (.str (S []))))) (tRet (tC (.bl false))) tNext)
  (tDrop (tCal (sp_l_insert K) [] W (tCons (tV 0) (tCons (tOp (zIxP K) (tV 0) (tC (.int 3))) tNil))))) (tIfP (tTst (tOp (zInP K) (tV 2) (tC (.str (S [62, 120]))))) (tSeq (tIfP (tTst (tOp (zEqP K) (tV 3) (tC (.str (S []))))) (tRet (tC (.bl false))) tNext)
  (tIfP (tTst (tOp (zEqP K) (tV 2) (tC (.str (S [62]))))) (tDrop (tCal (sp_l_pass K) [] W (tCons (tV 0) (tCons (tC (.int 1)) tNil)))) (tAsg (tOp zAdd (tSl (zSlP K) (tOp (zIxP K) (tV 0) (tC (.int 0))) tNoPart (tPrt (tOp (zIxP K) (tV 0) (tC (.int 1))))) (tSl (zSlP K) (tV 3) (tPrt (tC (.int 1))) tNoPart)) (gSub (tV 0) (tC (.int 0)) zSetP)))) (tSeq (tIfP (tTst (tOp zIsB (tOp (zIxP K) (tV 0) (tC (.int 2))) (tC .non))) (tRet (tC (.bl false))) tNext)
  (tSeq (tAsg (tSl (zSlP K) (tOp (zIxP K) (tV 0) (tC (.int 0))) (tPrt (tOp (zIxP K) (tV 0) (tC (.int 2)))) (tPrt (tOp (zIxP K) (tV 0) (tC (.int 1))))) (gSub (tV 0) (tC (.int 3)) zSetP))
  (tIfP (tTst (tOp (zEqP K) (tV 2) (tC (.str (S [99]))))) (tSeq (tAsg (tOp zAdd (tSl (zSlP K) (tOp (zIxP K) (tV 0) (tC (.int 0))) tNoPart (tPrt (tOp (zIxP K) (tV 0) (tC (.int 2))))) (tV 3)) (gSub (tV 0) (tC (.int 0)) zSetP))
  (tAsg (tOp (zIxP K) (tV 0) (tC (.int 2))) (gSub (tV 0) (tC (.int 1)) zSetP))) tNext)))))))))))
  (tRet (tC (.bl true))))))
theorem tm_l_press {P : Program} {w : World} {K : PySem.W.Frag} {mg : Str → Option Value} {base : Heap} {f : Addr} {cdv : Value} {A : Around} {outer : List Env} {s : Shared} {H : Hp} {E : XK} (T : Tx K mg) (G_l_insert : Fn P w K mg base "_law_insert" 7 [] (sp_l_insert K)) (G_l_pass : Fn P w K mg base "_law_pass" 5 [] (sp_l_pass K)) (hr : Room 8 (A.deeper (envOfC "_law_press" (defScope s_l_press) s.heap.objs.size f cdv))) :
    PSs (cxOf (L2.CX P w) P w K mg base ["_law_page", "_law_key", "_law_head", "_law_rest", "_law_count"] "_law_press" (defScope s_l_press) f cdv A outer s H E) (defBody s_l_press) (t_l_press K (WD E)) :=
  (pss_cons (pset 2 sc_l_press.nd (pix (Ta.pv 1) pe_int))
  (pss_cons (pset 3 sc_l_press.nd (psl (pix (Ta.pv 0) pe_int) (posome (pix (Ta.pv 0) pe_int)) po_none))
  (pss_cons (psif (ptcmp (opeq hr.units) (Ta.pv 2) (pstr [109])) (pss_one (psub (pix (Ta.pv 0) pe_int) (Ta.pv 0) pe_int)) (pss_one (psif (ptcmp (opeq hr.units) (Ta.pv 2) (pstr [39])) (pss_one (ps_expr (pcall G_l_insert (hr.mono (by decide)) takesD (pa_cons (Ta.pv 0) (pa_cons (pix (Ta.pv 1) pe_int) pa_nil))))) (pss_one (psif (ptcmp (opeq hr.units) (Ta.pv 2) (pstr [119])) (pss_one (ps_expr (pcall G_l_pass (hr.mono (by decide)) takesD (pa_cons (Ta.pv 0) (pa_cons (pcb (crlen) T.f_len (pa_cons (pix (psm PySem.F.slot_str_partition PySem.F.type_str_partition mtpart (Ta.pv 3) (pa_cons (pstr [45]) pa_nil)) pe_int) pa_nil)) pa_nil))))) (pss_one (psif (ptcmp (opeq hr.units) (Ta.pv 2) (pstr [47])) (pss_cons (pset 4 sc_l_press.nd (psm PySem.F.slot_str_find PySem.F.type_str_find mtfind (Ta.pv 3) (pa_cons (pix (Ta.pv 1) pe_int) pa_nil)))
  (pss_cons (ps_expr (pcall G_l_pass (hr.mono (by decide)) takesD (pa_cons (Ta.pv 0) (pa_cons (pix (pe_lst (pa_cons (Ta.pv 4) (pa_cons (pcb (crlen) T.f_len (pa_cons (Ta.pv 3) pa_nil)) pa_nil))) (pct (crint) T.f_int (pa_cons (pe_cmpR oplt (Ta.pv 4) pe_int rfl) pa_nil))) pa_nil))))
  (pss_one (ps_ret (pe_cmpR opge (Ta.pv 4) pe_int rfl))))) (pss_one (psif (ptcmp (opeq hr.units) (Ta.pv 2) (pstr [61])) (pss_one (ps_ret (pe_cmpR (opeq hr.units) (psl (Ta.pv 3) po_none (posome pe_int)) (pix (Ta.pv 1) pe_int) rfl))) (pss_one (psif (ptcmp (opeq hr.units) (Ta.pv 2) (pstr [94])) (pss_one (ps_ret (peor (pe_cmpR (opeq hr.units) (pix (Ta.pv 0) pe_int) pe_int rfl) (pe_one (pe_cmpR (opeq hr.units) (pix (pix (Ta.pv 0) pe_int) (pe_op opsub (pix (Ta.pv 0) pe_int) pe_int)) (pstr [45]) rfl))))) (pss_one (psif (ptcmp (opeq hr.units) (Ta.pv 2) (pstr [112])) (pss_cons (psif (ptcmp (opeq hr.units) (pix (Ta.pv 0) pe_int) (pstr [])) (pss_one (ps_ret pe_bl)) pss_nil)
  (pss_one (ps_expr (pcall G_l_insert (hr.mono (by decide)) takesD (pa_cons (Ta.pv 0) (pa_cons (pix (Ta.pv 0) pe_int) pa_nil)))))) (pss_one (psif (ptcmp opin (Ta.pv 2) (pstr [62, 120])) (pss_cons (psif (ptcmp (opeq hr.units) (Ta.pv 3) (pstr [])) (pss_one (ps_ret pe_bl)) pss_nil)
  (pss_one (psif (ptcmp (opeq hr.units) (Ta.pv 2) (pstr [62])) (pss_one (ps_expr (pcall G_l_pass (hr.mono (by decide)) takesD (pa_cons (Ta.pv 0) (pa_cons pe_int pa_nil))))) (pss_one (psub (pe_op opadd (psl (pix (Ta.pv 0) pe_int) po_none (posome (pix (Ta.pv 0) pe_int))) (psl (Ta.pv 3) (posome pe_int) po_none)) (Ta.pv 0) pe_int))))) (pss_cons (psif (ptcmp opisb (pix (Ta.pv 0) pe_int) pe_non) (pss_one (ps_ret pe_bl)) pss_nil)
  (pss_cons (psub (psl (pix (Ta.pv 0) pe_int) (posome (pix (Ta.pv 0) pe_int)) (posome (pix (Ta.pv 0) pe_int))) (Ta.pv 0) pe_int)
  (pss_one (psif (ptcmp (opeq hr.units) (Ta.pv 2) (pstr [99])) (pss_cons (psub (pe_op opadd (psl (pix (Ta.pv 0) pe_int) po_none (posome (pix (Ta.pv 0) pe_int))) (Ta.pv 3)) (Ta.pv 0) pe_int)
  (pss_one (psub (pix (Ta.pv 0) pe_int) (Ta.pv 0) pe_int))) pss_nil)))))))))))))))))))
  (pss_one (ps_ret pe_bl)))))
/-! _law_worked -/
abbrev s_l_worked : Stmt := top 29
theorem sc_l_worked : FnScope ["_law_page", "_law_own", "_law_key", "_law_told", "_law_due"] ["_law_page", "_law_own", "_law_key"] (defScope s_l_worked) := ⟨rfl, rfl, rfl, by decide +kernel, rfl, by decide +kernel, by decide +kernel⟩
structure sp_l_worked (K : PySem.W.Frag) (vs : List V) (H : Hp) (Q : VK) (E : XK) : Prop where
  out : ∃ (x dx A dA o : Addr) (l v : List Nat) (s : Pg) (key : List Nat), vs = [.ref x, .ref o, .str (S key)] ∧ H x = some (pgo K A dx s) ∧ H o = some (ow s) ∧ H A = some (alo K dA l v) ∧ KeyOk key (45 :: srt l) ∧ s.ok 900 ∧ ∀ H', Kp [x, o] H H' → H' x = some (pgo K A dx (stk key s).2) → H' o = some (ow (stk key s).2) → Q (.bl true) H'
theorem i_l_worked {K : PySem.W.Frag} {x dx A dA o : Addr} {l v key : List Nat} {s : Pg} {H : Hp} {Q : VK} {E : XK} (hx : H x = some (pgo K A dx s)) (ho : H o = some (ow s)) (hA : H A = some (alo K dA l v)) (hk : KeyOk key (45 :: srt l)) (hs : s.ok 900) (q : ∀ H', Kp [x, o] H H' → H' x = some (pgo K A dx (stk key s).2) → H' o = some (ow (stk key s).2) → Q (.bl true) H') : sp_l_worked K [.ref x, .ref o, .str (S key)] H Q E := by
  exact ⟨⟨x, dx, A, dA, o, l, v, s, key, rfl, hx, ho, hA, hk, hs, q⟩⟩

def t_l_worked (K : PySem.W.Frag) (W : WX) : TS :=
  (tSeq (tAsg (tMe [(He.ga K "Page", [], sp_Page_press K)] "press" W (tV 0) (tCons (tV 2) tNil)) (gName 3))
  (tSeq (tAsg (tCal (sp_l_press K) [] W (tCons (tV 1) (tCons (tV 2) tNil))) (gName 4))
  (tRet (tAndE K (tCB (zIsa K) (tCons (tV 3) (tCons (tC (.ty "bool")) tNil))) (tOp (zEqP K) (tV 3) (tV 4))))))
theorem tm_l_worked {P : Program} {w : World} {K : PySem.W.Frag} {mg : Str → Option Value} {base : Heap} {f : Addr} {cdv : Value} {A : Around} {outer : List Env} {s : Shared} {H : Hp} {E : XK} (T : Tx K mg) (G_Page_press : Me P w K mg base (He.ga K "Page") "press" 9 [] (sp_Page_press K)) (G_l_press : Fn P w K mg base "_law_press" 9 [] (sp_l_press K)) (hr : Room 10 (A.deeper (envOfC "_law_worked" (defScope s_l_worked) s.heap.objs.size f cdv))) :
    PSs (cxOf (L2.CX P w) P w K mg base ["_law_page", "_law_own", "_law_key", "_law_told", "_law_due"] "_law_worked" (defScope s_l_worked) f cdv A outer s H E) (defBody s_l_worked) (t_l_worked K (WD E)) :=
  (pss_cons (pset 3 sc_l_worked.nd (pmeth (ms := [(He.ga K "Page", [], sp_Page_press K)]) (fun e he => by obtain rfl := List.mem_singleton.mp he; exact G_Page_press) (hr.mono (by decide)) takesD (Ta.pv 0) (pa_cons (Ta.pv 2) pa_nil)))
  (pss_cons (pset 4 sc_l_worked.nd (pcall G_l_press (hr.mono (by decide)) takesD (pa_cons (Ta.pv 1) (pa_cons (Ta.pv 2) pa_nil))))
  (pss_one (ps_ret (peand (pcb (crisa) T.f_isinstance (pa_cons (Ta.pv 3) (pa_cons (pbty T.f_bool) pa_nil))) (pe_one (pe_cmpR (opeq hr.units) (Ta.pv 3) (Ta.pv 4) rfl)))))))
/-! _law_pressed -/
abbrev s_l_pressed : Stmt := top 32
theorem sc_l_pressed : FnScope ["_law_alphabet", "_law_text_here", "_law_row", "_law_key", "_law_page", "_law_own", "_law_one", "_law_turn"] ["_law_alphabet", "_law_text_here", "_law_row", "_law_key"] (defScope s_l_pressed) := ⟨rfl, rfl, rfl, by decide +kernel, rfl, by decide +kernel, by decide +kernel⟩
structure sp_l_pressed (K : PySem.W.Frag) (vs : List V) (H : Hp) (Q : VK) (E : XK) : Prop where
  out : ∃ (A dA r : Addr) (l v t key : List Nat) (ks : List (List Nat)), vs = [.ref A, .str (S t), .ref r, .str (S key)] ∧ H A = some (alo K dA l v) ∧ H r = some (ksl ks) ∧ (∀ c ∈ t, c ∈ 45 :: srt l) ∧ t.length ≤ 60 ∧ ks.length ≤ 190 ∧ (∀ k ∈ ks, ∀ sg, KeyOk k sg) ∧ KeyOk key (45 :: srt l) ∧ ∀ H', Kp [] H H' → Q (.bl true) H'
theorem i_l_pressed {K : PySem.W.Frag} {A dA r : Addr} {l v t key : List Nat} {ks : List (List Nat)} {H : Hp} {Q : VK} {E : XK} (hA : H A = some (alo K dA l v)) (hr : H r = some (ksl ks)) (ht : ∀ c ∈ t, c ∈ 45 :: srt l) (h1 : t.length ≤ 60) (h2 : ks.length ≤ 190) (h3 : ∀ k ∈ ks, ∀ sg, KeyOk k sg) (h4 : KeyOk key (45 :: srt l)) (q : ∀ H', Kp [] H H' → Q (.bl true) H') : sp_l_pressed K [.ref A, .str (S t), .ref r, .str (S key)] H Q E := by
  exact ⟨⟨A, dA, r, l, v, t, key, ks, rfl, hA, hr, ht, h1, h2, h3, h4, q⟩⟩

def b_l_pressed_1 (K : PySem.W.Frag) (W : WX) : TS :=
  (tIfP (tNot (tTru K (tCal (sp_l_worked K) [] W (tCons (tV 4) (tCons (tV 5) (tCons (tV 6) tNil)))))) (tRet (tC (.bl false))) tNext)
def b_l_pressed_2 (K : PySem.W.Frag) (W : WX) : TS :=
  (tIfP (tOrP (tNot (tTru K (tCal (sp_l_same K) [] W (tCons (tV 4) (tCons (tV 5) tNil))))) (tNot (tTru K (tCal (sp_l_worked K) [] W (tCons (tV 4) (tCons (tV 5) (tCons (tV 3) tNil))))))) (tRet (tC (.bl false))) tNext)
def t_l_pressed (K : PySem.W.Frag) (W : WX) : TS :=
  (tSeq (tAsg (tMak (He.ga K "Page") (sp_Page_init K) [] W (tCons (tV 0) (tCons (tV 1) tNil))) (gName 4))
  (tSeq (tAsg (tLst (tCons (tV 1) (tCons (tC (.int 0)) (tCons (tC .non) (tCons (tC (.str (S []))) tNil))))) (gName 5))
  (tSeq (tIfP (tOrP (tNot (tTru K (tCal (sp_l_same K) [] W (tCons (tV 4) (tCons (tV 5) tNil))))) (tNot (tTst (tOp (zOwn (He.ga K "Alphabet") (sp_Alphabet_eq K)) (tAt K (tV 4) "alphabet") (tV 0))))) (tRet (tC (.bl false))) tNext)
  (tSeq (tForP (jA K (tV 2)) (gName 6) (b_l_pressed_1 K W))
  (tSeq (tForP (jR1 (tCons (tC (.int 2)) tNil)) (gName 7) (b_l_pressed_2 K W))
  (tRet (tCal (sp_l_same K) [] W (tCons (tV 4) (tCons (tV 5) tNil)))))))))
theorem tm_l_pressed {P : Program} {w : World} {K : PySem.W.Frag} {mg : Str → Option Value} {base : Heap} {f : Addr} {cdv : Value} {A : Around} {outer : List Env} {s : Shared} {H : Hp} {E : XK} (T : Tx K mg) (G_Alphabet___eq__ : Me P w K mg base (He.ga K "Alphabet") "__eq__" 5 [] (sp_Alphabet_eq K)) (G_Page : Mks P w K mg base "Page" (He.ga K "Page") 9 [] (sp_Page_init K)) (G_l_same : Fn P w K mg base "_law_same" 7 [] (sp_l_same K)) (G_l_worked : Fn P w K mg base "_law_worked" 11 [] (sp_l_worked K)) (hr : Room 12 (A.deeper (envOfC "_law_pressed" (defScope s_l_pressed) s.heap.objs.size f cdv))) :
    PSs (cxOf (L2.CX P w) P w K mg base ["_law_alphabet", "_law_text_here", "_law_row", "_law_key", "_law_page", "_law_own", "_law_one", "_law_turn"] "_law_pressed" (defScope s_l_pressed) f cdv A outer s H E) (defBody s_l_pressed) (t_l_pressed K (WD E)) :=
  (pss_cons (pset 4 sc_l_pressed.nd (pmak G_Page (hr.mono (by decide)) takesD (pa_cons (Ta.pv 0) (pa_cons (Ta.pv 1) pa_nil))))
  (pss_cons (pset 5 sc_l_pressed.nd (pe_lst (pa_cons (Ta.pv 1) (pa_cons pe_int (pa_cons pe_non (pa_cons (pstr []) pa_nil))))))
  (pss_cons (psif (PW.pt (pwor (pt_not (ptru (pcall G_l_same (hr.mono (by decide)) takesD (pa_cons (Ta.pv 4) (pa_cons (Ta.pv 5) pa_nil))))) (pw_or1 (pt_not (ptcmp (opown G_Alphabet___eq__ (hr.mono (by decide))) (patt (Ta.pv 4)) (Ta.pv 0)))))) (pss_one (ps_ret pe_bl)) pss_nil)
  (pss_cons (psfor ownD rfl (pja (Ta.pv 2)) (pgn 6 sc_l_pressed.nd) (pss_one (psif (pt_not (ptru (pcall G_l_worked (hr.mono (by decide)) takesD (pa_cons (Ta.pv 4) (pa_cons (Ta.pv 5) (pa_cons (Ta.pv 6) pa_nil)))))) (pss_one (ps_ret pe_bl)) pss_nil)))
  (pss_cons (psfor ownD rfl (pjr1 T.f_range (pa_cons pe_int pa_nil)) (pgn 7 sc_l_pressed.nd) (pss_one (psif (PW.pt (pwor (pt_not (ptru (pcall G_l_same (hr.mono (by decide)) takesD (pa_cons (Ta.pv 4) (pa_cons (Ta.pv 5) pa_nil))))) (pw_or1 (pt_not (ptru (pcall G_l_worked (hr.mono (by decide)) takesD (pa_cons (Ta.pv 4) (pa_cons (Ta.pv 5) (pa_cons (Ta.pv 3) pa_nil))))))))) (pss_one (ps_ret pe_bl)) pss_nil)))
  (pss_one (ps_ret (pcall G_l_same (hr.mono (by decide)) takesD (pa_cons (Ta.pv 4) (pa_cons (Ta.pv 5) pa_nil))))))))))
/-! _law_take -/
abbrev s_l_take : Stmt := top 19
theorem sc_l_take : FnScope ["_law_box_here", "_law_size_here", "_law_digit", "_law_cells", "_law_mixed"] ["_law_box_here", "_law_size_here"] (defScope s_l_take) := ⟨rfl, rfl, rfl, by decide +kernel, rfl, by decide +kernel, by decide +kernel⟩
structure sp_l_take (K : PySem.W.Frag) (vs : List V) (H : Hp) (Q : VK) (E : XK) : Prop where
  out : ∃ (p q : Addr) (n a b : Int) (cs : List Int), vs = [.ref p, .int n] ∧ H p = some (bx a b q) ∧ H q = some (cel cs) ∧ okc cs ∧ 0 < n ∧ n < 1073741824 ∧ ∀ r a' b', 0 ≤ r → r < n → Q (.int r) (upd H p (bx a' b' q))
theorem i_l_take {K : PySem.W.Frag} {p q : Addr} {n a b : Int} {cs : List Int} {H : Hp} {Q : VK} {E : XK} (hp : H p = some (bx a b q)) (hq : H q = some (cel cs)) (hc : okc cs) (h0 : 0 < n) (h1 : n < 1073741824) (k : ∀ r a' b', 0 ≤ r → r < n → Q (.int r) (upd H p (bx a' b' q))) : sp_l_take K [.ref p, .int n] H Q E := by
  exact ⟨⟨p, q, n, a, b, cs, rfl, hp, hq, hc, h0, h1, k⟩⟩

def t_l_take (K : PySem.W.Frag) (W : WX) : TS :=
  (tSeq (tIfP (tTst (tOp zGt (tOp (zIxP K) (tV 0) (tC (.int 0))) (tC (.int 0)))) (tSeq (tAsg (tOp zMod (tCB (zInt) (tCons (tOp (zIxP K) (tV 0) (tC (.int 0))) tNil)) (tV 1)) (gName 2))
  (tSeq (tAsg (tOp zDiv (tCB (zInt) (tCons (tOp (zIxP K) (tV 0) (tC (.int 0))) tNil)) (tV 1)) (gSub (tV 0) (tC (.int 0)) zSetP))
  (tRet (tV 2)))) tNext)
  (tSeq (tAsg (tOp zAdd (tOp (zIxP K) (tV 0) (tC (.int 1))) (tC (.int 1))) (gSub (tV 0) (tC (.int 1)) zSetP))
  (tSeq (tAsg (tOp (zIxP K) (tV 0) (tC (.int 2))) (gName 3))
  (tSeq (tAsg (tOp zMod (tCB (zInt) (tCons (tOp zMul (tOp (zIxP K) (tV 3) (tOp zMod (tCB (zInt) (tCons (tOp (zIxP K) (tV 0) (tC (.int 1))) tNil)) (tCB (zLen K) (tCons (tV 3) tNil)))) (tOp zAdd (tC (.int 48271)) (tOp zMul (tOp (zIxP K) (tV 0) (tC (.int 1))) (tC (.int 69621))))) tNil)) (tC (.int 2147483647))) (gName 4))
  (tSeq (tAsg (tOp zMod (tCB (zInt) (tCons (tOp zMul (tV 4) (tOp zAdd (tOp zDiv (tV 4) (tC (.int 1024))) (tOp (zIxP K) (tV 0) (tC (.int 1))))) tNil)) (tC (.int 2147483399))) (gName 4))
  (tRet (tOp zMod (tCB (zInt) (tCons (tOp zDiv (tV 4) (tC (.int 16))) tNil)) (tV 1))))))))
theorem tm_l_take {P : Program} {w : World} {K : PySem.W.Frag} {mg : Str → Option Value} {base : Heap} {f : Addr} {cdv : Value} {A : Around} {outer : List Env} {s : Shared} {H : Hp} {E : XK} (T : Tx K mg) (hr : Room 4 (A.deeper (envOfC "_law_take" (defScope s_l_take) s.heap.objs.size f cdv))) :
    PSs (cxOf (L2.CX P w) P w K mg base ["_law_box_here", "_law_size_here", "_law_digit", "_law_cells", "_law_mixed"] "_law_take" (defScope s_l_take) f cdv A outer s H E) (defBody s_l_take) (t_l_take K (WD E)) :=
  (pss_cons (psif (ptcmp opgt (pix (Ta.pv 0) pe_int) pe_int) (pss_cons (pset 2 sc_l_take.nd (pe_op opmod (pct (crint) T.f_int (pa_cons (pix (Ta.pv 0) pe_int) pa_nil)) (Ta.pv 1)))
  (pss_cons (psub (pe_op opdiv (pct (crint) T.f_int (pa_cons (pix (Ta.pv 0) pe_int) pa_nil)) (Ta.pv 1)) (Ta.pv 0) pe_int)
  (pss_one (ps_ret (Ta.pv 2))))) pss_nil)
  (pss_cons (psub (pe_op opadd (pix (Ta.pv 0) pe_int) pe_int) (Ta.pv 0) pe_int)
  (pss_cons (pset 3 sc_l_take.nd (pix (Ta.pv 0) pe_int))
  (pss_cons (pset 4 sc_l_take.nd (pe_op opmod (pct (crint) T.f_int (pa_cons (pe_op opmul (pix (Ta.pv 3) (pe_op opmod (pct (crint) T.f_int (pa_cons (pix (Ta.pv 0) pe_int) pa_nil)) (pcb (crlen) T.f_len (pa_cons (Ta.pv 3) pa_nil)))) (pe_op opadd pe_int (pe_op opmul (pix (Ta.pv 0) pe_int) pe_int))) pa_nil)) pe_int))
  (pss_cons (pset 4 sc_l_take.nd (pe_op opmod (pct (crint) T.f_int (pa_cons (pe_op opmul (Ta.pv 4) (pe_op opadd (pe_op opdiv (Ta.pv 4) pe_int) (pix (Ta.pv 0) pe_int))) pa_nil)) pe_int))
  (pss_one (ps_ret (pe_op opmod (pct (crint) T.f_int (pa_cons (pe_op opdiv (Ta.pv 4) pe_int) pa_nil)) (Ta.pv 1)))))))))
/-! _law_string -/
abbrev s_l_string : Stmt := top 34
theorem sc_l_string : FnScope ["_law_box_here", "_law_signs", "_law_chars", "_law_string_here", "_law_turn", "_law_menu"] ["_law_box_here", "_law_signs"] (defScope s_l_string) := ⟨rfl, rfl, rfl, by decide +kernel, rfl, by decide +kernel, by decide +kernel⟩
structure sp_l_string (K : PySem.W.Frag) (vs : List V) (H : Hp) (Q : VK) (E : XK) : Prop where
  out : ∃ (p q : Addr) (a b : Int) (cs : List Int) (g : List Nat), vs = [.ref p, .str (S g)] ∧ H p = some (bx a b q) ∧ H q = some (cel cs) ∧ okc cs ∧ g ≠ [] ∧ g.length < 1000 ∧ ∀ (u : List Nat) a' b' H', u.length ≤ 3 → Kp [p] H H' → H' p = some (bx a' b' q) → Q (.str (S u)) H'
theorem i_l_string {K : PySem.W.Frag} {p q : Addr} {a b : Int} {cs : List Int} {g : List Nat} {H : Hp} {Q : VK} {E : XK} (hp : H p = some (bx a b q)) (hq : H q = some (cel cs)) (hc : okc cs) (hg : g ≠ []) (hg2 : g.length < 1000) (k : ∀ (u : List Nat) a' b' H', u.length ≤ 3 → Kp [p] H H' → H' p = some (bx a' b' q) → Q (.str (S u)) H') : sp_l_string K [.ref p, .str (S g)] H Q E := by
  exact ⟨⟨p, q, a, b, cs, g, rfl, hp, hq, hc, hg, hg2, k⟩⟩

def b_l_string_1 (K : PySem.W.Frag) (W : WX) : TS :=
  (tSeq (tAsg (tOp (zIxP K) (tLst (tCons (tV 2) (tCons (tC (.str (S [39, 61, 47, 62, 120, 119, 94, 109, 107, 99, 112]))) (tCons (tV 1) tNil)))) (tCal (sp_l_take K) [] W (tCons (tV 0) (tCons (tC (.int 3)) tNil)))) (gName 5))
  (tAsg (tOp zAdd (tV 3) (tOp (zIxP K) (tV 5) (tCal (sp_l_take K) [] W (tCons (tV 0) (tCons (tCB (zLen K) (tCons (tV 5) tNil)) tNil))))) (gName 3)))
def t_l_string (K : PySem.W.Frag) (W : WX) : TS :=
  (tSeq (tAsg (tC (.str (S [32, 33, 34, 35, 36, 38, 39, 40, 41, 42, 43, 44, 45, 46, 47, 48, 49, 50, 51, 52, 53, 54, 55, 56, 57, 58, 59, 60, 61, 62, 63, 64, 65, 66, 67, 68, 69, 70, 71, 72, 73, 74, 75, 76, 77, 78, 79, 80, 81, 82, 83, 84, 85, 86, 87, 88, 89, 90, 91, 92, 93, 94, 95, 96]))) (gName 2))
  (tSeq (tAsg (tOp zAdd (tV 2) (tC (.str (S [97, 98, 99, 100, 101, 102, 103, 104, 105, 106, 107, 108, 109, 110, 111, 112, 113, 114, 115, 116, 117, 118, 119, 120, 121, 122, 123, 124, 125, 126])))) (gName 2))
  (tSeq (tAsg (tC (.str (S []))) (gName 3))
  (tSeq (tForP (jR1 (tCons (tCal (sp_l_take K) [] W (tCons (tV 0) (tCons (tC (.int 4)) tNil))) tNil)) (gName 4) (b_l_string_1 K W))
  (tRet (tV 3))))))
theorem tm_l_string {P : Program} {w : World} {K : PySem.W.Frag} {mg : Str → Option Value} {base : Heap} {f : Addr} {cdv : Value} {A : Around} {outer : List Env} {s : Shared} {H : Hp} {E : XK} (T : Tx K mg) (G_l_take : Fn P w K mg base "_law_take" 5 [] (sp_l_take K)) (hr : Room 6 (A.deeper (envOfC "_law_string" (defScope s_l_string) s.heap.objs.size f cdv))) :
    PSs (cxOf (L2.CX P w) P w K mg base ["_law_box_here", "_law_signs", "_law_chars", "_law_string_here", "_law_turn", "_law_menu"] "_law_string" (defScope s_l_string) f cdv A outer s H E) (defBody s_l_string) (t_l_string K (WD E)) :=
  (pss_cons (pset 2 sc_l_string.nd (pstr [32, 33, 34, 35, 36, 38, 39, 40, 41, 42, 43, 44, 45, 46, 47, 48, 49, 50, 51, 52, 53, 54, 55, 56, 57, 58, 59, 60, 61, 62, 63, 64, 65, 66, 67, 68, 69, 70, 71, 72, 73, 74, 75, 76, 77, 78, 79, 80, 81, 82, 83, 84, 85, 86, 87, 88, 89, 90, 91, 92, 93, 94, 95, 96]))
  (pss_cons (pset 2 sc_l_string.nd (pe_op opadd (Ta.pv 2) (pstr [97, 98, 99, 100, 101, 102, 103, 104, 105, 106, 107, 108, 109, 110, 111, 112, 113, 114, 115, 116, 117, 118, 119, 120, 121, 122, 123, 124, 125, 126])))
  (pss_cons (pset 3 sc_l_string.nd (pstr []))
  (pss_cons (psfor ownD rfl (pjr1 T.f_range (pa_cons (pcall G_l_take (hr.mono (by decide)) takesD (pa_cons (Ta.pv 0) (pa_cons pe_int pa_nil))) pa_nil)) (pgn 4 sc_l_string.nd) (pss_cons (pset 5 sc_l_string.nd (pix (pe_lst (pa_cons (Ta.pv 2) (pa_cons (pstr [39, 61, 47, 62, 120, 119, 94, 109, 107, 99, 112]) (pa_cons (Ta.pv 1) pa_nil)))) (pcall G_l_take (hr.mono (by decide)) takesD (pa_cons (Ta.pv 0) (pa_cons pe_int pa_nil)))))
  (pss_one (pset 3 sc_l_string.nd (pe_op opadd (Ta.pv 3) (pix (Ta.pv 5) (pcall G_l_take (hr.mono (by decide)) takesD (pa_cons (Ta.pv 0) (pa_cons (pcb (crlen) T.f_len (pa_cons (Ta.pv 5) pa_nil)) pa_nil)))))))))
  (pss_one (ps_ret (Ta.pv 3)))))))
/-! _law_refused -/
abbrev s_l_refused : Stmt := top 33
theorem sc_l_refused : FnScope ["_law_page", "_law_own", "_law_signs", "_law_string_here", "_law_single", "_law_raised", "bad"] ["_law_page", "_law_own", "_law_signs", "_law_string_here"] (defScope s_l_refused) := ⟨rfl, rfl, rfl, by decide +kernel, rfl, by decide +kernel, by decide +kernel⟩
structure sp_l_refused (K : PySem.W.Frag) (vs : List V) (H : Hp) (Q : VK) (E : XK) : Prop where
  out : ∃ (x dx A dA o : Addr) (l v u : List Nat) (s : Pg) (n : Nat), vs = [.ref x, .ref o, .str (S (45 :: srt l)), .str (S u)] ∧ H x = some (pgo K A dx s) ∧ H o = some (ow s) ∧ H A = some (alo K dA l v) ∧ u.length < 1000 ∧ s.ok n ∧ n < 800 ∧ l.length ≤ 4 ∧ ∀ s' H', Kp [x, o] H H' → s'.ok (n + 2) → H' x = some (pgo K A dx s') → H' o = some (ow s') → Q (.bl true) H'
theorem i_l_refused {K : PySem.W.Frag} {x dx A dA o : Addr} {l v u : List Nat} {s : Pg} {n : Nat} {H : Hp} {Q : VK} {E : XK} (hx : H x = some (pgo K A dx s)) (ho : H o = some (ow s)) (hA : H A = some (alo K dA l v)) (h1 : u.length < 1000) (hs : s.ok n) (hn : n < 800) (hl : l.length ≤ 4) (q : ∀ s' H', Kp [x, o] H H' → s'.ok (n + 2) → H' x = some (pgo K A dx s') → H' o = some (ow s') → Q (.bl true) H') : sp_l_refused K [.ref x, .ref o, .str (S (45 :: srt l)), .str (S u)] H Q E := by
  exact ⟨⟨x, dx, A, dA, o, l, v, u, s, n, rfl, hx, ho, hA, h1, hs, hn, hl, q⟩⟩

def t_l_refused (K : PySem.W.Frag) (W : WX) : TS :=
  (tSeq (tAsg (tAndE K (tOp (zEqP K) (tCB (zLen K) (tCons (tV 3) tNil)) (tC (.int 1))) (tOp (zInP K) (tV 3) (tC (.str (S [62, 120, 119, 94, 109, 107, 99, 112]))))) (gName 4))
  (tSeq (tIfP (tAndP (tTst (tOp (zEqP K) (tCB (zLen K) (tCons (tV 3) tNil)) (tC (.int 2)))) (tAndP (tTst (tOp (zInP K) (tOp (zIxP K) (tV 3) (tC (.int 0))) (tC (.str (S [39, 61, 47]))))) (tTst (tOp (zInP K) (tOp (zIxP K) (tV 3) (tC (.int 1))) (tV 2))))) (tAsg (tC (.bl true)) (gName 4)) tNext)
  (tSeq (tIfP (tTru K (tV 4)) (tRet (tAndE K (tCal (sp_l_worked K) [] W (tCons (tV 0) (tCons (tV 1) (tCons (tV 3) tNil)))) (tCal (sp_l_same K) [] W (tCons (tV 0) (tCons (tV 1) tNil))))) tNext)
  (tSeq (tAsg (tC (.bl false)) (gName 5))
  (tSeq (fun D0 σ0 H0 => (fun (W1 : WX) => (tDrop (tMe [(He.ga K "Page", [], sp_Page_press K)] "press" W1 (tV 0) (tCons (tV 3) tNil)))) (wAs K (.ref (He.ga K "BadKey")) 6 (fun a cls d => (tAsg (tAndE K (tCB (zIsX K a cls d) (tCons (tV 6) (tCons (tC (.ref (He.ga K "TaleError"))) tNil))) (tAndE K (tCB (zIsX K a cls d) (tCons (tV 6) (tCons (tC (.ty "ValueError")) tNil))) (tOp (zEqP K) (tXat K a cls d "key" (tV 6)) (tV 3)))) (gName 5))) W D0) D0 σ0 H0)
  (tRet (tAndE K (tV 5) (tCal (sp_l_same K) [] W (tCons (tV 0) (tCons (tV 1) tNil))))))))))
theorem tm_l_refused {P : Program} {w : World} {K : PySem.W.Frag} {mg : Str → Option Value} {base : Heap} {f : Addr} {cdv : Value} {A : Around} {outer : List Env} {s : Shared} {H : Hp} {E : XK} (T : Tx K mg) (G_Page_press : Me P w K mg base (He.ga K "Page") "press" 9 [] (sp_Page_press K)) (G_l_same : Fn P w K mg base "_law_same" 7 [] (sp_l_same K)) (G_l_worked : Fn P w K mg base "_law_worked" 11 [] (sp_l_worked K)) (hr : Room 12 (A.deeper (envOfC "_law_refused" (defScope s_l_refused) s.heap.objs.size f cdv))) :
    PSs (cxOf (L2.CX P w) P w K mg base ["_law_page", "_law_own", "_law_signs", "_law_string_here", "_law_single", "_law_raised", "bad"] "_law_refused" (defScope s_l_refused) f cdv A outer s H E) (defBody s_l_refused) (t_l_refused K (WD E)) :=
  (pss_cons (pset 4 sc_l_refused.nd (peand (pe_cmpR (opeq hr.units) (pcb (crlen) T.f_len (pa_cons (Ta.pv 3) pa_nil)) pe_int rfl) (pe_one (pe_cmpR opin (Ta.pv 3) (pstr [62, 120, 119, 94, 109, 107, 99, 112]) rfl))))
  (pss_cons (psif (PW.pt (pwand (ptcmp (opeq hr.units) (pcb (crlen) T.f_len (pa_cons (Ta.pv 3) pa_nil)) pe_int) (pwand (ptcmp opin (pix (Ta.pv 3) pe_int) (pstr [39, 61, 47])) (pw_and1 (ptcmp opin (pix (Ta.pv 3) pe_int) (Ta.pv 2)))))) (pss_one (pset 4 sc_l_refused.nd pe_bl)) pss_nil)
  (pss_cons (psif (ptru (Ta.pv 4)) (pss_one (ps_ret (peand (pcall G_l_worked (hr.mono (by decide)) takesD (pa_cons (Ta.pv 0) (pa_cons (Ta.pv 1) (pa_cons (Ta.pv 3) pa_nil)))) (pe_one (pcall G_l_same (hr.mono (by decide)) takesD (pa_cons (Ta.pv 0) (pa_cons (Ta.pv 1) pa_nil))))))) pss_nil)
  (pss_cons (pset 5 sc_l_refused.nd pe_bl)
  (pss_cons (ps_try_as (i := 6) rfl rfl sc_l_refused.nd rfl rfl (names_of T.v_BadKey) takesD (tb := fun W1 => (tDrop (tMe [(He.ga K "Page", [], sp_Page_press K)] "press" W1 (tV 0) (tCons (tV 3) tNil)))) (ts := fun a cls d => (tAsg (tAndE K (tCB (zIsX K a cls d) (tCons (tV 6) (tCons (tC (.ref (He.ga K "TaleError"))) tNil))) (tAndE K (tCB (zIsX K a cls d) (tCons (tV 6) (tCons (tC (.ty "ValueError")) tNil))) (tOp (zEqP K) (tXat K a cls d "key" (tV 6)) (tV 3)))) (gName 5))) (fun W1 pn xe tk1 _ => (pss_one (ps_expr (pmeth (ms := [(He.ga K "Page", [], sp_Page_press K)]) (fun e he => by obtain rfl := List.mem_singleton.mp he; exact G_Page_press) (hr.mono (by decide)) tk1 (Ta.pv 0) (pa_cons (Ta.pv 3) pa_nil))))) (fun a oe cls d pn hz hf => (pss_one (pset 5 sc_l_refused.nd (peand (pcb (crisx hz hf) T.f_isinstance (pa_cons (Ta.pv 6) (pa_cons (pglo T.v_TaleError) pa_nil))) (peand (pcb (crisx hz hf) T.f_isinstance (pa_cons (Ta.pv 6) (pa_cons (pbty T.f_ValueError) pa_nil))) (pe_one (pe_cmpR (opeq hr.units) (pxat hz hf (Ta.pv 6)) (Ta.pv 3) rfl))))))))
  (pss_one (ps_ret (peand (Ta.pv 5) (pe_one (pcall G_l_same (hr.mono (by decide)) takesD (pa_cons (Ta.pv 0) (pa_cons (Ta.pv 1) pa_nil))))))))))))
/-! _law_box -/
abbrev s_l_box : Stmt := top 18
theorem sc_l_box : FnScope ["_law_script", "_law_k", "_law_cells", "_law_cell", "_law_great"] ["_law_script", "_law_k"] (defScope s_l_box) := ⟨rfl, rfl, rfl, by decide +kernel, rfl, by decide +kernel, by decide +kernel⟩
structure sp_l_box (K : PySem.W.Frag) (vs : List V) (H : Hp) (Q : VK) (E : XK) : Prop where
  out : ∃ (p : Addr) (k : Int) (ob : Obj) (ns : List Int), vs = [.ref p, .int k] ∧ H p = some (scr ob ns) ∧ 0 ≤ k ∧ ns.length < 1000 ∧ ∀ b q a cs H', Kp [] H H' → H b = none → H q = none → q ≠ b → H' b = some (bx a 0 q) → H' q = some (cel cs) → okc cs → Q (.ref b) H'
theorem i_l_box {K : PySem.W.Frag} {p : Addr} {k : Int} {ob : Obj} {ns : List Int} {H : Hp} {Q : VK} {E : XK} (hp : H p = some (scr ob ns)) (h0 : 0 ≤ k) (h1 : ns.length < 1000) (q : ∀ b q a cs H', Kp [] H H' → H b = none → H q = none → q ≠ b → H' b = some (bx a 0 q) → H' q = some (cel cs) → okc cs → Q (.ref b) H') : sp_l_box K [.ref p, .int k] H Q E := by
  exact ⟨⟨p, k, ob, ns, rfl, hp, h0, h1, q⟩⟩

def t_l_box (K : PySem.W.Frag) (W : WX) : TS :=
  (tSeq (tAsg (tLcP (jA K (tSl (zSlP K) (tV 0) (tPrt (tV 1)) (tPrt (tC (.int 63))))) (gName 3) tYes (tCB (zInt) (tCons (tV 3) tNil)) [3]) (gName 2))
  (tSeq (tIfP (tNot (tTru K (tV 2))) (tAsg (tLst (tCons (tC (.int 0)) tNil)) (gName 2)) tNext)
  (tSeq (tAsg (tCB (zAbs) (tCons (tOp (zIxP K) (tV 2) (tC (.int 0))) tNil)) (gName 4))
  (tSeq (tIfP (tTst (tOp zLt (tV 4) (tOp zPow (tC (.int 10)) (tC (.int 18))))) (tAsg (tC (.int 0)) (gName 4)) tNext)
  (tRet (tLst (tCons (tV 4) (tCons (tC (.int 0)) (tCons (tLcP (jA K (tV 2)) (gName 3) tYes (tOp zMod (tCB (zInt) (tCons (tV 3) tNil)) (tC (.int 2305843009213693951))) [3]) tNil)))))))))
theorem tm_l_box {P : Program} {w : World} {K : PySem.W.Frag} {mg : Str → Option Value} {base : Heap} {f : Addr} {cdv : Value} {A : Around} {outer : List Env} {s : Shared} {H : Hp} {E : XK} (T : Tx K mg) (hr : Room 4 (A.deeper (envOfC "_law_box" (defScope s_l_box) s.heap.objs.size f cdv))) :
    PSs (cxOf (L2.CX P w) P w K mg base ["_law_script", "_law_k", "_law_cells", "_law_cell", "_law_great"] "_law_box" (defScope s_l_box) f cdv A outer s H E) (defBody s_l_box) (t_l_box K (WD E)) :=
  (pss_cons (pslc (i := 2) [("_law_cell", 3)] rfl sc_l_box.nd rfl rfl (sw_true rfl rfl rfl (by decide +kernel)) (pja (psl (Ta.pv 0) (posome (Ta.pv 1)) (posome pe_int))) (by kernel_rfl) (fun _ _ _ _ _ => (pgn 3 sc_l_box.nd)) (fun _ _ _ _ _ => pts_nil) (fun _ _ _ _ _ => (pct (crint) T.f_int (pa_cons (Ta.pv 3) pa_nil))))
  (pss_cons (psif (pt_not (ptru (Ta.pv 2))) (pss_one (pset 2 sc_l_box.nd (pe_lst (pa_cons pe_int pa_nil)))) pss_nil)
  (pss_cons (pset 4 sc_l_box.nd (pcb (crabs) T.f_abs (pa_cons (pix (Ta.pv 2) pe_int) pa_nil)))
  (pss_cons (psif (ptcmp oplt (Ta.pv 4) (pe_op oppow pe_int pe_int)) (pss_one (pset 4 sc_l_box.nd pe_int)) pss_nil)
  (pss_one (ps_ret (pe_lst (pa_cons (Ta.pv 4) (pa_cons pe_int (pa_cons (plc [("_law_cell", 3)] rfl sc_l_box.nd (pja (Ta.pv 2)) (by kernel_rfl) (fun _ _ _ _ _ => (pgn 3 sc_l_box.nd)) (fun _ _ _ _ _ => pts_nil) (fun _ _ _ _ _ => (pe_op opmod (pct (crint) T.f_int (pa_cons (Ta.pv 3) pa_nil)) pe_int))) pa_nil))))))))))
/-! _law_letters -/
abbrev s_l_letters : Stmt := top 21
theorem sc_l_letters : FnScope ["_law_box_here", "_law_count", "_law_pool", "_law_menu", "_law_letters_here", "_law_k", "_law_letter"] ["_law_box_here", "_law_count"] (defScope s_l_letters) := ⟨rfl, rfl, rfl, by decide +kernel, rfl, by decide +kernel, by decide +kernel⟩
structure sp_l_letters (K : PySem.W.Frag) (vs : List V) (H : Hp) (Q : VK) (E : XK) : Prop where
  out : ∃ (p q : Addr) (n a b : Int) (cs : List Int), vs = [.ref p, .int n] ∧ H p = some (bx a b q) ∧ H q = some (cel cs) ∧ okc cs ∧ 0 < n ∧ n ≤ 4 ∧ ∀ (l : List Nat) a' b' H', badL l = false → (l.length : Int) = n → Kp [p] H H' → H' p = some (bx a' b' q) → Q (.str (S l)) H'
theorem i_l_letters {K : PySem.W.Frag} {p q : Addr} {n a b : Int} {cs : List Int} {H : Hp} {Q : VK} {E : XK} (hp : H p = some (bx a b q)) (hq : H q = some (cel cs)) (hc : okc cs) (h0 : 0 < n) (h1 : n ≤ 4) (k : ∀ (l : List Nat) a' b' H', badL l = false → (l.length : Int) = n → Kp [p] H H' → H' p = some (bx a' b' q) → Q (.str (S l)) H') : sp_l_letters K [.ref p, .int n] H Q E := by
  exact ⟨⟨p, q, n, a, b, cs, rfl, hp, hq, hc, h0, h1, k⟩⟩

def b_l_letters_1 (K : PySem.W.Frag) (W : WX) : TS :=
  (tSeq (tAsg (tIx 2 (tCal (sp_l_take K) [] W (tCons (tV 0) (tCons (tOp (zIxP K) (tLst (tCons (tCB (zLen K) (tCons (tV 2) tNil)) (tCons (tOp zSub (tC (.int 6)) (tV 5)) tNil))) (tV 3)) tNil)))) (gName 6))
  (tSeq (tAsg (tRpE 2 6) (gName 2))
  (tAsg (tOp zAdd (tV 4) (tV 6)) (gName 4))))
def t_l_letters (K : PySem.W.Frag) (W : WX) : TS :=
  (tSeq (tAsg (tC (.str (S [120, 119, 109, 107, 99, 112, 97, 98, 100, 101, 102, 103, 104, 105, 106, 108, 110, 111, 113, 114, 115, 116, 117, 118, 121, 122]))) (gName 2))
  (tSeq (tAsg (tCal (sp_l_take K) [] W (tCons (tV 0) (tCons (tC (.int 2)) tNil))) (gName 3))
  (tSeq (tAsg (tC (.str (S []))) (gName 4))
  (tSeq (tForP (jR1 (tCons (tV 1) tNil)) (gName 5) (b_l_letters_1 K W))
  (tRet (tV 4))))))
theorem tm_l_letters {P : Program} {w : World} {K : PySem.W.Frag} {mg : Str → Option Value} {base : Heap} {f : Addr} {cdv : Value} {A : Around} {outer : List Env} {s : Shared} {H : Hp} {E : XK} (T : Tx K mg) (G_l_take : Fn P w K mg base "_law_take" 5 [] (sp_l_take K)) (hr : Room 6 (A.deeper (envOfC "_law_letters" (defScope s_l_letters) s.heap.objs.size f cdv))) :
    PSs (cxOf (L2.CX P w) P w K mg base ["_law_box_here", "_law_count", "_law_pool", "_law_menu", "_law_letters_here", "_law_k", "_law_letter"] "_law_letters" (defScope s_l_letters) f cdv A outer s H E) (defBody s_l_letters) (t_l_letters K (WD E)) :=
  (pss_cons (pset 2 sc_l_letters.nd (pstr [120, 119, 109, 107, 99, 112, 97, 98, 100, 101, 102, 103, 104, 105, 106, 108, 110, 111, 113, 114, 115, 116, 117, 118, 121, 122]))
  (pss_cons (pset 3 sc_l_letters.nd (pcall G_l_take (hr.mono (by decide)) takesD (pa_cons (Ta.pv 0) (pa_cons pe_int pa_nil))))
  (pss_cons (pset 4 sc_l_letters.nd (pstr []))
  (pss_cons (psfor ownD rfl (pjr1 T.f_range (pa_cons (Ta.pv 1) pa_nil)) (pgn 5 sc_l_letters.nd) (pssk_ix (ix := 6) (il := 2) sc_l_letters.nd (pen_call G_l_take (hr.mono (by decide)) takesD (pan_tl (Ta.pv 0) (pan_hd (pen_ix (pen_lst (pan_tl (pcb (crlen) T.f_len (pa_cons (Ta.pv 2) pa_nil)) (pan_hd (pen_op opsub pen_int (Ta.pv 5)) pa_nil))) (Ta.pv 3)) pa_nil)))
  (pssk_set (i := 2) sc_l_letters.nd (pek_replE (ix := 2) (io := 6))
  (pss_one (pset 4 sc_l_letters.nd (pe_op opadd (Ta.pv 4) (Ta.pv 6)))))))
  (pss_one (ps_ret (Ta.pv 4)))))))
/-! all_different -/
abbrev s_all_different : Stmt := top 12
theorem sc_all_different : FnScope ["string"] ["string"] (defScope s_all_different) := ⟨rfl, rfl, rfl, by decide +kernel, rfl, by decide +kernel, by decide +kernel⟩
structure sp_all_different (K : PySem.W.Frag) (vs : List V) (H : Hp) (Q : VK) (E : XK) : Prop where
  out : ∃ (l : List Nat), vs = [.str (S l)] ∧ l.length < 4000 ∧ Q (.bl (dif l)) H
theorem i_all_different {K : PySem.W.Frag} {l : List Nat} {H : Hp} {Q : VK} {E : XK} (h : l.length < 4000) (q : Q (.bl (dif l)) H) : sp_all_different K [.str (S l)] H Q E := by
  exact ⟨⟨l, rfl, h, q⟩⟩

def t_all_different (K : PySem.W.Frag) (W : WX) : TS :=
  (tRet (tOp (zEqP K) (tLset (tV 0)) (tCB (zLen K) (tCons (tV 0) tNil))))
theorem tm_all_different {P : Program} {w : World} {K : PySem.W.Frag} {mg : Str → Option Value} {base : Heap} {f : Addr} {cdv : Value} {A : Around} {outer : List Env} {s : Shared} {H : Hp} {E : XK} (T : Tx K mg) (hr : Room 4 (A.deeper (envOfC "all_different" (defScope s_all_different) s.heap.objs.size f cdv))) :
    PSs (cxOf (L2.CX P w) P w K mg base ["string"] "all_different" (defScope s_all_different) f cdv A outer s H E) (defBody s_all_different) (t_all_different K (WD E)) :=
  (pss_one (ps_ret (pe_cmpR (opeq hr.units) (plset rfl T.f_len T.f_set (Ta.pv 0)) (pcb (crlen) T.f_len (pa_cons (Ta.pv 0) pa_nil)) rfl)))
/-! Alphabet___init__ -/
abbrev s_Alphabet_init : Stmt := inClass (top 13) 2
theorem sc_Alphabet_init : FnScope ["self", "letters", "vowels", "foreign", "sign"] ["self", "letters", "vowels"] (defScope s_Alphabet_init) := ⟨rfl, rfl, rfl, by decide +kernel, rfl, by decide +kernel, by decide +kernel⟩
structure sp_Alphabet_init (K : PySem.W.Frag) (vs : List V) (H : Hp) (Q : VK) (E : XK) : Prop where
  out : ∃ (a dx : Addr) (l v : List Nat), vs = [.ref a, .str (S l), .str (S v)] ∧ H a = some (.ins (He.ga K "Alphabet") dx []) ∧ l.length < 64 ∧ v.length < 64 ∧
  (badL l = true → ∀ H' d, Kp [] H H' → H' d = none → E (.ref (He.ga K "BadAlphabet")) (some d) (upd H' d (.xd [("part", .str (S tLet))]))) ∧
  (badL l = false → badV l v = true → ∀ H' d, Kp [] H H' → H' d = none → E (.ref (He.ga K "BadAlphabet")) (some d) (upd H' d (.xd [("part", .str (S tVow))]))) ∧
  (badL l = false → badV l v = false → ∀ H', Kp [a] H H' → H' a = some (.ins (He.ga K "Alphabet") dx (alf l v)) → Q .non H')
theorem i_Alphabet_init {K : PySem.W.Frag} {a dx : Addr} {l v : List Nat} {H : Hp} {Q : VK} {E : XK} (ha : H a = some (.ins (He.ga K "Alphabet") dx [])) (h1 : l.length < 64) (h2 : v.length < 64)
  (q1 : badL l = true → ∀ H' d, Kp [] H H' → H' d = none → E (.ref (He.ga K "BadAlphabet")) (some d) (upd H' d (.xd [("part", .str (S tLet))])))
  (q2 : badL l = false → badV l v = true → ∀ H' d, Kp [] H H' → H' d = none → E (.ref (He.ga K "BadAlphabet")) (some d) (upd H' d (.xd [("part", .str (S tVow))])))
  (q3 : badL l = false → badV l v = false → ∀ H', Kp [a] H H' → H' a = some (.ins (He.ga K "Alphabet") dx (alf l v)) → Q .non H') : sp_Alphabet_init K [.ref a, .str (S l), .str (S v)] H Q E := by
  exact ⟨⟨a, dx, l, v, rfl, ha, h1, h2, q1, q2, q3⟩⟩
/-- good letters and vowels -/
theorem g_Alphabet_init {K : PySem.W.Frag} {a dx : Addr} {l v : List Nat} {H : Hp} {Q : VK} {E : XK} (ha : H a = some (.ins (He.ga K "Alphabet") dx [])) (h1 : l.length < 64) (h2 : v.length < 64) (e1 : badL l = false) (e2 : badV l v = false)
  (q3 : ∀ H', Kp [a] H H' → H' a = some (.ins (He.ga K "Alphabet") dx (alf l v)) → Q .non H') : sp_Alphabet_init K [.ref a, .str (S l), .str (S v)] H Q E := by
  refine i_Alphabet_init ha h1 h2 (fun z => ?_) (fun _ z => ?_) fun _ _ => q3
  · rw [e1] at z; cases z
  · rw [e2] at z; cases z

def t_Alphabet_init (K : PySem.W.Frag) (W : WX) : TS :=
  (tSeq (tAsg (tLcP (jA K (tV 1)) (gName 4) (tTst (tOp (zNinP K) (tV 4) (tC (.str (S [97, 98, 99, 100, 101, 102, 103, 104, 105, 106, 107, 108, 109, 110, 111, 112, 113, 114, 115, 116, 117, 118, 119, 120, 121, 122]))))) (tV 4) [4]) (gName 3))
  (tSeq (tIfP (tOrP (tTru K (tV 3)) (tOrP (tNot (tTst (tChn zLe zLe (tC (.int 1)) (tCB (zLen K) (tCons (tV 1) tNil)) (tC (.int 4))))) (tNot (tTru K (tCal (sp_all_different K) [] W (tCons (tV 1) tNil)))))) (tRs (He.ga K "BadAlphabet") ["part"] W (tCons (tC (.str (S [108, 101, 116, 116, 101, 114, 115]))) tNil)) tNext)
  (tSeq (tIfP (tOrP (tTru K (tLcP (jA K (tV 2)) (gName 4) (tTst (tOp (zNinP K) (tV 4) (tV 1))) (tV 4) [4])) (tNot (tTru K (tCal (sp_all_different K) [] W (tCons (tV 2) tNil))))) (tRs (He.ga K "BadAlphabet") ["part"] W (tCons (tC (.str (S [118, 111, 119, 101, 108, 115]))) tNil)) tNext)
  (tSeq (sAt K (tV 0) (tSM (zJoin K) (tC (.str (S []))) (tCons (tCB (zSort1) (tCons (tV 1) tNil)) tNil)) "letters")
  (tSeq (sAt K (tV 0) (tSM (zJoin K) (tC (.str (S []))) (tCons (tCB (zSort1) (tCons (tV 2) tNil)) tNil)) "vowels")
  (tSeq (sAt K (tV 0) (tSM (zJoin K) (tC (.str (S []))) (tCons (tLcP (jA K (tCB (zSort1) (tCons (tV 1) tNil))) (gName 4) (tTst (tOp (zNinP K) (tV 4) (tV 2))) (tV 4) [4]) tNil)) "consonants")
  (sAt K (tV 0) (tOp zAdd (tC (.str (S [45]))) (tAt K (tV 0) "letters")) "signs")))))))
theorem tm_Alphabet_init {P : Program} {w : World} {K : PySem.W.Frag} {mg : Str → Option Value} {base : Heap} {f : Addr} {cdv : Value} {A : Around} {outer : List Env} {s : Shared} {H : Hp} {E : XK} (T : Tx K mg) (G_all_different : Fn P w K mg base "all_different" 5 [] (sp_all_different K)) (X_BadAlphabet : Ex P w K mg base "BadAlphabet" (He.ga K "BadAlphabet") ["part"]) (hr : Room 6 (A.deeper (envOfC "Alphabet.__init__" (defScope s_Alphabet_init) s.heap.objs.size f cdv))) :
    PSs (cxOf (L2.CX P w) P w K mg base ["self", "letters", "vowels", "foreign", "sign"] "Alphabet.__init__" (defScope s_Alphabet_init) f cdv A outer s H E) (defBody s_Alphabet_init) (t_Alphabet_init K (WD E)) :=
  (pss_cons (pslc (i := 3) [("sign", 4)] rfl sc_Alphabet_init.nd rfl rfl (sw_true rfl rfl rfl (by decide +kernel)) (pja (Ta.pv 1)) (by kernel_rfl) (fun _ _ _ _ _ => (pgn 4 sc_Alphabet_init.nd)) (fun _ _ _ _ _ => (pts_one (ptcmp opnin (Ta.pv 4) (pglo T.v_SMALL)))) (fun _ _ _ _ _ => (Ta.pv 4)))
  (pss_cons (psif (PW.pt (pwor (ptru (Ta.pv 3)) (pwor (pt_not (ptchn ople ople pe_int (pcb (crlen) T.f_len (pa_cons (Ta.pv 1) pa_nil)) (pclv T.cc_Alphabet_MOST))) (pw_or1 (pt_not (ptru (pcall G_all_different (hr.mono (by decide)) takesD (pa_cons (Ta.pv 1) pa_nil)))))))) (pss_one (praise X_BadAlphabet (hr.mono (by decide)) takesD (pa_cons (pstr [108, 101, 116, 116, 101, 114, 115]) pa_nil))) pss_nil)
  (pss_cons (psif (PW.pt (pwor (ptru (plc [("sign", 4)] rfl sc_Alphabet_init.nd (pja (Ta.pv 2)) (by kernel_rfl) (fun _ _ _ _ _ => (pgn 4 sc_Alphabet_init.nd)) (fun _ _ _ _ _ => (pts_one (ptcmp opnin (Ta.pv 4) (Ta.pv 1)))) (fun _ _ _ _ _ => (Ta.pv 4)))) (pw_or1 (pt_not (ptru (pcall G_all_different (hr.mono (by decide)) takesD (pa_cons (Ta.pv 2) pa_nil))))))) (pss_one (praise X_BadAlphabet (hr.mono (by decide)) takesD (pa_cons (pstr [118, 111, 119, 101, 108, 115]) pa_nil))) pss_nil)
  (pss_cons (psat (Ta.pv 0) (psm PySem.F.slot_str_join PySem.F.type_str_join mtjoin (pstr []) (pa_cons (pcb (crsort rfl) T.f_sorted (pa_cons (Ta.pv 1) pa_nil)) pa_nil)))
  (pss_cons (psat (Ta.pv 0) (psm PySem.F.slot_str_join PySem.F.type_str_join mtjoin (pstr []) (pa_cons (pcb (crsort rfl) T.f_sorted (pa_cons (Ta.pv 2) pa_nil)) pa_nil)))
  (pss_cons (psat (Ta.pv 0) (psm PySem.F.slot_str_join PySem.F.type_str_join mtjoin (pstr []) (pa_cons (plc [("sign", 4)] rfl sc_Alphabet_init.nd (pja (pcb (crsort rfl) T.f_sorted (pa_cons (Ta.pv 1) pa_nil))) (by kernel_rfl) (fun _ _ _ _ _ => (pgn 4 sc_Alphabet_init.nd)) (fun _ _ _ _ _ => (pts_one (ptcmp opnin (Ta.pv 4) (Ta.pv 2)))) (fun _ _ _ _ _ => (Ta.pv 4))) pa_nil)))
  (pss_one (psat (Ta.pv 0) (pe_op opadd (pclv T.cc_Alphabet_JOINT) (patt (Ta.pv 0)))))))))))
/-! _law_vowels -/
abbrev s_l_vowels : Stmt := top 22
theorem sc_l_vowels : FnScope ["_law_box_here", "_law_letters_here", "_law_vowels_here", "_law_letter"] ["_law_box_here", "_law_letters_here"] (defScope s_l_vowels) := ⟨rfl, rfl, rfl, by decide +kernel, rfl, by decide +kernel, by decide +kernel⟩
structure sp_l_vowels (K : PySem.W.Frag) (vs : List V) (H : Hp) (Q : VK) (E : XK) : Prop where
  out : ∃ (p q : Addr) (a b : Int) (cs : List Int) (l : List Nat), vs = [.ref p, .str (S l)] ∧ H p = some (bx a b q) ∧ H q = some (cel cs) ∧ okc cs ∧ badL l = false ∧ ∀ (v : List Nat) a' b', good l v → Q (.str (S v)) (upd H p (bx a' b' q))
theorem i_l_vowels {K : PySem.W.Frag} {p q : Addr} {a b : Int} {cs : List Int} {l : List Nat} {H : Hp} {Q : VK} {E : XK} (hp : H p = some (bx a b q)) (hq : H q = some (cel cs)) (hc : okc cs) (hl : badL l = false) (k : ∀ (v : List Nat) a' b', good l v → Q (.str (S v)) (upd H p (bx a' b' q))) : sp_l_vowels K [.ref p, .str (S l)] H Q E := by
  exact ⟨⟨p, q, a, b, cs, l, rfl, hp, hq, hc, hl, k⟩⟩

def b_l_vowels_1 (K : PySem.W.Frag) (W : WX) : TS :=
  (tIfP (tTst (tOp (zEqP K) (tCal (sp_l_take K) [] W (tCons (tV 0) (tCons (tC (.int 3)) tNil))) (tC (.int 1)))) (tAsg (tOp zAdd (tV 3) (tV 2)) (gName 2)) tNext)
def t_l_vowels (K : PySem.W.Frag) (W : WX) : TS :=
  (tSeq (tAsg (tC (.str (S []))) (gName 2))
  (tSeq (tForP (jA K (tV 1)) (gName 3) (b_l_vowels_1 K W))
  (tRet (tV 2))))
theorem tm_l_vowels {P : Program} {w : World} {K : PySem.W.Frag} {mg : Str → Option Value} {base : Heap} {f : Addr} {cdv : Value} {A : Around} {outer : List Env} {s : Shared} {H : Hp} {E : XK} (T : Tx K mg) (G_l_take : Fn P w K mg base "_law_take" 5 [] (sp_l_take K)) (hr : Room 6 (A.deeper (envOfC "_law_vowels" (defScope s_l_vowels) s.heap.objs.size f cdv))) :
    PSs (cxOf (L2.CX P w) P w K mg base ["_law_box_here", "_law_letters_here", "_law_vowels_here", "_law_letter"] "_law_vowels" (defScope s_l_vowels) f cdv A outer s H E) (defBody s_l_vowels) (t_l_vowels K (WD E)) :=
  (pss_cons (pset 2 sc_l_vowels.nd (pstr []))
  (pss_cons (psfor ownD rfl (pja (Ta.pv 1)) (pgn 3 sc_l_vowels.nd) (pss_one (psif (ptcmp (opeq hr.units) (pcall G_l_take (hr.mono (by decide)) takesD (pa_cons (Ta.pv 0) (pa_cons pe_int pa_nil))) pe_int) (pss_one (pset 2 sc_l_vowels.nd (pe_op opadd (Ta.pv 3) (Ta.pv 2)))) pss_nil)))
  (pss_one (ps_ret (Ta.pv 2)))))
/-! _law_text -/
abbrev s_l_text : Stmt := top 24
theorem sc_l_text : FnScope ["_law_box_here", "_law_signs", "_law_size_here", "_law_k"] ["_law_box_here", "_law_signs", "_law_size_here"] (defScope s_l_text) := ⟨rfl, rfl, rfl, by decide +kernel, rfl, by decide +kernel, by decide +kernel⟩
structure sp_l_text (K : PySem.W.Frag) (vs : List V) (H : Hp) (Q : VK) (E : XK) : Prop where
  out : ∃ (p q : Addr) (a b n : Int) (cs : List Int) (g : List Nat), vs = [.ref p, .str (S g), .int n] ∧ H p = some (bx a b q) ∧ H q = some (cel cs) ∧ okc cs ∧ g ≠ [] ∧ g.length < 1000 ∧ 0 ≤ n ∧ n ≤ 60 ∧ ∀ (t : List Nat) a' b' H', (t.length : Int) = n → (∀ c ∈ t, c ∈ g) → Kp [p] H H' → H' p = some (bx a' b' q) → Q (.str (S t)) H'
theorem i_l_text {K : PySem.W.Frag} {p q : Addr} {a b n : Int} {cs : List Int} {g : List Nat} {H : Hp} {Q : VK} {E : XK} (hp : H p = some (bx a b q)) (hq : H q = some (cel cs)) (hc : okc cs) (hg : g ≠ []) (hg2 : g.length < 1000) (h0 : 0 ≤ n) (h1 : n ≤ 60) (k : ∀ (t : List Nat) a' b' H', (t.length : Int) = n → (∀ c ∈ t, c ∈ g) → Kp [p] H H' → H' p = some (bx a' b' q) → Q (.str (S t)) H') : sp_l_text K [.ref p, .str (S g), .int n] H Q E := by
  exact ⟨⟨p, q, a, b, n, cs, g, rfl, hp, hq, hc, hg, hg2, h0, h1, k⟩⟩

def t_l_text (K : PySem.W.Frag) (W : WX) : TS :=
  (tRet (tSM (zJoin K) (tC (.str (S []))) (tCons (tLcP (jR1 (tCons (tV 2) tNil)) (gName 3) tYes (tOp (zIxP K) (tV 1) (tCal (sp_l_take K) [] WF (tCons (tV 0) (tCons (tCB (zLen K) (tCons (tV 1) tNil)) tNil)))) [3]) tNil)))
theorem tm_l_text {P : Program} {w : World} {K : PySem.W.Frag} {mg : Str → Option Value} {base : Heap} {f : Addr} {cdv : Value} {A : Around} {outer : List Env} {s : Shared} {H : Hp} {E : XK} (T : Tx K mg) (G_l_take : Fn P w K mg base "_law_take" 5 [] (sp_l_take K)) (hr : Room 6 (A.deeper (envOfC "_law_text" (defScope s_l_text) s.heap.objs.size f cdv))) :
    PSs (cxOf (L2.CX P w) P w K mg base ["_law_box_here", "_law_signs", "_law_size_here", "_law_k"] "_law_text" (defScope s_l_text) f cdv A outer s H E) (defBody s_l_text) (t_l_text K (WD E)) :=
  (pss_one (ps_ret (psm PySem.F.slot_str_join PySem.F.type_str_join mtjoin (pstr []) (pa_cons (plc [("_law_k", 3)] rfl sc_l_text.nd (pjr1 T.f_range (pa_cons (Ta.pv 2) pa_nil)) (by kernel_rfl) (fun _ _ _ _ _ => (pgn 3 sc_l_text.nd)) (fun _ _ _ _ _ => pts_nil) (fun _ _ _ _ _ => (pix (Ta.pv 1) (pcall G_l_take (hr.mono (by decide)) takes0 (pa_cons (Ta.pv 0) (pa_cons (pcb (crlen) T.f_len (pa_cons (Ta.pv 1) pa_nil)) pa_nil)))))) pa_nil))))
/-! _law_size -/
abbrev s_l_size : Stmt := top 23
theorem sc_l_size : FnScope ["_law_box_here", "_law_small", "_law_size_here"] ["_law_box_here", "_law_small"] (defScope s_l_size) := ⟨rfl, rfl, rfl, by decide +kernel, rfl, by decide +kernel, by decide +kernel⟩
structure sp_l_size (K : PySem.W.Frag) (vs : List V) (H : Hp) (Q : VK) (E : XK) : Prop where
  out : ∃ (p q : Addr) (a b n : Int) (cs : List Int), vs = [.ref p, .int n] ∧ H p = some (bx a b q) ∧ H q = some (cel cs) ∧ okc cs ∧ 0 < n ∧ n ≤ 60 ∧ ∀ (r : Int) a' b', 0 ≤ r → r ≤ 60 → Q (.int r) (upd H p (bx a' b' q))
theorem i_l_size {K : PySem.W.Frag} {p q : Addr} {a b n : Int} {cs : List Int} {H : Hp} {Q : VK} {E : XK} (hp : H p = some (bx a b q)) (hq : H q = some (cel cs)) (hc : okc cs) (h0 : 0 < n) (h1 : n ≤ 60) (k : ∀ (r : Int) a' b', 0 ≤ r → r ≤ 60 → Q (.int r) (upd H p (bx a' b' q))) : sp_l_size K [.ref p, .int n] H Q E := by
  exact ⟨⟨p, q, a, b, n, cs, rfl, hp, hq, hc, h0, h1, k⟩⟩

def t_l_size (K : PySem.W.Frag) (W : WX) : TS :=
  (tSeq (tAsg (tCal (sp_l_take K) [] W (tCons (tV 0) (tCons (tV 1) tNil))) (gName 2))
  (tSeq (tIfP (tTst (tOp (zEqP K) (tCal (sp_l_take K) [] W (tCons (tV 0) (tCons (tC (.int 8)) tNil))) (tC (.int 5)))) (tAsg (tCal (sp_l_take K) [] W (tCons (tV 0) (tCons (tC (.int 61)) tNil))) (gName 2)) tNext)
  (tRet (tV 2))))
theorem tm_l_size {P : Program} {w : World} {K : PySem.W.Frag} {mg : Str → Option Value} {base : Heap} {f : Addr} {cdv : Value} {A : Around} {outer : List Env} {s : Shared} {H : Hp} {E : XK} (T : Tx K mg) (G_l_take : Fn P w K mg base "_law_take" 5 [] (sp_l_take K)) (hr : Room 6 (A.deeper (envOfC "_law_size" (defScope s_l_size) s.heap.objs.size f cdv))) :
    PSs (cxOf (L2.CX P w) P w K mg base ["_law_box_here", "_law_small", "_law_size_here"] "_law_size" (defScope s_l_size) f cdv A outer s H E) (defBody s_l_size) (t_l_size K (WD E)) :=
  (pss_cons (pset 2 sc_l_size.nd (pcall G_l_take (hr.mono (by decide)) takesD (pa_cons (Ta.pv 0) (pa_cons (Ta.pv 1) pa_nil))))
  (pss_cons (psif (ptcmp (opeq hr.units) (pcall G_l_take (hr.mono (by decide)) takesD (pa_cons (Ta.pv 0) (pa_cons pe_int pa_nil))) pe_int) (pss_one (pset 2 sc_l_size.nd (pcall G_l_take (hr.mono (by decide)) takesD (pa_cons (Ta.pv 0) (pa_cons pe_int pa_nil))))) pss_nil)
  (pss_one (ps_ret (Ta.pv 2)))))
/-! _law_world -/
abbrev s_l_world : Stmt := top 35
theorem sc_l_world : FnScope ["_law_script", "_law_k", "_law_box_here", "_law_letters_here", "_law_alphabet", "_law_signs", "_law_text_here", "_law_back", "_law_hold", "_law_carets", "_law_still", "_law_caret", "_law_row", "_law_key", "_law_page", "_law_own", "_law_sign", "_law_strings", "_law_turn", "_law_string_here"] ["_law_script", "_law_k"] (defScope s_l_world) := ⟨rfl, rfl, rfl, by decide +kernel, rfl, by decide +kernel, by decide +kernel⟩
structure sp_l_world (K : PySem.W.Frag) (vs : List V) (H : Hp) (Q : VK) (E : XK) : Prop where
  out : ∃ (p : Addr) (k : Int) (ob : Obj) (ns : List Int), vs = [.ref p, .int k] ∧ H p = some (scr ob ns) ∧ 0 ≤ k ∧ ns.length < 1000 ∧ ∀ H', Kp [] H H' → Q (.bl true) H'
theorem i_l_world {K : PySem.W.Frag} {p : Addr} {k : Int} {ob : Obj} {ns : List Int} {H : Hp} {Q : VK} {E : XK} (hp : H p = some (scr ob ns)) (h0 : 0 ≤ k) (h1 : ns.length < 1000) (q : ∀ H', Kp [] H H' → Q (.bl true) H') : sp_l_world K [.ref p, .int k] H Q E := by
  exact ⟨⟨p, k, ob, ns, rfl, hp, h0, h1, q⟩⟩

def b_l_world_2 (K : PySem.W.Frag) (W : WX) : TS :=
  (tIfP (tNot (tTru K (tCal (sp_l_pressed K) [] W (tCons (tV 4) (tCons (tV 6) (tCons (tV 12) (tCons (tV 13) tNil))))))) (tRet (tC (.bl false))) tNext)
def b_l_world_1 (K : PySem.W.Frag) (W : WX) : TS :=
  (tSeq (tAsg (tCal (sp_l_ahead K) [] W (tCons (tV 11) (tCons (tV 7) (tCons (tV 8) tNil)))) (gName 12))
  (tForP (jA K (tCal (sp_l_keys K) [] W (tCons (tV 5) tNil))) (gName 13) (b_l_world_2 K W)))
def b_l_world_3 (K : PySem.W.Frag) (W : WX) : TS :=
  (tIfP (tNot (tTru K (tCal (sp_l_worked K) [] W (tCons (tV 14) (tCons (tV 15) (tCons (tV 13) tNil)))))) (tRet (tC (.bl false))) tNext)
def b_l_world_4 (K : PySem.W.Frag) (W : WX) : TS :=
  (tDrop (tLM zAppP (tV 17) (tCons (tCal (sp_l_string K) [] W (tCons (tV 2) (tCons (tV 5) tNil))) tNil)))
def b_l_world_5 (K : PySem.W.Frag) (W : WX) : TS :=
  (tIfP (tNot (tTru K (tCal (sp_l_refused K) [] W (tCons (tV 14) (tCons (tV 15) (tCons (tV 5) (tCons (tV 19) tNil))))))) (tRet (tC (.bl false))) tNext)
structure t_l_world_9 (K : PySem.W.Frag) (W : WX) (D : Ends) (σ : L2.St) (H : Hp) : Prop where
  out : (tSeq (tAsg (tMak (He.ga K "Page") (sp_Page_init K) [.str (S [])] W (tCons (tV 4) tNil)) (gName 10))
  (tSeq (tForP (jA K (tV 9)) (gName 11) (b_l_world_1 K W))
  (tSeq (tAsg (tMak (He.ga K "Page") (sp_Page_init K) [] W (tCons (tV 4) (tCons (tV 6) tNil))) (gName 14))
  (tSeq (tAsg (tLst (tCons (tV 6) (tCons (tC (.int 0)) (tCons (tC .non) (tCons (tC (.str (S []))) tNil))))) (gName 15))
  (tSeq (tForP (jA K (tCal (sp_l_ahead K) [] W (tCons (tOp (zIxP K) (tV 9) (tC (.int 0))) (tCons (tV 7) (tCons (tV 8) tNil))))) (gName 13) (b_l_world_3 K W))
  (tSeq (tAsg (tOp (zIxP K) (tV 5) (tOp zSub (tCB (zLen K) (tCons (tV 5) tNil)) (tC (.int 1)))) (gName 16))
  (tSeq (tAsg (tLst (tCons (tC (.str (S []))) (tCons (tC (.str (S [39]))) (tCons (tC (.str (S [61]))) (tCons (tC (.str (S [47]))) (tCons (tC (.str (S [39, 39]))) (tCons (tC (.str (S [40]))) (tCons (tC (.str (S [124]))) (tCons (tC (.str (S [62, 62]))) (tCons (tC (.str (S [62, 32]))) (tCons (tC (.str (S [62, 10]))) (tCons (tC (.str (S [32, 120]))) (tCons (tOp zAdd (tOp zAdd (tC (.str (S [39]))) (tV 16)) (tV 16)) (tCons (tOp zAdd (tC (.str (S [109]))) (tV 16)) tNil)))))))))))))) (gName 17))
  (tSeq (tForP (jR1 (tCons (tC (.int 4)) tNil)) (gName 18) (b_l_world_4 K W))
  (tSeq (tForP (jA K (tV 17)) (gName 19) (b_l_world_5 K W))
  (tRet (tAndE K (tCal (sp_l_worked K) [] W (tCons (tV 14) (tCons (tV 15) (tCons (tOp zAdd (tC (.str (S [39]))) (tV 16)) tNil)))) (tAndE K (tCal (sp_l_same K) [] W (tCons (tV 14) (tCons (tV 15) tNil))) (tCal (sp_l_same K) [] W (tCons (tV 10) (tCons (tLst (tCons (tC (.str (S []))) (tCons (tC (.int 0)) (tCons (tC .non) (tCons (tC (.str (S []))) tNil))))) tNil))))))))))))))) D σ H
structure t_l_world_5 (K : PySem.W.Frag) (W : WX) (D : Ends) (σ : L2.St) (H : Hp) : Prop where
  out : (tSeq (tAsg (tCal (sp_l_take K) [] W (tCons (tV 2) (tCons (tC (.int 5)) tNil))) (gName 7))
  (tSeq (tAsg (tCal (sp_l_take K) [] W (tCons (tV 2) (tCons (tC (.int 4)) tNil))) (gName 8))
  (tSeq (tAsg (tLst (tCons (tCal (sp_l_take K) [] W (tCons (tV 2) (tCons (tOp zAdd (tCB (zLen K) (tCons (tV 6) tNil)) (tC (.int 1))) tNil))) tNil)) (gName 9))
  (tSeq (tIfP (tTst (tOp zLe (tCB (zLen K) (tCons (tV 6) tNil)) (tC (.int 3)))) (tAsg (tLstRg (tRa (tOp zAdd (tCB (zLen K) (tCons (tV 6) tNil)) (tC (.int 1))))) (gName 9)) tNext)
  (t_l_world_9 K W))))) D σ H
def t_l_world (K : PySem.W.Frag) (W : WX) : TS :=
  (tSeq (tAsg (tCal (sp_l_box K) [] W (tCons (tV 0) (tCons (tV 1) tNil))) (gName 2))
  (tSeq (tAsg (tCal (sp_l_letters K) [] W (tCons (tV 2) (tCons (tOp zAdd (tC (.int 1)) (tCal (sp_l_take K) [] W (tCons (tV 2) (tCons (tC (.int 4)) tNil)))) tNil))) (gName 3))
  (tSeq (tAsg (tMak (He.ga K "Alphabet") (sp_Alphabet_init K) [] W (tCons (tV 3) (tCons (tCal (sp_l_vowels K) [] W (tCons (tV 2) (tCons (tV 3) tNil))) tNil))) (gName 4))
  (tSeq (tAsg (tOp zAdd (tC (.str (S [45]))) (tSM (zJoin K) (tC (.str (S []))) (tCons (tCB (zSort1) (tCons (tV 3) tNil)) tNil))) (gName 5))
  (tSeq (tAsg (tCal (sp_l_text K) [] W (tCons (tV 2) (tCons (tV 5) (tCons (tCal (sp_l_size K) [] W (tCons (tV 2) (tCons (tC (.int 7)) tNil))) tNil)))) (gName 6))
  (t_l_world_5 K W))))))
theorem tm_l_world {P : Program} {w : World} {K : PySem.W.Frag} {mg : Str → Option Value} {base : Heap} {f : Addr} {cdv : Value} {A : Around} {outer : List Env} {s : Shared} {H : Hp} {E : XK} (T : Tx K mg) (G_Alphabet : Mks P w K mg base "Alphabet" (He.ga K "Alphabet") 7 [] (sp_Alphabet_init K)) (G_Page : Mks P w K mg base "Page" (He.ga K "Page") 9 [] (sp_Page_init K)) (G_Page_1 : Mks P w K mg base "Page" (He.ga K "Page") 9 [.str (S [])] (sp_Page_init K)) (G_l_ahead : Fn P w K mg base "_law_ahead" 5 [] (sp_l_ahead K)) (G_l_box : Fn P w K mg base "_law_box" 5 [] (sp_l_box K)) (G_l_keys : Fn P w K mg base "_law_keys" 5 [] (sp_l_keys K)) (G_l_letters : Fn P w K mg base "_law_letters" 7 [] (sp_l_letters K)) (G_l_pressed : Fn P w K mg base "_law_pressed" 13 [] (sp_l_pressed K)) (G_l_refused : Fn P w K mg base "_law_refused" 13 [] (sp_l_refused K)) (G_l_same : Fn P w K mg base "_law_same" 7 [] (sp_l_same K)) (G_l_size : Fn P w K mg base "_law_size" 7 [] (sp_l_size K)) (G_l_string : Fn P w K mg base "_law_string" 7 [] (sp_l_string K)) (G_l_take : Fn P w K mg base "_law_take" 5 [] (sp_l_take K)) (G_l_text : Fn P w K mg base "_law_text" 7 [] (sp_l_text K)) (G_l_vowels : Fn P w K mg base "_law_vowels" 7 [] (sp_l_vowels K)) (G_l_worked : Fn P w K mg base "_law_worked" 11 [] (sp_l_worked K)) (hr : Room 14 (A.deeper (envOfC "_law_world" (defScope s_l_world) s.heap.objs.size f cdv))) :
    PSs (cxOf (L2.CX P w) P w K mg base ["_law_script", "_law_k", "_law_box_here", "_law_letters_here", "_law_alphabet", "_law_signs", "_law_text_here", "_law_back", "_law_hold", "_law_carets", "_law_still", "_law_caret", "_law_row", "_law_key", "_law_page", "_law_own", "_law_sign", "_law_strings", "_law_turn", "_law_string_here"] "_law_world" (defScope s_l_world) f cdv A outer s H E) (defBody s_l_world) (t_l_world K (WD E)) :=
  (pss_cons (pset 2 sc_l_world.nd (pcall G_l_box (hr.mono (by decide)) takesD (pa_cons (Ta.pv 0) (pa_cons (Ta.pv 1) pa_nil))))
  (pss_cons (pset 3 sc_l_world.nd (pcall G_l_letters (hr.mono (by decide)) takesD (pa_cons (Ta.pv 2) (pa_cons (pe_op opadd pe_int (pcall G_l_take (hr.mono (by decide)) takesD (pa_cons (Ta.pv 2) (pa_cons pe_int pa_nil)))) pa_nil))))
  (pss_cons (pset 4 sc_l_world.nd (pmak G_Alphabet (hr.mono (by decide)) takesD (pa_cons (Ta.pv 3) (pa_cons (pcall G_l_vowels (hr.mono (by decide)) takesD (pa_cons (Ta.pv 2) (pa_cons (Ta.pv 3) pa_nil))) pa_nil))))
  (pss_cons (pset 5 sc_l_world.nd (pe_op opadd (pstr [45]) (psm PySem.F.slot_str_join PySem.F.type_str_join mtjoin (pstr []) (pa_cons (pcb (crsort rfl) T.f_sorted (pa_cons (Ta.pv 3) pa_nil)) pa_nil))))
  (pss_cons (pset 6 sc_l_world.nd (pcall G_l_text (hr.mono (by decide)) takesD (pa_cons (Ta.pv 2) (pa_cons (Ta.pv 5) (pa_cons (pcall G_l_size (hr.mono (by decide)) takesD (pa_cons (Ta.pv 2) (pa_cons pe_int pa_nil))) pa_nil)))))
  (pss_imp (pss_cons (pset 7 sc_l_world.nd (pcall G_l_take (hr.mono (by decide)) takesD (pa_cons (Ta.pv 2) (pa_cons pe_int pa_nil))))
  (pss_cons (pset 8 sc_l_world.nd (pcall G_l_take (hr.mono (by decide)) takesD (pa_cons (Ta.pv 2) (pa_cons pe_int pa_nil))))
  (pss_cons (pset 9 sc_l_world.nd (pe_lst (pa_cons (pcall G_l_take (hr.mono (by decide)) takesD (pa_cons (Ta.pv 2) (pa_cons (pe_op opadd (pcb (crlen) T.f_len (pa_cons (Ta.pv 6) pa_nil)) pe_int) pa_nil))) pa_nil)))
  (pss_cons (psif (ptcmp ople (pcb (crlen) T.f_len (pa_cons (Ta.pv 6) pa_nil)) pe_int) (pss_one (pset 9 sc_l_world.nd (plrg rfl T.f_list (prga T.f_range (pe_op opadd (pcb (crlen) T.f_len (pa_cons (Ta.pv 6) pa_nil)) pe_int))))) pss_nil)
  (pss_imp (pss_cons (pset 10 sc_l_world.nd (pmak G_Page_1 (hr.mono (by decide)) takesD (pa_cons (Ta.pv 4) pa_nil)))
  (pss_cons (psfor ownD rfl (pja (Ta.pv 9)) (pgn 11 sc_l_world.nd) (pss_cons (pset 12 sc_l_world.nd (pcall G_l_ahead (hr.mono (by decide)) takesD (pa_cons (Ta.pv 11) (pa_cons (Ta.pv 7) (pa_cons (Ta.pv 8) pa_nil)))))
  (pss_one (psfor ownD rfl (pja (pcall G_l_keys (hr.mono (by decide)) takesD (pa_cons (Ta.pv 5) pa_nil))) (pgn 13 sc_l_world.nd) (pss_one (psif (pt_not (ptru (pcall G_l_pressed (hr.mono (by decide)) takesD (pa_cons (Ta.pv 4) (pa_cons (Ta.pv 6) (pa_cons (Ta.pv 12) (pa_cons (Ta.pv 13) pa_nil))))))) (pss_one (ps_ret pe_bl)) pss_nil))))))
  (pss_cons (pset 14 sc_l_world.nd (pmak G_Page (hr.mono (by decide)) takesD (pa_cons (Ta.pv 4) (pa_cons (Ta.pv 6) pa_nil))))
  (pss_cons (pset 15 sc_l_world.nd (pe_lst (pa_cons (Ta.pv 6) (pa_cons pe_int (pa_cons pe_non (pa_cons (pstr []) pa_nil))))))
  (pss_cons (psfor ownD rfl (pja (pcall G_l_ahead (hr.mono (by decide)) takesD (pa_cons (pix (Ta.pv 9) pe_int) (pa_cons (Ta.pv 7) (pa_cons (Ta.pv 8) pa_nil))))) (pgn 13 sc_l_world.nd) (pss_one (psif (pt_not (ptru (pcall G_l_worked (hr.mono (by decide)) takesD (pa_cons (Ta.pv 14) (pa_cons (Ta.pv 15) (pa_cons (Ta.pv 13) pa_nil)))))) (pss_one (ps_ret pe_bl)) pss_nil)))
  (pss_cons (pset 16 sc_l_world.nd (pix (Ta.pv 5) (pe_op opsub (pcb (crlen) T.f_len (pa_cons (Ta.pv 5) pa_nil)) pe_int)))
  (pss_cons (pset 17 sc_l_world.nd (pe_lst (pa_cons (pstr []) (pa_cons (pstr [39]) (pa_cons (pstr [61]) (pa_cons (pstr [47]) (pa_cons (pstr [39, 39]) (pa_cons (pstr [40]) (pa_cons (pstr [124]) (pa_cons (pstr [62, 62]) (pa_cons (pstr [62, 32]) (pa_cons (pstr [62, 10]) (pa_cons (pstr [32, 120]) (pa_cons (pe_op opadd (pe_op opadd (pstr [39]) (Ta.pv 16)) (Ta.pv 16)) (pa_cons (pe_op opadd (pstr [109]) (Ta.pv 16)) pa_nil)))))))))))))))
  (pss_cons (psfor ownD rfl (pjr1 T.f_range (pa_cons pe_int pa_nil)) (pgn 18 sc_l_world.nd) (pss_one (ps_expr (plm PySem.F.slot_list_append PySem.F.type_list_append mtapp (Ta.pv 17) (pa_cons (pcall G_l_string (hr.mono (by decide)) takesD (pa_cons (Ta.pv 2) (pa_cons (Ta.pv 5) pa_nil))) pa_nil)))))
  (pss_cons (psfor ownD rfl (pja (Ta.pv 17)) (pgn 19 sc_l_world.nd) (pss_one (psif (pt_not (ptru (pcall G_l_refused (hr.mono (by decide)) takesD (pa_cons (Ta.pv 14) (pa_cons (Ta.pv 15) (pa_cons (Ta.pv 5) (pa_cons (Ta.pv 19) pa_nil))))))) (pss_one (ps_ret pe_bl)) pss_nil)))
  (pss_one (ps_ret (peand (pcall G_l_worked (hr.mono (by decide)) takesD (pa_cons (Ta.pv 14) (pa_cons (Ta.pv 15) (pa_cons (pe_op opadd (pstr [39]) (Ta.pv 16)) pa_nil)))) (peand (pcall G_l_same (hr.mono (by decide)) takesD (pa_cons (Ta.pv 14) (pa_cons (Ta.pv 15) pa_nil))) (pe_one (pcall G_l_same (hr.mono (by decide)) takesD (pa_cons (Ta.pv 10) (pa_cons (pe_lst (pa_cons (pstr []) (pa_cons pe_int (pa_cons pe_non (pa_cons (pstr []) pa_nil))))) pa_nil))))))))))))))))) fun _ _ _ h => h.out))))) fun _ _ _ h => h.out))))))
/-! law -/
abbrev s_law : Stmt := top 36
theorem sc_law : FnScope ["_law_script", "_law_k"] ["_law_script"] (defScope s_law) := ⟨rfl, rfl, rfl, by decide +kernel, rfl, by decide +kernel, by decide +kernel⟩
structure sp_law (K : PySem.W.Frag) (vs : List V) (H : Hp) (Q : VK) (E : XK) : Prop where
  out : ∃ (p : Addr) (ob : Obj) (ns : List Int), vs = [.ref p] ∧ H p = some (scr ob ns) ∧ ns.length < 1000 ∧ ∀ H', Q (.bl true) H'

def b_law_1 (K : PySem.W.Frag) (W : WX) : TS :=
  (tIfP (tNot (tTru K (tCal (sp_l_world K) [] W (tCons (tV 0) (tCons (tV 1) tNil))))) (tRet (tC (.bl false))) tNext)
def t_law (K : PySem.W.Frag) (W : WX) : TS :=
  (tSeq (tForP (jR1 (tCons (tCB (zMin2) (tCons (tC (.int 3)) (tCons (tCB (zMax2) (tCons (tC (.int 1)) (tCons (tCB (zLen K) (tCons (tV 0) tNil)) tNil))) tNil))) tNil)) (gName 1) (b_law_1 K W))
  (tRet (tC (.bl true))))
theorem tm_law {P : Program} {w : World} {K : PySem.W.Frag} {mg : Str → Option Value} {base : Heap} {f : Addr} {cdv : Value} {A : Around} {outer : List Env} {s : Shared} {H : Hp} {E : XK} (T : Tx K mg) (G_l_world : Fn P w K mg base "_law_world" 15 [] (sp_l_world K)) (hr : Room 16 (A.deeper (envOfC "law" (defScope s_law) s.heap.objs.size f cdv))) :
    PSs (cxOf (L2.CX P w) P w K mg base ["_law_script", "_law_k"] "law" (defScope s_law) f cdv A outer s H E) (defBody s_law) (t_law K (WD E)) :=
  (pss_cons (psfor ownD rfl (pjr1 T.f_range (pa_cons (pcb (crmin rfl) T.f_min (pa_cons pe_int (pa_cons (pcb (crmax rfl) T.f_max (pa_cons pe_int (pa_cons (pcb (crlen) T.f_len (pa_cons (Ta.pv 0) pa_nil)) pa_nil))) pa_nil))) pa_nil)) (pgn 1 sc_law.nd) (pss_one (psif (pt_not (ptru (pcall G_l_world (hr.mono (by decide)) takesD (pa_cons (Ta.pv 0) (pa_cons (Ta.pv 1) pa_nil))))) (pss_one (ps_ret pe_bl)) pss_nil)))
  (pss_one (ps_ret pe_bl)))
end Lw

set_option Elab.async false
set_option linter.all false
set_option maxRecDepth 100000
set_option maxHeartbeats 4000000
namespace Lw
open PySem PySem.Spec PyProof.Rows L2 Ta
theorem nd_len {l m : List Nat} (hn : l.Nodup) (hs : ∀ c ∈ l, c ∈ m) : l.length ≤ m.length := by
  induction l generalizing m with
  | nil => exact Nat.zero_le _
  | cons a l ih =>
    obtain ⟨h1, h2⟩ := List.nodup_cons.mp hn
    have ha := hs a List.mem_cons_self
    have := ih (m := m.erase a) h2 fun c hc => (List.mem_erase_of_ne (fun e : c = a => h1 (by rw [← e]; exact hc))).mpr (hs c (List.mem_cons_of_mem _ hc))
    rw [List.length_erase_of_mem ha] at this
    have hp : 0 < m.length := List.length_pos_of_mem ha
    rw [List.length_cons]
    omega
theorem badL_inv {l : List Nat} (h : badL l = false) : 1 ≤ l.length ∧ l.length ≤ 4 ∧ l.Nodup ∧ ∀ c ∈ l, c ∈ AZ := by
  unfold badL at h
  simp only [Bool.or_eq_false_iff, Bool.not_eq_false', decide_eq_true_eq, List.any_eq_false] at h
  obtain ⟨⟨h1, h2⟩, h3⟩ := h
  refine ⟨h2.1, h2.2, (dif_nd l).mp h3, fun c hc => ?_⟩
  have z := h1 c hc
  exact Decidable.byContradiction fun hn => z (by rw [decide_eq_false hn]; rfl)
theorem badV_inv {l v : List Nat} (h : badV l v = false) : v.Nodup ∧ ∀ c ∈ v, c ∈ l := by
  unfold badV at h
  simp only [Bool.or_eq_false_iff, Bool.not_eq_false', List.any_eq_false] at h
  obtain ⟨h1, h3⟩ := h
  refine ⟨(dif_nd v).mp h3, fun c hc => ?_⟩
  have z := h1 c hc
  simpa using z
theorem good_v {l v : List Nat} (h : good l v) : v.length ≤ 4 := by
  have h1 := badL_inv h.1
  have h2 := badV_inv h.2
  have := nd_len h2.1 h2.2
  omega
theorem pick_sub {m r s : List Nat} (hp : (m ++ r).Perm s) (hn : s.Nodup) : m.Nodup ∧ ∀ c ∈ m, c ∈ s := by
  have h := hp.nodup_iff.mpr hn
  exact ⟨(List.nodup_append.mp h).1, fun c hc => hp.mem_iff.mp (List.mem_append_left _ hc)⟩
theorem pick_all {m r s : List Nat} (hp : (m ++ r).Perm s) (hl : m.length = s.length) : m.Perm s := by
  have e := hp.length_eq
  rw [List.length_append] at e
  have : r = [] := List.length_eq_zero_iff.mp (by omega)
  rw [this, List.append_nil] at hp
  exact hp
theorem good_perm {l v m u : List Nat} (h : good l v) (hm : m.Perm l) (hu : u.Perm v) : good m u := by
  obtain ⟨a1, a2, a3, a4⟩ := badL_inv h.1
  obtain ⟨b1, b2⟩ := badV_inv h.2
  have e := hm.length_eq
  exact ⟨badL_ok (by omega) (by omega) (hm.nodup_iff.mpr a3) fun c hc => a4 c (hm.mem_iff.mp hc), badV_ok (hu.nodup_iff.mpr b1) fun c hc => hm.mem_iff.mpr (b2 c (hu.mem_iff.mp hc))⟩
theorem good_sub {l u r : List Nat} (h : badL l = false) (hu : (u ++ r).Perm l) : good l u := by
  obtain ⟨a1, a2, a3, a4⟩ := badL_inv h
  obtain ⟨b1, b2⟩ := pick_sub hu a3
  exact ⟨h, badV_ok b1 b2⟩
theorem good_new {m r : List Nat} (h1 : 1 ≤ m.length) (h2 : m.length ≤ 4) (hm : (m ++ r).Perm AZ) : badL m = false := by
  obtain ⟨b1, b2⟩ := pick_sub hm (by decide)
  exact badL_ok h1 h2 b1 b2
abbrev oth (l : List Nat) : List Nat := AZ.filter fun c => !decide (c ∈ l)
theorem oth_mem {l : List Nat} {d : Nat} (h : d ∈ oth l) : d ∈ AZ ∧ ¬ d ∈ l := by
  have := List.mem_filter.mp h
  simpa using this
theorem flt_len (f : Nat → Bool) : ∀ s : List Nat, (s.filter f).length + (s.filter fun c => !f c).length = s.length
  | [] => rfl
  | a :: s => by
    have ih := flt_len f s
    rw [List.filter_cons, List.filter_cons]
    cases f a with
    | true => simp only [Bool.not_true, List.length_cons, if_true]; simp; omega
    | false => simp only [Bool.not_false, List.length_cons, if_true]; simp; omega
theorem oth_len {l : List Nat} (h : l.length ≤ 4) : 22 ≤ (oth l).length ∧ (oth l).length ≤ 26 := by
  have h1 : (AZ.filter fun c => decide (c ∈ l)).length ≤ l.length := nd_len (List.Pairwise.filter _ (by decide : AZ.Nodup)) fun c hc => by
    have := (List.mem_filter.mp hc).2
    simpa using this
  have h2 := flt_len (fun c => decide (c ∈ l)) AZ
  have h3 : AZ.length = 26 := rfl
  show 22 ≤ (AZ.filter fun c => !decide (c ∈ l)).length ∧ (AZ.filter fun c => !decide (c ∈ l)).length ≤ 26
  have h4 := List.length_filter_le (fun c => !decide (c ∈ l)) AZ
  omega
theorem good_rp {l v : List Nat} {c d : Nat} (h : good l v) (hc : c ∈ l) (hd : d ∈ oth l) : good (rp c d l) (rp c d v) := by
  obtain ⟨a1, a2, a3, a4⟩ := badL_inv h.1
  obtain ⟨b1, b2⟩ := badV_inv h.2
  obtain ⟨d1, d2⟩ := oth_mem hd
  have inj : ∀ s : List Nat, s.Nodup → (∀ x ∈ s, x ∈ l) → (rp c d s).Nodup := fun s => by
    induction s with
    | nil => exact fun _ _ => .nil
    | cons x s ih =>
      intro hn hs
      obtain ⟨n1, n2⟩ := List.nodup_cons.mp hn
      have hx := hs x List.mem_cons_self
      show ((if x = c then d else x) :: rp c d s).Nodup
      refine List.nodup_cons.mpr ⟨fun hm => ?_, ih n2 fun y hy => hs y (List.mem_cons_of_mem _ hy)⟩
      obtain ⟨y, hy, e⟩ := List.mem_map.mp hm
      have hyl := hs y (List.mem_cons_of_mem _ hy)
      by_cases e1 : x = c
      · rw [if_pos e1] at e
        by_cases e2 : y = c
        · exact n1 (by rw [e1, ← e2]; exact hy)
        · rw [if_neg e2] at e; exact d2 (e ▸ hyl)
      · rw [if_neg e1] at e
        by_cases e2 : y = c
        · rw [if_pos e2] at e; exact d2 (e ▸ hx)
        · rw [if_neg e2] at e; exact n1 (e ▸ hy)
  have len : (rp c d l).length = l.length := List.length_map _
  refine ⟨badL_ok (by omega) (by omega) (inj l a3 fun _ h => h) fun x hx => ?_, badV_ok (inj v b1 b2) fun x hx => ?_⟩
  · obtain ⟨y, hy, e⟩ := List.mem_map.mp hx
    rw [← e]
    split
    · exact d1
    · exact a4 y hy
  · obtain ⟨y, hy, e⟩ := List.mem_map.mp hx
    exact List.mem_map.mpr ⟨y, b2 y hy, e⟩
theorem good_cons {l v : List Nat} {d : Nat} (h : good l v) (hl : l.length < 4) (hd : d ∈ oth l) : good (d :: l) v := by
  obtain ⟨a1, a2, a3, a4⟩ := badL_inv h.1
  obtain ⟨b1, b2⟩ := badV_inv h.2
  obtain ⟨d1, d2⟩ := oth_mem hd
  refine ⟨badL_ok (by simp) (by simp; omega) (List.nodup_cons.mpr ⟨d2, a3⟩) fun x hx => ?_, badV_ok b1 fun x hx => List.mem_cons_of_mem _ (b2 x hx)⟩
  rcases List.mem_cons.mp hx with rfl | hx
  · exact d1
  · exact a4 x hx
-- two addresses
local macro_rules | `(tactic| and_intros) => `(tactic| first
  | assumption
  | (apply Ne.symm; assumption)
  | (apply ne_x; (focus assumption); (focus (apply Exists.intro; contradiction)))
  | (apply ne_y; (focus assumption); (focus (apply Exists.intro; contradiction))))
-- heap facts
local macro_rules | `(tactic| contradiction) => `(tactic| first
  | assumption
  | with_reducible exact upd_at
  | (apply upd_fr; (focus assumption); contradiction)
  | (apply upd_off; (focus and_intros); contradiction)
  | (apply Kp.get0; (focus assumption); contradiction)
  | (apply Kp.get1; (focus assumption); (focus contradiction); (focus and_intros))
  | (apply Kp.get2; (focus assumption); (focus contradiction); (focus and_intros); (focus and_intros)))
-- what is kept
local macro_rules | `(tactic| nofun) => `(tactic| first
  | exact Kp.rfl'
  | assumption
  | (apply Kp.nil; assumption)
  | (apply Kp.at; (focus nofun); (focus first | exact List.mem_cons_self | exact List.mem_cons_of_mem _ List.mem_cons_self))
  | (apply Kp.new; (focus nofun); (focus assumption))
  | (apply Kp.own; (focus nofun); (focus assumption))
  | (apply Kp.trans; rotate_left 1; (focus (first | assumption | (apply Kp.nil; assumption))); (focus nofun)))
-- side facts
local macro_rules | `(tactic| bv_omega) => `(tactic| first
  | with_reducible assumption
  | omega
  | (with_reducible refine lim_of ?_; omega)
  | (simp only [tl, S, List.toList_toArray, srt_len, sgn_len, List.length_append, List.length_cons, List.length_nil, List.length_take, List.length_drop, List.length_map, cut_to, cut_from, cut_both, cut_one, cut_fr1, cut_t1]; omega)
  | (with_reducible refine lim_of ?_; simp only [tl, S, List.toList_toArray, srt_len, sgn_len, List.length_append, List.length_cons, List.length_nil, List.length_take, List.length_drop, List.length_map, cut_to, cut_from, cut_both, cut_one, cut_fr1, cut_t1]; omega)
  | exact rfl
  | (refine rg_ok ?_ ?_ ?_ ?_ <;> omega)
  | (refine rg_ok ?_ ?_ ?_ ?_ <;> (simp only [tl, S, List.toList_toArray, List.length_cons, List.length_nil]; omega))
  | (refine And.intro ?_ ?_ <;> omega)
  | (refine Or.inr (And.intro ?_ ?_) <;> omega)
  | (refine Or.inl (And.intro ?_ ?_) <;> omega)
  | (dsimp only; omega)
  | (refine And.intro ?_ ?_ <;> (simp only [tl, S, List.toList_toArray, srt_len, sgn_len, List.length_append, List.length_cons, List.length_nil, List.length_take, List.length_drop, List.length_map, cut_to, cut_from, cut_both, cut_one, cut_fr1, cut_t1]; omega))
  | (show _ < 1000; exact Nat.le_of_ble_eq_true (Eq.refl true))
  | (rw [sizeLine_eq]; exact Nat.le_of_ble_eq_true (Eq.refl true))
  | (with_reducible refine lim_of ?_; simp only [tl, S, List.toList_toArray, srt_len, sgn_len, List.length_append, List.length_cons, List.length_nil, List.length_take, List.length_drop, List.length_map, cut_to, cut_from, cut_both, cut_one, cut_fr1, cut_t1]; grind [cut_len])
  | assumption)
-- one step
local macro_rules | `(tactic| ac_rfl) => `(tactic| (conv => whnf) <;> first
  | (apply look_i; (focus contradiction))
  | (refine itm_i (by first | rfl | assumption) ?_)
  | (refine itm_0 ?_)
  | (refine itm_1 ?_)
  | (apply itm_z0; (focus omega))
  | (apply itm_z1; (focus omega))
  | (apply itm_2; (focus omega); (focus omega))
  | (apply itm_3; (focus omega); (focus omega))
  | (refine fld_i (by first | rfl | assumption) ?_)
  | (apply itm_s; (focus bv_omega); (focus bv_omega))
  | (refine isa_1 rfl (by first | assumption | rfl) ?_)
  | (apply isa_t; (focus contradiction); (focus rfl); (focus assumption))
  | (refine i_all_different ?_ ?_; (focus bv_omega))
  | (apply i_Alphabet_eqS; (focus contradiction))
  | (apply i_Alphabet_eq; (focus contradiction); (focus contradiction))
  | (apply i_l_take; (focus contradiction); (focus contradiction); (focus assumption); (focus bv_omega); (focus bv_omega))
  | (apply i_l_whole; (focus first | rfl | assumption | omega))
  | (refine pick_1 ?_)
  | (apply i_is_key; (focus contradiction); (focus assumption))
  | (apply i_is_keyX; (focus contradiction); (focus assumption); (focus assumption))
  | (apply i_Alphabet_is_text; (focus contradiction))
  | (apply i_Alphabet_check; (focus contradiction); (focus assumption))
  | (apply i_Page_held; (focus contradiction); (focus bv_omega))
  | (apply i_Page_opens_at; (focus contradiction); (focus bv_omega); (focus bv_omega))
  | (apply i_Page_sign_ahead; (focus contradiction); (focus bv_omega))
  | (apply i_Page_pass_sign; (focus contradiction))
  | (apply i_Page_init; (focus contradiction); (focus contradiction); (focus first | assumption | exact fun _ h => nomatch h))
  | (apply i_Page_put_in; (focus contradiction); (focus assumption); (focus bv_omega))
  | (apply i_Page_take_sign; (focus first | exact Or.inl rfl | exact Or.inr rfl); (focus contradiction); (focus assumption))
  | (apply i_Page_travel; (focus first | exact Or.inl ⟨rfl, rfl⟩ | exact Or.inr rfl); (focus contradiction); (focus assumption))
  | (apply i_Page_keep; (focus first | exact Or.inl rfl | exact Or.inr rfl); (focus contradiction); (focus assumption))
  | (apply i_Page_press; (focus contradiction); (focus contradiction); (focus assumption); (focus assumption))
  | (apply i_Page_pressX; (focus contradiction); (focus contradiction); (focus assumption); (focus assumption))
  | (apply i_l_pass; (focus first | rfl | assumption | omega); (focus contradiction))
  | (apply i_l_insert; (focus contradiction); (focus assumption); (focus bv_omega))
  | (apply i_l_same; (focus contradiction); (focus contradiction); (focus first | bv_omega | exact lt_ok (by assumption) (by omega) | exact lt_ok (stk_ok (by assumption) (by assumption)) (by omega)))
  | (apply i_l_worked; (focus contradiction); (focus contradiction); (focus contradiction); (focus assumption); (focus assumption))
  | (apply i_l_press; (focus contradiction); (focus assumption); (focus assumption))
  | (apply i_l_box; (focus contradiction); (focus bv_omega); (focus bv_omega))
  | (apply i_l_letters; (focus contradiction); (focus contradiction); (focus assumption); (focus bv_omega); (focus bv_omega))
  | (apply i_l_vowels; (focus contradiction); (focus contradiction); (focus assumption); (focus assumption))
  | (apply i_l_size; (focus contradiction); (focus contradiction); (focus assumption); (focus bv_omega); (focus bv_omega))
  | (apply i_l_text; (focus contradiction); (focus contradiction); (focus assumption); (focus assumption); (focus bv_omega); (focus bv_omega); (focus bv_omega))
  | (apply i_l_keys; (focus bv_omega))
  | (apply i_l_ahead; (focus bv_omega); (focus bv_omega))
  | (apply i_l_string; (focus contradiction); (focus contradiction); (focus assumption); (focus assumption); (focus bv_omega))
  | (apply i_l_pressed; (focus contradiction); (focus contradiction); (focus assumption); (focus bv_omega); (focus bv_omega); (focus assumption); (focus assumption))
  | (apply i_l_refused; (focus contradiction); (focus contradiction); (focus contradiction); (focus bv_omega); (focus assumption); (focus omega); (focus assumption))
  | (apply i_l_world; (focus contradiction); (focus omega); (focus bv_omega))
  | (refine joi_i ?_ ?_; (focus bv_omega))
  | (refine And.intro (fun (_ : true = true) => ?_) (fun (z : true = false) => Bool.noConfusion z))
  | (refine And.intro (fun (z : false = true) => Bool.noConfusion z) (fun (_ : false = false) => ?_))
  | (refine And.intro ?_ ?_; (focus bv_omega))
  | (refine And.intro (sd_e ?_) ?_)
  | (refine Exists.intro _ (And.intro (by first | rfl | assumption) ?_))
  | (refine cnd_t (Eq.refl true) ?_)
  | (refine cnd_f (Eq.refl false) ?_)
  | (refine cnd_n ?_)
  | (apply cnd_t; (focus (apply decide_eq_true; omega)))
  | (apply cnd_f; (focus (apply decide_eq_false; omega)))
  | (refine cnd_d (fun _ => ?_) (fun _ => ?_))
  | (refine cnd_i (fun _ => ?_) (fun _ => ?_))
  | (intro _))


theorem rd_Alphabet_is_text {K : PySem.W.Frag} {mg : Str → Option Value} (T : Tx K mg) : ∀ vs H Q E, sp_Alphabet_is_text K vs H Q E → t_Alphabet_is_text K (WD E) (EndD Q) (start ["self", "text", "sign"] vs) H := by
  intro vs H Q E h
  replace h := h.out
  obtain ⟨A, dA, l, v, t, rfl, hA, q⟩ := h
  cases T
  repeat' ac_rfl
  all_goals (try (conv => whnf))
  refine loop_s (fun i σ H' => Sd (∃ v2 : Option V, σ = [some (.ref A), some (.str (S t)), v2] ∧ H' = H ∧ ∀ c ∈ t.take i, c ∈ 45 :: srt l)) ?_ ?_ ?_
  · exact sd_i ⟨none, rfl, rfl, fun _ z => (nomatch z)⟩
  · rintro i hi σ H' hP
    obtain ⟨v2, rfl, rfl, al⟩ := sd_e hP
    repeat' ac_rfl
    all_goals (try (conv => whnf))
    · rename_i x
      exact sd_i ⟨_, rfl, rfl, al_take hi x al⟩
    · rename_i x
      refine q_bl ?_ q
      symm
      rw [List.all_eq_false]
      exact ⟨_, List.getElem_mem hi, by rw [decide_eq_false x]; decide⟩
  · rintro σ H' hP
    obtain ⟨v2, rfl, rfl, al⟩ := sd_e hP
    have e : t.take (tl (S t)).length = t := List.take_length
    rw [e] at al
    repeat' ac_rfl
    all_goals (try (conv => whnf))
    refine q_bl ?_ q
    symm
    rw [List.all_eq_true]
    exact fun c hc => decide_eq_true (al c hc)


theorem rd_Alphabet_check {K : PySem.W.Frag} {mg : Str → Option Value} (T : Tx K mg) : ∀ vs H Q E, sp_Alphabet_check K vs H Q E → t_Alphabet_check K (WD E) (EndD Q) (start ["self", "text"] vs) H := by
  intro vs H Q E h
  replace h := h.out
  obtain ⟨A, dA, l, v, t, rfl, hA, ht, q⟩ := h
  cases T
  repeat' ac_rfl
  all_goals (try (conv => whnf))
  all_goals first
    | exact q
    | (rename_i x _ _; have e : (t.all fun c => decide (c ∈ 45 :: srt l)) = true := List.all_eq_true.mpr fun c hc => decide_eq_true (ht c hc); rw [e] at x; cases x)


theorem rd_Page_init {K : PySem.W.Frag} {mg : Str → Option Value} (T : Tx K mg) : ∀ vs H Q E, sp_Page_init K vs H Q E → t_Page_init K (WD E) (EndD Q) (start ["self", "alphabet", "text"] vs) H := by
  intro vs H Q E h
  replace h := h.out
  obtain ⟨x, dx, A, dA, l, v, t, rfl, hx, hA, ht, q⟩ := h
  cases T
  repeat' ac_rfl
  all_goals (try (conv => whnf))
  exact q _ (by nofun) (upd_at.trans rfl)

theorem ah_app {ks : List (List Nat)} {k : List Nat} (h : ∀ k ∈ ks, ∀ sg, KeyOk k sg) (hk : k = [109] ∨ k = [107] ∨ k = [62]) : ∀ x ∈ ks ++ [k], ∀ sg, KeyOk x sg := by
  intro x hx sg
  rcases List.mem_append.mp hx with hx | hx
  · exact h x hx sg
  · rw [List.mem_singleton.mp hx]
    rcases hk with rfl | rfl | rfl <;> exact .inl ⟨_, by decide, rfl⟩

theorem rd_l_ahead {K : PySem.W.Frag} {mg : Str → Option Value} (T : Tx K mg) : ∀ vs H Q E, sp_l_ahead K vs H Q E → t_l_ahead K (WD E) (EndD Q) (start ["_law_caret", "_law_back", "_law_hold", "_law_row", "_law_at"] vs) H := by
  intro vs H Q E h
  replace h := h.out
  obtain ⟨a, b, c, rfl, h0, h1, q⟩ := h
  cases T
  repeat' ac_rfl
  all_goals (try (conv => whnf))
  rename_i p hp
  refine loop_r (fun i σ H' => Sd (∃ (ks : List (List Nat)) (v4 : Option V), σ = [some (.int a), some (.int b), some (.int c), some (.ref p), v4] ∧ Kp [] H H' ∧ H' p = some (ksl ks) ∧ ks.length ≤ 3 * i ∧ ∀ k ∈ ks, ∀ sg, KeyOk k sg)) ?_ ?_ ?_
  · exact sd_i ⟨[], none, rfl, by nofun, upd_at, by decide, fun k hk => (nomatch hk)⟩
  · rintro i σ H' hi hP
    obtain ⟨ks, v4, rfl, k0, hp1, hl, hk⟩ := sd_e hP
    have hl9 : ks.length ≤ 300 := by omega
    repeat' ac_rfl
    all_goals (try (conv => whnf))
    all_goals (try simp only [ah_map])
    all_goals (refine sd_i ⟨_, _, rfl, ?_, (by first | exact upd_at | exact hp1), ?_, ?_⟩)
    all_goals first
      | exact hk
      | (simp only [List.length_append, List.length_cons, List.length_nil]; omega)
      | omega
      | exact k0
      | exact k0.own hp
      | exact (k0.own hp).own hp
      | exact ((k0.own hp).own hp).own hp
      | (repeat (first | exact hk | refine ah_app ?_ (by decide)))
  · rintro σ H' hP
    obtain ⟨ks, v4, rfl, k0, hp1, hl, hk⟩ := sd_e hP
    conv => whnf
    exact q p ks H' k0 hp hp1 (by omega) hk


theorem rd_l_keys {K : PySem.W.Frag} {mg : Str → Option Value} (T : Tx K mg) : ∀ vs H Q E, sp_l_keys K vs H Q E → t_l_keys K (WD E) (EndD Q) (start ["_law_signs", "_law_keys_here", "_law_sign"] vs) H := by
  intro vs H Q E h
  replace h := h.out
  obtain ⟨sg, rfl, h1, q⟩ := h
  cases T
  repeat' ac_rfl
  all_goals (try (conv => whnf))
  rename_i p hp
  refine loop_s (fun i σ H' => Sd (∃ (p : Addr) (ks : List (List Nat)) (v2 : Option V), σ = [some (.str (S sg)), some (.ref p), v2] ∧ Kp [] H H' ∧ H p = none ∧ H' p = some (ksl ks) ∧ ks.length ≤ 8 + 3 * i ∧ ∀ k ∈ ks, KeyOk k sg)) ?_ ?_ ?_
  · refine sd_i ⟨p, [[62], [120], [119], [94], [109], [107], [99], [112]], none, rfl, by nofun, hp, upd_at, by decide, fun k hk => ?_⟩
    simp only [List.mem_cons, List.not_mem_nil, or_false] at hk
    rcases hk with rfl | rfl | rfl | rfl | rfl | rfl | rfl | rfl <;> exact .inl ⟨_, by decide, rfl⟩
  · rintro i hi σ H' hP
    obtain ⟨p, ks, v2, rfl, k0, hp0, hp1, hl, hk⟩ := sd_e hP
    have hi : i < sg.length := hi
    repeat' ac_rfl
    all_goals (try (conv => whnf))
    rename_i p2 hp2 p3 hp3
    refine sd_i ⟨p3, ks ++ [[39, sg[i]], [61, sg[i]], [47, sg[i]]], _, rfl, (k0.new hp2).new hp3, Kp.none (k0.new hp2) hp3, ?_, ?_, fun k hm => ?_⟩
    · refine upd_at.trans ?_
      show some (HO.lst _) = some (HO.lst _)
      rw [List.map_append]; rfl
    · rw [List.length_append]; simp only [List.length_cons, List.length_nil]; omega
    · rcases List.mem_append.mp hm with hm | hm
      · exact hk k hm
      · simp only [List.mem_cons, List.not_mem_nil, or_false] at hm
        rcases hm with rfl | rfl | rfl <;> exact .inr ⟨_, by decide, _, List.getElem_mem hi, rfl⟩
  · rintro σ H' hP
    obtain ⟨p, ks, v2, rfl, k0, hp0, hp1, hl, hk⟩ := sd_e hP
    conv => whnf
    exact q p ks H' k0 hp0 hp1 hk


theorem rd_l_whole {K : PySem.W.Frag} {mg : Str → Option Value} (T : Tx K mg) : ∀ vs H Q E, sp_l_whole K vs H Q E → t_l_whole K (WD E) (EndD Q) (start ["_law_told", "_law_due"] vs) H := by
  intro vs H Q E h
  replace h := h.out
  obtain ⟨a, rfl, q⟩ := h
  cases T
  repeat' ac_rfl
  all_goals (try (conv => whnf))
  exact q_bl (decide_eq_true rfl) q


theorem rd_Page_held {K : PySem.W.Frag} {mg : Str → Option Value} (T : Tx K mg) : ∀ vs H Q E, sp_Page_held K vs H Q E → t_Page_held K (WD E) (EndD Q) (start ["self"] vs) H := by
  intro vs H Q E h
  replace h := h.out
  obtain ⟨x, dx, A, ⟨t, c, m, k⟩, rfl, hx, hl, q⟩ := h
  have hl : t.length < 1000 := hl
  cases T
  cases m with
  | none =>
    repeat' ac_rfl
    all_goals (try (conv => whnf))
    exact q
  | some i =>
    repeat' ac_rfl
    all_goals (try (conv => whnf))
    exact q_v (congrArg (fun z => V.str (S z)) (cut_both t i c)) q


theorem rd_l_same {K : PySem.W.Frag} {mg : Str → Option Value} (T : Tx K mg) : ∀ vs H Q E, sp_l_same K vs H Q E → t_l_same K (WD E) (EndD Q) (start ["_law_page", "_law_own"] vs) H := by
  intro vs H Q E h
  replace h := h.out
  obtain ⟨x, dx, A, o, ⟨t, c, m, k⟩, rfl, hx, ho, hl, q⟩ := h
  have hl : t.length < 1000 := hl
  cases T
  cases m with
  | none =>
    repeat' ac_rfl
    all_goals (try (conv => whnf))
    all_goals first | exact q | (rename_i z; exact absurd rfl z) | trace_state
  | some i =>
    repeat' ac_rfl
    all_goals (try (conv => whnf))
    all_goals first | exact q | (rename_i z; exact absurd rfl z) | exact q_bl (decide_eq_true (cut_both t i c).symm) q


theorem rd_Alphabet_eq {K : PySem.W.Frag} {mg : Str → Option Value} (T : Tx K mg) : ∀ vs H Q E, sp_Alphabet_eq K vs H Q E → t_Alphabet_eq K (WD E) (EndD Q) (start ["self", "other"] vs) H := by
  intro vs H Q E h
  replace h := h.out
  obtain ⟨a, b, dx, dy, l, v, m, u, rfl, ha, hb, q⟩ := h
  cases T
  repeat' ac_rfl
  all_goals (conv => whnf)
  · rename_i x
    have x : srt l = srt m := x
    rw [decide_eq_true x, Bool.true_and] at q
    exact q
  · rename_i x
    have x : ¬ srt l = srt m := x
    rw [decide_eq_false x, Bool.false_and] at q
    rw [decide_eq_false (show ¬ tl (S (srt l)) = tl (S (srt m)) from x)]
    exact q


theorem rd_is_key {K : PySem.W.Frag} {mg : Str → Option Value} (T : Tx K mg) : ∀ vs H Q E, sp_is_key K vs H Q E → t_is_key K (WD E) (EndD Q) (start ["alphabet", "key"] vs) H := by
  intro vs H Q E h
  replace h := h.out
  obtain ⟨A, dA, l, v, key, rfl, hA, hl, q⟩ := h
  cases T
  rcases key with _ | ⟨a, _ | ⟨b, _ | ⟨c, r⟩⟩⟩
  · repeat' ac_rfl
    all_goals (try (conv => whnf))
    exact q
  · repeat' ac_rfl
    all_goals (try (conv => whnf))
    exact q
  · replace q : Q (.bl (decide (a ∈ SK) && decide (b ∈ 45 :: srt l))) H := q
    repeat' ac_rfl
    all_goals (try (conv => whnf))
    · rename_i x
      have x : a ∈ SK := x
      rw [decide_eq_true x, Bool.true_and] at q
      exact q
    · rename_i x
      have x : ¬ a ∈ SK := x
      rw [decide_eq_false x, Bool.false_and] at q
      exact q_bl (decide_eq_false x) q
  · replace q : Q (.bl false) H := q
    repeat' ac_rfl
    all_goals (try (conv => whnf))
    all_goals exact q


theorem rd_Page_sign_ahead {K : PySem.W.Frag} {mg : Str → Option Value} (T : Tx K mg) : ∀ vs H Q E, sp_Page_sign_ahead K vs H Q E → t_Page_sign_ahead K (WD E) (EndD Q) (start ["self"] vs) H := by
  intro vs H Q E h
  replace h := h.out
  obtain ⟨x, dx, A, ⟨t, c, m, k⟩, rfl, hx, hl, q⟩ := h
  have hl : t.length < 1000 := hl
  cases T
  repeat' ac_rfl
  all_goals (try (conv => whnf))
  exact q_v (congrArg (fun z => V.str (S z)) (cut_one t c)) q


theorem rd_Page_pass_sign {K : PySem.W.Frag} {mg : Str → Option Value} (T : Tx K mg) : ∀ vs H Q E, sp_Page_pass_sign K vs H Q E → t_Page_pass_sign K (WD E) (EndD Q) (start ["self"] vs) H := by
  intro vs H Q E h
  replace h := h.out
  obtain ⟨x, dx, A, ⟨t, c, m, k⟩, rfl, hx, q⟩ := h
  cases T
  cases m with
  | none =>
    repeat' ac_rfl
    all_goals (try (conv => whnf))
    exact q
  | some i =>
    repeat' ac_rfl
    all_goals (try (conv => whnf))
    · rename_i z
      have z : (2 : Int) < (c : Int) + 1 - i := z
      refine q_H ?_ q
      rw [upd_tw]
      have e : (Pg.pas ⟨t, c, some i, k⟩ 1) = ⟨t, c + 1, none, k⟩ := by
        unfold Pg.pas; dsimp only; rw [if_pos (by omega)]
      rw [e]; rfl
    · rename_i z
      have z : ¬ (2 : Int) < (c : Int) + 1 - i := z
      refine q_H ?_ q
      have e : (Pg.pas ⟨t, c, some i, k⟩ 1) = ⟨t, c + 1, some i, k⟩ := by
        unfold Pg.pas; dsimp only; rw [if_neg (by omega)]
      rw [e]; rfl

theorem tv_loop {K : PySem.W.Frag} {mg : Str → Option Value} (T : Tx K mg) {x dx A : Addr} {s : Pg} {w h : Nat} {g : List Nat} {H : Hp} {D : Ends} {W : WX} (hx : H x = some (pgo K A dx s)) (ho : s.ok 900)
    (hd : ∀ H', Kp [x] H H' → H' x = some (pgo K A dx (s.pas (bef w s.rest).length)) → D.nx [some (.ref x), some (.str (S [h])), some (.str (S g)), some (.str (S [w]))] H') :
    whl (tTst (tOp (zNinP K) (tMe [(He.ga K "Page", [], sp_Page_sign_ahead K)] "sign_ahead" W (tV 0) tNil) (tTup (tCons (tC (.str (S []))) (tCons (tV 3) tNil))))) (tDrop (tMe [(He.ga K "Page", [], sp_Page_pass_sign K)] "pass_sign" W (tV 0) tNil))
      D [some (.ref x), some (.str (S [h])), some (.str (S g)), some (.str (S [w]))] H := by
  have htl := ho.tl
  cases T
  refine whl_i (fun m σ H' => Sd (∃ n, n ≤ (bef w s.rest).length ∧ m = (bef w s.rest).length - n ∧ σ = [some (.ref x), some (.str (S [h])), some (.str (S g)), some (.str (S [w]))] ∧ Kp [x] H H' ∧ H' x = some (pgo K A dx (s.pas n)))) (bef w s.rest).length ?_ ?_
  · exact sd_i ⟨0, Nat.zero_le _, rfl, rfl, Kp.rfl', by rw [pas0 ho]; exact hx⟩
  · rintro m σ H' hW
    obtain ⟨n, hn, rfl, rfl, hk, hx'⟩ := sd_e hW
    have htl' : (s.pas n).t.length ≤ 900 := htl
    have hr := rest_pas s n
    repeat' ac_rfl
    all_goals (try (conv => whnf))
    rename_i pt hpt
    have hin : inV (.str (S ((s.pas n).rest.take 1))) [.str (S []), .str (S [w])] = decide (n = (bef w s.rest).length) := by
      rw [inV2, hr]
      by_cases hlt : n < (bef w s.rest).length
      · obtain ⟨d, h1, h2⟩ := bef_lt hlt
        rw [h1, decide_eq_false (by omega : ¬ n = (bef w s.rest).length), decide_eq_false (by simp), decide_eq_false (by simpa using h2)]
        rfl
      · have e : n = (bef w s.rest).length := by omega
        rw [e, bef_end, decide_eq_true rfl]
        split <;> simp
    show (if (!inV (.str (S ((s.pas n).rest.take 1))) [.str (S []), .str (S [w])]) = true then _ else _)
    rw [hin]
    by_cases hlt : n < (bef w s.rest).length
    · rw [decide_eq_false (by omega : ¬ n = (bef w s.rest).length), Bool.not_false, if_pos rfl]
      refine ⟨fun σ' H'' => Sd (σ' = [some (.ref x), some (.str (S [h])), some (.str (S g)), some (.str (S [w]))] ∧ Kp [x] H H'' ∧ H'' x = some (pgo K A dx (s.pas (n + 1)))), ?_, ?_⟩
      · rintro σ' H'' hz
        obtain ⟨rfl, hk', hx''⟩ := sd_e hz
        exact ⟨(bef w s.rest).length - (n + 1), by omega, sd_i ⟨n + 1, by omega, rfl, rfl, hk', hx''⟩⟩
      · repeat' ac_rfl
        all_goals (try (conv => whnf))
        refine sd_i ⟨rfl, ?_, ?_⟩
        · nofun
        · rw [pas_pas]; exact upd_at
    · have e : n = (bef w s.rest).length := by omega
      rw [decide_eq_true e, Bool.not_true, if_neg (by simp)]
      refine hd _ ?_ ?_
      · nofun
      · rw [← e]; contradiction

theorem rd_Page_travel {K : PySem.W.Frag} {mg : Str → Option Value} (T : Tx K mg) : ∀ vs H Q E, sp_Page_travel K vs H Q E → t_Page_travel K (WD E) (EndD Q) (start ["self", "name", "sign", "wanted"] vs) H := by
  intro vs H Q E h
  replace h := h.out
  obtain ⟨x, dx, A, s, h, g, rfl, hh, hx, ho, q⟩ := h
  have T0 := T
  have htl := ho.tl
  cases T
  rcases hh with ⟨rfl, hg⟩ | rfl
  · obtain ⟨w, rfl⟩ : ∃ w, g = [w] := by
      match g, hg with
      | [w], _ => exact ⟨w, rfl⟩
    repeat' ac_rfl
    all_goals (try (conv => whnf))
    refine tv_loop T0 hx ho fun H' hk hx' => ?_
    have htl' : (s.pas (bef w s.rest).length).t.length ≤ 900 := htl
    repeat' ac_rfl
    all_goals (try (conv => whnf))
    refine q_bl ?_ (q _ hk hx')
    show decide ((s.pas (bef w s.rest).length).rest.take 1 = [w]) = decide (w ∈ s.rest)
    rw [rest_pas, bef_end]
    split
    · rename_i z; simp [z]
    · rename_i z; simp [z]
  · repeat' ac_rfl
    all_goals (try (conv => whnf))
    refine tv_loop T0 (w := 45) hx ho fun H' hk hx' => ?_
    repeat' ac_rfl
    all_goals (try (conv => whnf))
    exact q _ hk hx'


theorem rd_Page_take_sign {K : PySem.W.Frag} {mg : Str → Option Value} (T : Tx K mg) : ∀ vs H Q E, sp_Page_take_sign K vs H Q E → t_Page_take_sign K (WD E) (EndD Q) (start ["self", "name"] vs) H := by
  intro vs H Q E h
  replace h := h.out
  obtain ⟨x, dx, A, ⟨t, c, m, k⟩, h, rfl, hh, hx, ho, q⟩ := h
  obtain ⟨o1, o2, o3, o4⟩ := ho
  dsimp only at o1 o2 o3 o4
  cases T
  have hr : Pg.rest ⟨t, c, m, k⟩ = t.drop c := rfl
  have hrl : ((t.drop c).take 1).length ≤ 1 := by rw [List.length_take]; omega
  by_cases hz : t.drop c = []
  · have e : (t.drop c).take 1 = [] := by rw [hz]; rfl
    have es : stp h [] ⟨t, c, m, k⟩ = (false, ⟨t, c, m, k⟩) := by
      rcases hh with rfl | rfl <;> (unfold stp; simp [hr, hz])
    rw [es] at q
    repeat' ac_rfl
    all_goals (try (conv => whnf))
    · exact q_H (upd_self hx).symm q
    all_goals (exact absurd e (by assumption))
  · have e : ¬ (t.drop c).take 1 = [] := by
      cases ez : t.drop c with
      | nil => exact absurd ez hz
      | cons a b => simp
    rcases hh with rfl | rfl
    · have es : stp 62 [] ⟨t, c, m, k⟩ = (true, (⟨t, c, m, k⟩ : Pg).pas 1) := by unfold stp; simp [hr, hz]
      rw [es] at q
      repeat' ac_rfl
      all_goals (try (conv => whnf))
      · rename_i z; exact absurd z e
      · exact q
    · have es : stp 120 [] ⟨t, c, m, k⟩ = (true, ⟨t.take c ++ (t.drop c).drop 1, c, m, k⟩) := by unfold stp; simp [hr, hz]
      rw [es] at q
      repeat' ac_rfl
      all_goals (try (conv => whnf))
      · rename_i z; exact absurd z e
      · refine q_H ?_ q
        have e1 : cut t none (some (c : Int)) ++ cut t (some ((c : Int) + 1)) none = t.take c ++ (t.drop c).drop 1 := by
          rw [cut_to, cut_fr1, List.drop_drop]
        show upd H x (pgE K A dx (cut t none (some (c : Int)) ++ cut t (some ((c : Int) + 1)) none) c _ k) = _
        rw [e1]


theorem rd_Page_keep {K : PySem.W.Frag} {mg : Str → Option Value} (T : Tx K mg) : ∀ vs H Q E, sp_Page_keep K vs H Q E → t_Page_keep K (WD E) (EndD Q) (start ["self", "name"] vs) H := by
  intro vs H Q E h
  replace h := h.out
  obtain ⟨x, dx, A, ⟨t, c, m, k⟩, h, rfl, hh, hx, ho, q⟩ := h
  obtain ⟨o1, o2, o3, o4⟩ := ho
  dsimp only at o1 o2 o3 o4
  cases T
  have cb := cut_len t
  cases m with
  | none =>
    have es : stp h [] ⟨t, c, none, k⟩ = (false, ⟨t, c, none, k⟩) := by
      rcases hh with rfl | rfl <;> (unfold stp; simp)
    rw [es] at q
    repeat' ac_rfl
    all_goals (try (conv => whnf))
    exact q_H (upd_self hx).symm q
  | some i =>
    rcases hh with rfl | rfl
    · have es : stp 107 [] ⟨t, c, some i, k⟩ = (true, ⟨t, c, some i, (t.take c).drop i⟩) := by unfold stp; simp [Pg.hld]
      rw [es] at q
      repeat' ac_rfl
      all_goals (try (conv => whnf))
      refine q_H ?_ q
      rw [← cut_both]
      rfl
    · have es : stp 99 [] ⟨t, c, some i, k⟩ = (true, ⟨t.take i ++ t.drop c, i, some i, (t.take c).drop i⟩) := by unfold stp; simp [Pg.hld, Pg.rest]
      rw [es] at q
      repeat' ac_rfl
      all_goals (try (conv => whnf))
      refine q_H ?_ q
      rw [upd_tw, upd_tw, ← cut_both, ← cut_to, ← cut_from]
      rfl


theorem rd_Page_opens_at {K : PySem.W.Frag} {mg : Str → Option Value} (T : Tx K mg) : ∀ vs H Q E, sp_Page_opens_at K vs H Q E → t_Page_opens_at K (WD E) (EndD Q) (start ["self", "place"] vs) H := by
  intro vs H Q E h
  replace h := h.out
  obtain ⟨x, dx, A, ⟨t, c, m, k⟩, rfl, hx, hl, hc, q⟩ := h
  have hl : t.length < 1000 := hl
  have hc : c ≤ t.length := hc
  cases T
  repeat' ac_rfl
  all_goals (try (conv => whnf))
  · rename_i x
    have x : (c : Int) = 0 := x
    refine q_bl ?_ q
    have : c = 0 := by omega
    subst this
    rfl
  · rename_i x j hj e
    have x : ¬ (c : Int) = 0 := x
    have e : (c : Int) - 1 = j := e
    have hj : j < t.length := hj
    have e : j = c - 1 := by omega
    subst e
    refine q_bl ?_ q
    show decide ([t[c - 1]'(by omega)] = [45]) = (decide (c = 0) || decide (t[c - 1]? = some 45))
    rw [decide_eq_false (by omega : ¬ c = 0), Bool.false_or, List.getElem?_eq_getElem (by omega : c - 1 < t.length)]
    simp


theorem rd_Page_put_in {K : PySem.W.Frag} {mg : Str → Option Value} (T : Tx K mg) : ∀ vs H Q E, sp_Page_put_in K vs H Q E → t_Page_put_in K (WD E) (EndD Q) (start ["self", "signs", "sign"] vs) H := by
  intro vs H Q E h
  replace h := h.out
  obtain ⟨x, dx, A, s, g, rfl, hx, ho, hg, q⟩ := h
  cases T
  repeat' ac_rfl
  all_goals (try (conv => whnf))
  refine loop_s (fun i σ H' => Sd (∃ v2 : Option V, σ = [some (.ref x), some (.str (S g)), v2] ∧ H' = upd H x (pgo K A dx (s.ins (g.take i))))) ?_ ?_ ?_
  · refine sd_i ⟨none, rfl, ?_⟩
    show H = upd H x (pgo K A dx (s.ins []))
    rw [ins0 ho, upd_self hx]
  · rintro i hi σ H' hP
    obtain ⟨v2, rfl, rfl⟩ := sd_e hP
    have hi : i < g.length := hi
    generalize hs1 : s.ins (g.take i) = s1
    have hc1 : s1.c = s.c + i := by
      rw [← hs1]; show s.c + (g.take i).length = _; rw [List.length_take, Nat.min_eq_left (by omega)]
    have ht1 : s1.t.length ≤ 910 := by
      rw [← hs1]
      show (s.t.take s.c ++ g.take i ++ s.t.drop s.c).length ≤ 910
      have := ho.tl
      rw [List.length_append, List.length_append, List.length_take, List.length_take, List.length_drop]; omega
    have cb := cut_len s1.t
    repeat' ac_rfl
    all_goals (try (conv => whnf))
    · refine i_Page_pass_sign (s := { s1 with t := s1.t.take s1.c ++ [g[i]] ++ s1.t.drop s1.c }) (upd_at.trans rfl) ?_
      conv => whnf
      refine sd_i ⟨_, rfl, ?_⟩
      rw [upd_tw, upd_tw, List.take_succ_eq_append_getElem hi, ← ins_ins ho, hs1]
  · rintro σ H' hP
    obtain ⟨v2, rfl, rfl⟩ := sd_e hP
    have e : g.take (tl (S g)).length = g := List.take_length
    rw [e]
    conv => whnf
    exact q


theorem rd_Page_press {K : PySem.W.Frag} {mg : Str → Option Value} (T : Tx K mg) : ∀ vs H Q E, sp_Page_press K vs H Q E → t_Page_press K (WD E) (EndD Q) (start ["self", "key", "name", "signs"] vs) H := by
  intro vs H Q E h
  replace h := h.out
  obtain ⟨x, dx, A, dA, l, v, s, key, rfl, hx, hA, ⟨hk, ho, q⟩ | ⟨hk, hl, q⟩⟩ := h
  rotate_left 1
  · cases T
    repeat' ac_rfl
    all_goals (try (conv => whnf))
    rename_i d hd
    exact q d hd
  have hkl := ho.kl
  have htl := ho.tl
  have hle := ho.le
  have hk0 := hk
  cases T
  rcases hk with ⟨h, hm, rfl⟩ | ⟨h, hm, g, hs, rfl⟩
  · simp only [PK, List.mem_cons, List.not_mem_nil, or_false] at hm
    rcases hm with rfl | rfl | rfl | rfl | rfl | rfl | rfl | rfl
    all_goals (repeat' ac_rfl)
    all_goals (try (conv => whnf))
    · exact q _ (Kp.rfl'.at List.mem_cons_self) upd_at
    · exact q _ (Kp.rfl'.at List.mem_cons_self) upd_at
    · rename_i H' k1 k2; exact q H' k1 k2
    · exact q H Kp.rfl' hx
    · exact q _ (Kp.rfl'.at List.mem_cons_self) upd_at
    · exact q _ (Kp.rfl'.at List.mem_cons_self) upd_at
    · exact q _ (Kp.rfl'.at List.mem_cons_self) upd_at
    · rw [stk_p] at q
      by_cases hz : s.k = []
      · rw [if_pos hz] at q
        rw [hz, ins0 ho, upd_self hx]
        exact q H Kp.rfl' hx
      · rw [if_neg hz] at q
        refine q_bl ?_ (q _ (Kp.rfl'.at List.mem_cons_self) upd_at)
        show (!decide (s.k = [])) = true
        rw [decide_eq_false hz]; rfl
  · simp only [SK, List.mem_cons, List.not_mem_nil, or_false] at hm
    have hg2 : (cut (tl (S [39, g])) (some 1) none).length ≤ 2 := Nat.le_of_ble_eq_true rfl
    rcases hm with rfl | rfl | rfl
    all_goals (repeat' ac_rfl)
    all_goals (try (conv => whnf))
    · exact q _ (Kp.rfl'.at List.mem_cons_self) upd_at
    · exact q H Kp.rfl' hx
    · rename_i H' k1 k2; exact q H' k1 k2


theorem rd_l_pass {K : PySem.W.Frag} {mg : Str → Option Value} (T : Tx K mg) : ∀ vs H Q E, sp_l_pass K vs H Q E → t_l_pass K (WD E) (EndD Q) (start ["_law_page", "_law_count"] vs) H := by
  intro vs H Q E h
  replace h := h.out
  obtain ⟨o, n, ⟨t, c, m, k⟩, rfl, ho, q⟩ := h
  cases T
  cases m with
  | none =>
    repeat' ac_rfl
    all_goals (try (conv => whnf))
    exact q
  | some i =>
    repeat' ac_rfl
    all_goals (try (conv => whnf))
    · rename_i z
      have z : (2 : Int) < (c : Int) + n - i := z
      refine q_H ?_ q
      rw [upd_tw]
      have e : (Pg.pas ⟨t, c, some i, k⟩ n) = ⟨t, c + n, none, k⟩ := by
        unfold Pg.pas; dsimp only; rw [if_pos (by omega)]
      rw [e]; rfl
    · rename_i z
      have z : ¬ (2 : Int) < (c : Int) + n - i := z
      refine q_H ?_ q
      have e : (Pg.pas ⟨t, c, some i, k⟩ n) = ⟨t, c + n, some i, k⟩ := by
        unfold Pg.pas; dsimp only; rw [if_neg (by omega)]
      rw [e]; rfl


theorem rd_l_insert {K : PySem.W.Frag} {mg : Str → Option Value} (T : Tx K mg) : ∀ vs H Q E, sp_l_insert K vs H Q E → t_l_insert K (WD E) (EndD Q) (start ["_law_page", "_law_signs"] vs) H := by
  intro vs H Q E h
  replace h := h.out
  obtain ⟨o, g, ⟨t, c, m, k⟩, rfl, ho, hs, hg, q⟩ := h
  have htl : t.length ≤ 900 := hs.tl
  have cb := cut_len t
  cases T
  repeat' ac_rfl
  all_goals (try (conv => whnf))
  refine i_l_pass (n := g.length) (s := ⟨t.take c ++ g ++ t.drop c, c, m, k⟩) rfl ?_ ?_
  · refine upd_at.trans ?_
    show some (HO.lst [.str (S (cut t none (some (c : Int)) ++ g ++ cut t (some (c : Int)) none)), _, _, _]) = _
    rw [cut_to, cut_from]
  · conv => whnf
    exact q_H upd_tw q


theorem rd_l_press {K : PySem.W.Frag} {mg : Str → Option Value} (T : Tx K mg) : ∀ vs H Q E, sp_l_press K vs H Q E → t_l_press K (WD E) (EndD Q) (start ["_law_page", "_law_key", "_law_head", "_law_rest", "_law_count"] vs) H := by
  intro vs H Q E h
  replace h := h.out
  obtain ⟨o, key, sg, s, rfl, ho, hk, hs, q⟩ := h
  have hkl := hs.kl
  have htl := hs.tl
  have hle := hs.le
  cases T
  rcases hk with ⟨h, hm, rfl⟩ | ⟨h, hm, g, hg, rfl⟩
  · simp only [PK, List.mem_cons, List.not_mem_nil, or_false] at hm
    rcases hm with rfl | rfl | rfl | rfl | rfl | rfl | rfl | rfl
    · rw [stk_st] at q
      repeat' ac_rfl
      all_goals (try (conv => whnf))
      · rename_i x; have x : s.rest = [] := x; rw [if_pos x] at q; exact q H Kp.rfl' ho
      · rename_i x; have x : ¬ s.rest = [] := x; rw [if_neg x] at q; exact q _ (Kp.rfl'.at List.mem_cons_self) upd_at
    · rw [stk_x] at q
      repeat' ac_rfl
      all_goals (try (conv => whnf))
      · rename_i x; have x : s.rest = [] := x; rw [if_pos x] at q; exact q H Kp.rfl' ho
      · rename_i x; have x : ¬ s.rest = [] := x; rw [if_neg x] at q; exact q _ (Kp.rfl'.at List.mem_cons_self) upd_at
    · rw [stk_w] at q
      have hb : (bef 45 (List.drop s.c s.t)).length ≤ 900 := Nat.le_trans (bef_le _ _) (by rw [List.length_drop]; omega)
      repeat' ac_rfl
      all_goals (try (conv => whnf))
      refine q _ ?_ upd_at
      nofun
    · rw [stk_o] at q
      repeat' ac_rfl
      all_goals (try (conv => whnf))
      · rename_i x
        have x : (s.c : Int) = 0 := x
        have x : s.c = 0 := by omega
        refine q_bl ?_ (q H Kp.rfl' ho)
        show decide ((s.c : Int) = 0) = (decide (s.c = 0) || _)
        rw [decide_eq_true x, decide_eq_true (by omega)]; rfl
      · rename_i x j hj e
        have x : ¬ (s.c : Int) = 0 := x
        have e : (s.c : Int) - 1 = j := e
        have hj : j < s.t.length := hj
        have e : j = s.c - 1 := by omega
        subst e
        refine q_bl ?_ (q H Kp.rfl' ho)
        show decide ([s.t[s.c - 1]'(by omega)] = [45]) = (decide (s.c = 0) || decide (s.t[s.c - 1]? = some 45))
        rw [decide_eq_false (by omega : ¬ s.c = 0), Bool.false_or, List.getElem?_eq_getElem (by omega : s.c - 1 < s.t.length)]
        simp
    · rw [stk_m] at q
      repeat' ac_rfl
      all_goals (try (conv => whnf))
      exact q _ (Kp.rfl'.at List.mem_cons_self) upd_at
    · obtain ⟨t, c, m, k⟩ := s
      cases m with
      | none =>
        rw [stk_k0] at q
        repeat' ac_rfl
        all_goals (try (conv => whnf))
        exact q H Kp.rfl' ho
      | some i =>
        rw [stk_k1] at q
        repeat' ac_rfl
        all_goals (try (conv => whnf))
        exact q _ (Kp.rfl'.at List.mem_cons_self) upd_at
    · obtain ⟨t, c, m, k⟩ := s
      cases m with
      | none =>
        rw [stk_c0] at q
        repeat' ac_rfl
        all_goals (try (conv => whnf))
        exact q H Kp.rfl' ho
      | some i =>
        rw [stk_c1] at q
        repeat' ac_rfl
        all_goals (try (conv => whnf))
        refine q _ ?_ upd_at
        nofun
    · rw [stk_p] at q
      repeat' ac_rfl
      all_goals (try (conv => whnf))
      · rename_i x; have x : s.k = [] := x; rw [if_pos x] at q; exact q H Kp.rfl' ho
      · rename_i x; have x : ¬ s.k = [] := x; rw [if_neg x] at q; exact q _ (Kp.rfl'.at List.mem_cons_self) upd_at
  · simp only [SK, List.mem_cons, List.not_mem_nil, or_false] at hm
    rcases hm with rfl | rfl | rfl
    · rw [stk_i] at q
      repeat' ac_rfl
      all_goals (try (conv => whnf))
      exact q _ (Kp.rfl'.at List.mem_cons_self) upd_at
    · rw [stk_e] at q
      repeat' ac_rfl
      all_goals (try (conv => whnf))
      exact q H Kp.rfl' ho
    · rw [stk_s] at q
      by_cases hf : g ∈ s.rest
      · have e : fnd g s.rest = (bef g s.rest).length := if_pos hf
        repeat' ac_rfl
        all_goals (try (conv => whnf))
        · refine q_bl ?_ (q _ (by nofun) upd_at)
          show decide (0 ≤ fnd g s.rest) = decide (g ∈ s.rest)
          rw [e, decide_eq_true hf, decide_eq_true (by omega)]
        · rename_i ej
          have ej : (if decide (fnd g s.rest < 0) = true then (1 : Int) else 0) = 1 := ej
          rw [e, decide_eq_false (by omega)] at ej
          exact absurd ej (by decide)
      · have e : fnd g s.rest = -1 := if_neg hf
        repeat' ac_rfl
        all_goals (try (conv => whnf))
        · rename_i ej
          have ej : (if decide (fnd g s.rest < 0) = true then (1 : Int) else 0) = 0 := ej
          rw [e] at ej
          exact absurd ej (by decide)
        · rw [bef_no hf] at q
          refine q_bl ?_ (q _ (by nofun) upd_at)
          show decide (0 ≤ fnd g s.rest) = decide (g ∈ s.rest)
          rw [e, decide_eq_false hf]; rfl


theorem rd_l_worked {K : PySem.W.Frag} {mg : Str → Option Value} (T : Tx K mg) : ∀ vs H Q E, sp_l_worked K vs H Q E → t_l_worked K (WD E) (EndD Q) (start ["_law_page", "_law_own", "_law_key", "_law_told", "_law_due"] vs) H := by
  intro vs H Q E h
  replace h := h.out
  obtain ⟨x, dx, A, dA, o, l, v, s, key, rfl, hx, ho, hA, hk, hs, q⟩ := h
  have hxo : o ≠ x := ne_ho ho hx (by intro z; cases z)
  cases T
  repeat' ac_rfl
  all_goals (try (conv => whnf))
  rename_i H1 k1 x1 H2 k2 x2
  exact q_bl (decide_eq_true rfl) (q H2 (fun p u hp hn => by
    simp only [List.mem_cons, List.not_mem_nil, or_false, not_or] at hn
    exact k2.get1 (k1.get1 hp hn.1) hn.2) (k2.get1 x1 hxo.symm) x2)


theorem rd_l_pressed {K : PySem.W.Frag} {mg : Str → Option Value} (T : Tx K mg) : ∀ vs H Q E, sp_l_pressed K vs H Q E → t_l_pressed K (WD E) (EndD Q) (start ["_law_alphabet", "_law_text_here", "_law_row", "_law_key", "_law_page", "_law_own", "_law_one", "_law_turn"] vs) H := by
  intro vs H Q E h
  replace h := h.out
  obtain ⟨A, dA, r, l, v, t, key, ks, rfl, hA, hr, ht, h1, h2, h3, h4, q⟩ := h
  have h1' : (Pg.mk t 0 none []).t.length < 1000 := by show t.length < 1000; omega
  cases T
  repeat' ac_rfl
  all_goals (try (conv => whnf))
  rename_i x dx hx hdx hne H1 k1 hx1 o ho
  have o1 : upd H1 o (HO.lst [V.str (S t), V.int 0, V.non, V.str (S [])]) o = some (ow ⟨t, 0, none, []⟩) := upd_at.trans rfl
  have x1 : upd H1 o (HO.lst [V.str (S t), V.int 0, V.non, V.str (S [])]) x = some (pgo K A dx ⟨t, 0, none, []⟩) := upd_fr ho hx1
  have kh : Kp [] H (upd H1 o (HO.lst [V.str (S t), V.int 0, V.non, V.str (S [])])) := (Kp.made hx hdx k1).new ho
  have hoH : H o = none := Kp.none (Kp.made hx hdx k1) ho
  have hk0 : (⟨t, 0, none, []⟩ : Pg).ok 60 := ⟨Nat.zero_le _, fun _ z => (nomatch z), h1, Nat.zero_le _⟩
  generalize upd H1 o (HO.lst [V.str (S t), V.int 0, V.non, V.str (S [])]) = H2 at o1 x1 kh
  clear k1 hx1 ho
  generalize (⟨t, 0, none, []⟩ : Pg) = s at o1 x1 hk0 h1'
  have hA2 := kh.get0 hA
  have hr2 := kh.get0 hr
  repeat' ac_rfl
  all_goals (try (conv => whnf))
  refine loop_l (xs := ks.map fun k => .str (S k)) (p := r) (fun i σ H' => Sd (∃ (s : Pg) (v6 : Option V), σ = [some (.ref A), some (.str (S t)), some (.ref r), some (.str (S key)), some (.ref x), some (.ref o), v6, none] ∧ Kp [x, o] H2 H' ∧ H' x = some (pgo K A dx s) ∧ H' o = some (ow s) ∧ s.ok (60 + 2 * i))) ?_ ?_ ?_ ?_
  · exact sd_i ⟨s, none, rfl, Kp.rfl', x1, o1, hk0⟩
  · rintro i σ H' hi hP
    obtain ⟨s, v6, rfl, k2, x2, o2, hk2⟩ := sd_e hP
    exact k2.get2 hr2 (ne_none hr hx) (ne_none hr hoH)
  · rintro i hi σ H' hP
    obtain ⟨s, v6, rfl, k2, x2, o2, hk2⟩ := sd_e hP
    have hi' : i < ks.length := by simpa using hi
    have e1 : (ks.map fun k => V.str (S k))[i] = .str (S ks[i]) := List.getElem_map _
    rw [e1]
    have hkk := h3 _ (List.getElem_mem hi') (45 :: srt l)
    generalize ks[i] = key2 at hkk
    have h9 := ok_mono hk2 (show 60 + 2 * i ≤ 900 by omega)
    have hA3 := k2.get2 hA2 (ne_none hA hx) (ne_none hA hoH)
    repeat' ac_rfl
    all_goals (try (conv => whnf))
    rename_i H3 k3 x3 o3
    exact sd_i ⟨_, _, rfl, k2.trans k3, x3, o3, ok_mono (stk_ok hk2 hkk) (by omega)⟩
  · rintro σ H' hP
    obtain ⟨s, v6, rfl, k2, x2, o2, hk2⟩ := sd_e hP
    have hl2 : (ks.map fun k => V.str (S k)).length = ks.length := List.length_map _
    rw [hl2] at hk2
    have hA3 := k2.get2 hA2 (ne_none hA hx) (ne_none hA hoH)
    have h9 := ok_mono hk2 (show 60 + 2 * ks.length ≤ 440 by omega)
    have h99 := ok_mono h9 (show 440 ≤ 900 by omega)
    have h98 := ok_mono (stk_ok h9 h4) (show 440 + 2 ≤ 900 by omega)
    clear x1 o1 hk0 h1'
    repeat' (first | ac_rfl | refine loop_r2 ?_)
    all_goals (try (conv => whnf))
    rename_i H3 k3 x3 o3 H4 k4 x4 o4
    refine q _ (Kp.fr kh ((k2.trans k3).trans k4) fun z hz => ?_)
    simp only [List.mem_cons, List.not_mem_nil, or_false] at hz
    rcases hz with rfl | rfl
    · exact hx
    · exact hoH


theorem rd_l_take {K : PySem.W.Frag} {mg : Str → Option Value} (T : Tx K mg) : ∀ vs H Q E, sp_l_take K vs H Q E → t_l_take K (WD E) (EndD Q) (start ["_law_box_here", "_law_size_here", "_law_digit", "_law_cells", "_law_mixed"] vs) H := by
  intro vs H Q E h
  replace h := h.out
  obtain ⟨p, q, n, a, b, cs, rfl, hp, hq, ⟨c1, c2, c3⟩, h0, h1, k⟩ := h
  have hqp := bxq hp hq
  cases T
  have hlen : (cs.map V.int).length = cs.length := List.length_map _
  have hpos : 0 < cs.length := List.length_pos_iff.mpr c1
  repeat' ac_rfl
  all_goals (try (conv => whnf))
  · exact k _ _ _ (Int.emod_nonneg _ (by omega)) (Int.emod_lt_of_pos _ h0)
  · have hlt := Int.emod_lt_of_pos (b + 1) (show (0 : Int) < (cs.map V.int).length by omega)
    have hge := Int.emod_nonneg (b + 1) (show ((cs.map V.int).length : Int) ≠ 0 by omega)
    obtain ⟨j, hj⟩ := Int.eq_ofNat_of_zero_le hge
    have hj2 : j < cs.length := by omega
    refine itm_n (v := .int cs[j]) hj (by rw [List.getElem?_map, List.getElem?_eq_getElem hj2]; rfl) ?_
    have hc3 := c3 cs[j] (List.getElem_mem hj2)
    repeat' ac_rfl
    all_goals (try (conv => whnf))
    exact k _ a (b + 1) (Int.emod_nonneg _ (by omega)) (Int.emod_lt_of_pos _ h0)


theorem rd_l_string {K : PySem.W.Frag} {mg : Str → Option Value} (T : Tx K mg) : ∀ vs H Q E, sp_l_string K vs H Q E → t_l_string K (WD E) (EndD Q) (start ["_law_box_here", "_law_signs", "_law_chars", "_law_string_here", "_law_turn", "_law_menu"] vs) H := by
  intro vs H Q E h
  replace h := h.out
  obtain ⟨p, q, a, b, cs, g, rfl, hp, hq, hc, hg, hg2, k⟩ := h
  have hqp := bxq hp hq
  have hgp : 0 < g.length := List.length_pos_iff.mpr hg
  cases T
  repeat' ac_rfl
  all_goals (try (conv => whnf))
  rename_i r a1 b1 r0 r1
  refine loop_r (fun i σ H' => Sd (∃ (u : List Nat) (a b : Int) (v4 v5 : Option V), σ = [some (.ref p), some (.str (S g)), some (.str (S chs)), some (.str (S u)), v4, v5] ∧ Kp [p] H H' ∧ H' p = some (bx a b q) ∧ u.length = i)) ?_ ?_ ?_
  · exact sd_i ⟨[], a1, b1, none, none, rfl, Kp.rfl'.at List.mem_cons_self, upd_at, rfl⟩
  · rintro i σ H' hi hP
    obtain ⟨u, a, b, v4, v5, rfl, k0, hp', hu⟩ := sd_e hP
    have hi : i < r.toNat := hi
    have hq' := k0.get1 hq hqp
    have hcl : chs.length = 94 := by decide +kernel
    generalize chs = ch at hcl
    repeat' ac_rfl
    all_goals (try (conv => whnf))
    all_goals
      rename_i p3 hp3 r2 a2 b2 g0 g1 e r3 a3 b3 z0 z1 j hj ej
      refine sd_i ⟨u ++ [_], _, _, _, _, rfl, ?_, upd_at, by simp; omega⟩
      nofun
  · rintro σ H' hP
    obtain ⟨u, a, b, v4, v5, rfl, k0, hp', hu⟩ := sd_e hP
    conv => whnf
    exact k u a b H' (by omega) k0 hp'


theorem rd_l_refused {K : PySem.W.Frag} {mg : Str → Option Value} (T : Tx K mg) : ∀ vs H Q E, sp_l_refused K vs H Q E → t_l_refused K (WD E) (EndD Q) (start ["_law_page", "_law_own", "_law_signs", "_law_string_here", "_law_single", "_law_raised", "bad"] vs) H := by
  intro vs H Q E h
  replace h := h.out
  obtain ⟨x, dx, A, dA, o, l, v, u, s, n, rfl, hx, ho, hA, h1, hs, hn, hl, q⟩ := h
  have hxo : o ≠ x := ne_ho ho hx (by intro z; cases z)
  have h9 := ok_mono hs (show n ≤ 900 by omega)
  have hst := lt_ok hs (show n < 1000 by omega)
  by_cases hk : keyB u (45 :: srt l) = true
  · have hk2 := keyB_inv hk
    have h92 := stk_ok hs hk2
    have hst2 := lt_ok h92 (show n + 2 < 1000 by omega)
    have hk3 := hk2
    rcases hk2 with ⟨h, hm, rfl⟩ | ⟨h, hm, g, hg, rfl⟩
    · cases T
      repeat' ac_rfl
      all_goals (try (conv => whnf))
      rename_i H' k1 k2 k3
      exact q _ _ k1 h92 k2 k3
    · cases T
      repeat' ac_rfl
      all_goals (try (conv => whnf))
      all_goals first
        | (rename_i H' k1 k2 k3; exact q _ _ k1 h92 k2 k3)
        | (rename_i z; exact absurd rfl z)
        | trace_state
  · have hk : keyB u (45 :: srt l) = false := by simpa using hk
    have q2 : ∀ H', Kp [] H H' → H' x = some (pgo K A dx s) → H' o = some (ow s) → Q (.bl true) H' := fun H' k a b => q s H' (Kp.nil k) (ok_mono hs (by omega)) a b
    clear q
    cases T
    rcases u with _ | ⟨a, _ | ⟨b, _ | ⟨c, r⟩⟩⟩
    · repeat' ac_rfl
      all_goals (try (conv => whnf))
      all_goals first
        | (refine q2 _ ?_ ?_ ?_; (focus nofun); (focus contradiction); (focus contradiction))
        | (rename_i z; exact absurd rfl z)
        | trace_state
    · have hka : ¬ a ∈ PK := of_decide_eq_false hk
      repeat' ac_rfl
      all_goals (try (conv => whnf))
      all_goals first
        | (refine q2 _ ?_ ?_ ?_; (focus nofun); (focus contradiction); (focus contradiction))
        | (rename_i z; exact absurd z hka)
        | (rename_i z; exact absurd rfl z)
        | trace_state
    · have hka : (decide (a ∈ SK) && decide (b ∈ 45 :: srt l)) = false := hk
      repeat' ac_rfl
      all_goals (try (conv => whnf))
      all_goals first
        | (rename_i z1 z2; rw [decide_eq_true (show a ∈ SK from z1), decide_eq_true (show b ∈ 45 :: srt l from z2)] at hka; cases hka)
        | (refine q2 _ ?_ ?_ ?_; (focus nofun); (focus contradiction); (focus contradiction))
        | (rename_i z; exact absurd rfl z)
        | trace_state
    · repeat' ac_rfl
      all_goals (try (conv => whnf))
      all_goals first
        | (refine q2 _ ?_ ?_ ?_; (focus nofun); (focus contradiction); (focus contradiction))
        | (rename_i z; exact absurd rfl z)
        | trace_state


theorem rd_l_box {K : PySem.W.Frag} {mg : Str → Option Value} (T : Tx K mg) : ∀ vs H Q E, sp_l_box K vs H Q E → t_l_box K (WD E) (EndD Q) (start ["_law_script", "_law_k", "_law_cells", "_law_cell", "_law_great"] vs) H := by
  intro vs H Q E h
  replace h := h.out
  obtain ⟨p, k, ob, ns, rfl, hp, h0, h1, q⟩ := h
  cases T
  have hl := cut_len ns (some k) (some 63)
  repeat' ac_rfl
  all_goals (try (conv => whnf))
  rename_i p' hp'
  rw [cut_map]
  generalize cut ns (some k) (some 63) = cs at hl
  refine lcp_I upd_at (fun x => x) (by omega) ?_ (fun _ => rfl) ?_
  · rintro x D _ Q' hD hx ⟨ys, rfl⟩ hQ
    repeat' ac_rfl
    all_goals (try (conv => whnf))
    exact hQ
  · intro D hD
    rw [List.map_id']
    cases cs with
    | nil =>
      repeat' ac_rfl
      all_goals (try (conv => whnf))
      refine lcp_I (cs := [0]) upd_at (fun x => x % 2305843009213693951) (by decide) ?_ (fun _ => rfl) ?_
      · rintro x D _ Q' hD hx ⟨ys, rfl⟩ hQ
        repeat' ac_rfl
        all_goals (try (conv => whnf))
        exact hQ
      · intro D2 hD2
        repeat' ac_rfl
        all_goals (try (conv => whnf))
        rename_i B hB
        exact q B D2 0 [0 % 2305843009213693951] _ (by nofun) (Kp.none (by nofun) hB) (Kp.none (by nofun) hD2) (ne_none upd_at hB) upd_at (upd_fr hB upd_at) ⟨by simp, by simp, by simp⟩
    | cons c cs =>
      repeat' ac_rfl
      all_goals (try (conv => whnf))
      all_goals refine lcp_I (cs := c :: cs) upd_at (fun x => x % 2305843009213693951) (by omega) ?_ (fun _ => rfl) ?_
      all_goals first
        | (rintro x D _ Q' hD hx ⟨ys, rfl⟩ hQ
           repeat' ac_rfl
           all_goals (try (conv => whnf))
           exact hQ)
        | (intro D2 hD2
           repeat' ac_rfl
           all_goals (try (conv => whnf))
           rename_i B hB
           refine q B D2 _ ((c :: cs).map (· % 2305843009213693951)) _ (by nofun) ?_ (Kp.none (by nofun) hD2) (ne_none upd_at hB) upd_at (upd_fr hB upd_at) ⟨by simp, by rw [List.length_map]; omega, fun c hc => ?_⟩
           · exact Kp.none (by nofun) hB
           · obtain ⟨d, _, rfl⟩ := List.mem_map.mp hc
             exact ⟨Int.emod_nonneg _ (by decide), Int.emod_lt_of_pos _ (by decide)⟩)


theorem rd_l_letters {K : PySem.W.Frag} {mg : Str → Option Value} (T : Tx K mg) : ∀ vs H Q E, sp_l_letters K vs H Q E → t_l_letters K (WD E) (EndD Q) (start ["_law_box_here", "_law_count", "_law_pool", "_law_menu", "_law_letters_here", "_law_k", "_law_letter"] vs) H := by
  intro vs H Q E h
  replace h := h.out
  obtain ⟨p, q, n, a, b, cs, rfl, hp, hq, hc, h0, h1, k⟩ := h
  have hqp := bxq hp hq
  cases T
  repeat' ac_rfl
  all_goals (try (conv => whnf))
  rename_i r a1 b1 r0 r1
  refine loop_r (fun i σ H' => Sd (∃ (po l : List Nat) (a b : Int) (v5 v6 : Option V), σ = [some (.ref p), some (.int n), some (.str (S po)), some (.int r), some (.str (S l)), v5, v6] ∧ Kp [p] H H' ∧ H' p = some (bx a b q) ∧ po.length + i = 26 ∧ l.length = i ∧ (l ++ po).Nodup ∧ ∀ c ∈ l ++ po, c ∈ AZ)) ?_ ?_ ?_
  · exact sd_i ⟨_, [], a1, b1, none, none, rfl, Kp.rfl'.at List.mem_cons_self, upd_at, rfl, rfl, by decide, by decide⟩
  · rintro i σ H' hi hP
    obtain ⟨po, l, a, b, v5, v6, rfl, hk, hp', hpo, hl, hnd, haz⟩ := sd_e hP
    have hi : i < n.toNat := hi
    have hq' : H' q = some (cel cs) := hk.get1 hq hqp
    obtain ⟨nd1, nd2, nd3⟩ := List.nodup_append.mp hnd
    have hr : r = 0 ∨ r = 1 := by omega
    have fin : ∀ (j : Nat) (hj : j < po.length), (rpE po[j] po).length + (i + 1) = 26 ∧ (l ++ [po[j]]).length = i + 1 ∧ ((l ++ [po[j]]) ++ rpE po[j] po).Nodup ∧ ∀ c ∈ (l ++ [po[j]]) ++ rpE po[j] po, c ∈ AZ := by
      intro j hj
      have hm := List.getElem_mem hj
      have := rpE_len nd2 hm
      refine ⟨by omega, by simp [hl], ?_, fun c hc => ?_⟩
      · refine List.nodup_append.mpr ⟨List.nodup_append.mpr ⟨nd1, by simp, fun x hx y hy => ?_⟩, rpE_nd nd2, fun x hx y hy => ?_⟩
        · rw [List.mem_singleton.mp hy]; exact nd3 x hx _ hm
        · obtain ⟨hy1, hy2⟩ := rpE_mem.mp hy
          rcases List.mem_append.mp hx with hx | hx
          · exact nd3 x hx y hy1
          · rw [List.mem_singleton.mp hx]; exact fun e => hy2 e.symm
      · rcases List.mem_append.mp hc with hc | hc
        · rcases List.mem_append.mp hc with hc | hc
          · exact haz c (List.mem_append_left _ hc)
          · rw [List.mem_singleton.mp hc]; exact haz _ (List.mem_append_right _ hm)
        · exact haz c (List.mem_append_right _ (rpE_mem.mp hc).1)
    rcases hr with rfl | rfl
    all_goals repeat' ac_rfl
    all_goals (try (conv => whnf))
    all_goals (rename_i pl hpl r2 a2 b2 z1 z2 j hj e; have hj : j < po.length := hj; obtain ⟨f1, f2, f3, f4⟩ := fin j hj; refine sd_i ⟨rpE po[j] po, l ++ [po[j]], a2, b2, _, _, rfl, ?_, upd_at, f1, f2, f3, f4⟩; nofun)
  · rintro σ H' hP
    obtain ⟨po, l, a, b, v5, v6, rfl, hk, hp', hpo, hl, hnd, haz⟩ := sd_e hP
    obtain ⟨nd1, nd2, nd3⟩ := List.nodup_append.mp hnd
    conv => whnf
    exact k l a b H' (badL_ok (by omega) (by omega) nd1 fun c hc => haz c (List.mem_append_left _ hc)) (by omega) hk hp'


theorem rd_all_different {K : PySem.W.Frag} {mg : Str → Option Value} (T : Tx K mg) : ∀ vs H Q E, sp_all_different K vs H Q E → t_all_different K (WD E) (EndD Q) (start ["string"] vs) H := by
  intro vs H Q E h
  replace h := h.out
  obtain ⟨l, rfl, h1, q⟩ := h
  repeat' ac_rfl
  all_goals (conv => whnf)
  exact q


theorem rd_Alphabet_init {K : PySem.W.Frag} {mg : Str → Option Value} (T : Tx K mg) : ∀ vs H Q E, sp_Alphabet_init K vs H Q E → t_Alphabet_init K (WD E) (EndD Q) (start ["self", "letters", "vowels", "foreign", "sign"] vs) H := by
  intro vs H Q E h
  replace h := h.out
  obtain ⟨a, dx, l, v, rfl, ha, h1, h2, q1, q2, q3⟩ := h
  cases T
  have g1 : (tl (S l)).length < 64 := h1
  have g2 : (tl (S v)).length < 64 := h2
  conv => whnf
  refine lcp_f (fun c => !decide (c ∈ AZ)) (by omega) ?_ ?_ (fun _ => rfl) ?_
  · rintro c D _ Q' hD hc ⟨xs, rfl⟩ q
    exact q
  · intro c H' Q' q
    exact q
  intro D hD
  repeat' ac_rfl
  all_goals (try (conv => whnf))
  rotate_left 1
  · rename_i d hd; exact q1 (badL4 (by assumption)) _ d (Kp.rfl'.new hD) hd
  · rename_i d hd; exact q1 (badL3 (by assumption)) _ d (Kp.rfl'.new hD) hd
  · rename_i d hd; exact q1 (badL2 (by assumption)) _ d (Kp.rfl'.new hD) hd
  · rename_i d hd; exact q1 (badL1 (by assumption)) _ d (Kp.rfl'.new hD) hd
  have hL : badL l = false := badL0 (by assumption) (by assumption) (by assumption) (by assumption)
  refine lcp_f (fun c => !decide (c ∈ l)) (by omega) ?_ ?_ (fun _ => rfl) ?_
  · rintro c D _ Q' hD hc ⟨xs, rfl⟩ q
    exact q
  · intro c H' Q' q
    exact q
  intro D2 hD2
  repeat' ac_rfl
  all_goals (try (conv => whnf))
  rotate_left 1
  · rename_i d hd; exact q2 hL (badV2 (by assumption)) _ d (by nofun) hd
  · rename_i d hd; exact q2 hL (badV1 (by assumption)) _ d (by nofun) hd
  have hV : badV l v = false := badV0 (by assumption) (by assumption)
  have q3 := q3 hL hV
  refine lcp_l (by contradiction) (fun c => !decide (c ∈ v)) (by bv_omega) ?_ ?_ (fun _ => rfl) ?_
  · rintro c D _ Q' hD hc ⟨xs, rfl⟩ q
    exact q
  · intro c H' Q' q
    exact q
  intro D3 hD3
  have hfl : ((srt (tl (S l))).filter fun c => !decide (c ∈ v)).length ≤ 1000000 := Nat.le_trans (List.length_filter_le _ _) (by bv_omega)
  repeat' ac_rfl
  all_goals (try (conv => whnf))
  exact q3 _ (by nofun) (upd_at.trans rfl)


theorem rd_l_vowels {K : PySem.W.Frag} {mg : Str → Option Value} (T : Tx K mg) : ∀ vs H Q E, sp_l_vowels K vs H Q E → t_l_vowels K (WD E) (EndD Q) (start ["_law_box_here", "_law_letters_here", "_law_vowels_here", "_law_letter"] vs) H := by
  intro vs H Q E h
  replace h := h.out
  obtain ⟨p, q, a, b, cs, l, rfl, hp, hq, hc, hl, k⟩ := h
  have hqp := bxq hp hq
  obtain ⟨b1, b2, b3, b4⟩ := badL_inv hl
  cases T
  repeat' ac_rfl
  all_goals (try (conv => whnf))
  refine loop_s (fun i σ H' => Sd (∃ (v : List Nat) (a b : Int) (v3 : Option V), σ = [some (.ref p), some (.str (S l)), some (.str (S v)), v3] ∧ H' = upd H p (bx a b q) ∧ v.Nodup ∧ (∀ c ∈ v, c ∈ l.take i) ∧ v.length ≤ i)) ?_ ?_ ?_
  · exact sd_i ⟨[], a, b, none, rfl, (upd_self hp).symm, .nil, (fun _ z => nomatch z), Nat.le_refl _⟩
  · rintro i hi σ H' hP
    obtain ⟨v, a, b, v3, rfl, rfl, hv1, hv2, hv3⟩ := sd_e hP
    have hi : i < l.length := hi
    have hi2 : (tl (S l))[i] = l[i] := rfl
    repeat' ac_rfl
    all_goals (try (conv => whnf))
    · refine sd_i ⟨l[i] :: v, _, _, _, rfl, upd_tw, List.nodup_cons.mpr ⟨fun z => ?_, hv1⟩, ?_, ?_⟩
      · exact nd_at hi (hv2 _ z) b3
      · intro c hc
        rw [List.take_succ_eq_append_getElem hi]
        rcases List.mem_cons.mp hc with rfl | hc
        · exact List.mem_append_right _ (List.mem_singleton.mpr rfl)
        · exact List.mem_append_left _ (hv2 c hc)
      · rw [List.length_cons]; omega
    · refine sd_i ⟨v, _, _, _, rfl, upd_tw, hv1, fun c hc => ?_, by omega⟩
      rw [List.take_succ_eq_append_getElem hi]
      exact List.mem_append_left _ (hv2 c hc)
  · rintro σ H' hP
    obtain ⟨v, a, b, v3, rfl, rfl, hv1, hv2, hv3⟩ := sd_e hP
    have e : l.take (tl (S l)).length = l := List.take_length
    rw [e] at hv2
    conv => whnf
    exact k v a b ⟨hl, badV_ok hv1 hv2⟩


theorem rd_l_text {K : PySem.W.Frag} {mg : Str → Option Value} (T : Tx K mg) : ∀ vs H Q E, sp_l_text K vs H Q E → t_l_text K (WD E) (EndD Q) (start ["_law_box_here", "_law_signs", "_law_size_here", "_law_k"] vs) H := by
  intro vs H Q E h
  replace h := h.out
  obtain ⟨p, q, a, b, n, cs, g, rfl, hp, hq, hc, hg, hg2, h0, h1, k⟩ := h
  have hqp := bxq hp hq
  have hpos : 0 < g.length := List.length_pos_iff.mpr hg
  cases T
  repeat' ac_rfl
  all_goals (try (conv => whnf))
  refine lcp_B p ⟨_, hp⟩ (fun o => ∃ a b, o = bx a b q) (fun v => ∃ c ∈ g, v = .str (S [c])) (fun o ho => by rw [hp] at ho; exact ⟨a, b, (Option.some.inj ho).symm⟩) (by omega) (fun _ _ _ _ _ h => h.1) (fun _ _ _ _ => trivial) ?_ (fun _ => rfl) ?_
  · rintro j x D o ys Q' hj hD hDp ⟨_, rfl⟩ ⟨a, b, rfl⟩ hQ
    have hqD := ne_none hq hD
    repeat' ac_rfl
    all_goals (try (conv => whnf))
    exact hQ _ _ ⟨_, List.getElem_mem _, rfl⟩ ⟨_, _, rfl⟩
  · rintro D xs o hD hDp hl hP ⟨a, b, rfl⟩
    obtain ⟨t, rfl, ht, hm⟩ := all_sgn hP
    repeat' ac_rfl
    all_goals (try (conv => whnf))
    refine k t a b _ (by omega) hm ?_ ?_
    · nofun
    · contradiction


theorem rd_l_size {K : PySem.W.Frag} {mg : Str → Option Value} (T : Tx K mg) : ∀ vs H Q E, sp_l_size K vs H Q E → t_l_size K (WD E) (EndD Q) (start ["_law_box_here", "_law_small", "_law_size_here"] vs) H := by
  intro vs H Q E h
  replace h := h.out
  obtain ⟨p, q, a, b, n, cs, rfl, hp, hq, hc, h0, h1, k⟩ := h
  have hqp := bxq hp hq
  cases T
  repeat' ac_rfl
  all_goals (try (conv => whnf))
  · rename_i r1 a1 b1 r1a r1b r2 a2 b2 r2a r2b z r3 a3 b3 r3a r3b
    exact q_H upd_tw2 (k _ _ _ r3a (by omega))
  · rename_i r1 a1 b1 r1a r1b r2 a2 b2 r2a r2b z
    exact q_H upd_tw (k _ _ _ r1a (by omega))

theorem seg9 {K : PySem.W.Frag} {mg : Str → Option Value} (T : Tx K mg) {W : WX} {H : Hp} {b q A dA C : Addr} {cs cs2 : List Int} {l v t : List Nat} {a c bk hd : Int} {w0 w1 w3 : Option V} {Q : VK}
    (hc : okc cs) (hl4 : l.length ≤ 4) (Hb : H b = some (bx a c q)) (Hq : H q = some (cel cs)) (HA : H A = some (alo K dA l v)) (HC : H C = some (.lst (cs2.map V.int))) (hcs : cs2 ≠ []) (hcb : ∀ c ∈ cs2, 0 ≤ c ∧ c ≤ 60)
    (ht : ∀ c ∈ t, c ∈ 45 :: srt l) (ht2 : t.length ≤ 60) (nqb : q ≠ b) (nAb : A ≠ b) (k : ∀ H', Kp [b] H H' → Q (.bl true) H') :
    t_l_world_9 K W (EndD Q) [w0, w1, some (.ref b), w3, some (.ref A), some (.str (S (45 :: srt l))), some (.str (S t)), some (.int bk), some (.int hd), some (.ref C), none, none, none, none, none, none, none, none, none, none] H := by
  refine ⟨?_⟩
  have hsl : (srt l).length = l.length := srt_len l
  have hsn : (45 :: srt l) ≠ [] := by simp
  have T0 := T
  cases T
  repeat' ac_rfl
  all_goals (try (conv => whnf))
  rename_i x0 d0 hx0 hd0 hne0 H1 k1 hx1
  have kk : Kp [] H H1 := Kp.made hx0 hd0 k1
  have k0 := kk
  have hC1 := kk.get0 HC
  have hA1 := kk.get0 HA
  refine loop_l (xs := cs2.map V.int) (p := C) (fun i σ H' => Sd (∃ (v11 v12 v13 : Option V), σ = [w0, w1, some (.ref b), w3, some (.ref A), some (.str (S (45 :: srt l))), some (.str (S t)), some (.int bk), some (.int hd), some (.ref C), some (.ref x0), v11, v12, v13, none, none, none, none, none, none] ∧ Kp [] H1 H')) ?_ ?_ ?_ ?_
  · exact sd_i ⟨none, none, none, rfl, Kp.rfl'⟩
  · rintro i σ H' hi hP
    obtain ⟨v11, v12, v13, rfl, k2⟩ := sd_e hP
    exact k2.get0 hC1
  · rintro i hi σ H' hP
    obtain ⟨v11, v12, v13, rfl, k2⟩ := sd_e hP
    have hi' : i < cs2.length := by simpa using hi
    have e1 : (cs2.map V.int)[i] = .int cs2[i] := List.getElem_map _
    rw [e1]
    obtain ⟨b1, b2⟩ := hcb _ (List.getElem_mem hi')
    generalize cs2[i] = ct at b1 b2
    repeat' ac_rfl
    all_goals (try (conv => whnf))
    rename_i r ks H3 k3 hr0 hr hkl hkk p3 ks3 H4 k4 hp0 hp4 hk4
    have hr4 : H4 r = some (ksl ks) := k4.get0 hr
    have hA4 : H4 A = some (alo K dA l v) := k4.get0 (k3.get0 (k2.get0 hA1))
    refine loop_l (xs := ks3.map fun k => .str (S k)) (p := p3) (fun i σ H' => Sd (∃ (v13 : Option V), σ = [w0, w1, some (.ref b), w3, some (.ref A), some (.str (S (45 :: srt l))), some (.str (S t)), some (.int bk), some (.int hd), some (.ref C), some (.ref x0), some (.int ct), some (.ref r), v13, none, none, none, none, none, none] ∧ Kp [] H4 H')) ?_ ?_ ?_ ?_
    · exact sd_i ⟨_, rfl, Kp.rfl'⟩
    · rintro i σ H' hi hP
      obtain ⟨v13, rfl, k5⟩ := sd_e hP
      exact k5.get0 hp4
    · rintro i hi σ H' hP
      obtain ⟨v13, rfl, k5⟩ := sd_e hP
      have hi2 : i < ks3.length := by simpa using hi
      have e2 : (ks3.map fun k => V.str (S k))[i] = .str (S ks3[i]) := List.getElem_map _
      rw [e2]
      have hkey := hk4 _ (List.getElem_mem hi2)
      generalize ks3[i] = key at hkey
      repeat' ac_rfl
      all_goals (try (conv => whnf))
      rename_i H6 k6
      exact sd_i ⟨_, rfl, k5.trans k6⟩
    · rintro σ H' hP
      obtain ⟨v13, rfl, k5⟩ := sd_e hP
      conv => whnf
      exact sd_i ⟨_, _, _, rfl, ((k2.trans k3).trans k4).trans k5⟩
  · rintro σ H' hP
    obtain ⟨v11, v12, v13, rfl, k2⟩ := sd_e hP
    obtain ⟨b0, r0, rfl⟩ := List.exists_cons_of_ne_nil hcs
    obtain ⟨b1, b2⟩ := hcb b0 List.mem_cons_self
    have hC2 : H' C = some (.lst ((b0 :: r0).map V.int)) := k2.get0 hC1
    have hA2 : H' A = some (alo K dA l v) := k2.get0 hA1
    have hb2 : H' b = some (bx a c q) := k2.get0 (kk.get0 Hb)
    have hq2 : H' q = some (cel cs) := k2.get0 (kk.get0 Hq)
    have hx2 : H' x0 = some (pgo K A d0 ⟨[], 0, none, []⟩) := k2.get0 hx1
    have kk := kk.trans k2
    clear k1 k2 hx1 hC1 hA1 Hb Hq HA HC
    repeat' ac_rfl
    all_goals (try (conv => whnf))
    rename_i x dx hx hdx hne H2 k2 hx3 o ho r ks H3 k3 hr0 hr hkl hkk
    have o1 : upd H2 o (HO.lst [V.str (S t), V.int 0, V.non, V.str (S [])]) o = some (ow ⟨t, 0, none, []⟩) := upd_at.trans rfl
    have x1 : upd H2 o (HO.lst [V.str (S t), V.int 0, V.non, V.str (S [])]) x = some (pgo K A dx ⟨t, 0, none, []⟩) := upd_fr ho hx3
    have kh : Kp [] H' (upd H2 o (HO.lst [V.str (S t), V.int 0, V.non, V.str (S [])])) := (Kp.made hx hdx k2).new ho
    have hoH : H' o = none := Kp.none (Kp.made hx hdx k2) ho
    have hs0 : (⟨t, 0, none, []⟩ : Pg).ok 60 := ⟨Nat.zero_le _, fun _ z => (nomatch z), ht2, Nat.zero_le _⟩
    replace o1 := k3.get0 o1
    replace x1 := k3.get0 x1
    have kh := kh.trans k3
    have hA3 := kh.get0 hA2
    have hb3 := kh.get0 hb2
    have hq3 := kh.get0 hq2
    have hx03 := kh.get0 hx2
    clear k2 hx3 ho k3 hr0
    generalize (⟨t, 0, none, []⟩ : Pg) = s0 at o1 x1 hs0
    have nbx := ne_none hb2 hx
    have nbo := ne_none hb2 hoH
    have nqx := ne_none hq2 hx
    have nqo := ne_none hq2 hoH
    have nAx := ne_none hA2 hx
    have nAo := ne_none hA2 hoH
    have n0x := ne_none hx2 hx
    have n0o := ne_none hx2 hoH
    have fxo : ∀ z ∈ [x, o], H z = none := by
      intro z hz
      simp only [List.mem_cons, List.not_mem_nil, or_false] at hz
      rcases hz with rfl | rfl
      · exact Kp.none kk hx
      · exact Kp.none kk hoH
    have kk3 : Kp [] H H3 := kk.trans kh
    clear hx hdx hne hoH hA2 hb2 hq2 hx2 hC2 kh kk
    refine loop_l (xs := ks.map fun k => .str (S k)) (p := r) (fun i σ H' => Sd (∃ (s : Pg) (v13 : Option V), σ = [w0, w1, some (.ref b), w3, some (.ref A), some (.str (S (45 :: srt l))), some (.str (S t)), some (.int bk), some (.int hd), some (.ref C), some (.ref x0), v11, v12, v13, some (.ref x), some (.ref o), none, none, none, none] ∧ Kp [x, o] H3 H' ∧ H' r = some (ksl ks) ∧ H' x = some (pgo K A dx s) ∧ H' o = some (ow s) ∧ s.ok (60 + 2 * i))) ?_ ?_ ?_ ?_
    · exact sd_i ⟨s0, _, rfl, Kp.rfl', hr, x1, o1, hs0⟩
    · rintro i σ H' hi hP
      obtain ⟨s, v13, rfl, k2, hr2, x2, o2, hk2⟩ := sd_e hP
      exact hr2
    · rintro i hi σ H' hP
      obtain ⟨s, v13, rfl, k2, hr2, x2, o2, hk2⟩ := sd_e hP
      have hi' : i < ks.length := by simpa using hi
      have e1 : (ks.map fun k => V.str (S k))[i] = .str (S ks[i]) := List.getElem_map _
      rw [e1]
      have hkey := hkk _ (List.getElem_mem hi') (45 :: srt l)
      generalize ks[i] = key2 at hkey
      have h9 := ok_mono hk2 (show 60 + 2 * i ≤ 900 by omega)
      have hA4 := k2.get2 hA3 nAx nAo
      have nrx : r ≠ x := ne_ho hr2 x2 (by intro z; cases z)
      have nro : r ≠ o := by
        intro e; subst e; rw [hr2] at o2
        have o2 := Option.some.inj o2
        injection o2 with o2
        have o3 := congrArg (fun l => l[1]?) o2
        simp only [List.getElem?_map] at o3
        cases h : ks[1]? with
        | none => rw [h] at o3; cases o3
        | some k => rw [h] at o3; cases o3
      repeat' ac_rfl
      all_goals (try (conv => whnf))
      rename_i H4 k4 x4 o4
      exact sd_i ⟨_, _, rfl, k2.trans k4, k4.get2 hr2 nrx nro, x4, o4, ok_mono (stk_ok hk2 hkey) (by omega)⟩
    · rintro σ H' hP
      obtain ⟨s, v13, rfl, k2, hr2, x2, o2, hk2⟩ := sd_e hP
      have hl2 : (ks.map fun k => V.str (S k)).length = ks.length := List.length_map _
      rw [hl2] at hk2
      have hk2 := ok_mono hk2 (show 60 + 2 * ks.length ≤ 440 by omega)
      have hA4 := k2.get2 hA3 nAx nAo
      have hb4 := k2.get2 hb3 nbx nbo
      have hq4 := k2.get2 hq3 nqx nqo
      have hx4 := k2.get2 hx03 n0x n0o
      have kk4 : Kp [] H H' := kk3.fr k2 fxo
      clear x1 o1 hs0 hr2 hr hb3 hq3 hx03 hA3 k2 kk3
      repeat' ac_rfl
      all_goals (try (conv => whnf))
      rename_i j hj ej P2 hP2
      have hg : (tl (S (45 :: srt l)))[j] ∈ 45 :: srt l := List.getElem_mem hj
      generalize (tl (S (45 :: srt l)))[j] = g at hg
      have nP2 : ∀ z, (∃ ob, H' z = some ob) → z ≠ P2 := fun z ⟨ob, h⟩ => ne_none h hP2
      have nAP := nP2 A ⟨_, hA4⟩
      have nbP := nP2 b ⟨_, hb4⟩
      have nqP := nP2 q ⟨_, hq4⟩
      have n0P := nP2 x0 ⟨_, hx4⟩
      have nxP := nP2 x ⟨_, x2⟩
      have noP := nP2 o ⟨_, o2⟩
      have hPH : H P2 = none := Kp.none kk4 hP2
      have nox : o ≠ x := ne_ho o2 x2 (by intro z; cases z)
      have n0b : x0 ≠ b := ne_ho hx4 hb4 (by intro z; cases z)
      refine loop_r (n := 4) (fun i σ H'' => Sd (∃ (us : List (List Nat)) (a c : Int) (v18 : Option V), σ = [w0, w1, some (.ref b), w3, some (.ref A), some (.str (S (45 :: srt l))), some (.str (S t)), some (.int bk), some (.int hd), some (.ref C), some (.ref x0), v11, v12, v13, some (.ref x), some (.ref o), some (.str (S [g])), some (.ref P2), v18, none] ∧ Kp [b, P2] H' H'' ∧ H'' b = some (bx a c q) ∧ H'' P2 = some (ksl us) ∧ us.length ≤ 13 + i ∧ ∀ u ∈ us, u.length ≤ 3)) ?_ ?_ ?_
      · refine sd_i ⟨[[], [39], [61], [47], [39, 39], [40], [124], [62, 62], [62, 32], [62, 10], [32, 120], [39, g, g], [109, g]], _, _, none, rfl, ?_, upd_fr hP2 hb4, upd_at, Nat.le_refl 13, fun u hu => ?_⟩
        · exact Kp.rfl'.new hP2
        · simp only [List.mem_cons, List.not_mem_nil, or_false] at hu
          rcases hu with rfl | rfl | rfl | rfl | rfl | rfl | rfl | rfl | rfl | rfl | rfl | rfl | rfl <;> exact Nat.le_of_ble_eq_true rfl
      · rintro i σ H'' hi hP
        obtain ⟨us, a, c, v18, rfl, k5, hb5, hp5, hul, huu⟩ := sd_e hP
        have hq5 := k5.get2 hq4 nqb nqP
        repeat' ac_rfl
        all_goals (try (conv => whnf))
        rename_i u a' c' H6 hul2 k6 hb6
        refine sd_i ⟨us ++ [u], a', c', _, rfl, (k5.trans (k6.mono fun z hz => List.mem_cons.mpr (.inl (List.mem_singleton.mp hz)))).at (by simp), upd_off nbP hb6, upd_at.trans (by rw [ah_map]), ?_, fun w hw => ?_⟩
        · rw [List.length_append]; simp only [List.length_cons, List.length_nil]; omega
        · rcases List.mem_append.mp hw with hw | hw
          · exact huu w hw
          · rw [List.mem_singleton.mp hw]; exact hul2
      · rintro σ H'' hP
        obtain ⟨us, a, c, v18, rfl, k5, hb5, hp5, hul, huu⟩ := sd_e hP
        have hA5 := k5.get2 hA4 nAb nAP
        have hx5 := k5.get2 hx4 n0b n0P
        have x5 := k5.get2 x2 nbx.symm nxP
        have o5 := k5.get2 o2 nbo.symm noP
        clear hb5
        repeat' ac_rfl
        all_goals (try (conv => whnf))
        refine loop_l (xs := us.map fun k => .str (S k)) (p := P2) (fun i σ H' => Sd (∃ (s : Pg) (v19 : Option V), σ = [w0, w1, some (.ref b), w3, some (.ref A), some (.str (S (45 :: srt l))), some (.str (S t)), some (.int bk), some (.int hd), some (.ref C), some (.ref x0), v11, v12, v13, some (.ref x), some (.ref o), some (.str (S [g])), some (.ref P2), v18, v19] ∧ Kp [x, o] H'' H' ∧ H' x = some (pgo K A dx s) ∧ H' o = some (ow s) ∧ s.ok (440 + 2 * i))) ?_ ?_ ?_ ?_
        · exact sd_i ⟨s, _, rfl, Kp.rfl', x5, o5, hk2⟩
        · rintro i σ H6 hi hP
          obtain ⟨s, v19, rfl, k6, x6, o6, hk6⟩ := sd_e hP
          exact k6.get2 hp5 nxP.symm noP.symm
        · rintro i hi σ H6 hP
          obtain ⟨s, v19, rfl, k6, x6, o6, hk6⟩ := sd_e hP
          have hi' : i < us.length := by simpa using hi
          have e1 : (us.map fun k => V.str (S k))[i] = .str (S us[i]) := List.getElem_map _
          rw [e1]
          have hu := huu _ (List.getElem_mem hi')
          generalize us[i] = u at hu
          have hA6 := k6.get2 hA5 nAx nAo
          refine i_l_refused (n := 440 + 2 * i) x6 o6 hA6 (by omega) hk6 (by omega) hl4 ?_
          intro s' H7 k7 hs7 x7 o7
          repeat' ac_rfl
          all_goals (try (conv => whnf))
          exact sd_i ⟨s', _, rfl, k6.trans k7, x7, o7, ok_mono hs7 (by omega)⟩
        · rintro σ H6 hP
          obtain ⟨s, v19, rfl, k6, x6, o6, hk6⟩ := sd_e hP
          have hl3 : (us.map fun k => V.str (S k)).length = us.length := List.length_map _
          rw [hl3] at hk6
          have hA6 := k6.get2 hA5 nAx nAo
          have hx6 := k6.get2 hx5 n0x n0o
          have hk6 := ok_mono hk6 (show 440 + 2 * us.length ≤ 600 by omega)
          have hk7 := ok_mono hk6 (show 600 ≤ 900 by omega)
          have hkg : KeyOk [39, g] (45 :: srt l) := .inr ⟨39, by decide, _, hg, rfl⟩
          clear x5 o5 x2 o2
          repeat' ac_rfl
          all_goals (try (conv => whnf))
          rename_i H7 k7 x7 o7 P3 hP3
          refine i_l_same (s := ⟨[], 0, none, []⟩) (upd_fr hP3 (k7.get2 hx6 n0x n0o)) (upd_at.trans rfl) (by decide) ?_
          conv => whnf
          refine k _ fun z u hz hn => ?_
          have zb : z ≠ b := fun e => hn (e ▸ List.mem_cons_self)
          have zx := ne_none hz (fxo x (by simp))
          have zo := ne_none hz (fxo o (by simp))
          exact upd_fr hP3 (k7.get2 (k6.get2 (k5.get2 (kk4.get0 hz) zb (ne_none hz hPH)) zx zo) zx zo)
theorem rgl_cs (n : Int) : rgV 0 n = ((List.range (n - 0).toNat).map fun i : Nat => (0 + (i : Int))).map V.int := by
  unfold rgV; rw [List.map_map]; rfl
theorem rg_b {n : Nat} (hn : n ≤ 3) : ∀ c ∈ ((List.range ((n : Int) + 1 - 0).toNat).map fun i : Nat => (0 + (i : Int))), 0 ≤ c ∧ c ≤ 60 := by
  intro c hc
  obtain ⟨i, hi, rfl⟩ := List.mem_map.mp hc
  have := List.mem_range.mp hi
  omega
theorem rg_n {n : Nat} : ((List.range ((n : Int) + 1 - 0).toNat).map fun i : Nat => (0 + (i : Int))) ≠ [] := by
  intro h
  have := congrArg List.length h
  rw [List.length_map, List.length_range] at this
  simp only [List.length_nil] at this
  omega
theorem seg5 {K : PySem.W.Frag} {mg : Str → Option Value} (T : Tx K mg) {W : WX} {H : Hp} {b q A dA : Addr} {cs : List Int} {l v t : List Nat} {a c : Int} {w0 w1 w3 : Option V} {Q : VK}
    (hc : okc cs) (hl4 : l.length ≤ 4) (Hb : H b = some (bx a c q)) (Hq : H q = some (cel cs)) (HA : H A = some (alo K dA l v))
    (ht : ∀ c ∈ t, c ∈ 45 :: srt l) (ht2 : t.length ≤ 60) (nqb : q ≠ b) (nAb : A ≠ b) (k : ∀ H', Kp [b] H H' → Q (.bl true) H') :
    t_l_world_5 K W (EndD Q) [w0, w1, some (.ref b), w3, some (.ref A), some (.str (S (45 :: srt l))), some (.str (S t)), none, none, none, none, none, none, none, none, none, none, none, none, none] H := by
  refine ⟨?_⟩
  have htl : (tl (S t)).length = t.length := rfl
  have T0 := T
  cases T
  repeat' ac_rfl
  all_goals (try (conv => whnf))
  · rename_i r1 a1 b1 z1 z2 r2 a2 b2 z3 z4 r3 a3 b3 z5 z6 p hp hx L hL
    have hx : (t.length : Int) ≤ 3 := hx
    rw [upd_tw, upd_tw] at hp
    rw [upd_tw, upd_tw] at hL
    have hqp := ne_none (show upd H b (bx a3 b3 q) q = _ from upd_off nqb Hq) hp
    have hbp := ne_none (show upd H b (bx a3 b3 q) b = _ from upd_at) hp
    have hAp := ne_none (show upd H b (bx a3 b3 q) A = _ from upd_off nAb HA) hp
    rw [upd_tw, upd_tw]
    refine seg9 T0 (cs2 := (List.range ((t.length : Int) + 1 - 0).toNat).map fun i : Nat => (0 + (i : Int))) hc hl4 (upd_fr hL (upd_off hbp upd_at)) (upd_fr hL (upd_off hqp (upd_off nqb Hq))) (upd_fr hL (upd_off hAp (upd_off nAb HA))) (upd_at.trans ?_) rg_n (rg_b (by omega)) ht ht2 nqb nAb fun H' k' => ?_
    · rw [← rgl_cs]
    · refine k H' fun z u hz hn => k' z u (upd_fr hL (upd_fr hp (upd_off (fun e => hn (e ▸ List.mem_cons_self)) hz))) hn
  · rename_i r1 a1 b1 z1 z2 r2 a2 b2 z3 z4 r3 a3 b3 z5 z6 p hp hx
    have z6 : r3 < (t.length : Int) + 1 := z6
    rw [upd_tw, upd_tw] at hp
    have hqp := ne_none (show upd H b (bx a3 b3 q) q = _ from upd_off nqb Hq) hp
    have hbp := ne_none (show upd H b (bx a3 b3 q) b = _ from upd_at) hp
    have hAp := ne_none (show upd H b (bx a3 b3 q) A = _ from upd_off nAb HA) hp
    rw [upd_tw, upd_tw]
    refine seg9 T0 (cs2 := [r3]) hc hl4 (upd_off hbp upd_at) (upd_off hqp (upd_off nqb Hq)) (upd_off hAp (upd_off nAb HA)) upd_at (by simp) (fun c hc => ?_) ht ht2 nqb nAb fun H' k' => ?_
    · rw [List.mem_singleton.mp hc]; omega
    · refine k H' fun z u hz hn => k' z u (upd_fr hp (upd_off (fun e => hn (e ▸ List.mem_cons_self)) hz)) hn

theorem rd_l_world {K : PySem.W.Frag} {mg : Str → Option Value} (T : Tx K mg) : ∀ vs H Q E, sp_l_world K vs H Q E → t_l_world K (WD E) (EndD Q) (start ["_law_script", "_law_k", "_law_box_here", "_law_letters_here", "_law_alphabet", "_law_signs", "_law_text_here", "_law_back", "_law_hold", "_law_carets", "_law_still", "_law_caret", "_law_row", "_law_key", "_law_page", "_law_own", "_law_sign", "_law_strings", "_law_turn", "_law_string_here"] vs) H := by
  intro vs H Q E h
  replace h := h.out
  obtain ⟨p, k, ob, ns, rfl, hp, h0, h1, q⟩ := h
  have T0 := T
  cases T
  repeat' ac_rfl
  all_goals (try (conv => whnf))
  rename_i b q' a0 cs H1 kb hb0 hq0 hqb Hb Hq hc r a1 b1 r0 r1 l a2 b2 H2 hl hll k2 Hb2 v a3 b3 hg A dA hA0 hdA hdx
  have hlv := good_v hg
  have hl4 : l.length ≤ 4 := by omega
  have Hb3 : upd H2 b (bx a3 b3 q') b = some (bx a3 b3 q') := upd_at
  have hbA := ne_none Hb3 hA0
  have Hq2 : H2 q' = some (cel cs) := k2.get1 (upd_off hqb Hq) hqb
  have hqA := ne_none (show upd H2 b (bx a3 b3 q') q' = some (cel cs) from upd_off hqb Hq2) hA0
  have kH2 : Kp [] H H2 := Kp.fr (kb.fu hb0) k2 fun z hz => by rw [List.mem_singleton.mp hz]; exact hb0
  have kH3 : Kp [] H (upd H2 b (bx a3 b3 q')) := kH2.fu hb0
  have hAH : H A = none := Kp.none kH3 hA0
  have hdH : H dA = none := Kp.none kH3 hdA
  refine g_Alphabet_init upd_at (by omega) (by omega) hg.1 hg.2 fun H4 k4 HA4 => ⟨rfl, ?_⟩
  have kH4 : Kp [] H H4 := Kp.fr ((kH3.fu hdH).fu hAH) k4 fun z hz => by rw [List.mem_singleton.mp hz]; exact hAH
  have Hb4 : H4 b = some (bx a3 b3 q') := k4.get1 (upd_off hbA (upd_fr hdA Hb3)) hbA
  have Hq4 : H4 q' = some (cel cs) := k4.get1 (upd_off hqA (upd_fr hdA (upd_off hqb Hq2))) hqA
  clear k4 kH3 Hq2 Hb3 k2 hA0 hdA Hb2 kH2 Hb Hq kb
  have hsl : (srt l).length = l.length := srt_len l
  have hsn : (45 :: srt l) ≠ [] := by simp
  have nAb : A ≠ b := hbA.symm
  have fin : ∀ {H' : Hp}, Kp [] H H' → ∀ H'', Kp [b] H' H'' → Q (.bl true) H'' := fun k H'' k' => q H'' (Kp.fr k k' fun z hz => by rw [List.mem_singleton.mp hz]; exact hb0)
  repeat' ac_rfl
  all_goals (try (conv => whnf))
  rename_i L hL r5 a5 b5 z1 z2 t a6 b6 H6 ht1 ht k6 hb6
  have Hb5 := upd_fr (o' := .lst (sgn (srt (tl (S l))))) hL Hb4
  have Hq5 := upd_fr (o' := .lst (sgn (srt (tl (S l))))) hL Hq4
  have HA5 := upd_fr (o' := .lst (sgn (srt (tl (S l))))) hL HA4
  have kH6 : Kp [] H H6 := Kp.fr ((kH4.new hL).fu hb0) k6 fun z hz => by rw [List.mem_singleton.mp hz]; exact hb0
  exact seg5 T0 hc hl4 hb6 (k6.get1 (upd_off hqb Hq5) hqb) (k6.get1 (upd_off nAb HA5) nAb) ht (by omega) hqb nAb (fin kH6)


theorem rd_law {K : PySem.W.Frag} {mg : Str → Option Value} (T : Tx K mg) : ∀ vs H Q E, sp_law K vs H Q E → t_law K (WD E) (EndD Q) (start ["_law_script", "_law_k"] vs) H := by
  intro vs H Q E h
  replace h := h.out
  obtain ⟨p, ob, ns, rfl, hp, h1, q⟩ := h
  cases T
  repeat' ac_rfl
  all_goals (try (conv => whnf))
  refine loop_r (fun i σ H' => Sd (∃ v1 : Option V, σ = [some (.ref p), v1] ∧ H' p = some (scr ob ns))) ?_ ?_ ?_
  · exact sd_i ⟨none, rfl, hp⟩
  · rintro i σ H' hi hP
    obtain ⟨v1, rfl, hp'⟩ := sd_e hP
    repeat' ac_rfl
    all_goals (try (conv => whnf))
    rename_i H2 k2
    exact sd_i ⟨_, rfl, k2.get0 hp'⟩
  · rintro σ H' hP
    obtain ⟨v1, rfl, hp'⟩ := sd_e hP
    conv => whnf
    exact q H'

theorem law_in {K : PySem.W.Frag} {H : Hp} {a : Addr} {oj : Obj} {ns : List Int} {E : XK} (h : H a = some (.frz oj (.lst (ns.map V.int)))) (hl : ns.length ≤ 63) : sp_law K [.ref a] H (fun v _ => v = .bl true) E := by
  exact ⟨⟨a, oj, ns, rfl, h, by omega, fun _ => rfl⟩⟩

end Lw

set_option Elab.async false
set_option linter.all false
set_option maxRecDepth 100000
set_option maxHeartbeats 4000000
namespace Lw
open PySem PySem.Spec PyProof.Rows L2 Ta
abbrev PP : Program := PySem.Challenge.rw_talepost_k44_single_keys.prog
abbrev R : PySem.W.OpenRow := PySem.W.OpenLaw.row PySem.Challenge.rw_talepost_k44_single_keys
def fa : List BF := [bFree "ValueError", bFree "abs", bFree "bool", bFree "int", bFree "isinstance", bFree "len", bFree "list", bFree "max", bFree "min", bFree "range", bFree "set", bFree "sorted", bFree "str", bGlo "Alphabet", bGlo "BadKey", bVal "HOLD" (.int 2), bVal "PLAIN_KEYS" (.str (S [62, 120, 119, 94, 109, 107, 99, 112])), bVal "SIGN_KEYS" (.str (S [39, 61, 47])), bVal "SMALL" (.str (S [97, 98, 99, 100, 101, 102, 103, 104, 105, 106, 107, 108, 109, 110, 111, 112, 113, 114, 115, 116, 117, 118, 119, 120, 121, 122])), bGlo "TaleError", bCC "Alphabet" "JOINT" (.str (S [45])), bCC "Alphabet" "MOST" (.int 4), bCls "Alphabet", bCls "Page", bIsc "Alphabet", bNo "Alphabet" "letters", bNo "Alphabet" "vowels", bNo "Alphabet" "consonants", bNo "Alphabet" "signs", bIsc "Page", bNo "Page" "alphabet", bNo "Page" "text", bNo "Page" "caret", bNo "Page" "mark", bNo "Page" "kept", bKit "Alphabet" "Alphabet" true, bXc "BadKey", bNo "BadKey" "key", bExm "BadKey" "BadKey" true, bKit "BadKey" "TaleError" true, bKitT "BadKey" "ValueError" true, bNo "BadAlphabet" "part", bOex "BadAlphabet", bSup "BadAlphabet" "BadAlphabet", bFree "super", bGlo "BadAlphabet", bOex "BadKey", bSup "BadKey" "BadKey", bNo "BadText" "text", bOex "BadText", bSup "BadText" "BadText", bGlo "BadText", bMe "Alphabet" "is_text", bMe "Alphabet" "check", bMk "Page", bGlo "Page", bGlo "_law_ahead", bGlo "_law_keys", bGlo "_law_whole", bPrp "Page" "held", bGlo "_law_same", bMe "Alphabet" "__eq__", bGlo "is_key", bMe "Page" "sign_ahead", bMe "Page" "pass_sign", bMe "Page" "travel", bMe "Page" "take_sign", bMe "Page" "keep", bMe "Page" "opens_at", bMe "Page" "put_in", bMe "Page" "press", bGlo "_law_pass", bGlo "_law_insert", bGlo "_law_press", bGlo "_law_worked", bGlo "_law_pressed", bGlo "_law_take", bGlo "_law_string", bGlo "_law_refused", bGlo "_law_box", bGlo "_law_letters", bGlo "all_different", bMk "Alphabet", bGlo "_law_vowels", bGlo "_law_text", bGlo "_law_size", bGlo "_law_world", bNoL, bGlo "law"]
def dd_Alphabet_is_text : XD := ⟨fun K => (He.fAd K ("Alphabet", some "is_text")), "is_text", "Alphabet.is_text", defArgs s_Alphabet_is_text, defBody s_Alphabet_is_text, defScope s_Alphabet_is_text, [], []⟩
def dd_Alphabet_check : XD := ⟨fun K => (He.fAd K ("Alphabet", some "check")), "check", "Alphabet.check", defArgs s_Alphabet_check, defBody s_Alphabet_check, defScope s_Alphabet_check, [], []⟩
def dd_Page_init : XD := ⟨fun K => (He.fAd K ("Page", some "__init__")), "__init__", "Page.__init__", defArgs s_Page_init, defBody s_Page_init, defScope s_Page_init, [.str (S [])], []⟩
def dd_l_ahead : XD := ⟨fun K => (He.fAd K ("_law_ahead", none)), "_law_ahead", "_law_ahead", defArgs s_l_ahead, defBody s_l_ahead, defScope s_l_ahead, [], []⟩
def dd_l_keys : XD := ⟨fun K => (He.fAd K ("_law_keys", none)), "_law_keys", "_law_keys", defArgs s_l_keys, defBody s_l_keys, defScope s_l_keys, [], []⟩
def dd_l_whole : XD := ⟨fun K => (He.fAd K ("_law_whole", none)), "_law_whole", "_law_whole", defArgs s_l_whole, defBody s_l_whole, defScope s_l_whole, [], []⟩
def dd_Page_held : XD := ⟨fun K => (prA K (He.ga K "Page") "held"), "held", "Page.held", defArgs s_Page_held, defBody s_Page_held, defScope s_Page_held, [], []⟩
def dd_l_same : XD := ⟨fun K => (He.fAd K ("_law_same", none)), "_law_same", "_law_same", defArgs s_l_same, defBody s_l_same, defScope s_l_same, [], []⟩
def dd_Alphabet_eq : XD := ⟨fun K => (He.fAd K ("Alphabet", some "__eq__")), "__eq__", "Alphabet.__eq__", defArgs s_Alphabet_eq, defBody s_Alphabet_eq, defScope s_Alphabet_eq, [], []⟩
def dd_is_key : XD := ⟨fun K => (He.fAd K ("is_key", none)), "is_key", "is_key", defArgs s_is_key, defBody s_is_key, defScope s_is_key, [], []⟩
def dd_Page_sign_ahead : XD := ⟨fun K => (He.fAd K ("Page", some "sign_ahead")), "sign_ahead", "Page.sign_ahead", defArgs s_Page_sign_ahead, defBody s_Page_sign_ahead, defScope s_Page_sign_ahead, [], []⟩
def dd_Page_pass_sign : XD := ⟨fun K => (He.fAd K ("Page", some "pass_sign")), "pass_sign", "Page.pass_sign", defArgs s_Page_pass_sign, defBody s_Page_pass_sign, defScope s_Page_pass_sign, [], []⟩
def dd_Page_travel : XD := ⟨fun K => (He.fAd K ("Page", some "travel")), "travel", "Page.travel", defArgs s_Page_travel, defBody s_Page_travel, defScope s_Page_travel, [], []⟩
def dd_Page_take_sign : XD := ⟨fun K => (He.fAd K ("Page", some "take_sign")), "take_sign", "Page.take_sign", defArgs s_Page_take_sign, defBody s_Page_take_sign, defScope s_Page_take_sign, [], []⟩
def dd_Page_keep : XD := ⟨fun K => (He.fAd K ("Page", some "keep")), "keep", "Page.keep", defArgs s_Page_keep, defBody s_Page_keep, defScope s_Page_keep, [], []⟩
def dd_Page_opens_at : XD := ⟨fun K => (He.fAd K ("Page", some "opens_at")), "opens_at", "Page.opens_at", defArgs s_Page_opens_at, defBody s_Page_opens_at, defScope s_Page_opens_at, [], []⟩
def dd_Page_put_in : XD := ⟨fun K => (He.fAd K ("Page", some "put_in")), "put_in", "Page.put_in", defArgs s_Page_put_in, defBody s_Page_put_in, defScope s_Page_put_in, [], []⟩
def dd_Page_press : XD := ⟨fun K => (He.fAd K ("Page", some "press")), "press", "Page.press", defArgs s_Page_press, defBody s_Page_press, defScope s_Page_press, [], []⟩
def dd_l_pass : XD := ⟨fun K => (He.fAd K ("_law_pass", none)), "_law_pass", "_law_pass", defArgs s_l_pass, defBody s_l_pass, defScope s_l_pass, [], []⟩
def dd_l_insert : XD := ⟨fun K => (He.fAd K ("_law_insert", none)), "_law_insert", "_law_insert", defArgs s_l_insert, defBody s_l_insert, defScope s_l_insert, [], []⟩
def dd_l_press : XD := ⟨fun K => (He.fAd K ("_law_press", none)), "_law_press", "_law_press", defArgs s_l_press, defBody s_l_press, defScope s_l_press, [], []⟩
def dd_l_worked : XD := ⟨fun K => (He.fAd K ("_law_worked", none)), "_law_worked", "_law_worked", defArgs s_l_worked, defBody s_l_worked, defScope s_l_worked, [], []⟩
def dd_l_pressed : XD := ⟨fun K => (He.fAd K ("_law_pressed", none)), "_law_pressed", "_law_pressed", defArgs s_l_pressed, defBody s_l_pressed, defScope s_l_pressed, [], []⟩
def dd_l_take : XD := ⟨fun K => (He.fAd K ("_law_take", none)), "_law_take", "_law_take", defArgs s_l_take, defBody s_l_take, defScope s_l_take, [], []⟩
def dd_l_string : XD := ⟨fun K => (He.fAd K ("_law_string", none)), "_law_string", "_law_string", defArgs s_l_string, defBody s_l_string, defScope s_l_string, [], []⟩
def dd_l_refused : XD := ⟨fun K => (He.fAd K ("_law_refused", none)), "_law_refused", "_law_refused", defArgs s_l_refused, defBody s_l_refused, defScope s_l_refused, [], []⟩
def dd_l_box : XD := ⟨fun K => (He.fAd K ("_law_box", none)), "_law_box", "_law_box", defArgs s_l_box, defBody s_l_box, defScope s_l_box, [], []⟩
def dd_l_letters : XD := ⟨fun K => (He.fAd K ("_law_letters", none)), "_law_letters", "_law_letters", defArgs s_l_letters, defBody s_l_letters, defScope s_l_letters, [], []⟩
def dd_all_different : XD := ⟨fun K => (He.fAd K ("all_different", none)), "all_different", "all_different", defArgs s_all_different, defBody s_all_different, defScope s_all_different, [], []⟩
def dd_Alphabet_init : XD := ⟨fun K => (He.fAd K ("Alphabet", some "__init__")), "__init__", "Alphabet.__init__", defArgs s_Alphabet_init, defBody s_Alphabet_init, defScope s_Alphabet_init, [.str (S [])], []⟩
def dd_l_vowels : XD := ⟨fun K => (He.fAd K ("_law_vowels", none)), "_law_vowels", "_law_vowels", defArgs s_l_vowels, defBody s_l_vowels, defScope s_l_vowels, [], []⟩
def dd_l_text : XD := ⟨fun K => (He.fAd K ("_law_text", none)), "_law_text", "_law_text", defArgs s_l_text, defBody s_l_text, defScope s_l_text, [], []⟩
def dd_l_size : XD := ⟨fun K => (He.fAd K ("_law_size", none)), "_law_size", "_law_size", defArgs s_l_size, defBody s_l_size, defScope s_l_size, [], []⟩
def dd_l_world : XD := ⟨fun K => (He.fAd K ("_law_world", none)), "_law_world", "_law_world", defArgs s_l_world, defBody s_l_world, defScope s_l_world, [], []⟩
def dd_law : XD := ⟨fun K => (He.fAd K ("law", none)), "law", "law", defArgs s_law, defBody s_law, defScope s_law, [], []⟩
def sd_BadAlphabet : SupD := ⟨"BadAlphabet", "__init__", "BadAlphabet.__init__", defArgs (inClass (top 3) 0), defBody (inClass (top 3) 0), defScope (inClass (top 3) 0)⟩
def sd_BadKey : SupD := ⟨"BadKey", "__init__", "BadKey.__init__", defArgs (inClass (top 5) 0), defBody (inClass (top 5) 0), defScope (inClass (top 5) 0)⟩
def sd_BadText : SupD := ⟨"BadText", "__init__", "BadText.__init__", defArgs (inClass (top 4) 0), defBody (inClass (top 4) 0), defScope (inClass (top 4) 0)⟩
def fn : List XD := [dd_Alphabet_is_text, dd_Alphabet_check, dd_Page_init, dd_l_ahead, dd_l_keys, dd_l_whole, dd_Page_held, dd_l_same, dd_Alphabet_eq, dd_is_key, dd_Page_sign_ahead, dd_Page_pass_sign, dd_Page_travel, dd_Page_take_sign, dd_Page_keep, dd_Page_opens_at, dd_Page_put_in, dd_Page_press, dd_l_pass, dd_l_insert, dd_l_press, dd_l_worked, dd_l_pressed, dd_l_take, dd_l_string, dd_l_refused, dd_l_box, dd_l_letters, dd_all_different, dd_Alphabet_init, dd_l_vowels, dd_l_text, dd_l_size, dd_l_world, dd_law]
def sn : List SupD := [sd_BadAlphabet, sd_BadKey, sd_BadText]
def loose : List Str := (["_wall", "TaleError", "BadAlphabet", "BadText", "BadKey", "PLAIN_KEYS", "SIGN_KEYS", "is_key", "SMALL", "all_different", "Alphabet", "HOLD", "Page", "_law_box", "_law_take", "_law_whole", "_law_letters", "_law_vowels", "_law_size", "_law_text", "_law_pass", "_law_insert", "_law_press", "_law_same", "_law_worked", "_law_keys", "_law_ahead", "_law_pressed", "_law_refused", "_law_string", "_law_world"] : List Str)
abbrev hk : PySem.W.Hook := hookX 5 PP.main.file fa fn sn
def ob (s : PySem.W.SharedT) : AlX := obsXG 5 PP.main.file fa fn sn (HandSHeadRun.getT s)
theorem ob_eq (s : PySem.W.SharedT) : ob s = hk.obs s.abs := obsXG_eq (HandSHeadRun.getT_eq s)
theorem run (w : World) : HandSHeadRun.RunEq R (PySem.W.view R.prog [36]) hk ob 3000 loose w := by
  intro os
  kernel_rfl
theorem ex_BadAlphabet {w : World} {K : PySem.W.Frag} {mg : Str → Option Value} {base h : Heap} (X : K.In h) (G : h.Ns mainGlobals mg) (c : SaysX PP.main.file fa fn sn K) : Ex PP w K mg base "BadAlphabet" (He.ga K "BadAlphabet") ["part"] := by
  obtain ⟨F, fd, e1, e2, e3, e4, e5, SF⟩ := c.sup (P := PP) 0 (by decide +kernel) (d := sd_BadAlphabet) rfl
  obtain ⟨n1, n2, n3, n4, n5, n6, n7⟩ := F
  dsimp only at e1 e2 e3 e4 e5
  subst e1 e2 e3 e4 e5
  have S := sup_of (c.fact 42) (c.fact 43)
  refine ⟨⟨_, fd, ["self", "part"], ok_exc1 (hbd := by rfl) SF S.1 (show NdefX.NScope ["self", "part", "__class__"] ["self", "part"] ["__class__"] sd_BadAlphabet.scope from NdefX.nscope_by (by decide +kernel)) (free_of X G (c.fact 44)) (by rfl) (show sd_BadAlphabet.scope.names.lookup ("super" : Str) = some .globalImplicit by decide +kernel) (no_of' (c.fact 41)) (by decide +kernel) (by decide +kernel) (fun env => ⟨_, rfl⟩), S.2.1, S.2.2, ?_, glo_of X G (c.fact 45)⟩, oex_of (c.fact 42)⟩
  obtain ⟨cc, oc, od, an, dV, kV, doc, pm, ct, osl, hcl, rfl, lk, hD, _⟩ := SF.ex
  rcases hD with ⟨_, rfl⟩ | ⟨e, _⟩
  · exact .all fun us hl => match us, hl with | [_, _], _ => rfl
  · exact absurd rfl e
theorem ex_BadKey {w : World} {K : PySem.W.Frag} {mg : Str → Option Value} {base h : Heap} (X : K.In h) (G : h.Ns mainGlobals mg) (c : SaysX PP.main.file fa fn sn K) : Ex PP w K mg base "BadKey" (He.ga K "BadKey") ["key"] := by
  obtain ⟨F, fd, e1, e2, e3, e4, e5, SF⟩ := c.sup (P := PP) 1 (by decide +kernel) (d := sd_BadKey) rfl
  obtain ⟨n1, n2, n3, n4, n5, n6, n7⟩ := F
  dsimp only at e1 e2 e3 e4 e5
  subst e1 e2 e3 e4 e5
  have S := sup_of (c.fact 46) (c.fact 47)
  refine ⟨⟨_, fd, ["self", "key"], ok_exc1 (hbd := by rfl) SF S.1 (show NdefX.NScope ["self", "key", "__class__"] ["self", "key"] ["__class__"] sd_BadKey.scope from NdefX.nscope_by (by decide +kernel)) (free_of X G (c.fact 44)) (by rfl) (show sd_BadKey.scope.names.lookup ("super" : Str) = some .globalImplicit by decide +kernel) (no_of' (c.fact 37)) (by decide +kernel) (by decide +kernel) (fun env => ⟨_, rfl⟩), S.2.1, S.2.2, ?_, glo_of X G (c.fact 14)⟩, oex_of (c.fact 46)⟩
  obtain ⟨cc, oc, od, an, dV, kV, doc, pm, ct, osl, hcl, rfl, lk, hD, _⟩ := SF.ex
  rcases hD with ⟨_, rfl⟩ | ⟨e, _⟩
  · exact .all fun us hl => match us, hl with | [_, _], _ => rfl
  · exact absurd rfl e
theorem ex_BadText {w : World} {K : PySem.W.Frag} {mg : Str → Option Value} {base h : Heap} (X : K.In h) (G : h.Ns mainGlobals mg) (c : SaysX PP.main.file fa fn sn K) : Ex PP w K mg base "BadText" (He.ga K "BadText") ["text"] := by
  obtain ⟨F, fd, e1, e2, e3, e4, e5, SF⟩ := c.sup (P := PP) 2 (by decide +kernel) (d := sd_BadText) rfl
  obtain ⟨n1, n2, n3, n4, n5, n6, n7⟩ := F
  dsimp only at e1 e2 e3 e4 e5
  subst e1 e2 e3 e4 e5
  have S := sup_of (c.fact 49) (c.fact 50)
  refine ⟨⟨_, fd, ["self", "text"], ok_exc1 (hbd := by rfl) SF S.1 (show NdefX.NScope ["self", "text", "__class__"] ["self", "text"] ["__class__"] sd_BadText.scope from NdefX.nscope_by (by decide +kernel)) (free_of X G (c.fact 44)) (by rfl) (show sd_BadText.scope.names.lookup ("super" : Str) = some .globalImplicit by decide +kernel) (no_of' (c.fact 48)) (by decide +kernel) (by decide +kernel) (fun env => ⟨_, rfl⟩), S.2.1, S.2.2, ?_, glo_of X G (c.fact 51)⟩, oex_of (c.fact 49)⟩
  obtain ⟨cc, oc, od, an, dV, kV, doc, pm, ct, osl, hcl, rfl, lk, hD, _⟩ := SF.ex
  rcases hD with ⟨_, rfl⟩ | ⟨e, _⟩
  · exact .all fun us hl => match us, hl with | [_, _], _ => rfl
  · exact absurd rfl e
theorem len_Alphabet_is_text {K : PySem.W.Frag} : ∀ vs H Q E, sp_Alphabet_is_text K vs H Q E → vs.length = 2 := by
  intro vs H Q E h
  replace h := h.out
  repeat (obtain ⟨_, h⟩ := h; try subst_vars)
  all_goals rfl
theorem len_Alphabet_check {K : PySem.W.Frag} : ∀ vs H Q E, sp_Alphabet_check K vs H Q E → vs.length = 2 := by
  intro vs H Q E h
  replace h := h.out
  repeat (obtain ⟨_, h⟩ := h; try subst_vars)
  all_goals rfl
theorem len_Page_init {K : PySem.W.Frag} : ∀ vs H Q E, sp_Page_init K vs H Q E → vs.length = 3 := by
  intro vs H Q E h
  replace h := h.out
  repeat (obtain ⟨_, h⟩ := h; try subst_vars)
  all_goals rfl
theorem len_l_ahead {K : PySem.W.Frag} : ∀ vs H Q E, sp_l_ahead K vs H Q E → vs.length = 3 := by
  intro vs H Q E h
  replace h := h.out
  repeat (obtain ⟨_, h⟩ := h; try subst_vars)
  all_goals rfl
theorem len_l_keys {K : PySem.W.Frag} : ∀ vs H Q E, sp_l_keys K vs H Q E → vs.length = 1 := by
  intro vs H Q E h
  replace h := h.out
  repeat (obtain ⟨_, h⟩ := h; try subst_vars)
  all_goals rfl
theorem len_l_whole {K : PySem.W.Frag} : ∀ vs H Q E, sp_l_whole K vs H Q E → vs.length = 2 := by
  intro vs H Q E h
  replace h := h.out
  repeat (obtain ⟨_, h⟩ := h; try subst_vars)
  all_goals rfl
theorem len_Page_held {K : PySem.W.Frag} : ∀ vs H Q E, sp_Page_held K vs H Q E → vs.length = 1 := by
  intro vs H Q E h
  replace h := h.out
  repeat (obtain ⟨_, h⟩ := h; try subst_vars)
  all_goals rfl
theorem len_l_same {K : PySem.W.Frag} : ∀ vs H Q E, sp_l_same K vs H Q E → vs.length = 2 := by
  intro vs H Q E h
  replace h := h.out
  repeat (obtain ⟨_, h⟩ := h; try subst_vars)
  all_goals rfl
theorem len_Alphabet_eq {K : PySem.W.Frag} : ∀ vs H Q E, sp_Alphabet_eq K vs H Q E → vs.length = 2 := by
  intro vs H Q E h
  replace h := h.out
  repeat (obtain ⟨_, h⟩ := h; try subst_vars)
  all_goals rfl
theorem len_is_key {K : PySem.W.Frag} : ∀ vs H Q E, sp_is_key K vs H Q E → vs.length = 2 := by
  intro vs H Q E h
  replace h := h.out
  repeat (obtain ⟨_, h⟩ := h; try subst_vars)
  all_goals rfl
theorem len_Page_sign_ahead {K : PySem.W.Frag} : ∀ vs H Q E, sp_Page_sign_ahead K vs H Q E → vs.length = 1 := by
  intro vs H Q E h
  replace h := h.out
  repeat (obtain ⟨_, h⟩ := h; try subst_vars)
  all_goals rfl
theorem len_Page_pass_sign {K : PySem.W.Frag} : ∀ vs H Q E, sp_Page_pass_sign K vs H Q E → vs.length = 1 := by
  intro vs H Q E h
  replace h := h.out
  repeat (obtain ⟨_, h⟩ := h; try subst_vars)
  all_goals rfl
theorem len_Page_travel {K : PySem.W.Frag} : ∀ vs H Q E, sp_Page_travel K vs H Q E → vs.length = 3 := by
  intro vs H Q E h
  replace h := h.out
  repeat (obtain ⟨_, h⟩ := h; try subst_vars)
  all_goals rfl
theorem len_Page_take_sign {K : PySem.W.Frag} : ∀ vs H Q E, sp_Page_take_sign K vs H Q E → vs.length = 2 := by
  intro vs H Q E h
  replace h := h.out
  repeat (obtain ⟨_, h⟩ := h; try subst_vars)
  all_goals rfl
theorem len_Page_keep {K : PySem.W.Frag} : ∀ vs H Q E, sp_Page_keep K vs H Q E → vs.length = 2 := by
  intro vs H Q E h
  replace h := h.out
  repeat (obtain ⟨_, h⟩ := h; try subst_vars)
  all_goals rfl
theorem len_Page_opens_at {K : PySem.W.Frag} : ∀ vs H Q E, sp_Page_opens_at K vs H Q E → vs.length = 2 := by
  intro vs H Q E h
  replace h := h.out
  repeat (obtain ⟨_, h⟩ := h; try subst_vars)
  all_goals rfl
theorem len_Page_put_in {K : PySem.W.Frag} : ∀ vs H Q E, sp_Page_put_in K vs H Q E → vs.length = 2 := by
  intro vs H Q E h
  replace h := h.out
  repeat (obtain ⟨_, h⟩ := h; try subst_vars)
  all_goals rfl
theorem len_Page_press {K : PySem.W.Frag} : ∀ vs H Q E, sp_Page_press K vs H Q E → vs.length = 2 := by
  intro vs H Q E h
  replace h := h.out
  repeat (obtain ⟨_, h⟩ := h; try subst_vars)
  all_goals rfl
theorem len_l_pass {K : PySem.W.Frag} : ∀ vs H Q E, sp_l_pass K vs H Q E → vs.length = 2 := by
  intro vs H Q E h
  replace h := h.out
  repeat (obtain ⟨_, h⟩ := h; try subst_vars)
  all_goals rfl
theorem len_l_insert {K : PySem.W.Frag} : ∀ vs H Q E, sp_l_insert K vs H Q E → vs.length = 2 := by
  intro vs H Q E h
  replace h := h.out
  repeat (obtain ⟨_, h⟩ := h; try subst_vars)
  all_goals rfl
theorem len_l_press {K : PySem.W.Frag} : ∀ vs H Q E, sp_l_press K vs H Q E → vs.length = 2 := by
  intro vs H Q E h
  replace h := h.out
  repeat (obtain ⟨_, h⟩ := h; try subst_vars)
  all_goals rfl
theorem len_l_worked {K : PySem.W.Frag} : ∀ vs H Q E, sp_l_worked K vs H Q E → vs.length = 3 := by
  intro vs H Q E h
  replace h := h.out
  repeat (obtain ⟨_, h⟩ := h; try subst_vars)
  all_goals rfl
theorem len_l_pressed {K : PySem.W.Frag} : ∀ vs H Q E, sp_l_pressed K vs H Q E → vs.length = 4 := by
  intro vs H Q E h
  replace h := h.out
  repeat (obtain ⟨_, h⟩ := h; try subst_vars)
  all_goals rfl
theorem len_l_take {K : PySem.W.Frag} : ∀ vs H Q E, sp_l_take K vs H Q E → vs.length = 2 := by
  intro vs H Q E h
  replace h := h.out
  repeat (obtain ⟨_, h⟩ := h; try subst_vars)
  all_goals rfl
theorem len_l_string {K : PySem.W.Frag} : ∀ vs H Q E, sp_l_string K vs H Q E → vs.length = 2 := by
  intro vs H Q E h
  replace h := h.out
  repeat (obtain ⟨_, h⟩ := h; try subst_vars)
  all_goals rfl
theorem len_l_refused {K : PySem.W.Frag} : ∀ vs H Q E, sp_l_refused K vs H Q E → vs.length = 4 := by
  intro vs H Q E h
  replace h := h.out
  repeat (obtain ⟨_, h⟩ := h; try subst_vars)
  all_goals rfl
theorem len_l_box {K : PySem.W.Frag} : ∀ vs H Q E, sp_l_box K vs H Q E → vs.length = 2 := by
  intro vs H Q E h
  replace h := h.out
  repeat (obtain ⟨_, h⟩ := h; try subst_vars)
  all_goals rfl
theorem len_l_letters {K : PySem.W.Frag} : ∀ vs H Q E, sp_l_letters K vs H Q E → vs.length = 2 := by
  intro vs H Q E h
  replace h := h.out
  repeat (obtain ⟨_, h⟩ := h; try subst_vars)
  all_goals rfl
theorem len_all_different {K : PySem.W.Frag} : ∀ vs H Q E, sp_all_different K vs H Q E → vs.length = 1 := by
  intro vs H Q E h
  replace h := h.out
  repeat (obtain ⟨_, h⟩ := h; try subst_vars)
  all_goals rfl
theorem len_Alphabet_init {K : PySem.W.Frag} : ∀ vs H Q E, sp_Alphabet_init K vs H Q E → vs.length = 3 := by
  intro vs H Q E h
  replace h := h.out
  repeat (obtain ⟨_, h⟩ := h; try subst_vars)
  all_goals rfl
theorem len_l_vowels {K : PySem.W.Frag} : ∀ vs H Q E, sp_l_vowels K vs H Q E → vs.length = 2 := by
  intro vs H Q E h
  replace h := h.out
  repeat (obtain ⟨_, h⟩ := h; try subst_vars)
  all_goals rfl
theorem len_l_text {K : PySem.W.Frag} : ∀ vs H Q E, sp_l_text K vs H Q E → vs.length = 3 := by
  intro vs H Q E h
  replace h := h.out
  repeat (obtain ⟨_, h⟩ := h; try subst_vars)
  all_goals rfl
theorem len_l_size {K : PySem.W.Frag} : ∀ vs H Q E, sp_l_size K vs H Q E → vs.length = 2 := by
  intro vs H Q E h
  replace h := h.out
  repeat (obtain ⟨_, h⟩ := h; try subst_vars)
  all_goals rfl
theorem len_l_world {K : PySem.W.Frag} : ∀ vs H Q E, sp_l_world K vs H Q E → vs.length = 2 := by
  intro vs H Q E h
  replace h := h.out
  repeat (obtain ⟨_, h⟩ := h; try subst_vars)
  all_goals rfl
theorem len_law {K : PySem.W.Frag} : ∀ vs H Q E, sp_law K vs H Q E → vs.length = 1 := by
  intro vs H Q E h
  replace h := h.out
  repeat (obtain ⟨_, h⟩ := h; try subst_vars)
  all_goals rfl
theorem all_ok {w : World} {K : PySem.W.Frag} {mg : Str → Option Value} {h : Heap} (X : K.In h) (G : h.Ns mainGlobals mg) (c : SaysX PP.main.file fa fn sn K) :
    ∃ fd : FuncData, (∀ (s : Shared) (v : Value), BindsTo s fd ⟨[v], []⟩ [("_law_script", v)]) ∧ ∀ base : Heap, K.In base → base.Ns mainGlobals mg → FnOk PP w K mg base (L2.CX PP w) 17 (He.ga K "law") fd ["_law_script"] (sp_law K) := by
  have T : Tx K mg := ⟨free_of X G (c.fact 0), free_of X G (c.fact 1), free_of X G (c.fact 2), free_of X G (c.fact 3), free_of X G (c.fact 4), free_of X G (c.fact 5), free_of X G (c.fact 6), free_of X G (c.fact 7), free_of X G (c.fact 8), free_of X G (c.fact 9), free_of X G (c.fact 10), free_of X G (c.fact 11), free_of X G (c.fact 12), gv_of X G (c.fact 13), gv_of X G (c.fact 14), val_of X G (c.fact 15), val_of X G (c.fact 16), val_of X G (c.fact 17), val_of X G (c.fact 18), gv_of X G (c.fact 19), cc_of X G (c.fact 20), cc_of X G (c.fact 21), cls_of (c.fact 22), cls_of (c.fact 23), isc_of (c.fact 24), no_of (c.fact 25), no_of (c.fact 26), no_of (c.fact 27), no_of (c.fact 28), isc_of (c.fact 29), no_of (c.fact 30), no_of (c.fact 31), no_of (c.fact 32), no_of (c.fact 33), no_of (c.fact 34), kit_of (c.fact 35), xc_of (c.fact 36), no_of' (c.fact 37), exm_of (c.fact 38), kit_of (c.fact 39), kitT_of (c.fact 40)⟩
  obtain ⟨fd_Alphabet_is_text, F_Alphabet_is_text⟩ := c.def_ 0 (d := dd_Alphabet_is_text) rfl
  obtain ⟨fd_Alphabet_check, F_Alphabet_check⟩ := c.def_ 1 (d := dd_Alphabet_check) rfl
  obtain ⟨fd_Page_init, F_Page_init⟩ := c.def_ 2 (d := dd_Page_init) rfl
  obtain ⟨fd_l_ahead, F_l_ahead⟩ := c.def_ 3 (d := dd_l_ahead) rfl
  obtain ⟨fd_l_keys, F_l_keys⟩ := c.def_ 4 (d := dd_l_keys) rfl
  obtain ⟨fd_l_whole, F_l_whole⟩ := c.def_ 5 (d := dd_l_whole) rfl
  obtain ⟨fd_Page_held, F_Page_held⟩ := c.def_ 6 (d := dd_Page_held) rfl
  obtain ⟨fd_l_same, F_l_same⟩ := c.def_ 7 (d := dd_l_same) rfl
  obtain ⟨fd_Alphabet_eq, F_Alphabet_eq⟩ := c.def_ 8 (d := dd_Alphabet_eq) rfl
  obtain ⟨fd_is_key, F_is_key⟩ := c.def_ 9 (d := dd_is_key) rfl
  obtain ⟨fd_Page_sign_ahead, F_Page_sign_ahead⟩ := c.def_ 10 (d := dd_Page_sign_ahead) rfl
  obtain ⟨fd_Page_pass_sign, F_Page_pass_sign⟩ := c.def_ 11 (d := dd_Page_pass_sign) rfl
  obtain ⟨fd_Page_travel, F_Page_travel⟩ := c.def_ 12 (d := dd_Page_travel) rfl
  obtain ⟨fd_Page_take_sign, F_Page_take_sign⟩ := c.def_ 13 (d := dd_Page_take_sign) rfl
  obtain ⟨fd_Page_keep, F_Page_keep⟩ := c.def_ 14 (d := dd_Page_keep) rfl
  obtain ⟨fd_Page_opens_at, F_Page_opens_at⟩ := c.def_ 15 (d := dd_Page_opens_at) rfl
  obtain ⟨fd_Page_put_in, F_Page_put_in⟩ := c.def_ 16 (d := dd_Page_put_in) rfl
  obtain ⟨fd_Page_press, F_Page_press⟩ := c.def_ 17 (d := dd_Page_press) rfl
  obtain ⟨fd_l_pass, F_l_pass⟩ := c.def_ 18 (d := dd_l_pass) rfl
  obtain ⟨fd_l_insert, F_l_insert⟩ := c.def_ 19 (d := dd_l_insert) rfl
  obtain ⟨fd_l_press, F_l_press⟩ := c.def_ 20 (d := dd_l_press) rfl
  obtain ⟨fd_l_worked, F_l_worked⟩ := c.def_ 21 (d := dd_l_worked) rfl
  obtain ⟨fd_l_pressed, F_l_pressed⟩ := c.def_ 22 (d := dd_l_pressed) rfl
  obtain ⟨fd_l_take, F_l_take⟩ := c.def_ 23 (d := dd_l_take) rfl
  obtain ⟨fd_l_string, F_l_string⟩ := c.def_ 24 (d := dd_l_string) rfl
  obtain ⟨fd_l_refused, F_l_refused⟩ := c.def_ 25 (d := dd_l_refused) rfl
  obtain ⟨fd_l_box, F_l_box⟩ := c.def_ 26 (d := dd_l_box) rfl
  obtain ⟨fd_l_letters, F_l_letters⟩ := c.def_ 27 (d := dd_l_letters) rfl
  obtain ⟨fd_all_different, F_all_different⟩ := c.def_ 28 (d := dd_all_different) rfl
  obtain ⟨fd_Alphabet_init, F_Alphabet_init⟩ := c.def_ 29 (d := dd_Alphabet_init) rfl
  obtain ⟨fd_l_vowels, F_l_vowels⟩ := c.def_ 30 (d := dd_l_vowels) rfl
  obtain ⟨fd_l_text, F_l_text⟩ := c.def_ 31 (d := dd_l_text) rfl
  obtain ⟨fd_l_size, F_l_size⟩ := c.def_ 32 (d := dd_l_size) rfl
  obtain ⟨fd_l_world, F_l_world⟩ := c.def_ 33 (d := dd_l_world) rfl
  obtain ⟨fd_law, F_law⟩ := c.def_ 34 (d := dd_law) rfl
  refine ⟨fd_law, fun s v => FunD.bindsA (ps := ["_law_script"]) F_law (fun _ _ _ _ _ _ us hl => match us, hl with | [_], _ => rfl) s [v] rfl, fun base _ _ => ?_⟩
  have X_BadAlphabet : Ex PP w K mg base "BadAlphabet" (He.ga K "BadAlphabet") ["part"] := ex_BadAlphabet X G c
  have X_BadKey : Ex PP w K mg base "BadKey" (He.ga K "BadKey") ["key"] := ex_BadKey X G c
  have X_BadText : Ex PP w K mg base "BadText" (He.ga K "BadText") ["text"] := ex_BadText X G c
  have O_Alphabet_is_text : FnOk PP w K mg base (L2.CX PP w) 5 (He.fAd K ("Alphabet", some "is_text")) fd_Alphabet_is_text ["self", "text"] (sp_Alphabet_is_text K) := def_ok F_Alphabet_is_text sc_Alphabet_is_text len_Alphabet_is_text (t_Alphabet_is_text K) (fun cdv A outer s H E hr => tm_Alphabet_is_text T  hr) (rd_Alphabet_is_text T)
  have B_Alphabet_is_text : ∃ ds, Vals ([] : List V) ds ∧ Binds K fd_Alphabet_is_text ["self", "text"] ds := ⟨[], .nil, F_Alphabet_is_text.bindsN (ps := ["self", "text"]) fun _ _ _ _ _ _ us hl => match us, hl with | [_, _], _ => rfl⟩
  obtain ⟨ds_Alphabet_is_text, v_Alphabet_is_text, b_Alphabet_is_text⟩ := B_Alphabet_is_text
  have G_Alphabet_is_text : Me PP w K mg base (He.ga K "Alphabet") "is_text" 5 [] (sp_Alphabet_is_text K) := ⟨⟨_, fd_Alphabet_is_text, ["self", "text"], ds_Alphabet_is_text, O_Alphabet_is_text, me_of (c.fact 52), v_Alphabet_is_text, b_Alphabet_is_text⟩, cls_of (c.fact 22)⟩
  have O_Alphabet_check : FnOk PP w K mg base (L2.CX PP w) 7 (He.fAd K ("Alphabet", some "check")) fd_Alphabet_check ["self", "text"] (sp_Alphabet_check K) := def_ok F_Alphabet_check sc_Alphabet_check len_Alphabet_check (t_Alphabet_check K) (fun cdv A outer s H E hr => tm_Alphabet_check T G_Alphabet_is_text X_BadText hr) (rd_Alphabet_check T)
  have B_Alphabet_check : ∃ ds, Vals ([] : List V) ds ∧ Binds K fd_Alphabet_check ["self", "text"] ds := ⟨[], .nil, F_Alphabet_check.bindsN (ps := ["self", "text"]) fun _ _ _ _ _ _ us hl => match us, hl with | [_, _], _ => rfl⟩
  obtain ⟨ds_Alphabet_check, v_Alphabet_check, b_Alphabet_check⟩ := B_Alphabet_check
  have G_Alphabet_check : Me PP w K mg base (He.ga K "Alphabet") "check" 7 [] (sp_Alphabet_check K) := ⟨⟨_, fd_Alphabet_check, ["self", "text"], ds_Alphabet_check, O_Alphabet_check, me_of (c.fact 53), v_Alphabet_check, b_Alphabet_check⟩, cls_of (c.fact 22)⟩
  have O_Page_init : FnOk PP w K mg base (L2.CX PP w) 9 (He.fAd K ("Page", some "__init__")) fd_Page_init ["self", "alphabet", "text"] (sp_Page_init K) := def_ok F_Page_init sc_Page_init len_Page_init (t_Page_init K) (fun cdv A outer s H E hr => tm_Page_init T G_Alphabet_check hr) (rd_Page_init T)
  have B_Page : ∃ ds, Vals ([] : List V) ds ∧ Binds K fd_Page_init ["self", "alphabet", "text"] ds := F_Page_init.binds1 (ps := ["self", "alphabet", "text"]) 3 1 (List.cons_ne_nil _ _) rfl (fun _ _ _ _ _ _ _ us its h1 h2 => match us, its, h1, h2 with | [_, _, _], [_], _, _ => ⟨_, rfl, rfl⟩)
  obtain ⟨ds_Page, v_Page, b_Page⟩ := B_Page
  have G_Page : Mks PP w K mg base "Page" (He.ga K "Page") 9 [] (sp_Page_init K) := ⟨⟨_, fd_Page_init, ["self", "alphabet", "text"], ds_Page, O_Page_init, mk_of (c.fact 54), glo_of X G (c.fact 55), v_Page, b_Page⟩⟩
  have B_Page_1 : ∃ ds, Vals ([.str (S [])] : List V) ds ∧ Binds K fd_Page_init ["self", "alphabet", "text"] ds := F_Page_init.binds1 (ps := ["self", "alphabet", "text"]) 2 0 (List.cons_ne_nil _ _) rfl (fun _ _ _ _ _ _ _ us its h1 h2 => match us, its, h1, h2 with | [_, _], [_], _, _ => ⟨_, rfl, rfl⟩)
  obtain ⟨ds_Page_1, v_Page_1, b_Page_1⟩ := B_Page_1
  have G_Page_1 : Mks PP w K mg base "Page" (He.ga K "Page") 9 [.str (S [])] (sp_Page_init K) := ⟨⟨_, fd_Page_init, ["self", "alphabet", "text"], ds_Page_1, O_Page_init, mk_of (c.fact 54), glo_of X G (c.fact 55), v_Page_1, b_Page_1⟩⟩
  have O_l_ahead : FnOk PP w K mg base (L2.CX PP w) 5 (He.fAd K ("_law_ahead", none)) fd_l_ahead ["_law_caret", "_law_back", "_law_hold"] (sp_l_ahead K) := def_ok F_l_ahead sc_l_ahead len_l_ahead (t_l_ahead K) (fun cdv A outer s H E hr => tm_l_ahead T  hr) (rd_l_ahead T)
  have B_l_ahead : ∃ ds, Vals ([] : List V) ds ∧ Binds K fd_l_ahead ["_law_caret", "_law_back", "_law_hold"] ds := ⟨[], .nil, F_l_ahead.bindsN (ps := ["_law_caret", "_law_back", "_law_hold"]) fun _ _ _ _ _ _ us hl => match us, hl with | [_, _, _], _ => rfl⟩
  obtain ⟨ds_l_ahead, v_l_ahead, b_l_ahead⟩ := B_l_ahead
  have G_l_ahead : Fn PP w K mg base "_law_ahead" 5 [] (sp_l_ahead K) := ⟨⟨_, fd_l_ahead, ["_law_caret", "_law_back", "_law_hold"], ds_l_ahead, O_l_ahead, glo_of X G (c.fact 56), F_l_ahead.kp, v_l_ahead, b_l_ahead⟩⟩
  have O_l_keys : FnOk PP w K mg base (L2.CX PP w) 5 (He.fAd K ("_law_keys", none)) fd_l_keys ["_law_signs"] (sp_l_keys K) := def_ok F_l_keys sc_l_keys len_l_keys (t_l_keys K) (fun cdv A outer s H E hr => tm_l_keys T  hr) (rd_l_keys T)
  have B_l_keys : ∃ ds, Vals ([] : List V) ds ∧ Binds K fd_l_keys ["_law_signs"] ds := ⟨[], .nil, F_l_keys.bindsN (ps := ["_law_signs"]) fun _ _ _ _ _ _ us hl => match us, hl with | [_], _ => rfl⟩
  obtain ⟨ds_l_keys, v_l_keys, b_l_keys⟩ := B_l_keys
  have G_l_keys : Fn PP w K mg base "_law_keys" 5 [] (sp_l_keys K) := ⟨⟨_, fd_l_keys, ["_law_signs"], ds_l_keys, O_l_keys, glo_of X G (c.fact 57), F_l_keys.kp, v_l_keys, b_l_keys⟩⟩
  have O_l_whole : FnOk PP w K mg base (L2.CX PP w) 5 (He.fAd K ("_law_whole", none)) fd_l_whole ["_law_told", "_law_due"] (sp_l_whole K) := def_ok F_l_whole sc_l_whole len_l_whole (t_l_whole K) (fun cdv A outer s H E hr => tm_l_whole T  hr) (rd_l_whole T)
  have B_l_whole : ∃ ds, Vals ([] : List V) ds ∧ Binds K fd_l_whole ["_law_told", "_law_due"] ds := ⟨[], .nil, F_l_whole.bindsN (ps := ["_law_told", "_law_due"]) fun _ _ _ _ _ _ us hl => match us, hl with | [_, _], _ => rfl⟩
  obtain ⟨ds_l_whole, v_l_whole, b_l_whole⟩ := B_l_whole
  have G_l_whole : Fn PP w K mg base "_law_whole" 5 [] (sp_l_whole K) := ⟨⟨_, fd_l_whole, ["_law_told", "_law_due"], ds_l_whole, O_l_whole, glo_of X G (c.fact 58), F_l_whole.kp, v_l_whole, b_l_whole⟩⟩
  have O_Page_held : FnOk PP w K mg base (L2.CX PP w) 5 (prA K (He.ga K "Page") "held") fd_Page_held ["self"] (sp_Page_held K) := def_ok F_Page_held sc_Page_held len_Page_held (t_Page_held K) (fun cdv A outer s H E hr => tm_Page_held T  hr) (rd_Page_held T)
  have G_Page_held : Pr PP w K mg base (He.ga K "Page") "held" 5 (sp_Page_held K) := ⟨⟨_, _, fd_Page_held, ["self"], prp_of (c.fact 59), O_Page_held, F_Page_held.bindsN (ps := ["self"]) fun _ _ _ _ _ _ us hl => match us, hl with | [_], _ => rfl⟩, cls_of (c.fact 23)⟩
  have O_l_same : FnOk PP w K mg base (L2.CX PP w) 7 (He.fAd K ("_law_same", none)) fd_l_same ["_law_page", "_law_own"] (sp_l_same K) := def_ok F_l_same sc_l_same len_l_same (t_l_same K) (fun cdv A outer s H E hr => tm_l_same T G_Page_held G_l_whole hr) (rd_l_same T)
  have B_l_same : ∃ ds, Vals ([] : List V) ds ∧ Binds K fd_l_same ["_law_page", "_law_own"] ds := ⟨[], .nil, F_l_same.bindsN (ps := ["_law_page", "_law_own"]) fun _ _ _ _ _ _ us hl => match us, hl with | [_, _], _ => rfl⟩
  obtain ⟨ds_l_same, v_l_same, b_l_same⟩ := B_l_same
  have G_l_same : Fn PP w K mg base "_law_same" 7 [] (sp_l_same K) := ⟨⟨_, fd_l_same, ["_law_page", "_law_own"], ds_l_same, O_l_same, glo_of X G (c.fact 60), F_l_same.kp, v_l_same, b_l_same⟩⟩
  have O_Alphabet_eq : FnOk PP w K mg base (L2.CX PP w) 5 (He.fAd K ("Alphabet", some "__eq__")) fd_Alphabet_eq ["self", "other"] (sp_Alphabet_eq K) := def_ok F_Alphabet_eq sc_Alphabet_eq len_Alphabet_eq (t_Alphabet_eq K) (fun cdv A outer s H E hr => tm_Alphabet_eq T  hr) (rd_Alphabet_eq T)
  have B_Alphabet___eq__ : ∃ ds, Vals ([] : List V) ds ∧ Binds K fd_Alphabet_eq ["self", "other"] ds := ⟨[], .nil, F_Alphabet_eq.bindsN (ps := ["self", "other"]) fun _ _ _ _ _ _ us hl => match us, hl with | [_, _], _ => rfl⟩
  obtain ⟨ds_Alphabet___eq__, v_Alphabet___eq__, b_Alphabet___eq__⟩ := B_Alphabet___eq__
  have G_Alphabet___eq__ : Me PP w K mg base (He.ga K "Alphabet") "__eq__" 5 [] (sp_Alphabet_eq K) := ⟨⟨_, fd_Alphabet_eq, ["self", "other"], ds_Alphabet___eq__, O_Alphabet_eq, me_of (c.fact 61), v_Alphabet___eq__, b_Alphabet___eq__⟩, cls_of (c.fact 22)⟩
  have O_is_key : FnOk PP w K mg base (L2.CX PP w) 5 (He.fAd K ("is_key", none)) fd_is_key ["alphabet", "key"] (sp_is_key K) := def_ok F_is_key sc_is_key len_is_key (t_is_key K) (fun cdv A outer s H E hr => tm_is_key T  hr) (rd_is_key T)
  have B_is_key : ∃ ds, Vals ([] : List V) ds ∧ Binds K fd_is_key ["alphabet", "key"] ds := ⟨[], .nil, F_is_key.bindsN (ps := ["alphabet", "key"]) fun _ _ _ _ _ _ us hl => match us, hl with | [_, _], _ => rfl⟩
  obtain ⟨ds_is_key, v_is_key, b_is_key⟩ := B_is_key
  have G_is_key : Fn PP w K mg base "is_key" 5 [] (sp_is_key K) := ⟨⟨_, fd_is_key, ["alphabet", "key"], ds_is_key, O_is_key, glo_of X G (c.fact 62), F_is_key.kp, v_is_key, b_is_key⟩⟩
  have O_Page_sign_ahead : FnOk PP w K mg base (L2.CX PP w) 5 (He.fAd K ("Page", some "sign_ahead")) fd_Page_sign_ahead ["self"] (sp_Page_sign_ahead K) := def_ok F_Page_sign_ahead sc_Page_sign_ahead len_Page_sign_ahead (t_Page_sign_ahead K) (fun cdv A outer s H E hr => tm_Page_sign_ahead T  hr) (rd_Page_sign_ahead T)
  have B_Page_sign_ahead : ∃ ds, Vals ([] : List V) ds ∧ Binds K fd_Page_sign_ahead ["self"] ds := ⟨[], .nil, F_Page_sign_ahead.bindsN (ps := ["self"]) fun _ _ _ _ _ _ us hl => match us, hl with | [_], _ => rfl⟩
  obtain ⟨ds_Page_sign_ahead, v_Page_sign_ahead, b_Page_sign_ahead⟩ := B_Page_sign_ahead
  have G_Page_sign_ahead : Me PP w K mg base (He.ga K "Page") "sign_ahead" 5 [] (sp_Page_sign_ahead K) := ⟨⟨_, fd_Page_sign_ahead, ["self"], ds_Page_sign_ahead, O_Page_sign_ahead, me_of (c.fact 63), v_Page_sign_ahead, b_Page_sign_ahead⟩, cls_of (c.fact 23)⟩
  have O_Page_pass_sign : FnOk PP w K mg base (L2.CX PP w) 5 (He.fAd K ("Page", some "pass_sign")) fd_Page_pass_sign ["self"] (sp_Page_pass_sign K) := def_ok F_Page_pass_sign sc_Page_pass_sign len_Page_pass_sign (t_Page_pass_sign K) (fun cdv A outer s H E hr => tm_Page_pass_sign T  hr) (rd_Page_pass_sign T)
  have B_Page_pass_sign : ∃ ds, Vals ([] : List V) ds ∧ Binds K fd_Page_pass_sign ["self"] ds := ⟨[], .nil, F_Page_pass_sign.bindsN (ps := ["self"]) fun _ _ _ _ _ _ us hl => match us, hl with | [_], _ => rfl⟩
  obtain ⟨ds_Page_pass_sign, v_Page_pass_sign, b_Page_pass_sign⟩ := B_Page_pass_sign
  have G_Page_pass_sign : Me PP w K mg base (He.ga K "Page") "pass_sign" 5 [] (sp_Page_pass_sign K) := ⟨⟨_, fd_Page_pass_sign, ["self"], ds_Page_pass_sign, O_Page_pass_sign, me_of (c.fact 64), v_Page_pass_sign, b_Page_pass_sign⟩, cls_of (c.fact 23)⟩
  have O_Page_travel : FnOk PP w K mg base (L2.CX PP w) 7 (He.fAd K ("Page", some "travel")) fd_Page_travel ["self", "name", "sign"] (sp_Page_travel K) := def_ok F_Page_travel sc_Page_travel len_Page_travel (t_Page_travel K) (fun cdv A outer s H E hr => tm_Page_travel T G_Page_pass_sign G_Page_sign_ahead hr) (rd_Page_travel T)
  have B_Page_travel : ∃ ds, Vals ([] : List V) ds ∧ Binds K fd_Page_travel ["self", "name", "sign"] ds := ⟨[], .nil, F_Page_travel.bindsN (ps := ["self", "name", "sign"]) fun _ _ _ _ _ _ us hl => match us, hl with | [_, _, _], _ => rfl⟩
  obtain ⟨ds_Page_travel, v_Page_travel, b_Page_travel⟩ := B_Page_travel
  have G_Page_travel : Me PP w K mg base (He.ga K "Page") "travel" 7 [] (sp_Page_travel K) := ⟨⟨_, fd_Page_travel, ["self", "name", "sign"], ds_Page_travel, O_Page_travel, me_of (c.fact 65), v_Page_travel, b_Page_travel⟩, cls_of (c.fact 23)⟩
  have O_Page_take_sign : FnOk PP w K mg base (L2.CX PP w) 7 (He.fAd K ("Page", some "take_sign")) fd_Page_take_sign ["self", "name"] (sp_Page_take_sign K) := def_ok F_Page_take_sign sc_Page_take_sign len_Page_take_sign (t_Page_take_sign K) (fun cdv A outer s H E hr => tm_Page_take_sign T G_Page_pass_sign G_Page_sign_ahead hr) (rd_Page_take_sign T)
  have B_Page_take_sign : ∃ ds, Vals ([] : List V) ds ∧ Binds K fd_Page_take_sign ["self", "name"] ds := ⟨[], .nil, F_Page_take_sign.bindsN (ps := ["self", "name"]) fun _ _ _ _ _ _ us hl => match us, hl with | [_, _], _ => rfl⟩
  obtain ⟨ds_Page_take_sign, v_Page_take_sign, b_Page_take_sign⟩ := B_Page_take_sign
  have G_Page_take_sign : Me PP w K mg base (He.ga K "Page") "take_sign" 7 [] (sp_Page_take_sign K) := ⟨⟨_, fd_Page_take_sign, ["self", "name"], ds_Page_take_sign, O_Page_take_sign, me_of (c.fact 66), v_Page_take_sign, b_Page_take_sign⟩, cls_of (c.fact 23)⟩
  have O_Page_keep : FnOk PP w K mg base (L2.CX PP w) 5 (He.fAd K ("Page", some "keep")) fd_Page_keep ["self", "name"] (sp_Page_keep K) := def_ok F_Page_keep sc_Page_keep len_Page_keep (t_Page_keep K) (fun cdv A outer s H E hr => tm_Page_keep T  hr) (rd_Page_keep T)
  have B_Page_keep : ∃ ds, Vals ([] : List V) ds ∧ Binds K fd_Page_keep ["self", "name"] ds := ⟨[], .nil, F_Page_keep.bindsN (ps := ["self", "name"]) fun _ _ _ _ _ _ us hl => match us, hl with | [_, _], _ => rfl⟩
  obtain ⟨ds_Page_keep, v_Page_keep, b_Page_keep⟩ := B_Page_keep
  have G_Page_keep : Me PP w K mg base (He.ga K "Page") "keep" 5 [] (sp_Page_keep K) := ⟨⟨_, fd_Page_keep, ["self", "name"], ds_Page_keep, O_Page_keep, me_of (c.fact 67), v_Page_keep, b_Page_keep⟩, cls_of (c.fact 23)⟩
  have O_Page_opens_at : FnOk PP w K mg base (L2.CX PP w) 5 (He.fAd K ("Page", some "opens_at")) fd_Page_opens_at ["self", "place"] (sp_Page_opens_at K) := def_ok F_Page_opens_at sc_Page_opens_at len_Page_opens_at (t_Page_opens_at K) (fun cdv A outer s H E hr => tm_Page_opens_at T  hr) (rd_Page_opens_at T)
  have B_Page_opens_at : ∃ ds, Vals ([] : List V) ds ∧ Binds K fd_Page_opens_at ["self", "place"] ds := ⟨[], .nil, F_Page_opens_at.bindsN (ps := ["self", "place"]) fun _ _ _ _ _ _ us hl => match us, hl with | [_, _], _ => rfl⟩
  obtain ⟨ds_Page_opens_at, v_Page_opens_at, b_Page_opens_at⟩ := B_Page_opens_at
  have G_Page_opens_at : Me PP w K mg base (He.ga K "Page") "opens_at" 5 [] (sp_Page_opens_at K) := ⟨⟨_, fd_Page_opens_at, ["self", "place"], ds_Page_opens_at, O_Page_opens_at, me_of (c.fact 68), v_Page_opens_at, b_Page_opens_at⟩, cls_of (c.fact 23)⟩
  have O_Page_put_in : FnOk PP w K mg base (L2.CX PP w) 7 (He.fAd K ("Page", some "put_in")) fd_Page_put_in ["self", "signs"] (sp_Page_put_in K) := def_ok F_Page_put_in sc_Page_put_in len_Page_put_in (t_Page_put_in K) (fun cdv A outer s H E hr => tm_Page_put_in T G_Page_pass_sign hr) (rd_Page_put_in T)
  have B_Page_put_in : ∃ ds, Vals ([] : List V) ds ∧ Binds K fd_Page_put_in ["self", "signs"] ds := ⟨[], .nil, F_Page_put_in.bindsN (ps := ["self", "signs"]) fun _ _ _ _ _ _ us hl => match us, hl with | [_, _], _ => rfl⟩
  obtain ⟨ds_Page_put_in, v_Page_put_in, b_Page_put_in⟩ := B_Page_put_in
  have G_Page_put_in : Me PP w K mg base (He.ga K "Page") "put_in" 7 [] (sp_Page_put_in K) := ⟨⟨_, fd_Page_put_in, ["self", "signs"], ds_Page_put_in, O_Page_put_in, me_of (c.fact 69), v_Page_put_in, b_Page_put_in⟩, cls_of (c.fact 23)⟩
  have O_Page_press : FnOk PP w K mg base (L2.CX PP w) 9 (He.fAd K ("Page", some "press")) fd_Page_press ["self", "key"] (sp_Page_press K) := def_ok F_Page_press sc_Page_press len_Page_press (t_Page_press K) (fun cdv A outer s H E hr => tm_Page_press T G_Page_keep G_Page_opens_at G_Page_put_in G_Page_sign_ahead G_Page_take_sign G_Page_travel G_is_key X_BadKey hr) (rd_Page_press T)
  have B_Page_press : ∃ ds, Vals ([] : List V) ds ∧ Binds K fd_Page_press ["self", "key"] ds := ⟨[], .nil, F_Page_press.bindsN (ps := ["self", "key"]) fun _ _ _ _ _ _ us hl => match us, hl with | [_, _], _ => rfl⟩
  obtain ⟨ds_Page_press, v_Page_press, b_Page_press⟩ := B_Page_press
  have G_Page_press : Me PP w K mg base (He.ga K "Page") "press" 9 [] (sp_Page_press K) := ⟨⟨_, fd_Page_press, ["self", "key"], ds_Page_press, O_Page_press, me_of (c.fact 70), v_Page_press, b_Page_press⟩, cls_of (c.fact 23)⟩
  have O_l_pass : FnOk PP w K mg base (L2.CX PP w) 5 (He.fAd K ("_law_pass", none)) fd_l_pass ["_law_page", "_law_count"] (sp_l_pass K) := def_ok F_l_pass sc_l_pass len_l_pass (t_l_pass K) (fun cdv A outer s H E hr => tm_l_pass T  hr) (rd_l_pass T)
  have B_l_pass : ∃ ds, Vals ([] : List V) ds ∧ Binds K fd_l_pass ["_law_page", "_law_count"] ds := ⟨[], .nil, F_l_pass.bindsN (ps := ["_law_page", "_law_count"]) fun _ _ _ _ _ _ us hl => match us, hl with | [_, _], _ => rfl⟩
  obtain ⟨ds_l_pass, v_l_pass, b_l_pass⟩ := B_l_pass
  have G_l_pass : Fn PP w K mg base "_law_pass" 5 [] (sp_l_pass K) := ⟨⟨_, fd_l_pass, ["_law_page", "_law_count"], ds_l_pass, O_l_pass, glo_of X G (c.fact 71), F_l_pass.kp, v_l_pass, b_l_pass⟩⟩
  have O_l_insert : FnOk PP w K mg base (L2.CX PP w) 7 (He.fAd K ("_law_insert", none)) fd_l_insert ["_law_page", "_law_signs"] (sp_l_insert K) := def_ok F_l_insert sc_l_insert len_l_insert (t_l_insert K) (fun cdv A outer s H E hr => tm_l_insert T G_l_pass hr) (rd_l_insert T)
  have B_l_insert : ∃ ds, Vals ([] : List V) ds ∧ Binds K fd_l_insert ["_law_page", "_law_signs"] ds := ⟨[], .nil, F_l_insert.bindsN (ps := ["_law_page", "_law_signs"]) fun _ _ _ _ _ _ us hl => match us, hl with | [_, _], _ => rfl⟩
  obtain ⟨ds_l_insert, v_l_insert, b_l_insert⟩ := B_l_insert
  have G_l_insert : Fn PP w K mg base "_law_insert" 7 [] (sp_l_insert K) := ⟨⟨_, fd_l_insert, ["_law_page", "_law_signs"], ds_l_insert, O_l_insert, glo_of X G (c.fact 72), F_l_insert.kp, v_l_insert, b_l_insert⟩⟩
  have O_l_press : FnOk PP w K mg base (L2.CX PP w) 9 (He.fAd K ("_law_press", none)) fd_l_press ["_law_page", "_law_key"] (sp_l_press K) := def_ok F_l_press sc_l_press len_l_press (t_l_press K) (fun cdv A outer s H E hr => tm_l_press T G_l_insert G_l_pass hr) (rd_l_press T)
  have B_l_press : ∃ ds, Vals ([] : List V) ds ∧ Binds K fd_l_press ["_law_page", "_law_key"] ds := ⟨[], .nil, F_l_press.bindsN (ps := ["_law_page", "_law_key"]) fun _ _ _ _ _ _ us hl => match us, hl with | [_, _], _ => rfl⟩
  obtain ⟨ds_l_press, v_l_press, b_l_press⟩ := B_l_press
  have G_l_press : Fn PP w K mg base "_law_press" 9 [] (sp_l_press K) := ⟨⟨_, fd_l_press, ["_law_page", "_law_key"], ds_l_press, O_l_press, glo_of X G (c.fact 73), F_l_press.kp, v_l_press, b_l_press⟩⟩
  have O_l_worked : FnOk PP w K mg base (L2.CX PP w) 11 (He.fAd K ("_law_worked", none)) fd_l_worked ["_law_page", "_law_own", "_law_key"] (sp_l_worked K) := def_ok F_l_worked sc_l_worked len_l_worked (t_l_worked K) (fun cdv A outer s H E hr => tm_l_worked T G_Page_press G_l_press hr) (rd_l_worked T)
  have B_l_worked : ∃ ds, Vals ([] : List V) ds ∧ Binds K fd_l_worked ["_law_page", "_law_own", "_law_key"] ds := ⟨[], .nil, F_l_worked.bindsN (ps := ["_law_page", "_law_own", "_law_key"]) fun _ _ _ _ _ _ us hl => match us, hl with | [_, _, _], _ => rfl⟩
  obtain ⟨ds_l_worked, v_l_worked, b_l_worked⟩ := B_l_worked
  have G_l_worked : Fn PP w K mg base "_law_worked" 11 [] (sp_l_worked K) := ⟨⟨_, fd_l_worked, ["_law_page", "_law_own", "_law_key"], ds_l_worked, O_l_worked, glo_of X G (c.fact 74), F_l_worked.kp, v_l_worked, b_l_worked⟩⟩
  have O_l_pressed : FnOk PP w K mg base (L2.CX PP w) 13 (He.fAd K ("_law_pressed", none)) fd_l_pressed ["_law_alphabet", "_law_text_here", "_law_row", "_law_key"] (sp_l_pressed K) := def_ok F_l_pressed sc_l_pressed len_l_pressed (t_l_pressed K) (fun cdv A outer s H E hr => tm_l_pressed T G_Alphabet___eq__ G_Page G_l_same G_l_worked hr) (rd_l_pressed T)
  have B_l_pressed : ∃ ds, Vals ([] : List V) ds ∧ Binds K fd_l_pressed ["_law_alphabet", "_law_text_here", "_law_row", "_law_key"] ds := ⟨[], .nil, F_l_pressed.bindsN (ps := ["_law_alphabet", "_law_text_here", "_law_row", "_law_key"]) fun _ _ _ _ _ _ us hl => match us, hl with | [_, _, _, _], _ => rfl⟩
  obtain ⟨ds_l_pressed, v_l_pressed, b_l_pressed⟩ := B_l_pressed
  have G_l_pressed : Fn PP w K mg base "_law_pressed" 13 [] (sp_l_pressed K) := ⟨⟨_, fd_l_pressed, ["_law_alphabet", "_law_text_here", "_law_row", "_law_key"], ds_l_pressed, O_l_pressed, glo_of X G (c.fact 75), F_l_pressed.kp, v_l_pressed, b_l_pressed⟩⟩
  have O_l_take : FnOk PP w K mg base (L2.CX PP w) 5 (He.fAd K ("_law_take", none)) fd_l_take ["_law_box_here", "_law_size_here"] (sp_l_take K) := def_ok F_l_take sc_l_take len_l_take (t_l_take K) (fun cdv A outer s H E hr => tm_l_take T  hr) (rd_l_take T)
  have B_l_take : ∃ ds, Vals ([] : List V) ds ∧ Binds K fd_l_take ["_law_box_here", "_law_size_here"] ds := ⟨[], .nil, F_l_take.bindsN (ps := ["_law_box_here", "_law_size_here"]) fun _ _ _ _ _ _ us hl => match us, hl with | [_, _], _ => rfl⟩
  obtain ⟨ds_l_take, v_l_take, b_l_take⟩ := B_l_take
  have G_l_take : Fn PP w K mg base "_law_take" 5 [] (sp_l_take K) := ⟨⟨_, fd_l_take, ["_law_box_here", "_law_size_here"], ds_l_take, O_l_take, glo_of X G (c.fact 76), F_l_take.kp, v_l_take, b_l_take⟩⟩
  have O_l_string : FnOk PP w K mg base (L2.CX PP w) 7 (He.fAd K ("_law_string", none)) fd_l_string ["_law_box_here", "_law_signs"] (sp_l_string K) := def_ok F_l_string sc_l_string len_l_string (t_l_string K) (fun cdv A outer s H E hr => tm_l_string T G_l_take hr) (rd_l_string T)
  have B_l_string : ∃ ds, Vals ([] : List V) ds ∧ Binds K fd_l_string ["_law_box_here", "_law_signs"] ds := ⟨[], .nil, F_l_string.bindsN (ps := ["_law_box_here", "_law_signs"]) fun _ _ _ _ _ _ us hl => match us, hl with | [_, _], _ => rfl⟩
  obtain ⟨ds_l_string, v_l_string, b_l_string⟩ := B_l_string
  have G_l_string : Fn PP w K mg base "_law_string" 7 [] (sp_l_string K) := ⟨⟨_, fd_l_string, ["_law_box_here", "_law_signs"], ds_l_string, O_l_string, glo_of X G (c.fact 77), F_l_string.kp, v_l_string, b_l_string⟩⟩
  have O_l_refused : FnOk PP w K mg base (L2.CX PP w) 13 (He.fAd K ("_law_refused", none)) fd_l_refused ["_law_page", "_law_own", "_law_signs", "_law_string_here"] (sp_l_refused K) := def_ok F_l_refused sc_l_refused len_l_refused (t_l_refused K) (fun cdv A outer s H E hr => tm_l_refused T G_Page_press G_l_same G_l_worked hr) (rd_l_refused T)
  have B_l_refused : ∃ ds, Vals ([] : List V) ds ∧ Binds K fd_l_refused ["_law_page", "_law_own", "_law_signs", "_law_string_here"] ds := ⟨[], .nil, F_l_refused.bindsN (ps := ["_law_page", "_law_own", "_law_signs", "_law_string_here"]) fun _ _ _ _ _ _ us hl => match us, hl with | [_, _, _, _], _ => rfl⟩
  obtain ⟨ds_l_refused, v_l_refused, b_l_refused⟩ := B_l_refused
  have G_l_refused : Fn PP w K mg base "_law_refused" 13 [] (sp_l_refused K) := ⟨⟨_, fd_l_refused, ["_law_page", "_law_own", "_law_signs", "_law_string_here"], ds_l_refused, O_l_refused, glo_of X G (c.fact 78), F_l_refused.kp, v_l_refused, b_l_refused⟩⟩
  have O_l_box : FnOk PP w K mg base (L2.CX PP w) 5 (He.fAd K ("_law_box", none)) fd_l_box ["_law_script", "_law_k"] (sp_l_box K) := def_ok F_l_box sc_l_box len_l_box (t_l_box K) (fun cdv A outer s H E hr => tm_l_box T  hr) (rd_l_box T)
  have B_l_box : ∃ ds, Vals ([] : List V) ds ∧ Binds K fd_l_box ["_law_script", "_law_k"] ds := ⟨[], .nil, F_l_box.bindsN (ps := ["_law_script", "_law_k"]) fun _ _ _ _ _ _ us hl => match us, hl with | [_, _], _ => rfl⟩
  obtain ⟨ds_l_box, v_l_box, b_l_box⟩ := B_l_box
  have G_l_box : Fn PP w K mg base "_law_box" 5 [] (sp_l_box K) := ⟨⟨_, fd_l_box, ["_law_script", "_law_k"], ds_l_box, O_l_box, glo_of X G (c.fact 79), F_l_box.kp, v_l_box, b_l_box⟩⟩
  have O_l_letters : FnOk PP w K mg base (L2.CX PP w) 7 (He.fAd K ("_law_letters", none)) fd_l_letters ["_law_box_here", "_law_count"] (sp_l_letters K) := def_ok F_l_letters sc_l_letters len_l_letters (t_l_letters K) (fun cdv A outer s H E hr => tm_l_letters T G_l_take hr) (rd_l_letters T)
  have B_l_letters : ∃ ds, Vals ([] : List V) ds ∧ Binds K fd_l_letters ["_law_box_here", "_law_count"] ds := ⟨[], .nil, F_l_letters.bindsN (ps := ["_law_box_here", "_law_count"]) fun _ _ _ _ _ _ us hl => match us, hl with | [_, _], _ => rfl⟩
  obtain ⟨ds_l_letters, v_l_letters, b_l_letters⟩ := B_l_letters
  have G_l_letters : Fn PP w K mg base "_law_letters" 7 [] (sp_l_letters K) := ⟨⟨_, fd_l_letters, ["_law_box_here", "_law_count"], ds_l_letters, O_l_letters, glo_of X G (c.fact 80), F_l_letters.kp, v_l_letters, b_l_letters⟩⟩
  have O_all_different : FnOk PP w K mg base (L2.CX PP w) 5 (He.fAd K ("all_different", none)) fd_all_different ["string"] (sp_all_different K) := def_ok F_all_different sc_all_different len_all_different (t_all_different K) (fun cdv A outer s H E hr => tm_all_different T  hr) (rd_all_different T)
  have B_all_different : ∃ ds, Vals ([] : List V) ds ∧ Binds K fd_all_different ["string"] ds := ⟨[], .nil, F_all_different.bindsN (ps := ["string"]) fun _ _ _ _ _ _ us hl => match us, hl with | [_], _ => rfl⟩
  obtain ⟨ds_all_different, v_all_different, b_all_different⟩ := B_all_different
  have G_all_different : Fn PP w K mg base "all_different" 5 [] (sp_all_different K) := ⟨⟨_, fd_all_different, ["string"], ds_all_different, O_all_different, glo_of X G (c.fact 81), F_all_different.kp, v_all_different, b_all_different⟩⟩
  have O_Alphabet_init : FnOk PP w K mg base (L2.CX PP w) 7 (He.fAd K ("Alphabet", some "__init__")) fd_Alphabet_init ["self", "letters", "vowels"] (sp_Alphabet_init K) := def_ok F_Alphabet_init sc_Alphabet_init len_Alphabet_init (t_Alphabet_init K) (fun cdv A outer s H E hr => tm_Alphabet_init T G_all_different X_BadAlphabet hr) (rd_Alphabet_init T)
  have B_Alphabet : ∃ ds, Vals ([] : List V) ds ∧ Binds K fd_Alphabet_init ["self", "letters", "vowels"] ds := F_Alphabet_init.binds1 (ps := ["self", "letters", "vowels"]) 3 1 (List.cons_ne_nil _ _) rfl (fun _ _ _ _ _ _ _ us its h1 h2 => match us, its, h1, h2 with | [_, _, _], [_], _, _ => ⟨_, rfl, rfl⟩)
  obtain ⟨ds_Alphabet, v_Alphabet, b_Alphabet⟩ := B_Alphabet
  have G_Alphabet : Mks PP w K mg base "Alphabet" (He.ga K "Alphabet") 7 [] (sp_Alphabet_init K) := ⟨⟨_, fd_Alphabet_init, ["self", "letters", "vowels"], ds_Alphabet, O_Alphabet_init, mk_of (c.fact 82), glo_of X G (c.fact 13), v_Alphabet, b_Alphabet⟩⟩
  have O_l_vowels : FnOk PP w K mg base (L2.CX PP w) 7 (He.fAd K ("_law_vowels", none)) fd_l_vowels ["_law_box_here", "_law_letters_here"] (sp_l_vowels K) := def_ok F_l_vowels sc_l_vowels len_l_vowels (t_l_vowels K) (fun cdv A outer s H E hr => tm_l_vowels T G_l_take hr) (rd_l_vowels T)
  have B_l_vowels : ∃ ds, Vals ([] : List V) ds ∧ Binds K fd_l_vowels ["_law_box_here", "_law_letters_here"] ds := ⟨[], .nil, F_l_vowels.bindsN (ps := ["_law_box_here", "_law_letters_here"]) fun _ _ _ _ _ _ us hl => match us, hl with | [_, _], _ => rfl⟩
  obtain ⟨ds_l_vowels, v_l_vowels, b_l_vowels⟩ := B_l_vowels
  have G_l_vowels : Fn PP w K mg base "_law_vowels" 7 [] (sp_l_vowels K) := ⟨⟨_, fd_l_vowels, ["_law_box_here", "_law_letters_here"], ds_l_vowels, O_l_vowels, glo_of X G (c.fact 83), F_l_vowels.kp, v_l_vowels, b_l_vowels⟩⟩
  have O_l_text : FnOk PP w K mg base (L2.CX PP w) 7 (He.fAd K ("_law_text", none)) fd_l_text ["_law_box_here", "_law_signs", "_law_size_here"] (sp_l_text K) := def_ok F_l_text sc_l_text len_l_text (t_l_text K) (fun cdv A outer s H E hr => tm_l_text T G_l_take hr) (rd_l_text T)
  have B_l_text : ∃ ds, Vals ([] : List V) ds ∧ Binds K fd_l_text ["_law_box_here", "_law_signs", "_law_size_here"] ds := ⟨[], .nil, F_l_text.bindsN (ps := ["_law_box_here", "_law_signs", "_law_size_here"]) fun _ _ _ _ _ _ us hl => match us, hl with | [_, _, _], _ => rfl⟩
  obtain ⟨ds_l_text, v_l_text, b_l_text⟩ := B_l_text
  have G_l_text : Fn PP w K mg base "_law_text" 7 [] (sp_l_text K) := ⟨⟨_, fd_l_text, ["_law_box_here", "_law_signs", "_law_size_here"], ds_l_text, O_l_text, glo_of X G (c.fact 84), F_l_text.kp, v_l_text, b_l_text⟩⟩
  have O_l_size : FnOk PP w K mg base (L2.CX PP w) 7 (He.fAd K ("_law_size", none)) fd_l_size ["_law_box_here", "_law_small"] (sp_l_size K) := def_ok F_l_size sc_l_size len_l_size (t_l_size K) (fun cdv A outer s H E hr => tm_l_size T G_l_take hr) (rd_l_size T)
  have B_l_size : ∃ ds, Vals ([] : List V) ds ∧ Binds K fd_l_size ["_law_box_here", "_law_small"] ds := ⟨[], .nil, F_l_size.bindsN (ps := ["_law_box_here", "_law_small"]) fun _ _ _ _ _ _ us hl => match us, hl with | [_, _], _ => rfl⟩
  obtain ⟨ds_l_size, v_l_size, b_l_size⟩ := B_l_size
  have G_l_size : Fn PP w K mg base "_law_size" 7 [] (sp_l_size K) := ⟨⟨_, fd_l_size, ["_law_box_here", "_law_small"], ds_l_size, O_l_size, glo_of X G (c.fact 85), F_l_size.kp, v_l_size, b_l_size⟩⟩
  have O_l_world : FnOk PP w K mg base (L2.CX PP w) 15 (He.fAd K ("_law_world", none)) fd_l_world ["_law_script", "_law_k"] (sp_l_world K) := def_ok F_l_world sc_l_world len_l_world (t_l_world K) (fun cdv A outer s H E hr => tm_l_world T G_Alphabet G_Page G_Page_1 G_l_ahead G_l_box G_l_keys G_l_letters G_l_pressed G_l_refused G_l_same G_l_size G_l_string G_l_take G_l_text G_l_vowels G_l_worked hr) (rd_l_world T)
  have B_l_world : ∃ ds, Vals ([] : List V) ds ∧ Binds K fd_l_world ["_law_script", "_law_k"] ds := ⟨[], .nil, F_l_world.bindsN (ps := ["_law_script", "_law_k"]) fun _ _ _ _ _ _ us hl => match us, hl with | [_, _], _ => rfl⟩
  obtain ⟨ds_l_world, v_l_world, b_l_world⟩ := B_l_world
  have G_l_world : Fn PP w K mg base "_law_world" 15 [] (sp_l_world K) := ⟨⟨_, fd_l_world, ["_law_script", "_law_k"], ds_l_world, O_l_world, glo_of X G (c.fact 86), F_l_world.kp, v_l_world, b_l_world⟩⟩
  have O_law : FnOk PP w K mg base (L2.CX PP w) 17 (He.fAd K ("law", none)) fd_law ["_law_script"] (sp_law K) := def_ok F_law sc_law len_law (t_law K) (fun cdv A outer s H E hr => tm_law T G_l_world hr) (rd_law T)
  exact O_law
end Lw
open PySem PySem.W PySem.Calls PyProof.Rows
set_option maxHeartbeats 0 in
theorem PySem.Challenge.cw_talepost_k44_single_keys_holds : PySem.Challenge.rw_talepost_k44_single_keys.Holds := by
  w_on; o_law
  refine HandSHeadRun.head_any (r := OpenLaw.row PySem.Challenge.rw_talepost_k44_single_keys) (q := view (OpenLaw.row PySem.Challenge.rw_talepost_k44_single_keys).prog [36]) (H := Lw.hk) (ob := Lw.ob) (M := 3000) (loose := Lw.loose) (d := HandSHeadRun.topDef (OpenLaw.row PySem.Challenge.rw_talepost_k44_single_keys).prog 36) (kwd := []) Lw.ob_eq
    (by kernel_rfl) (fun s => by kernel_rfl) Lw.run (by kernel_rfl) (by kernel_rfl) (by kernel_rfl) (by rfl) (by first | assumption | decide +kernel) (by decide +kernel) ⟨rfl, rfl, rfl, rfl, rfl, by decide +kernel⟩ ?hw ?hc
  case hw => w_witness2
  case hc =>
    refine Ta.walk_ofX (l := PySem.Challenge.rw_talepost_k44_single_keys) (n := 63) (k := 17) (x := "_law_script") rfl (by decide) (by kernel_rfl) ⟨rfl, by decide, by decide⟩ ?F
    intro w mg fa h Y G hmg0
    obtain ⟨K, KX, c⟩ := Y
    have hmg : mg ("law" : PySem.Str) = some (.ref fa) := by
      have e : (HandSHeadRun.topDef (OpenLaw.row PySem.Challenge.rw_talepost_k44_single_keys).prog 36).name = ("law" : PySem.Str) := by kernel_rfl
      rw [← e]
      exact hmg0
    obtain ⟨fd, hb, hF⟩ := Lw.all_ok (w := w) KX G c
    have e := hmg.symm.trans (Ta.glo_of KX G (x := "law") (c.fact 88))
    cases e
    refine ⟨K, fd, Lw.sp_law K, KX, hb, fun H a ns hl hO hS => ?_, hF⟩
    obtain ⟨oj, hS⟩ := Ta.scr_of (c.fact 87) hO hS
    exact Lw.law_in hS hl

