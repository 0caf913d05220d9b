import PyProof.Rows.All
import Wide.All
import OpenK.AllK
import Wide.FinOn
import HandS.ForMost
import HandS.ForExc
import HandS.Flow
import HandS.Defaults
import HandS.CallSlots
import HandS.IsInst
import HandS.Codes
import HandS.ClsMeth
import HandS.OwnEq
import HandS.Property
import HandS.ExcInit
import HandS.ExcField
import HandS.ExcIs
import HandS.Nested
import KE.KExcSuper
import KE.KExcIs
import HandS.Strs
import HandS.SetTxtIn
import HandS.More
import HandS.Replace
import HandS.ReplaceList
import HandS.Head0
import HandS.Head1
import HandS.Head2
import HandS.HeadEnd
import HandS.HeadHook1
import HandS.HeadHook2
import PySem.Challenge.RW_talepost_k00_alphabets
set_option Elab.async false
set_option linter.all false
set_option maxRecDepth 100000
set_option maxHeartbeats 1000000
namespace Ta
open PySem PySem.Spec PyProof.Rows L2
abbrev St := L2.St

/-! ### texts as lists of codes -/
abbrev tl (x : Str) : List Nat := x.cps.toList
abbrev S (l : List Nat) : Str := ⟨l.toArray⟩
theorem tl_S (l : List Nat) : tl (S l) = l := rfl
theorem S_tl (x : Str) : S (tl x) = x := TL.mk_tl x
theorem ext_tl {x y : Str} (h : tl x = tl y) : x = y := TL.ext_tl h
theorem len_tl (x : Str) : x.length = (tl x).length := TL.len_tl x
theorem add_S (x y : Str) : x ++ y = S (tl x ++ tl y) := ext_tl (TL.tl_append x y)

/-! ### marks: a look at the heap, a branch -/
@[irreducible] def look (H : Hp) (p : Addr) (k : Option HO → Prop) : Prop := k (H p)
theorem look_i {H : Hp} {p : Addr} {k : Option HO → Prop} {o : HO} (h : H p = some o) (q : k (some o)) : look H p k := by
  unfold look; rw [h]; exact q
theorem look_n {H : Hp} {p : Addr} {k : Option HO → Prop} (h : H p = none) (q : k none) : look H p k := by
  unfold look; rw [h]; exact q
theorem look_e {H : Hp} {p : Addr} {k : Option HO → Prop} (q : look H p k) : k (H p) := by
  unfold look at q; exact q
@[irreducible] def cnd (c : Bool) (p q : Prop) : Prop := match c with
  | true => p
  | false => q
theorem cnd_i {c : Bool} {p q : Prop} (h1 : c = true → p) (h2 : c = false → q) : cnd c p q := by
  unfold cnd; cases c
  · exact h2 rfl
  · exact h1 rfl
theorem cnd_t {c : Bool} {p q : Prop} (h : c = true) (h1 : p) : cnd c p q := by unfold cnd; rw [h]; exact h1
theorem cnd_f {c : Bool} {p q : Prop} (h : c = false) (h1 : q) : cnd c p q := by unfold cnd; rw [h]; exact h1
theorem cnd_e {c : Bool} {p q : Prop} (h : cnd c p q) : if c = true then p else q := by
  unfold cnd at h; cases c
  · exact h
  · exact h

/-! ### weakening -/
section
variable {X : Cx}
theorem pe_imp {e : Expr} {t t' : TE} (h : PE X e t) (i : ∀ σ H Q, t' σ H Q → t σ H Q) : PE X e t' := ⟨fun pins s σ H Q I q => h.run pins s σ H Q I (i σ H Q q)⟩
theorem pt_imp {e : Expr} {t t' : TT} (h : PT X e t) (i : ∀ σ H Q, t' σ H Q → t σ H Q) : PT X e t' := ⟨fun pins s σ H Q I q => h.run pins s σ H Q I (i σ H Q q)⟩
theorem pw_imp {e : Expr} {t t' : TT} (h : PW X e t) (i : ∀ σ H Q, t' σ H Q → t σ H Q) : PW X e t' := ⟨fun whole pins s σ H Q I q => h.run whole pins s σ H Q I (i σ H Q q)⟩
theorem ps_imp {e : Stmt} {t t' : TS} (h : PS X e t) (i : ∀ D σ H, t' D σ H → t D σ H) : PS X e t' := ⟨fun pins s σ H D I q => h.run pins s σ H D I (i D σ H q)⟩
theorem op_imp {f : Value → Value → Sem Value} {r r' : R2} (h : OpR X f r) (i : ∀ x y H Q, r' x y H Q → r x y H Q) : OpR X f r' := fun pins s σ H x y v u Q I rx ry q => h pins s σ H x y v u Q I rx ry (i x y H Q q)
theorem ix_imp {r r' : R2} (h : IxR X r) (i : ∀ x y H Q, r' x y H Q → r x y H Q) : IxR X r' := fun va sl pins s σ H x y v u Q I rx ry q => h va sl pins s σ H x y v u Q I rx ry (i x y H Q q)
theorem cr_imp {f : Value} {r r' : List V → Hp → VK → Prop} (h : CallR X f r) (i : ∀ xs H Q, r' xs H Q → r xs H Q) : CallR X f r' := fun pins s σ H xs us Q I rx q => h pins s σ H xs us Q I rx (i xs H Q q)
theorem sl_imp {r r' : V → Option Int → Option Int → Hp → VK → Prop} (h : SlR X r) (i : ∀ x a b H Q, r' x a b H Q → r x a b H Q) : SlR X r' := fun pins s σ H x v vl vu lo hi sl Q I rx rs pl pu q => h pins s σ H x v vl vu lo hi sl Q I rx rs pl pu (i x lo hi H Q q)
theorem mt_imp {id : String} {r r' : V → List V → Hp → VK → Prop} (h : MtR X id r) (i : ∀ x xs H Q, r' x xs H Q → r x xs H Q) : MtR X id r' := fun pins s σ H x xs v us Q I rx rs q => h pins s σ H x xs v us Q I rx rs (i x xs H Q q)
end

/-! ### limits -/
def Lim (n : Nat) : Prop := n ≤ sizeLine
theorem lim_of {n : Nat} (h : n ≤ 16777216) : Lim n := by unfold Lim; rw [sizeLine_eq]; exact h

/-! ### names, constants -/
section
variable {X : Cx}
def tV (i : Nat) : TE := fun σ H Q => match σ[i]? with
  | some (some v) => Q v H
  | _ => False
theorem tV_e {i : Nat} {σ : St} {H : Hp} {Q : VK} (h : tV i σ H Q) : tVar i σ H Q := by
  unfold tV at h
  split at h
  · rename_i v e
    exact ⟨v, e, h⟩
  · exact h.elim
theorem pv (i : Nat) {x : Str} {pos : Pos} (hN : X.N[i]? = some x := by rfl) (hv : Vis X.env.scope x := by first | exact Or.inl rfl | exact Or.inr (Or.inl rfl) | exact Or.inr (Or.inr rfl)) (hd : (x == ("__debug__" : Str)) = false := by decide +kernel)
    (hcd : (x == ("__classdict__" : Str)) = false := by decide +kernel) : PE X (.Name x pos) (tV i) := pe_imp (pe_var hN hv hd hcd) fun _ _ _ h => tV_e h
theorem pstr (l : List Nat) {x : Str} {j : Nat} {pos : Pos} (h : x = S l := by decide +kernel) : PE X (.Constant (.str x) j pos) (tC (.str (S l))) := by
  subst h; exact pe_str

/-! ### truth -/
def truP (K : PySem.W.Frag) (x : V) (H : Hp) (Q : Bool → Prop) : Prop := match x with
  | .non => Q false
  | .bl b => Q b
  | .int i => Q (!decide (i = 0))
  | .str y => Lim (tl y).length ∧ Q (!(tl y).isEmpty)
  | .ref p => look H p fun o => match o with
    | some (.lst xs) => Q (!xs.isEmpty)
    | some (.tup xs) => Q (!xs.isEmpty)
    | some (.dK kvs) => Q (!kvs.isEmpty)
    | some (.frz _ (.lst xs)) => Q (!xs.isEmpty)
    | _ => ∃ xs, (SqL K H p xs ∨ SqT K H p xs) ∧ Q (!xs.isEmpty)
  | _ => False
theorem truP_e {K : PySem.W.Frag} {x : V} {H : Hp} {Q : Bool → Prop} (h : truP K x H Q) : ∃ k, TruV K x H k ∧ Q k := by
  cases x with
  | non => exact ⟨false, rfl, h⟩
  | bl b => exact ⟨b, rfl, h⟩
  | int i => exact ⟨!decide (i = 0), by show (!decide (i = 0)) = (i != 0); simp only [bne]; congr 1, h⟩
  | str y =>
    obtain ⟨h1, h2⟩ := h
    refine ⟨!(tl y).isEmpty, ⟨by rw [len_tl]; exact h1, ?_⟩, h2⟩
    rw [len_tl]
    cases e : tl y with
    | nil => rfl
    | cons c r => simp; omega
  | ref p =>
    have h' := look_e h
    revert h'
    cases e : H p with
    | none => exact fun ⟨xs, h1, h2⟩ => ⟨_, h1.elim (fun z => .inl ⟨xs, z, rfl⟩) (fun z => .inr (.inl ⟨xs, z, rfl⟩)), h2⟩
    | some o =>
      cases o with
      | lst xs => exact fun h2 => ⟨_, .inl ⟨xs, SqL.of e, rfl⟩, h2⟩
      | tup xs => exact fun h2 => ⟨_, .inr (.inl ⟨xs, SqT.of e, rfl⟩), h2⟩
      | dK xs => exact fun h2 => ⟨_, .inr (.inr ⟨xs, e, rfl⟩), h2⟩
      | frz ob u =>
        cases u with
        | lst xs => exact fun h2 => ⟨_, .inl ⟨xs, .inl (.inr ⟨_, e⟩), rfl⟩, h2⟩
        | _ => exact fun ⟨xs, h1, h2⟩ => ⟨_, h1.elim (fun z => .inl ⟨xs, z, rfl⟩) (fun z => .inr (.inl ⟨xs, z, rfl⟩)), h2⟩
      | _ => exact fun ⟨xs, h1, h2⟩ => ⟨_, h1.elim (fun z => .inl ⟨xs, z, rfl⟩) (fun z => .inr (.inl ⟨xs, z, rfl⟩)), h2⟩
  | _ => exact h.elim
def tTru (K : PySem.W.Frag) (ta : TE) : TT := fun σ H Q => ta σ H fun x H1 => truP K x H1 fun k => Q k H1
variable {a b c : Expr} {ta tb tc : TE} {rest : List Expr} {pos : Pos}
theorem ptru (ha : PE X a ta) (he : ∀ whole, isTrue a X.env whole = (do let v ← whole; standAt a.pos; holding [v] (truthy v)) := by intro _; rfl) : PT X a (tTru X.K ta) := by
  refine ⟨fun pins s σ H Q I h => ?_⟩
  exact isTrue_plain (thn (ha.run pins s σ H _ I h) fun v s1 ⟨x, H1, I1, r1, q1⟩ => tru_ok pins s1 σ H1 x v Q I1 r1 (truP_e (Q := fun k => Q k H1) q1)) (he _)
/-- a test that is a comparison -/
def tTst (t : TE) : TT := fun σ H Q => t σ H fun x H' => match x with
  | .bl k => Q k H'
  | _ => False
theorem bl_of {x : V} {P : Bool → Prop} (h : match x with | .bl k => P k | _ => False) : ∃ k, x = .bl k ∧ P k := by
  cases x with
  | bl k => exact ⟨k, rfl, h⟩
  | _ => exact h.elim
theorem ptcmp {op : CmpOp} {r : R2} (ho : OpR X (compareOp op) r) (ha : PE X a ta) (hb : PE X b tb) (hm : behindInMarks op b = false := by rfl) : PT X (.Compare a [op] [b] pos) (tTst (tOp r ta tb)) := by
  refine ⟨fun pins s σ H Q I h => ?_⟩
  refine wpAny_isTrue_Compare1 (binT ha hb I h fun v u s2 x y H2 I2 rx ry q => ?_) hm
  refine thn (ho pins s2 σ H2 x y v u _ I2 rx ry q) fun c s3 ⟨z, H3, I3, r3, q3⟩ => ?_
  obtain ⟨k, rfl, q3⟩ := bl_of q3
  cases r3
  exact wpAny_truthy_bool ⟨H3, I3, q3⟩
def tAndP (t u : TT) : TT := fun σ H Q => t σ H fun c H1 => cnd c (u σ H1 Q) (Q false H1)
def tOrP (t u : TT) : TT := fun σ H Q => t σ H fun c H1 => cnd c (Q true H1) (u σ H1 Q)
variable {tA tB' : TT}
theorem pwand (ha : PT X a tA) (hb : PW X (.BoolOp .And (b :: rest) pos) tB') : PW X (.BoolOp .And (a :: b :: rest) pos) (tAndP tA tB') := by
  refine ⟨fun wh pins s σ H Q I h => ?_⟩
  refine isTrue_and (thn (ha.run pins s σ H _ I h) fun c s1 ⟨H1, I1, q1⟩ => ?_)
  have q1 := cnd_e q1
  cases c with
  | true => exact hb.run wh pins s1 σ H1 Q I1 q1
  | false => exact ⟨H1, I1, q1⟩
theorem pwor (ha : PT X a tA) (hb : PW X (.BoolOp .Or (b :: rest) pos) tB') : PW X (.BoolOp .Or (a :: b :: rest) pos) (tOrP tA tB') := by
  refine ⟨fun wh pins s σ H Q I h => ?_⟩
  refine isTrue_or (thn (ha.run pins s σ H _ I h) fun c s1 ⟨H1, I1, q1⟩ => ?_)
  have q1 := cnd_e q1
  cases c with
  | true => exact ⟨H1, I1, q1⟩
  | false => exact hb.run wh pins s1 σ H1 Q I1 q1
/-! ### and, or, not as values -/
def tAndE (K : PySem.W.Frag) (ta tb : TE) : TE := fun σ H Q => ta σ H fun x H1 => truP K x H1 fun k => cnd k (tb σ H1 Q) (Q x H1)
def tOrE (K : PySem.W.Frag) (ta tb : TE) : TE := fun σ H Q => ta σ H fun x H1 => truP K x H1 fun k => cnd k (Q x H1) (tb σ H1 Q)
def tNotE (K : PySem.W.Frag) (ta : TE) : TE := fun σ H Q => ta σ H fun x H1 => truP K x H1 fun k => Q (.bl (!k)) H1
theorem peor (ha : PE X a ta) (hb : PE X (.BoolOp .Or (b :: rest) pos) tb) : PE X (.BoolOp .Or (a :: b :: rest) pos) (tOrE X.K ta tb) := by
  refine ⟨fun pins s σ H Q I h => ?_⟩
  refine BoolOp_or (thn (ha.run pins s σ H _ I h) fun v s1 ⟨x, H1, I1, r1, q1⟩ => ?_)
  obtain ⟨k, e, q1⟩ := truP_e q1
  refine thn (tru_ok pins s1 σ H1 x v (fun c H2 => c = k ∧ H2 = H1) I1 r1 ⟨k, e, rfl, rfl⟩) fun c s2 hc => ?_
  obtain ⟨H2, I2, e1, e2⟩ := hc
  rw [e2] at I2
  rw [← e1] at q1
  have q1 := cnd_e q1
  cases c with
  | true => exact ⟨x, H1, I2, r1, q1⟩
  | false => exact hb.run pins s2 σ H1 Q I2 q1
theorem peand (ha : PE X a ta) (hb : PE X (.BoolOp .And (b :: rest) pos) tb) : PE X (.BoolOp .And (a :: b :: rest) pos) (tAndE X.K ta tb) := by
  refine ⟨fun pins s σ H Q I h => ?_⟩
  refine BoolOp_and (thn (ha.run pins s σ H _ I h) fun v s1 ⟨x, H1, I1, r1, q1⟩ => ?_)
  obtain ⟨k, e, q1⟩ := truP_e q1
  refine thn (tru_ok pins s1 σ H1 x v (fun c H2 => c = k ∧ H2 = H1) I1 r1 ⟨k, e, rfl, rfl⟩) fun c s2 hc => ?_
  obtain ⟨H2, I2, e1, e2⟩ := hc
  rw [e2] at I2
  rw [← e1] at q1
  have q1 := cnd_e q1
  cases c with
  | true => exact hb.run pins s2 σ H1 Q I2 q1
  | false => exact ⟨x, H1, I2, r1, q1⟩
theorem penot (ha : PE X a ta) : PE X (.UnaryOp .Not a pos) (tNotE X.K ta) := by
  refine ⟨fun pins s σ H Q I h => ?_⟩
  refine UnaryOp_ (thn (ha.run pins s σ H _ I h) fun v s1 ⟨x, H1, I1, r1, q1⟩ => ?_)
  obtain ⟨k, e, q1⟩ := truP_e q1
  exact not_of (thn (tru_ok pins s1 σ H1 x v (fun c H2 => Q (.bl (!c)) H2) I1 r1 ⟨k, e, q1⟩) fun c s2 ⟨H2, I2, q2⟩ => ⟨.bl (!c), H2, I2, rfl, q2⟩)
def tIfE (t : TT) (ta tb : TE) : TE := fun σ H Q => t σ H fun c H1 => cnd c (ta σ H1 Q) (tb σ H1 Q)
theorem peif (hc : PT X c tA) (ha : PE X a ta) (hb : PE X b tb) : PE X (.IfExp c a b pos) (tIfE tA ta tb) := by
  refine ⟨fun pins s σ H Q I h => ?_⟩
  refine wpAny_IfExp (thn (hc.run pins s σ H _ I h) fun d s1 ⟨H1, I1, q1⟩ => ?_)
  have q1 := cnd_e q1
  cases d with
  | true => exact ha.run pins s1 σ H1 Q I1 q1
  | false => exact hb.run pins s1 σ H1 Q I1 q1
/-- a op1 b op2 c -/
def tChn (r r' : R2) (ta tb tc : TE) : TE := fun σ H Q => ta σ H fun x H1 => tb σ H1 fun y H2 => r x y H2 fun z H3 => match z with
  | .bl k => cnd k (tc σ H3 fun w' H4 => r' y w' H4 Q) (Q (.bl false) H3)
  | _ => False
theorem pechn {op op' : CmpOp} {r r' : R2} (ho : OpR X (compareOp op) r) (ho' : OpR X (compareOp op') r') (ha : PE X a ta) (hb : PE X b tb) (hc : PE X c tc)
    (hm : lastMarks [op, op'] [b, c] = false := by with_unfolding_all rfl) : PE X (.Compare a [op, op'] [b, c] pos) (tChn r r' ta tb tc) := by
  refine ⟨fun pins s σ H Q I h => ?_⟩
  refine Compare_chain (thn (ha.run pins s σ H _ I h) fun v s1 ⟨x, H1, I1, r1, q1⟩ => chain_link (thn (hb.run pins s1 σ H1 _ I1 q1) fun u s2 ⟨y, H2, I2, r2, q2⟩ =>
    thn (ho pins s2 σ H2 x y v u _ I2 r1 r2 q2) fun d s3 ⟨z, H3, I3, r3, q3⟩ => ?_)) hm
  obtain ⟨k, rfl, q3⟩ := bl_of q3
  have q3 := cnd_e q3
  cases r3
  refine wpAny_truthy_bool ?_
  cases k with
  | false => exact ite_ff ⟨.bl false, H3, I3, rfl, q3⟩
  | true => exact ite_tt (chain_last (thn (hc.run pins s3 σ H3 _ I3 q3) fun w' s4 ⟨z', H4, I4, r4, q4⟩ => ho' pins s4 σ H4 y z' u w' Q I4 r2 r4 q4))
theorem ptchn {op op' : CmpOp} {r r' : R2} (ho : OpR X (compareOp op) r) (ho' : OpR X (compareOp op') r') (ha : PE X a ta) (hb : PE X b tb) (hc : PE X c tc)
    (hm : lastMarks [op, op'] [b, c] = false := by with_unfolding_all rfl) : PT X (.Compare a [op, op'] [b, c] pos) (tTst (tChn r r' ta tb tc)) := by
  refine ⟨fun pins s σ H Q I h => ?_⟩
  refine isTrue_chain (thn (ha.run pins s σ H _ I h) fun v s1 ⟨x, H1, I1, r1, q1⟩ => test_link (thn (hb.run pins s1 σ H1 _ I1 q1) fun u s2 ⟨y, H2, I2, r2, q2⟩ =>
    thn (ho pins s2 σ H2 x y v u _ I2 r1 r2 q2) fun d s3 ⟨z, H3, I3, r3, q3⟩ => ?_)) hm
  obtain ⟨k, rfl, q3⟩ := bl_of q3
  have q3 := cnd_e q3
  cases r3
  refine wpAny_truthy_bool ?_
  cases k with
  | false => exact ite_ff ⟨H3, I3, q3⟩
  | true =>
    refine ite_tt (test_last (thn (hc.run pins s3 σ H3 _ I3 q3) fun w' s4 ⟨z', H4, I4, r4, q4⟩ => thn (ho' pins s4 σ H4 y z' u w' _ I4 r2 r4 q4) fun d' s5 ⟨z2, H5, I5, r5, q5⟩ => ?_))
    obtain ⟨k2, rfl, q5⟩ := bl_of q5
    cases r5
    exact wpAny_truthy_bool ⟨H5, I5, q5⟩
end

/-! ### operators by value -/
section
variable {X : Cx}
def zAdd : R2 := fun x y H Q => match x with
  | .int i => (match y with
    | .int j => Q (.int (i + j)) H
    | _ => False)
  | .str a => (match y with
    | .str b => Lim ((tl a).length + (tl b).length) ∧ Q (.str (S (tl a ++ tl b))) H
    | _ => False)
  | .ref p => (match y with
    | .ref q => look H p fun o => match o with
      | some (.lst xs) => look H q fun o' => (match o' with
        | some (.lst ys) => Lim (xs.length + ys.length) ∧ ∀ r, H r = none → Q (.ref r) (upd H r (.lst (xs ++ ys)))
        | _ => False)
      | _ => False
    | _ => False)
  | _ => False
theorem opadd : OpR X (binaryOp .Add) zAdd := by
  intro pins s σ H x y v u Q I rx ry h
  cases x with
  | int i =>
    cases y with
    | int j => exact op_add pins s σ H _ _ v u Q I rx ry ⟨i, j, rfl, rfl, h⟩
    | _ => exact False.elim h
  | str i =>
    cases y with
    | str j => exact op_add_str pins s σ H _ _ v u Q I rx ry ⟨i, j, rfl, rfl, by rw [len_tl, len_tl]; exact h.1, by rw [add_S]; exact h.2⟩
    | _ => exact False.elim h
  | ref p =>
    cases y with
    | ref q =>
      have h := look_e h
      cases e : H p with
      | none => rw [e] at h; exact h.elim
      | some o =>
        rw [e] at h
        cases o with
        | lst xs =>
          have h := look_e h
          cases e' : H q with
          | none => rw [e'] at h; exact h.elim
          | some o' =>
            rw [e'] at h
            cases o' with
            | lst ys => exact op_cat pins s σ H _ _ v u Q I rx ry ⟨p, q, xs, ys, rfl, rfl, e, e', h.1, h.2⟩
            | _ => exact h.elim
        | _ => exact h.elim
    | _ => exact False.elim h
  | _ => exact False.elim h
def zI2 (C : Int → Int → Prop) (g : Int → Int → V) : R2 := fun x y H Q => match x with
  | .int i => (match y with
    | .int j => C i j ∧ Q (g i j) H
    | _ => False)
  | _ => False
def zI2f (g : Int → Int → V) : R2 := fun x y H Q => match x with
  | .int i => (match y with
    | .int j => Q (g i j) H
    | _ => False)
  | _ => False
theorem zI2_e {C : Int → Int → Prop} {g : Int → Int → V} {x y : V} {H : Hp} {Q : VK} (h : zI2 C g x y H Q) : rI C g x y H Q := by
  cases x with
  | int i => cases y with
    | int j => exact ⟨i, j, rfl, rfl, h.1, h.2⟩
    | _ => exact h.elim
  | _ => exact h.elim
theorem zI2f_e {g : Int → Int → V} {x y : V} {H : Hp} {Q : VK} (h : zI2f g x y H Q) : rI0 g x y H Q := by
  cases x with
  | int i => cases y with
    | int j => exact ⟨i, j, rfl, rfl, h⟩
    | _ => exact h.elim
  | _ => exact h.elim
def zSub : R2 := zI2f fun i j => .int (i - j)
def zMul : R2 := zI2 CMul fun i j => .int (i * j)
def zMod : R2 := zI2 (fun _ j => 0 < j) fun i j => .int (i % j)
def zDiv : R2 := zI2 CDiv fun i j => .int (i / j)
def zPow : R2 := zI2 CPow fun i j => .int (i ^ j.toNat)
theorem opsub : OpR X (binaryOp .Sub) zSub := op_imp op_sub fun _ _ _ _ h => zI2f_e h
theorem opmul : OpR X (binaryOp .Mult) zMul := op_imp op_mul fun _ _ _ _ h => zI2_e h
theorem opmod : OpR X (binaryOp .Mod) zMod := op_imp op_mod fun _ _ _ _ h => zI2_e h
theorem opdiv : OpR X (binaryOp .FloorDiv) zDiv := op_imp op_fdiv fun _ _ _ _ h => zI2_e h
theorem oppow : OpR X (binaryOp .Pow) zPow := op_imp op_pow fun _ _ _ _ h => zI2_e h
def zNeg : V → Hp → VK → Prop := fun x H Q => match x with
  | .int i => Q (.int (-i)) H
  | _ => False
theorem unneg : UnR X (unaryOp .USub) zNeg := fun pins s σ H x v Q I rx h => by
  cases x with
  | int i => exact un_neg pins s σ H _ v Q I rx ⟨i, rfl, h⟩
  | _ => exact h.elim
/-! comparisons -/
def zLt : R2 := fun x y H Q => match x with
  | .int i => (match y with
    | .int j => Q (.bl (decide (i < j))) H
    | _ => False)
  | .str a => (match y with
    | .str b => Q (.bl (decide (tl a < tl b))) H
    | _ => False)
  | _ => False
theorem oplt : OpR X (compareOp .Lt) zLt := by
  intro pins s σ H x y v u Q I rx ry h
  cases x with
  | int i => cases y with
    | int j => exact op_lt pins s σ H _ _ v u Q I rx ry ⟨i, j, rfl, rfl, h⟩
    | _ => exact False.elim h
  | str i => cases y with
    | str j => exact op_lt_str pins s σ H _ _ v u Q I rx ry ⟨i, j, rfl, rfl, h⟩
    | _ => exact False.elim h
  | _ => exact False.elim h
def zLe : R2 := zI2f fun i j => .bl (decide (i ≤ j))
def zGt : R2 := zI2f fun i j => .bl (decide (j < i))
def zGe : R2 := zI2f fun i j => .bl (decide (j ≤ i))
theorem ople : OpR X (compareOp .LtE) zLe := op_imp op_le fun _ _ _ _ h => zI2f_e h
theorem opgt : OpR X (compareOp .Gt) zGt := op_imp op_gt fun _ _ _ _ h => zI2f_e h
theorem opge : OpR X (compareOp .GtE) zGe := op_imp op_ge fun _ _ _ _ h => zI2f_e h
/-- == of data at addresses -/
@[irreducible] def dpq (K : PySem.W.Frag) (x y : V) (H : Hp) (Q : Bool → Prop) : Prop := ∃ d e, Dp K H x d ∧ Dp K H y e ∧ SeqAt.shaped d = true ∧ SeqAt.shaped e = true ∧ Q (PyData.eqv d e)
theorem dpq_i {K : PySem.W.Frag} {x y : V} {H : Hp} {Q : Bool → Prop} {d e : PyData} (h1 : Dp K H x d) (h2 : Dp K H y e) (h3 : SeqAt.shaped d = true) (h4 : SeqAt.shaped e = true) (q : Q (PyData.eqv d e)) : dpq K x y H Q := by unfold dpq; exact ⟨d, e, h1, h2, h3, h4, q⟩
theorem dpq_e {K : PySem.W.Frag} {x y : V} {H : Hp} {Q : Bool → Prop} (h : dpq K x y H Q) : ∃ d e, Dp K H x d ∧ Dp K H y e ∧ SeqAt.shaped d = true ∧ SeqAt.shaped e = true ∧ Q (PyData.eqv d e) := by unfold dpq at h; exact h
/-- what == tells of two values; data at addresses by Dp -/
def eqP (K : PySem.W.Frag) (x y : V) (H : Hp) (Q : Bool → Prop) : Prop := match x with
  | .int i => (match y with
    | .int j => Q (decide (i = j))
    | .non => Q false
    | .str _ => Q false
    | _ => False)
  | .str a => (match y with
    | .str b => Q (decide (tl a = tl b))
    | .non => Q false
    | .int _ => Q false
    | .bl _ => Q false
    | _ => False)
  | .bl a => (match y with
    | .bl b => Q (decide (a = b))
    | .non => Q false
    | .str _ => Q false
    | _ => False)
  | .non => (match y with
    | .non => Q true
    | .int _ => Q false
    | .bl _ => Q false
    | .str _ => Q false
    | _ => False)
  | .ref p => dpq K x y H Q
  | _ => False
theorem eqP_e {K : PySem.W.Frag} {x y : V} {H : Hp} {Q : Bool → Prop} (h : eqP K x y H Q) : (scal x y = true ∧ Q (decide (x = y))) ∨ ∃ d e, Dp K H x d ∧ Dp K H y e ∧ SeqAt.shaped d = true ∧ SeqAt.shaped e = true ∧ Q (PyData.eqv d e) := by
  cases x with
  | int i => cases y with
    | int j => exact .inl ⟨rfl, by simp; exact h⟩
    | non => exact .inl ⟨rfl, by simp; exact h⟩
    | str j => exact .inl ⟨rfl, by simp; exact h⟩
    | _ => exact h.elim
  | str i => cases y with
    | str j =>
      refine .inl ⟨rfl, ?_⟩
      have e : decide (V.str i = V.str j) = decide (tl i = tl j) := decide_eq_decide.mpr ⟨fun z => by injection z with z; rw [z], fun z => by rw [ext_tl z]⟩
      rw [e]; exact h
    | non => exact .inl ⟨rfl, by simp; exact h⟩
    | int j => exact .inl ⟨rfl, by simp; exact h⟩
    | bl j => exact .inl ⟨rfl, by simp; exact h⟩
    | _ => exact h.elim
  | bl i => cases y with
    | bl j => exact .inl ⟨rfl, by simp; exact h⟩
    | non => exact .inl ⟨rfl, by simp; exact h⟩
    | str j => exact .inl ⟨rfl, by simp; exact h⟩
    | _ => exact h.elim
  | non => cases y with
    | non => exact .inl ⟨rfl, by simp; exact h⟩
    | int j => exact .inl ⟨rfl, by simp; exact h⟩
    | bl j => exact .inl ⟨rfl, by simp; exact h⟩
    | str j => exact .inl ⟨rfl, by simp; exact h⟩
    | _ => exact h.elim
  | ref p => exact .inr (dpq_e h)
  | _ => exact h.elim
def zEqP (K : PySem.W.Frag) : R2 := fun x y H Q => eqP K x y H fun k => Q (.bl k) H
def zNeP (K : PySem.W.Frag) : R2 := fun x y H Q => eqP K x y H fun k => Q (.bl (!k)) H
theorem opeq (hu : X.A.units + 64 < cLine) : OpR X (compareOp .Eq) (zEqP X.K) := fun pins s σ H x y v u Q I rx ry h => by
  rcases eqP_e h with h | h
  · exact op_eq pins s σ H x y v u Q I rx ry h
  · exact op_eqD hu pins s σ H x y v u Q I rx ry h
theorem opne (hu : X.A.units + 64 < cLine) : OpR X (compareOp .NotEq) (zNeP X.K) := fun pins s σ H x y v u Q I rx ry h => by
  rcases eqP_e (Q := fun k => Q (.bl (!k)) H) h with h | h
  · exact op_ne pins s σ H x y v u Q I rx ry h
  · exact op_neD hu pins s σ H x y v u Q I rx ry h
/-- x is None -/
def zIsP : R2 := fun x y H Q => match y with
  | .non => Q (.bl (decide (x = .non))) H
  | _ => False
def zIsnP : R2 := fun x y H Q => match y with
  | .non => Q (.bl (!decide (x = .non))) H
  | _ => False
theorem opis : OpR X (compareOp .Is) zIsP := op_imp op_isN fun x y H Q h => by
  cases y with
  | non => exact ⟨rfl, h⟩
  | _ => exact h.elim
theorem opisn : OpR X (compareOp .IsNot) zIsnP := op_imp op_notN fun x y H Q h => by
  cases y with
  | non => exact ⟨rfl, h⟩
  | _ => exact h.elim
end
end Ta

set_option Elab.async false
set_option linter.all false
set_option maxRecDepth 100000
set_option maxHeartbeats 1000000
namespace Ta
open PySem PySem.Spec PyProof.Rows L2

/-! ### items -/
@[irreducible] def itm {α : Type} (xs : List α) (i : Int) (k : α → Prop) : Prop := ∃ v, atI xs i = some v ∧ k v
theorem itm_i {α : Type} {xs : List α} {i : Int} {k : α → Prop} {v : α} (h : atI xs i = some v) (q : k v) : itm xs i k := by unfold itm; exact ⟨v, h, q⟩
theorem itm_e {α : Type} {xs : List α} {i : Int} {k : α → Prop} (q : itm xs i k) : ∃ v, atI xs i = some v ∧ k v := by unfold itm at q; exact q
theorem itm_n {α : Type} {xs : List α} {i : Int} {j : Nat} {k : α → Prop} {v : α} (e : i = (j : Int)) (h : xs[j]? = some v) (q : k v) : itm xs i k := by
  subst e; exact itm_i (atI_nat h) q
section
variable {X : Cx}
def zIxP (K : PySem.W.Frag) : R2 := fun x y H Q => match y with
  | .int i => (match x with
    | .str z => Lim (tl z).length ∧ itm (tl z) i fun c => Q (.str (S [c])) H
    | .ref p => look H p fun o => match o with
      | some (.lst xs) => itm xs i fun v => Q v H
      | some (.tup xs) => itm xs i fun v => Q v H
      | some (.frz _ (.lst xs)) => itm xs i fun v => Q v H
      | _ => ∃ xs, (SqL K H p xs ∨ SqT K H p xs) ∧ itm xs i fun v => Q v H
    | _ => False)
  | _ => False
theorem ixp : IxR X (zIxP X.K) := by
  refine ix_imp ix_seq fun x y H Q h => ?_
  cases y with
  | int i =>
    cases x with
    | str z =>
      obtain ⟨h1, h2⟩ := h
      obtain ⟨c, e, q⟩ := itm_e h2
      exact .inr (.inr ⟨z, i, c, rfl, rfl, by rw [len_tl]; exact h1, e, q⟩)
    | ref p =>
      have h := look_e h
      have fin : ∀ xs, SqL X.K H p xs ∨ SqT X.K H p xs → (itm xs i fun v => Q v H) → rIx X.K (.ref p) (.int i) H Q := fun xs hs h2 => by
        obtain ⟨v, e, q⟩ := itm_e h2
        rcases hs with hs | hs
        · exact .inl ⟨p, xs, i, v, rfl, rfl, hs, e, q⟩
        · exact .inr (.inl ⟨p, xs, i, v, rfl, rfl, hs, e, q⟩)
      revert h
      cases e : H p with
      | none => exact fun ⟨xs, h1, h2⟩ => fin xs h1 h2
      | some o =>
        cases o with
        | lst xs => exact fun h2 => fin xs (.inl (SqL.of e)) h2
        | tup xs => exact fun h2 => fin xs (.inr (SqT.of e)) h2
        | frz ob u =>
          cases u with
          | lst xs => exact fun h2 => fin xs (.inl (.inl (.inr ⟨_, e⟩))) h2
          | _ => exact fun ⟨xs, h1, h2⟩ => fin xs h1 h2
        | _ => exact fun ⟨xs, h1, h2⟩ => fin xs h1 h2
    | _ => exact h.elim
  | _ => exact h.elim
variable {a b c : Expr} {ta tb tc : TE} {pos : Pos}
theorem pix (ha : PE X a ta) (hb : PE X b tb) (hs : PlainIx b := by exact fun _ _ => rfl) : PE X (.Subscript a b pos) (tOp (zIxP X.K) ta tb) := pe_ix ixp ha hb hs

/-! ### slices -/
def cut {α : Type} (xs : List α) (lo hi : Option Int) : List α := (xs.drop (HT.sIx xs.length 0 lo)).take (HT.sIx xs.length xs.length hi - HT.sIx xs.length 0 lo)
theorem cutS_S (z : Str) (lo hi : Option Int) : cutS z lo hi = S (cut (tl z) lo hi) := by
  unfold cutS cut
  simp only [len_tl]
theorem cut_len {α : Type} (xs : List α) (lo hi : Option Int) : (cut xs lo hi).length ≤ xs.length := by
  unfold cut; rw [List.length_take, List.length_drop]; omega
theorem cut_to {α : Type} (xs : List α) (k : Nat) : cut xs none (some (k : Int)) = xs.take k := by
  unfold cut; rw [HT.sIx_none, HT.sIx_nat]
  simp [List.take_eq_take_iff]
theorem cut_from {α : Type} (xs : List α) (k : Nat) : cut xs (some (k : Int)) none = xs.drop k := by
  unfold cut; rw [HT.sIx_none, HT.sIx_nat]
  by_cases h : k ≤ xs.length
  · rw [Nat.min_eq_left h]
    exact List.take_of_length_le (by rw [List.length_drop]; omega)
  · rw [Nat.min_eq_right (by omega), List.drop_eq_nil_of_le (Nat.le_refl _), List.drop_eq_nil_of_le (by omega)]
    simp
theorem cut_both {α : Type} (xs : List α) (i j : Nat) : cut xs (some (i : Int)) (some (j : Int)) = (xs.take j).drop i := by
  unfold cut; rw [HT.sIx_nat, HT.sIx_nat, List.drop_take]
  by_cases h : i ≤ xs.length
  · rw [Nat.min_eq_left h]
    rw [List.take_eq_take_iff, List.length_drop]; omega
  · rw [Nat.min_eq_right (by omega : xs.length ≤ i), List.drop_eq_nil_of_le (Nat.le_refl _), List.drop_eq_nil_of_le (by omega : xs.length ≤ i)]
    simp
theorem cut_toI {α : Type} (xs : List α) {k : Int} (h : 0 ≤ k) : cut xs none (some k) = xs.take k.toNat := by
  obtain ⟨n, rfl⟩ := Int.eq_ofNat_of_zero_le h; exact cut_to xs n
theorem cut_fromI {α : Type} (xs : List α) {k : Int} (h : 0 ≤ k) : cut xs (some k) none = xs.drop k.toNat := by
  obtain ⟨n, rfl⟩ := Int.eq_ofNat_of_zero_le h; exact cut_from xs n
def zSlP (K : PySem.W.Frag) : V → Option Int → Option Int → Hp → VK → Prop := fun x lo hi H Q => match x with
  | .str z => Lim (tl z).length ∧ Q (.str (S (cut (tl z) lo hi))) H
  | .ref p => look H p fun o => match o with
    | some (.lst xs) => ∀ p', H p' = none → Q (.ref p') (upd H p' (.lst (cut xs lo hi)))
    | some (.frz _ (.lst xs)) => ∀ p', H p' = none → Q (.ref p') (upd H p' (.lst (cut xs lo hi)))
    | _ => False
  | _ => False
theorem slp : SlR X (zSlP X.K) := by
  refine sl_imp (sl_str.or sl_list) fun x lo hi H Q h => ?_
  cases x with
  | str z => exact .inl ⟨z, rfl, by rw [len_tl]; exact h.1, by rw [cutS_S]; exact h.2⟩
  | ref p =>
    have h := look_e h
    revert h
    cases e : H p with
    | none => exact fun h => h.elim
    | some o =>
      cases o with
      | lst xs => exact fun h2 => .inr ⟨p, xs, rfl, SqL.of e, h2⟩
      | frz ob u =>
        cases u with
        | lst xs => exact fun h2 => .inr ⟨p, xs, rfl, .inl (.inr ⟨_, e⟩), h2⟩
        | _ => exact fun h => h.elim
      | _ => exact fun h => h.elim
  | _ => exact h.elim
def tPrt (t : TE) : TO := fun σ H Q => t σ H fun x H1 => match x with
  | .int i => Q (some i) H1
  | _ => False
theorem posome (h : PE X a ta) : PO X (some a) (tPrt ta) := by
  refine ⟨fun pins s σ H Q I hw => ?_⟩
  rw [evalPart_some]
  refine thn (h.run pins s σ H _ I hw) fun u s1 ⟨x, H1, I1, r1, q1⟩ => ?_
  cases x with
  | int i =>
    obtain ⟨t, rfl⟩ := r1
    exact ⟨some i, H1, I1, .int i t, q1⟩
  | _ => exact False.elim q1
theorem psl {lo hi : Option Expr} {t1 t2 : TO} {p2 : Pos} (ha : PE X a ta) (hl : PO X lo t1) (hh : PO X hi t2) : PE X (.Subscript a (.Slice lo hi none p2) pos) (tSl (zSlP X.K) ta t1 t2) := pe_slice slp ha hl hh

/-! ### in -/
def occ (a b : List Nat) : Bool := !(Builtin.Str.occurrences (S b) (S a) 0 (S b).length 1).isEmpty
def inP (K : PySem.W.Frag) (x y : V) (H : Hp) (Q : Bool → Prop) : Prop := match y with
  | .str b => (match x with
    | .str a => (match tl a with
      | [c] => Q (decide (c ∈ tl b))
      | l => Q (occ l (tl b)))
    | _ => False)
  | .ref p => look H p fun o => match o with
    | some (.lst xs) => flatV x = true ∧ xs.all flatV = true ∧ Q (inV x xs)
    | some (.tup xs) => flatV x = true ∧ xs.all flatV = true ∧ Q (inV x xs)
    | some (.frz _ (.lst xs)) => flatV x = true ∧ xs.all flatV = true ∧ Q (inV x xs)
    | _ => ∃ xs, (SqL K H p xs ∨ SqT K H p xs) ∧ flatV x = true ∧ xs.all flatV = true ∧ Q (inV x xs)
  | _ => False
theorem inP_e {K : PySem.W.Frag} {x y : V} {H : Hp} {Q : Bool → Prop} (h : inP K x y H Q) :
    (∃ (c : Nat) (z : Str), x = .str ⟨#[c]⟩ ∧ y = .str z ∧ Q (decide (c ∈ z.cps.toList))) ∨ (∃ i j, x = .str i ∧ y = .str j ∧ Q (!(Builtin.Str.occurrences j i 0 j.length 1).isEmpty)) ∨
    ∃ p xs, y = .ref p ∧ (SqL K H p xs ∨ SqT K H p xs) ∧ flatV x = true ∧ xs.all flatV = true ∧ Q (inV x xs) := by
  cases y with
  | str b =>
    cases x with
    | str a =>
      have h' : (match tl a with
        | [c] => Q (decide (c ∈ tl b))
        | l => Q (occ l (tl b))) := h
      split at h'
      · rename_i c e
        exact .inl ⟨c, b, by rw [← S_tl a, e], rfl, h'⟩
      · refine .inr (.inl ⟨a, b, rfl, rfl, ?_⟩)
        unfold occ at h'
        rw [S_tl, S_tl] at h'
        exact h'
    | _ => exact h.elim
  | ref p =>
    have h := look_e h
    revert h
    cases e : H p with
    | none => exact fun ⟨xs, h1, h2⟩ => .inr (.inr ⟨p, xs, rfl, h1, h2⟩)
    | some o =>
      cases o with
      | lst xs => exact fun h2 => .inr (.inr ⟨p, xs, rfl, .inl (SqL.of e), h2⟩)
      | tup xs => exact fun h2 => .inr (.inr ⟨p, xs, rfl, .inr (SqT.of e), h2⟩)
      | frz ob u =>
        cases u with
        | lst xs => exact fun h2 => .inr (.inr ⟨p, xs, rfl, .inl (.inl (.inr ⟨_, e⟩)), h2⟩)
        | _ => exact fun ⟨xs, h1, h2⟩ => .inr (.inr ⟨p, xs, rfl, h1, h2⟩)
      | _ => exact fun ⟨xs, h1, h2⟩ => .inr (.inr ⟨p, xs, rfl, h1, h2⟩)
  | _ => exact h.elim
def zInP (K : PySem.W.Frag) : R2 := fun x y H Q => inP K x y H fun k => Q (.bl k) H
def zNinP (K : PySem.W.Frag) : R2 := fun x y H Q => inP K x y H fun k => Q (.bl (!k)) H
theorem opin : OpR X (compareOp .In) (zInP X.K) := by
  refine op_imp (op_in_sign.or (op_in_str.or op_in_seq)) fun x y H Q h => ?_
  rcases inP_e h with h | h | h
  · exact .inl h
  · exact .inr (.inl h)
  · exact .inr (.inr h)
theorem opnin : OpR X (compareOp .NotIn) (zNinP X.K) := by
  refine op_imp (op_notIn_sign.or (op_notin_str.or op_notIn_seq)) fun x y H Q h => ?_
  rcases inP_e (Q := fun k => Q (.bl (!k)) H) h with h | h | h
  · exact .inl h
  · exact .inr (.inl h)
  · exact .inr (.inr h)

/-! ### statements -/
variable {st : Stmt} {t u : TS} {rest : List Stmt} {tA : TT}
def tIfP (c : TT) (t u : TS) : TS := fun D σ H => c σ H fun b H1 => cnd b (t D σ H1) (u D σ H1)
theorem psif {p q : List Stmt} (hc : PT X c tA) (ha : PSs X p t) (hb : PSs X q u) : PS X (.If c p q pos) (tIfP tA t u) := by
  refine ⟨fun pins s σ H D I h => ?_⟩
  refine wpAny_If (thn (hc.run pins s σ H _ I h) fun d s1 ⟨H1, I1, q1⟩ => ?_)
  have q1 := cnd_e q1
  cases d with
  | true => exact ha.run pins s1 σ H1 D I1 q1
  | false => exact hb.run pins s1 σ H1 D I1 q1
/-- o[i] = e, o a list -/
def zSetP : TSet := fun o i v H Q => match o with
  | .ref p => (match i with
    | .int k => look H p fun ob => (match ob with
      | some (.lst xs) => ∃ j, ixN xs.length k = some j ∧ Q (upd H p (.lst (xs.set j v)))
      | _ => False)
    | _ => False)
  | _ => False
theorem setp : PSet X zSetP := by
  have base : ∀ o i v H Q, zSetP o i v H Q → rSetL o i v H Q := fun o i v H Q h => by
    cases o with
    | ref p => cases i with
      | int k =>
        have h := look_e h
        revert h
        cases e : H p with
        | none => exact fun h => h.elim
        | some ob =>
          cases ob with
          | lst xs => exact fun ⟨j, h1, h2⟩ => ⟨p, xs, k, j, rfl, rfl, e, h1, h2⟩
          | _ => exact fun h => h.elim
      | _ => exact h.elim
    | _ => exact h.elim
  intro pins s σ H o i v ov iv vv Q I r1 r2 r3 h
  exact set_list pins s σ H o i v ov iv vv Q I r1 r2 r3 (base _ _ _ _ _ h)
end
end Ta

set_option Elab.async false
set_option linter.all false
set_option maxRecDepth 100000
set_option maxHeartbeats 1000000
namespace Ta
open PySem PySem.Spec PyProof.Rows L2

/-! ### defs, methods, classes of the text -/
section
variable (P : Program) (w : World) (K : PySem.W.Frag) (mg : Str → Option Value) (base : Heap)
structure Fn (x : Str) (lv : Nat) (dvs : List V) (sp : Sp) : Prop where
  ex : ∃ (f : Addr) (fd : FuncData) (ps : List Str) (ds : List Value), FnOk P w K mg base (L2.CX P w) lv f fd ps sp ∧ mg x = some (.ref f) ∧ PySem.W.keepIn K (.ref f) = true ∧ Vals dvs ds ∧ Binds K fd ps ds
structure Me (C : Addr) (m : Str) (lv : Nat) (dvs : List V) (sp : Sp) : Prop where
  ex : ∃ (f : Addr) (fd : FuncData) (ps : List Str) (ds : List Value), FnOk P w K mg base (L2.CX P w) lv f fd ps sp ∧ Meth K C m f ∧ Vals dvs ds ∧ Binds K fd ps ds
  cl : Cls K C
structure Mks (x : Str) (C : Addr) (lv : Nat) (dvs : List V) (sp : Sp) : Prop where
  ex : ∃ (f : Addr) (fd : FuncData) (ps : List Str) (ds : List Value), FnOk P w K mg base (L2.CX P w) lv f fd ps sp ∧ Mk K C f ∧ mg x = some (.ref C) ∧ Vals dvs ds ∧ Binds K fd ps ds
end
abbrev WF : WX := fun _ _ _ _ => False
/-- f(..) -/
def tCal (sp : Sp) (dvs : List V) (W : WX) (t : TA) : TE := fun σ H Q => t σ H fun vs H1 => sp (vs ++ dvs) H1 Q fun c d H' => W c d σ H'
/-- C(..) -/
def tMak (C : Addr) (sp : Sp) (dvs : List V) (W : WX) (t : TA) : TE := fun σ H Q => t σ H fun vs H1 => ∀ x dx, H1 x = none → H1 dx = none → dx ≠ x →
  sp (.ref x :: (vs ++ dvs)) (upd (upd H1 dx (.own x)) x (.ins C dx [])) (fun v H2 => v = .non ∧ Q (.ref x) H2) fun c d H' => W c d σ H'
abbrev MS := List (Addr × List V × Sp)
@[irreducible] def pick (ms : MS) (C : Addr) (k : List V → Sp → Prop) : Prop := ∃ e ∈ ms, e.1 = C ∧ k e.2.1 e.2.2
theorem pick_1 {C : Addr} {dvs : List V} {sp : Sp} {k : List V → Sp → Prop} {r : MS} (h : k dvs sp) : pick ((C, dvs, sp) :: r) C k := by unfold pick; exact ⟨_, List.mem_cons_self, rfl, h⟩
theorem pick_n {ms : MS} {C : Addr} {k : List V → Sp → Prop} {e} (h : pick ms C k) : pick (e :: ms) C k := by
  unfold pick at h ⊢
  obtain ⟨e', h1, h2⟩ := h
  exact ⟨e', List.mem_cons_of_mem _ h1, h2⟩
/-- o.m(..) -/
def tMe (ms : MS) (m : Str) (W : WX) (ta : TE) (t : TA) : TE := fun σ H Q => ta σ H fun x H1 => match x with
  | .ref a => look H1 a fun o => (match o with
    | some (.ins C dx fs) => pick ms C fun dvs sp => fs.lookup m = none ∧ t σ H1 fun vs H2 => sp (.ref a :: (vs ++ dvs)) H2 Q fun c d H' => W c d σ H'
    | _ => False)
  | _ => False
section
variable {X : Cx} {x m : Str} {p pos apos : Pos} {e o : Expr} {es : List Expr} {ta : TE} {t : TA} {lv : Nat} {dvs : List V} {sp : Sp} {W : WX} {C : Addr}
theorem pcall (F : Fn X.prog X.w X.K X.mg X.base x lv dvs sp) (hr : Room lv X.A) (tk : Takes X W) (ha : PA X (e :: es) t) (hg : Gl X x := by rfl) (hdb : (x == ("__debug__" : Str)) = false := by decide +kernel)
    (he : starEach (e :: es) X.env = (false, eval e X.env) :: starEach es X.env := by rfl) (hpl : (backTo pos (starEach es X.env)).any (·.1) = false := by rfl) :
    PE X (.Call (.Name x p) (e :: es) [] pos) (tCal sp dvs W t) := by
  obtain ⟨f, fd, ps, ds, F, hm, hk, hd, hb⟩ := F.ex
  refine ⟨fun pins s σ H Q I h => ?_⟩
  refine wpAny_Call_Name_kw (ld_glob I hg hm ?_ hdb)
  refine PySem.W.callWith_K (h₀ := X.base) I.ok.mod.kin hk (thn (ha.run pos pins s σ H _ I h) fun us s1 ⟨vs, H1, I1, r, q⟩ => ⟨I1.kIn, ?_⟩) he hpl
  exact run_fnSD (E := WE W) F hr hb hd (passAt tk σ) I1 r q
theorem pcall0 (F : Fn X.prog X.w X.K X.mg X.base x lv dvs sp) (hr : Room lv X.A) (tk : Takes X W) (hg : Gl X x := by rfl) (hdb : (x == ("__debug__" : Str)) = false := by decide +kernel) :
    PE X (.Call (.Name x p) [] [] pos) (tCal sp dvs W tNil) := by
  obtain ⟨f, fd, ps, ds, F, hm, hk, hd, hb⟩ := F.ex
  refine ⟨fun pins s σ H Q I h => ?_⟩
  refine wpAny_Call_Name_kw (ld_glob I hg hm ?_ hdb)
  exact PySem.W.callWith_K0 I.kIn hk (run_fnSD (E := WE W) (us := []) F hr hb hd (passAt tk σ) I .nil h)
theorem run_makeS {pins : List (Addr × Obj)} {σ : St} {H : Hp} {s : Shared} {Q : VK} {us ds : List Value} {vs : List V} {f : Addr} {fd : FuncData} {ps : List Str} (M : Mk X.K C f) (F : FnOk X.prog X.w X.K X.mg X.base (L2.CX X.prog X.w) lv f fd ps sp) (hr : Room (lv + 1) X.A)
    (hb : Binds X.K fd ps ds) (hd : Vals dvs ds) (tk : Takes X W) (I : Inv X pins σ H s) (r : Vals vs us)
    (h : ∀ x dx, H x = none → H dx = none → dx ≠ x → sp (.ref x :: (vs ++ dvs)) (upd (upd H dx (.own x)) x (.ins C dx [])) (fun v H2 => v = .non ∧ Q (.ref x) H2) fun c d H' => W c d σ H') :
    wpAny (model X.prog X.w) X.A (call (.ref C) us) (EP X pins σ Q) X.xe s := by
  have hq := h (s.heap.objs.size + 1) s.heap.objs.size (I.hok.fresh (Nat.le_succ _)) (I.hok.fresh (Nat.le_refl _)) (Nat.ne_of_lt (Nat.lt_succ_self _))
  have I2 := Inv.made (C := C) I
  have r2 : Vals (V.ref (s.heap.objs.size + 1) :: (vs ++ dvs)) (Value.ref (s.heap.objs.size + 1) :: (us ++ ds)) := .cons rfl (r.append hd)
  have hl : (Value.ref (s.heap.objs.size + 1) :: us ++ ds).length = ps.length := by
    have e := r2.length
    rw [F.len _ _ _ _ hq] at e
    exact e.symm
  refine wpAny_call (make_map (f := f) I.kIn M.makes M.init (beq_iff_eq.mp M.fn) (codeAny_mono (F.run _ X.stack _ _ ⟨Value.ref (s.heap.objs.size + 1) :: us, []⟩ (Value.ref (s.heap.objs.size + 1) :: (us ++ ds)) _ _ (WE W σ) (hr.make C us [])
    (I2.env0.make C us []) (hb _ (Value.ref (s.heap.objs.size + 1) :: us) I2.kIn hl) r2 hq) fun r s' hq' => ?_))
  cases r with
  | error e => exact passAt tk σ pins _ _ e s' I2 hq'
  | ok fl =>
    cases fl with
    | ret u =>
      obtain ⟨v, H', I3, rv, ev, q3⟩ := I2.after hq'
      subst ev
      exact ⟨rv, ⟨V.ref (s.heap.objs.size + 1), H', I3, rfl, q3⟩⟩
    | next => exact False.elim hq'
    | brk => exact False.elim hq'
    | cont => exact False.elim hq'
theorem pmak (F : Mks X.prog X.w X.K X.mg X.base x C lv dvs sp) (hr : Room (lv + 1) X.A) (tk : Takes X W) (ha : PA X (e :: es) t) (hg : Gl X x := by rfl) (hdb : (x == ("__debug__" : Str)) = false := by decide +kernel)
    (he : starEach (e :: es) X.env = (false, eval e X.env) :: starEach es X.env := by rfl) (hpl : (backTo pos (starEach es X.env)).any (·.1) = false := by rfl) :
    PE X (.Call (.Name x p) (e :: es) [] pos) (tMak C sp dvs W t) := by
  obtain ⟨f, fd, ps, ds, F, M, hm, hd, hb⟩ := F.ex
  refine ⟨fun pins s σ H Q I h => ?_⟩
  refine wpAny_Call_Name_kw (ld_glob I hg hm ?_ hdb)
  refine PySem.W.callWith_K (h₀ := X.base) I.ok.mod.kin M.kp (thn (ha.run pos pins s σ H _ I h) fun us s1 ⟨vs, H1, I1, r, q⟩ => ⟨I1.kIn, ?_⟩) he hpl
  exact run_makeS M F hr hb hd tk I1 r q
theorem tMe_e {ms : MS} {a : Addr} {H : Hp} {k : List V → Sp → List (Str × V) → Prop} (h : look H a fun o => (match o with
    | some (.ins C dx fs) => pick ms C fun dvs sp => k dvs sp fs
    | _ => False)) : ∃ C dx fs, H a = some (.ins C dx fs) ∧ ∃ e ∈ ms, e.1 = C ∧ k e.2.1 e.2.2 fs := by
  have h := look_e h
  revert h
  cases e : H a with
  | none => exact fun h => h.elim
  | some o =>
    cases o with
    | ins C dx fs => exact fun h => ⟨C, dx, fs, rfl, by unfold pick at h; exact h⟩
    | _ => exact fun h => h.elim
theorem pmeth {ms : MS} {pl : Sem Bool} (hms : ∀ e ∈ ms, Me X.prog X.w X.K X.mg X.base e.1 m lv e.2.1 e.2.2) (hr : Room lv X.A) (tk : Takes X W) (ho : PE X o ta) (ha : PA X (e :: es) t)
    (hst : starEach (e :: es) X.env = (false, eval e X.env) :: starEach es X.env := by rfl) (hpl : (backTo pos (starEach es X.env)).any (·.1) = false := by rfl)
    (ht : eval (.Call (.Attribute o m apos) (e :: es) [] pos) X.env = (do
      let ov ← eval o X.env
      standAt apos.atName
      let (f, first) ← holding [ov] (getMethod ov m pl)
      callWith pos f first (backTo pos (starEach (e :: es) X.env)) (backToKw pos (keywordEach [] X.env))) := by rfl) :
    PE X (.Call (.Attribute o m apos) (e :: es) [] pos) (tMe ms m W ta t) := by
  refine ⟨fun pins s σ H Q I h => ?_⟩
  refine PySem.W.methodCall_KW (pl := pl) (thn (ho.run pins s σ H _ I h) fun u s1 ⟨x, H1, I1, rx, q⟩ => ?_) ht
  cases x with
  | ref a =>
    obtain rfl : u = Value.ref a := rx
    obtain ⟨C, dx, fs, ea, en, hen, eC, l, q⟩ := tMe_e (k := fun dvs sp fs => fs.lookup m = none ∧ t σ H1 fun vs H2 => sp (.ref a :: (vs ++ dvs)) H2 Q fun c d H' => W c d σ H') q
    obtain ⟨⟨f, fd, ps, ds, F, hm, hd, hb⟩, cl⟩ := hms en hen
    rw [← eC] at ea
    refine getmeth_ok I1 ea cl hm l ?_
    refine PySem.W.callWith_K (first := [.ref a]) (h₀ := X.base) I.ok.mod.kin hm.kp (thn (ha.run pos pins s1 σ H1 _ I1 q) fun us s2 ⟨vs, H2, I2, r, q2⟩ => ⟨I2.kIn, ?_⟩) hst hpl
    exact run_fnSD (E := WE W) (us := .ref a :: us) (vs := .ref a :: vs) F hr hb hd (passAt tk σ) I2 (.cons rfl r) q2
  | _ => exact False.elim q
theorem pmeth0 {ms : MS} {pl : Sem Bool} (hms : ∀ e ∈ ms, Me X.prog X.w X.K X.mg X.base e.1 m lv e.2.1 e.2.2) (hr : Room lv X.A) (tk : Takes X W) (ho : PE X o ta)
    (ht : eval (.Call (.Attribute o m apos) [] [] pos) X.env = (do
      let ov ← eval o X.env
      standAt apos.atName
      let (f, first) ← holding [ov] (getMethod ov m pl)
      callWith pos f first (backTo pos (starEach [] X.env)) (backToKw pos (keywordEach [] X.env))) := by rfl) :
    PE X (.Call (.Attribute o m apos) [] [] pos) (tMe ms m W ta tNil) := by
  refine ⟨fun pins s σ H Q I h => ?_⟩
  refine PySem.W.methodCall_KW (pl := pl) (thn (ho.run pins s σ H _ I h) fun u s1 ⟨x, H1, I1, rx, q⟩ => ?_) ht
  cases x with
  | ref a =>
    obtain rfl : u = Value.ref a := rx
    obtain ⟨C, dx, fs, ea, en, hen, eC, l, q⟩ := tMe_e (k := fun dvs sp fs => fs.lookup m = none ∧ tNil σ H1 fun vs H2 => sp (.ref a :: (vs ++ dvs)) H2 Q fun c d H' => W c d σ H') q
    obtain ⟨⟨f, fd, ps, ds, F, hm, hd, hb⟩, cl⟩ := hms en hen
    rw [← eC] at ea
    refine getmeth_ok I1 ea cl hm l ?_
    exact PySem.W.callWith_K0 (first := [.ref a]) I1.kIn hm.kp (run_fnSD (E := WE W) (us := [.ref a]) (vs := [.ref a]) F hr hb hd (passAt tk σ) I1 (.cons rfl .nil) q)
  | _ => exact False.elim q

/-! ### attributes -/
@[irreducible] def fld (fs : List (Str × V)) (f : Str) (k : V → Prop) : Prop := ∃ v, fs.lookup f = some v ∧ k v
theorem fld_i {fs : List (Str × V)} {f : Str} {k : V → Prop} {v : V} (h : fs.lookup f = some v) (q : k v) : fld fs f k := by unfold fld; exact ⟨v, h, q⟩
theorem fld_e {fs : List (Str × V)} {f : Str} {k : V → Prop} (q : fld fs f k) : ∃ v, fs.lookup f = some v ∧ k v := by unfold fld at q; exact q
/-- e.f, a field of an instance -/
def tAt (K : PySem.W.Frag) (ta : TE) (f : Str) : TE := fun σ H Q => ta σ H fun x H1 => match x with
  | .ref a => look H1 a fun o => (match o with
    | some (.ins C dx fs) => Cls K C ∧ NoAttr K C f ∧ fld fs f fun v => Q v H1
    | _ => False)
  | _ => False
theorem patt {f : Str} (he : PE X e ta) (hb : attributeBase e f X.env (eval e X.env) = eval e X.env := by rfl) : PE X (.Attribute e f pos) (tAt X.K ta f) := by
  refine ⟨fun pins s σ H Q I h => ?_⟩
  refine attr_of hb (thn (he.run pins s σ H _ I h) fun u s1 ⟨x, H1, I1, rx, q⟩ => ?_)
  cases x with
  | ref a =>
    obtain rfl : u = Value.ref a := rx
    have q := look_e q
    cases ea : H1 a with
    | none => rw [ea] at q; exact q.elim
    | some o =>
      rw [ea] at q
      cases o with
      | ins C dx fs =>
        obtain ⟨c, n, q⟩ := q
        obtain ⟨v, l, q⟩ := fld_e q
        exact getattr_ok I1 ea c n l fun u' s2 I2 r2 => ⟨v, H1, I2, r2, q⟩
      | _ => exact q.elim
  | _ => exact False.elim q
/-- e.f, a constant of the instance's class -/
def tAtC (K : PySem.W.Frag) (ta : TE) (f : Str) (v0 : V) : TE := fun σ H Q => ta σ H fun x H1 => match x with
  | .ref a => look H1 a fun o => (match o with
    | some (.ins C dx fs) => Cls K C ∧ (∃ u, Con K C f v0 u) ∧ fs.lookup f = none ∧ Q v0 H1
    | _ => False)
  | _ => False
theorem pattC {f : Str} (v0 : V) (he : PE X e ta) (hb : attributeBase e f X.env (eval e X.env) = eval e X.env := by rfl) : PE X (.Attribute e f pos) (tAtC X.K ta f v0) := by
  refine ⟨fun pins s σ H Q I h => ?_⟩
  refine attr_of hb (thn (he.run pins s σ H _ I h) fun u s1 ⟨x, H1, I1, rx, q⟩ => ?_)
  cases x with
  | ref a =>
    obtain rfl : u = Value.ref a := rx
    have q := look_e q
    cases ea : H1 a with
    | none => rw [ea] at q; exact q.elim
    | some o =>
      rw [ea] at q
      cases o with
      | ins C dx fs =>
        obtain ⟨c, ⟨u, n⟩, l, q⟩ := q
        exact getcon_ok I1 ea c n l fun s2 I2 => ⟨v0, H1, I2, n.rel, q⟩
      | _ => exact q.elim
  | _ => exact False.elim q
/-- C.f, C a class of the text by its name -/
structure ClsConst (K : PySem.W.Frag) (mg : Str → Option Value) (x f : Str) (v : V) : Prop where
  ex : ∃ C mc u, mg x = some (.ref C) ∧ ClX.CRead K C mc ∧ ClX.CVal K C mc f v u
theorem pclv {f : Str} {v0 : V} (h : ClsConst X.K X.mg x f v0) (hg : Gl X x := by rfl) (hdb : (x == ("__debug__" : Str)) = false := by decide +kernel)
    (hb : attributeBase (.Name x p) f X.env (eval (.Name x p) X.env) = eval (.Name x p) X.env := by rfl) : PE X (.Attribute (.Name x p) f pos) (tC v0) := by
  obtain ⟨C, mc, u, hm, r, c⟩ := h.ex
  exact pe_imp (ClX.pe_cval (pe_glob (v := .ref C) hg hm rfl hdb) hb) fun _ _ _ h => ⟨C, mc, v0, u, rfl, r, c, h⟩
/-- a module's constant -/
structure GlobV (mg : Str → Option Value) (x : Str) (v : V) : Prop where
  ex : ∃ u, mg x = some u ∧ RelV v u
theorem pglo {v0 : V} (h : GlobV X.mg x v0) (hg : Gl X x := by rfl) (hdb : (x == ("__debug__" : Str)) = false := by decide +kernel) : PE X (.Name x p) (tC v0) := by
  obtain ⟨u, hm, r⟩ := h.ex
  exact pe_glob hg hm r hdb
/-- a built-in type by its name -/
theorem pbty {T : String} (hm : X.mg x = none) (hv : bootBuiltins x = some (.type T) := by decide +kernel) (hg : Gl X x := by rfl) (hn : x ≠ "__name__" := by decide +kernel) (hd : (x == ("__debug__" : Str)) = false := by decide +kernel) : PE X (.Name x p) (tC (.ty T)) :=
  pe_bltn (v := .ty T) hg hm hv rfl hn hd
/-- o.f = e -/
def sAt (K : PySem.W.Frag) (ta tv : TE) (f : Str) : TS := fun D σ H => tv σ H fun y H1 => ta σ H1 fun x H2 => match x with
  | .ref a => look H2 a fun ob => (match ob with
    | some (.ins C dx fs) => Cls K C ∧ NoAttr K C f ∧ fs.length < 1000 ∧ D.nx σ (upd H2 a (.ins C dx (putF f y fs)))
    | _ => False)
  | _ => False
theorem sAt_e {K : PySem.W.Frag} {x : V} {f : Str} {y : V} {H : Hp} {k : Hp → Prop} (h : match x with
  | .ref a => look H a fun ob => (match ob with
    | some (.ins C dx fs) => Cls K C ∧ NoAttr K C f ∧ fs.length < 1000 ∧ k (upd H a (.ins C dx (putF f y fs)))
    | _ => False)
  | _ => False) : ∃ a C dx fs, x = .ref a ∧ H a = some (.ins C dx fs) ∧ Cls K C ∧ NoAttr K C f ∧ fs.length < 1000 ∧ k (upd H a (.ins C dx (putF f y fs))) := by
  cases x with
  | ref a =>
    have h := look_e h
    cases ea : H a with
    | none => rw [ea] at h; exact h.elim
    | some o =>
      rw [ea] at h
      cases o with
      | ins C dx fs => exact ⟨a, C, dx, fs, rfl, ea, h⟩
      | _ => exact h.elim
  | _ => exact h.elim
theorem psat {f : Str} {value : Expr} {tv : TE} {pos' : Pos} (ha : PE X o ta) (hv : PE X value tv) (hs : swapsWith value (some (.Attribute o f pos')) pos.line X.env = pure false := by rfl) : PS X (.Assign [.Attribute o f pos'] value pos) (sAt X.K ta tv f) := by
  refine ⟨fun pins s σ H D I h => ?_⟩
  refine plainObj_wpAny_Assign_Attribute (thn (hv.run pins s σ H _ I h) fun v s1 ⟨y, H1, I1, r1, q1⟩ => thn (ha.run pins s1 σ H1 _ I1 q1) fun u s2 ⟨x, H2, I2, r2, q⟩ => ?_) hs
  obtain ⟨a, C, dx, fs, rfl, ea, c, n, hl, q⟩ := sAt_e q
  obtain rfl : u = Value.ref a := r2
  exact setattr_ok I2 ea c n hl r1 fun s' I' => ⟨σ, _, I', q⟩
end

/-! ### built-in calls -/
section
variable {X : Cx}
def lenP (K : PySem.W.Frag) (x : V) (H : Hp) (Q : Nat → Prop) : Prop := match x with
  | .str z => Lim (tl z).length ∧ Q (tl z).length
  | .ref p => look H p fun o => (match o with
    | some (.lst xs) => Q xs.length
    | some (.tup xs) => Q xs.length
    | some (.frz _ (.lst xs)) => Q xs.length
    | _ => ∃ xs, (SqL K H p xs ∨ SqT K H p xs) ∧ Q xs.length)
  | _ => False
def one (xs : List V) (k : V → Prop) : Prop := match xs with
  | [x] => k x
  | _ => False
def two (xs : List V) (k : V → V → Prop) : Prop := match xs with
  | [x, y] => k x y
  | _ => False
theorem one_e {xs : List V} {k : V → Prop} (h : one xs k) : ∃ x, xs = [x] ∧ k x := by
  match xs, h with
  | [x], h => exact ⟨x, rfl, h⟩
theorem two_e {xs : List V} {k : V → V → Prop} (h : two xs k) : ∃ x y, xs = [x, y] ∧ k x y := by
  match xs, h with
  | [x, y], h => exact ⟨x, y, rfl, h⟩
def zLen (K : PySem.W.Frag) : List V → Hp → VK → Prop := fun xs H Q => one xs fun x => lenP K x H fun n => Q (.int n) H
theorem crlen : CallR X (.builtin "len") (zLen X.K) := by
  refine cr_imp (call_len_seq.or call_len_str) fun xs H Q h => ?_
  obtain ⟨x, rfl, h⟩ := one_e h
  cases x with
  | str z => exact .inr ⟨z, rfl, by rw [len_tl]; exact h.1, by rw [len_tl]; exact h.2⟩
  | ref p =>
    have h := look_e h
    revert h
    cases e : H p with
    | none => exact fun ⟨xs, h1, h2⟩ => .inl ⟨p, xs, rfl, h1, h2⟩
    | some o =>
      cases o with
      | lst xs => exact fun h2 => .inl ⟨p, xs, rfl, .inl (SqL.of e), h2⟩
      | tup xs => exact fun h2 => .inl ⟨p, xs, rfl, .inr (SqT.of e), h2⟩
      | frz ob u =>
        cases u with
        | lst xs => exact fun h2 => .inl ⟨p, xs, rfl, .inl (.inl (.inr ⟨_, e⟩)), h2⟩
        | _ => exact fun ⟨xs, h1, h2⟩ => .inl ⟨p, xs, rfl, h1, h2⟩
      | _ => exact fun ⟨xs, h1, h2⟩ => .inl ⟨p, xs, rfl, h1, h2⟩
  | _ => exact h.elim
def zAbs : List V → Hp → VK → Prop := fun xs H Q => one xs fun x => match x with
  | .int i => Q (.int (if i < 0 then -i else i)) H
  | _ => False
theorem crabs : CallR X (.builtin "abs") zAbs := cr_imp call_abs fun xs H Q h => by
  obtain ⟨x, rfl, h⟩ := one_e h
  cases x with
  | int i => exact ⟨i, rfl, h⟩
  | _ => exact h.elim
def zInt : List V → Hp → VK → Prop := fun xs H Q => one xs fun x => match x with
  | .int i => Q (.int i) H
  | .bl b => Q (.int (if b then 1 else 0)) H
  | _ => False
theorem crint : CallR X (.type "int") zInt := cr_imp call_int1 fun xs H Q h => by
  obtain ⟨x, rfl, h⟩ := one_e h
  cases x with
  | int i => exact .inl ⟨i, rfl, h⟩
  | bl i => exact .inr ⟨i, rfl, h⟩
  | _ => exact h.elim
def zMax2 : List V → Hp → VK → Prop := fun xs H Q => two xs fun x y => match x with
  | .int i => (match y with
    | .int j => Q (.int (max i j)) H
    | _ => False)
  | _ => False
def zMin2 : List V → Hp → VK → Prop := fun xs H Q => two xs fun x y => match x with
  | .int i => (match y with
    | .int j => Q (.int (min i j)) H
    | _ => False)
  | _ => False
theorem crmax (hc : X.calm = true) : CallR X (.builtin "max") zMax2 := cr_imp (call_max2 hc) fun xs H Q h => by
  obtain ⟨x, y, rfl, h⟩ := two_e h
  cases x with
  | int i => cases y with
    | int j =>
      refine ⟨i, j, rfl, ?_⟩
      have e : (if j > i then j else i) = max i j := by omega
      rw [e]; exact h
    | _ => exact h.elim
  | _ => exact h.elim
theorem crmin (hc : X.calm = true) : CallR X (.builtin "min") zMin2 := cr_imp (call_min2 hc) fun xs H Q h => by
  obtain ⟨x, y, rfl, h⟩ := two_e h
  cases x with
  | int i => cases y with
    | int j =>
      refine ⟨i, j, rfl, ?_⟩
      have e : (if j < i then j else i) = min i j := by omega
      rw [e]; exact h
    | _ => exact h.elim
  | _ => exact h.elim
/-! isinstance -/
def isP (K : PySem.W.Frag) (x : V) (c : Value) (H : Hp) (Q : Bool → Prop) : Prop := match x with
  | .str _ => ∃ b, PySem.W.kitOne K (.type "str") c = some b ∧ Q b
  | .int _ => ∃ b, PySem.W.kitOne K (.type "int") c = some b ∧ Q b
  | .bl _ => ∃ b, PySem.W.kitOne K (.type "bool") c = some b ∧ Q b
  | .non => ∃ b, PySem.W.kitOne K (.type "NoneType") c = some b ∧ Q b
  | .ref p => ∃ t b, TyX K H (.ref p) t ∧ PySem.W.kitOne K t c = some b ∧ Q b
  | _ => False
theorem isP_e {K : PySem.W.Frag} {x : V} {c : Value} {H : Hp} {Q : Bool → Prop} (h : isP K x c H Q) : ∃ t b, TyX K H x t ∧ PySem.W.kitOne K t c = some b ∧ Q b := by
  cases x with
  | str z => obtain ⟨b, h⟩ := h; exact ⟨_, b, .base (.str z), h⟩
  | int z => obtain ⟨b, h⟩ := h; exact ⟨_, b, .base (.int z), h⟩
  | bl z => obtain ⟨b, h⟩ := h; exact ⟨_, b, .base (.bl z), h⟩
  | non => obtain ⟨b, h⟩ := h; exact ⟨_, b, .base .non, h⟩
  | ref p => exact h
  | _ => exact h.elim
def zIs (K : PySem.W.Frag) : List V → Hp → VK → Prop := fun xs H Q => two xs fun x c => match c with
  | .ty n => isP K x (.type n) H fun b => Q (.bl b) H
  | .ref C => isP K x (.ref C) H fun b => Q (.bl b) H
  | _ => False
theorem cris : CallR X (.builtin "isinstance") (zIs X.K) := cr_imp call_isi fun xs H Q h => by
  obtain ⟨x, c, rfl, h⟩ := two_e h
  cases c with
  | ty n => obtain ⟨t, b, h1, h2, h3⟩ := isP_e h; exact ⟨x, _, t, _, b, rfl, .ty n, h1, h2, h3⟩
  | ref C => obtain ⟨t, b, h1, h2, h3⟩ := isP_e h; exact ⟨x, _, t, _, b, rfl, .own C, h1, h2, h3⟩
  | _ => exact h.elim
variable {x : Str} {p pos : Pos} {e : Expr} {es : List Expr} {t : TA} {id T : String} {r : List V → Hp → VK → Prop}
theorem pcb (hc : CallR X (.builtin id) r) (hm : X.mg x = none) (ha : PA X (e :: es) t) (hv : bootBuiltins x = some (.builtin id) := by decide +kernel) (hg : Gl X x := by rfl) (hn : x ≠ "__name__" := by decide +kernel) (hdb : (x == ("__debug__" : Str)) = false := by decide +kernel)
    (he : starEach (e :: es) X.env = (false, eval e X.env) :: starEach es X.env := by rfl) (hpl : (backTo pos (starEach es X.env)).any (·.1) = false := by rfl) : PE X (.Call (.Name x p) (e :: es) [] pos) (tCB r t) := pe_callB hc hg hm hv ha hn hdb he hpl
theorem pct (hc : CallR X (.type T) r) (hm : X.mg x = none) (ha : PA X (e :: es) t) (hv : bootBuiltins x = some (.type T) := by decide +kernel) (hg : Gl X x := by rfl) (hn : x ≠ "__name__" := by decide +kernel) (hdb : (x == ("__debug__" : Str)) = false := by decide +kernel)
    (he : starEach (e :: es) X.env = (false, eval e X.env) :: starEach es X.env := by rfl) (hpl : (backTo pos (starEach es X.env)).any (·.1) = false := by rfl) : PE X (.Call (.Name x p) (e :: es) [] pos) (tCB r t) := pe_callTy hc hg hm hv ha hn hdb he hpl
/-! methods of texts and lists -/
@[irreducible] def joi (vs : List V) (a : List Nat) (k : List Nat → Prop) : Prop := ∃ ys : List (List Nat), vs = ys.map (fun l => V.str (S l)) ∧ (ys.map List.length).sum + ys.length * a.length ≤ 16777216 ∧ k (TL.joinL a ys)
theorem joi_e {vs : List V} {a : List Nat} {k : List Nat → Prop} (h : joi vs a k) : ∃ ys : List (List Nat), vs = ys.map (fun l => V.str (S l)) ∧ (ys.map List.length).sum + ys.length * a.length ≤ 16777216 ∧ k (TL.joinL a ys) := by unfold joi at h; exact h
def zJoin (K : PySem.W.Frag) : V → List V → Hp → VK → Prop := fun x xs H Q => match x with
  | .str a => one xs fun y => (match y with
    | .ref p => look H p fun o => (match o with
      | some (.lst vs) => joi vs (tl a) fun t => Q (.str (S t)) H
      | some (.tup vs) => joi vs (tl a) fun t => Q (.str (S t)) H
      | _ => False)
    | _ => False)
  | _ => False
theorem mtjoin : MtR X "str.join" (zJoin X.K) := by
  refine mt_imp mt_join fun x xs H Q h => ?_
  cases x with
  | str a =>
    obtain ⟨y, rfl, h⟩ := one_e h
    cases y with
    | ref p =>
      have fin : ∀ vs, SqL X.K H p vs ∨ SqT X.K H p vs → (∃ ys : List (List Nat), vs = ys.map (fun l => V.str (S l)) ∧ (ys.map List.length).sum + ys.length * (tl a).length ≤ 16777216 ∧ Q (.str (S (TL.joinL (tl a) ys))) H) →
          ∃ a' p', ∃ ys : List Str, V.str a = .str a' ∧ [V.ref p] = [.ref p'] ∧ (SqL X.K H p' (ys.map V.str) ∨ SqT X.K H p' (ys.map V.str)) ∧ (ys.map (·.length)).sum + ys.length * a'.length ≤ 16777216 ∧ Q (.str (Txt.join a' ys)) H := by
        rintro vs hs ⟨ys, rfl, h1, h2⟩
        refine ⟨a, p, ys.map S, rfl, rfl, ?_, ?_, ?_⟩
        · rw [List.map_map]; exact hs
        · rw [List.map_map, List.length_map, len_tl]
          have e : ((fun z : Str => z.length) ∘ S) = List.length := funext fun l => by show (S l).length = l.length; rw [len_tl]
          rw [e]; exact h1
        · rw [TL.join_eq]
          have e : Str.join a (ys.map S) = S (TL.joinL (tl a) ys) := ext_tl ((TL.tl_join a (ys.map S)).trans (by
            rw [List.map_map]
            have e2 : (TL.tl ∘ S) = id := funext fun l => rfl
            rw [e2, List.map_id]))
          rw [e]; exact h2
      have h := look_e h
      revert h
      cases e : H p with
      | none => exact fun h => h.elim
      | some o =>
        cases o with
        | lst vs => exact fun h => fin vs (.inl (SqL.of e)) (joi_e h)
        | tup vs => exact fun h => fin vs (.inr (SqT.of e)) (joi_e h)
        | _ => exact fun h => h.elim
    | _ => exact h.elim
  | _ => exact h.elim
variable {o : Expr} {to : TE} {name : Str} {apos cpos : Pos}
/-- text.m(..) -/
def tSM (r : V → List V → Hp → VK → Prop) (to : TE) (t : TA) : TE := fun σ H Q => to σ H fun x H1 => match x with
  | .str z => t σ H1 fun xs H2 => r (.str z) xs H2 Q
  | _ => False
theorem psm {mid : String} {r : V → List V → Hp → VK → Prop} (slot : Slot "str" name mid) (hty : typeOf (.builtin mid) = pure (.type "method_descriptor")) (hm : MtR X mid r) (ho : PE X o to) (ha : PA X (e :: es) t)
    (hbase : attributeBase o name X.env (eval o X.env) = eval o X.env := by rfl)
    (hfew : ((backTo cpos (starEach (e :: es) X.env)).all (fun x => !x.1) && (backToKw cpos (keywordEach [] X.env)).all (fun x => x.1.isSome)
      && decide ((e :: es).length + ([] : List Keyword).length + (if ([] : List Keyword).isEmpty then 0 else 1) < 30)) = true := by rfl)
    (hline : (apos.endLine == cpos.line) = true := by rfl) (hs : starEach (e :: es) X.env = (false, eval e X.env) :: starEach es X.env := by rfl) (hplain : (backTo cpos (starEach es X.env)).any (·.1) = false := by rfl) :
    PE X (.Call (.Attribute o name apos) (e :: es) [] cpos) (tSM r to t) := by
  refine ⟨fun pins s σ H Q I h => ?_⟩
  refine wpAny_Call_method_late hbase hfew hline rfl (thn (ho.run pins s σ H _ I h) fun v s1 ⟨x, H1, I1, r1, q1⟩ => ?_)
  cases x with
  | str z =>
    obtain ⟨h1, h2⟩ := tyV_is (T := "str") (x := .str z) I1 r1 rfl
    refine ⟨"str", mid, F.plainAttrs_str, slot, hty, h1, h2, ?_⟩
    have hA := ha.run cpos pins s1 σ H1 _ I1 q1
    rw [hs] at hA ⊢
    refine Calls.callWith_builtin (by show (false || (backTo cpos (starEach es X.env)).any (·.1)) = false; rw [hplain] <;> rfl) (Calls.evalArgs_plain ?_)
    exact thn hA fun us s2 ⟨vs, H2, I2, r2, q2⟩ => hm pins s2 σ H2 _ vs v us Q I2 r1 r2 q2
  | _ => exact False.elim q1
end
end Ta

set_option Elab.async false
set_option linter.all false
set_option maxRecDepth 100000
set_option maxHeartbeats 1000000
namespace Ta
open PySem PySem.Spec PyProof.Rows L2

/-! ### what is walked: n turns, turn i yields x (heap H to H'), while st holds -/
abbrev Itm := Nat → Hp → V → Hp → Prop
structure Adm (J : It) (n : Nat) (it : Itm) (st : Hp → Prop) : Prop where
  go : ∀ i H, i < n → st H → J.go i H
  yl : ∀ i H x H', i < n → st H → J.yld i H x H' → it i H x H'
  sp : ∀ H, st H → J.stop n H
abbrev TJ := St → Hp → (Nat → Itm → (Hp → Prop) → Hp → Prop) → Prop
def toI (wi : TJ) : TI := fun σ H R => wi σ H fun n it st H1 => ∀ J, Adm J n it st → R J H1
abbrev PJ (X : Cx) (tg iter : Expr) (wi : TJ) : Prop := PI X tg iter (toI wi)
def itL (xs : List V) : Itm := fun i H x H' => H' = H ∧ xs[i]? = some x
def itR (lo : Int) : Itm := fun i H x H' => H' = H ∧ x = .int (lo + i)
def itS (l : List Nat) : Itm := fun i H x H' => H' = H ∧ ∃ c, l[i]? = some c ∧ x = .str (S [c])

@[irreducible] def loop (n : Nat) (it : Itm) (st : Hp → Prop) (g : TG) (tb : TS) (D : Ends) (σ : St) (H : Hp) : Prop :=
  ∀ J, Adm J n it st → ∃ W : Nat → Nat → St → Hp → Prop, (∃ m, W 0 m σ H) ∧ ∀ i m σ H, W i m σ H →
  (J.stop i H ∧ D.nx σ H) ∨ (J.go i H ∧ ∃ N : St → Hp → Prop, (∀ σ' H', N σ' H' → ∃ m', m' < m ∧ W (i + 1) m' σ' H') ∧ ∀ x H', J.yld i H x H' → g x σ H' fun σ2 H2 => tb { D with nx := N, ct := N, bk := D.nx } σ2 H2)
theorem loop_i {n : Nat} {it : Itm} {st : Hp → Prop} {g : TG} {tb : TS} {D : Ends} {σ : St} {H : Hp} (Pv : Nat → St → Hp → Prop) (h0 : Pv 0 σ H) (hst : ∀ i σ H, i ≤ n → Pv i σ H → st H)
    (hs : ∀ i x σ H H', i < n → Pv i σ H → it i H x H' → g x σ H' fun σ2 H2 => tb { D with nx := Pv (i + 1), ct := Pv (i + 1), bk := D.nx } σ2 H2) (hd : ∀ σ H, Pv n σ H → D.nx σ H) : loop n it st g tb D σ H := by
  unfold loop
  intro J A
  refine ⟨fun i m σ H => m = n - i ∧ i ≤ n ∧ Pv i σ H, ⟨n, by simp, Nat.zero_le _, h0⟩, ?_⟩
  rintro i m σ H ⟨rfl, hi, p⟩
  have q := hst i σ H hi p
  by_cases hlt : i < n
  · exact .inr ⟨A.go i H hlt q, Pv (i + 1), fun σ' H' p' => ⟨n - (i + 1), by omega, rfl, hlt, p'⟩, fun x H' y => hs i x σ H H' hlt p (A.yl i H x H' hlt q y)⟩
  · have e : i = n := by omega
    subst e
    exact .inl ⟨A.sp H q, hd σ H p⟩
def tForP (wi : TJ) (g : TG) (tb : TS) : TS := fun D σ H => wi σ H fun n it st H1 => loop n it st g tb D σ H1
section
variable {X : Cx} {tg : Expr}
theorem psfor {iter : Expr} {body : List Stmt} {wi : TJ} {g : TG} {tb : TS} {pos : Pos} (hp : PassesOwn (model X.prog X.w) X.A X.env X.xe) (hc : X.calm = true) (hi : PJ X tg iter wi) (hg : PG X tg g) (hb : PSs X body tb)
    (hs : ∀ x, foldedSetIterable iter X.env x = pure x := by intro _; rfl) : PS X (.For tg iter body [] pos) (tForP wi g tb) := by
  refine ps_imp (ps_for (wi := toI wi) hp hc hi hg hb hs) fun D σ H h => ?_
  have e : (fun n it st H1 => loop n it st g tb D σ H1) = (fun n it st H1 => ∀ J, Adm J n it st → ∃ W : Nat → Nat → St → Hp → Prop, (∃ m, W 0 m σ H1) ∧ ∀ i m σ H, W i m σ H →
      (J.stop i H ∧ D.nx σ H) ∨ (J.go i H ∧ ∃ N : St → Hp → Prop, (∀ σ' H', N σ' H' → ∃ m', m' < m ∧ W (i + 1) m' σ' H') ∧ ∀ x H', J.yld i H x H' → g x σ H' fun σ2 H2 => tb { D with nx := N, ct := N, bk := D.nx } σ2 H2)) := by
    funext n it st H1
    unfold loop
    rfl
  have h : wi σ H fun n it st H1 => loop n it st g tb D σ H1 := h
  rw [e] at h
  exact h
/-- range(n) -/
def jR1 (ta : TA) : TJ := fun σ H R => ta σ H fun vs H1 => one vs fun x => match x with
  | .int j => (-(2 ^ 62) ≤ j ∧ j < 2 ^ 62) ∧ R j.toNat (itR 0) (fun _ => True) H1
  | _ => False
def jR2 (ta : TA) : TJ := fun σ H R => ta σ H fun vs H1 => two vs fun x y => match x with
  | .int i => (match y with
    | .int j => (-(2 ^ 62) ≤ i ∧ i < 2 ^ 62 ∧ -(2 ^ 62) ≤ j ∧ j < 2 ^ 62) ∧ R (j - i).toNat (itR i) (fun _ => True) H1
    | _ => False)
  | _ => False
theorem adm_r (lo : Int) (n : Nat) : Adm (Itr lo n) n (itR lo) (fun _ => True) := ⟨fun i H h _ => h, fun i H x H' _ _ h => h, fun H _ => Nat.le_refl n⟩
theorem pjr1 {a : Expr} {ta : TA} {p pos : Pos} (hm : X.mg "range" = none) (ha : PA X [a] ta) (hg : Gl X "range" := by rfl) (hs : starEach [a] X.env = [(false, eval a X.env)] := by rfl) : PJ X tg (.Call (.Name "range" p) [a] [] pos) (jR1 ta) := by
  refine ⟨fun pins s σ H R I h => ?_⟩
  refine Call_ (ld_blt I hg hm boot_range (PyProof.Rows.callWith_type1 (thn (ha.run pos pins s σ H _ I h) fun us s1 ⟨vs, H1, I1, r1, q1⟩ => ?_) hs rfl))
  obtain ⟨x, rfl, q1⟩ := one_e q1
  cases x with
  | int j =>
    obtain ⟨⟨q1, q2⟩, q⟩ := q1
    cases r1 with
    | cons r rr =>
      cases rr
      obtain ⟨t, rfl⟩ := r
      exact call_range_1 (range_it I1 (by omega) (by omega) q1 q2 (by simpa using q _ (adm_r 0 j.toNat)))
  | _ => exact False.elim q1
theorem pjr2 {a b : Expr} {ta : TA} {p pos : Pos} (hm : X.mg "range" = none) (ha : PA X [a, b] ta) (hg : Gl X "range" := by rfl) (hs : starEach [a, b] X.env = [(false, eval a X.env), (false, eval b X.env)] := by rfl) (hs2 : starEach [b] X.env = [(false, eval b X.env)] := by rfl) :
    PJ X tg (.Call (.Name "range" p) [a, b] [] pos) (jR2 ta) := by
  refine ⟨fun pins s σ H R I h => ?_⟩
  refine Call_ (ld_blt I hg hm boot_range (PyProof.Rows.callWith_type1 (thn (ha.run pos pins s σ H _ I h) fun us s1 ⟨vs, H1, I1, r1, q1⟩ => ?_) (by rw [hs, hs2]) (by rw [hs2]; rfl)))
  obtain ⟨x, y, rfl, q1⟩ := two_e q1
  cases x with
  | int i =>
    cases y with
    | int j =>
      obtain ⟨⟨q1, q2, q3, q4⟩, q⟩ := q1
      cases r1 with
      | cons r rr =>
        cases rr with
        | cons r' rr =>
          cases rr
          obtain ⟨t, rfl⟩ := r
          obtain ⟨t', rfl⟩ := r'
          exact call_range_2 (range_it I1 q1 q2 q3 q4 (q _ (adm_r i _)))
    | _ => exact False.elim q1
  | _ => exact False.elim q1
/-- a text, a list, a tuple -/
def jA (K : PySem.W.Frag) (te : TE) : TJ := fun σ H R => te σ H fun x H1 => match x with
  | .str z => R (tl z).length (itS (tl z)) (fun _ => True) H1
  | .ref a => look H1 a fun o => (match o with
    | some (.lst xs) => R xs.length (itL xs) (fun H' => H' a = some (.lst xs)) H1
    | some (.tup xs) => R xs.length (itL xs) (fun H' => H' a = some (.tup xs)) H1
    | some (.frz ob (.lst xs)) => R xs.length (itL xs) (fun H' => H' a = some (.frz ob (.lst xs))) H1
    | _ => ∃ xs, SqT K (fun _ => none) a xs ∧ R xs.length (itL xs) (fun _ => True) H1)
  | _ => False
theorem adm_l {K : PySem.W.Frag} {a : Addr} {xs : List V} {st : Hp → Prop} (h : ∀ H, st H → SqL K H a xs) : Adm (Itl K a) xs.length (itL xs) st :=
  ⟨fun i H hi q => ⟨xs, xs[i], h H q, by simp [hi]⟩, fun i H x H' hi q y => ⟨y.1, y.2 xs (h H q)⟩, fun H q => ⟨xs, h H q, Nat.le_refl _⟩⟩
theorem adm_t {K : PySem.W.Frag} {a : Addr} {xs : List V} {st : Hp → Prop} (h : ∀ H, st H → SqT K H a xs) : Adm (Itt K a) xs.length (itL xs) st :=
  ⟨fun i H hi q => ⟨xs, xs[i], h H q, by simp [hi]⟩, fun i H x H' hi q y => ⟨y.1, y.2 xs (h H q)⟩, fun H q => ⟨xs, h H q, Nat.le_refl _⟩⟩
theorem adm_s (z : Str) : Adm (Its z) (tl z).length (itS (tl z)) (fun _ => True) := by
  have e : z.cps.size = (tl z).length := by simp [tl]
  refine ⟨fun i H h _ => ?_, fun i H x H' _ _ y => ⟨y.1, ?_⟩, fun H _ => ?_⟩
  · show i < z.cps.size; rw [e]; exact h
  · obtain ⟨c, h1, h2⟩ := y.2
    exact ⟨c, by simpa [tl] using h1, h2⟩
  · show z.cps.size ≤ _; rw [e]; exact Nat.le_refl _
theorem sqT_k {K : PySem.W.Frag} {H : Hp} {a : Addr} {xs : List V} (h : SqT K (fun _ => none) a xs) : SqT K H a xs := by
  rcases h with (h | ⟨o, h⟩) | h
  · cases h
  · cases h
  · exact .inr h
theorem pja {l : Expr} {te : TE} (hl : PE X l te) : PJ X tg l (jA X.K te) := by
  refine ⟨fun pins s σ H R I h => ?_⟩
  refine thn (hl.run pins s σ H _ I h) fun v s1 ⟨x, H1, I1, r1, q1⟩ => ?_
  cases x with
  | str z =>
    obtain ⟨t, rfl⟩ := r1
    have q := q1 _ (adm_s z)
    cases ha : z.cps.all (· < 128)
    · exact wpAny_pyIter_wide ha (pi_one (tk := s1.toks) I1 _ (turn_str _ z t "str_iterator" (.inr rfl)) ⟨_, Heap.get?_push_size _ rfl, rfl, rfl⟩ q)
    · exact wpAny_pyIter_ascii ha (pi_one (tk := s1.toks) I1 _ (turn_str _ z t "str_ascii_iterator" (.inl rfl)) ⟨_, Heap.get?_push_size _ rfl, rfl, rfl⟩ q)
  | ref a =>
    cases r1
    have fl : ∀ xs, SqL X.K H1 a xs → R (Itl X.K a) H1 → wpAny (model X.prog X.w) X.A (pyIter (.ref a)) (PIE X pins σ tg R) X.xe s1 := fun xs hq q => by
      obtain ⟨its, rv, p, hz⟩ := I1.list hq
      refine wpAny_pyIter_list p.isList ?_
      refine ⟨s1.heap.objs.size, [s1.heap.objs.size], _, _, H1, rfl, I1.kept (t' := s1.toks) fun b o e => Heap.get?_push_of_some _ e, turn_list a _, ⟨_, Heap.get?_push_size _ rfl, rfl, rfl⟩, fun b hb => ?_, q⟩
      have e : b = s1.heap.objs.size := by simpa using hb
      subst e
      exact I1.fpOk (Nat.le_refl _) (I1.hok.fresh (Nat.le_refl _))
    have ft : ∀ xs, SqT X.K H1 a xs → R (Itt X.K a) H1 → wpAny (model X.prog X.w) X.A (pyIter (.ref a)) (PIE X pins σ tg R) X.xe s1 := fun xs hq q => by
      obtain ⟨its, rv, p, hz⟩ := I1.tuple hq
      refine wpAny_pyIter_tuple (show s1.heap.IsTuple a its.toArray from p) ?_
      refine ⟨s1.heap.objs.size, [s1.heap.objs.size], _, _, H1, rfl, I1.kept (t' := s1.toks) fun b o e => Heap.get?_push_of_some _ e, turn_tuple a _, ⟨_, Heap.get?_push_size _ rfl, rfl, rfl⟩, fun b hb => ?_, q⟩
      have e : b = s1.heap.objs.size := by simpa using hb
      subst e
      exact I1.fpOk (Nat.le_refl _) (I1.hok.fresh (Nat.le_refl _))
    have q1 := look_e q1
    have fk : (∃ xs, SqT X.K (fun _ => none) a xs ∧ ∀ J, Adm J xs.length (itL xs) (fun _ => True) → R J H1) → wpAny (model X.prog X.w) X.A (pyIter (.ref a)) (PIE X pins σ tg R) X.xe s1 :=
      fun ⟨xs, h1, h2⟩ => ft xs (sqT_k h1) (h2 _ (adm_t fun H' _ => sqT_k h1))
    revert q1
    cases e : H1 a with
    | none => exact fk
    | some o =>
      cases o with
      | lst xs => exact fun q1 => fl xs (SqL.of e) (q1 _ (adm_l fun H' h => SqL.of h))
      | tup xs => exact fun q1 => ft xs (SqT.of e) (q1 _ (adm_t fun H' h => SqT.of h))
      | frz ob u =>
        cases u with
        | lst xs => exact fun q1 => fl xs (.inl (.inr ⟨_, e⟩)) (q1 _ (adm_l fun H' h => .inl (.inr ⟨_, h⟩)))
        | _ => exact fk
      | _ => exact fk
  | _ => exact False.elim q1

/-! ### while -/
@[irreducible] def whl (c : TT) (tb : TS) (D : Ends) (σ : St) (H : Hp) : Prop := tWhile c tb D σ H
/-- by a word and a measure; the test's reading is asked with its own wish -/
theorem whl_i {c : TT} {tb : TS} {D : Ends} {σ : St} {H : Hp} (W : Nat → St → Hp → Prop) (m : Nat) (h0 : W m σ H)
    (hs : ∀ m σ H, W m σ H → c σ H fun b H1 => if b = true then ∃ N : St → Hp → Prop, (∀ σ' H', N σ' H' → ∃ m', m' < m ∧ W m' σ' H') ∧ tb { D with nx := N, ct := N, bk := D.nx } σ H1 else D.nx σ H1) : whl c tb D σ H := by
  unfold whl
  exact ⟨W, ⟨m, h0⟩, hs⟩
theorem pswhl {c : Expr} {body : List Stmt} {tc : TT} {tb : TS} {pos : Pos} (hp : PassesOwn (model X.prog X.w) X.A X.env X.xe) (hc : PT X c tc) (hb : PSs X body tb) : PS X (.While c body [] pos) (whl tc tb) :=
  ps_imp (ps_while hp hc hb) fun D σ H h => by unfold whl at h; exact h

/-! ### list comprehensions -/
@[irreducible] def lcp (n : Nat) (it : Itm) (st : Hp → Prop) (g : TG) (tt : TT) (te : TE) (vs : List Nat) (σ : St) (H1 : Hp) (Q : VK) : Prop :=
  ∀ J, Adm J n it st → ∀ D, H1 D = none → ∃ W : Nat → Nat → Hp → Prop, (∃ m, W 0 m (upd H1 D (.lst []))) ∧ ∀ i m H, W i m H →
  (J.stop i H ∧ Q (.ref D) H) ∨ (J.go i H ∧ ∃ Nx : Hp → Prop, (∀ H', Nx H' → ∃ m', m' < m ∧ W (i + 1) m' H') ∧ ∀ x H', J.yld i H x H' → g x (wipe σ vs) H' fun σ2 H2 => wipe σ2 vs = wipe σ vs ∧ tt σ2 H2 fun b H3 =>
    if b = true then te σ2 H3 fun y H4 => ∃ acc, H4 D = some (.lst acc) ∧ acc.length < sizeLine ∧ Nx (upd H4 D (.lst (acc ++ [y]))) else Nx H3)
def tLcP (wi : TJ) (g : TG) (tt : TT) (te : TE) (vs : List Nat) : TE := fun σ H Q => wi σ H fun n it st H1 => lcp n it st g tt te vs σ H1 Q
theorem tLcP_e {wi : TJ} {g : TG} {tt : TT} {te : TE} {vs : List Nat} {σ : St} {H : Hp} {Q : VK} (h : tLcP wi g tt te vs σ H Q) : tLc (toI wi) g tt te vs σ H Q := by
  have e : (fun n it st H1 => lcp n it st g tt te vs σ H1 Q) = (fun n it st H1 => ∀ J, Adm J n it st → ∀ D, H1 D = none → ∃ W : Nat → Nat → Hp → Prop, (∃ m, W 0 m (upd H1 D (.lst []))) ∧ ∀ i m H, W i m H →
      (J.stop i H ∧ Q (.ref D) H) ∨ (J.go i H ∧ ∃ Nx : Hp → Prop, (∀ H', Nx H' → ∃ m', m' < m ∧ W (i + 1) m' H') ∧ ∀ x H', J.yld i H x H' → g x (wipe σ vs) H' fun σ2 H2 => wipe σ2 vs = wipe σ vs ∧ tt σ2 H2 fun b H3 =>
        if b = true then te σ2 H3 fun y H4 => ∃ acc, H4 D = some (.lst acc) ∧ acc.length < sizeLine ∧ Nx (upd H4 D (.lst (acc ++ [y]))) else Nx H3)) := by
    funext n it st H1
    unfold lcp
    rfl
  have h : wi σ H fun n it st H1 => lcp n it st g tt te vs σ H1 Q := h
  rw [e] at h
  exact h
theorem plc {elt iter : Expr} {ifs : List Expr} {scope : Scope} (own : List (Str × Nat)) {pos : Pos} {wi : TJ} {g : TG} {tt : TT} {te : TE} (hc : X.calm = true) (hN : X.N.Nodup) (hi : PJ X tg iter wi) (ok : blkC X.N X.env.scope scope own = true)
    (hg : ∀ (s : Shared) (H : Hp) (C : Addr) (cl : List (Str × Addr)) (fp : List Addr), PG (X.blk s H scope (compEnvC scope cl C X.env) fp) tg g) (ht : ∀ (s : Shared) (H : Hp) (C : Addr) (cl : List (Str × Addr)) (fp : List Addr), PTs (X.blk s H scope (compEnvC scope cl C X.env) fp) ifs tt)
    (he : ∀ (s : Shared) (H : Hp) (C : Addr) (cl : List (Str × Addr)) (fp : List Addr), PE (X.blk s H scope (compEnvC scope cl C X.env) fp) elt te) (hs : ∀ x, foldedSetIterable iter X.env x = pure x := by intro _; rfl) :
    PE X (.ListComp elt [⟨tg, iter, ifs, 0⟩] scope pos) (tLcP wi g tt te (own.map (·.2))) := pe_imp (pe_lc hc hN hi (blkOk_by ok) hg ht he hs) fun _ _ _ h => tLcP_e h
theorem pslc {i : Nat} {y : Str} {py : Pos} {elt iter : Expr} {ifs : List Expr} {scope : Scope} (own : List (Str × Nat)) {pos spos : Pos} {wi : TJ} {g : TG} {tt : TT} {te : TE} (hc : X.calm = true) (hN : X.N.Nodup) (hy : X.N[i]? = some y) (hyl : X.env.scope.names.lookup y = some .local)
    (hsw : swapsWith (.ListComp elt [⟨tg, iter, ifs, 0⟩] scope pos) (some (.Name y py)) spos.line X.env = pure true) (hi : PJ X tg iter wi) (ok : blkC X.N X.env.scope scope own = true)
    (hg : ∀ (s : Shared) (H : Hp) (C : Addr) (cl : List (Str × Addr)) (fp : List Addr), PG (X.blk s H scope (compEnvC scope cl C X.env) fp) tg g) (ht : ∀ (s : Shared) (H : Hp) (C : Addr) (cl : List (Str × Addr)) (fp : List Addr), PTs (X.blk s H scope (compEnvC scope cl C X.env) fp) ifs tt)
    (he : ∀ (s : Shared) (H : Hp) (C : Addr) (cl : List (Str × Addr)) (fp : List Addr), PE (X.blk s H scope (compEnvC scope cl C X.env) fp) elt te) (hs : ∀ x, foldedSetIterable iter X.env x = pure x := by intro _; rfl) :
    PS X (.Assign [.Name y py] (.ListComp elt [⟨tg, iter, ifs, 0⟩] scope pos) spos) (tAsg (tLcP wi g tt te (own.map (·.2))) (gName i)) :=
  ps_imp (ps_setLc hc hN hy hyl hsw hi (blkOk_by ok) hg ht he hs) fun D σ H h => tLcP_e h
theorem lcp_i {n : Nat} {it : Itm} {st : Hp → Prop} {g : TG} {tt : TT} {te : TE} {vs : List Nat} {σ : St} {H1 : Hp} {Q : VK} (Pv : Addr → Nat → Hp → Prop) (h0 : ∀ D, H1 D = none → Pv D 0 (upd H1 D (.lst []))) (hst : ∀ D i H, H1 D = none → i ≤ n → Pv D i H → st H)
    (hs : ∀ D i x H H', H1 D = none → i < n → Pv D i H → it i H x H' → g x (wipe σ vs) H' fun σ2 H2 => wipe σ2 vs = wipe σ vs ∧ tt σ2 H2 fun b H3 =>
      if b = true then te σ2 H3 fun y H4 => ∃ acc, H4 D = some (.lst acc) ∧ acc.length < sizeLine ∧ Pv D (i + 1) (upd H4 D (.lst (acc ++ [y]))) else Pv D (i + 1) H3) (hd : ∀ D H, H1 D = none → Pv D n H → Q (.ref D) H) : lcp n it st g tt te vs σ H1 Q := by
  unfold lcp
  intro J A D hD
  refine ⟨fun i m H => m = n - i ∧ i ≤ n ∧ Pv D i H, ⟨n, by simp, Nat.zero_le _, h0 D hD⟩, ?_⟩
  rintro i m H ⟨rfl, hi, p⟩
  have q := hst D i H hD hi p
  by_cases hlt : i < n
  · exact .inr ⟨A.go i H hlt q, Pv D (i + 1), fun H' p' => ⟨n - (i + 1), by omega, rfl, hlt, p'⟩, fun x H' y => hs D i x H H' hD hlt p (A.yl i H x H' hlt q y)⟩
  · have e : i = n := by omega
    subst e
    exact .inl ⟨A.sp H q, hd D H hD p⟩
end
end Ta

set_option Elab.async false
set_option linter.all false
set_option maxRecDepth 100000
set_option maxHeartbeats 1000000
namespace Ta
open PySem PySem.Spec PyProof.Rows L2

/-! ### a def that says super(): its closure is the cell of __class__ -/
structure SupFn (P : Program) (K : PySem.W.Frag) (f : Addr) (F : NdefX.NF) (D : Addr) (dvs : List V) (fd : FuncData) : Prop where
  ex : ∃ (cc : Addr) (oc : Value) (od an : Option Addr) (dV kV doc pm ct : Value) (osl : Array (Option Value)), F.cl = [(("__class__" : Str), cc)] ∧ fd = PySem.W.fnX F.name F.qual F.params F.body F.scope F.cl dV kV doc pm an (.ref F.c) ct ∧
    K.lookup f = some ⟨oc, od, .func fd, osl⟩ ∧ DflV K dV dvs ∧ ∃ (cl : Value) (cld : Option Addr) (csl : Array (Option Value)), K.lookup cc = some ⟨cl, cld, .cell (some (.ref D)), csl⟩
  cd : PySem.W.codeIn K (.ref F.c) F.qual = true
  file : ∃ (ccl : Value) (cdd : Option Addr) (vs : Array Value) (ccs : Array (Option Value)) (fl : Str) (tf : Tok), K.lookup F.c = some ⟨ccl, cdd, .fields vs, ccs⟩ ∧ vs[2]? = some (.str fl tf) ∧ ((P.main.file : Str) == fl) = true
  clsD : ∃ cdD, PySem.W.clsIn K D = some cdD
  top : (P.main.scope.names.lookup ("super" : Str)).isSome = false
  kp : PySem.W.keepIn K (.ref f) = true
section
variable {P : Program} {w : World} {K : PySem.W.Frag} {mg : Str → Option Value} {base : Heap}
/-- such a def by its first statement (at the code itself) and the rest -/
theorem fn_sup {f D : Addr} {F : NdefX.NF} {fd : FuncData} {N ps : List Str} {sp : Sp} {k : Nat} {st0 : Stmt} {rest : List Stmt} {dvs : List V} (SF : SupFn P K f F D dvs fd) (hbd : F.body = st0 :: rest) (S : NdefX.NScope N ps ["__class__"] F.scope)
    (len : ∀ vs H Q E, sp vs H Q E → vs.length = ps.length)
    (hbody : ∀ (A : Around) (outer : List Env) (s : Shared) (H : Hp) (vs : List V) (Q : VK) (E : XK), Room k (A.deeper (NdefX.envF F f s.heap.objs.size)) → sp vs H Q E →
      ∃ (t : TS), PSs (NdefX.ncx (L2.CX P w) P w K mg base N F f A outer s H E) rest t ∧
        ∀ s', Inv (NdefX.ncx (L2.CX P w) P w K mg base N F f A outer s H E) [] (NdefX.startF N vs [some (.ref D)]) H s' →
          PySem.wpAt (model P w) (A.deeper (NdefX.envF F f s.heap.objs.size)) (.func F.body (NdefX.envF F f s.heap.objs.size)) (exec st0 (NdefX.envF F f s.heap.objs.size))
            (fun fl s'' => fl = .next ∧ ∃ σ' H', Inv (NdefX.ncx (L2.CX P w) P w K mg base N F f A outer s H E) [] σ' H' s'' ∧ t { nx := fun _ H' => Q .non H', rt := Q } σ' H')
            (NdefX.ncx (L2.CX P w) P w K mg base N F f A outer s H E).xe s') :
    FnOk P w K mg base (L2.CX P w) (k + 1) f fd ps sp := by
  obtain ⟨cc, oc, od, an, dV, kV, doc, pm, ct, osl, hcl, rfl, lk, hD, cl, cld, csl, hcell⟩ := SF.ex
  refine ⟨len, fun A outer s H args us vs Q E hr e0 hb r hsp => ?_⟩
  have hl := len _ _ _ _ hsp
  have KX : K.In s.heap := e0.mod.kin.keeps fun b o e => (e0.bs b o e).1
  have lim : s.heap.NoLimit := e0.mod.nolimit.keeps fun b o e => (e0.bs b o e).1
  have C : NdefX.CellsAt F.cl ["__class__"] [some (.ref D)] s.heap H := by
    rw [hcl]
    have hK : ∀ y c, ([("__class__", cc)] : List (Str × Addr)).lookup y = some c → y = "__class__" ∧ c = cc := fun y c e => by
      simp only [List.lookup] at e
      split at e
      · rename_i hb; cases e; exact ⟨eq_of_beq hb, rfl⟩
      · cases e
    refine ⟨rfl, fun y c e => ?_, fun x y c e1 e2 => (hK x c e1).1.trans (hK y c e2).1.symm, fun i y e => ?_⟩
    · obtain ⟨_, rfl⟩ := hK y c e
      exact ⟨(e0.bs _ _ (e0.mod.kin _ _ hcell)).2, _, _, KX _ _ hcell, rfl⟩
    · cases i with
      | zero =>
        have e' : y = "__class__" := by simpa using e.symm
        subst e'
        refine ⟨cc, by simp [List.lookup], fun v hv => ?_⟩
        have hv' : V.ref D = v := by simpa using hv
        subst hv'
        exact ⟨.ref D, rfl, _, KX _ _ hcell, rfl⟩
      | succ i => simp at e
  refine PySem.ks_codeAny_call_defAt hr.depth (KX _ _ lk) rfl lim (PySem.W.codeRec_of KX SF.cd) (body := F.body) rfl hb S.nocell (fun ⟨n, v⟩ hy => S.par n (List.of_mem_zip hy).1) (fun h₁ hns kp => ?_) S.co S.gen S.kind
  obtain ⟨t, ht, hq⟩ := hbody A outer s H vs Q E (hr.deeper _) hsp
  have I : Inv (NdefX.ncx (L2.CX P w) P w K mg base N F f A outer s H E) [] (NdefX.startF N vs [some (.ref D)]) H { s with heap := h₁, toks := s.toks + (ps.zip us).length } := NdefX.inv_startN S hr.hd e0 hl r C hns kp
  have fin : ∀ {s' : Shared} {σ' : L2.St} {H' : Hp} {v : V} {u : Value}, Inv (NdefX.ncx (L2.CX P w) P w K mg base N F f A outer s H E) [] σ' H' s' → RelV v u → Q v H' → CE outer P w H s Q u s' :=
    fun {s' σ' H' v u} J rv q => ⟨v, H', J.os, J.bare, J.base, J.hok, rv, q⟩
  have key : PySem.wpAt (model P w) (A.deeper (NdefX.envF F f s.heap.objs.size)) (.func F.body (NdefX.envF F f s.heap.objs.size)) (execs F.body (NdefX.envF F f s.heap.objs.size))
      (fun fl s' => CR (L2.CX P w) outer P w H s Q E (.ok (.ret (match fl with | .ret v => v | _ => .none))) s') (NdefX.ncx (L2.CX P w) P w K mg base N F f A outer s H E).xe { s with heap := h₁, toks := s.toks + (ps.zip us).length } := by
    have q0 := hq _ I
    rw [hbd] at q0 ⊢
    refine PySem.ks_wpAt_execs_cons (PySem.ks_wpAt_mono q0 (fun fl s1 h1 => ?_) fun _ _ z => z)
    obtain ⟨rfl, σ1, H1, I1, q1⟩ := h1
    refine PySem.wpAt_of_wpAny (thn (ht.run [] s1 σ1 H1 _ I1 q1) fun fl s2 h2 => ?_)
    cases fl with
    | ret u =>
      obtain ⟨v, σ', H', J, rv, q⟩ := h2
      exact fin J rv q
    | next =>
      obtain ⟨σ', H', J, q⟩ := h2
      exact fin (v := V.non) (u := Value.none) J rfl q
    | brk =>
      obtain ⟨_, _, _, q⟩ := h2
      exact False.elim q
    | cont =>
      obtain ⟨_, _, _, q⟩ := h2
      exact False.elim q
  exact key
end
/-! ### super() -/
section
variable {X : Cx} {pins : List (Addr × Obj)} {σ : St} {H : Hp} {s : Shared} {f D x C : Addr} {F : NdefX.NF} {dvs : List V} {fd : FuncData}
abbrev supO (D x C : Addr) : Obj := { cls := .type "super", dict := none, data := .fields #[.ref D, .ref x, .ref C], slots := #[] }
theorem sup_base {p0 p1 : Pos} {attr : Str} {whole : Sem Value} {E : Value → Shared → Prop} {Q : Value → Shared → Prop} {ar : Arg} {ox : Obj} (SF : SupFn X.prog X.K f F D dvs fd) (hE : X.env = NdefX.envF F f X.env.locals) (I : Inv X pins σ H s)
    (hsup : X.mg "super" = none) (hp : (F.params.posonlyargs ++ F.params.args).head? = some ar) (i : Nat) (hN : X.N[i]? = some ar.arg) (hσ : σ[i]? = some (some (.ref x))) (hka : F.scope.names.lookup ar.arg = some .local)
    (hx : s.heap.get? x = some ox) (hxc : ox.cls = .ref C) (hnc : ∀ c, ox.data ≠ .cls c) (hsub : PySem.W.mroIn X.K C (.ref D) = some true)
    (hks : F.scope.names.lookup ("super" : Str) = some .globalImplicit) (hkc : F.scope.names.lookup ("__class__" : Str) = some .free) (hk : F.scope.kind = .function) (hat : (attr == ("__class__" : Str)) = false)
    (h : ∀ so s', s'.heap.get? so = some (supO D x C) → (∀ b o, s.heap.get? b = some o → s'.heap.get? b = some o) → Inv X pins σ H s' → Q (.ref so) s') :
    PySem.wpAt (model X.prog X.w) X.A (.func F.body X.env) (attributeBase (.Call (.Name "super" p0) [] [] p1) attr X.env whole) Q E s := by
  obtain ⟨cc, oc, od, an, dV, kV, doc, pm, ct, osl, hcl, rfl, lk, hD, cl, cld, csl, hcell⟩ := SF.ex
  obtain ⟨ccl, cdd, vs, ccs, fl, tf, hcode, hvs, hfile⟩ := SF.file
  obtain ⟨cdD, hcD⟩ := SF.clsD
  have KX : X.K.In s.heap := I.kIn
  obtain ⟨oD, hD1, hD2⟩ : ∃ oD, s.heap.get? D = some oD ∧ oD.data = .cls cdD := by
    unfold PySem.W.clsIn at hcD
    split at hcD
    · rename_i c d cd' sl ho
      cases hcD
      exact ⟨_, KX _ _ ho, rfl⟩
    · cases hcD
  obtain ⟨m, hn, hloc⟩ := I.loc
  have hsc : X.env.scope = F.scope := by rw [hE]
  obtain ⟨u, ru, lu⟩ := hloc i ar.arg (.ref x) hN hσ (.inl (by rw [hsc]; exact hka))
  cases ru
  have hm : m ar.arg = some (.ref x) := by
    rcases lu with ⟨_, e⟩ | ⟨e, _⟩
    · exact e
    · have e2 : X.env.kindOf ar.arg = some .local := by show X.env.scope.names.lookup _ = _; rw [hsc]; exact hka
      rw [e2] at e; rcases e with e | e <;> cases e
  obtain ⟨mb, hb1, hb2⟩ := I.mod.blt
  refine PySem.ks_wpAt_super_base (env := X.env) (by show X.env.scope.names.lookup _ = _; rw [hsc]; exact hks) (by show X.env.scope.names.lookup _ = _; rw [hsc]; exact hkc) hat (by rw [hE]) (KX _ _ lk) rfl hp (by rw [hE]) (KX _ _ hcode) rfl hvs hfile SF.top ?_
  refine PySem.W.ks_loadName_global (by rw [hsc]; exact hk) (by show X.env.scope.names.lookup _ = _; rw [hsc]; exact hks) (Calls.loadGlobal_builtin (by rw [I.ok.glob]; exact I.mod.glob.keeps I.bk) hsup (by rw [I.ok.blt]; exact hb1.keeps I.bk) ((hb2 "super" (by decide +kernel)).trans (by decide +kernel : bootBuiltins "super" = some (.type "super"))) ⟨rfl, ?_⟩)
  refine wpAny_loadName_free (by rw [hsc]; exact hk) (by show X.env.scope.names.lookup _ = _; rw [hsc]; exact hkc) (by rw [hE]; show F.cl.lookup _ = _; rw [hcl]; rfl) ⟨_, KX _ _ hcell, rfl⟩ ?_
  refine wpAny_loadName_local (by rw [hsc]; exact hk) (by show X.env.scope.names.lookup _ = _; rw [hsc]; exact hka) hn hm ?_
  obtain ⟨hp', g', d', t', os'⟩ := s
  refine PySem.ks_wpAny_isType_cls hD1 hD2 ⟨rfl, ?_⟩
  refine PySem.ks_wpAny_call_super hD1 hD2 hx hxc hnc (PySem.W.looks_mroIn KX hsub) (fun h' e k => ?_)
  exact h _ _ e k (I.kept (t' := t') k)

/-- super().__init__('..') of an exception that is being made -/
structure SupExc (K : PySem.W.Frag) (C D : Addr) : Prop where
  oex : OexC K C
  sub : PySem.W.mroIn K C (.ref D) = some true
  ini : PySem.W.ks_superIn K C D "__init__" = some (some (.builtin "ValueError.__init__"))
  ve : PySem.W.subIn K (.ref C) (.type "ValueError") = some true
  third : PySem.W.nsIn K cStatics "thirdparty.any" = some none
theorem sup_exc {p0 p1 p2 p3 p4 p5 : Pos} {j : Nat} {msg : Str} {E : Value → Shared → Prop} {Q : Flow → Shared → Prop} {ar : Arg} (SF : SupFn X.prog X.K f F D dvs fd) (SE : SupExc X.K C D) (hE : X.env = NdefX.envF F f X.env.locals) (I : Inv X pins σ H s)
    (hsup : X.mg "super" = none) (hp : (F.params.posonlyargs ++ F.params.args).head? = some ar) (i : Nat) (hN : X.N[i]? = some ar.arg) (hσ : σ[i]? = some (some (.ref x))) (hka : F.scope.names.lookup ar.arg = some .local)
    (hx : H x = some (exo x C none)) (hks : F.scope.names.lookup ("super" : Str) = some .globalImplicit) (hkc : F.scope.names.lookup ("__class__" : Str) = some .free) (hk : F.scope.kind = .function)
    (h : ∀ s', Inv X pins σ H s' → Q .next s') (hli : p2.endLine = p2.endLine)
    (hsw : swapsWith (.Call (.Attribute (.Call (.Name "super" p0) [] [] p1) "__init__" p2) [.Constant (.str msg) j p5] [] p3) none p4.line X.env = pure false := by rfl)
    (pl : Sem Bool) (he : eval (.Call (.Attribute (.Call (.Name "super" p0) [] [] p1) "__init__" p2) [.Constant (.str msg) j p5] [] p3) X.env = (do
      let ov ← attributeBase (.Call (.Name "super" p0) [] [] p1) "__init__" X.env (eval (.Call (.Name "super" p0) [] [] p1) X.env)
      standAt p2.atName
      let (f, first) ← holding [ov] (getMethod ov "__init__" pl)
      callWith p3 f first (backTo p3 (starEach [.Constant (.str msg) j p5] X.env)) [])) :
    PySem.wpAt (model X.prog X.w) X.A (.func F.body X.env) (exec (.Expr (.Call (.Attribute (.Call (.Name "super" p0) [] [] p1) "__init__" p2) [.Constant (.str msg) j p5] [] p3) p4) X.env) Q E s := by
  obtain ⟨t1, ho⟩ := exo_at I.hok hx
  obtain ⟨nm, q, N, bs, bm, sn, sub, ab, col, dd, k0, k1, k2, k3, k5, hC, hbm⟩ := SE.oex.cls
  refine PySem.ks_wpAt_Expr_any (PySem.ks_wpAt_MethodCall (pl := pl) (sup_base SF hE I hsup hp i hN hσ hka ho rfl (fun c z => nomatch z) SE.sub hks hkc hk (by decide +kernel) fun so s1 hso kp I1 => ?_) he) I.quiet hsw
  have KX1 : X.K.In s1.heap := I1.kIn
  have ho1 := kp _ _ ho
  have hmro := SE.ini
  unfold PySem.W.ks_superIn at hmro
  cases hcl : PySem.W.clsIn X.K C with
  | none => rw [hcl] at hmro; cases hmro
  | some cd =>
    rw [hcl] at hmro
    have LT : PySem.W.Looks (model X.prog X.w) s1.heap (typeOf (.ref x)) (.ref C) := fun A Q E s k q => wpAny_typeOf_ref (k _ _ ho1) q
    have hI : PySem.W.Looks (model X.prog X.w) s1.heap (isInstance (.ref x) (.type "ValueError")) true := LT.andThen (PySem.W.looks_subIn KX1 SE.ve)
    have hxC : x ≠ C := fun z => by
      have e1 := KX1 _ _ hC
      rw [← z, ho1] at e1
      cases e1
    obtain ⟨h1, g1, d1, t1', os1⟩ := s1
    refine PySem.W.kxs_getMethod PySem.W.kxs_ValueError hso (PySem.W.looks_opaque KX1 SE.third) (l₀ := cd.mro) ?_ rfl KX1 hmro hI hxC (by decide +kernel) ?_
    · exact fun A Q E s k q => wpAny_bind ((PySem.W.looks_clsIn KX1 hcl) A _ E s k (wpAny_pure q))
    · show wpAny _ _ (callWith p3 (.ref h1.objs.size) [] (backTo p3 (starEach [.Constant (.str msg) j p5] X.env)) []) _ _ _
      have I2 : Inv X pins σ H ⟨h1.push (PySem.W.kxs_mw "ValueError.__init__" x), g1, d1, t1' + 1, os1⟩ := I1.kept (t' := t1' + 1) fun b o e => Heap.get?_push_of_some _ e
      have hu : (h1.push (PySem.W.kxs_mw "ValueError.__init__" x)).get? h1.objs.size = some (PySem.W.kxs_mw "ValueError.__init__" x) := Heap.get?_push_size _ rfl
      refine PySem.W.kxs_callWith (i := "ValueError.__init__") (x := x) rfl (Calls.evalArgs_plain (Calls.spliced_cons (Calls.Constant_str (pos := p5) (k := j) (Calls.spliced_nil ⟨hu, ?_⟩))))
      have I3 := I2.tok (t1' + 1 + 1)
      have ho3 : (h1.push (PySem.W.kxs_mw "ValueError.__init__" x)).get? x = some _ := Heap.get?_push_of_some _ ho1
      have hC3 : (h1.push (PySem.W.kxs_mw "ValueError.__init__" x)).get? C = some _ := Heap.get?_push_of_some _ (KX1 _ _ hC)
      show wpAny _ _ (call (.ref h1.objs.size) [.str msg _] []) _ _ _
      refine wpAny_call (codeAny_of_tree ?_)
      show wpAny _ _ (callAny (.ref h1.objs.size) ⟨[.str msg _], []⟩) _ _ _
      simp only [callAny]
      refine wpAny_bind (wpAny_load hu ?_)
      simp only [PySem.W.kxs_mw, show (Value.type "method-wrapper" == Value.type "method" || Value.type "method-wrapper" == Value.type "builtin_function_or_method" || Value.type "method-wrapper" == Value.type "method-wrapper") = true by decide, if_true]
      refine PySem.W.KFB.if_so (by decide) ?_
      refine wpAny_bind (PySem.W.check_bound_init PySem.F.excBase_ValueError.toExcCallFacts hC3 ho3 rfl ?_)
      refine wpAny_bind (wpAny_pure (wpAny_pure ?_))
      refine ⟨plainId_quiet PySem.F.excBase_ValueError.init.plain _, codeAny_builtin PySem.F.excBase_ValueError.initEntry ?_⟩
      refine PySem.W.exc_init_tree (cls := .ref C) (dv := none) (c2 := .none) (c3 := .none) (b4 := .bool false) ho3 (by show 1 ≤ sizeLine; decide) fun h' k hx' _ => ?_
      have J := I3.write (t' := t1' + 1 + 1) (x := x) (e := x) (o := exo x C none) (by rw [hx]; exact True.intro) (.inl rfl) k ⟨_, hx'⟩ (exo_ok hx')
      have eu : upd H x (exo x C none) = H := by
        funext b
        by_cases hb : b = x
        · rw [hb, upd_same, hx]
        · rw [upd_ne hb]
      rw [eu] at J
      exact h _ J
end
end Ta

set_option Elab.async false
set_option linter.all false
set_option maxRecDepth 100000
set_option maxHeartbeats 1000000
namespace Ta
open PySem PySem.Spec PyProof.Rows L2

theorem upd_comm {H : Hp} {a b : Addr} {o u : HO} (h : a ≠ b) : upd (upd H a o) b u = upd (upd H b u) a o := by
  funext c
  unfold upd
  by_cases h1 : c = a
  · subst h1; simp [h]
  · by_cases h2 : c = b
    · subst h2; simp [h1]
    · simp [h1, h2]
/-- __init__ of an exception with the fields fs -/
def spE (C : Addr) (fs : List Str) : Sp := fun vs H Q _ => ∃ a ws, vs = .ref a :: ws ∧ ws.length = fs.length ∧ H a = some (exo a C none) ∧
  (fs = [] → Q .non H) ∧ (fs ≠ [] → ∀ dx, H dx = none → dx ≠ a → Q .non (upd (upd H dx (exd dx (fs.zip ws).reverse)) a (exo a C (some dx))))
section
variable {P : Program} {w : World} {K : PySem.W.Frag} {mg : Str → Option Value} {base : Heap} {f D C : Addr} {F : NdefX.NF} {fd : FuncData}
  {p0 p1 p2 p3 p4 p5 q0 q1 q2 q3 r0 r1 r2 r3 s0 s1 s2 s3 : Pos} {j : Nat} {msg g1 g2 g3 : Str}
abbrev supSt (p0 p1 p2 p3 p4 p5 : Pos) (j : Nat) (msg : Str) : Stmt := .Expr (.Call (.Attribute (.Call (.Name "super" p0) [] [] p1) "__init__" p2) [.Constant (.str msg) j p5] [] p3) p4
abbrev stoSt (q0 q1 q2 q3 : Pos) (g : Str) : Stmt := .Assign [.Attribute (.Name "self" q0) g q1] (.Name g q2) q3
theorem sup_start {N ps : List Str} {A : Around} {outer : List Env} {s : Shared} {H : Hp} {vs ws : List V} {E : XK} {T : St → Hp → Prop} {a : Addr} {ar : Arg} (SF : SupFn P K f F D [] fd) (SE : SupExc K C D) (S : NdefX.NScope N ps ["__class__"] F.scope)
    (hsup : mg "super" = none) (hp : (F.params.posonlyargs ++ F.params.args).head? = some ar) (hN : N[0]? = some ar.arg) (hka : F.scope.names.lookup ar.arg = some .local) (hks : F.scope.names.lookup ("super" : Str) = some .globalImplicit)
    (hev : ∀ env : Env, ∃ pl, eval (.Call (.Attribute (.Call (.Name "super" p0) [] [] p1) "__init__" p2) [.Constant (.str msg) j p5] [] p3) env = (do
      let ov ← attributeBase (.Call (.Name "super" p0) [] [] p1) "__init__" env (eval (.Call (.Name "super" p0) [] [] p1) env)
      standAt p2.atName
      let (f, first) ← holding [ov] (getMethod ov "__init__" pl)
      callWith p3 f first (backTo p3 (starEach [.Constant (.str msg) j p5] env)) [])) (hvs : vs = .ref a :: ws) (ha : H a = some (exo a C none)) (q : T (NdefX.startF N vs [some (.ref D)]) H) :
    ∀ s', Inv (NdefX.ncx (L2.CX P w) P w K mg base N F f A outer s H E) [] (NdefX.startF N vs [some (.ref D)]) H s' →
      PySem.wpAt (model P w) (A.deeper (NdefX.envF F f s.heap.objs.size)) (.func F.body (NdefX.envF F f s.heap.objs.size)) (exec (supSt p0 p1 p2 p3 p4 p5 j msg) (NdefX.envF F f s.heap.objs.size))
        (fun fl s'' => fl = .next ∧ ∃ σ' H', Inv (NdefX.ncx (L2.CX P w) P w K mg base N F f A outer s H E) [] σ' H' s'' ∧ T σ' H')
        (NdefX.ncx (L2.CX P w) P w K mg base N F f A outer s H E).xe s' := fun s' I => by
  obtain ⟨pl, hev⟩ := hev (NdefX.envF F f s.heap.objs.size)
  refine sup_exc (X := NdefX.ncx (L2.CX P w) P w K mg base N F f A outer s H E) SF SE rfl I hsup hp 0 hN (by subst hvs; rfl) hka ha hks (S.frk _ List.mem_cons_self) S.kind (fun s2 I2 => ⟨rfl, _, _, I2, q⟩) rfl rfl pl hev
theorem ok_exc0 (hbd : F.body = [supSt p0 p1 p2 p3 p4 p5 j msg]) (SF : SupFn P K f F D [] fd) (SE : SupExc K C D) (S : NdefX.NScope ["self", "__class__"] ["self"] ["__class__"] F.scope) (hsup : mg "super" = none)
    (hp : (F.params.posonlyargs ++ F.params.args).head?.map (·.arg) = some ("self" : Str)) (hks : F.scope.names.lookup ("super" : Str) = some .globalImplicit)
    (hev : ∀ env : Env, ∃ pl, eval (.Call (.Attribute (.Call (.Name "super" p0) [] [] p1) "__init__" p2) [.Constant (.str msg) j p5] [] p3) env = (do
      let ov ← attributeBase (.Call (.Name "super" p0) [] [] p1) "__init__" env (eval (.Call (.Name "super" p0) [] [] p1) env)
      standAt p2.atName
      let (f, first) ← holding [ov] (getMethod ov "__init__" pl)
      callWith p3 f first (backTo p3 (starEach [.Constant (.str msg) j p5] env)) [])) : FnOk P w K mg base (L2.CX P w) 1 f fd ["self"] (spE C []) := by
  obtain ⟨ar, hp, har⟩ := Option.map_eq_some_iff.mp hp
  refine fn_sup SF hbd S (fun vs H Q E h => ?_) (fun A outer s H vs Q E hr h => ?_)
  · obtain ⟨a, ws, rfl, hl, _⟩ := h
    simp at hl; subst hl; rfl
  · obtain ⟨a, ws, rfl, hl, ha, h1, h2⟩ := h
    refine ⟨tNext, pss_nil, ?_⟩
    exact sup_start (T := tNext _) SF SE S hsup hp (by rw [har]; rfl) (by rw [har]; exact S.par _ List.mem_cons_self) hks hev rfl ha (h1 rfl)
theorem ok_exc1 (hbd : F.body = [supSt p0 p1 p2 p3 p4 p5 j msg, stoSt q0 q1 q2 q3 g1]) (SF : SupFn P K f F D [] fd) (SE : SupExc K C D) (S : NdefX.NScope ["self", g1, "__class__"] ["self", g1] ["__class__"] F.scope) (hsup : mg "super" = none)
    (hp : (F.params.posonlyargs ++ F.params.args).head?.map (·.arg) = some ("self" : Str)) (hks : F.scope.names.lookup ("super" : Str) = some .globalImplicit) (hg : PySem.W.findIn K (.ref C) g1 = some none)
    (hd : (g1 == ("__debug__" : Str)) = false) (hd2 : (g1 == ("__classdict__" : Str)) = false)
    (hev : ∀ env : Env, ∃ pl, eval (.Call (.Attribute (.Call (.Name "super" p0) [] [] p1) "__init__" p2) [.Constant (.str msg) j p5] [] p3) env = (do
      let ov ← attributeBase (.Call (.Name "super" p0) [] [] p1) "__init__" env (eval (.Call (.Name "super" p0) [] [] p1) env)
      standAt p2.atName
      let (f, first) ← holding [ov] (getMethod ov "__init__" pl)
      callWith p3 f first (backTo p3 (starEach [.Constant (.str msg) j p5] env)) [])) : FnOk P w K mg base (L2.CX P w) 1 f fd ["self", g1] (spE C [g1]) := by
  obtain ⟨ar, hp, har⟩ := Option.map_eq_some_iff.mp hp
  refine fn_sup SF hbd S (fun vs H Q E h => ?_) (fun A outer s H vs Q E hr h => ?_)
  · obtain ⟨a, ws, rfl, hl, _⟩ := h
    simpa using hl
  · obtain ⟨a, ws, rfl, hl, ha, h1, h2⟩ := h
    obtain ⟨v, rfl⟩ : ∃ v, ws = [v] := by
      match ws, hl with
      | [v], _ => exact ⟨v, rfl⟩
    have hv := S.par g1 (by simp)
    have hs := S.par "self" (by simp)
    refine ⟨_, pss_one (ps_ost (pe_var (i := 0) rfl (.inl hs) (by decide +kernel) (by decide +kernel)) (pe_var (i := 1) rfl (.inl hv) hd hd2) (by rfl)), ?_⟩
    refine sup_start (T := tOst K g1 (tVar 0) (tVar 1) _) SF SE S hsup hp (by rw [har]; rfl) (by rw [har]; exact hs) hks hev rfl ha ?_
    exact ⟨v, rfl, .ref a, rfl, a, C, rfl, SE.oex, hg, .inl ⟨ha, fun dx n ne => h2 (by simp) dx n ne⟩⟩
theorem ok_exc2 (hbd : F.body = [supSt p0 p1 p2 p3 p4 p5 j msg, stoSt q0 q1 q2 q3 g1, stoSt r0 r1 r2 r3 g2]) (SF : SupFn P K f F D [] fd) (SE : SupExc K C D) (S : NdefX.NScope ["self", g1, g2, "__class__"] ["self", g1, g2] ["__class__"] F.scope) (hsup : mg "super" = none)
    (hp : (F.params.posonlyargs ++ F.params.args).head?.map (·.arg) = some ("self" : Str)) (hks : F.scope.names.lookup ("super" : Str) = some .globalImplicit) (hg : PySem.W.findIn K (.ref C) g1 = some none) (hg2 : PySem.W.findIn K (.ref C) g2 = some none)
    (hd : (g1 == ("__debug__" : Str)) = false) (hd2 : (g1 == ("__classdict__" : Str)) = false) (hd3 : (g2 == ("__debug__" : Str)) = false) (hd4 : (g2 == ("__classdict__" : Str)) = false)
    (hev : ∀ env : Env, ∃ pl, eval (.Call (.Attribute (.Call (.Name "super" p0) [] [] p1) "__init__" p2) [.Constant (.str msg) j p5] [] p3) env = (do
      let ov ← attributeBase (.Call (.Name "super" p0) [] [] p1) "__init__" env (eval (.Call (.Name "super" p0) [] [] p1) env)
      standAt p2.atName
      let (f, first) ← holding [ov] (getMethod ov "__init__" pl)
      callWith p3 f first (backTo p3 (starEach [.Constant (.str msg) j p5] env)) [])) : FnOk P w K mg base (L2.CX P w) 1 f fd ["self", g1, g2] (spE C [g1, g2]) := by
  obtain ⟨ar, hp, har⟩ := Option.map_eq_some_iff.mp hp
  refine fn_sup SF hbd S (fun vs H Q E h => ?_) (fun A outer s H vs Q E hr h => ?_)
  · obtain ⟨a, ws, rfl, hl, _⟩ := h
    simpa using hl
  · obtain ⟨a, ws, rfl, hl, ha, h1, h2⟩ := h
    obtain ⟨v, v2, rfl⟩ : ∃ v v2, ws = [v, v2] := by
      match ws, hl with
      | [v, v2], _ => exact ⟨v, v2, rfl⟩
    have hv := S.par g1 (by simp)
    have hv2 := S.par g2 (by simp)
    have hs := S.par "self" (by simp)
    refine ⟨_, pss_cons (ps_ost (pe_var (i := 0) rfl (.inl hs) (by decide +kernel) (by decide +kernel)) (pe_var (i := 1) rfl (.inl hv) hd hd2) (by rfl)) (pss_one (ps_ost (pe_var (i := 0) rfl (.inl hs) (by decide +kernel) (by decide +kernel)) (pe_var (i := 2) rfl (.inl hv2) hd3 hd4) (by rfl))), ?_⟩
    refine sup_start (T := tSeq (tOst K g1 (tVar 0) (tVar 1)) (tOst K g2 (tVar 0) (tVar 2)) _) SF SE S hsup hp (by rw [har]; rfl) (by rw [har]; exact hs) hks hev rfl ha ?_
    refine ⟨v, rfl, .ref a, rfl, a, C, rfl, SE.oex, hg, .inl ⟨ha, fun dx n ne => ?_⟩⟩
    refine ⟨v2, rfl, .ref a, rfl, a, C, rfl, SE.oex, hg2, .inr ⟨dx, _, upd_same, by rw [upd_ne ne, upd_same], by simp, ?_⟩⟩
    have e := h2 (by simp) dx n ne
    rw [upd_comm (Ne.symm ne), upd_upd]
    exact e
theorem ok_exc3 (hbd : F.body = [supSt p0 p1 p2 p3 p4 p5 j msg, stoSt q0 q1 q2 q3 g1, stoSt r0 r1 r2 r3 g2, stoSt s0 s1 s2 s3 g3]) (SF : SupFn P K f F D [] fd) (SE : SupExc K C D) (S : NdefX.NScope ["self", g1, g2, g3, "__class__"] ["self", g1, g2, g3] ["__class__"] F.scope) (hsup : mg "super" = none)
    (hp : (F.params.posonlyargs ++ F.params.args).head?.map (·.arg) = some ("self" : Str)) (hks : F.scope.names.lookup ("super" : Str) = some .globalImplicit) (hg : PySem.W.findIn K (.ref C) g1 = some none) (hg2 : PySem.W.findIn K (.ref C) g2 = some none) (hg3 : PySem.W.findIn K (.ref C) g3 = some none)
    (hd : (g1 == ("__debug__" : Str)) = false) (hd2 : (g1 == ("__classdict__" : Str)) = false) (hd3 : (g2 == ("__debug__" : Str)) = false) (hd4 : (g2 == ("__classdict__" : Str)) = false) (hd5 : (g3 == ("__debug__" : Str)) = false) (hd6 : (g3 == ("__classdict__" : Str)) = false)
    (hev : ∀ env : Env, ∃ pl, eval (.Call (.Attribute (.Call (.Name "super" p0) [] [] p1) "__init__" p2) [.Constant (.str msg) j p5] [] p3) env = (do
      let ov ← attributeBase (.Call (.Name "super" p0) [] [] p1) "__init__" env (eval (.Call (.Name "super" p0) [] [] p1) env)
      standAt p2.atName
      let (f, first) ← holding [ov] (getMethod ov "__init__" pl)
      callWith p3 f first (backTo p3 (starEach [.Constant (.str msg) j p5] env)) [])) :
    FnOk P w K mg base (L2.CX P w) 1 f fd ["self", g1, g2, g3] (spE C [g1, g2, g3]) := by
  obtain ⟨ar, hp, har⟩ := Option.map_eq_some_iff.mp hp
  refine fn_sup SF hbd S (fun vs H Q E h => ?_) (fun A outer s H vs Q E hr h => ?_)
  · obtain ⟨a, ws, rfl, hl, _⟩ := h
    simpa using hl
  · obtain ⟨a, ws, rfl, hl, ha, h1, h2⟩ := h
    obtain ⟨v, v2, v3, rfl⟩ : ∃ v v2 v3, ws = [v, v2, v3] := by
      match ws, hl with
      | [v, v2, v3], _ => exact ⟨v, v2, v3, rfl⟩
    have hv := S.par g1 (by simp)
    have hv2 := S.par g2 (by simp)
    have hv3 := S.par g3 (by simp)
    have hs := S.par "self" (by simp)
    refine ⟨_, pss_cons (ps_ost (pe_var (i := 0) rfl (.inl hs) (by decide +kernel) (by decide +kernel)) (pe_var (i := 1) rfl (.inl hv) hd hd2) (by rfl)) (pss_cons (ps_ost (pe_var (i := 0) rfl (.inl hs) (by decide +kernel) (by decide +kernel)) (pe_var (i := 2) rfl (.inl hv2) hd3 hd4) (by rfl))
      (pss_one (ps_ost (pe_var (i := 0) rfl (.inl hs) (by decide +kernel) (by decide +kernel)) (pe_var (i := 3) rfl (.inl hv3) hd5 hd6) (by rfl)))), ?_⟩
    refine sup_start (T := tSeq (tOst K g1 (tVar 0) (tVar 1)) (tSeq (tOst K g2 (tVar 0) (tVar 2)) (tOst K g3 (tVar 0) (tVar 3))) _) SF SE S hsup hp (by rw [har]; rfl) (by rw [har]; exact hs) hks hev rfl ha ?_
    refine ⟨v, rfl, .ref a, rfl, a, C, rfl, SE.oex, hg, .inl ⟨ha, fun dx n ne => ?_⟩⟩
    refine ⟨v2, rfl, .ref a, rfl, a, C, rfl, SE.oex, hg2, .inr ⟨dx, _, upd_same, by rw [upd_ne ne, upd_same], by simp, ?_⟩⟩
    refine ⟨v3, rfl, .ref a, rfl, a, C, rfl, SE.oex, hg3, .inr ⟨dx, _, by rw [upd_ne (Ne.symm ne), upd_same], upd_same, by simp, ?_⟩⟩
    have e := h2 (by simp) dx n ne
    rw [upd_upd, upd_comm (Ne.symm ne), upd_upd]
    exact e
end
/-! ### raise X(..) -/
section
variable (P : Program) (w : World) (K : PySem.W.Frag) (mg : Str → Option Value) (base : Heap)
structure Ex (x : Str) (C : Addr) (fs : List Str) : Prop where
  ex : ∃ (f : Addr) (fd : FuncData) (ps : List Str), FnOk P w K mg base (L2.CX P w) 1 f fd ps (spE C fs) ∧ PySem.W.findIn K (.ref C) "__init__" = some (some (.ref f)) ∧ PySem.W.typeIn K (.ref f) = some (.type "function") ∧ Binds K fd ps [] ∧ mg x = some (.ref C)
  oex : OexC K C
end
section
variable {X : Cx} {x : Str} {p pos : Pos} {e : Expr} {es : List Expr} {t : TA} {W : WX} {C : Addr} {fs : List Str}
def tRs (C : Addr) (fs : List Str) (W : WX) (t : TA) : TS := fun _ σ H => t σ H fun vs H1 => vs.length = fs.length ∧ ∀ d, H1 d = none → W (.ref C) (some d) σ (upd H1 d (.xd (fs.zip vs).reverse))
theorem xd_eq {H1 : Hp} {a d : Addr} {o1 o2 u v : HO} (ha : H1 a = none) (hda : d ≠ a) : upd (del (upd (upd (upd H1 a o1) d u) a o2) a) d v = upd H1 d v := by
  funext c
  unfold upd del
  by_cases h1 : c = d
  · simp [h1]
  · by_cases h2 : c = a
    · subst h2; simp [h1, ha]
    · simp [h1, h2]
theorem pmkE (G : Ex X.prog X.w X.K X.mg X.base x C fs) (hne : fs ≠ []) (hlen : fs.length ≤ 900) (hr : Room 2 X.A) (tk : Takes X W) (ha : PA X (e :: es) t) (hg : Gl X x) (hdb : (x == ("__debug__" : Str)) = false)
    (he : starEach (e :: es) X.env = (false, eval e X.env) :: starEach es X.env) (hpl : (backTo pos (starEach es X.env)).any (·.1) = false) :
    PMk X (.Call (.Name x p) (e :: es) [] pos) (fun σ H Q => t σ H fun vs H1 => vs.length = fs.length ∧ ∀ d, H1 d = none → Q (.ref C) (some d) (upd H1 d (.xd (fs.zip vs).reverse))) := by
  obtain ⟨fI, fd, ps, F1, iC, tI, hb, hm⟩ := G.ex
  have T := G.oex
  intro pins s σ H Q I h
  obtain ⟨nm, q, N, bs, bm, sn, sub, ab, col, dd, k0, k1, k2, k3, k5, hC, hbm⟩ := T.cls
  refine wpAny_Call_Name_kw (ld_glob I hg hm ?_ hdb)
  refine PySem.W.callWith_K (h₀ := X.base) I.ok.mod.kin T.kC (thn (ha.run pos pins s σ H _ I h) fun us s1 ⟨vs, H1, I1, r1, hz, q1⟩ => ⟨I1.kIn, ?_⟩) he hpl
  show wpAny _ _ (call (.ref C) us) _ _ _
  obtain ⟨hp, g, dr, tok, os⟩ := s1
  have hsz : hp.objs.size ≤ hp.objs.size + 1 := Nat.le_succ _
  have hn : H1 (hp.objs.size + 1) = none := I1.hok.fresh hsz
  have hq : spE C fs (.ref (hp.objs.size + 1) :: vs) (upd H1 (hp.objs.size + 1) (exo (hp.objs.size + 1) C none))
      (fun v H2 => v = .non ∧ ∃ (d : Addr) (gs : List (Str × V)), H2 (hp.objs.size + 1) = some (exo (hp.objs.size + 1) C (some d)) ∧ H2 d = some (exd d gs) ∧ H1 d = none ∧ Q (.ref C) (some d) (upd (del H2 (hp.objs.size + 1)) d (.xd gs))) (fun _ _ _ => False) := by
    refine ⟨_, vs, rfl, hz, upd_same, fun e0 => absurd e0 hne, fun _ dx n ne => ⟨rfl, dx, _, upd_same, by rw [upd_ne ne, upd_same], ?_, ?_⟩⟩
    · rw [upd_ne ne] at n; exact n
    · rw [upd_ne ne] at n
      rw [xd_eq hn ne]; exact q1 dx n
  have kk : ∀ b o, hp.get? b = some o → ((hp.push (PySem.W.kdv_tup us)).push (PySem.HandSPX.excO C hp.objs.size)).get? b = some o := fun b o e => Heap.get?_push_of_some _ (Heap.get?_push_of_some _ e)
  have hget : ((hp.push (PySem.W.kdv_tup us)).push (PySem.HandSPX.excO C hp.objs.size)).get? (hp.objs.size + 1) = some (PySem.HandSPX.excO C hp.objs.size) := by heap_get
  have I2 : Inv X pins σ (upd H1 (hp.objs.size + 1) (exo (hp.objs.size + 1) C none)) ⟨(hp.push (PySem.W.kdv_tup us)).push (PySem.HandSPX.excO C hp.objs.size), g, dr, tok, os⟩ :=
    I1.laid (t' := tok) (a := hp.objs.size + 1) (o := exo (hp.objs.size + 1) C none) (h' := (hp.push (PySem.W.kdv_tup us)).push (PySem.HandSPX.excO C hp.objs.size)) kk hsz (exo_ok hget)
  have r2 : Vals (V.ref (hp.objs.size + 1) :: vs) (Value.ref (hp.objs.size + 1) :: us) := .cons rfl r1
  have hl : (Value.ref (hp.objs.size + 1) :: us ++ []).length = ps.length := by
    have e := r2.length
    rw [F1.len _ _ _ _ hq] at e
    rw [List.append_nil]
    exact e.symm
  have hus : us.length ≤ sizeLine := by
    rw [← Paired.length r1, sizeLine_eq]
    omega
  have hbi := hb ⟨(hp.push (PySem.W.kdv_tup us)).push (PySem.HandSPX.excO C hp.objs.size), g, dr, tok, os⟩ (Value.ref (hp.objs.size + 1) :: us) I2.kIn hl
  rw [List.append_nil] at hbi
  refine wpAny_call (PySem.HandSPX.call_own PySem.F.excBase_ValueError (fun Y => PySem.HandSPX.refsVE_contains Y bm hbm) (I1.kIn _ _ hC) (PySem.W.looks_findIn I1.kIn iC) (fun self => PySem.W.bind_fn I1.kIn self tI) hus
    (codeAny_mono (F1.run _ X.stack _ _ ⟨Value.ref (hp.objs.size + 1) :: us, []⟩ (Value.ref (hp.objs.size + 1) :: us) _ _ (fun _ _ _ => False) (hr.make C us []) (I2.env0.make C us []) hbi r2 hq) fun r s' hq' => ?_))
  cases r with
  | error er => exact tk er s' (XE.of_call I2 (fun _ _ _ z => z.elim) hq')
  | ok fl =>
    cases fl with
    | ret u =>
      obtain ⟨v, H2, os2, bare2, un2, hok2, rv, ev, d, gs, ea, ed, hd1, q2⟩ := hq'
      subst ev
      obtain ⟨h2, g2, d2, t2, os'⟩ := s'
      exact ⟨rv, mk_end (raises_own T.exC T.tyC) I1 hsz kk un2 hok2 os2 bare2 ea ed hd1 q2⟩
    | next => exact False.elim hq'
    | brk => exact False.elim hq'
    | cont => exact False.elim hq'
theorem praise (G : Ex X.prog X.w X.K X.mg X.base x C fs) (hr : Room 2 X.A) (tk : Takes X W) (ha : PA X (e :: es) t) {pos' : Pos} (hc : X.calm = true := by rfl) (hne : fs ≠ [] := by decide) (hlen : fs.length ≤ 900 := by decide) (hg : Gl X x := by rfl) (hdb : (x == ("__debug__" : Str)) = false := by decide +kernel)
    (he : starEach (e :: es) X.env = (false, eval e X.env) :: starEach es X.env := by rfl) (hpl : (backTo pos (starEach es X.env)).any (·.1) = false := by rfl) :
    PS X (.Raise (some (.Call (.Name x p) (e :: es) [] pos)) none pos') (tRs C fs W t) :=
  ps_raise hc tk (pmkE G hne hlen hr tk ha hg hdb he hpl)
end
end Ta

set_option Elab.async false
set_option linter.all false
set_option maxRecDepth 100000
set_option maxHeartbeats 1000000
namespace Ta
open PySem PySem.Spec PyProof.Rows L2

/-! ### a caught exception: its fields, isinstance -/
section
variable {X : Cx} {a : Addr} {oe : Obj} {cls : Value} {d : Option Addr} {pn : List (Addr × Obj)}
structure XC (K : PySem.W.Frag) (C : Addr) : Prop where
  x : XfC K C
  e : ExcC K C
def tXat (K : PySem.W.Frag) (a : Addr) (cls : Value) (d : Option Addr) (f : Str) (te : TE) : TE := fun σ H Q => te σ H fun x H1 => x = .ref a ∧ match cls with
  | .ref C => (match d with
    | some dd => XC K C ∧ PySem.W.findIn K (.ref C) f = some none ∧ look H1 dd fun o => (match o with
      | some (.xd fs) => fld fs f fun v => Q v H1
      | _ => False)
    | none => False)
  | _ => False
theorem tXat_e {K : PySem.W.Frag} {cls : Value} {d : Option Addr} {f : Str} {H1 : Hp} {k : V → Prop} (h : match cls with
  | .ref C => (match d with
    | some dd => XC K C ∧ PySem.W.findIn K (.ref C) f = some none ∧ look H1 dd fun o => (match o with
      | some (.xd fs) => fld fs f fun v => k v
      | _ => False)
    | none => False)
  | _ => False) : ∃ (C dd : Addr), cls = .ref C ∧ d = some dd ∧ XC K C ∧ PySem.W.findIn K (.ref C) f = some none ∧ look H1 dd fun o => match o with
    | some (.xd fs) => fld fs f fun v => k v
    | _ => False := by
  cases cls with
  | ref C =>
    cases d with
    | none => exact h.elim
    | some dd => exact ⟨C, dd, rfl, rfl, h⟩
  | _ => exact h.elim
theorem pxat {e : Expr} {te : TE} {pos : Pos} {n : Str} (hz : Zc cls d oe) (hf : ∃ vs, oe.data = .fields vs) (he : PE (X.suite a ((a, oe) :: pn)) e te) (hb : attributeBase e n X.env (eval e X.env) = eval e X.env := by rfl) :
    PE (X.suite a ((a, oe) :: pn)) (.Attribute e n pos) (tXat X.K a cls d n te) := by
  refine ⟨fun pins s σ H Q I h => ?_⟩
  refine attr_of hb (thn (he.run pins s σ H _ I h) fun u s1 hh => ?_)
  obtain ⟨x, H1, I1, rx, ex, hh⟩ := hh
  obtain ⟨C, dd, ec, ed, T, hno, q⟩ := tXat_e hh
  subst ex
  obtain rfl : u = Value.ref a := rx
  subst ec
  subst ed
  have q := look_e q
  cases ea : H1 dd with
  | none => rw [ea] at q; exact q.elim
  | some ob =>
    rw [ea] at q
    cases ob with
    | xd fs =>
      obtain ⟨v, l, q⟩ := fld_e q
      obtain ⟨ha, _⟩ := I1.pin (a, oe) (List.mem_append_left _ List.mem_cons_self)
      obtain ⟨vs, hd⟩ := hf
      have hx : ObjOk X.prog X.w H1 s1.heap dd (.xd fs) := I1.hok dd _ ea
      obtain ⟨mA, hns, hr⟩ := hx
      obtain ⟨od, ho, hl⟩ := lookIn_ns hns
      obtain ⟨u, hu, ru⟩ := RelO.some_of (v := v) (o := mA n) (by rw [← l]; exact hr n)
      have J : PySem.W.InstAt s1.heap a oe C (some od) := ⟨ha, hz.1, by unfold PySem.W.notCls; rw [hd] <;> rfl, by rw [hz.2]; exact ho⟩
      exact HandSPX.exc_get I1.kIn J T.x.ga T.x.gg T.x.exC (PySem.W.findObj_own T.x.hdC hno rfl (by rw [hl, hu])) (handed_of ru) ⟨v, H1, I1.tok _, ru, q⟩
    | _ => exact q.elim
def clsOf : V → Value
  | .ty n => .type n
  | .ref C => .ref C
  | _ => .none
def isCls : V → Bool
  | .ty _ => true
  | .ref _ => true
  | _ => false
theorem clsV_of {c : V} (h : isCls c = true) : ClsV c (clsOf c) := by
  cases c with
  | ty n => exact .ty n
  | ref C => exact .own C
  | _ => cases h
theorem clsV_all : ∀ {cs : List V}, cs.all isCls = true → Paired ClsV cs (cs.map clsOf)
  | [], _ => .nil
  | c :: cs, h => by
    simp only [List.all_cons, Bool.and_eq_true] at h
    exact .cons (clsV_of h.1) (clsV_all h.2)
/-- isinstance's second argument: a class, a tuple of classes that was laid -/
@[irreducible] def isaP (K : PySem.W.Frag) (t : Value) (c : V) (H : Hp) (Q : Bool → Prop) : Prop :=
  (isCls c = true ∧ ∃ b, PySem.W.kitOne K t (clsOf c) = some b ∧ Q b) ∨ ∃ tp cs b, c = .ref tp ∧ H tp = some (.tup cs) ∧ cs.all isCls = true ∧ PySem.W.kitAny K t (cs.map clsOf) = some b ∧ Q b
theorem isa_1 {K : PySem.W.Frag} {t : Value} {c : V} {H : Hp} {Q : Bool → Prop} {b : Bool} (h : isCls c = true) (h2 : PySem.W.kitOne K t (clsOf c) = some b) (q : Q b) : isaP K t c H Q := by
  unfold isaP; exact .inl ⟨h, b, h2, q⟩
theorem isa_t {K : PySem.W.Frag} {t : Value} {tp : Addr} {cs : List V} {H : Hp} {Q : Bool → Prop} {b : Bool} (h : H tp = some (.tup cs)) (h1 : cs.all isCls = true) (h2 : PySem.W.kitAny K t (cs.map clsOf) = some b) (q : Q b) : isaP K t (.ref tp) H Q := by
  unfold isaP; exact .inr ⟨tp, cs, b, rfl, h, h1, h2, q⟩
/-- isinstance(e, ..), e the caught exception -/
def zIsX (K : PySem.W.Frag) (a : Addr) (cls : Value) (d : Option Addr) : List V → Hp → VK → Prop := fun xs H Q => two xs fun x c => x = .ref a ∧ match cls with
  | .ref D => XC K D ∧ (match d with
    | some dd => look H dd fun o => (match o with
      | some (.xd fs) => isaP K (.ref D) c H fun b => Q (.bl b) H
      | _ => False)
    | none => isaP K (.ref D) c H fun b => Q (.bl b) H)
  | _ => False
theorem zIsX_e {K : PySem.W.Frag} {cls : Value} {d : Option Addr} {c : V} {H : Hp} {k : Bool → Prop} (h : match cls with
  | .ref D => XC K D ∧ (match d with
    | some dd => look H dd fun o => (match o with
      | some (.xd fs) => isaP K (.ref D) c H k
      | _ => False)
    | none => isaP K (.ref D) c H k)
  | _ => False) : (∃ D, cls = .ref D ∧ XC K D) ∧ (∀ dd, d = some dd → ∃ fs, H dd = some (.xd fs)) ∧ isaP K cls c H k := by
  cases cls with
  | ref D =>
    obtain ⟨h1, h2⟩ := h
    cases d with
    | none => exact ⟨⟨D, rfl, h1⟩, fun _ z => (nomatch z), h2⟩
    | some dd =>
      have h2 := look_e h2
      cases e : H dd with
      | none => rw [e] at h2; exact h2.elim
      | some o =>
        rw [e] at h2
        cases o with
        | xd fs => exact ⟨⟨D, rfl, h1⟩, fun dd' z => by cases z; exact ⟨fs, e⟩, h2⟩
        | _ => exact h2.elim
  | _ => exact h.elim
theorem crisx (hz : Zc cls d oe) (hf : ∃ vs, oe.data = .fields vs) : CallR (X.suite a ((a, oe) :: pn)) (.builtin "isinstance") (zIsX X.K a cls d) := by
  intro pins s σ H xs us Q I r h
  obtain ⟨x, c, rfl, h⟩ := two_e h
  obtain ⟨rfl, h'⟩ := h
  obtain ⟨⟨D, rfl, T⟩, hdd, h⟩ := zIsX_e (k := fun b => Q (.bl b) H) h'
  obtain ⟨u1, u2, rfl, r1, r2⟩ := vals2 r
  cases (show u1 = Value.ref a from r1)
  obtain ⟨hget, _⟩ := I.pin (a, oe) (List.mem_append.mpr (.inl List.mem_cons_self))
  obtain ⟨vs, hv⟩ := hf
  have J : ∃ od, PySem.W.InstAt s.heap a oe D od := by
    cases d with
    | none => exact ⟨none, hget, hz.1, by unfold PySem.W.notCls; rw [hv] <;> rfl, by rw [hz.2]; trivial⟩
    | some dd =>
      obtain ⟨fs, hx⟩ := hdd dd rfl
      obtain ⟨mA, hns, _⟩ := (show ObjOk X.prog X.w H s.heap dd (.xd fs) from I.hok dd _ hx)
      obtain ⟨od, ho, _⟩ := lookIn_ns hns
      exact ⟨some od, hget, hz.1, by unfold PySem.W.notCls; rw [hv] <;> rfl, by rw [hz.2]; exact ho⟩
  obtain ⟨od, J⟩ := J
  have hcl : (PySem.W.clsIn X.K D).isSome = true := by
    obtain ⟨cd, h1, _⟩ := PySem.W.any_some T.e.hd
    rw [h1]; rfl
  have Z := PySem.W.kitx_exc (x := a) (ox := oe) (od := od) hcl T.e.hg T.e.hk T.e.hs T.e.ha T.e.hn T.e.ht T.e.hm
  unfold isaP at h
  rcases h with ⟨hc, b, e, q⟩ | ⟨tp, cs, b, rfl, hT, hc, e, q⟩
  · have e2 := (clsV_of hc).eq r2
    subst e2
    exact PySem.W.kia_one Z I.kIn J e (fun z => nomatch z) fun tk => ⟨.bl b, H, I.kept (t' := tk) fun _ _ z => z, rfl, q⟩
  · cases (show u2 = Value.ref tp from r2)
    obtain ⟨_, its, rv, o, h1, h2, n, h3⟩ := (show ObjOk X.prog X.w H s.heap tp (.tup cs) from I.hok tp _ hT)
    have e3 := ClsV.all (clsV_all hc) rv
    subst e3
    obtain ⟨oc, odd, dt, sl⟩ := o
    simp only at h2 h3
    subst h2 h3
    exact PySem.W.kia_tup Z I.kIn J h1 e (fun z => nomatch z) fun tk => ⟨.bl b, H, I.kept (t' := tk) fun _ _ z => z, rfl, q⟩
structure IsC (K : PySem.W.Frag) (C : Addr) : Prop where
  ex : ∀ (H : Hp) (a dx : Addr) (fs : List (Str × V)), H a = some (.ins C dx fs) → TyOf K H (.ref a) (.ref C)
/-- isinstance(x, ..) of any value -/
def tyOf (K : PySem.W.Frag) (x : V) (H : Hp) (k : Value → Prop) : Prop := match x with
  | .str _ => k (.type "str")
  | .int _ => k (.type "int")
  | .bl _ => k (.type "bool")
  | .non => k (.type "NoneType")
  | .ref p => look H p fun o => match o with
    | some (.ins C dx fs) => IsC K C ∧ k (.ref C)
    | some (.lst xs) => k (.type "list")
    | some (.tup xs) => k (.type "tuple")
    | some (.dK xs) => k (.type "dict")
    | _ => ∃ t, TyX K H (.ref p) t ∧ k t
  | _ => False
theorem tyOf_e {K : PySem.W.Frag} {x : V} {H : Hp} {k : Value → Prop} (h : tyOf K x H k) : ∃ t, TyX K H x t ∧ k t := by
  cases x with
  | str z => exact ⟨_, .base (.str z), h⟩
  | int z => exact ⟨_, .base (.int z), h⟩
  | bl z => exact ⟨_, .base (.bl z), h⟩
  | non => exact ⟨_, .base .non, h⟩
  | ref p =>
    have h := look_e h
    revert h
    cases e : H p with
    | none => exact fun h => h
    | some o =>
      cases o with
      | ins C dx fs => exact fun h => ⟨_, .base (h.1.ex H p dx fs e), h.2⟩
      | lst xs => exact fun h => ⟨_, .base (.lst e), h⟩
      | tup xs => exact fun h => ⟨_, .base (.tup e), h⟩
      | dK xs => exact fun h => ⟨_, .base (.dK e), h⟩
      | _ => exact fun h => h
  | _ => exact h.elim
def zIsa (K : PySem.W.Frag) : List V → Hp → VK → Prop := fun xs H Q => two xs fun x c => tyOf K x H fun t => isaP K t c H fun b => Q (.bl b) H
theorem crisa {X : Cx} : CallR X (.builtin "isinstance") (zIsa X.K) := by
  refine cr_imp (call_isi.or call_isiT) fun xs H Q h => ?_
  obtain ⟨x, c, rfl, h'⟩ := two_e h
  obtain ⟨t, ht, h⟩ := tyOf_e (K := X.K) (k := fun t => isaP X.K t c H fun b => Q (.bl b) H) h'
  unfold isaP at h
  rcases h with ⟨hc, b, e, q⟩ | ⟨tp, cs, b, rfl, hT, hc, e, q⟩
  · exact .inl ⟨x, c, t, _, b, rfl, clsV_of hc, ht, e, q⟩
  · exact .inr ⟨x, tp, cs, t, _, b, rfl, hT, clsV_all hc, ht, e, q⟩
end
/-! ### a def: its promise by its body -/
section
variable {P : Program} {w : World} {K : PySem.W.Frag} {mg : Str → Option Value} {base : Heap} {x qual : Str} {params : Arguments} {body : List Stmt} {scope : Scope} {dvs : List V} {kws : List (Str × V)} {f : Addr} {fd : FuncData}
/-- the wish of a def about what is raised -/
abbrev WD (E : XK) : WX := fun c d _ H => E c d H
abbrev EndD (Q : VK) : Ends := { nx := fun _ H' => Q .non H', rt := Q }
theorem def_ok {N ps : List Str} {k : Nat} {sp : Sp} (F : FunD K x qual params body scope dvs kws f fd) (S : FnScope N ps scope) (len : ∀ vs H Q E, sp vs H Q E → vs.length = ps.length) (t : WX → TS)
    (term : ∀ (cdv : Value) (A : Around) (outer : List Env) (s : Shared) (H : Hp) (E : XK), Room k (A.deeper (envOfC qual scope s.heap.objs.size f cdv)) → PSs (cxOf (L2.CX P w) P w K mg base N qual scope f cdv A outer s H E) body (t (WD E)))
    (rd : ∀ vs H Q E, sp vs H Q E → t (WD E) (EndD Q) (start N vs) H) : FnOk P w K mg base (L2.CX P w) (k + 1) f fd ps sp := by
  refine F.ok S len fun cdv A outer s H vs Q E hr h => ⟨t (WD E), ?_, rd vs H Q E h⟩
  exact term cdv A outer s H E hr
/-- the wish of the def's context -/
theorem takesD {P : Program} {w : World} {K : PySem.W.Frag} {mg : Str → Option Value} {base : Heap} {N : List Str} {qual : Str} {scope : Scope} {f : Addr} {cdv : Value} {A : Around} {outer : List Env} {s : Shared} {H : Hp} {E : XK} :
    Takes (cxOf (L2.CX P w) P w K mg base N qual scope f cdv A outer s H E) (WD E) := takes_of rfl rfl rfl rfl
theorem ownD {P : Program} {w : World} {K : PySem.W.Frag} {mg : Str → Option Value} {base : Heap} {N : List Str} {qual : Str} {scope : Scope} {f : Addr} {cdv : Value} {A : Around} {outer : List Env} {s : Shared} {H : Hp} {E : XK} :
    PassesOwn (model P w) (cxOf (L2.CX P w) P w K mg base N qual scope f cdv A outer s H E).A (cxOf (L2.CX P w) P w K mg base N qual scope f cdv A outer s H E).env (cxOf (L2.CX P w) P w K mg base N qual scope f cdv A outer s H E).xe := PassesOwn.leaving
end
end Ta
namespace Ta
open PySem PySem.Spec PyProof.Rows L2
/-! ### short forms for printed terms -/
section
variable {X : Cx}
theorem pset (i : Nat) {x : Str} {e : Expr} {te : TE} {pos pos' : Pos} (hN : X.N.Nodup) (he : PE X e te) (hi : X.N[i]? = some x := by rfl) (hx : Loc X.env.scope x := by first | exact Or.inl rfl | exact Or.inr rfl)
    (hs : swapsWith e (some (.Name x pos')) pos.line X.env = pure false := by rfl) (hf : X.fn x = true ∨ X.env.scope.names.lookup x = some .local := by first | exact .inl rfl | exact .inr rfl) : PS X (.Assign [.Name x pos'] e pos) (tAsg te (gName i)) := ps_set hN hi hx he hs hf
theorem pgn (i : Nat) {x : Str} {pos : Pos} (hN : X.N.Nodup) (hi : X.N[i]? = some x := by rfl) (hx : Loc X.env.scope x := by first | exact Or.inl rfl | exact Or.inr rfl)
    (hf : X.fn x = true ∨ X.env.scope.names.lookup x = some .local := by first | exact .inl rfl | exact .inr rfl) : PG X (.Name x pos) (gName i) := pg_name hN hi hx hf
theorem psub {o i e : Expr} {to ti te : TE} {pos pos' : Pos} (he : PE X e te) (ho : PE X o to) (hi : PE X i ti) (hs : swapsWithSole [.Subscript o i pos'] e pos.line X.env = pure false := by rfl) (hw : swappedStores [.Subscript o i pos'] e X.env = pure none := by rfl)
    (h3 : List.map (fun x => x.snd) (assignEach [.Subscript o i pos'] X.env) = [assign (.Subscript o i pos') X.env] := by rfl) (h4 : ∀ v : Value, assign (.Subscript o i pos') X.env v = (do
      let ov ← holding [v] (eval o X.env)
      let iv ← holding [v, ov] (eval i X.env)
      standAt pos'
      holding [v, ov, iv] (setItem ov iv v)
      release [v, ov, iv] []) := by intro v; rfl) : PS X (.Assign [.Subscript o i pos'] e pos) (tAsg te (gSub to ti zSetP)) := ps_asg he (pg_sub ho hi setp h4) hs hw h3
end
end Ta

set_option Elab.async false
set_option linter.all false
set_option maxRecDepth 100000
set_option maxHeartbeats 3200000
namespace Ta
open PySem PySem.Spec PyProof.Rows L2

/-! ### len(set(text)) -/
def dn {α : Type} [BEq α] (l : List α) : Nat := l.eraseDups.length
theorem dn_snoc {α : Type} [BEq α] [LawfulBEq α] (l : List α) (x : α) : dn (l ++ [x]) = if l.any (· == x) = true then dn l else dn l + 1 := by
  unfold dn
  rw [List.eraseDups_append]
  by_cases h : x ∈ l
  · have e : [x].removeAll l = [] := by simp [List.removeAll, h]
    rw [e, if_pos (by simpa using h)]; simp
  · have e : [x].removeAll l = [x] := by simp [List.removeAll, h]
    rw [e, if_neg (by simpa using h)]; simp [List.eraseDups_cons]
section
variable {prog : Program} {w : World} {A : Around} {R : Result → Shared → Prop} {I : Addr} {fp wr : List Addr} {G : Array GenState → Array GenState → Prop} {n : Nat} {P : Nat → Value → Prop} {St : Nat → Shared → Prop}
theorem dn_le {α : Type} [BEq α] [LawfulBEq α] (l : List α) : dn l ≤ l.length := by
  suffices h : ∀ m : List α, dn m.reverse ≤ m.reverse.length by
    have z := h l.reverse
    rw [List.reverse_reverse] at z
    exact z
  intro m
  induction m with
  | nil => simp [dn]
  | cons x m ih =>
    rw [List.reverse_cons, dn_snoc]
    split <;> simp <;> simp at ih <;> omega
theorem loopN (W : WalksS prog w A.in1 I fp wr G n P St) (S : Addr) (hSf : S ∉ fp) (xs : List Str) (hsz : xs.length = n) (hn1 : n + 1 < scanBound)
    (hval : ∀ i v, P i v → ∃ t, v = .str (xs.getD i Str.empty) t) :
    ∀ (k i : Nat) (s : Shared), n - i = k → i ≤ n → St i s →
      s.heap.SetOf (PySem.strKind prog w) S (fun k' => (xs.take i).any (· == k')) (dn (xs.take i)) →
      (∀ s', Moved (S :: wr) G s s' → s'.heap.SetOf (PySem.strKind prog w) S (fun k' => xs.any (· == k')) (dn xs) → R (.ok (.ret .none)) s') →
      codeAny (model prog w) A (.builtin "set.update.loop" ⟨[.ref S, .ref I], []⟩) R s := by
  have hSw : S ∉ wr := fun h => hSf (W.sub _ h)
  have hsub : ∀ b ∈ wr, b ∈ S :: wr := fun b hb => List.mem_cons_of_mem _ hb
  intro k
  induction k with
  | zero =>
    intro i s hk hi hst hS hR
    have hin : i = n := by omega
    subst hin
    refine codeAny_builtin PyProof.Rows.F.entry_set_update_loop ?_
    rw [Around.under_plainId PyProof.Rows.F.plain_set_update_loop _]
    show wpAny _ A.in1 (pyNext (.ref I) >>= _) _ _ s
    refine wpAny_bind (W.done s _ _ hst fun s' hm => ?_)
    show wpAny _ A.in1 (ret Value.none) _ _ s'
    rw [List.take_of_length_le (Nat.le_of_eq hsz)] at hS
    exact wpAny_pure (hR s' (hm.mono hsub) (by
      obtain ⟨o, es, ep, t, ho, rest⟩ := hS
      exact ⟨o, es, ep, t, hm.heap S _ hSw ho, rest⟩))
  | succ k ih =>
    intro i s hk hi hst hS hR
    have hlt : i < n := by omega
    have hlx : i < xs.length := by omega
    refine codeAny_builtin PyProof.Rows.F.entry_set_update_loop ?_
    rw [Around.under_plainId PyProof.Rows.F.plain_set_update_loop _]
    show wpAny _ A.in1 (pyNext (.ref I) >>= _) _ _ s
    refine wpAny_bind (W.item i s _ _ hlt hst fun v s' hP hst' hm => ?_)
    obtain ⟨t, rfl⟩ := hval i v hP
    have hS' : s'.heap.SetOf (PySem.strKind prog w) S (fun k' => (xs.take i).any (· == k')) (dn (xs.take i)) := by
      obtain ⟨o, es, ep, tb, ho, rest⟩ := hS
      exact ⟨o, es, ep, tb, hm.heap S _ hSw ho, rest⟩
    show wpAny _ A.in1 (holding [Value.str (xs.getD i Str.empty) t] (setAdd S (.str (xs.getD i Str.empty) t)) >>= _) _ _ s'
    refine wpAny_bind (wpAny_holding ?_)
    unfold setAdd
    refine wpAny_holding ?_
    refine wpAny_bind ((PySem.strKind prog w).pyHash (k := xs.getD i Str.empty) (strKind_is _ _ _ _) ?_)
    have hdn := dn_le (xs.take i)
    have htk : (xs.take i).length ≤ i := by rw [List.length_take]; omega
    refine wpAny_setAddHashed_of (knd := PySem.strKind prog w) (s := { s' with toks := s'.toks + 1 }) (strKind_is _ _ _ _) rfl hS' (by unfold scanBound at hn1 ⊢; omega) fun h' hsb hS2 => ?_
    have ex : xs.getD i Str.empty = xs[i] := by simp [List.getD, hlx]
    have et : xs.take (i + 1) = xs.take i ++ [xs[i]] := by rw [List.take_succ_eq_append_getElem hlx]
    have hSi : h'.SetOf (PySem.strKind prog w) S (fun k' => (xs.take (i + 1)).any (· == k')) (dn (xs.take (i + 1))) := by
      refine SetOf_congr hS2 (fun k' => ?_) ?_
      · show ((xs.take i).any (· == k') || decide (k' = xs.getD i Str.empty)) = (xs.take (i + 1)).any (· == k')
        rw [et, ex, List.any_append]
        congr 1
        by_cases e : k' = xs[i]
        · subst e; simp
        · have hb : (xs[i] == k') = false := by simpa [beq_iff_eq] using (fun h' : xs[i] = k' => e h'.symm)
          simp [hb, e]
      · rw [et, dn_snoc, ex]
    refine wpAny_pure ⟨plainId_quiet PyProof.Rows.F.plain_set_update_loop _, ih (i + 1) _ (by omega) hlt (W.frame _ s' _ _ hst' (Nat.le_succ _) fun b hb o e => ?_) hSi fun s'' hm'' hS'' => ?_⟩
    · rw [hsb.2 b (fun h : b = S => hSf (by rw [← h]; exact hb))]; exact e
    · refine hR s'' (Moved.trans W.gtrans ((hm.mono hsub).then_heap (Nat.le_succ _) fun b o hb e => ?_) hm'') hS''
      rw [hsb.2 b (fun h : b = S => hb (by rw [h]; exact List.mem_cons_self))]; exact e
end
section
variable {prog : Program} {w : World} {A : Around} {E : Value → Shared → Prop} {s : Shared}
def one1 (l : List Nat) : List Str := l.map fun c => S [c]
theorem sign_one {x : Str} {i : Nat} {v : Value} (h : SignAt x i v) : ∃ t, v = .str ((one1 (tl x)).getD i Str.empty) t := by
  obtain ⟨c, u, h1, rfl⟩ := h
  have e : (tl x)[i]? = some c := by simpa [tl] using h1
  exact ⟨u, by simp [one1, List.getD, List.getElem?_map, e]⟩
theorem call_set_text {x : Str} {t : Tok} {Q : Value → Shared → Prop} (hh : A.handled = none) (hn : (tl x).length + 1 < scanBound)
    (h : ∀ (h' : Heap) (tk : Nat), h'.SetOf (PySem.strKind prog w) s.heap.objs.size (fun k' => (one1 (tl x)).any (· == k')) (dn (one1 (tl x))) →
      (∀ b o, b < s.heap.objs.size → s.heap.get? b = some o → h'.get? b = some o) → Q (.ref s.heap.objs.size) { s with heap := h', toks := tk }) :
    wpAny (model prog w) A (call (.type "set") [.str x t]) Q E s := by
  obtain ⟨c, tl', hmro⟩ := PySem.F.called_set.mro
  have hmade := PySem.F.called_set.made
  have hsub := PySem.F.called_set.sub
  refine wpAny_call (codeAny_of_tree ?_)
  show wpAny _ _ (callAny (.type "set") _) _ _ _
  refine wpAny_pure ⟨Code.quiet_builtin _ (by decide +kernel), codeAny_builtin PySem.F.entry_type_call ?_⟩
  rw [Around.under_plain (weight_type_call_type "set" [.str x t] []) rfl]
  have h1 := PySem.F.called_set.notType
  have h2 := PySem.F.called_set.canCreate
  have hct := PySem.F.typeCall_set_1 (.str x t)
  repeat (any_goals (first | assumption | wp_step))
  refine codeAny_mono (code_set_new_1 (.str x t) (E := E) (Q₁ := fun obj s₁ => ∃ led : Bool, obj = .ref s.heap.objs.size ∧ s₁ = { s with heap := s.heap.push { cls := .type "set", dict := none, data := .set #[] 0 (.fresh 0 0 led) } }) fun led => ⟨led, rfl, rfl⟩) fun r s₁ hr => ?_
  cases r with
  | error e => exact hr
  | ok fl =>
    cases fl with
    | ret obj =>
      obtain ⟨led, rfl, rfl⟩ := hr
      have hS : (s.heap.push { cls := .type "set", dict := none, data := .set #[] 0 (.fresh 0 0 led) }).get? s.heap.objs.size = some { cls := .type "set", dict := none, data := .set #[] 0 (.fresh 0 0 led) } := Heap.get?_push_size _ rfl
      have hT : Shared.TypeIs { s with heap := s.heap.push { cls := .type "set", dict := none, data := .set #[] 0 (.fresh 0 0 led) } } (.ref s.heap.objs.size) "set" := ⟨_, hS, rfl⟩
      have hli := PySem.F.called_set.init.lookup
      have hbi := PySem.F.called_set.init.bind (.ref s.heap.objs.size)
      repeat (any_goals (first | assumption | wp_step))
      refine codeAny_mono (codeAny_call_builtin (R := wants (fun r s₂ => r = .none ∧ ∃ h' tk, s₂ = { s with heap := h', toks := tk } ∧
          h'.SetOf (PySem.strKind prog w) s.heap.objs.size (fun k' => (one1 (tl x)).any (· == k')) (dn (one1 (tl x))) ∧
          (∀ b o, b < s.heap.objs.size → s.heap.get? b = some o → h'.get? b = some o)) E) PySem.F.called_set.init.plain PySem.F.entry_set_init (check_set_init_1 hT ?_)) fun r₂ s₂ hr₂ => ?_
      · have hsls := PySem.F.sub_str_set
        have hslf := PySem.F.sub_str_frozenset
        have hne : (Value.type "str" == Value.type "dict") = false := by decide
        unfold Builtin.«set.__init__» noKeywords Builtin.Frozenset.updateFrom
        generalize hPI : pyIter = PI
        wp_walk
        subst hPI
        refine wpAny_pyIter_str fun o St W hst => ?_
        refine wpAny_bind (wpAny_runValue ?_)
        have hh3 : A.in1.in1.in1.handled = none := by simp [hh]
        have hSf : s.heap.objs.size ∉ [(s.heap.push { cls := .type "set", dict := none, data := .set #[] 0 (.fresh 0 0 led) }).objs.size] := by
          rw [Heap.size_push]; simp only [List.mem_singleton]
          exact Nat.ne_of_lt (Nat.lt_succ_self _)
        have hsz : (one1 (tl x)).length = x.cps.size := by simp [one1, tl]
        have hszn : x.cps.size = (tl x).length := by simp [tl]
        refine loopN ((W _ hh3).toS) s.heap.objs.size
          hSf (one1 (tl x)) hsz (by rw [hszn]; exact hn) (fun i v h => sign_one h) (x.cps.size - 0) 0 _ (by omega) (Nat.zero_le _)
          hst ?hS0 ?hR
        case hS0 =>
          have hget : ((s.heap.push { cls := .type "set", dict := none, data := .set #[] 0 (.fresh 0 0 led) }).push o).get? s.heap.objs.size
              = some { cls := .type "set", dict := none, data := .set #[] 0 (.fresh 0 0 led) } := Heap.get?_push_of_some _ hS
          exact PyProof.Rows.SetOf_congr ((PyProof.Rows.setObjOf_fresh (knd := PySem.strKind prog w) led).setOf hget (by unfold scanBound; omega)) (fun _ => rfl) rfl
        case hR =>
          intro s' hm hS'
          obtain ⟨h', g', d', tk', os'⟩ := s'
          have eg : g' = s.gens := hm.gens
          have ed : d' = s.drawn := hm.drawn
          have eo : os' = s.os := hm.os
          subst eg; subst ed; subst eo
          show wpAny _ _ _ _ _ _
          refine wpAny_pure ?_
          show wpAny _ _ (ret Value.none) _ _ _
          refine wpAny_pure ⟨rfl, h', tk', rfl, hS', fun b o hb e => ?_⟩
          have hb1 : b ≠ s.heap.objs.size := Nat.ne_of_lt hb
          have hb2 : b ≠ (s.heap.push { cls := .type "set", dict := none, data := .set #[] 0 (.fresh 0 0 led) }).objs.size := by
            rw [Heap.size_push]; exact Nat.ne_of_lt (Nat.lt_succ_of_lt hb)
          exact hm.heap b o (by simp only [List.mem_cons, List.mem_singleton, List.not_mem_nil, or_false, not_or]; exact ⟨hb1, hb2⟩) (Heap.get?_push_of_some _ (Heap.get?_push_of_some _ e))
      · cases r₂ with
        | error e => exact hr₂
        | ok fl₂ =>
          cases fl₂ with
          | ret r =>
            obtain ⟨rfl, h', tk, rfl, hS', hk'⟩ := hr₂
            repeat (any_goals (first | assumption | wp_step))
            exact h _ _ hS' hk'
          | _ => exact hr₂.elim
    | _ => exact hr.elim
end
end Ta

set_option Elab.async false
set_option linter.all false
set_option maxRecDepth 100000
set_option maxHeartbeats 3200000
namespace Ta
open PySem PySem.Spec PyProof.Rows L2
theorem dn_map {α β : Type} [BEq α] [LawfulBEq α] [BEq β] [LawfulBEq β] (f : α → β) (hf : ∀ x y, f x = f y → x = y) (l : List α) : dn (l.map f) = dn l := by
  suffices h : ∀ m : List α, dn (m.reverse.map f) = dn m.reverse by
    have z := h l.reverse
    rw [List.reverse_reverse] at z
    exact z
  intro m
  induction m with
  | nil => simp [dn]
  | cons x m ih =>
    rw [List.reverse_cons, List.map_append, List.map_cons, List.map_nil, dn_snoc, dn_snoc, ih]
    have e : ((m.reverse.map f).any fun y => y == f x) = (m.reverse.any fun y => y == x) := by
      rw [List.any_map]
      congr 1
      funext y
      show (f y == f x) = (y == x)
      by_cases e : y = x
      · subst e; rw [beq_self_eq_true, beq_self_eq_true]
      · rw [beq_eq_false_iff_ne.mpr e, beq_eq_false_iff_ne.mpr fun z => e (hf _ _ z)]
    rw [e]
theorem S1_inj (x y : Nat) (h : S [x] = S [y]) : x = y := by
  injection h with h
  injection h with h
  injection h
def zLset (x : V) (H : Hp) (Q : VK) : Prop := match x with
  | .str z => (tl z).length < 4000 ∧ Q (.int (dn (tl z))) H
  | _ => False
def tLset (ta : TE) : TE := fun σ H Q => ta σ H fun x H1 => zLset x H1 Q
section
variable {X : Cx}
theorem plset {a : Expr} {ta : TE} {p p2 q pos : Pos} (hc : X.calm = true) (hm : X.mg "len" = none) (hm2 : X.mg "set" = none) (ha : PE X a ta) (hg : Gl X "len" := by rfl) (hg2 : Gl X "set" := by rfl)
    (na : starEach [a] X.env = (false, eval a X.env) :: starEach [] X.env := by rfl) : PE X (.Call (.Name "len" p) [.Call (.Name "set" p2) [a] [] q] [] pos) (tLset ta) := by
  refine ⟨fun pins s σ H Q I h => ?_⟩
  refine Call_ (ld_blt I hg hm boot_len ?_)
  refine PyProof.Rows.callWith_builtin1 (PyProof.Rows.args_cons ?_ rfl) rfl rfl
  refine Call_ (ld_blt I hg2 hm2 boot_set ?_)
  refine PyProof.Rows.callWith_type1 (PyProof.Rows.args_cons (thn (ha.run pins s σ H _ I h) fun v s1 ⟨x, H1, I1, r1, q1⟩ => PyProof.Rows.args_nil ?_) na) na rfl
  cases x with
  | str z =>
    obtain ⟨h1, q1⟩ := q1
    obtain ⟨t, rfl⟩ := r1
    refine call_set_text (I1.ok.hd hc) (by unfold scanBound; omega) fun h' tk hS hk => ?_
    refine PyProof.Rows.args_nil ?_
    have edn : dn (one1 (tl z)) = dn (tl z) := dn_map _ S1_inj _
    have hle := dn_le (tl z)
    obtain ⟨o, es, ep, t, ho, hex, hd, _, _, _, hf, hn⟩ := hS
    have I2 : Inv X pins σ H1 { s1 with heap := h', toks := tk } := I1.kept fun b o e => hk b o (Heap.lt_size e) e
    refine call_len_set ho hex hd hf (by rw [hn, edn]; omega) ⟨.int (dn (tl z)), H1, I2.tok _, ⟨_, by rw [hn, edn]⟩, q1⟩
  | _ => exact False.elim q1
end

/-! ### sorted(text) -/
def srt (l : List Nat) : List Nat := l.mergeSort fun a b => decide (a ≤ b)
theorem srt_perm (l : List Nat) : (srt l).Perm l := List.mergeSort_perm _ _
theorem srt_pw (l : List Nat) : (srt l).Pairwise (· ≤ ·) := by
  have h := List.pairwise_mergeSort (le := fun a b : Nat => decide (a ≤ b)) (fun a b c h1 h2 => by simp at *; omega) (fun a b => by simp; omega) l
  exact h.imp fun z => by simpa using z
theorem srt_uniq {l m : List Nat} (h : m.Perm l) (hp : m.Pairwise (· ≤ ·)) : m = srt l :=
  List.Perm.eq_of_pairwise (fun _ _ _ _ a b => Nat.le_antisymm a b) hp (srt_pw l) (h.trans (srt_perm l).symm)
def sgn (l : List Nat) : List V := l.map fun c => V.str (S [c])
theorem perm_map_inv {α β : Type} {f : α → β} : ∀ {l : List α} {m : List β}, m.Perm (l.map f) → ∃ l' : List α, m = l'.map f ∧ l'.Perm l := by
  intro l m h
  generalize e : l.map f = k at h
  induction h generalizing l with
  | nil => exact ⟨[], rfl, by simp at e; subst e; exact .nil⟩
  | cons x h ih =>
    cases l with
    | nil => cases e
    | cons y l =>
      injection e with e1 e2
      obtain ⟨l', h1, h2⟩ := ih e2
      exact ⟨y :: l', by rw [h1, ← e1]; rfl, h2.cons y⟩
  | swap x y t =>
    cases l with
    | nil => cases e
    | cons a l => cases l with
      | nil => cases e
      | cons b l =>
        injection e with e1 e2
        injection e2 with e2 e3
        exact ⟨b :: a :: l, by rw [List.map_cons, List.map_cons, e1, e2, e3], .swap a b l⟩
  | trans h1 h2 ih1 ih2 =>
    obtain ⟨l1, e1, p1⟩ := ih2 e
    obtain ⟨l2, e2, p2⟩ := ih1 e1.symm
    exact ⟨l2, e2, p2.trans p1⟩
theorem rising_one : ∀ (l : List Nat) (a : Nat), risingS (S [a]) (l.map fun c => S [c]) = true → l.Pairwise (· ≤ ·) ∧ ∀ b ∈ l, a ≤ b
  | [], a, _ => ⟨.nil, fun _ h => nomatch h⟩
  | b :: l, a, h => by
    simp only [List.map_cons, risingS, Bool.and_eq_true] at h
    obtain ⟨h1, h2⟩ := h
    obtain ⟨i1, i2⟩ := rising_one l b h2
    have hab : a ≤ b := by
      have z : ltCps [b] [a] = false := by simpa using h1
      unfold ltCps at z
      apply Decidable.byContradiction
      intro hc
      have : b < a := by omega
      simp [this] at z
    refine ⟨.cons i2 i1, fun c hc => ?_⟩
    rcases List.mem_cons.mp hc with rfl | hc
    · exact hab
    · exact Nat.le_trans hab (i2 c hc)
theorem sorted_one (l : List Nat) (h : sortedS (l.map fun c => S [c]) = true) : l.Pairwise (· ≤ ·) := by
  cases l with
  | nil => exact .nil
  | cons a l => exact .cons (rising_one l a h).2 (rising_one l a h).1
def zSrt1 (x : V) (H : Hp) (Q : VK) : Prop := match x with
  | .str z => (tl z).length < 64 ∧ ∀ p, H p = none → Q (.ref p) (upd H p (.lst (sgn (srt (tl z)))))
  | _ => False
def zSort1 : List V → Hp → VK → Prop := fun xs H Q => one xs fun x => zSrt1 x H Q
section
variable {X : Cx}
theorem crsort (hcalm : X.calm = true) : CallR X (.builtin "sorted") zSort1 := by
  intro pins s σ H xs us Q I r q
  obtain ⟨x, rfl, q⟩ := one_e q
  obtain ⟨u, eu, rx⟩ := vals1 r
  subst eu
  cases x with
  | str z =>
    obtain ⟨h64, q⟩ := q
    obtain ⟨t, rfl⟩ := rx
    refine Calls.call_function_entry PyProof.Rows.kind_sorted PyProof.Rows.plain_sorted PyProof.Rows.entry_sorted (PyProof.Rows.args_sorted1 _) ?_
    unfold Builtin.«sorted»
    refine wpAny_bind (m := checkCount "sorted" 1 1 _) (wpAny_pure ?_)
    have hsz : z.cps.size = (tl z).length := by simp [tl]
    refine wpAny_bind (wpAny_collect_str (A := X.A.in1) (I.ok.hd hcalm) z t (fun s' acc hk hg hd ho hacc => ?_) (by rw [hsz, sizeLine_eq]; omega))
    obtain ⟨h', g', d', tk, os'⟩ := s'
    simp only at hk hg hd ho
    subst hg; subst hd; subst ho
    have hal : acc.toList.length = (one1 (tl z)).length := by rw [Array.length_toList, hacc.1, hsz]; simp [one1]
    have hS : StrsAre acc.toList (one1 (tl z)) := L2.strs_at hal fun j v e => by
      obtain ⟨c, u, e1, e2⟩ := hacc.2 j v (by rw [← Array.getElem?_toList]; exact e)
      exact ⟨S [c], u, by simp [one1, tl, e1], e2⟩
    have hal2 : acc.toList.length < 64 := by rw [hal]; simpa [one1] using h64
    have I1 : Inv X pins σ H { s with heap := h', toks := tk } := I.kept hk
    refine wpAny_bind (wpAny_newList ?_ (by rw [sizeLine_eq]; omega))
    have hoL : (h'.push (seqObj "list" acc.toList.toArray 0)).get? h'.objs.size = some (seqObj "list" acc.toList.toArray 0) := Heap.get?_push_size _ rfl
    show wpAny _ _ _ _ _ { s with heap := h'.push (seqObj "list" acc.toList.toArray 0), toks := tk }
    refine wpAny_bind (wpAny_holding (wpAny_call_entry PyProof.Rows.slot_list_sort ⟨_, hoL, rfl⟩ PyProof.Rows.entry_list_sort
      (list_sort_treeK strKind_oneLt (s := { s with heap := h'.push (seqObj "list" acc.toList.toArray 0), toks := tk }) hoL hS.keysOf (fun v₁ v₂ rest e => keyKind_strs (by rw [← e]; exact hS)) hal2 fun st' hp hs => ⟨_, rfl, ?_⟩)
      (PyProof.Rows.args_list_sort _)))
    obtain ⟨ys, g1, g2, g3⟩ := sorted_out_str hS hp hs
    obtain ⟨e', he'⟩ := PyProof.Rows.sortedHeap_at (vs := acc.toList) (out := (arrOf st').map (·.2)) hoL
    obtain ⟨l', rfl, pl⟩ := perm_map_inv g2
    have el : l' = srt (tl z) := srt_uniq pl (sorted_one l' g3)
    subst el
    have hlen : (sgn (srt (tl z))).length ≤ sizeLine := by
      unfold sgn
      rw [List.length_map, (srt_perm _).length_eq, sizeLine_eq]; omega
    have ev : ((srt (tl z)).map fun c => S [c]).map V.str = sgn (srt (tl z)) := by unfold sgn; rw [List.map_map]; rfl
    refine wpAny_pure ⟨_, rfl, .ref h'.objs.size, upd H h'.objs.size (.lst (sgn (srt (tl z)))), I1.laid (t' := tk) (fun b u e => ?_) (Nat.le_refl _)
      (show ObjOk X.prog X.w _ _ _ (.lst (sgn (srt (tl z)))) from ⟨hlen, ((arrOf st').map (·.2)).toList, e', by rw [← ev]; exact vals_of_strs g1, by rw [Array.toArray_toList]; exact he'⟩), rfl, q _ (I1.hok.fresh (Nat.le_refl _))⟩
    have hb : b < h'.objs.size := Heap.lt_size e
    rw [PyProof.Rows.sortedHeap_old (Nat.ne_of_lt hb) (by rw [size_push']; exact Nat.lt_succ_of_lt hb)]
    exact Heap.get?_push_of_some _ e
  | _ => exact False.elim q
end
end Ta

set_option Elab.async false
set_option linter.all false
set_option maxRecDepth 100000
set_option maxHeartbeats 3200000
namespace Ta
open PySem PySem.Spec PyProof.Rows L2

/-! ### own == of two instances of one class -/
def zOwn (C : Addr) (sp : Sp) : R2 := fun x y H Q => match x with
  | .ref a => (match y with
    | .ref b => look H a fun o => (match o with
      | some (.ins C1 dx fs) => look H b fun o' => (match o' with
        | some (.ins C2 dy gs) => C1 = C ∧ C2 = C ∧ sp [.ref a, .ref b] H (fun v H' => ∃ k, v = .bl k ∧ Q (.bl k) H') fun _ _ _ => False
        | _ => False)
      | _ => False)
    | _ => False)
  | _ => False
theorem zOwn_e {C : Addr} {sp : Sp} {x y : V} {H : Hp} {Q : VK} (h : zOwn C sp x y H Q) : ∃ a b dx fs dy gs, x = .ref a ∧ y = .ref b ∧ H a = some (.ins C dx fs) ∧ H b = some (.ins C dy gs) ∧ sp [.ref a, .ref b] H (fun v H' => ∃ k, v = .bl k ∧ Q (.bl k) H') fun _ _ _ => False := by
  cases x with
  | ref a =>
    cases y with
    | ref b =>
      have h := look_e h
      cases ea : H a with
      | none => rw [ea] at h; exact h.elim
      | some o =>
        rw [ea] at h
        cases o with
        | ins C1 dx fs =>
          have h := look_e h
          cases eb : H b with
          | none => rw [eb] at h; exact h.elim
          | some o' =>
            rw [eb] at h
            cases o' with
            | ins C2 dy gs =>
              obtain ⟨e1, e2, h3⟩ := h
              subst e1
              subst e2
              exact ⟨a, b, dx, fs, dy, gs, rfl, rfl, ea, eb, h3⟩
            | _ => exact h.elim
        | _ => exact h.elim
    | _ => exact h.elim
  | _ => exact h.elim
section
variable {X : Cx}
theorem opown {C : Addr} {lv : Nat} {sp : Sp} (M : Me X.prog X.w X.K X.mg X.base C "__eq__" lv [] sp) (hr : Room lv X.A) : OpR X (compareOp .Eq) (zOwn C sp) := by
  intro pins s σ H x y v u Q I rx ry h
  obtain ⟨a, b, dx, fs, dy, gs, rfl, rfl, ha, hb', h⟩ := zOwn_e h
  cases rx
  cases ry
  obtain ⟨⟨f, fd, ps, ds, F, hm, hd, hb⟩, cl⟩ := M
  cases hd
  obtain ⟨mA, J, _⟩ := ins_get I.hok ha
  obtain ⟨mB, J', _⟩ := ins_get I.hok hb'
  obtain ⟨od, J, _⟩ := J.look
  obtain ⟨od', J', _⟩ := J'.look
  obtain ⟨m, hF⟩ := I.fr
  show wpAny (model X.prog X.w) X.A (richCompare .Eq (.ref a) (.ref b)) (EP X pins σ Q) X.xe s
  refine PySem.W.cmp_K (op := .Eq) (tb := .ref C) hr.units0 hF I.ok.mod.kin J J'.type (by simp [PySem.W.notFirst]) hm.at_ hm.fn ?_
  have r2 : Vals [V.ref a, V.ref b] [Value.ref a, Value.ref b] := .cons rfl (.cons rfl .nil)
  refine wpAny_mono (run_fnSD (E := WE WF) (us := [.ref a, .ref b]) (vs := [.ref a, .ref b]) (Q := fun v H' => ∃ k, v = .bl k ∧ Q (.bl k) H') F hr hb .nil (passAt takes0 σ) I r2 h) (fun r s' q => ?_) fun _ _ z => z
  obtain ⟨z, H', I', rz, k, rfl, q⟩ := q
  cases rz
  exact ⟨.bl k, H', I', rfl, q⟩
theorem names_of {x : Str} {C : Addr} (h : GlobV X.mg x (.ref C)) (hg : Gl X x := by rfl) (hdb : (x == ("__debug__" : Str)) = false := by decide +kernel) : Names X x (.ref C) := by
  obtain ⟨u, hm, r⟩ := h.ex
  cases (show u = Value.ref C from r)
  exact ⟨hg, hdb, .inl hm⟩
end

/-! ### the clause of a try -/
theorem was_t {K : PySem.W.Frag} {c : Value} {i : Nat} {ts : Addr → Value → Option Addr → TS} {Wout : WX} {D : Ends} {cls : Value} {d : Option Addr} {σ : St} {H : Hp} (h : PySem.W.exmOne K cls c = some true)
    (q : ∀ a, H a = none → ts a cls d { nx := fun σ' H' => D.nx (σ'.set i none) H', rt := D.rt, bk := fun σ' H' => D.bk (σ'.set i none) H', ct := fun σ' H' => D.ct (σ'.set i none) H' } (σ.set i (some (.ref a))) H) : wAs K c i ts Wout D cls d σ H :=
  ⟨true, h, fun _ => q, (fun z => by cases z)⟩
theorem was_f {K : PySem.W.Frag} {c : Value} {i : Nat} {ts : Addr → Value → Option Addr → TS} {Wout : WX} {D : Ends} {cls : Value} {d : Option Addr} {σ : St} {H : Hp} (h : PySem.W.exmOne K cls c = some false)
    (q : Wout cls d σ H) : wAs K c i ts Wout D cls d σ H :=
  ⟨false, h, (fun z => by cases z), fun _ => q⟩

/-! ### heaps -/
/-- H' keeps what H has, but for F -/
def Kp (F : List Addr) (H H' : Hp) : Prop := ∀ q o, H q = some o → q ∉ F → H' q = some o
theorem Kp.rfl' {F : List Addr} {H : Hp} : Kp F H H := fun _ _ h _ => h
theorem Kp.trans {F : List Addr} {H H1 H2 : Hp} (a : Kp F H H1) (b : Kp F H1 H2) : Kp F H H2 := fun q o h n => b q o (a q o h n) n
theorem Kp.mono {F F' : List Addr} {H H' : Hp} (a : Kp F H H') (h : ∀ q ∈ F, q ∈ F') : Kp F' H H' := fun q o e n => a q o e fun z => n (h q z)
theorem Kp.nil {F : List Addr} {H H' : Hp} (a : Kp [] H H') : Kp F H H' := a.mono fun _ z => nomatch z
theorem Kp.new {F : List Addr} {H H1 : Hp} {p : Addr} {o : HO} (a : Kp F H H1) (h : H1 p = none) : Kp F H (upd H1 p o) := fun q o' e n => by
  have z := a q o' e n
  rw [upd_ne (ne_of_none z h)]; exact z
theorem Kp.at {F : List Addr} {H H1 : Hp} {p : Addr} {o : HO} (a : Kp F H H1) (h : p ∈ F) : Kp F H (upd H1 p o) := fun q o' e n => by
  have hne : q ≠ p := fun z => n (by rw [z]; exact h)
  rw [upd_ne hne]; exact a q o' e n
theorem Kp.own {F : List Addr} {H H1 : Hp} {p : Addr} {o : HO} (a : Kp F H H1) (h : H p = none) : Kp F H (upd H1 p o) := fun q o' e n => by
  rw [upd_ne (ne_of_none e h)]; exact a q o' e n
theorem upd_at {H : Hp} {p : Addr} {o : HO} : upd H p o p = some o := by unfold upd; rw [if_pos rfl]
theorem upd_fr {H : Hp} {p q : Addr} {o o' : HO} (h : H p = none) (hq : H q = some o) : upd H p o' q = some o := by rw [upd_ne (ne_of_none hq h)]; exact hq
theorem upd_off {H : Hp} {p q : Addr} {o o' : HO} (h : q ≠ p) (hq : H q = some o) : upd H p o' q = some o := by rw [upd_ne h]; exact hq
theorem upd_tw {H : Hp} {p : Addr} {o o' : HO} : upd (upd H p o) p o' = upd H p o' := by
  funext q; unfold upd; split <;> rfl
theorem mem1 {F : List Addr} {q : Addr} (h : ∀ x ∈ F, q ≠ x) : q ∉ F := fun z => h q z rfl
theorem ne_none {H : Hp} {p q : Addr} {o : HO} (h : H q = some o) (hp : H p = none) : q ≠ p := ne_of_none h hp
theorem ne_none' {H : Hp} {p q : Addr} {o : HO} (h : H q = some o) (hp : H p = none) : p ≠ q := (ne_of_none h hp).symm
theorem Kp.get {F : List Addr} {H H' : Hp} {q : Addr} {o : HO} (a : Kp F H H') (h : H q = some o) (n : q ∉ F) : H' q = some o := a q o h n
theorem Kp.get0 {H H' : Hp} {q : Addr} {o : HO} (a : Kp [] H H') (h : H q = some o) : H' q = some o := a q o h fun z => nomatch z
theorem Kp.get1 {p : Addr} {H H' : Hp} {q : Addr} {o : HO} (a : Kp [p] H H') (h : H q = some o) (n : q ≠ p) : H' q = some o := a q o h fun z => n (List.mem_singleton.mp z)
/-- a side goal, left to the end -/
@[irreducible] def Sd (p : Prop) : Prop := p
theorem sd_i {p : Prop} (h : p) : Sd p := by unfold Sd; exact h
theorem sd_e {p : Prop} (h : Sd p) : p := by unfold Sd at h; exact h
theorem cnd_d {c : Prop} [Decidable c] {p q : Prop} (h1 : c → p) (h2 : ¬ c → q) : cnd (decide c) p q := cnd_i (fun h => h1 (of_decide_eq_true h)) (fun h => h2 (of_decide_eq_false h))
theorem cnd_n {c : Bool} {p q : Prop} (h : cnd c q p) : cnd (!c) p q := by
  unfold cnd at h ⊢
  cases c <;> exact h

/-! ### [c for c in text if test] -/
theorem filter_take {l : List Nat} {f : Nat → Bool} {k c : Nat} (h : l[k]? = some c) : (l.take (k + 1)).filter f = (l.take k).filter f ++ (if f c = true then [c] else []) := by
  rw [List.take_succ, h]
  simp [List.filter_append, List.filter_cons]
theorem lcp_g {n : Nat} {it : Itm} {st : Hp → Prop} {l : List Nat} {i : Nat} {tt : TT} {te : TE} {σ : St} {H1 : Hp} {Q : VK} {vs : List Nat} (hn : n = l.length) (hit : ∀ k H x H', it k H x H' → H' = H ∧ ∃ c, l[k]? = some c ∧ x = .str (S [c])) (hst : ∀ D xs, H1 D = none → st (upd H1 D (.lst xs)))
    (f : Nat → Bool) (hl : l.length < 1000000) (ht : ∀ c D H' Q', H1 D = none → c ∈ l → (∃ xs, H' = upd H1 D (.lst xs)) → Q' (f c) H' → tt ((wipe σ vs).set i (some (.str (S [c])))) H' Q')
    (he : ∀ c H' Q', Q' (.str (S [c])) H' → te ((wipe σ vs).set i (some (.str (S [c])))) H' Q')
    (hw : ∀ v, wipe ((wipe σ vs).set i v) vs = wipe σ vs) (q : ∀ D, H1 D = none → Q (.ref D) (upd H1 D (.lst (sgn (l.filter f))))) : lcp n it st (gName i) tt te vs σ H1 Q := by
  subst hn
  refine lcp_i (fun D k H => H = upd H1 D (.lst (sgn ((l.take k).filter f)))) (fun D hD => rfl) (fun D k H hD _ e => by rw [e]; exact hst D _ hD) ?_ ?_
  · rintro D k x H H' hD hk rfl hi
    obtain ⟨rfl, c, hc, rfl⟩ := hit _ _ _ _ hi
    refine ⟨hw _, ht c D _ _ hD (List.mem_of_getElem? hc) ⟨_, rfl⟩ ?_⟩
    cases e : f c with
    | true =>
      rw [if_pos rfl]
      refine he c _ _ ⟨_, upd_at, ?_, ?_⟩
      · unfold sgn
        rw [List.length_map, sizeLine_eq]
        have h1 := List.length_filter_le f (l.take k)
        rw [List.length_take] at h1
        omega
      · rw [upd_tw, filter_take hc, e, if_pos rfl]
        unfold sgn
        rw [List.map_append]
        rfl
    | false =>
      rw [if_neg (by simp), filter_take hc, e, if_neg (by simp), List.append_nil]
  · rintro D H hD rfl
    rw [List.take_length]
    exact q D hD
theorem lcp_f {l : List Nat} {i : Nat} {tt : TT} {te : TE} {σ : St} {H1 : Hp} {Q : VK} {vs : List Nat} (f : Nat → Bool) (hl : l.length < 1000000)
    (ht : ∀ c D H' Q', H1 D = none → c ∈ l → (∃ xs, H' = upd H1 D (.lst xs)) → Q' (f c) H' → tt ((wipe σ vs).set i (some (.str (S [c])))) H' Q')
    (he : ∀ c H' Q', Q' (.str (S [c])) H' → te ((wipe σ vs).set i (some (.str (S [c])))) H' Q')
    (hw : ∀ v, wipe ((wipe σ vs).set i v) vs = wipe σ vs) (q : ∀ D, H1 D = none → Q (.ref D) (upd H1 D (.lst (sgn (l.filter f))))) : lcp l.length (itS l) (fun _ => True) (gName i) tt te vs σ H1 Q :=
  lcp_g rfl (fun _ _ _ _ h => h) (fun _ _ _ => trivial) f hl ht he hw q
theorem lcp_l {l : List Nat} {p : Addr} {i : Nat} {tt : TT} {te : TE} {σ : St} {H1 : Hp} {Q : VK} {vs : List Nat} (hp : H1 p = some (.lst (sgn l))) (f : Nat → Bool) (hl : l.length < 1000000)
    (ht : ∀ c D H' Q', H1 D = none → c ∈ l → (∃ xs, H' = upd H1 D (.lst xs)) → Q' (f c) H' → tt ((wipe σ vs).set i (some (.str (S [c])))) H' Q')
    (he : ∀ c H' Q', Q' (.str (S [c])) H' → te ((wipe σ vs).set i (some (.str (S [c])))) H' Q')
    (hw : ∀ v, wipe ((wipe σ vs).set i v) vs = wipe σ vs) (q : ∀ D, H1 D = none → Q (.ref D) (upd H1 D (.lst (sgn (l.filter f))))) : lcp (sgn l).length (itL (sgn l)) (fun H' => H' p = some (.lst (sgn l))) (gName i) tt te vs σ H1 Q := by
  refine lcp_g (l := l) (by unfold sgn; rw [List.length_map]) (fun k H x H' h => ⟨h.1, ?_⟩) (fun D xs hD => upd_fr hD hp) f hl ht he hw q
  have h2 := h.2
  unfold sgn at h2
  rw [List.getElem?_map] at h2
  cases e : l[k]? with
  | none => rw [e] at h2; cases h2
  | some c => rw [e] at h2; exact ⟨c, rfl, (Option.some.inj h2).symm⟩
theorem upd_self {H : Hp} {p : Addr} {o : HO} (h : H p = some o) : upd H p o = H := by
  funext q; unfold upd; split
  · rename_i e; rw [e, h]
  · rfl

theorem joinL_one : ∀ l : List Nat, TL.joinL [] (l.map fun c => [c]) = l
  | [] => rfl
  | [a] => rfl
  | a :: b :: l => by
    have ih := joinL_one (b :: l)
    show [a] ++ [] ++ TL.joinL [] ((b :: l).map fun c => [c]) = _
    rw [ih]
    rfl
theorem sum_one (l : List Nat) : ((l.map fun c => [c]).map List.length).sum = l.length := by
  induction l with
  | nil => rfl
  | cons a l ih => simp only [List.map_cons, List.sum_cons, ih, List.length_cons, List.length_nil]; omega
theorem joi_i {l : List Nat} {k : List Nat → Prop} (h : l.length ≤ 1000000) (q : k l) : joi (sgn l) (tl (S [])) k := by
  unfold joi
  refine ⟨l.map fun c => [c], by unfold sgn; rw [List.map_map]; rfl, ?_, ?_⟩
  · rw [sum_one, List.length_map]
    show _ + _ * 0 ≤ _
    omega
  · show k (TL.joinL [] _)
    rw [joinL_one]; exact q
theorem sgn_len (l : List Nat) : (sgn l).length = l.length := by unfold sgn; rw [List.length_map]
theorem srt_len (l : List Nat) : (srt l).length = l.length := (srt_perm l).length_eq
theorem sgn_fe (l : List Nat) (f : Nat → Bool) : (sgn (l.filter f)).isEmpty = !l.any f := by
  induction l with
  | nil => rfl
  | cons a l ih =>
    rw [List.filter_cons, List.any_cons]
    cases f a with
    | true => rfl
    | false => exact ih

theorem itm_s {α : Type} {l : List α} {i : Int} {k : α → Prop} (h0 : 0 ≤ i) (h1 : i < (l.length : Int)) (q : ∀ (j : Nat) (hj : j < l.length), i = (j : Int) → k l[j]) : itm l i k := by
  obtain ⟨j, rfl⟩ := Int.eq_ofNat_of_zero_le h0
  have hj : j < l.length := by omega
  exact itm_n rfl (List.getElem?_eq_getElem hj) (q j hj rfl)
theorem perm_out {l r : List Nat} {j : Nat} (hj : j < r.length) : ((l ++ [r[j]]) ++ (r.take j ++ r.drop (j + 1))).Perm (l ++ r) := by
  have e : r = r.take j ++ r[j] :: r.drop (j + 1) := by
    rw [List.getElem_cons_drop, List.take_append_drop]
  have h1 : (r[j] :: (r.take j ++ r.drop (j + 1))).Perm r := by
    refine List.Perm.trans ?_ (List.Perm.of_eq e.symm)
    exact List.perm_middle.symm
  rw [List.append_assoc]
  exact h1.append_left l
theorem dn_nodup (l : List Nat) : dn l = l.length ↔ l.Nodup := by
  suffices h : ∀ m : List Nat, dn m.reverse = m.reverse.length ↔ m.reverse.Nodup by
    have z := h l.reverse
    rw [List.reverse_reverse] at z
    exact z
  intro m
  induction m with
  | nil => simp [dn]
  | cons x m ih =>
    rw [List.reverse_cons, dn_snoc, List.length_append, List.nodup_append]
    have hle := dn_le m.reverse
    have ea : (m.reverse.any fun y => y == x) = decide (x ∈ m.reverse) := by
      rw [Bool.eq_iff_iff]; simp
    rw [ea]
    by_cases hx : x ∈ m.reverse
    · rw [if_pos (decide_eq_true hx)]
      constructor
      · intro h; simp at h hle; omega
      · rintro ⟨_, _, h⟩
        exact absurd rfl (h x hx x (List.mem_singleton.mpr rfl))
    · rw [if_neg (by simpa using hx)]
      constructor
      · intro h
        refine ⟨ih.mp (by simp at h ⊢; omega), by simp, fun a ha b hb => ?_⟩
        rw [List.mem_singleton.mp hb]
        exact fun e => hx (e ▸ ha)
      · rintro ⟨h, _, _⟩
        rw [ih.mpr h]; rfl

theorem Kp.made {F : List Addr} {H H' : Hp} {x dx : Addr} {o1 o2 : HO} (hx : H x = none) (hdx : H dx = none) (k : Kp (x :: F) (upd (upd H dx o1) x o2) H') : Kp F H H' := fun q o e n => by
  have n1 : q ≠ x := ne_of_none e hx
  have n2 : q ≠ dx := ne_of_none e hdx
  refine k q o (by rw [upd_ne n1, upd_ne n2]; exact e) fun z => ?_
  rcases List.mem_cons.mp z with z | z
  · exact n1 z
  · exact n z

theorem upd_tw2 {H : Hp} {p : Addr} {o o1 o2 : HO} : upd (upd (upd H p o) p o1) p o2 = upd H p o2 := by rw [upd_tw, upd_tw]
theorem upd_tw3 {H : Hp} {p : Addr} {o o1 o2 o3 : HO} : upd (upd (upd (upd H p o) p o1) p o2) p o3 = upd H p o3 := by rw [upd_tw, upd_tw, upd_tw]
theorem upd_tw4 {H : Hp} {p : Addr} {o o1 o2 o3 o4 : HO} : upd (upd (upd (upd (upd H p o) p o1) p o2) p o3) p o4 = upd H p o4 := by rw [upd_tw, upd_tw, upd_tw, upd_tw]
/-- a loop that changes nothing but its own name -/
theorem loop_c {n k : Nat} {it : Itm} {st : Hp → Prop} {tb : TS} {D : Ends} {σ : St} {H : Hp} (h0 : st H) (hit : ∀ i H x H', it i H x H' → H' = H) (hk : ∃ v0, σ.set k v0 = σ)
    (hs : ∀ i x v, i < n → it i H x H → tb { D with nx := fun σ' H' => Sd (∃ v', σ' = σ.set k v' ∧ H' = H), ct := fun σ' H' => Sd (∃ v', σ' = σ.set k v' ∧ H' = H), bk := D.nx } ((σ.set k v).set k (some x)) H) (hd : ∀ v, D.nx (σ.set k v) H) : loop n it st (gName k) tb D σ H := by
  obtain ⟨v0, hv0⟩ := hk
  refine loop_i (fun _ σ' H' => Sd (∃ v', σ' = σ.set k v' ∧ H' = H)) (sd_i ⟨v0, hv0.symm, rfl⟩) ?_ ?_ ?_
  · intro i σ' H' _ h
    obtain ⟨v', _, rfl⟩ := sd_e h
    exact h0
  · intro i x σ' H' H'' hi h hI
    obtain ⟨v', rfl, rfl⟩ := sd_e h
    obtain rfl := hit _ _ _ _ hI
    exact hs i x v' hi hI
  · intro σ' H' h
    obtain ⟨v', rfl, rfl⟩ := sd_e h
    exact hd v'

theorem Kp.none {H H' : Hp} {q : Addr} (k : Kp [] H H') (h : H' q = none) : H q = none := by
  cases e : H q with
  | none => rfl
  | some o => rw [k.get0 e] at h; cases h
end Ta

set_option Elab.async false
set_option linter.all false
set_option maxRecDepth 100000
set_option maxHeartbeats 400000
namespace Ta
open PySem PySem.Spec PyProof.Rows L2

/-! ### locals at the code itself -/
def FT (X : Cx) (f : List (Str × Value)) (s : Shared) : Prop := ∃ m, s.heap.Ns X.env.locals m ∧ ∀ e ∈ f, m e.1 = some e.2
section
variable {X : Cx} {pins : List (Addr × Obj)} {σ : St} {H : Hp} {s s' : Shared} {ff : List (Str × Value)}
theorem FT.after {Q : VK} {u : Value} (h : FT X ff s) (I : Inv X pins σ H s) (c : CE X.stack X.prog X.w H s Q u s') : FT X ff s' := by
  obtain ⟨m, ⟨o, es, ep, ho, r⟩, hf⟩ := h
  obtain ⟨v, H', os, bare, un, hok, rr, q⟩ := c
  obtain ⟨sl, hL⟩ := un.any ho I.free (by simp)
  exact ⟨m, ⟨_, es, ep, hL, r⟩, hf⟩
theorem FT.nil (I : Inv X pins σ H s) : FT X [] s := by
  obtain ⟨m, hn, _⟩ := I.loc
  exact ⟨m, hn, fun _ z => nomatch z⟩
theorem run_fnF {CX : CXT} {k : Nat} {f : Addr} {fd : FuncData} {ps : List Str} {sp : Sp} {E : St → XK} {dvs : List V} {ds : List Value} {Q : VK} {us : List Value} {vs : List V} (F : FnOk X.prog X.w X.K X.mg X.base CX k f fd ps sp) (hr : Room k X.A) (hb : Binds X.K fd ps ds) (hd : Vals dvs ds) (hx : PassesAt CX X σ (E σ))
    (I : Inv X pins σ H s) (hF : FT X ff s) (r : Vals vs us) (h : sp (vs ++ dvs) H Q (E σ)) : wpAny (model X.prog X.w) X.A (call (.ref f) us) (fun u s' => EP X pins σ Q u s' ∧ FT X ff s') X.xe s := by
  have r2 : Vals (vs ++ dvs) (us ++ ds) := r.append hd
  have hl : (us ++ ds).length = ps.length := by rw [← r2.length]; exact F.len _ _ _ _ h
  refine wpAny_call (codeAny_mono (F.run X.A X.stack s H ⟨us, []⟩ (us ++ ds) (vs ++ dvs) Q (E σ) hr I.env0 (hb s us I.kIn hl) r2 h) fun r s' hq => ?_)
  cases r with
  | error e => exact hx pins H s e s' I hq
  | ok fl =>
    cases fl with
    | ret u => exact ⟨I.after hq, hF.after I hq⟩
    | next => exact False.elim hq
    | brk => exact False.elim hq
    | cont => exact False.elim hq
/-- s[take(box, len(s))] -/
def tPk (sp : Sp) (W : WX) (il ib : Nat) : TE := fun σ H Q => match σ[il]? with
  | some (some (.str z)) => (match σ[ib]? with
    | some (some bv) => Lim (tl z).length ∧ sp [bv, .int (tl z).length] H (fun v H' => match v with
      | .int i => itm (tl z) i fun c => Q (.str (S [c])) H'
      | _ => False) (fun c d H' => W c d σ H')
    | _ => False)
  | _ => False
theorem tPk_e {sp : Sp} {W : WX} {il ib : Nat} {Q : VK} (h : tPk sp W il ib σ H Q) : ∃ z bv, σ[il]? = some (some (.str z)) ∧ σ[ib]? = some (some bv) ∧ Lim (tl z).length ∧ sp [bv, .int (tl z).length] H (fun v H' => match v with
      | .int i => itm (tl z) i fun c => Q (.str (S [c])) H'
      | _ => False) (fun c d H' => W c d σ H') := by
  unfold tPk at h
  split at h
  · rename_i z e1
    split at h
    · rename_i bv e2
      exact ⟨z, bv, e1, e2, h⟩
    · exact h.elim
  · exact h.elim
theorem ev_pk {il ib lv : Nat} {l b tk : Str} {sp : Sp} {W : WX} {Q : VK} {p1 p2 p3 p4 p5 p6 p7 p8 : Pos} (F : Fn X.prog X.w X.K X.mg X.base tk lv [] sp) (hr : Room lv X.A) (tks : Takes X W) (hlen : X.mg "len" = none) (I : Inv X pins σ H s) (hF : FT X ff s) (h : tPk sp W il ib σ H Q)
    (hNl : X.N[il]? = some l) (hvl : Vis X.env.scope l) (hNb : X.N[ib]? = some b) (hvb : Vis X.env.scope b) (hg : Gl X tk) (hgl : Gl X "len") (hdt : (tk == ("__debug__" : Str)) = false) (hdl : (l == ("__debug__" : Str)) = false) (hcl : (l == ("__classdict__" : Str)) = false)
    (hdb : (b == ("__debug__" : Str)) = false) (hcb : (b == ("__classdict__" : Str)) = false)
    (hst : starEach [.Name b p3, .Call (.Name "len" p4) [.Name l p5] [] p6] X.env = [(false, eval (.Name b p3) X.env), (false, eval (.Call (.Name "len" p4) [.Name l p5] [] p6) X.env)])
    (hst1 : starEach [.Call (.Name "len" p4) [.Name l p5] [] p6] X.env = [(false, eval (.Call (.Name "len" p4) [.Name l p5] [] p6) X.env)])
    (hst2 : starEach [.Name l p5] X.env = [(false, eval (.Name l p5) X.env)])
    (hix : PlainIx (.Call (.Name tk p2) [.Name b p3, .Call (.Name "len" p4) [.Name l p5] [] p6] [] p7)) :
    wpAny (model X.prog X.w) X.A (eval (.Subscript (.Name l p1) (.Call (.Name tk p2) [.Name b p3, .Call (.Name "len" p4) [.Name l p5] [] p6] [] p7) p8) X.env)
      (fun u s' => ∃ (c : Nat) (t : Nat) (H' : Hp), u = .str (S [c]) t ∧ 1 ≤ t ∧ s.toks ≤ t ∧ t < s'.toks ∧ Inv X pins σ H' s' ∧ Q (.str (S [c])) H' ∧ FT X ff s') X.xe s := by
  obtain ⟨z, bv, e1, e2, hlim, h⟩ := tPk_e h
  obtain ⟨f, fd, ps, ds, F, hm, hk, hd, hb⟩ := F.ex
  cases hd
  refine Subscript_ (raw_name hNl hvl I e1 (fun v r => ?_) hdl hcl)
  obtain ⟨tz, rfl⟩ := r
  refine wpAny_Call_Name_kw (ld_glob I hg hm ?_ hdt)
  refine PySem.W.callWith_K (h₀ := X.base) I.ok.mod.kin hk ?_ (by rw [hst, hst1]) (by rw [hst1]; rfl)
  rw [hst]
  show wpAny _ _ (spliced ((false, eval (.Name b p3) X.env) :: backTo p7 [(false, eval (.Call (.Name "len" p4) [.Name l p5] [] p6) X.env)])) _ _ s
  refine Calls.spliced_cons (raw_name hNb hvb I e2 (fun ub rb => ?_) hdb hcb)
  show wpAny _ _ (spliced ((false, eval (.Call (.Name "len" p4) [.Name l p5] [] p6) X.env) :: backTo p7 [])) _ _ s
  refine Calls.spliced_cons ?_
  refine Call_ (ld_blt I hgl hlen boot_len ?_)
  refine PyProof.Rows.callWith_builtin1 (PyProof.Rows.args_cons (raw_name hNl hvl I e1 (fun v r => ?_) hdl hcl) (by rw [hst2]; rfl)) (by rw [hst2]; rfl) rfl
  obtain ⟨tz2, rfl⟩ := r
  refine PyProof.Rows.args_nil ?_
  have hn := line63
  have hz : z.length ≤ sizeLine := by rw [len_tl]; exact hlim
  refine len_str (by omega) ?_
  refine Calls.spliced_nil ⟨(I.tok _).kIn, ?_⟩
  have I1 : Inv X pins σ H { s with toks := s.toks + 1 + 1 } := I.tok _
  have rv : Vals [bv, .int (tl z).length] [ub, .int z.length (s.toks + 1)] := .cons rb (.cons ⟨_, by rw [len_tl]⟩ .nil)
  refine wpAny_mono (wpAny_toks_of (n := s.toks + 1 + 1) (Nat.le_refl _) (run_fnF (E := WE W) (ff := ff) (us := [ub, .int z.length (s.toks + 1)]) (vs := [bv, .int (tl z).length]) F hr hb .nil (passAt tks σ) I1 hF rv h)) (fun u s2 hq => ?_) fun _ _ z => z.2
  obtain ⟨hle, ⟨y, H2, I2, ry, q⟩, hF2⟩ := hq
  cases y with
  | int i =>
    obtain ⟨ti, rfl⟩ := ry
    obtain ⟨c, hat, q⟩ := itm_e q
    obtain ⟨j, h1, h2, h3, h4, h5⟩ := atI_get hat
    have hl : z.cps.toList.length = z.length := by simp [Str.length]
    rw [hl] at h1 h4 h5
    refine tail_any (typeIs_str s2 z tz) slot_str_getitem.lookup (getItem_str (c := c) (by
      have e1 : decide (i < -(2 ^ 63 : Int)) = false := decide_eq_false (by omega)
      have e2 : decide (i ≥ 2 ^ 63) = false := decide_eq_false (by omega)
      rw [e1, e2, Bool.or_false]) (by rw [h1]; simpa using h2) ?_) (hix _ _)
    exact ⟨c, s2.toks, H2, rfl, by omega, by omega, Nat.lt_succ_self _, I2.tok _, q, hF2⟩
  | _ => exact False.elim q
theorem store_F {M : Model} {A : Around} {E : Value → Shared → Prop} {i : Nat} {x : Str} {v : V} {u : Value} {Q : Unit → Shared → Prop} (I : Inv X pins σ H s) (hN : X.N.Nodup) (hi : X.N[i]? = some x) (hk : X.env.kindOf x = some .local) (r : RelV v u) (hF : FT X ff s) (hx : ∀ e ∈ ff, e.1 ≠ x)
    (h : ∀ s', Inv X pins (σ.set i (some v)) H s' → FT X ((x, u) :: ff) s' → s'.toks = s.toks + 1 → Q () s') : wpAny M A (storeName X.env x u) Q E s := by
  obtain ⟨m, hn, hl⟩ := id I.loc
  obtain ⟨m2, hn2, hf⟩ := hF
  have em : m2 = m := by
    obtain ⟨o, es, ep, ho, hd, _, r⟩ := hn
    obtain ⟨o2, es2, ep2, ho2, hd2, _, r2⟩ := hn2
    rw [ho] at ho2
    cases ho2
    rw [hd] at hd2
    cases hd2
    funext name
    rw [← r2 name, ← r name]
  subst em
  have hcls : (X.env.scope.kind == .class || (X.env.scope.kind == .module && X.env.locals != X.env.globals)) = false := by rw [I.ok.kind]; rfl
  have hiσ : i < σ.length := by rw [I.len]; exact (List.getElem?_eq_some_iff.mp hi).1
  have cne := I.cne
  have tracked : ∀ {a : Addr} {h' : Heap}, (∃ o, s.heap.get? a = some o ∧ H a = none) → Heap.SameBut a s.heap h' → HOk X.prog X.w H h' := fun {a h'} ha hs b ob e => by
    obtain ⟨_, _, hfree⟩ := ha
    refine (I.hok b ob e).stay (fun c w' hc q => (hs.2 c ?_).trans q) (fun _ q => q) fun _ _ q => q
    rintro rfl
    rcases hc with rfl | hc
    · rw [hfree] at e; cases e
    · rw [hfree] at hc; cases hc
  refine wpAny_storeName_local hk hn (fun h' hn' hs => ?_) hcls
  obtain ⟨oL, _, _, hoL, _⟩ := id hn
  refine h _ ⟨I.ok, I.os, I.bare, ⟨fun b o e n hb hx => ?_, fun b o e n hb hx => ?_, I.base.free, fun b o e hx => ?_, I.base.tups, I.base.frzs, I.base.tbls⟩, ⟨_, hn', fun j y v' e1 e2 e3 => ?_⟩, fun y c e => ?_, I.free, I.freeC, fun p hp => ?_, tracked ⟨oL, hoL, I.free⟩ hs, by simpa using I.len⟩ ⟨_, hn', fun e he => ?_⟩ rfl
  · exact (hs.2 b (Nat.ne_of_lt (Nat.lt_of_lt_of_le (Heap.lt_size e) I.ok.above))).trans (I.base.keep b o e n hb hx)
  · obtain ⟨sl, e1⟩ := I.base.slot b o e n hb hx
    exact ⟨sl, (hs.2 b (Nat.ne_of_lt (Nat.lt_of_lt_of_le (Heap.lt_size e) I.ok.above))).trans e1⟩
  · obtain ⟨o', e1⟩ := I.base.there b o e hx
    exact ⟨o', (hs.2 b (Nat.ne_of_lt (Nat.lt_of_lt_of_le (Heap.lt_size e) I.ok.above))).trans e1⟩
  · by_cases hj : j = i
    · subst hj
      rw [hi] at e1; cases e1
      rw [List.getElem?_set_self hiσ] at e2
      cases e2
      exact ⟨u, r, .inl ⟨hk, by simp⟩⟩
    · rw [List.getElem?_set_ne (Ne.symm hj)] at e2
      obtain ⟨u', r', q⟩ := hl j y v' e1 e2 e3
      refine ⟨u', r', ?_⟩
      rcases q with ⟨k, e⟩ | ⟨k, c, e, z⟩
      · refine .inl ⟨k, ?_⟩
        have : y ≠ x := fun e => hj (nodup_ix hN e1 (e ▸ hi))
        simp [this, e]
      · exact .inr ⟨k, c, e, z.sameBut hs (cne y c e)⟩
  · obtain ⟨w', z⟩ := I.cell y c e
    exact ⟨w', z.sameBut hs (cne y c e)⟩
  · obtain ⟨e, n, ne, nf, d⟩ := I.pin p hp
    exact ⟨(hs.2 p.1 ne).trans e, n, ne, nf, d⟩
  · rcases List.mem_cons.mp he with rfl | he
    · show (if x = x then some u else m2 x) = some u
      rw [if_pos rfl]
    · show (if e.1 = x then some u else m2 e.1) = some e.2
      rw [if_neg (hx e he)]
      exact hf e he
/-! ### texts in locals whose tokens are out and apart -/
def tokOf : Value → Nat
  | .str _ t => t
  | _ => 0
def TKs (X : Cx) (ns : List Str) (s : Shared) : Prop := ∃ ff : List (Str × Value), FT X ff s ∧ ff.map (·.1) = ns ∧ (∀ e ∈ ff, ∃ (x : Str) (t : Nat), e.2 = .str x t ∧ 1 ≤ t ∧ t < s.toks) ∧ (ff.map fun e => tokOf e.2).Nodup
structure PSsK (X : Cx) (ns : List Str) (st : List Stmt) (t : TS) : Prop where
  run : ∀ (pins : List (Addr × Obj)) (s : Shared) (σ : St) (H : Hp) (D : Ends), Inv X pins σ H s → TKs X ns s → t D σ H → wpAny (model X.prog X.w) X.A (execs st X.env) (SP X pins D) X.xe s
structure PEK (X : Cx) (ns : List Str) (e : Expr) (t : TE) : Prop where
  run : ∀ (pins : List (Addr × Obj)) (s : Shared) (σ : St) (H : Hp) (Q : VK), Inv X pins σ H s → TKs X ns s → t σ H Q → wpAny (model X.prog X.w) X.A (eval e X.env) (fun u s' => EP X pins σ Q u s' ∧ TKs X ns s') X.xe s
structure PAK (X : Cx) (ns : List Str) (es : List Expr) (t : TA) : Prop where
  run : ∀ (pos : Pos) (pins : List (Addr × Obj)) (s : Shared) (σ : St) (H : Hp) (Q : List V → Hp → Prop), Inv X pins σ H s → TKs X ns s → t σ H Q → wpAny (model X.prog X.w) X.A (spliced (backTo pos (starEach es X.env))) (fun us s' => AP X pins σ Q us s' ∧ TKs X ns s') X.xe s
theorem pssk0 {st : List Stmt} {t : TS} (h : PSsK X [] st t) : PSs X st t :=
  ⟨fun pins s σ H D I q => h.run pins s σ H D I ⟨[], FT.nil I, rfl, fun _ z => (nomatch z), .nil⟩ q⟩
theorem pak_nil {ns : List Str} : PAK X ns [] tNil := ⟨fun _ _ _ _ H Q I k h => Calls.spliced_nil ⟨⟨[], H, I, .nil, h⟩, k⟩⟩
theorem pak_cons {ns : List Str} {e : Expr} {es : List Expr} {te : TE} {t : TA} (ha : PEK X ns e te) (hr : PAK X ns es t) (hs : starEach (e :: es) X.env = (false, eval e X.env) :: starEach es X.env := by rfl) : PAK X ns (e :: es) (tCons te t) := by
  refine ⟨fun pos pins s σ H Q I k h => ?_⟩
  rw [hs]
  show wpAny _ _ (spliced ((false, eval e X.env) :: backTo pos (starEach es X.env))) _ _ s
  refine Calls.spliced_cons (thn (ha.run pins s σ H _ I k h) fun u s1 ⟨⟨x, H1, I1, r1, q1⟩, k1⟩ => ?_)
  exact thn (hr.run pos pins s1 σ H1 _ I1 k1 q1) fun us s2 ⟨⟨xs, H2, I2, r2, q2⟩, k2⟩ => ⟨⟨x :: xs, H2, I2, .cons r1 r2, q2⟩, k2⟩
/-- return (..), the items under known tokens -/
theorem pssk_rtup {ns : List Str} {es : List Expr} {x1} {t : TA} {pos pos' : Pos} (h : PAK X ns es t) : PSsK X ns [.Return (some (.Tuple es x1 pos)) pos'] (tRet (tTup t)) := by
  refine ⟨fun pins s σ H D I k q => ?_⟩
  refine wpAny_execs_cons (wpAny_Return_some ?_)
  refine wpAny_Tuple_spliced (thn (h.run pos pins s σ H _ I k q) fun us s1 ⟨⟨xs, H1, I1, r, z, q⟩, _⟩ => ⟨by rw [← r.length]; exact z, ?_⟩)
  have hf : H1 s1.heap.objs.size = none := I1.hok.fresh (Nat.le_refl _)
  refine ⟨.ref s1.heap.objs.size, σ, upd H1 s1.heap.objs.size (.tup xs), I1.laid (t' := s1.toks) (fun b u e => Heap.get?_push_of_some _ e) (Nat.le_refl _) ?_, rfl, q _ hf⟩
  exact ⟨z, us, r, ⟨_, Heap.get?_push_size _ rfl, rfl, _, rfl⟩⟩
theorem pssk_set {ns : List Str} {i : Nat} {x : Str} {e : Expr} {te : TE} {rest : List Stmt} {u : TS} {pos pos' : Pos} (hN : X.N.Nodup) (he : PEK X ns e te) (hrest : PSs X rest u) (hi : X.N[i]? = some x := by rfl) (hx : Loc X.env.scope x := by first | exact Or.inl rfl | exact Or.inr rfl)
    (hs : swapsWith e (some (.Name x pos')) pos.line X.env = pure false := by rfl) (hf : X.fn x = true ∨ X.env.scope.names.lookup x = some .local := by first | exact .inl rfl | exact .inr rfl) : PSsK X ns (.Assign [.Name x pos'] e pos :: rest) (tSeq (tAsg te (gName i)) u) := by
  refine ⟨fun pins s σ H D I k h => ?_⟩
  refine wpAny_execs_cons (wpAny_Assign_Name (thn (he.run pins s σ H _ I k h) fun v s1 ⟨⟨y, H1, I1, r1, q1⟩, _⟩ => ?_) hs)
  exact store_ok I1 hN hi hx r1 (fun s2 I2 => hrest.run pins s2 _ H1 D I2 q1) hf
theorem pssk_pk {ns : List Str} {ix il ib lv : Nat} {x l b tk : Str} {sp : Sp} {W : WX} {rest : List Stmt} {u : TS} {px pos p1 p2 p3 p4 p5 p6 p7 p8 : Pos} (hN : X.N.Nodup) (F : Fn X.prog X.w X.K X.mg X.base tk lv [] sp) (hr : Room lv X.A) (tks : Takes X W) (hlen : X.mg "len" = none) (hrest : PSsK X (x :: ns) rest u) (hxn : x ∉ ns := by decide +kernel)
    (hNx : X.N[ix]? = some x := by rfl) (hkx : X.env.kindOf x = some .local := by rfl)
    (hNl : X.N[il]? = some l := by rfl) (hvl : Vis X.env.scope l := by first | exact Or.inl rfl | exact Or.inr (Or.inl rfl) | exact Or.inr (Or.inr rfl)) (hNb : X.N[ib]? = some b := by rfl) (hvb : Vis X.env.scope b := by first | exact Or.inl rfl | exact Or.inr (Or.inl rfl) | exact Or.inr (Or.inr rfl)) (hg : Gl X tk := by rfl) (hgl : Gl X "len" := by rfl)
    (hdt : (tk == ("__debug__" : Str)) = false := by decide +kernel) (hdl : (l == ("__debug__" : Str)) = false := by decide +kernel) (hcl : (l == ("__classdict__" : Str)) = false := by decide +kernel)
    (hdb : (b == ("__debug__" : Str)) = false := by decide +kernel) (hcb : (b == ("__classdict__" : Str)) = false := by decide +kernel)
    (hst : starEach [.Name b p3, .Call (.Name "len" p4) [.Name l p5] [] p6] X.env = [(false, eval (.Name b p3) X.env), (false, eval (.Call (.Name "len" p4) [.Name l p5] [] p6) X.env)] := by rfl)
    (hst1 : starEach [.Call (.Name "len" p4) [.Name l p5] [] p6] X.env = [(false, eval (.Call (.Name "len" p4) [.Name l p5] [] p6) X.env)] := by rfl)
    (hst2 : starEach [.Name l p5] X.env = [(false, eval (.Name l p5) X.env)] := by rfl)
    (hix : PlainIx (.Call (.Name tk p2) [.Name b p3, .Call (.Name "len" p4) [.Name l p5] [] p6] [] p7) := by exact fun _ _ => rfl)
    (hs : swapsWith (.Subscript (.Name l p1) (.Call (.Name tk p2) [.Name b p3, .Call (.Name "len" p4) [.Name l p5] [] p6] [] p7) p8) (some (.Name x px)) pos.line X.env = pure false := by rfl) :
    PSsK X ns (.Assign [.Name x px] (.Subscript (.Name l p1) (.Call (.Name tk p2) [.Name b p3, .Call (.Name "len" p4) [.Name l p5] [] p6] [] p7) p8) pos :: rest) (tSeq (tAsg (tPk sp W il ib) (gName ix)) u) := by
  refine ⟨fun pins s σ H D I k h => ?_⟩
  obtain ⟨ff, hF, hns, htok, hnd⟩ := k
  have h : tPk sp W il ib σ H fun x H1 => u D (σ.set ix (some x)) H1 := h
  refine wpAny_execs_cons (wpAny_Assign_Name (thn (ev_pk F hr tks hlen I hF h hNl hvl hNb hvb hg hgl hdt hdl hcl hdb hcb hst hst1 hst2 hix) fun v s1 hv => ?_) hs)
  obtain ⟨c, t, H1, rfl, h1, h2, h3, I1, q, hF1⟩ := hv
  refine store_F (v := .str (S [c])) I1 hN hNx hkx ⟨t, rfl⟩ hF1 (fun e he z => hxn (by rw [← hns, ← z]; exact List.mem_map_of_mem he)) fun s2 I2 hF2 ht2 => ?_
  refine hrest.run pins s2 _ H1 D I2 ⟨_, hF2, by rw [List.map_cons, hns], fun e he => ?_, ?_⟩ q
  · rcases List.mem_cons.mp he with rfl | he
    · exact ⟨S [c], t, rfl, h1, by omega⟩
    · obtain ⟨x', t', e1, e2, e3⟩ := htok e he
      exact ⟨x', t', e1, e2, by omega⟩
  · rw [List.map_cons]
    refine List.nodup_cons.mpr ⟨fun hm => ?_, hnd⟩
    obtain ⟨e, he, ee⟩ := List.mem_map.mp hm
    obtain ⟨x', t', e1, e2, e3⟩ := htok e he
    rw [e1] at ee
    have ee : t' = t := ee
    omega
/-! ### x.replace(old, new) -/
def rp (c d : Nat) (l : List Nat) : List Nat := l.map fun a => if a = c then d else a
theorem replL_rp (c d : Nat) : ∀ l : List Nat, StrLaws.replL [c] [d] l = rp c d l
  | [] => StrLaws.replL_nil
  | a :: l => by
    by_cases h : a = c
    · subst h
      rw [StrLaws.replL_hit (by simp) (by simp)]
      show [d] ++ StrLaws.replL [a] [d] l = _
      rw [replL_rp a d l]
      simp [rp]
    · rw [StrLaws.replL_miss (by simp [h]), replL_rp c d l]
      simp [rp, h]
theorem repl_S (x : Str) (c d : Nat) : Txt.replace x (S [c]) (S [d]) = S (rp c d (tl x)) := by
  refine ext_tl ?_
  have e := StrLaws.replace_list (x := x) (y := S [c]) (z := S [d]) (by rw [len_tl]; exact Nat.le_refl 1)
  exact e.trans (replL_rp c d (tl x))
def tRp (ix io iw : Nat) : TE := fun σ H Q => match σ[ix]? with
  | some (some (.str x)) => (match σ[io]? with
    | some (some (.str y)) => (match σ[iw]? with
      | some (some (.str z)) => (match tl y with
        | [c] => (match tl z with
          | [d] => c ≠ d ∧ (tl x).length ≤ 1000000 ∧ Q (.str (S (rp c d (tl x)))) H
          | _ => False)
        | _ => False)
      | _ => False)
    | _ => False)
  | _ => False
theorem tRp_e {ix io iw : Nat} {Q : VK} (h : tRp ix io iw σ H Q) : ∃ x c d, σ[ix]? = some (some (.str x)) ∧ σ[io]? = some (some (.str (S [c]))) ∧ σ[iw]? = some (some (.str (S [d]))) ∧ c ≠ d ∧ (tl x).length ≤ 1000000 ∧ Q (.str (S (rp c d (tl x)))) H := by
  unfold tRp at h
  split at h
  · rename_i x e1
    split at h
    · rename_i y e2
      split at h
      · rename_i z e3
        split at h
        · rename_i c ey
          split at h
          · rename_i d ez
            exact ⟨x, c, d, e1, by rw [e2, ← S_tl y, ey], by rw [e3, ← S_tl z, ez], h⟩
          · exact h.elim
        · exact h.elim
      · exact h.elim
    · exact h.elim
  · exact h.elim
theorem ns_uniq {m m2 : Str → Option Value} {h : Heap} {a : Addr} (hn : h.Ns a m) (hn2 : h.Ns a m2) : m2 = m := by
  obtain ⟨o, es, ep, ho, hd, _, r⟩ := hn
  obtain ⟨o2, es2, ep2, ho2, hd2, _, r2⟩ := hn2
  rw [ho] at ho2
  cases ho2
  rw [hd] at hd2
  cases hd2
  funext name
  rw [← r2 name, ← r name]
/-- a local's text: its token is known -/
theorem tk_name {ns : List Str} {ff : List (Str × Value)} {i : Nat} {x : Str} {y : Str} {pos : Pos} {Q E : Value → Shared → Prop} (hF : FT X ff s) (hns : ff.map (·.1) = ns) (htok : ∀ e ∈ ff, ∃ (x : Str) (t : Nat), e.2 = .str x t ∧ 1 ≤ t ∧ t < s.toks) (hx : x ∈ ns)
    (hN : X.N[i]? = some x) (hk : X.env.kindOf x = some .local) (I : Inv X pins σ H s) (hσ : σ[i]? = some (some (.str y))) (fin : ∀ t : Nat, 1 ≤ t → t < s.toks → (x, Value.str y t) ∈ ff → Q (.str y t) s)
    (hd : (x == ("__debug__" : Str)) = false) : wpAny (model X.prog X.w) X.A (eval (.Name x pos) X.env) Q E s := by
  obtain ⟨m, hn, hl⟩ := I.loc
  obtain ⟨u, ⟨t0, rfl⟩, l⟩ := hl i x _ hN hσ (.inl hk)
  obtain ⟨m2, hn2, hf⟩ := hF
  obtain rfl := ns_uniq hn hn2
  rw [← hns] at hx
  obtain ⟨e, he, rfl⟩ := List.mem_map.mp hx
  obtain ⟨y', t, e1, e2, e3⟩ := htok e he
  rcases l with ⟨_, hm⟩ | ⟨hk', _⟩
  · have hm2 := hf e he
    rw [hm] at hm2
    have e4 : e.2 = .str y t0 := (Option.some.inj hm2).symm
    rw [e4] at e1
    cases e1
    exact wpAny_Name (wpAny_loadName_local I.ok.kind hk hn2 hm (fin t0 e2 e3 (by rw [← e4]; exact he))) hd
  · rw [hk] at hk'
    rcases hk' with z | z <;> cases z
theorem pek_repl {ns : List Str} {ix io iw : Nat} {x o w' : Str} {p1 p2 p3 apos pos : Pos} (hNx : X.N[ix]? = some x := by rfl) (hvx : Vis X.env.scope x := by first | exact Or.inl rfl | exact Or.inr (Or.inl rfl) | exact Or.inr (Or.inr rfl)) (hNo : X.N[io]? = some o := by rfl) (hko : X.env.kindOf o = some .local := by rfl) (hNw : X.N[iw]? = some w' := by rfl) (hkw : X.env.kindOf w' = some .local := by rfl)
    (ho : o ∈ ns := by decide +kernel) (hw : w' ∈ ns := by decide +kernel) (hne : o ≠ w' := by decide +kernel) (hdx : (x == ("__debug__" : Str)) = false := by decide +kernel) (hcx : (x == ("__classdict__" : Str)) = false := by decide +kernel) (hdo : (o == ("__debug__" : Str)) = false := by decide +kernel) (hdw : (w' == ("__debug__" : Str)) = false := by decide +kernel)
    (hst : starEach [.Name o p2, .Name w' p3] X.env = [(false, eval (.Name o p2) X.env), (false, eval (.Name w' p3) X.env)] := by rfl)
    (hbase : attributeBase (.Name x p1) "replace" X.env (eval (.Name x p1) X.env) = eval (.Name x p1) X.env := by rfl) (hline : (apos.endLine == pos.line) = true := by rfl) :
    PEK X ns (.Call (.Attribute (.Name x p1) "replace" apos) [.Name o p2, .Name w' p3] [] pos) (tRp ix io iw) := by
  refine ⟨fun pins s σ H Q I k h => ?_⟩
  obtain ⟨z, c, d, e1, e2, e3, hcd, hb, q⟩ := tRp_e h
  obtain ⟨ff, hF, hns, htok, hnd⟩ := k
  refine wpAny_mono (wpAny_toks (Q := fun u s' => EP X pins σ Q u s' ∧ ∃ k : Nat, s' = { s with toks := k }) (PySem.Call_method2 hbase hst hline (raw_name hNx hvx I e1 (fun v r => ?_) hdx hcx))) (fun u s' hq => ?_) fun _ _ z => z.2
  · obtain ⟨tx, rfl⟩ := r
    refine ⟨"str", _, F.plainAttrs_str, F.slot_str_replace, F.type_str_replace, typeIs_str _ _ _, (fun _ e => nomatch e), Calls.callWith_builtin rfl (Calls.evalArgs_plain (Calls.spliced_cons ?_))⟩
    refine tk_name hF hns htok ho hNo hko I e2 (fun t h1 h2 hm1 => ?_) hdo
    refine Calls.spliced_cons (tk_name hF hns htok hw hNw hkw I e3 (fun t2 h3 h4 hm2 => ?_) hdw)
    refine Calls.spliced_nil ?_
    have hneq : t ≠ t2 := fun et => by
      obtain ⟨i, hi, ei⟩ := List.mem_iff_getElem.mp hm1
      obtain ⟨j, hj, ej⟩ := List.mem_iff_getElem.mp hm2
      have eij : i = j := by
        have hi' : i < (ff.map fun e => tokOf e.2).length := by rw [List.length_map]; exact hi
        have hj' : j < (ff.map fun e => tokOf e.2).length := by rw [List.length_map]; exact hj
        refine (List.getElem_inj hnd (h₀ := hi') (h₁ := hj')).mp ?_
        rw [List.getElem_map, List.getElem_map, ei, ej]
        exact et
      subst eij
      rw [ei] at ej
      exact hne (congrArg Prod.fst ej)
    refine PySem.SC.replace (show t ≠ (0 : Nat) from by omega) (show t2 ≠ (0 : Nat) from by omega) hneq (by simp only [beq_eq_false_iff_ne]; exact fun z => hcd (S1_inj _ _ z)) (by
      have : (S [d]).length = 1 := by rw [len_tl]; rfl
      rw [this, len_tl]; omega) fun t' k => ⟨⟨.str (S (rp c d (tl z))), H, I.tok k, ⟨t', by rw [repl_S]⟩, q⟩, k, rfl⟩
  · obtain ⟨hle, he, k, rfl⟩ := hq
    exact ⟨he, ff, hF, hns, fun e he => (let ⟨x, t, a, b, c⟩ := htok e he; ⟨x, t, a, b, Nat.lt_of_lt_of_le c hle⟩), hnd⟩
end
end Ta

set_option Elab.async false
set_option linter.all false
set_option maxRecDepth 100000
set_option maxHeartbeats 1000000
namespace Ta
open PySem PySem.Spec PyProof.Rows L2 He

/-! ### facts of the written part as Bools -/
abbrev BF := PySem.W.Frag → Bool
def bFree (x : Str) : BF := fun K => (Fa.free x).ok K
def bGlo (x : Str) : BF := fun K => (Fa.glo x).ok K
def bVal (x : Str) (v : V) : BF := fun K => match PySem.W.nsIn K mainGlobals x with
  | some (some u) => relB v u
  | _ => false
def bCls (x : Str) : BF := fun K => (Fa.cls x).ok K
def bNo (x f : Str) : BF := fun K => (Fa.noat x f).ok K
def bMe (x m : Str) : BF := fun K => (Fa.meth x m).ok K
def bMk (x : Str) : BF := fun K => (Fa.mkr x).ok K
def bExm (x y : Str) (b : Bool) : BF := fun K => (Fa.exm x y b).ok K
def bExmT (x : Str) (y : String) (b : Bool) : BF := fun K => decide (PySem.W.exmOne K (.ref (ga K x)) (.type y) = some b)
def bKit (x y : Str) (b : Bool) : BF := fun K => decide (PySem.W.kitOne K (.ref (ga K x)) (.ref (ga K y)) = some b)
def bKitT (x : Str) (y : String) (b : Bool) : BF := fun K => decide (PySem.W.kitOne K (.ref (ga K x)) (.type y) = some b)
def bKitA (x : Str) (ys : List Str) (b : Bool) : BF := fun K => decide (PySem.W.kitAny K (.ref (ga K x)) (ys.map fun y => .ref (ga K y)) = some b)
def bTKit (x : String) (y : Str) (b : Bool) : BF := fun K => decide (PySem.W.kitOne K (.type x) (.ref (ga K y)) = some b)
def bIsc (x : Str) : BF := fun K => (Fa.cls x).ok K && (eqO (PySem.W.findIn K (.ref (ga K x)) "__class__") (some (some (.builtin "object.__class__"))) &&
  (eqO (PySem.W.specialIn K (.builtin "object.__class__") "__get__") (some (some (.builtin "getset_descriptor.__get__"))) && (decide (PySem.W.takesIn K (.builtin "object.__class__") = some true) && decide (PySem.W.mroIn K (ga K x) (.type "object") = some true))))
def bXc (x : Str) : BF := fun K => xfB K (ga K x) && (eqO (PySem.W.findIn K (.ref (ga K x)) "__class__") (some (some (.builtin "object.__class__"))) &&
  (eqO (PySem.W.specialIn K (.builtin "object.__class__") "__get__") (some (some (.builtin "getset_descriptor.__get__"))) && (decide (PySem.W.takesIn K (.builtin "object.__class__") = some true) && decide (PySem.W.mroIn K (ga K x) (.type "object") = some true))))
def bCC (x f : Str) (v : V) : BF := fun K => (Fa.glo x).ok K && (PySem.W.readsIn K (ga K x) (.type "type") && (eqO (PySem.W.specialIn K (.ref (ga K x)) "__getattribute__") (some (some (.builtin "type.__getattribute__"))) &&
  (match PySem.W.findCls K (.ref (ga K x)) (.type "type") f with
    | some (.val u) => relB v u
    | _ => false)))
def bCon (x f : Str) (v : V) : BF := fun K => !PySem.W.copiedNames.contains f && (match PySem.W.findIn K (.ref (ga K x)) f with
  | some (some u) => relB v u && eqO (PySem.W.specialIn K u "__get__") (some none)
  | _ => false)
/-- no list of the written part holds whole numbers alone -/
def bNoL : BF := fun K => K.all fun e => match e.2 with
  | ⟨.type t, _, .seq its _, _⟩ => !decide (t = "list") || its.toList.any fun v => match v with
    | .int _ _ => false
    | _ => true
  | _ => true
def oexB (K : PySem.W.Frag) (C : Addr) : Bool := match K.lookup C with
  | some ⟨.type t, _, .cls cd, sl⟩ => decide (t = "type") && (match cd.mro, sl.toList with
    | .ref c :: bm, [_, _, _, _, some (.builtin i), _] => decide (c = C) && (PySem.HandSPX.refsVE bm && (decide (i = "ValueError.__new__") && (cd.hasDict && !cd.hasDel)))
    | _, _ => false)
  | _ => false
def bOex (x : Str) : BF := fun K => oexB K (ga K x) && (eqO (PySem.W.findIn K (.ref (ga K x)) "__setattr__") (some (some (.builtin "object.__setattr__"))) && (decide (PySem.W.subIn K (.ref (ga K x)) (.type "BaseException") = some true) &&
  (decide (PySem.W.typeIn K (.ref (ga K x)) = some (.type "type")) && PySem.W.keepIn K (.ref (ga K x)))))
/-- class x, its __init__ of class y -/
def bSup (x y : Str) : BF := fun K => decide (PySem.W.mroIn K (ga K x) (.ref (ga K y)) = some true) && (eqO (PySem.W.ks_superIn K (ga K x) (ga K y) "__init__") (some (some (.builtin "ValueError.__init__"))) &&
  (decide (PySem.W.subIn K (.ref (ga K x)) (.type "ValueError") = some true) && (eqO (PySem.W.nsIn K cStatics "thirdparty.any") (some none) &&
  (eqO (PySem.W.findIn K (.ref (ga K x)) "__init__") (some (some (.ref (ma K (ga K y) "__init__")))) && decide (PySem.W.typeIn K (.ref (ma K (ga K y) "__init__")) = some (.type "function"))))))
section
variable {K : PySem.W.Frag} {h : Heap} {mg : Str → Option Value} {x y f : Str} {v : V}
theorem free_of (X : K.In h) (G : h.Ns mainGlobals mg) (c : bFree x K = true) : mg x = none := He.free_ok X G c
theorem glo_of (X : K.In h) (G : h.Ns mainGlobals mg) (c : bGlo x K = true) : mg x = some (.ref (ga K x)) := He.glo_ok X G c
theorem gv_of (X : K.In h) (G : h.Ns mainGlobals mg) (c : bGlo x K = true) : GlobV mg x (.ref (ga K x)) := ⟨_, glo_of X G c, rfl⟩
theorem val_of (X : K.In h) (G : h.Ns mainGlobals mg) (c : bVal x v K = true) : GlobV mg x v := by
  unfold bVal at c
  split at c
  · rename_i u e
    exact ⟨u, PySem.W.mg_of X G e, relB_ok c⟩
  · cases c
theorem cls_of (c : bCls x K = true) : Cls K (ga K x) := He.cls_ok c
theorem no_of (c : bNo x f K = true) : NoAttr K (ga K x) f := He.noat_ok c
theorem no_of' (c : bNo x f K = true) : PySem.W.findIn K (.ref (ga K x)) f = some none := He.noat_ok c
theorem me_of (c : bMe x f K = true) : Meth K (ga K x) f (ma K (ga K x) f) := He.meth_ok c
theorem mk_of (c : bMk x K = true) : Mk K (ga K x) (ma K (ga K x) "__init__") := He.mkr_ok c
theorem exm_of {b : Bool} (c : bExm x y b K = true) : PySem.W.exmOne K (.ref (ga K x)) (.ref (ga K y)) = some b := He.exm_ok c
theorem exmT_of {b : Bool} {y : String} (c : bExmT x y b K = true) : PySem.W.exmOne K (.ref (ga K x)) (.type y) = some b := of_decide_eq_true c
theorem kit_of {b : Bool} (c : bKit x y b K = true) : PySem.W.kitOne K (.ref (ga K x)) (.ref (ga K y)) = some b := of_decide_eq_true c
theorem kitT_of {b : Bool} {y : String} (c : bKitT x y b K = true) : PySem.W.kitOne K (.ref (ga K x)) (.type y) = some b := of_decide_eq_true c
theorem tkit_of {b : Bool} {x : String} (c : bTKit x y b K = true) : PySem.W.kitOne K (.type x) (.ref (ga K y)) = some b := of_decide_eq_true c
theorem kitA_of {b : Bool} {ys : List Str} (c : bKitA x ys b K = true) : PySem.W.kitAny K (.ref (ga K x)) (ys.map fun y => .ref (ga K y)) = some b := of_decide_eq_true c
theorem isc_of (c : bIsc x K = true) : IsC K (ga K x) := by
  obtain ⟨c1, c⟩ := He.ba c
  obtain ⟨c2, c⟩ := He.ba c
  obtain ⟨c3, c⟩ := He.ba c
  obtain ⟨c4, c5⟩ := He.ba c
  exact ⟨fun H a dx fs e => .ins e (cls_of c1) (eqO_ok c2) (eqO_ok c3) (of_decide_eq_true c4) (of_decide_eq_true c5)⟩
theorem xc_of (c : bXc x K = true) : XC K (ga K x) := by
  obtain ⟨c1, c⟩ := He.ba c
  obtain ⟨c2, c⟩ := He.ba c
  obtain ⟨c3, c⟩ := He.ba c
  obtain ⟨c4, c5⟩ := He.ba c
  have q := xfB_ok c1
  exact ⟨q, ⟨q.ga, q.gg, q.exC, q.hdC, eqO_ok c2, eqO_ok c3, of_decide_eq_true c4, of_decide_eq_true c5⟩⟩
theorem cc_of (X : K.In h) (G : h.Ns mainGlobals mg) (c : bCC x f v K = true) : ClsConst K mg x f v := by
  obtain ⟨c1, c⟩ := He.ba c
  obtain ⟨c2, c⟩ := He.ba c
  obtain ⟨c3, c⟩ := He.ba c
  split at c
  · rename_i u e
    exact ⟨_, _, u, He.glo_ok X G c1, ⟨c2, eqO_ok c3⟩, ⟨e, relB_ok c⟩⟩
  · cases c
theorem con_of (c : bCon x f v K = true) : ∃ u, Con K (ga K x) f v u := by
  obtain ⟨c1, c⟩ := He.ba c
  split at c
  · rename_i u e
    obtain ⟨c2, c3⟩ := He.ba c
    exact ⟨u, e, relB_ok c2, eqO_ok c3, by simpa using c1⟩
  · cases c
theorem oexB_ok {C : Addr} (c : oexB K C = true) : ∃ nm q N bs bm sn sub ab col dd k0 k1 k2 k3 k5, K.lookup C = some (excClassObj nm q C N bs bm true sn sub ab col dd k0 k1 k2 k3 k5 "ValueError.__new__") ∧ PySem.HandSPX.refsVE bm = true := by
  unfold oexB at c
  split at c
  · rename_i t dd cd sl e
    obtain ⟨c1, c⟩ := He.ba c
    have c1 := of_decide_eq_true c1
    subst c1
    split at c
    · rename_i cc bm k0 k1 k2 k3 i k5 e1 e2
      obtain ⟨_, c⟩ := He.ba c
      obtain ⟨c2, c⟩ := He.ba c
      obtain ⟨c3, c⟩ := He.ba c
      obtain ⟨c4, c⟩ := He.ba c
      obtain ⟨c5, c6⟩ := He.ba c
      have c2 := of_decide_eq_true c2
      have c4 := of_decide_eq_true c4
      subst c2 c4
      obtain ⟨m1, m2, m3, m4, m5, m6, m7, m8, m9, m10, m11⟩ := cd
      obtain ⟨sl⟩ := sl
      simp only at e1 e2 c5 c6
      simp only [Bool.not_eq_true'] at c6
      subst e1 e2 c5 c6
      exact ⟨_, _, _, _, bm, _, _, _, _, _, k0, k1, k2, k3, k5, e, c3⟩
    · cases c
  · cases c
theorem oex_of (c : bOex x K = true) : OexC K (ga K x) := by
  obtain ⟨c1, c⟩ := He.ba c
  obtain ⟨c2, c⟩ := He.ba c
  obtain ⟨c3, c⟩ := He.ba c
  obtain ⟨c4, c5⟩ := He.ba c
  exact ⟨oexB_ok c1, eqO_ok c2, of_decide_eq_true c3, of_decide_eq_true c4, c5⟩
theorem sup_of (o : bOex x K = true) (c : bSup x y K = true) : SupExc K (ga K x) (ga K y) ∧ PySem.W.findIn K (.ref (ga K x)) "__init__" = some (some (.ref (ma K (ga K y) "__init__"))) ∧ PySem.W.typeIn K (.ref (ma K (ga K y) "__init__")) = some (.type "function") := by
  obtain ⟨c1, c⟩ := He.ba c
  obtain ⟨c2, c⟩ := He.ba c
  obtain ⟨c3, c⟩ := He.ba c
  obtain ⟨c4, c⟩ := He.ba c
  obtain ⟨c5, c6⟩ := He.ba c
  exact ⟨⟨oex_of o, of_decide_eq_true c1, eqO_ok c2, of_decide_eq_true c3, eqO_ok c4⟩, eqO_ok c5, of_decide_eq_true c6⟩
theorem vals_int : ∀ {ns : List Int} {us : List Value}, Vals (ns.map V.int) us → (us.any fun v => match v with
      | .int _ _ => false
      | _ => true) = false
  | [], _, .nil => rfl
  | n :: ns, _, .cons r t => by
    obtain ⟨k, rfl⟩ := r
    rw [List.any_cons, vals_int t]
    rfl
theorem scr_of {H : Hp} {a : Addr} {ns : List Int} (c : bNoL K = true) (hO : Only H) (hS : SqL K H a (ns.map V.int)) : ∃ ob, H a = some (.frz ob (.lst (ns.map V.int))) := by
  rcases hS with (hS | ⟨ob, hS⟩) | ⟨o, its, n, lk, o1, o2, o3, o4, o5⟩
  · rcases hO a with z | ⟨ob, xs, z⟩
    · rw [hS] at z; cases z
    · rw [hS] at z; cases z
  · exact ⟨ob, hS⟩
  · exfalso
    obtain ⟨oc, od, dt, sl⟩ := o
    simp only at o1 o2 o3
    subst o1 o2 o3
    have hm : (a, (⟨.type "list", none, .seq its n, sl⟩ : Obj)) ∈ K := by
      clear c o5 o4
      induction K with
      | nil => cases lk
      | cons e K ih =>
        obtain ⟨b, u⟩ := e
        rw [List.lookup_cons] at lk
        split at lk
        · rename_i hb
          have hb := eq_of_beq hb
          cases lk
          subst hb
          exact List.mem_cons_self
        · exact List.mem_cons_of_mem _ (ih lk)
    have q := List.all_eq_true.mp c _ hm
    have q : (!decide ("list" = "list") || its.toList.any fun v => match v with
      | .int _ _ => false
      | _ => true) = true := q
    rw [vals_int o5, Bool.or_false] at q
    simp at q
end

/-! ### a def that says super(), the Hook -/
abbrev FnS : Type := Option (Str × Str × Arguments × FuncBody × Scope × Addr × List Str × Addr)
structure SupD where
  cls : Str
  name : Str
  qual : Str
  params : Arguments
  body : List Stmt
  scope : Scope
def SupD.at_ (K : PySem.W.Frag) (d : SupD) : Addr := ma K (ga K d.cls) d.name
def fnS (K : PySem.W.Frag) (f : Addr) : FnS := match K.lookup f with
  | some ⟨_, _, .func fd, _⟩ => some (fd.name, fd.qualname, fd.params, fd.body, fd.scope, fd.globals, fd.closure.map (·.1), fd.builtins)
  | _ => none
def SupD.val (d : SupD) : FnS := some (d.name, d.qual, d.params, .stmts d.body, d.scope, mainGlobals, ["__class__"], builtinsNs)
def SupD.ok (file : Str) (K : PySem.W.Frag) (d : SupD) : Bool := PySem.W.keepIn K (.ref (d.at_ K)) && (match K.lookup (d.at_ K) with
  | some ⟨_, _, .func fd, _⟩ => (match fd.closure with
    | [(_, cc)] => (match K.lookup cc with
      | some ⟨_, _, .cell (some (.ref D)), _⟩ => decide (D = ga K d.cls)
      | _ => false)
    | _ => false) && ((match fd.defaults with
      | .none => true
      | _ => false) && ((PySem.W.clsIn K (ga K d.cls)).isSome && (match fd.code with
    | .ref c => PySem.W.codeIn K (.ref c) d.qual && (match K.lookup c with
      | some ⟨_, _, .fields vs, _⟩ => (match (vs[2]? : Option Value) with
        | some (.str fl _) => (file == fl)
        | _ => false)
      | _ => false)
    | _ => false)))
  | _ => false)
theorem SupD.fn {P : Program} {K : PySem.W.Frag} {d : SupD} (e : fnS K (d.at_ K) = d.val) (c : d.ok P.main.file K = true) (top : (P.main.scope.names.lookup ("super" : Str)).isSome = false) :
    ∃ (F : NdefX.NF) (fd : FuncData), F.name = d.name ∧ F.qual = d.qual ∧ F.params = d.params ∧ F.body = d.body ∧ F.scope = d.scope ∧ SupFn P K (d.at_ K) F (ga K d.cls) [] fd := by
  obtain ⟨kp, c2⟩ := He.ba c
  unfold fnS at e
  cases q : K.lookup (d.at_ K) with
  | none => rw [q] at c2; cases c2
  | some o =>
    obtain ⟨oc, od, dt, osl⟩ := o
    rw [q] at c2 e
    cases dt with
    | func fd =>
      obtain ⟨n1, n2, n3, n4, n5, n6, n7, n8, n9, n10, n11, n12, n13, n14, n15⟩ := fd
      have e2 : (some (n1, n2, n3, n4, n5, n6, n7.map (·.1), n15) : FnS) = (some (d.name, d.qual, d.params, FuncBody.stmts d.body, d.scope, mainGlobals, ["__class__"], builtinsNs) : FnS) := e
      simp only [Option.some.injEq, Prod.mk.injEq] at e2
      obtain ⟨h1, h2, h3, h4, h5, h6, h7, h8⟩ := e2
      obtain ⟨k1, c3⟩ := He.ba c2
      obtain ⟨k2, c4⟩ := He.ba c3
      obtain ⟨k3, k4⟩ := He.ba c4
      clear c4 c3 c2 e c
      obtain _ | ⟨⟨xc, cc⟩, _ | ⟨b, r⟩⟩ := n7
      · cases h7
      · simp only [List.map_cons, List.map_nil, List.cons.injEq, and_true] at h7
        subst h7
        simp only at k1 k2 k4
        split at k1
        · rename_i c1 c2 D c3 hc
          have k1' := of_decide_eq_true k1
          clear k1
          split at k2
          · split at k4
            · rename_i c
              obtain ⟨k5, k6⟩ := He.ba k4
              clear k4 k2
              split at k6
              · rename_i a1 a2 vs a3 hcc
                split at k6
                · rename_i fl tf hvs
                  subst h1 h2 h3 h4 h5 h6 h8
                  obtain ⟨cdD, hcd⟩ := Option.isSome_iff_exists.mp k3
                  subst k1'
                  exact ⟨⟨d.name, d.qual, d.params, d.body, d.scope, [("__class__", cc)], _⟩, _, rfl, rfl, rfl, rfl, rfl, ⟨⟨cc, oc, od, _, _, _, _, _, _, osl, rfl, rfl, q, .inl ⟨rfl, rfl⟩, _, _, _, hc⟩, k5, ⟨_, _, vs, _, fl, tf, hcc, hvs, k6⟩, ⟨cdD, hcd⟩, top, kp⟩⟩
                · cases k6
              · cases k6
            · cases k4
          · cases k2
        · cases k1
      · cases h7
    | _ => cases c2
abbrev AlX : Type := Bool × List FnW × List FnS
def obsX (file : Str) (fa : List BF) (fn : List DefD) (sn : List SupD) (K : PySem.W.Frag) : AlX := ((fa.all fun f => f K) && (fn.all (fun d => d.ok K) && sn.all fun d => d.ok file K), fn.map (fun d => fnW K d.at_), sn.map fun d => fnS K (d.at_ K))
def valX (fn : List DefD) (sn : List SupD) : AlX := (true, fn.map DefD.val, sn.map SupD.val)
def SaysX (file : Str) (fa : List BF) (fn : List DefD) (sn : List SupD) (K : PySem.W.Frag) : Prop := obsX file fa fn sn K = valX fn sn
def asX (g : Addr → Option Obj) (n : Nat) : List Addr := asD g n ++ [cStatics]
def obsXG (n : Nat) (file : Str) (fa : List BF) (fn : List DefD) (sn : List SupD) (g : Addr → Option Obj) : AlX := obsX file fa fn sn (frG g (asX g n))
def hookX (n : Nat) (file : Str) (fa : List BF) (fn : List DefD) (sn : List SupD) : PySem.W.Hook where
  α := AlX
  obs := fun s => obsXG n file fa fn sn s.heap.get?
  val := fun _ => valX fn sn
  says := fun _ h => ∃ K : PySem.W.Frag, K.In h ∧ SaysX file fa fn sn K
  of := fun _ _ e => ⟨_, frG_in, e⟩
  keeps := fun _ _ _ ⟨K, hK, c⟩ k => ⟨K, PySem.W.Frag.In.keeps hK k, c⟩
theorem obsXG_eq {n : Nat} {file : Str} {fa : List BF} {fn : List DefD} {sn : List SupD} {g : Addr → Option Obj} {s : Shared} (h : ∀ a, g a = s.heap.get? a) : obsXG n file fa fn sn g = (hookX n file fa fn sn).obs s := by
  have e : g = s.heap.get? := funext h
  rw [e] <;> rfl
section
variable {file : Str} {fa : List BF} {fn : List DefD} {sn : List SupD} {K : PySem.W.Frag}
theorem SaysX.fact (c : SaysX file fa fn sn K) (i : Nat) {f : BF} (h : fa[i]? = some f := by rfl) : f K = true := by
  have c1 := (He.ba (show ((fa.all fun f => f K) && (fn.all (fun d => d.ok K) && sn.all fun d => d.ok file K)) = true from congrArg (fun z : AlX => z.1) c)).1
  exact List.all_eq_true.mp c1 f (List.mem_of_getElem? h)
theorem SaysX.def_ (c : SaysX file fa fn sn K) (i : Nat) {d : DefD} (h : fn[i]? = some d := by rfl) : ∃ fd, FunD K d.name d.qual d.params d.body d.scope (d.dvs K) (d.kws K) (fAd K d.at_) fd := by
  have c2 := (He.ba (He.ba (show ((fa.all fun f => f K) && (fn.all (fun d => d.ok K) && sn.all fun d => d.ok file K)) = true from congrArg (fun z : AlX => z.1) c)).2).1
  have e : fn.map (fun d => fnW K d.at_) = fn.map DefD.val := congrArg (fun z : AlX => z.2.1) c
  have e2 : (fn.map fun d => fnW K d.at_)[i]? = (fn.map DefD.val)[i]? := by rw [e]
  rw [List.getElem?_map, List.getElem?_map, h] at e2
  exact DefD.funD (Option.some.inj e2) (List.all_eq_true.mp c2 d (List.mem_of_getElem? h))
theorem SaysX.sup {P : Program} (c : SaysX P.main.file fa fn sn K) (i : Nat) (top : (P.main.scope.names.lookup ("super" : Str)).isSome = false) {d : SupD} (h : sn[i]? = some d := by rfl) :
    ∃ (F : NdefX.NF) (fd : FuncData), F.name = d.name ∧ F.qual = d.qual ∧ F.params = d.params ∧ F.body = d.body ∧ F.scope = d.scope ∧ SupFn P K (d.at_ K) F (ga K d.cls) [] fd := by
  have c2 := (He.ba (He.ba (show ((fa.all fun f => f K) && (fn.all (fun d => d.ok K) && sn.all fun d => d.ok P.main.file K)) = true from congrArg (fun z : AlX => z.1) c)).2).2
  have e : sn.map (fun d => fnS K (d.at_ K)) = sn.map SupD.val := congrArg (fun z : AlX => z.2.2) c
  have e2 : (sn.map fun d => fnS K (d.at_ K))[i]? = (sn.map SupD.val)[i]? := by rw [e]
  rw [List.getElem?_map, List.getElem?_map, h] at e2
  exact SupD.fn (Option.some.inj e2) (List.all_eq_true.mp c2 d (List.mem_of_getElem? h)) top
end
/-- a law's end -/
theorem walk_ofX {l : PySem.W.OpenLaw} {n k : Nat} {q : Program} {loose : List Str} {XP : (Str → Option Value) → Heap → Prop} {YP : World → Heap → Prop} {d : DefRec} {x : Str}
    (hn : l.most = some n) (hn2 : n ≤ sizeLine) (hdf : d.params.defaults = []) (hr : Room k callerA)
    (F : ∀ (w : World) (mg : Str → Option Value) (fa : Addr) (h : Heap), YP w h → h.Ns mainGlobals mg → mg d.name = some (.ref fa) →
      ∃ (K : PySem.W.Frag) (fd : FuncData) (sp : Sp), K.In h ∧ (∀ (s : Shared) (u : Value), BindsTo s fd ⟨[u], []⟩ [(x, u)]) ∧
        (∀ (H : Hp) (a : Addr) (ns : List Int), ns.length ≤ n → Only H → SqL K H a (ns.map V.int) → sp [.ref a] H (fun v _ => v = .bl true) fun _ _ _ => False) ∧
        ∀ base : Heap, K.In base → base.Ns mainGlobals mg → FnOk l.prog w K mg base (L2.CX l.prog w) k fa fd [x] sp) :
    PySem.W.WalkO q loose XP YP l.row.toRowW d [] (fun f vs => PySem.call f vs) := by
  refine Att.attach_call hn hdf fun w s₀ s₁ mg mb fa o pm cd doc a vs ns G Y ho hd hcd hmg hobj hints hlen hg => ?_
  obtain ⟨K, fd, sp, KX, hb, hsp, hF⟩ := F w mg fa _ Y G.T.g hmg
  exact law_call KX G.T.g G.T.b G.T.builtins G.T.nolimit hg hobj hints (Nat.le_trans hlen hn2) hr hF hb (fun H hO hS => hsp H a ns hlen hO hS) fun H e s' ⟨_, _, _, _, _, _, _, _, _, _, _, _, z⟩ => z
end Ta

set_option Elab.async false
set_option linter.all false
set_option maxRecDepth 100000
set_option maxHeartbeats 4000000
namespace Lw
open PySem PySem.Spec PyProof.Rows L2 Ta
def top (i : Nat) : Stmt := PySem.Challenge.pw_talepost_k00_alphabets.main.body.getD i (.Pass ⟨0, 0, 0, 0⟩)
structure Tx (K : PySem.W.Frag) (mg : Str → Option Value) : Prop where
  f_ValueError : mg "ValueError" = none
  f_abs : mg "abs" = none
  f_bool : mg "bool" = none
  f_int : mg "int" = none
  f_isinstance : mg "isinstance" = none
  f_len : mg "len" = none
  f_range : mg "range" = none
  f_set : mg "set" = none
  f_sorted : mg "sorted" = none
  f_str : mg "str" = none
  v_Alphabet : GlobV mg "Alphabet" (.ref (He.ga K "Alphabet"))
  v_BadAlphabet : GlobV mg "BadAlphabet" (.ref (He.ga K "BadAlphabet"))
  v_BadSet : GlobV mg "BadSet" (.ref (He.ga K "BadSet"))
  v_BadText : GlobV mg "BadText" (.ref (He.ga K "BadText"))
  v_SMALL : GlobV mg "SMALL" (.str (S [97, 98, 99, 100, 101, 102, 103, 104, 105, 106, 107, 108, 109, 110, 111, 112, 113, 114, 115, 116, 117, 118, 119, 120, 121, 122]))
  v_TaleError : GlobV mg "TaleError" (.ref (He.ga K "TaleError"))
  cc_Alphabet_JOINT : ClsConst K mg "Alphabet" "JOINT" (.str (S [45]))
  cc_Alphabet_MOST : ClsConst K mg "Alphabet" "MOST" (.int 4)
  k_Alphabet : Cls K (He.ga K "Alphabet")
  i_Alphabet : IsC K (He.ga K "Alphabet")
  n_Alphabet_letters : NoAttr K (He.ga K "Alphabet") "letters"
  n_Alphabet_vowels : NoAttr K (He.ga K "Alphabet") "vowels"
  n_Alphabet_consonants : NoAttr K (He.ga K "Alphabet") "consonants"
  n_Alphabet_signs : NoAttr K (He.ga K "Alphabet") "signs"
  o_Alphabet_Alphabet : PySem.W.kitOne K (.ref (He.ga K "Alphabet")) (.ref (He.ga K "Alphabet")) = some true
  x_BadAlphabet : XC K (He.ga K "BadAlphabet")
  nx_BadAlphabet_part : PySem.W.findIn K (.ref (He.ga K "BadAlphabet")) "part" = some none
  e_BadAlphabet_TaleError : PySem.W.exmOne K (.ref (He.ga K "BadAlphabet")) (.ref (He.ga K "TaleError")) = some true
  o_BadAlphabet_BadAlphabet : PySem.W.kitOne K (.ref (He.ga K "BadAlphabet")) (.ref (He.ga K "BadAlphabet")) = some true
  o_BadAlphabet_ValueError : PySem.W.kitOne K (.ref (He.ga K "BadAlphabet")) (.type "ValueError") = some true
  a_BadAlphabet_BadText_BadSet : PySem.W.kitAny K (.ref (He.ga K "BadAlphabet")) [.ref (He.ga K "BadText"), .ref (He.ga K "BadSet")] = some false
  c_Alphabet_JOINT : ∃ u, Con K (He.ga K "Alphabet") "JOINT" (.str (S [45])) u
  c_Alphabet_MOST : ∃ u, Con K (He.ga K "Alphabet") "MOST" (.int 4) u
abbrev pr (a b : Int) : HO := .lst [.int a, .int b]
abbrev scr (ob : Obj) (ns : List Int) : HO := .frz ob (.lst (ns.map V.int))
abbrev AZ : List Nat := [97, 98, 99, 100, 101, 102, 103, 104, 105, 106, 107, 108, 109, 110, 111, 112, 113, 114, 115, 116, 117, 118, 119, 120, 121, 122]
def dif (l : List Nat) : Bool := decide ((dn l : Int) = (l.length : Int))
def badL (l : List Nat) : Bool := l.any (fun c => !decide (c ∈ AZ)) || !(decide (1 ≤ l.length ∧ l.length ≤ 4)) || !dif l
def badV (l v : List Nat) : Bool := v.any (fun c => !decide (c ∈ l)) || !dif v
abbrev tLet : List Nat := [108, 101, 116, 116, 101, 114, 115]
abbrev tVow : List Nat := [118, 111, 119, 101, 108, 115]
def alf (l v : List Nat) : List (Str × V) := [("letters", .str (S (srt l))), ("vowels", .str (S (srt v))), ("consonants", .str (S ((srt l).filter fun c => !decide (c ∈ v)))), ("signs", .str (S (45 :: srt l)))]
theorem badL1 {l : List Nat} (h : (sgn (l.filter fun c => !decide (c ∈ AZ))).isEmpty = false) : badL l = true := by
  rw [sgn_fe] at h
  unfold badL
  simp only [Bool.not_eq_false'] at h
  rw [h, Bool.true_or, Bool.true_or]
theorem badL2 {l : List Nat} (h : ¬ (1 : Int) ≤ (l.length : Int)) : badL l = true := by
  unfold badL
  rw [decide_eq_false (by omega : ¬ (1 ≤ l.length ∧ l.length ≤ 4)), Bool.not_false, Bool.or_true, Bool.true_or]
theorem badL3 {l : List Nat} (h : ¬ (l.length : Int) ≤ 4) : badL l = true := by
  unfold badL
  rw [decide_eq_false (by omega : ¬ (1 ≤ l.length ∧ l.length ≤ 4)), Bool.not_false, Bool.or_true, Bool.true_or]
theorem badL4 {l : List Nat} (h : ¬ (dn l : Int) = (l.length : Int)) : badL l = true := by
  unfold badL dif
  rw [decide_eq_false h, Bool.not_false, Bool.or_true]
theorem badL0 {l : List Nat} (h : (sgn (l.filter fun c => !decide (c ∈ AZ))).isEmpty = true) (h1 : (1 : Int) ≤ (l.length : Int)) (h2 : (l.length : Int) ≤ 4) (h3 : (dn l : Int) = (l.length : Int)) : badL l = false := by
  rw [sgn_fe] at h
  unfold badL dif
  simp only [Bool.not_eq_true'] at h
  rw [h, decide_eq_true (by omega : 1 ≤ l.length ∧ l.length ≤ 4), decide_eq_true h3]; rfl
theorem badV1 {l v : List Nat} (h : (sgn (v.filter fun c => !decide (c ∈ l))).isEmpty = false) : badV l v = true := by
  rw [sgn_fe] at h
  unfold badV
  simp only [Bool.not_eq_false'] at h
  rw [h, Bool.true_or]
theorem badV2 {l v : List Nat} (h : ¬ (dn v : Int) = (v.length : Int)) : badV l v = true := by
  unfold badV dif
  rw [decide_eq_false h, Bool.not_false, Bool.or_true]
theorem badV0 {l v : List Nat} (h : (sgn (v.filter fun c => !decide (c ∈ l))).isEmpty = true) (h3 : (dn v : Int) = (v.length : Int)) : badV l v = false := by
  rw [sgn_fe] at h
  unfold badV dif
  simp only [Bool.not_eq_true'] at h
  rw [h, decide_eq_true h3]; rfl
theorem dif_nd (l : List Nat) : dif l = true ↔ l.Nodup := by
  unfold dif
  rw [decide_eq_true_iff, ← dn_nodup]
  omega
theorem badL_any {l : List Nat} {c : Nat} (h : c ∈ l) (hc : ¬ c ∈ AZ) : badL l = true := by
  unfold badL
  have z : (l.any fun c => !decide (c ∈ AZ)) = true := List.any_eq_true.mpr ⟨c, h, by rw [decide_eq_false hc]; rfl⟩
  rw [z, Bool.true_or, Bool.true_or]
theorem badL_nd {l : List Nat} (h : ¬ l.Nodup) : badL l = true := by
  unfold badL
  have z : dif l = false := by
    cases e : dif l with
    | false => rfl
    | true => exact absurd ((dif_nd l).mp e) h
  rw [z, Bool.not_false, Bool.or_true]
theorem badV_any {l v : List Nat} {c : Nat} (h : c ∈ v) (hc : ¬ c ∈ l) : badV l v = true := by
  unfold badV
  have z : (v.any fun c => !decide (c ∈ l)) = true := List.any_eq_true.mpr ⟨c, h, by rw [decide_eq_false hc]; rfl⟩
  rw [z, Bool.true_or]
theorem badV_nd {l v : List Nat} (h : ¬ v.Nodup) : badV l v = true := by
  unfold badV
  have z : dif v = false := by
    cases e : dif v with
    | false => rfl
    | true => exact absurd ((dif_nd v).mp e) h
  rw [z, Bool.not_false, Bool.or_true]
theorem badL_ok {l : List Nat} (h1 : 1 ≤ l.length) (h2 : l.length ≤ 4) (h3 : l.Nodup) (h4 : ∀ c ∈ l, c ∈ AZ) : badL l = false := by
  unfold badL
  have z : (l.any fun c => !decide (c ∈ AZ)) = false := List.any_eq_false.mpr fun c hc => by rw [decide_eq_true (h4 c hc)]; decide
  rw [z, (dif_nd l).mpr h3, decide_eq_true ⟨h1, h2⟩]; rfl
theorem badV_ok {l v : List Nat} (h3 : v.Nodup) (h4 : ∀ c ∈ v, c ∈ l) : badV l v = false := by
  unfold badV
  have z : (v.any fun c => !decide (c ∈ l)) = false := List.any_eq_false.mpr fun c hc => by rw [decide_eq_true (h4 c hc)]; decide
  rw [z, (dif_nd v).mpr h3]; rfl
theorem nd_at {l : List Nat} {j : Nat} (hj : j < l.length) (h : l[j] ∈ l.take j) : ¬ l.Nodup := fun nd => by
  obtain ⟨i, hi, e⟩ := List.mem_iff_getElem.mp h
  have hi2 : i < j := by rw [List.length_take] at hi; omega
  rw [List.getElem_take] at e
  exact absurd ((List.getElem_inj nd).mp e) (by omega)
theorem nd_take {l : List Nat} {j : Nat} (hj : j < l.length) (h : ¬ l[j] ∈ l.take j) (nd : (l.take j).Nodup) : (l.take (j + 1)).Nodup := by
  rw [List.take_succ_eq_append_getElem hj]
  refine List.nodup_append.mpr ⟨nd, by simp, fun a ha b hb => ?_⟩
  rw [List.mem_singleton.mp hb]
  exact fun e => h (e ▸ ha)
theorem al_take {l m : List Nat} {j : Nat} (hj : j < l.length) (h : l[j] ∈ m) (al : ∀ c ∈ l.take j, c ∈ m) : ∀ c ∈ l.take (j + 1), c ∈ m := fun c hc => by
  rw [List.take_succ_eq_append_getElem hj] at hc
  rcases List.mem_append.mp hc with z | z
  · exact al c z
  · rw [List.mem_singleton.mp z]; exact h

/-! all_different -/
abbrev s_all_different : Stmt := top 8
theorem sc_all_different : FnScope ["string"] ["string"] (defScope s_all_different) := ⟨rfl, rfl, rfl, by decide +kernel, rfl, by decide +kernel, by decide +kernel⟩
@[irreducible] def sp_all_different (K : PySem.W.Frag) : Sp := fun vs H Q E => ∃ (l : List Nat), vs = [.str (S l)] ∧ l.length < 4000 ∧ Q (.bl (dif l)) H
theorem i_all_different {K : PySem.W.Frag} {l : List Nat} {H : Hp} {Q : VK} {E : XK} (h : l.length < 4000) (q : Q (.bl (dif l)) H) : sp_all_different K [.str (S l)] H Q E := by
  unfold sp_all_different; exact ⟨l, rfl, h, q⟩

def t_all_different (K : PySem.W.Frag) (W : WX) : TS :=
  (tRet (tOp (zEqP K) (tLset (tV 0)) (tCB (zLen K) (tCons (tV 0) tNil))))
theorem tm_all_different {P : Program} {w : World} {K : PySem.W.Frag} {mg : Str → Option Value} {base : Heap} {f : Addr} {cdv : Value} {A : Around} {outer : List Env} {s : Shared} {H : Hp} {E : XK} (T : Tx K mg) (hr : Room 4 (A.deeper (envOfC "all_different" (defScope s_all_different) s.heap.objs.size f cdv))) :
    PSs (cxOf (L2.CX P w) P w K mg base ["string"] "all_different" (defScope s_all_different) f cdv A outer s H E) (defBody s_all_different) (t_all_different K (WD E)) :=
  (pss_one (ps_ret (pe_cmpR (opeq hr.units) (plset rfl T.f_len T.f_set (pv 0)) (pcb (crlen) T.f_len (pa_cons (pv 0) pa_nil)) rfl)))
/-! Alphabet___init__ -/
abbrev s_Alphabet_init : Stmt := inClass (top 9) 2
theorem sc_Alphabet_init : FnScope ["self", "letters", "vowels", "foreign", "sign"] ["self", "letters", "vowels"] (defScope s_Alphabet_init) := ⟨rfl, rfl, rfl, by decide +kernel, rfl, by decide +kernel, by decide +kernel⟩
@[irreducible] def sp_Alphabet_init (K : PySem.W.Frag) : Sp := fun vs H Q E => ∃ (a dx : Addr) (l v : List Nat), vs = [.ref a, .str (S l), .str (S v)] ∧ H a = some (.ins (He.ga K "Alphabet") dx []) ∧ l.length < 64 ∧ v.length < 64 ∧
  (badL l = true → ∀ H' d, Kp [] H H' → H' d = none → E (.ref (He.ga K "BadAlphabet")) (some d) (upd H' d (.xd [("part", .str (S tLet))]))) ∧
  (badL l = false → badV l v = true → ∀ H' d, Kp [] H H' → H' d = none → E (.ref (He.ga K "BadAlphabet")) (some d) (upd H' d (.xd [("part", .str (S tVow))]))) ∧
  (badL l = false → badV l v = false → ∀ H', Kp [a] H H' → H' a = some (.ins (He.ga K "Alphabet") dx (alf l v)) → Q .non H')
theorem i_Alphabet_init {K : PySem.W.Frag} {a dx : Addr} {l v : List Nat} {H : Hp} {Q : VK} {E : XK} (ha : H a = some (.ins (He.ga K "Alphabet") dx [])) (h1 : l.length < 64) (h2 : v.length < 64)
  (q1 : badL l = true → ∀ H' d, Kp [] H H' → H' d = none → E (.ref (He.ga K "BadAlphabet")) (some d) (upd H' d (.xd [("part", .str (S tLet))])))
  (q2 : badL l = false → badV l v = true → ∀ H' d, Kp [] H H' → H' d = none → E (.ref (He.ga K "BadAlphabet")) (some d) (upd H' d (.xd [("part", .str (S tVow))])))
  (q3 : badL l = false → badV l v = false → ∀ H', Kp [a] H H' → H' a = some (.ins (He.ga K "Alphabet") dx (alf l v)) → Q .non H') : sp_Alphabet_init K [.ref a, .str (S l), .str (S v)] H Q E := by
  unfold sp_Alphabet_init; exact ⟨a, dx, l, v, rfl, ha, h1, h2, q1, q2, q3⟩
/-- good letters and vowels -/
theorem g_Alphabet_init {K : PySem.W.Frag} {a dx : Addr} {l v : List Nat} {H : Hp} {Q : VK} {E : XK} (ha : H a = some (.ins (He.ga K "Alphabet") dx [])) (h1 : l.length < 64) (h2 : v.length < 64) (e1 : badL l = false) (e2 : badV l v = false)
  (q3 : ∀ H', Kp [a] H H' → H' a = some (.ins (He.ga K "Alphabet") dx (alf l v)) → Q .non H') : sp_Alphabet_init K [.ref a, .str (S l), .str (S v)] H Q E := by
  refine i_Alphabet_init ha h1 h2 (fun z => ?_) (fun _ z => ?_) fun _ _ => q3
  · rw [e1] at z; cases z
  · rw [e2] at z; cases z

def t_Alphabet_init (K : PySem.W.Frag) (W : WX) : TS :=
  (tSeq (tAsg (tLcP (jA K (tV 1)) (gName 4) (tTst (tOp (zNinP K) (tV 4) (tC (.str (S [97, 98, 99, 100, 101, 102, 103, 104, 105, 106, 107, 108, 109, 110, 111, 112, 113, 114, 115, 116, 117, 118, 119, 120, 121, 122]))))) (tV 4) [4]) (gName 3))
  (tSeq (tIfP (tOrP (tTru K (tV 3)) (tOrP (tNot (tTst (tChn zLe zLe (tC (.int 1)) (tCB (zLen K) (tCons (tV 1) tNil)) (tC (.int 4))))) (tNot (tTru K (tCal (sp_all_different K) [] W (tCons (tV 1) tNil)))))) (tRs (He.ga K "BadAlphabet") ["part"] W (tCons (tC (.str (S [108, 101, 116, 116, 101, 114, 115]))) tNil)) tNext)
  (tSeq (tIfP (tOrP (tTru K (tLcP (jA K (tV 2)) (gName 4) (tTst (tOp (zNinP K) (tV 4) (tV 1))) (tV 4) [4])) (tNot (tTru K (tCal (sp_all_different K) [] W (tCons (tV 2) tNil))))) (tRs (He.ga K "BadAlphabet") ["part"] W (tCons (tC (.str (S [118, 111, 119, 101, 108, 115]))) tNil)) tNext)
  (tSeq (sAt K (tV 0) (tSM (zJoin K) (tC (.str (S []))) (tCons (tCB (zSort1) (tCons (tV 1) tNil)) tNil)) "letters")
  (tSeq (sAt K (tV 0) (tSM (zJoin K) (tC (.str (S []))) (tCons (tCB (zSort1) (tCons (tV 2) tNil)) tNil)) "vowels")
  (tSeq (sAt K (tV 0) (tSM (zJoin K) (tC (.str (S []))) (tCons (tLcP (jA K (tCB (zSort1) (tCons (tV 1) tNil))) (gName 4) (tTst (tOp (zNinP K) (tV 4) (tV 2))) (tV 4) [4]) tNil)) "consonants")
  (sAt K (tV 0) (tOp zAdd (tC (.str (S [45]))) (tAt K (tV 0) "letters")) "signs")))))))
theorem tm_Alphabet_init {P : Program} {w : World} {K : PySem.W.Frag} {mg : Str → Option Value} {base : Heap} {f : Addr} {cdv : Value} {A : Around} {outer : List Env} {s : Shared} {H : Hp} {E : XK} (T : Tx K mg) (G_all_different : Fn P w K mg base "all_different" 5 [] (sp_all_different K)) (X_BadAlphabet : Ex P w K mg base "BadAlphabet" (He.ga K "BadAlphabet") ["part"]) (hr : Room 6 (A.deeper (envOfC "Alphabet.__init__" (defScope s_Alphabet_init) s.heap.objs.size f cdv))) :
    PSs (cxOf (L2.CX P w) P w K mg base ["self", "letters", "vowels", "foreign", "sign"] "Alphabet.__init__" (defScope s_Alphabet_init) f cdv A outer s H E) (defBody s_Alphabet_init) (t_Alphabet_init K (WD E)) :=
  (pss_cons (pslc (i := 3) [("sign", 4)] rfl sc_Alphabet_init.nd rfl rfl (sw_true rfl rfl rfl (by decide +kernel)) (pja (pv 1)) (by kernel_rfl) (fun _ _ _ _ _ => (pgn 4 sc_Alphabet_init.nd)) (fun _ _ _ _ _ => (pts_one (ptcmp opnin (pv 4) (pglo T.v_SMALL)))) (fun _ _ _ _ _ => (pv 4)))
  (pss_cons (psif (PW.pt (pwor (ptru (pv 3)) (pwor (pt_not (ptchn ople ople pe_int (pcb (crlen) T.f_len (pa_cons (pv 1) pa_nil)) (pclv T.cc_Alphabet_MOST))) (pw_or1 (pt_not (ptru (pcall G_all_different (hr.mono (by decide)) takesD (pa_cons (pv 1) pa_nil)))))))) (pss_one (praise X_BadAlphabet (hr.mono (by decide)) takesD (pa_cons (pstr [108, 101, 116, 116, 101, 114, 115]) pa_nil))) pss_nil)
  (pss_cons (psif (PW.pt (pwor (ptru (plc [("sign", 4)] rfl sc_Alphabet_init.nd (pja (pv 2)) (by kernel_rfl) (fun _ _ _ _ _ => (pgn 4 sc_Alphabet_init.nd)) (fun _ _ _ _ _ => (pts_one (ptcmp opnin (pv 4) (pv 1)))) (fun _ _ _ _ _ => (pv 4)))) (pw_or1 (pt_not (ptru (pcall G_all_different (hr.mono (by decide)) takesD (pa_cons (pv 2) pa_nil))))))) (pss_one (praise X_BadAlphabet (hr.mono (by decide)) takesD (pa_cons (pstr [118, 111, 119, 101, 108, 115]) pa_nil))) pss_nil)
  (pss_cons (psat (pv 0) (psm PySem.F.slot_str_join PySem.F.type_str_join mtjoin (pstr []) (pa_cons (pcb (crsort rfl) T.f_sorted (pa_cons (pv 1) pa_nil)) pa_nil)))
  (pss_cons (psat (pv 0) (psm PySem.F.slot_str_join PySem.F.type_str_join mtjoin (pstr []) (pa_cons (pcb (crsort rfl) T.f_sorted (pa_cons (pv 2) pa_nil)) pa_nil)))
  (pss_cons (psat (pv 0) (psm PySem.F.slot_str_join PySem.F.type_str_join mtjoin (pstr []) (pa_cons (plc [("sign", 4)] rfl sc_Alphabet_init.nd (pja (pcb (crsort rfl) T.f_sorted (pa_cons (pv 1) pa_nil))) (by kernel_rfl) (fun _ _ _ _ _ => (pgn 4 sc_Alphabet_init.nd)) (fun _ _ _ _ _ => (pts_one (ptcmp opnin (pv 4) (pv 2)))) (fun _ _ _ _ _ => (pv 4))) pa_nil)))
  (pss_one (psat (pv 0) (pe_op opadd (pclv T.cc_Alphabet_JOINT) (patt (pv 0)))))))))))
/-! Alphabet___eq__ -/
abbrev s_Alphabet_eq : Stmt := inClass (top 9) 3
theorem sc_Alphabet_eq : FnScope ["self", "other"] ["self", "other"] (defScope s_Alphabet_eq) := ⟨rfl, rfl, rfl, by decide +kernel, rfl, by decide +kernel, by decide +kernel⟩
@[irreducible] def sp_Alphabet_eq (K : PySem.W.Frag) : Sp := fun vs H Q E => ∃ a b dx dy l v m u, vs = [.ref a, .ref b] ∧ H a = some (.ins (He.ga K "Alphabet") dx (alf l v)) ∧ H b = some (.ins (He.ga K "Alphabet") dy (alf m u)) ∧ Q (.bl (decide (srt l = srt m) && decide (srt v = srt u))) H
theorem i_Alphabet_eq {K : PySem.W.Frag} {a b dx dy : Addr} {l v m u : List Nat} {H : Hp} {Q : VK} {E : XK} (ha : H a = some (.ins (He.ga K "Alphabet") dx (alf l v))) (hb : H b = some (.ins (He.ga K "Alphabet") dy (alf m u))) (q : Q (.bl (decide (srt l = srt m) && decide (srt v = srt u))) H) : sp_Alphabet_eq K [.ref a, .ref b] H Q E := by
  unfold sp_Alphabet_eq; exact ⟨a, b, dx, dy, l, v, m, u, rfl, ha, hb, q⟩

def t_Alphabet_eq (K : PySem.W.Frag) (W : WX) : TS :=
  (tRet (tAndE K (tCB (zIsa K) (tCons (tV 1) (tCons (tC (.ref (He.ga K "Alphabet"))) tNil))) (tAndE K (tOp (zEqP K) (tAt K (tV 0) "letters") (tAt K (tV 1) "letters")) (tOp (zEqP K) (tAt K (tV 0) "vowels") (tAt K (tV 1) "vowels")))))
theorem tm_Alphabet_eq {P : Program} {w : World} {K : PySem.W.Frag} {mg : Str → Option Value} {base : Heap} {f : Addr} {cdv : Value} {A : Around} {outer : List Env} {s : Shared} {H : Hp} {E : XK} (T : Tx K mg) (hr : Room 4 (A.deeper (envOfC "Alphabet.__eq__" (defScope s_Alphabet_eq) s.heap.objs.size f cdv))) :
    PSs (cxOf (L2.CX P w) P w K mg base ["self", "other"] "Alphabet.__eq__" (defScope s_Alphabet_eq) f cdv A outer s H E) (defBody s_Alphabet_eq) (t_Alphabet_eq K (WD E)) :=
  (pss_one (ps_ret (peand (pcb (crisa) T.f_isinstance (pa_cons (pv 1) (pa_cons (pglo T.v_Alphabet) pa_nil))) (peand (pe_cmpR (opeq hr.units) (patt (pv 0)) (patt (pv 1)) rfl) (pe_one (pe_cmpR (opeq hr.units) (patt (pv 0)) (patt (pv 1)) rfl))))))
/-! _law_box -/
abbrev s_l_box : Stmt := top 11
theorem sc_l_box : FnScope ["_law_script", "_law_k", "_law_cell"] ["_law_script", "_law_k"] (defScope s_l_box) := ⟨rfl, rfl, rfl, by decide +kernel, rfl, by decide +kernel, by decide +kernel⟩
@[irreducible] def sp_l_box (K : PySem.W.Frag) : Sp := fun vs H Q E => ∃ (p : Addr) (k : Int) (ob : Obj) (ns : List Int), vs = [.ref p, .int k] ∧ H p = some (scr ob ns) ∧ 0 ≤ k ∧ ns.length < 1000 ∧ ∀ q a b, H q = none → Q (.ref q) (upd H q (pr a b))
theorem i_l_box {K : PySem.W.Frag} {p : Addr} {k : Int} {ob : Obj} {ns : List Int} {H : Hp} {Q : VK} {E : XK} (hp : H p = some (scr ob ns)) (h0 : 0 ≤ k) (h1 : ns.length < 1000) (q : ∀ q a b, H q = none → Q (.ref q) (upd H q (pr a b))) : sp_l_box K [.ref p, .int k] H Q E := by
  unfold sp_l_box; exact ⟨p, k, ob, ns, rfl, hp, h0, h1, q⟩

def t_l_box (K : PySem.W.Frag) (W : WX) : TS :=
  (tSeq (tIfP (tNot (tTru K (tV 0))) (tRet (tLst (tCons (tC (.int 0)) (tCons (tC (.int 0)) tNil)))) tNext)
  (tSeq (tAsg (tOp zAdd (tCB (zAbs) (tCons (tCB (zInt) (tCons (tOp (zIxP K) (tV 0) (tOp zMod (tCB (zInt) (tCons (tV 1) tNil)) (tCB (zLen K) (tCons (tV 0) tNil)))) tNil)) tNil)) (tOp zMul (tC (.int 1009)) (tOp zDiv (tCB (zInt) (tCons (tV 1) tNil)) (tCB (zLen K) (tCons (tV 0) tNil))))) (gName 2))
  (tSeq (tIfP (tTst (tOp zLt (tV 2) (tOp zPow (tC (.int 10)) (tC (.int 18))))) (tRet (tLst (tCons (tV 2) (tCons (tC (.int 1)) tNil)))) tNext)
  (tRet (tLst (tCons (tV 2) (tCons (tC (.int 0)) tNil)))))))
theorem tm_l_box {P : Program} {w : World} {K : PySem.W.Frag} {mg : Str → Option Value} {base : Heap} {f : Addr} {cdv : Value} {A : Around} {outer : List Env} {s : Shared} {H : Hp} {E : XK} (T : Tx K mg) (hr : Room 4 (A.deeper (envOfC "_law_box" (defScope s_l_box) s.heap.objs.size f cdv))) :
    PSs (cxOf (L2.CX P w) P w K mg base ["_law_script", "_law_k", "_law_cell"] "_law_box" (defScope s_l_box) f cdv A outer s H E) (defBody s_l_box) (t_l_box K (WD E)) :=
  (pss_cons (psif (pt_not (ptru (pv 0))) (pss_one (ps_ret (pe_lst (pa_cons pe_int (pa_cons pe_int pa_nil))))) pss_nil)
  (pss_cons (pset 2 sc_l_box.nd (pe_op opadd (pcb (crabs) T.f_abs (pa_cons (pct (crint) T.f_int (pa_cons (pix (pv 0) (pe_op opmod (pct (crint) T.f_int (pa_cons (pv 1) pa_nil)) (pcb (crlen) T.f_len (pa_cons (pv 0) pa_nil)))) pa_nil)) pa_nil)) (pe_op opmul pe_int (pe_op opdiv (pct (crint) T.f_int (pa_cons (pv 1) pa_nil)) (pcb (crlen) T.f_len (pa_cons (pv 0) pa_nil))))))
  (pss_cons (psif (ptcmp oplt (pv 2) (pe_op oppow pe_int pe_int)) (pss_one (ps_ret (pe_lst (pa_cons (pv 2) (pa_cons pe_int pa_nil))))) pss_nil)
  (pss_one (ps_ret (pe_lst (pa_cons (pv 2) (pa_cons pe_int pa_nil))))))))
/-! _law_take -/
abbrev s_l_take : Stmt := top 12
theorem sc_l_take : FnScope ["_law_box_here", "_law_size", "_law_digit", "_law_mixed"] ["_law_box_here", "_law_size"] (defScope s_l_take) := ⟨rfl, rfl, rfl, by decide +kernel, rfl, by decide +kernel, by decide +kernel⟩
@[irreducible] def sp_l_take (K : PySem.W.Frag) : Sp := fun vs H Q E => ∃ p n a b, vs = [.ref p, .int n] ∧ H p = some (pr a b) ∧ 0 < n ∧ n < 1073741824 ∧ ∀ r a' b', 0 ≤ r → r < n → Q (.int r) (upd H p (pr a' b'))
theorem i_l_take {K : PySem.W.Frag} {p : Addr} {n a b : Int} {H : Hp} {Q : VK} {E : XK} (hp : H p = some (pr a b)) (h0 : 0 < n) (h1 : n < 1073741824) (q : ∀ r a' b', 0 ≤ r → r < n → Q (.int r) (upd H p (pr a' b'))) : sp_l_take K [.ref p, .int n] H Q E := by
  unfold sp_l_take; exact ⟨p, n, a, b, rfl, hp, h0, h1, q⟩

def t_l_take (K : PySem.W.Frag) (W : WX) : TS :=
  (tSeq (tIfP (tTst (tOp (zEqP K) (tOp (zIxP K) (tV 0) (tC (.int 1))) (tC (.int 0)))) (tSeq (tAsg (tOp zMod (tCB (zInt) (tCons (tOp (zIxP K) (tV 0) (tC (.int 0))) tNil)) (tV 1)) (gName 2))
  (tSeq (tAsg (tOp zDiv (tCB (zInt) (tCons (tOp (zIxP K) (tV 0) (tC (.int 0))) tNil)) (tV 1)) (gSub (tV 0) (tC (.int 0)) zSetP))
  (tRet (tV 2)))) tNext)
  (tSeq (tAsg (tOp zAdd (tOp (zIxP K) (tV 0) (tC (.int 1))) (tC (.int 1))) (gSub (tV 0) (tC (.int 1)) zSetP))
  (tSeq (tAsg (tOp zMod (tCB (zInt) (tCons (tOp zAdd (tOp zAdd (tOp zMul (tOp (zIxP K) (tV 0) (tC (.int 0))) (tC (.int 48271))) (tOp zMul (tOp (zIxP K) (tV 0) (tC (.int 1))) (tC (.int 69621)))) (tC (.int 13))) tNil)) (tC (.int 2147483647))) (gName 3))
  (tSeq (tAsg (tOp zMod (tCB (zInt) (tCons (tOp zMul (tV 3) (tOp zAdd (tOp zMod (tCB (zInt) (tCons (tV 3) tNil)) (tC (.int 65521))) (tC (.int 7919)))) tNil)) (tC (.int 2147483399))) (gName 3))
  (tRet (tOp zMod (tCB (zInt) (tCons (tOp zAdd (tOp zDiv (tV 3) (tC (.int 32))) (tOp zDiv (tV 3) (tC (.int 65537)))) tNil)) (tV 1)))))))
theorem tm_l_take {P : Program} {w : World} {K : PySem.W.Frag} {mg : Str → Option Value} {base : Heap} {f : Addr} {cdv : Value} {A : Around} {outer : List Env} {s : Shared} {H : Hp} {E : XK} (T : Tx K mg) (hr : Room 4 (A.deeper (envOfC "_law_take" (defScope s_l_take) s.heap.objs.size f cdv))) :
    PSs (cxOf (L2.CX P w) P w K mg base ["_law_box_here", "_law_size", "_law_digit", "_law_mixed"] "_law_take" (defScope s_l_take) f cdv A outer s H E) (defBody s_l_take) (t_l_take K (WD E)) :=
  (pss_cons (psif (ptcmp (opeq hr.units) (pix (pv 0) pe_int) pe_int) (pss_cons (pset 2 sc_l_take.nd (pe_op opmod (pct (crint) T.f_int (pa_cons (pix (pv 0) pe_int) pa_nil)) (pv 1)))
  (pss_cons (psub (pe_op opdiv (pct (crint) T.f_int (pa_cons (pix (pv 0) pe_int) pa_nil)) (pv 1)) (pv 0) pe_int)
  (pss_one (ps_ret (pv 2))))) pss_nil)
  (pss_cons (psub (pe_op opadd (pix (pv 0) pe_int) pe_int) (pv 0) pe_int)
  (pss_cons (pset 3 sc_l_take.nd (pe_op opmod (pct (crint) T.f_int (pa_cons (pe_op opadd (pe_op opadd (pe_op opmul (pix (pv 0) pe_int) pe_int) (pe_op opmul (pix (pv 0) pe_int) pe_int)) pe_int) pa_nil)) pe_int))
  (pss_cons (pset 3 sc_l_take.nd (pe_op opmod (pct (crint) T.f_int (pa_cons (pe_op opmul (pv 3) (pe_op opadd (pe_op opmod (pct (crint) T.f_int (pa_cons (pv 3) pa_nil)) pe_int) pe_int)) pa_nil)) pe_int))
  (pss_one (ps_ret (pe_op opmod (pct (crint) T.f_int (pa_cons (pe_op opadd (pe_op opdiv (pv 3) pe_int) (pe_op opdiv (pv 3) pe_int)) pa_nil)) (pv 1))))))))
/-! _law_pick -/
abbrev s_l_pick : Stmt := top 13
theorem sc_l_pick : FnScope ["_law_box_here", "_law_string", "_law_many", "_law_picked", "_law_turn", "_law_at"] ["_law_box_here", "_law_string", "_law_many"] (defScope s_l_pick) := ⟨rfl, rfl, rfl, by decide +kernel, rfl, by decide +kernel, by decide +kernel⟩
@[irreducible] def sp_l_pick (K : PySem.W.Frag) : Sp := fun vs H Q E => ∃ (p : Addr) (s : List Nat) (m a b : Int), vs = [.ref p, .str (S s), .int m] ∧ H p = some (pr a b) ∧ 0 ≤ m ∧ m ≤ s.length ∧ s.length < 1000 ∧ ∀ (l r : List Nat) a' b', (l.length : Int) = m → (l ++ r).Perm s → Q (.str (S l)) (upd H p (pr a' b'))
theorem i_l_pick {K : PySem.W.Frag} {p : Addr} {s : List Nat} {m a b : Int} {H : Hp} {Q : VK} {E : XK} (hp : H p = some (pr a b)) (h0 : 0 ≤ m) (h1 : m ≤ s.length) (h2 : s.length < 1000) (q : ∀ (l r : List Nat) a' b', (l.length : Int) = m → (l ++ r).Perm s → Q (.str (S l)) (upd H p (pr a' b'))) : sp_l_pick K [.ref p, .str (S s), .int m] H Q E := by
  unfold sp_l_pick; exact ⟨p, s, m, a, b, rfl, hp, h0, h1, h2, q⟩

def t_l_pick (K : PySem.W.Frag) (W : WX) : TS :=
  (tSeq (tAsg (tC (.str (S []))) (gName 3))
  (tSeq (tForP (jR1 (tCons (tV 2) tNil)) (gName 4) (tSeq (tAsg (tCal (sp_l_take K) [] W (tCons (tV 0) (tCons (tCB (zLen K) (tCons (tV 1) tNil)) tNil))) (gName 5))
  (tSeq (tAsg (tOp zAdd (tV 3) (tOp (zIxP K) (tV 1) (tV 5))) (gName 3))
  (tAsg (tOp zAdd (tSl (zSlP K) (tV 1) tNoPart (tPrt (tV 5))) (tSl (zSlP K) (tV 1) (tPrt (tOp zAdd (tV 5) (tC (.int 1)))) tNoPart)) (gName 1)))))
  (tRet (tV 3))))
theorem tm_l_pick {P : Program} {w : World} {K : PySem.W.Frag} {mg : Str → Option Value} {base : Heap} {f : Addr} {cdv : Value} {A : Around} {outer : List Env} {s : Shared} {H : Hp} {E : XK} (T : Tx K mg) (G_l_take : Fn P w K mg base "_law_take" 5 [] (sp_l_take K)) (hr : Room 6 (A.deeper (envOfC "_law_pick" (defScope s_l_pick) s.heap.objs.size f cdv))) :
    PSs (cxOf (L2.CX P w) P w K mg base ["_law_box_here", "_law_string", "_law_many", "_law_picked", "_law_turn", "_law_at"] "_law_pick" (defScope s_l_pick) f cdv A outer s H E) (defBody s_l_pick) (t_l_pick K (WD E)) :=
  (pss_cons (pset 3 sc_l_pick.nd (pstr []))
  (pss_cons (psfor ownD rfl (pjr1 T.f_range (pa_cons (pv 2) pa_nil)) (pgn 4 sc_l_pick.nd) (pss_cons (pset 5 sc_l_pick.nd (pcall G_l_take (hr.mono (by decide)) takesD (pa_cons (pv 0) (pa_cons (pcb (crlen) T.f_len (pa_cons (pv 1) pa_nil)) pa_nil))))
  (pss_cons (pset 3 sc_l_pick.nd (pe_op opadd (pv 3) (pix (pv 1) (pv 5))))
  (pss_one (pset 1 sc_l_pick.nd (pe_op opadd (psl (pv 1) po_none (posome (pv 5))) (psl (pv 1) (posome (pe_op opadd (pv 5) pe_int)) po_none)))))))
  (pss_one (ps_ret (pv 3)))))
/-! _law_char -/
abbrev s_l_char : Stmt := top 14
theorem sc_l_char : FnScope ["_law_box_here", "_law_chars"] ["_law_box_here"] (defScope s_l_char) := ⟨rfl, rfl, rfl, by decide +kernel, rfl, by decide +kernel, by decide +kernel⟩
@[irreducible] def sp_l_char (K : PySem.W.Frag) : Sp := fun vs H Q E => ∃ p a b, vs = [.ref p] ∧ H p = some (pr a b) ∧ ∀ c a' b', Q (.str (S [c])) (upd H p (pr a' b'))
theorem i_l_char {K : PySem.W.Frag} {p : Addr} {a b : Int} {H : Hp} {Q : VK} {E : XK} (hp : H p = some (pr a b)) (q : ∀ c a' b', Q (.str (S [c])) (upd H p (pr a' b'))) : sp_l_char K [.ref p] H Q E := by
  unfold sp_l_char; exact ⟨p, a, b, rfl, hp, q⟩

def t_l_char (K : PySem.W.Frag) (W : WX) : TS :=
  (tSeq (tAsg (tC (.str (S [32, 33, 34, 35, 36, 38, 39, 40, 41, 42, 43, 44, 45, 46, 47, 48, 49, 50, 51, 52, 53, 54, 55, 56, 57, 58, 59, 60, 61, 62, 63, 64, 65, 66, 67, 68, 69, 70, 71, 72, 73, 74, 75, 76, 77, 78, 79, 80, 81, 82, 83, 84, 85, 86, 87, 88, 89, 90, 91, 92, 93, 94, 95, 96]))) (gName 1))
  (tSeq (tAsg (tOp zAdd (tV 1) (tC (.str (S [97, 98, 99, 100, 101, 102, 103, 104, 105, 106, 107, 108, 109, 110, 111, 112, 113, 114, 115, 116, 117, 118, 119, 120, 121, 122, 123, 124, 125, 126, 10, 9])))) (gName 1))
  (tRet (tOp (zIxP K) (tV 1) (tCal (sp_l_take K) [] W (tCons (tV 0) (tCons (tC (.int 96)) tNil)))))))
theorem tm_l_char {P : Program} {w : World} {K : PySem.W.Frag} {mg : Str → Option Value} {base : Heap} {f : Addr} {cdv : Value} {A : Around} {outer : List Env} {s : Shared} {H : Hp} {E : XK} (T : Tx K mg) (G_l_take : Fn P w K mg base "_law_take" 5 [] (sp_l_take K)) (hr : Room 6 (A.deeper (envOfC "_law_char" (defScope s_l_char) s.heap.objs.size f cdv))) :
    PSs (cxOf (L2.CX P w) P w K mg base ["_law_box_here", "_law_chars"] "_law_char" (defScope s_l_char) f cdv A outer s H E) (defBody s_l_char) (t_l_char K (WD E)) :=
  (pss_cons (pset 1 sc_l_char.nd (pstr [32, 33, 34, 35, 36, 38, 39, 40, 41, 42, 43, 44, 45, 46, 47, 48, 49, 50, 51, 52, 53, 54, 55, 56, 57, 58, 59, 60, 61, 62, 63, 64, 65, 66, 67, 68, 69, 70, 71, 72, 73, 74, 75, 76, 77, 78, 79, 80, 81, 82, 83, 84, 85, 86, 87, 88, 89, 90, 91, 92, 93, 94, 95, 96]))
  (pss_cons (pset 1 sc_l_char.nd (pe_op opadd (pv 1) (pstr [97, 98, 99, 100, 101, 102, 103, 104, 105, 106, 107, 108, 109, 110, 111, 112, 113, 114, 115, 116, 117, 118, 119, 120, 121, 122, 123, 124, 125, 126, 10, 9])))
  (pss_one (ps_ret (pix (pv 1) (pcall G_l_take (hr.mono (by decide)) takesD (pa_cons (pv 0) (pa_cons pe_int pa_nil))))))))
/-! _law_second -/
abbrev s_l_second : Stmt := top 15
theorem sc_l_second : FnScope ["_law_box_here", "_law_letters", "_law_vowels", "_law_way", "_law_rest", "_law_char_here", "_law_old", "_law_new"] ["_law_box_here", "_law_letters", "_law_vowels"] (defScope s_l_second) := ⟨rfl, rfl, rfl, by decide +kernel, rfl, by decide +kernel, by decide +kernel⟩
/-- letters and vowels that an alphabet takes -/
def good (l v : List Nat) : Prop := badL l = false ∧ badV l v = false
@[irreducible] def sp_l_second (K : PySem.W.Frag) : Sp := fun vs H Q E => ∃ (p : Addr) (l v : List Nat) (a b : Int), vs = [.ref p, .str (S l), .str (S v)] ∧ H p = some (pr a b) ∧ good l v ∧ ∀ q m u H', good m u → Kp [p] H H' → H' q = some (.tup [.str (S m), .str (S u)]) → Q (.ref q) H'
theorem i_l_second {K : PySem.W.Frag} {p : Addr} {l v : List Nat} {a b : Int} {H : Hp} {Q : VK} {E : XK} (hp : H p = some (pr a b)) (hg : good l v) (q : ∀ q m u H', good m u → Kp [p] H H' → H' q = some (.tup [.str (S m), .str (S u)]) → Q (.ref q) H') : sp_l_second K [.ref p, .str (S l), .str (S v)] H Q E := by
  unfold sp_l_second; exact ⟨p, l, v, a, b, rfl, hp, hg, q⟩

def t_l_second (K : PySem.W.Frag) (W : WX) : TS :=
  (tSeq (tAsg (tCal (sp_l_take K) [] W (tCons (tV 0) (tCons (tC (.int 5)) tNil))) (gName 3))
  (tSeq (tAsg (tSM (zJoin K) (tC (.str (S []))) (tCons (tLcP (jA K (tC (.str (S [97, 98, 99, 100, 101, 102, 103, 104, 105, 106, 107, 108, 109, 110, 111, 112, 113, 114, 115, 116, 117, 118, 119, 120, 121, 122])))) (gName 5) (tTst (tOp (zNinP K) (tV 5) (tV 1))) (tV 5) [5]) tNil)) (gName 4))
  (tSeq (tIfP (tTst (tOp (zEqP K) (tV 3) (tC (.int 0)))) (tRet (tTup (tCons (tCal (sp_l_pick K) [] W (tCons (tV 0) (tCons (tV 1) (tCons (tCB (zLen K) (tCons (tV 1) tNil)) tNil)))) (tCons (tCal (sp_l_pick K) [] W (tCons (tV 0) (tCons (tV 2) (tCons (tCB (zLen K) (tCons (tV 2) tNil)) tNil)))) tNil)))) tNext)
  (tSeq (tIfP (tTst (tOp (zEqP K) (tV 3) (tC (.int 1)))) (tRet (tTup (tCons (tV 1) (tCons (tCal (sp_l_pick K) [] W (tCons (tV 0) (tCons (tV 1) (tCons (tCal (sp_l_take K) [] W (tCons (tV 0) (tCons (tOp zAdd (tCB (zLen K) (tCons (tV 1) tNil)) (tC (.int 1))) tNil))) tNil)))) tNil)))) tNext)
  (tSeq (tIfP (tTst (tOp (zEqP K) (tV 3) (tC (.int 2)))) (tSeq (tAsg (tPk (sp_l_take K) W 1 0) (gName 6))
  (tSeq (tAsg (tPk (sp_l_take K) W 4 0) (gName 7))
  (tRet (tTup (tCons (tRp 1 6 7) (tCons (tRp 2 6 7) tNil)))))) tNext)
  (tSeq (tIfP (tAndP (tTst (tOp (zEqP K) (tV 3) (tC (.int 3)))) (tTst (tOp zLt (tCB (zLen K) (tCons (tV 1) tNil)) (tC (.int 4))))) (tRet (tTup (tCons (tOp zAdd (tOp (zIxP K) (tV 4) (tCal (sp_l_take K) [] W (tCons (tV 0) (tCons (tCB (zLen K) (tCons (tV 4) tNil)) tNil)))) (tV 1)) (tCons (tV 2) tNil)))) tNext)
  (tSeq (tAsg (tCal (sp_l_pick K) [] W (tCons (tV 0) (tCons (tC (.str (S [97, 98, 99, 100, 101, 102, 103, 104, 105, 106, 107, 108, 109, 110, 111, 112, 113, 114, 115, 116, 117, 118, 119, 120, 121, 122]))) (tCons (tOp zAdd (tC (.int 1)) (tCal (sp_l_take K) [] W (tCons (tV 0) (tCons (tC (.int 4)) tNil)))) tNil)))) (gName 1))
  (tRet (tTup (tCons (tV 1) (tCons (tCal (sp_l_pick K) [] W (tCons (tV 0) (tCons (tV 1) (tCons (tCal (sp_l_take K) [] W (tCons (tV 0) (tCons (tOp zAdd (tCB (zLen K) (tCons (tV 1) tNil)) (tC (.int 1))) tNil))) tNil)))) tNil)))))))))))
theorem tm_l_second {P : Program} {w : World} {K : PySem.W.Frag} {mg : Str → Option Value} {base : Heap} {f : Addr} {cdv : Value} {A : Around} {outer : List Env} {s : Shared} {H : Hp} {E : XK} (T : Tx K mg) (G_l_pick : Fn P w K mg base "_law_pick" 7 [] (sp_l_pick K)) (G_l_take : Fn P w K mg base "_law_take" 5 [] (sp_l_take K)) (hr : Room 8 (A.deeper (envOfC "_law_second" (defScope s_l_second) s.heap.objs.size f cdv))) :
    PSs (cxOf (L2.CX P w) P w K mg base ["_law_box_here", "_law_letters", "_law_vowels", "_law_way", "_law_rest", "_law_char_here", "_law_old", "_law_new"] "_law_second" (defScope s_l_second) f cdv A outer s H E) (defBody s_l_second) (t_l_second K (WD E)) :=
  (pss_cons (pset 3 sc_l_second.nd (pcall G_l_take (hr.mono (by decide)) takesD (pa_cons (pv 0) (pa_cons pe_int pa_nil))))
  (pss_cons (pset 4 sc_l_second.nd (psm PySem.F.slot_str_join PySem.F.type_str_join mtjoin (pstr []) (pa_cons (plc [("_law_char_here", 5)] rfl sc_l_second.nd (pja (pstr [97, 98, 99, 100, 101, 102, 103, 104, 105, 106, 107, 108, 109, 110, 111, 112, 113, 114, 115, 116, 117, 118, 119, 120, 121, 122])) (by kernel_rfl) (fun _ _ _ _ _ => (pgn 5 sc_l_second.nd)) (fun _ _ _ _ _ => (pts_one (ptcmp opnin (pv 5) (pv 1)))) (fun _ _ _ _ _ => (pv 5))) pa_nil)))
  (pss_cons (psif (ptcmp (opeq hr.units) (pv 3) pe_int) (pss_one (ps_ret (pe_tup (pa_cons (pcall G_l_pick (hr.mono (by decide)) takesD (pa_cons (pv 0) (pa_cons (pv 1) (pa_cons (pcb (crlen) T.f_len (pa_cons (pv 1) pa_nil)) pa_nil)))) (pa_cons (pcall G_l_pick (hr.mono (by decide)) takesD (pa_cons (pv 0) (pa_cons (pv 2) (pa_cons (pcb (crlen) T.f_len (pa_cons (pv 2) pa_nil)) pa_nil)))) pa_nil))))) pss_nil)
  (pss_cons (psif (ptcmp (opeq hr.units) (pv 3) pe_int) (pss_one (ps_ret (pe_tup (pa_cons (pv 1) (pa_cons (pcall G_l_pick (hr.mono (by decide)) takesD (pa_cons (pv 0) (pa_cons (pv 1) (pa_cons (pcall G_l_take (hr.mono (by decide)) takesD (pa_cons (pv 0) (pa_cons (pe_op opadd (pcb (crlen) T.f_len (pa_cons (pv 1) pa_nil)) pe_int) pa_nil))) pa_nil)))) pa_nil))))) pss_nil)
  (pss_cons (psif (ptcmp (opeq hr.units) (pv 3) pe_int) (pssk0 (pssk_pk (ix := 6) (il := 1) (ib := 0) sc_l_second.nd G_l_take (hr.mono (by decide)) takesD T.f_len
  (pssk_pk (ix := 7) (il := 4) (ib := 0) sc_l_second.nd G_l_take (hr.mono (by decide)) takesD T.f_len
  (pssk_rtup (pak_cons (pek_repl (ix := 1) (io := 6) (iw := 7)) (pak_cons (pek_repl (ix := 2) (io := 6) (iw := 7)) pak_nil)))))) pss_nil)
  (pss_cons (psif (PW.pt (pwand (ptcmp (opeq hr.units) (pv 3) pe_int) (pw_and1 (ptcmp oplt (pcb (crlen) T.f_len (pa_cons (pv 1) pa_nil)) pe_int)))) (pss_one (ps_ret (pe_tup (pa_cons (pe_op opadd (pix (pv 4) (pcall G_l_take (hr.mono (by decide)) takesD (pa_cons (pv 0) (pa_cons (pcb (crlen) T.f_len (pa_cons (pv 4) pa_nil)) pa_nil)))) (pv 1)) (pa_cons (pv 2) pa_nil))))) pss_nil)
  (pss_cons (pset 1 sc_l_second.nd (pcall G_l_pick (hr.mono (by decide)) takesD (pa_cons (pv 0) (pa_cons (pstr [97, 98, 99, 100, 101, 102, 103, 104, 105, 106, 107, 108, 109, 110, 111, 112, 113, 114, 115, 116, 117, 118, 119, 120, 121, 122]) (pa_cons (pe_op opadd pe_int (pcall G_l_take (hr.mono (by decide)) takesD (pa_cons (pv 0) (pa_cons pe_int pa_nil)))) pa_nil)))))
  (pss_one (ps_ret (pe_tup (pa_cons (pv 1) (pa_cons (pcall G_l_pick (hr.mono (by decide)) takesD (pa_cons (pv 0) (pa_cons (pv 1) (pa_cons (pcall G_l_take (hr.mono (by decide)) takesD (pa_cons (pv 0) (pa_cons (pe_op opadd (pcb (crlen) T.f_len (pa_cons (pv 1) pa_nil)) pe_int) pa_nil))) pa_nil)))) pa_nil))))))))))))
/-! _law_bent -/
abbrev s_l_bent : Stmt := top 16
theorem sc_l_bent : FnScope ["_law_box_here", "_law_string", "_law_turn", "_law_way", "_law_at"] ["_law_box_here", "_law_string"] (defScope s_l_bent) := ⟨rfl, rfl, rfl, by decide +kernel, rfl, by decide +kernel, by decide +kernel⟩
@[irreducible] def sp_l_bent (K : PySem.W.Frag) : Sp := fun vs H Q E => ∃ (p : Addr) (s : List Nat) (a b : Int), vs = [.ref p, .str (S s)] ∧ H p = some (pr a b) ∧ s.length ≤ 4 ∧ ∀ (l : List Nat) a' b', l.length < 64 → Q (.str (S l)) (upd H p (pr a' b'))
theorem i_l_bent {K : PySem.W.Frag} {p : Addr} {s : List Nat} {a b : Int} {H : Hp} {Q : VK} {E : XK} (hp : H p = some (pr a b)) (h : s.length ≤ 4) (q : ∀ (l : List Nat) a' b', l.length < 64 → Q (.str (S l)) (upd H p (pr a' b'))) : sp_l_bent K [.ref p, .str (S s)] H Q E := by
  unfold sp_l_bent; exact ⟨p, s, a, b, rfl, hp, h, q⟩

def t_l_bent (K : PySem.W.Frag) (W : WX) : TS :=
  (tSeq (tForP (jR1 (tCons (tCal (sp_l_take K) [] W (tCons (tV 0) (tCons (tC (.int 3)) tNil))) tNil)) (gName 2) (tSeq (tAsg (tCal (sp_l_take K) [] W (tCons (tV 0) (tCons (tC (.int 6)) tNil))) (gName 3))
  (tSeq (tAsg (tCal (sp_l_take K) [] W (tCons (tV 0) (tCons (tOp zAdd (tCB (zLen K) (tCons (tV 1) tNil)) (tC (.int 1))) tNil))) (gName 4))
  (tSeq (tIfP (tOrP (tTst (tOp (zEqP K) (tV 3) (tC (.int 0)))) (tTst (tOp (zEqP K) (tV 3) (tC (.int 1))))) (tAsg (tOp zAdd (tOp zAdd (tSl (zSlP K) (tV 1) tNoPart (tPrt (tV 4))) (tCal (sp_l_char K) [] W (tCons (tV 0) tNil))) (tSl (zSlP K) (tV 1) (tPrt (tV 4)) tNoPart)) (gName 1)) tNext)
  (tSeq (tIfP (tTst (tOp (zEqP K) (tV 3) (tC (.int 2)))) (tAsg (tOp zAdd (tOp zAdd (tSl (zSlP K) (tV 1) tNoPart (tPrt (tV 4))) (tCal (sp_l_char K) [] W (tCons (tV 0) tNil))) (tSl (zSlP K) (tV 1) (tPrt (tOp zAdd (tV 4) (tC (.int 1)))) tNoPart)) (gName 1)) tNext)
  (tSeq (tIfP (tTst (tOp (zEqP K) (tV 3) (tC (.int 3)))) (tAsg (tOp zAdd (tOp zAdd (tSl (zSlP K) (tV 1) tNoPart (tPrt (tV 4))) (tSl (zSlP K) (tSl (zSlP K) (tV 1) (tPrt (tCal (sp_l_take K) [] W (tCons (tV 0) (tCons (tOp zAdd (tCB (zLen K) (tCons (tV 1) tNil)) (tC (.int 1))) tNil)))) tNoPart) tNoPart (tPrt (tC (.int 1))))) (tSl (zSlP K) (tV 1) (tPrt (tV 4)) tNoPart)) (gName 1)) tNext)
  (tSeq (tIfP (tTst (tOp (zEqP K) (tV 3) (tC (.int 4)))) (tAsg (tC (.str (S []))) (gName 1)) tNext)
  (tIfP (tTst (tOp (zEqP K) (tV 3) (tC (.int 5)))) (tAsg (tOp zAdd (tV 1) (tSl (zSlP K) (tSl (zSlP K) (tC (.str (S [122, 113, 107, 97, 101]))) (tPrt (tCal (sp_l_take K) [] W (tCons (tV 0) (tCons (tC (.int 3)) tNil)))) tNoPart) tNoPart (tPrt (tOp zAdd (tC (.int 1)) (tCal (sp_l_take K) [] W (tCons (tV 0) (tCons (tC (.int 3)) tNil))))))) (gName 1)) tNext))))))))
  (tRet (tV 1)))
theorem tm_l_bent {P : Program} {w : World} {K : PySem.W.Frag} {mg : Str → Option Value} {base : Heap} {f : Addr} {cdv : Value} {A : Around} {outer : List Env} {s : Shared} {H : Hp} {E : XK} (T : Tx K mg) (G_l_char : Fn P w K mg base "_law_char" 7 [] (sp_l_char K)) (G_l_take : Fn P w K mg base "_law_take" 5 [] (sp_l_take K)) (hr : Room 8 (A.deeper (envOfC "_law_bent" (defScope s_l_bent) s.heap.objs.size f cdv))) :
    PSs (cxOf (L2.CX P w) P w K mg base ["_law_box_here", "_law_string", "_law_turn", "_law_way", "_law_at"] "_law_bent" (defScope s_l_bent) f cdv A outer s H E) (defBody s_l_bent) (t_l_bent K (WD E)) :=
  (pss_cons (psfor ownD rfl (pjr1 T.f_range (pa_cons (pcall G_l_take (hr.mono (by decide)) takesD (pa_cons (pv 0) (pa_cons pe_int pa_nil))) pa_nil)) (pgn 2 sc_l_bent.nd) (pss_cons (pset 3 sc_l_bent.nd (pcall G_l_take (hr.mono (by decide)) takesD (pa_cons (pv 0) (pa_cons pe_int pa_nil))))
  (pss_cons (pset 4 sc_l_bent.nd (pcall G_l_take (hr.mono (by decide)) takesD (pa_cons (pv 0) (pa_cons (pe_op opadd (pcb (crlen) T.f_len (pa_cons (pv 1) pa_nil)) pe_int) pa_nil))))
  (pss_cons (psif (PW.pt (pwor (ptcmp (opeq hr.units) (pv 3) pe_int) (pw_or1 (ptcmp (opeq hr.units) (pv 3) pe_int)))) (pss_one (pset 1 sc_l_bent.nd (pe_op opadd (pe_op opadd (psl (pv 1) po_none (posome (pv 4))) (pcall G_l_char (hr.mono (by decide)) takesD (pa_cons (pv 0) pa_nil))) (psl (pv 1) (posome (pv 4)) po_none)))) pss_nil)
  (pss_cons (psif (ptcmp (opeq hr.units) (pv 3) pe_int) (pss_one (pset 1 sc_l_bent.nd (pe_op opadd (pe_op opadd (psl (pv 1) po_none (posome (pv 4))) (pcall G_l_char (hr.mono (by decide)) takesD (pa_cons (pv 0) pa_nil))) (psl (pv 1) (posome (pe_op opadd (pv 4) pe_int)) po_none)))) pss_nil)
  (pss_cons (psif (ptcmp (opeq hr.units) (pv 3) pe_int) (pss_one (pset 1 sc_l_bent.nd (pe_op opadd (pe_op opadd (psl (pv 1) po_none (posome (pv 4))) (psl (psl (pv 1) (posome (pcall G_l_take (hr.mono (by decide)) takesD (pa_cons (pv 0) (pa_cons (pe_op opadd (pcb (crlen) T.f_len (pa_cons (pv 1) pa_nil)) pe_int) pa_nil)))) po_none) po_none (posome pe_int))) (psl (pv 1) (posome (pv 4)) po_none)))) pss_nil)
  (pss_cons (psif (ptcmp (opeq hr.units) (pv 3) pe_int) (pss_one (pset 1 sc_l_bent.nd (pstr []))) pss_nil)
  (pss_one (psif (ptcmp (opeq hr.units) (pv 3) pe_int) (pss_one (pset 1 sc_l_bent.nd (pe_op opadd (pv 1) (psl (psl (pstr [122, 113, 107, 97, 101]) (posome (pcall G_l_take (hr.mono (by decide)) takesD (pa_cons (pv 0) (pa_cons pe_int pa_nil)))) po_none) po_none (posome (pe_op opadd pe_int (pcall G_l_take (hr.mono (by decide)) takesD (pa_cons (pv 0) (pa_cons pe_int pa_nil))))))))) pss_nil)))))))))
  (pss_one (ps_ret (pv 1))))
/-! _law_due -/
abbrev s_l_due : Stmt := top 17
theorem sc_l_due : FnScope ["_law_letters", "_law_vowels", "_law_k"] ["_law_letters", "_law_vowels"] (defScope s_l_due) := ⟨rfl, rfl, rfl, by decide +kernel, rfl, by decide +kernel, by decide +kernel⟩
def due (l v : List Nat) : List Nat := if badL l = true then tLet else if badV l v = true then tVow else []
@[irreducible] def sp_l_due (K : PySem.W.Frag) : Sp := fun vs H Q E => ∃ (l v : List Nat), vs = [.str (S l), .str (S v)] ∧ l.length < 1000 ∧ v.length < 1000 ∧ Q (.str (S (due l v))) H
theorem i_l_due {K : PySem.W.Frag} {l v : List Nat} {H : Hp} {Q : VK} {E : XK} (h1 : l.length < 1000) (h2 : v.length < 1000) (q : Q (.str (S (due l v))) H) : sp_l_due K [.str (S l), .str (S v)] H Q E := by
  unfold sp_l_due; exact ⟨l, v, rfl, h1, h2, q⟩

def t_l_due (K : PySem.W.Frag) (W : WX) : TS :=
  (tSeq (tIfP (tOrP (tTst (tOp zLt (tCB (zLen K) (tCons (tV 0) tNil)) (tC (.int 1)))) (tTst (tOp zGt (tCB (zLen K) (tCons (tV 0) tNil)) (tC (.int 4))))) (tRet (tC (.str (S [108, 101, 116, 116, 101, 114, 115])))) tNext)
  (tSeq (tForP (jR1 (tCons (tCB (zLen K) (tCons (tV 0) tNil)) tNil)) (gName 2) (tIfP (tOrP (tTst (tOp (zNinP K) (tOp (zIxP K) (tV 0) (tV 2)) (tC (.str (S [97, 98, 99, 100, 101, 102, 103, 104, 105, 106, 107, 108, 109, 110, 111, 112, 113, 114, 115, 116, 117, 118, 119, 120, 121, 122]))))) (tTst (tOp (zInP K) (tOp (zIxP K) (tV 0) (tV 2)) (tSl (zSlP K) (tV 0) tNoPart (tPrt (tV 2)))))) (tRet (tC (.str (S [108, 101, 116, 116, 101, 114, 115])))) tNext))
  (tSeq (tForP (jR1 (tCons (tCB (zLen K) (tCons (tV 1) tNil)) tNil)) (gName 2) (tIfP (tOrP (tTst (tOp (zNinP K) (tOp (zIxP K) (tV 1) (tV 2)) (tV 0))) (tTst (tOp (zInP K) (tOp (zIxP K) (tV 1) (tV 2)) (tSl (zSlP K) (tV 1) tNoPart (tPrt (tV 2)))))) (tRet (tC (.str (S [118, 111, 119, 101, 108, 115])))) tNext))
  (tRet (tC (.str (S [])))))))
theorem tm_l_due {P : Program} {w : World} {K : PySem.W.Frag} {mg : Str → Option Value} {base : Heap} {f : Addr} {cdv : Value} {A : Around} {outer : List Env} {s : Shared} {H : Hp} {E : XK} (T : Tx K mg) (hr : Room 4 (A.deeper (envOfC "_law_due" (defScope s_l_due) s.heap.objs.size f cdv))) :
    PSs (cxOf (L2.CX P w) P w K mg base ["_law_letters", "_law_vowels", "_law_k"] "_law_due" (defScope s_l_due) f cdv A outer s H E) (defBody s_l_due) (t_l_due K (WD E)) :=
  (pss_cons (psif (PW.pt (pwor (ptcmp oplt (pcb (crlen) T.f_len (pa_cons (pv 0) pa_nil)) pe_int) (pw_or1 (ptcmp opgt (pcb (crlen) T.f_len (pa_cons (pv 0) pa_nil)) pe_int)))) (pss_one (ps_ret (pstr [108, 101, 116, 116, 101, 114, 115]))) pss_nil)
  (pss_cons (psfor ownD rfl (pjr1 T.f_range (pa_cons (pcb (crlen) T.f_len (pa_cons (pv 0) pa_nil)) pa_nil)) (pgn 2 sc_l_due.nd) (pss_one (psif (PW.pt (pwor (ptcmp opnin (pix (pv 0) (pv 2)) (pstr [97, 98, 99, 100, 101, 102, 103, 104, 105, 106, 107, 108, 109, 110, 111, 112, 113, 114, 115, 116, 117, 118, 119, 120, 121, 122])) (pw_or1 (ptcmp opin (pix (pv 0) (pv 2)) (psl (pv 0) po_none (posome (pv 2))))))) (pss_one (ps_ret (pstr [108, 101, 116, 116, 101, 114, 115]))) pss_nil)))
  (pss_cons (psfor ownD rfl (pjr1 T.f_range (pa_cons (pcb (crlen) T.f_len (pa_cons (pv 1) pa_nil)) pa_nil)) (pgn 2 sc_l_due.nd) (pss_one (psif (PW.pt (pwor (ptcmp opnin (pix (pv 1) (pv 2)) (pv 0)) (pw_or1 (ptcmp opin (pix (pv 1) (pv 2)) (psl (pv 1) po_none (posome (pv 2))))))) (pss_one (ps_ret (pstr [118, 111, 119, 101, 108, 115]))) pss_nil)))
  (pss_one (ps_ret (pstr []))))))
/-! _law_refused -/
abbrev s_l_refused : Stmt := top 18
theorem sc_l_refused : FnScope ["_law_letters", "_law_vowels", "e"] ["_law_letters", "_law_vowels"] (defScope s_l_refused) := ⟨rfl, rfl, rfl, by decide +kernel, rfl, by decide +kernel, by decide +kernel⟩
@[irreducible] def sp_l_refused (K : PySem.W.Frag) : Sp := fun vs H Q E => ∃ (l v : List Nat), vs = [.str (S l), .str (S v)] ∧ l.length < 64 ∧ v.length < 64 ∧ ∀ q H', Kp [] H H' → H' q = some (.tup [.bl (!(due l v).isEmpty), .str (S (due l v))]) → Q (.ref q) H'
theorem i_l_refused {K : PySem.W.Frag} {l v : List Nat} {H : Hp} {Q : VK} {E : XK} (h1 : l.length < 64) (h2 : v.length < 64) (q : ∀ q H', Kp [] H H' → H' q = some (.tup [.bl (!(due l v).isEmpty), .str (S (due l v))]) → Q (.ref q) H') : sp_l_refused K [.str (S l), .str (S v)] H Q E := by
  unfold sp_l_refused; exact ⟨l, v, rfl, h1, h2, q⟩

def t_l_refused (K : PySem.W.Frag) (W : WX) : TS :=
  (tSeq (fun D0 σ0 H0 => (fun (W1 : WX) => (tDrop (tMak (He.ga K "Alphabet") (sp_Alphabet_init K) [] W1 (tCons (tV 0) (tCons (tV 1) tNil))))) (wAs K (.ref (He.ga K "TaleError")) 2 (fun a cls d => (tSeq (tIfP (tAndP (tTru K (tCB (zIsX K a cls d) (tCons (tV 2) (tCons (tC (.ref (He.ga K "BadAlphabet"))) tNil)))) (tAndP (tTru K (tCB (zIsX K a cls d) (tCons (tV 2) (tCons (tC (.ty "ValueError")) tNil)))) (tNot (tTru K (tCB (zIsX K a cls d) (tCons (tV 2) (tCons (tTup (tCons (tC (.ref (He.ga K "BadText"))) (tCons (tC (.ref (He.ga K "BadSet"))) tNil))) tNil))))))) (tRet (tTup (tCons (tC (.bl true)) (tCons (tXat K a cls d "part" (tV 2)) tNil)))) tNext)
  (tRet (tTup (tCons (tC (.bl true)) (tCons (tC (.str (S []))) tNil)))))) W D0) D0 σ0 H0)
  (tRet (tTup (tCons (tC (.bl false)) (tCons (tC (.str (S []))) tNil)))))
theorem tm_l_refused {P : Program} {w : World} {K : PySem.W.Frag} {mg : Str → Option Value} {base : Heap} {f : Addr} {cdv : Value} {A : Around} {outer : List Env} {s : Shared} {H : Hp} {E : XK} (T : Tx K mg) (G_Alphabet : Mks P w K mg base "Alphabet" (He.ga K "Alphabet") 7 [] (sp_Alphabet_init K)) (hr : Room 8 (A.deeper (envOfC "_law_refused" (defScope s_l_refused) s.heap.objs.size f cdv))) :
    PSs (cxOf (L2.CX P w) P w K mg base ["_law_letters", "_law_vowels", "e"] "_law_refused" (defScope s_l_refused) f cdv A outer s H E) (defBody s_l_refused) (t_l_refused K (WD E)) :=
  (pss_cons (ps_try_as (i := 2) rfl rfl sc_l_refused.nd rfl rfl (names_of T.v_TaleError) takesD (tb := fun W1 => (tDrop (tMak (He.ga K "Alphabet") (sp_Alphabet_init K) [] W1 (tCons (tV 0) (tCons (tV 1) tNil))))) (ts := fun a cls d => (tSeq (tIfP (tAndP (tTru K (tCB (zIsX K a cls d) (tCons (tV 2) (tCons (tC (.ref (He.ga K "BadAlphabet"))) tNil)))) (tAndP (tTru K (tCB (zIsX K a cls d) (tCons (tV 2) (tCons (tC (.ty "ValueError")) tNil)))) (tNot (tTru K (tCB (zIsX K a cls d) (tCons (tV 2) (tCons (tTup (tCons (tC (.ref (He.ga K "BadText"))) (tCons (tC (.ref (He.ga K "BadSet"))) tNil))) tNil))))))) (tRet (tTup (tCons (tC (.bl true)) (tCons (tXat K a cls d "part" (tV 2)) tNil)))) tNext)
  (tRet (tTup (tCons (tC (.bl true)) (tCons (tC (.str (S []))) tNil)))))) (fun W1 pn xe tk1 _ => (pss_one (ps_expr (pmak G_Alphabet (hr.mono (by decide)) tk1 (pa_cons (pv 0) (pa_cons (pv 1) pa_nil)))))) (fun a oe cls d pn hz hf => (pss_cons (psif (PW.pt (pwand (ptru (pcb (crisx hz hf) T.f_isinstance (pa_cons (pv 2) (pa_cons (pglo T.v_BadAlphabet) pa_nil)))) (pwand (ptru (pcb (crisx hz hf) T.f_isinstance (pa_cons (pv 2) (pa_cons (pbty T.f_ValueError) pa_nil)))) (pw_and1 (pt_not (ptru (pcb (crisx hz hf) T.f_isinstance (pa_cons (pv 2) (pa_cons (pe_tup (pa_cons (pglo T.v_BadText) (pa_cons (pglo T.v_BadSet) pa_nil))) pa_nil))))))))) (pss_one (ps_ret (pe_tup (pa_cons pe_bl (pa_cons (pxat hz hf (pv 2)) pa_nil))))) pss_nil)
  (pss_one (ps_ret (pe_tup (pa_cons pe_bl (pa_cons (pstr []) pa_nil))))))))
  (pss_one (ps_ret (pe_tup (pa_cons pe_bl (pa_cons (pstr []) pa_nil))))))
/-! _law_shows -/
abbrev s_l_shows : Stmt := top 19
theorem sc_l_shows : FnScope ["_law_alphabet", "_law_letters", "_law_vowels", "_law_ordered", "_law_due_here", "_law_char_here", "_law_told", "_law_k"] ["_law_alphabet", "_law_letters", "_law_vowels"] (defScope s_l_shows) := ⟨rfl, rfl, rfl, by decide +kernel, rfl, by decide +kernel, by decide +kernel⟩
@[irreducible] def sp_l_shows (K : PySem.W.Frag) : Sp := fun vs H Q E => ∃ (a dx : Addr) (l v : List Nat), vs = [.ref a, .str (S l), .str (S v)] ∧ H a = some (.ins (He.ga K "Alphabet") dx (alf l v)) ∧ l.length < 64 ∧ v.length < 64 ∧ ∀ H', Kp [] H H' → Q (.bl true) H'
theorem i_l_shows {K : PySem.W.Frag} {a dx : Addr} {l v : List Nat} {H : Hp} {Q : VK} {E : XK} (ha : H a = some (.ins (He.ga K "Alphabet") dx (alf l v))) (h1 : l.length < 64) (h2 : v.length < 64) (q : ∀ H', Kp [] H H' → Q (.bl true) H') : sp_l_shows K [.ref a, .str (S l), .str (S v)] H Q E := by
  unfold sp_l_shows; exact ⟨a, dx, l, v, rfl, ha, h1, h2, q⟩

def t_l_shows (K : PySem.W.Frag) (W : WX) : TS :=
  (tSeq (tAsg (tSM (zJoin K) (tC (.str (S []))) (tCons (tCB (zSort1) (tCons (tV 1) tNil)) tNil)) (gName 3))
  (tSeq (tAsg (tLst (tCons (tV 3) (tCons (tSM (zJoin K) (tC (.str (S []))) (tCons (tCB (zSort1) (tCons (tV 2) tNil)) tNil)) (tCons (tSM (zJoin K) (tC (.str (S []))) (tCons (tLcP (jA K (tV 3)) (gName 5) (tTst (tOp (zNinP K) (tV 5) (tV 2))) (tV 5) [5]) tNil)) (tCons (tOp zAdd (tC (.str (S [45]))) (tV 3)) tNil))))) (gName 4))
  (tSeq (tAsg (tLst (tCons (tAt K (tV 0) "letters") (tCons (tAt K (tV 0) "vowels") (tCons (tAt K (tV 0) "consonants") (tCons (tAt K (tV 0) "signs") tNil))))) (gName 6))
  (tSeq (tForP (jR1 (tCons (tC (.int 4)) tNil)) (gName 7) (tIfP (tOrP (tNot (tTru K (tCB (zIsa K) (tCons (tOp (zIxP K) (tV 6) (tV 7)) (tCons (tC (.ty "str")) tNil))))) (tTst (tOp (zNeP K) (tOp (zIxP K) (tV 6) (tV 7)) (tOp (zIxP K) (tV 4) (tV 7))))) (tRet (tC (.bl false))) tNext))
  (tRet (tC (.bl true)))))))
theorem tm_l_shows {P : Program} {w : World} {K : PySem.W.Frag} {mg : Str → Option Value} {base : Heap} {f : Addr} {cdv : Value} {A : Around} {outer : List Env} {s : Shared} {H : Hp} {E : XK} (T : Tx K mg) (hr : Room 4 (A.deeper (envOfC "_law_shows" (defScope s_l_shows) s.heap.objs.size f cdv))) :
    PSs (cxOf (L2.CX P w) P w K mg base ["_law_alphabet", "_law_letters", "_law_vowels", "_law_ordered", "_law_due_here", "_law_char_here", "_law_told", "_law_k"] "_law_shows" (defScope s_l_shows) f cdv A outer s H E) (defBody s_l_shows) (t_l_shows K (WD E)) :=
  (pss_cons (pset 3 sc_l_shows.nd (psm PySem.F.slot_str_join PySem.F.type_str_join mtjoin (pstr []) (pa_cons (pcb (crsort rfl) T.f_sorted (pa_cons (pv 1) pa_nil)) pa_nil)))
  (pss_cons (pset 4 sc_l_shows.nd (pe_lst (pa_cons (pv 3) (pa_cons (psm PySem.F.slot_str_join PySem.F.type_str_join mtjoin (pstr []) (pa_cons (pcb (crsort rfl) T.f_sorted (pa_cons (pv 2) pa_nil)) pa_nil)) (pa_cons (psm PySem.F.slot_str_join PySem.F.type_str_join mtjoin (pstr []) (pa_cons (plc [("_law_char_here", 5)] rfl sc_l_shows.nd (pja (pv 3)) (by kernel_rfl) (fun _ _ _ _ _ => (pgn 5 sc_l_shows.nd)) (fun _ _ _ _ _ => (pts_one (ptcmp opnin (pv 5) (pv 2)))) (fun _ _ _ _ _ => (pv 5))) pa_nil)) (pa_cons (pe_op opadd (pstr [45]) (pv 3)) pa_nil))))))
  (pss_cons (pset 6 sc_l_shows.nd (pe_lst (pa_cons (patt (pv 0)) (pa_cons (patt (pv 0)) (pa_cons (patt (pv 0)) (pa_cons (patt (pv 0)) pa_nil))))))
  (pss_cons (psfor ownD rfl (pjr1 T.f_range (pa_cons pe_int pa_nil)) (pgn 7 sc_l_shows.nd) (pss_one (psif (PW.pt (pwor (pt_not (ptru (pcb (crisa) T.f_isinstance (pa_cons (pix (pv 6) (pv 7)) (pa_cons (pbty T.f_str) pa_nil))))) (pw_or1 (ptcmp (opne hr.units) (pix (pv 6) (pv 7)) (pix (pv 4) (pv 7)))))) (pss_one (ps_ret pe_bl)) pss_nil)))
  (pss_one (ps_ret pe_bl))))))
/-! _law_alike -/
abbrev s_l_alike : Stmt := top 20
theorem sc_l_alike : FnScope ["_law_one", "_law_two", "_law_due_here", "_law_told"] ["_law_one", "_law_two", "_law_due_here"] (defScope s_l_alike) := ⟨rfl, rfl, rfl, by decide +kernel, rfl, by decide +kernel, by decide +kernel⟩
@[irreducible] def sp_l_alike (K : PySem.W.Frag) : Sp := fun vs H Q E => ∃ a b k dx dy l v m u, vs = [.ref a, .ref b, .bl k] ∧ H a = some (.ins (He.ga K "Alphabet") dx (alf l v)) ∧ H b = some (.ins (He.ga K "Alphabet") dy (alf m u)) ∧ k = (decide (srt l = srt m) && decide (srt v = srt u)) ∧ Q (.bl true) H
theorem i_l_alike {K : PySem.W.Frag} {a b dx dy : Addr} {k : Bool} {l v m u : List Nat} {H : Hp} {Q : VK} {E : XK} (ha : H a = some (.ins (He.ga K "Alphabet") dx (alf l v))) (hb : H b = some (.ins (He.ga K "Alphabet") dy (alf m u))) (hk : k = (decide (srt l = srt m) && decide (srt v = srt u))) (q : Q (.bl true) H) : sp_l_alike K [.ref a, .ref b, .bl k] H Q E := by
  unfold sp_l_alike; exact ⟨a, b, k, dx, dy, l, v, m, u, rfl, ha, hb, hk, q⟩

def t_l_alike (K : PySem.W.Frag) (W : WX) : TS :=
  (tSeq (tAsg (tOp (zOwn (He.ga K "Alphabet") (sp_Alphabet_eq K)) (tV 0) (tV 1)) (gName 3))
  (tRet (tAndE K (tCB (zIsa K) (tCons (tV 3) (tCons (tC (.ty "bool")) tNil))) (tOp (zEqP K) (tV 3) (tV 2)))))
theorem tm_l_alike {P : Program} {w : World} {K : PySem.W.Frag} {mg : Str → Option Value} {base : Heap} {f : Addr} {cdv : Value} {A : Around} {outer : List Env} {s : Shared} {H : Hp} {E : XK} (T : Tx K mg) (G_Alphabet___eq__ : Me P w K mg base (He.ga K "Alphabet") "__eq__" 5 [] (sp_Alphabet_eq K)) (hr : Room 6 (A.deeper (envOfC "_law_alike" (defScope s_l_alike) s.heap.objs.size f cdv))) :
    PSs (cxOf (L2.CX P w) P w K mg base ["_law_one", "_law_two", "_law_due_here", "_law_told"] "_law_alike" (defScope s_l_alike) f cdv A outer s H E) (defBody s_l_alike) (t_l_alike K (WD E)) :=
  (pss_cons (pset 3 sc_l_alike.nd (pe_cmpR (opown G_Alphabet___eq__ (hr.mono (by decide))) (pv 0) (pv 1) rfl))
  (pss_one (ps_ret (peand (pcb (crisa) T.f_isinstance (pa_cons (pv 3) (pa_cons (pbty T.f_bool) pa_nil))) (pe_one (pe_cmpR (opeq hr.units) (pv 3) (pv 2) rfl))))))
/-! law -/
abbrev s_law : Stmt := top 21
theorem sc_law : FnScope ["_law_script", "_law_box_here", "_law_letters", "_law_vowels", "_law_other", "_law_one", "_law_two", "_law_bare", "_law_equal", "_law_k", "_law_odd", "_law_strange", "_law_due_here"] ["_law_script"] (defScope s_law) := ⟨rfl, rfl, rfl, by decide +kernel, rfl, by decide +kernel, by decide +kernel⟩
@[irreducible] def sp_law (K : PySem.W.Frag) : Sp := fun vs H Q E => ∃ (p : Addr) (ob : Obj) (ns : List Int), vs = [.ref p] ∧ H p = some (scr ob ns) ∧ ns.length < 1000 ∧ ∀ H', Q (.bl true) H'

@[irreducible] def t_law_13 (K : PySem.W.Frag) (W : WX) : TS :=
  (tSeq (tIfP (tOrP (tNot (tTru K (tCal (sp_l_shows K) [] W (tCons (tV 5) (tCons (tV 2) (tCons (tV 3) tNil)))))) (tNot (tTru K (tCal (sp_l_shows K) [] W (tCons (tV 6) (tCons (tOp (zIxP K) (tV 4) (tC (.int 0))) (tCons (tOp (zIxP K) (tV 4) (tC (.int 1))) tNil))))))) (tRet (tC (.bl false))) tNext)
  (tSeq (tIfP (tOrP (tNot (tTru K (tCB (zIsa K) (tCons (tC (.str (S [45]))) (tCons (tC (.ty "str")) tNil))))) (tNot (tTru K (tCB (zIsa K) (tCons (tC (.int 4)) (tCons (tC (.ty "int")) tNil)))))) (tRet (tC (.bl false))) tNext)
  (tRet (tAndE K (tOp (zEqP K) (tC (.str (S [45]))) (tC (.str (S [45])))) (tAndE K (tOp (zEqP K) (tAtC K (tV 5) "JOINT" (.str (S [45]))) (tC (.str (S [45])))) (tAndE K (tOp (zEqP K) (tC (.int 4)) (tC (.int 4))) (tOp (zEqP K) (tAtC K (tV 6) "MOST" (.int 4)) (tC (.int 4)))))))))
@[irreducible] def t_law_12 (K : PySem.W.Frag) (W : WX) : TS :=
  (tSeq (tForP (jR1 (tCons (tC (.int 3)) tNil)) (gName 9) (tSeq (tAsg (tCal (sp_l_box K) [] W (tCons (tV 0) (tCons (tOp zAdd (tC (.int 2)) (tV 9)) tNil))) (gName 1))
  (tSeq (tAsg (tV 2) (gName 10))
  (tSeq (tIfP (tTst (tOp (zEqP K) (tCal (sp_l_take K) [] W (tCons (tV 1) (tCons (tC (.int 2)) tNil))) (tC (.int 1)))) (tAsg (tCal (sp_l_bent K) [] W (tCons (tV 1) (tCons (tV 2) tNil))) (gName 10)) tNext)
  (tSeq (tAsg (tCal (sp_l_bent K) [] W (tCons (tV 1) (tCons (tV 3) tNil))) (gName 11))
  (tSeq (tAsg (tCal (sp_l_due K) [] W (tCons (tV 10) (tCons (tV 11) tNil))) (gName 12))
  (tSeq (tIfP (tTst (tOp (zNeP K) (tCal (sp_l_refused K) [] W (tCons (tV 10) (tCons (tV 11) tNil))) (tTup (tCons (tOp (zNeP K) (tV 12) (tC (.str (S [])))) (tCons (tV 12) tNil))))) (tRet (tC (.bl false))) tNext)
  (tIfP (tAndP (tTst (tOp (zEqP K) (tV 12) (tC (.str (S []))))) (tNot (tTru K (tCal (sp_l_shows K) [] W (tCons (tMak (He.ga K "Alphabet") (sp_Alphabet_init K) [] W (tCons (tV 10) (tCons (tV 11) tNil))) (tCons (tV 10) (tCons (tV 11) tNil))))))) (tRet (tC (.bl false))) tNext))))))))
  (t_law_13 K W))
@[irreducible] def t_law_10 (K : PySem.W.Frag) (W : WX) : TS :=
  (tSeq (tIfP (tOrP (tNot (tTru K (tCal (sp_l_alike K) [] W (tCons (tV 5) (tCons (tV 6) (tCons (tV 8) tNil)))))) (tOrP (tNot (tTru K (tCal (sp_l_alike K) [] W (tCons (tV 6) (tCons (tV 5) (tCons (tV 8) tNil)))))) (tNot (tTru K (tCal (sp_l_alike K) [] W (tCons (tV 5) (tCons (tV 5) (tCons (tC (.bl true)) tNil)))))))) (tRet (tC (.bl false))) tNext)
  (tSeq (tIfP (tNot (tTru K (tCal (sp_l_alike K) [] W (tCons (tV 7) (tCons (tV 5) (tCons (tOp (zEqP K) (tV 3) (tC (.str (S [])))) tNil)))))) (tRet (tC (.bl false))) tNext)
  (t_law_12 K W)))
@[irreducible] def t_law_9 (K : PySem.W.Frag) (W : WX) : TS :=
  (tSeq (tAsg (tAndE K (tOp (zEqP K) (tCB (zSort1) (tCons (tV 2) tNil)) (tCB (zSort1) (tCons (tOp (zIxP K) (tV 4) (tC (.int 0))) tNil))) (tOp (zEqP K) (tCB (zSort1) (tCons (tV 3) tNil)) (tCB (zSort1) (tCons (tOp (zIxP K) (tV 4) (tC (.int 1))) tNil)))) (gName 8))
  (t_law_10 K W))
@[irreducible] def t_law_7 (K : PySem.W.Frag) (W : WX) : TS :=
  (tSeq (tIfP (tOrP (tNot (tTru K (tCal (sp_l_shows K) [] W (tCons (tV 5) (tCons (tV 2) (tCons (tV 3) tNil)))))) (tNot (tTru K (tCal (sp_l_shows K) [] W (tCons (tV 6) (tCons (tOp (zIxP K) (tV 4) (tC (.int 0))) (tCons (tOp (zIxP K) (tV 4) (tC (.int 1))) tNil))))))) (tRet (tC (.bl false))) tNext)
  (tSeq (tIfP (tNot (tTru K (tCal (sp_l_shows K) [] W (tCons (tV 7) (tCons (tV 2) (tCons (tC (.str (S []))) tNil)))))) (tRet (tC (.bl false))) tNext)
  (t_law_9 K W)))
@[irreducible] def t_law_4 (K : PySem.W.Frag) (W : WX) : TS :=
  (tSeq (tAsg (tMak (He.ga K "Alphabet") (sp_Alphabet_init K) [] W (tCons (tV 2) (tCons (tV 3) tNil))) (gName 5))
  (tSeq (tAsg (tMak (He.ga K "Alphabet") (sp_Alphabet_init K) [] W (tCons (tOp (zIxP K) (tV 4) (tC (.int 0))) (tCons (tOp (zIxP K) (tV 4) (tC (.int 1))) tNil))) (gName 6))
  (tSeq (tAsg (tMak (He.ga K "Alphabet") (sp_Alphabet_init K) [.str (S [])] W (tCons (tV 2) tNil)) (gName 7))
  (t_law_7 K W))))
def t_law (K : PySem.W.Frag) (W : WX) : TS :=
  (tSeq (tAsg (tCal (sp_l_box K) [] W (tCons (tV 0) (tCons (tC (.int 0)) tNil))) (gName 1))
  (tSeq (tAsg (tCal (sp_l_pick K) [] W (tCons (tV 1) (tCons (tC (.str (S [97, 98, 99, 100, 101, 102, 103, 104, 105, 106, 107, 108, 109, 110, 111, 112, 113, 114, 115, 116, 117, 118, 119, 120, 121, 122]))) (tCons (tOp zAdd (tC (.int 1)) (tCal (sp_l_take K) [] W (tCons (tV 1) (tCons (tC (.int 4)) tNil)))) tNil)))) (gName 2))
  (tSeq (tAsg (tCal (sp_l_pick K) [] W (tCons (tV 1) (tCons (tV 2) (tCons (tCal (sp_l_take K) [] W (tCons (tV 1) (tCons (tOp zAdd (tCB (zLen K) (tCons (tV 2) tNil)) (tC (.int 1))) tNil))) tNil)))) (gName 3))
  (tSeq (tAsg (tCal (sp_l_second K) [] W (tCons (tCal (sp_l_box K) [] W (tCons (tV 0) (tCons (tC (.int 1)) tNil))) (tCons (tV 2) (tCons (tV 3) tNil)))) (gName 4))
  (t_law_4 K W)))))
theorem tm_law {P : Program} {w : World} {K : PySem.W.Frag} {mg : Str → Option Value} {base : Heap} {f : Addr} {cdv : Value} {A : Around} {outer : List Env} {s : Shared} {H : Hp} {E : XK} (T : Tx K mg) (G_Alphabet : Mks P w K mg base "Alphabet" (He.ga K "Alphabet") 7 [] (sp_Alphabet_init K)) (G_Alphabet_1 : Mks P w K mg base "Alphabet" (He.ga K "Alphabet") 7 [.str (S [])] (sp_Alphabet_init K)) (G_l_alike : Fn P w K mg base "_law_alike" 7 [] (sp_l_alike K)) (G_l_bent : Fn P w K mg base "_law_bent" 9 [] (sp_l_bent K)) (G_l_box : Fn P w K mg base "_law_box" 5 [] (sp_l_box K)) (G_l_due : Fn P w K mg base "_law_due" 5 [] (sp_l_due K)) (G_l_pick : Fn P w K mg base "_law_pick" 7 [] (sp_l_pick K)) (G_l_refused : Fn P w K mg base "_law_refused" 9 [] (sp_l_refused K)) (G_l_second : Fn P w K mg base "_law_second" 9 [] (sp_l_second K)) (G_l_shows : Fn P w K mg base "_law_shows" 5 [] (sp_l_shows K)) (G_l_take : Fn P w K mg base "_law_take" 5 [] (sp_l_take K)) (hr : Room 10 (A.deeper (envOfC "law" (defScope s_law) s.heap.objs.size f cdv))) :
    PSs (cxOf (L2.CX P w) P w K mg base ["_law_script", "_law_box_here", "_law_letters", "_law_vowels", "_law_other", "_law_one", "_law_two", "_law_bare", "_law_equal", "_law_k", "_law_odd", "_law_strange", "_law_due_here"] "law" (defScope s_law) f cdv A outer s H E) (defBody s_law) (t_law K (WD E)) :=
  (pss_cons (pset 1 sc_law.nd (pcall G_l_box (hr.mono (by decide)) takesD (pa_cons (pv 0) (pa_cons pe_int pa_nil))))
  (pss_cons (pset 2 sc_law.nd (pcall G_l_pick (hr.mono (by decide)) takesD (pa_cons (pv 1) (pa_cons (pstr [97, 98, 99, 100, 101, 102, 103, 104, 105, 106, 107, 108, 109, 110, 111, 112, 113, 114, 115, 116, 117, 118, 119, 120, 121, 122]) (pa_cons (pe_op opadd pe_int (pcall G_l_take (hr.mono (by decide)) takesD (pa_cons (pv 1) (pa_cons pe_int pa_nil)))) pa_nil)))))
  (pss_cons (pset 3 sc_law.nd (pcall G_l_pick (hr.mono (by decide)) takesD (pa_cons (pv 1) (pa_cons (pv 2) (pa_cons (pcall G_l_take (hr.mono (by decide)) takesD (pa_cons (pv 1) (pa_cons (pe_op opadd (pcb (crlen) T.f_len (pa_cons (pv 2) pa_nil)) pe_int) pa_nil))) pa_nil)))))
  (pss_cons (pset 4 sc_law.nd (pcall G_l_second (hr.mono (by decide)) takesD (pa_cons (pcall G_l_box (hr.mono (by decide)) takesD (pa_cons (pv 0) (pa_cons pe_int pa_nil))) (pa_cons (pv 2) (pa_cons (pv 3) pa_nil)))))
  (by unfold t_law_4; exact (pss_cons (pset 5 sc_law.nd (pmak G_Alphabet (hr.mono (by decide)) takesD (pa_cons (pv 2) (pa_cons (pv 3) pa_nil))))
  (pss_cons (pset 6 sc_law.nd (pmak G_Alphabet (hr.mono (by decide)) takesD (pa_cons (pix (pv 4) pe_int) (pa_cons (pix (pv 4) pe_int) pa_nil))))
  (pss_cons (pset 7 sc_law.nd (pmak G_Alphabet_1 (hr.mono (by decide)) takesD (pa_cons (pv 2) pa_nil)))
  (by unfold t_law_7; exact (pss_cons (psif (PW.pt (pwor (pt_not (ptru (pcall G_l_shows (hr.mono (by decide)) takesD (pa_cons (pv 5) (pa_cons (pv 2) (pa_cons (pv 3) pa_nil)))))) (pw_or1 (pt_not (ptru (pcall G_l_shows (hr.mono (by decide)) takesD (pa_cons (pv 6) (pa_cons (pix (pv 4) pe_int) (pa_cons (pix (pv 4) pe_int) pa_nil))))))))) (pss_one (ps_ret pe_bl)) pss_nil)
  (pss_cons (psif (pt_not (ptru (pcall G_l_shows (hr.mono (by decide)) takesD (pa_cons (pv 7) (pa_cons (pv 2) (pa_cons (pstr []) pa_nil)))))) (pss_one (ps_ret pe_bl)) pss_nil)
  (by unfold t_law_9; exact (pss_cons (pset 8 sc_law.nd (peand (pe_cmpR (opeq hr.units) (pcb (crsort rfl) T.f_sorted (pa_cons (pv 2) pa_nil)) (pcb (crsort rfl) T.f_sorted (pa_cons (pix (pv 4) pe_int) pa_nil)) rfl) (pe_one (pe_cmpR (opeq hr.units) (pcb (crsort rfl) T.f_sorted (pa_cons (pv 3) pa_nil)) (pcb (crsort rfl) T.f_sorted (pa_cons (pix (pv 4) pe_int) pa_nil)) rfl))))
  (by unfold t_law_10; exact (pss_cons (psif (PW.pt (pwor (pt_not (ptru (pcall G_l_alike (hr.mono (by decide)) takesD (pa_cons (pv 5) (pa_cons (pv 6) (pa_cons (pv 8) pa_nil)))))) (pwor (pt_not (ptru (pcall G_l_alike (hr.mono (by decide)) takesD (pa_cons (pv 6) (pa_cons (pv 5) (pa_cons (pv 8) pa_nil)))))) (pw_or1 (pt_not (ptru (pcall G_l_alike (hr.mono (by decide)) takesD (pa_cons (pv 5) (pa_cons (pv 5) (pa_cons pe_bl pa_nil)))))))))) (pss_one (ps_ret pe_bl)) pss_nil)
  (pss_cons (psif (pt_not (ptru (pcall G_l_alike (hr.mono (by decide)) takesD (pa_cons (pv 7) (pa_cons (pv 5) (pa_cons (pe_cmpR (opeq hr.units) (pv 3) (pstr []) rfl) pa_nil)))))) (pss_one (ps_ret pe_bl)) pss_nil)
  (by unfold t_law_12; exact (pss_cons (psfor ownD rfl (pjr1 T.f_range (pa_cons pe_int pa_nil)) (pgn 9 sc_law.nd) (pss_cons (pset 1 sc_law.nd (pcall G_l_box (hr.mono (by decide)) takesD (pa_cons (pv 0) (pa_cons (pe_op opadd pe_int (pv 9)) pa_nil))))
  (pss_cons (pset 10 sc_law.nd (pv 2))
  (pss_cons (psif (ptcmp (opeq hr.units) (pcall G_l_take (hr.mono (by decide)) takesD (pa_cons (pv 1) (pa_cons pe_int pa_nil))) pe_int) (pss_one (pset 10 sc_law.nd (pcall G_l_bent (hr.mono (by decide)) takesD (pa_cons (pv 1) (pa_cons (pv 2) pa_nil))))) pss_nil)
  (pss_cons (pset 11 sc_law.nd (pcall G_l_bent (hr.mono (by decide)) takesD (pa_cons (pv 1) (pa_cons (pv 3) pa_nil))))
  (pss_cons (pset 12 sc_law.nd (pcall G_l_due (hr.mono (by decide)) takesD (pa_cons (pv 10) (pa_cons (pv 11) pa_nil))))
  (pss_cons (psif (ptcmp (opne hr.units) (pcall G_l_refused (hr.mono (by decide)) takesD (pa_cons (pv 10) (pa_cons (pv 11) pa_nil))) (pe_tup (pa_cons (pe_cmpR (opne hr.units) (pv 12) (pstr []) rfl) (pa_cons (pv 12) pa_nil)))) (pss_one (ps_ret pe_bl)) pss_nil)
  (pss_one (psif (PW.pt (pwand (ptcmp (opeq hr.units) (pv 12) (pstr [])) (pw_and1 (pt_not (ptru (pcall G_l_shows (hr.mono (by decide)) takesD (pa_cons (pmak G_Alphabet (hr.mono (by decide)) takesD (pa_cons (pv 10) (pa_cons (pv 11) pa_nil))) (pa_cons (pv 10) (pa_cons (pv 11) pa_nil))))))))) (pss_one (ps_ret pe_bl)) pss_nil)))))))))
  (by unfold t_law_13; exact (pss_cons (psif (PW.pt (pwor (pt_not (ptru (pcall G_l_shows (hr.mono (by decide)) takesD (pa_cons (pv 5) (pa_cons (pv 2) (pa_cons (pv 3) pa_nil)))))) (pw_or1 (pt_not (ptru (pcall G_l_shows (hr.mono (by decide)) takesD (pa_cons (pv 6) (pa_cons (pix (pv 4) pe_int) (pa_cons (pix (pv 4) pe_int) pa_nil))))))))) (pss_one (ps_ret pe_bl)) pss_nil)
  (pss_cons (psif (PW.pt (pwor (pt_not (ptru (pcb (crisa) T.f_isinstance (pa_cons (pclv T.cc_Alphabet_JOINT) (pa_cons (pbty T.f_str) pa_nil))))) (pw_or1 (pt_not (ptru (pcb (crisa) T.f_isinstance (pa_cons (pclv T.cc_Alphabet_MOST) (pa_cons (pbty T.f_int) pa_nil)))))))) (pss_one (ps_ret pe_bl)) pss_nil)
  (pss_one (ps_ret (peand (pe_cmpR (opeq hr.units) (pclv T.cc_Alphabet_JOINT) (pstr [45]) rfl) (peand (pe_cmpR (opeq hr.units) (pattC (.str (S [45])) (pv 5)) (pstr [45]) rfl) (peand (pe_cmpR (opeq hr.units) (pclv T.cc_Alphabet_MOST) pe_int rfl) (pe_one (pe_cmpR (opeq hr.units) (pattC (.int 4) (pv 6)) pe_int rfl))))))))))))))))))))))))))))
end Lw

set_option Elab.async false
set_option linter.all false
set_option maxRecDepth 100000
set_option maxHeartbeats 4000000
namespace Lw
open PySem PySem.Spec PyProof.Rows L2 Ta
theorem nd_len {l m : List Nat} (hn : l.Nodup) (hs : ∀ c ∈ l, c ∈ m) : l.length ≤ m.length := by
  induction l generalizing m with
  | nil => exact Nat.zero_le _
  | cons a l ih =>
    obtain ⟨h1, h2⟩ := List.nodup_cons.mp hn
    have ha := hs a List.mem_cons_self
    have := ih (m := m.erase a) h2 fun c hc => (List.mem_erase_of_ne (fun e : c = a => h1 (by rw [← e]; exact hc))).mpr (hs c (List.mem_cons_of_mem _ hc))
    rw [List.length_erase_of_mem ha] at this
    have hp : 0 < m.length := List.length_pos_of_mem ha
    rw [List.length_cons]
    omega
theorem badL_inv {l : List Nat} (h : badL l = false) : 1 ≤ l.length ∧ l.length ≤ 4 ∧ l.Nodup ∧ ∀ c ∈ l, c ∈ AZ := by
  unfold badL at h
  simp only [Bool.or_eq_false_iff, Bool.not_eq_false', decide_eq_true_eq, List.any_eq_false] at h
  obtain ⟨⟨h1, h2⟩, h3⟩ := h
  refine ⟨h2.1, h2.2, (dif_nd l).mp h3, fun c hc => ?_⟩
  have z := h1 c hc
  exact Decidable.byContradiction fun hn => z (by rw [decide_eq_false hn]; rfl)
theorem badV_inv {l v : List Nat} (h : badV l v = false) : v.Nodup ∧ ∀ c ∈ v, c ∈ l := by
  unfold badV at h
  simp only [Bool.or_eq_false_iff, Bool.not_eq_false', List.any_eq_false] at h
  obtain ⟨h1, h3⟩ := h
  refine ⟨(dif_nd v).mp h3, fun c hc => ?_⟩
  have z := h1 c hc
  simpa using z
theorem good_v {l v : List Nat} (h : good l v) : v.length ≤ 4 := by
  have h1 := badL_inv h.1
  have h2 := badV_inv h.2
  have := nd_len h2.1 h2.2
  omega
theorem pick_sub {m r s : List Nat} (hp : (m ++ r).Perm s) (hn : s.Nodup) : m.Nodup ∧ ∀ c ∈ m, c ∈ s := by
  have h := hp.nodup_iff.mpr hn
  exact ⟨(List.nodup_append.mp h).1, fun c hc => hp.mem_iff.mp (List.mem_append_left _ hc)⟩
theorem pick_all {m r s : List Nat} (hp : (m ++ r).Perm s) (hl : m.length = s.length) : m.Perm s := by
  have e := hp.length_eq
  rw [List.length_append] at e
  have : r = [] := List.length_eq_zero_iff.mp (by omega)
  rw [this, List.append_nil] at hp
  exact hp
theorem good_perm {l v m u : List Nat} (h : good l v) (hm : m.Perm l) (hu : u.Perm v) : good m u := by
  obtain ⟨a1, a2, a3, a4⟩ := badL_inv h.1
  obtain ⟨b1, b2⟩ := badV_inv h.2
  have e := hm.length_eq
  exact ⟨badL_ok (by omega) (by omega) (hm.nodup_iff.mpr a3) fun c hc => a4 c (hm.mem_iff.mp hc), badV_ok (hu.nodup_iff.mpr b1) fun c hc => hm.mem_iff.mpr (b2 c (hu.mem_iff.mp hc))⟩
theorem good_sub {l u r : List Nat} (h : badL l = false) (hu : (u ++ r).Perm l) : good l u := by
  obtain ⟨a1, a2, a3, a4⟩ := badL_inv h
  obtain ⟨b1, b2⟩ := pick_sub hu a3
  exact ⟨h, badV_ok b1 b2⟩
theorem good_new {m r : List Nat} (h1 : 1 ≤ m.length) (h2 : m.length ≤ 4) (hm : (m ++ r).Perm AZ) : badL m = false := by
  obtain ⟨b1, b2⟩ := pick_sub hm (by decide)
  exact badL_ok h1 h2 b1 b2
abbrev oth (l : List Nat) : List Nat := AZ.filter fun c => !decide (c ∈ l)
theorem oth_mem {l : List Nat} {d : Nat} (h : d ∈ oth l) : d ∈ AZ ∧ ¬ d ∈ l := by
  have := List.mem_filter.mp h
  simpa using this
theorem flt_len (f : Nat → Bool) : ∀ s : List Nat, (s.filter f).length + (s.filter fun c => !f c).length = s.length
  | [] => rfl
  | a :: s => by
    have ih := flt_len f s
    rw [List.filter_cons, List.filter_cons]
    cases f a with
    | true => simp only [Bool.not_true, List.length_cons, if_true]; simp; omega
    | false => simp only [Bool.not_false, List.length_cons, if_true]; simp; omega
theorem oth_len {l : List Nat} (h : l.length ≤ 4) : 22 ≤ (oth l).length ∧ (oth l).length ≤ 26 := by
  have h1 : (AZ.filter fun c => decide (c ∈ l)).length ≤ l.length := nd_len (List.Pairwise.filter _ (by decide : AZ.Nodup)) fun c hc => by
    have := (List.mem_filter.mp hc).2
    simpa using this
  have h2 := flt_len (fun c => decide (c ∈ l)) AZ
  have h3 : AZ.length = 26 := rfl
  show 22 ≤ (AZ.filter fun c => !decide (c ∈ l)).length ∧ (AZ.filter fun c => !decide (c ∈ l)).length ≤ 26
  have h4 := List.length_filter_le (fun c => !decide (c ∈ l)) AZ
  omega
theorem good_rp {l v : List Nat} {c d : Nat} (h : good l v) (hc : c ∈ l) (hd : d ∈ oth l) : good (rp c d l) (rp c d v) := by
  obtain ⟨a1, a2, a3, a4⟩ := badL_inv h.1
  obtain ⟨b1, b2⟩ := badV_inv h.2
  obtain ⟨d1, d2⟩ := oth_mem hd
  have inj : ∀ s : List Nat, s.Nodup → (∀ x ∈ s, x ∈ l) → (rp c d s).Nodup := fun s => by
    induction s with
    | nil => exact fun _ _ => .nil
    | cons x s ih =>
      intro hn hs
      obtain ⟨n1, n2⟩ := List.nodup_cons.mp hn
      have hx := hs x List.mem_cons_self
      show ((if x = c then d else x) :: rp c d s).Nodup
      refine List.nodup_cons.mpr ⟨fun hm => ?_, ih n2 fun y hy => hs y (List.mem_cons_of_mem _ hy)⟩
      obtain ⟨y, hy, e⟩ := List.mem_map.mp hm
      have hyl := hs y (List.mem_cons_of_mem _ hy)
      by_cases e1 : x = c
      · rw [if_pos e1] at e
        by_cases e2 : y = c
        · exact n1 (by rw [e1, ← e2]; exact hy)
        · rw [if_neg e2] at e; exact d2 (e ▸ hyl)
      · rw [if_neg e1] at e
        by_cases e2 : y = c
        · rw [if_pos e2] at e; exact d2 (e ▸ hx)
        · rw [if_neg e2] at e; exact n1 (e ▸ hy)
  have len : (rp c d l).length = l.length := List.length_map _
  refine ⟨badL_ok (by omega) (by omega) (inj l a3 fun _ h => h) fun x hx => ?_, badV_ok (inj v b1 b2) fun x hx => ?_⟩
  · obtain ⟨y, hy, e⟩ := List.mem_map.mp hx
    rw [← e]
    split
    · exact d1
    · exact a4 y hy
  · obtain ⟨y, hy, e⟩ := List.mem_map.mp hx
    exact List.mem_map.mpr ⟨y, b2 y hy, e⟩
theorem good_cons {l v : List Nat} {d : Nat} (h : good l v) (hl : l.length < 4) (hd : d ∈ oth l) : good (d :: l) v := by
  obtain ⟨a1, a2, a3, a4⟩ := badL_inv h.1
  obtain ⟨b1, b2⟩ := badV_inv h.2
  obtain ⟨d1, d2⟩ := oth_mem hd
  refine ⟨badL_ok (by simp) (by simp; omega) (List.nodup_cons.mpr ⟨d2, a3⟩) fun x hx => ?_, badV_ok b1 fun x hx => List.mem_cons_of_mem _ (b2 x hx)⟩
  rcases List.mem_cons.mp hx with rfl | hx
  · exact d1
  · exact a4 x hx
abbrev dS (l : List Nat) : List PyData := l.map fun c => PyData.str (S [c])
theorem dpa_sgn {K : PySem.W.Frag} {H : Hp} : ∀ l : List Nat, DpAll K H (sgn l) (dS l)
  | [] => .nil
  | c :: l => .cons (.str _) (dpa_sgn l)
theorem dp_sgn {K : PySem.W.Frag} {H : Hp} {p : Addr} {l : List Nat} (hp : H p = some (.lst (sgn l))) : Dp K H (.ref p) (.list (dS l)) := .lst (SqL.of hp) (dpa_sgn l)
theorem ok_AZ : ∀ c ∈ AZ, (PyData.str (S [c])).canLay0 = true := by decide +kernel
theorem lay_dS : ∀ l : List Nat, (∀ c ∈ l, c ∈ AZ) → PyData.canLayAll0 (dS l) = true
  | [], _ => rfl
  | c :: l, h => by
    show (PyData.canLay0 (.str (S [c])) && PyData.canLayAll0 (dS l)) = true
    rw [ok_AZ c (h c List.mem_cons_self), lay_dS l fun x hx => h x (List.mem_cons_of_mem _ hx)]
    rfl
theorem eqv_dS : ∀ l m : List Nat, PyData.eqvAll (dS l) (dS m) = decide (l = m)
  | [], [] => rfl
  | [], b :: m => rfl
  | a :: l, [] => rfl
  | a :: l, b :: m => by
    show (((S [a]) == (S [b])) && PyData.eqvAll (dS l) (dS m)) = _
    rw [eqv_dS l m]
    by_cases e : a = b
    · subst e; simp
    · have : (S [a] == S [b]) = false := by simp only [beq_eq_false_iff_ne]; exact fun z => e (S1_inj _ _ z)
      rw [this]; simp [e]
theorem dep_dS : ∀ l : List Nat, PyData.depthAll (dS l) = 0
  | [] => by rw [dS, List.map_nil, PyData.depthAll]
  | c :: l => by
    rw [dS, List.map_cons, PyData.depthAll, PyData.depth]
    have := dep_dS l
    rw [dS] at this
    rw [this]; rfl
theorem sh_sgn {l : List Nat} (h : ∀ c ∈ l, c ∈ AZ) : SeqAt.shaped (.list (dS l)) = true := by
  unfold SeqAt.shaped
  rw [PyData.canLay0, lay_dS l h, PyData.depth, dep_dS]
  decide
theorem eqv_sgn (l m : List Nat) : PyData.eqv (.list (dS l)) (.list (dS m)) = decide (l = m) := by
  rw [PyData.eqv, eqv_dS]
theorem srt_AZ {l : List Nat} (h : ∀ c ∈ l, c ∈ AZ) : ∀ c ∈ srt l, c ∈ AZ := fun c hc => h c ((srt_perm l).mem_iff.mp hc)
theorem eq_sgn {K : PySem.W.Frag} {H : Hp} {p r : Addr} {l m : List Nat} {k : Bool → Prop} (h1 : H p = some (.lst (sgn (srt l)))) (h2 : H r = some (.lst (sgn (srt m)))) (a1 : ∀ c ∈ l, c ∈ AZ) (a2 : ∀ c ∈ m, c ∈ AZ) (q : k (decide (srt l = srt m))) :
    dpq K (.ref p) (.ref r) H k :=
  dpq_i (dp_sgn h1) (dp_sgn h2) (sh_sgn (srt_AZ a1)) (sh_sgn (srt_AZ a2)) (by rw [eqv_sgn]; exact q)
theorem ok_due : ∀ l ∈ [tLet, tVow, []], (PyData.str (S l)).canLay0 = true := by decide +kernel
theorem sh_pair {b : Bool} {l : List Nat} (h : l ∈ [tLet, tVow, []]) : SeqAt.shaped (.tuple [.bool b, .str (S l)]) = true := by
  unfold SeqAt.shaped
  rw [PyData.canLay0, PyData.canLayAll0, PyData.canLayAll0, PyData.canLayAll0, ok_due l h, PyData.canLay0, PyData.depth, PyData.depthAll, PyData.depthAll, PyData.depthAll, PyData.depth, PyData.depth]
  decide
theorem eq_pair {K : PySem.W.Frag} {H : Hp} {p r : Addr} {b c : Bool} {l m : List Nat} {k : Bool → Prop} (h1 : H p = some (.tup [.bl b, .str (S l)])) (h2 : H r = some (.tup [.bl c, .str (S m)])) (a1 : l ∈ [tLet, tVow, []]) (a2 : m ∈ [tLet, tVow, []]) (hb : b = c) (hl : l = m) (q : k true) :
    dpq K (.ref p) (.ref r) H k := by
  subst hb
  subst hl
  refine dpq_i (.tup (SqT.of h1) (.cons (.bl b) (.cons (.str _) .nil))) (.tup (SqT.of h2) (.cons (.bl b) (.cons (.str _) .nil))) (sh_pair a1) (sh_pair a1) ?_
  have e : PyData.eqv (.tuple [.bool b, .str (S l)]) (.tuple [.bool b, .str (S l)]) = true := by
    rw [PyData.eqv, PyData.eqvAll, PyData.eqvAll, PyData.eqvAll, PyData.eqv, PyData.eqv]
    simp
  rw [e]; exact q
theorem due_mem (l v : List Nat) : due l v ∈ [tLet, tVow, []] := by
  unfold due
  split
  · simp
  · split <;> simp
theorem due_nil {l v : List Nat} (h : tl (S (due l v)) = tl (S [])) : good l v := by
  have h : due l v = [] := h
  unfold due at h
  split at h
  · cases h
  · rename_i h1
    split at h
    · cases h
    · rename_i h2
      exact ⟨by simpa using h1, by simpa using h2⟩
theorem emp_b (d : List Nat) : (!d.isEmpty) = !decide (tl (S d) = tl (S [])) := by
  cases d with
  | nil => rfl
  | cons a d => rfl
-- heap facts
local macro_rules | `(tactic| contradiction) => `(tactic| first
  | assumption
  | with_reducible exact upd_at
  | (apply upd_fr; (focus assumption); contradiction)
  | (apply upd_off; (focus (first | assumption | (apply Ne.symm; assumption))); contradiction)
  | (apply Kp.get0; (focus assumption); contradiction)
  | (apply Kp.get1; (focus assumption); (focus contradiction); (focus (first | assumption | (apply Ne.symm; assumption)))))
-- what is kept
local macro_rules | `(tactic| nofun) => `(tactic| first
  | exact Kp.rfl'
  | assumption
  | (apply Kp.nil; assumption)
  | (apply Kp.at; (focus nofun); (focus first | exact List.mem_cons_self | exact List.mem_cons_of_mem _ List.mem_cons_self))
  | (apply Kp.new; (focus nofun); (focus assumption))
  | (apply Kp.own; (focus nofun); (focus assumption))
  | (apply Kp.trans; rotate_left 1; (focus (first | assumption | (apply Kp.nil; assumption))); (focus nofun)))
-- side facts
local macro_rules | `(tactic| bv_omega) => `(tactic| first
  | with_reducible assumption
  | omega
  | (simp only [tl, S, List.toList_toArray, srt_len, sgn_len, List.length_append, List.length_cons, List.length_nil, List.length_take, List.length_drop]; omega)
  | (with_reducible refine lim_of ?_; omega)
  | (with_reducible refine lim_of ?_; simp only [tl, S, List.toList_toArray, srt_len, sgn_len, List.length_append, List.length_cons, List.length_nil, List.length_take, List.length_drop]; omega)
  | (with_reducible refine lim_of ?_; simp only [tl, S, List.toList_toArray, srt_len, sgn_len, List.length_append, List.length_cons, List.length_nil, List.length_take, List.length_drop]; grind [cut_len])
  | (dsimp only; omega)
  | exact rfl
  | (refine And.intro ?_ ?_ <;> omega)
  | (refine And.intro ?_ ?_ <;> (simp only [tl, S, List.toList_toArray, srt_len, sgn_len, List.length_append, List.length_cons, List.length_nil, List.length_take, List.length_drop]; omega))
  | (refine Or.inr (And.intro ?_ ?_) <;> omega)
  | (refine Or.inl (And.intro ?_ ?_) <;> omega)
  | (simp only [tl, S, List.toList_toArray, srt_len, sgn_len, List.length_append, List.length_cons, List.length_nil, List.length_take, List.length_drop] at *; omega)
  | (show _ < 1000; exact Nat.le_of_ble_eq_true (Eq.refl true))
  | (rw [sizeLine_eq]; exact Nat.le_of_ble_eq_true (Eq.refl true))
  | assumption)
-- one step
local macro_rules | `(tactic| ac_rfl) => `(tactic| (conv => whnf) <;> first
  | (apply look_i; (focus contradiction))
  | (refine itm_i (by first | rfl | assumption) ?_)
  | (refine fld_i (by first | rfl | assumption) ?_)
  | (apply itm_s; (focus bv_omega); (focus bv_omega))
  | (refine isa_1 rfl (by first | assumption | rfl) ?_)
  | (apply isa_t; (focus contradiction); (focus rfl); (focus assumption))
  | (apply i_l_take; (focus contradiction); (focus bv_omega); (focus bv_omega))
  | (refine i_all_different ?_ ?_; (focus bv_omega))
  | (apply i_l_char; (focus contradiction))
  | (apply i_l_box; (focus contradiction); (focus bv_omega); (focus bv_omega))
  | (apply i_l_pick; (focus contradiction); (focus bv_omega); (focus bv_omega); (focus bv_omega))
  | (apply eq_pair; (focus contradiction); (focus contradiction); (focus exact due_mem _ _); (focus exact due_mem _ _); (focus exact emp_b _); (focus rfl))
  | (apply eq_sgn; (focus contradiction); (focus contradiction); (focus assumption); (focus assumption))
  | (apply i_l_alike; (focus contradiction); (focus contradiction); (focus assumption))
  | (apply i_l_second; (focus contradiction); (focus assumption))
  | (apply i_l_bent; (focus contradiction); (focus bv_omega))
  | (apply i_l_due; (focus bv_omega); (focus bv_omega))
  | (apply i_l_refused; (focus bv_omega); (focus bv_omega))
  | (apply i_l_shows; (focus contradiction); (focus bv_omega); (focus bv_omega))
  | (apply i_Alphabet_eq; (focus contradiction); (focus contradiction))
  | (refine joi_i ?_ ?_; (focus bv_omega))
  | (refine And.intro (fun (_ : true = true) => ?_) (fun (z : true = false) => Bool.noConfusion z))
  | (refine And.intro (fun (z : false = true) => Bool.noConfusion z) (fun (_ : false = false) => ?_))
  | (refine And.intro ?_ ?_; (focus bv_omega))
  | (refine And.intro (sd_e ?_) ?_)
  | (refine Exists.intro _ (And.intro (by first | rfl | assumption) ?_))
  | (refine cnd_t (Eq.refl true) ?_)
  | (refine cnd_f (Eq.refl false) ?_)
  | (refine cnd_n ?_)
  | (apply cnd_t; (focus (apply decide_eq_true; omega)))
  | (apply cnd_f; (focus (apply decide_eq_false; omega)))
  | (refine cnd_d (fun _ => ?_) (fun _ => ?_))
  | (refine cnd_i (fun _ => ?_) (fun _ => ?_))
  | (intro _))


theorem rd_all_different {K : PySem.W.Frag} {mg : Str → Option Value} (T : Tx K mg) : ∀ vs H Q E, sp_all_different K vs H Q E → t_all_different K (WD E) (EndD Q) (start ["string"] vs) H := by
  intro vs H Q E h
  unfold sp_all_different at h
  obtain ⟨l, rfl, h1, q⟩ := h
  repeat' ac_rfl
  all_goals (conv => whnf)
  exact q


theorem rd_Alphabet_init {K : PySem.W.Frag} {mg : Str → Option Value} (T : Tx K mg) : ∀ vs H Q E, sp_Alphabet_init K vs H Q E → t_Alphabet_init K (WD E) (EndD Q) (start ["self", "letters", "vowels", "foreign", "sign"] vs) H := by
  intro vs H Q E h
  unfold sp_Alphabet_init at h
  obtain ⟨a, dx, l, v, rfl, ha, h1, h2, q1, q2, q3⟩ := h
  cases T
  have g1 : (tl (S l)).length < 64 := h1
  have g2 : (tl (S v)).length < 64 := h2
  conv => whnf
  refine lcp_f (fun c => !decide (c ∈ AZ)) (by omega) ?_ ?_ (fun _ => rfl) ?_
  · rintro c D _ Q' hD hc ⟨xs, rfl⟩ q
    exact q
  · intro c H' Q' q
    exact q
  intro D hD
  repeat' ac_rfl
  all_goals (try (conv => whnf))
  rotate_left 1
  · rename_i d hd; exact q1 (badL4 (by assumption)) _ d (Kp.rfl'.new hD) hd
  · rename_i d hd; exact q1 (badL3 (by assumption)) _ d (Kp.rfl'.new hD) hd
  · rename_i d hd; exact q1 (badL2 (by assumption)) _ d (Kp.rfl'.new hD) hd
  · rename_i d hd; exact q1 (badL1 (by assumption)) _ d (Kp.rfl'.new hD) hd
  have hL : badL l = false := badL0 (by assumption) (by assumption) (by assumption) (by assumption)
  refine lcp_f (fun c => !decide (c ∈ l)) (by omega) ?_ ?_ (fun _ => rfl) ?_
  · rintro c D _ Q' hD hc ⟨xs, rfl⟩ q
    exact q
  · intro c H' Q' q
    exact q
  intro D2 hD2
  repeat' ac_rfl
  all_goals (try (conv => whnf))
  rotate_left 1
  · rename_i d hd; exact q2 hL (badV2 (by assumption)) _ d (by nofun) hd
  · rename_i d hd; exact q2 hL (badV1 (by assumption)) _ d (by nofun) hd
  have hV : badV l v = false := badV0 (by assumption) (by assumption)
  have q3 := q3 hL hV
  refine lcp_l (by contradiction) (fun c => !decide (c ∈ v)) (by bv_omega) ?_ ?_ (fun _ => rfl) ?_
  · rintro c D _ Q' hD hc ⟨xs, rfl⟩ q
    exact q
  · intro c H' Q' q
    exact q
  intro D3 hD3
  have hfl : ((srt (tl (S l))).filter fun c => !decide (c ∈ v)).length ≤ 1000000 := Nat.le_trans (List.length_filter_le _ _) (by bv_omega)
  repeat' ac_rfl
  all_goals (try (conv => whnf))
  exact q3 _ (by nofun) (upd_at.trans rfl)


theorem rd_Alphabet_eq {K : PySem.W.Frag} {mg : Str → Option Value} (T : Tx K mg) : ∀ vs H Q E, sp_Alphabet_eq K vs H Q E → t_Alphabet_eq K (WD E) (EndD Q) (start ["self", "other"] vs) H := by
  intro vs H Q E h
  unfold sp_Alphabet_eq at h
  obtain ⟨a, b, dx, dy, l, v, m, u, rfl, ha, hb, q⟩ := h
  cases T
  repeat' ac_rfl
  all_goals (conv => whnf)
  · rename_i x
    have x : srt l = srt m := x
    rw [decide_eq_true x, Bool.true_and] at q
    exact q
  · rename_i x
    have x : ¬ srt l = srt m := x
    rw [decide_eq_false x, Bool.false_and] at q
    rw [decide_eq_false (show ¬ tl (S (srt l)) = tl (S (srt m)) from x)]
    exact q


theorem rd_l_box {K : PySem.W.Frag} {mg : Str → Option Value} (T : Tx K mg) : ∀ vs H Q E, sp_l_box K vs H Q E → t_l_box K (WD E) (EndD Q) (start ["_law_script", "_law_k", "_law_cell"] vs) H := by
  intro vs H Q E h
  unfold sp_l_box at h
  obtain ⟨p, k, ob, ns, rfl, hp, h0, h1, q⟩ := h
  cases T
  have hlen : (ns.map V.int).length = ns.length := List.length_map _
  repeat' ac_rfl
  all_goals (try (conv => whnf))
  · rename_i p' hp'
    exact q _ _ _ hp'
  · rename_i x
    refine sd_i ?_
    show (0 : Int) < ((ns.map V.int).length : Int)
    cases ns with
    | nil => cases x
    | cons n ns => simp only [List.map_cons, List.length_cons]; omega
  · rename_i x
    have hpos : 0 < ns.length := by
      cases ns with
      | nil => cases x
      | cons n ns => exact Nat.succ_pos _
    have hlt := Int.emod_lt_of_pos k (show (0 : Int) < (ns.map V.int).length by omega)
    have hge := Int.emod_nonneg k (show ((ns.map V.int).length : Int) ≠ 0 by omega)
    obtain ⟨j, hj⟩ := Int.eq_ofNat_of_zero_le hge
    have hj2 : j < ns.length := by omega
    refine itm_n (v := .int ns[j]) hj (by rw [List.getElem?_map, List.getElem?_eq_getElem hj2]; rfl) ?_
    repeat' ac_rfl
    all_goals (try (conv => whnf))
    · exact q _ _ _ (by assumption)
    · exact q _ _ _ (by assumption)


theorem rd_l_take {K : PySem.W.Frag} {mg : Str → Option Value} (T : Tx K mg) : ∀ vs H Q E, sp_l_take K vs H Q E → t_l_take K (WD E) (EndD Q) (start ["_law_box_here", "_law_size", "_law_digit", "_law_mixed"] vs) H := by
  intro vs H Q E h
  unfold sp_l_take at h
  obtain ⟨p, n, a, b, rfl, hp, h0, h1, q⟩ := h
  repeat' ac_rfl
  all_goals (conv => whnf)
  · exact q _ _ _ (Int.emod_nonneg _ (by omega)) (Int.emod_lt_of_pos _ h0)
  · exact q _ _ _ (Int.emod_nonneg _ (by omega)) (Int.emod_lt_of_pos _ h0)


theorem rd_l_pick {K : PySem.W.Frag} {mg : Str → Option Value} (T : Tx K mg) : ∀ vs H Q E, sp_l_pick K vs H Q E → t_l_pick K (WD E) (EndD Q) (start ["_law_box_here", "_law_string", "_law_many", "_law_picked", "_law_turn", "_law_at"] vs) H := by
  intro vs H Q E h
  unfold sp_l_pick at h
  obtain ⟨p, s, m, a, b, rfl, hp, h0, h1, h2, q⟩ := h
  cases T
  repeat' ac_rfl
  all_goals (try (conv => whnf))
  refine loop_i (fun i σ H' => Sd (∃ (l r : List Nat) (a b : Int) (v4 v5 : Option V), l.length = i ∧ (l ++ r).Perm s ∧ σ = [some (.ref p), some (.str (S r)), some (.int m), some (.str (S l)), v4, v5] ∧ H' = upd H p (pr a b))) ?_ (fun _ _ _ _ _ => trivial) ?_ ?_
  · exact sd_i ⟨[], s, a, b, none, none, rfl, List.Perm.refl _, rfl, (upd_self hp).symm⟩
  · rintro i x σ H' H'' hi hP ⟨rfl, rfl⟩
    obtain ⟨l, r, a, b, v4, v5, hl, hpm, rfl, rfl⟩ := sd_e hP
    have hlen := hpm.length_eq
    rw [List.length_append] at hlen
    have hr : r.length < 1000 := by omega
    have hr0 : 0 < r.length := by omega
    have hc1 : ∀ a b, (cut r a b).length ≤ r.length := fun a b => cut_len r a b
    repeat' ac_rfl
    all_goals (try (conv => whnf))
    · rename_i n a' b' _ _ j hj e
      subst e
      have e1 : cut r none (some (j : Int)) = r.take j := cut_to r j
      have e2 : cut r (some ((j : Int) + 1)) none = r.drop (j + 1) := by
        have z : ((j : Int) + 1) = ((j + 1 : Nat) : Int) := by omega
        rw [z, cut_from]
      refine sd_i ⟨l ++ [r[j]], cut r none (some (j : Int)) ++ cut r (some ((j : Int) + 1)) none, a', b', _, _, ?_, ?_, rfl, upd_tw⟩
      · rw [List.length_append, hl]; rfl
      · rw [e1, e2]
        exact (perm_out hj).trans hpm
  · rintro σ H' hP
    obtain ⟨l, r, a, b, v4, v5, hl, hpm, rfl, rfl⟩ := sd_e hP
    exact q l r a b (by omega) hpm


theorem rd_l_char {K : PySem.W.Frag} {mg : Str → Option Value} (T : Tx K mg) : ∀ vs H Q E, sp_l_char K vs H Q E → t_l_char K (WD E) (EndD Q) (start ["_law_box_here", "_law_chars"] vs) H := by
  intro vs H Q E h
  unfold sp_l_char at h
  obtain ⟨p, a, b, rfl, hp, q⟩ := h
  cases T
  repeat' ac_rfl
  all_goals (try (conv => whnf))
  exact q _ _ _


theorem rd_l_second {K : PySem.W.Frag} {mg : Str → Option Value} (T : Tx K mg) : ∀ vs H Q E, sp_l_second K vs H Q E → t_l_second K (WD E) (EndD Q) (start ["_law_box_here", "_law_letters", "_law_vowels", "_law_way", "_law_rest", "_law_char_here", "_law_old", "_law_new"] vs) H := by
  intro vs H Q E h
  unfold sp_l_second at h
  obtain ⟨p, l, v, a, b, rfl, hp, hg, q⟩ := h
  cases T
  obtain ⟨a1, a2, a3, a4⟩ := badL_inv hg.1
  have a5 := good_v hg
  repeat' ac_rfl
  all_goals (try (conv => whnf))
  refine lcp_f (fun c => !decide (c ∈ l)) (by exact Nat.lt_of_lt_of_le (by decide : 26 < 27) (by decide)) ?_ ?_ (fun _ => rfl) ?_
  · rintro c D _ Q' hD hc ⟨xs, rfl⟩ q
    exact q
  · intro c H' Q' q
    exact q
  intro D hD
  generalize hR : List.filter (fun c => !decide (c ∈ l)) (tl (S AZ)) = R
  have hR2 : R = oth l := hR.symm
  have o1 : 22 ≤ R.length := by rw [hR2]; exact (oth_len a2).1
  have o2 : R.length ≤ 26 := by rw [hR2]; exact (oth_len a2).2
  have om : ∀ d ∈ R, d ∈ oth l := fun d hd => by rw [← hR2]; exact hd
  clear hR hR2
  repeat' ac_rfl
  all_goals (try (conv => whnf))
  · refine q _ _ _ _ (good_perm hg (pick_all (by assumption) ?_) (pick_all (by assumption) ?_)) (by nofun) upd_at
    · bv_omega
    · bv_omega
  · exact q _ _ _ _ (good_sub hg.1 (by assumption)) (by nofun) upd_at
  · exact sd_i fun e => (oth_mem (om _ (List.getElem_mem _))).2 (e ▸ List.getElem_mem _)
  · exact sd_i fun e => (oth_mem (om _ (List.getElem_mem _))).2 (e ▸ List.getElem_mem _)
  · exact q _ _ _ _ (good_rp hg (List.getElem_mem _) (om _ (List.getElem_mem _))) (by nofun) upd_at
  · exact q _ _ _ _ (good_cons hg (by bv_omega) (om _ (List.getElem_mem _))) (by nofun) upd_at
  · refine q _ _ _ _ (good_sub (good_new ?_ ?_ (by assumption)) (by assumption)) (by nofun) upd_at
    · bv_omega
    · bv_omega
  · refine q _ _ _ _ (good_sub (good_new ?_ ?_ (by assumption)) (by assumption)) (by nofun) upd_at
    · bv_omega
    · bv_omega


theorem rd_l_bent {K : PySem.W.Frag} {mg : Str → Option Value} (T : Tx K mg) : ∀ vs H Q E, sp_l_bent K vs H Q E → t_l_bent K (WD E) (EndD Q) (start ["_law_box_here", "_law_string", "_law_turn", "_law_way", "_law_at"] vs) H := by
  intro vs H Q E h
  unfold sp_l_bent at h
  obtain ⟨p, s, a, b, rfl, hp, h1, q⟩ := h
  cases T
  repeat' ac_rfl
  all_goals (try (conv => whnf))
  rename_i n a1 b1 hn0 hn1
  refine loop_i (fun i σ H' => Sd (∃ (s : List Nat) (a b : Int) (v2 v3 v4 : Option V), (i = 0 → s.length ≤ 4) ∧ (i = 1 → s.length ≤ 17) ∧ s.length ≤ 56 ∧ σ = [some (.ref p), some (.str (S s)), v2, v3, v4] ∧ H' = upd H p (pr a b))) ?_ (fun _ _ _ _ _ => trivial) ?_ ?_
  · exact sd_i ⟨s, a1, b1, none, none, none, fun _ => h1, fun z => (nomatch z), by omega, rfl, rfl⟩
  · rintro i x σ H' H'' hi hP ⟨rfl, rfl⟩
    obtain ⟨s, a, b, v2, v3, v4, hl0, hl1, hl2, rfl, rfl⟩ := sd_e hP
    have hs : s.length ≤ 17 := by
      rcases (by omega : i = 0 ∨ i = 1) with z | z
      · have := hl0 z; omega
      · exact hl1 z
    repeat' ac_rfl
    all_goals (try (conv => whnf))
    all_goals (first | refine sd_i ⟨_, _, _, _, _, _, fun z => absurd z (Nat.succ_ne_zero _), fun z => ?_, ?_, rfl, upd_tw2⟩ | refine sd_i ⟨_, _, _, _, _, _, fun z => absurd z (Nat.succ_ne_zero _), fun z => ?_, ?_, rfl, upd_tw3⟩ | refine sd_i ⟨_, _, _, _, _, _, fun z => absurd z (Nat.succ_ne_zero _), fun z => ?_, ?_, rfl, upd_tw4⟩)
    all_goals (first | (have hz := hl0 (by omega); simp only [tl, S, List.toList_toArray, srt_len, sgn_len, List.length_append, List.length_cons, List.length_nil, List.length_take, List.length_drop]; first | done | omega | grind [cut_len]) | (simp only [tl, S, List.toList_toArray, srt_len, sgn_len, List.length_append, List.length_cons, List.length_nil, List.length_take, List.length_drop]; first | done | omega | grind [cut_len]))
  · rintro σ H' hP
    obtain ⟨s, a, b, v2, v3, v4, hl0, hl1, hl2, rfl, rfl⟩ := sd_e hP
    exact q s a b (by omega)


theorem rd_l_due {K : PySem.W.Frag} {mg : Str → Option Value} (T : Tx K mg) : ∀ vs H Q E, sp_l_due K vs H Q E → t_l_due K (WD E) (EndD Q) (start ["_law_letters", "_law_vowels", "_law_k"] vs) H := by
  intro vs H Q E h
  unfold sp_l_due at h
  obtain ⟨l, v, rfl, h1, h2, q⟩ := h
  cases T
  repeat' ac_rfl
  all_goals (try (conv => whnf))
  · have e : due l v = tLet := by unfold due; rw [if_pos (badL2 (by rename_i x; have x : (l.length : Int) < 1 := x; omega))]
    rw [e] at q; exact q
  · have e : due l v = tLet := by unfold due; rw [if_pos (badL3 (by rename_i x; have x : 4 < (l.length : Int) := x; omega))]
    rw [e] at q; exact q
  have g0 : ¬ (l.length : Int) < 1 := by assumption
  have g1 : ¬ 4 < (l.length : Int) := by assumption
  refine loop_i (fun i σ H' => Sd (∃ v2 : Option V, σ = [some (.str (S l)), some (.str (S v)), v2] ∧ H' = H ∧ (l.take i).Nodup ∧ ∀ c ∈ l.take i, c ∈ AZ)) ?_ (fun _ _ _ _ _ => trivial) ?_ ?_
  · exact sd_i ⟨none, rfl, rfl, .nil, fun _ z => (nomatch z)⟩
  · rintro i x σ H' H'' hi hP ⟨rfl, rfl⟩
    obtain ⟨v2, rfl, rfl, nd, al⟩ := sd_e hP
    have hi2 : i < l.length := hi
    have z0 : (0 + (i : Int)) = (i : Int) := by omega
    repeat' ac_rfl
    all_goals (try (conv => whnf))
    · rename_i j1 hj1 e1 x1 j hj e x
      obtain rfl : j = i := by omega
      have x2 : l[j] ∈ cut l none (some (0 + (j : Int))) := x
      rw [z0, cut_to] at x2
      have e : due l v = tLet := by unfold due; rw [if_pos (badL_nd (nd_at hi2 x2))]
      rw [e] at q; exact q
    · rename_i j1 hj1 e1 x1 j hj e x
      obtain rfl : j = i := by omega
      obtain rfl : j1 = j := by omega
      have x2 : ¬ l[j1] ∈ cut l none (some (0 + (j1 : Int))) := x
      rw [z0, cut_to] at x2
      exact sd_i ⟨_, rfl, rfl, nd_take hi2 x2 nd, al_take hi2 x1 al⟩
    · rename_i j hj e x
      obtain rfl : j = i := by omega
      have e : due l v = tLet := by unfold due; rw [if_pos (badL_any (List.getElem_mem hi2) x)]
      rw [e] at q; exact q
  · rintro σ H'' hP
    obtain ⟨v2, rfl, rfl, nd, al⟩ := sd_e hP
    have el : (l.take (Int.toNat ((tl (S l)).length : Int))) = l := List.take_length
    rw [el] at nd al
    have hL : badL l = false := badL_ok (by omega) (by omega) nd al
    repeat' ac_rfl
    all_goals (try (conv => whnf))
    refine loop_i (fun i σ H' => Sd (∃ v2 : Option V, σ = [some (.str (S l)), some (.str (S v)), v2] ∧ H' = H'' ∧ (v.take i).Nodup ∧ ∀ c ∈ v.take i, c ∈ l)) ?_ (fun _ _ _ _ _ => trivial) ?_ ?_
    · exact sd_i ⟨v2, rfl, rfl, .nil, fun _ z => (nomatch z)⟩
    · rintro i x σ H' H2 hi hP ⟨rfl, rfl⟩
      obtain ⟨v2, rfl, rfl, nd, al⟩ := sd_e hP
      have hi2 : i < v.length := hi
      have z0 : (0 + (i : Int)) = (i : Int) := by omega
      repeat' ac_rfl
      all_goals (try (conv => whnf))
      · rename_i j1 hj1 e1 x1 j hj e x
        obtain rfl : j = i := by omega
        have x2 : v[j] ∈ cut v none (some (0 + (j : Int))) := x
        rw [z0, cut_to] at x2
        have e : due l v = tVow := by unfold due; rw [if_neg (by rw [hL]; decide), if_pos (badV_nd (nd_at hi2 x2))]
        rw [e] at q; exact q
      · rename_i j1 hj1 e1 x1 j hj e x
        obtain rfl : j = i := by omega
        obtain rfl : j1 = j := by omega
        have x2 : ¬ v[j1] ∈ cut v none (some (0 + (j1 : Int))) := x
        rw [z0, cut_to] at x2
        exact sd_i ⟨_, rfl, rfl, nd_take hi2 x2 nd, al_take hi2 x1 al⟩
      · rename_i j hj e x
        obtain rfl : j = i := by omega
        have e : due l v = tVow := by unfold due; rw [if_neg (by rw [hL]; decide), if_pos (badV_any (List.getElem_mem hi2) x)]
        rw [e] at q; exact q
    · rintro σ H' hP
      obtain ⟨v2, rfl, rfl, nd, al⟩ := sd_e hP
      have el : (v.take (Int.toNat ((tl (S v)).length : Int))) = v := List.take_length
      rw [el] at nd al
      have hV : badV l v = false := badV_ok nd al
      have e : due l v = [] := by unfold due; rw [if_neg (by rw [hL]; decide), if_neg (by rw [hV]; decide)]
      rw [e] at q; exact q


theorem rd_l_refused {K : PySem.W.Frag} {mg : Str → Option Value} (T : Tx K mg) : ∀ vs H Q E, sp_l_refused K vs H Q E → t_l_refused K (WD E) (EndD Q) (start ["_law_letters", "_law_vowels", "e"] vs) H := by
  intro vs H Q E h
  unfold sp_l_refused at h
  obtain ⟨l, v, rfl, h1, h2, q⟩ := h
  cases T
  repeat' ac_rfl
  all_goals (try (conv => whnf))
  rename_i x dx hx hdx hne
  refine i_Alphabet_init upd_at h1 h2 (fun e H' d hk hd => ?_) (fun e1 e2 H' d hk hd => ?_) (fun e1 e2 H' hk hd => ?_)
  · have e : due l v = tLet := by unfold due; rw [if_pos e]
    have hk2 : Kp [] H H' := Kp.made hx hdx (Kp.nil hk)
    rw [e] at q
    repeat' ac_rfl
    all_goals (try (conv => whnf))
    exact q _ _ (by nofun) upd_at
  · have e : due l v = tVow := by unfold due; rw [if_neg (by rw [e1]; decide), if_pos e2]
    have hk2 : Kp [] H H' := Kp.made hx hdx (Kp.nil hk)
    rw [e] at q
    repeat' ac_rfl
    all_goals (try (conv => whnf))
    exact q _ _ (by nofun) upd_at
  · have e : due l v = [] := by unfold due; rw [if_neg (by rw [e1]; decide), if_neg (by rw [e2]; decide)]
    have hk2 : Kp [] H H' := Kp.made hx hdx hk
    rw [e] at q
    repeat' ac_rfl
    all_goals (try (conv => whnf))
    exact q _ _ (by nofun) upd_at


theorem rd_l_shows {K : PySem.W.Frag} {mg : Str → Option Value} (T : Tx K mg) : ∀ vs H Q E, sp_l_shows K vs H Q E → t_l_shows K (WD E) (EndD Q) (start ["_law_alphabet", "_law_letters", "_law_vowels", "_law_ordered", "_law_due_here", "_law_char_here", "_law_told", "_law_k"] vs) H := by
  intro vs H Q E h
  unfold sp_l_shows at h
  obtain ⟨a, dx, l, v, rfl, ha, h1, h2, q⟩ := h
  cases T
  repeat' ac_rfl
  all_goals (try (conv => whnf))
  refine lcp_f (fun c => !decide (c ∈ v)) (by bv_omega) ?_ ?_ (fun _ => rfl) ?_
  · rintro c D _ Q' hD hc ⟨xs, rfl⟩ q
    exact q
  · intro c H' Q' q
    exact q
  intro D3 hD3
  have hfl : ((srt (tl (S l))).filter fun c => !decide (c ∈ v)).length ≤ 1000000 := Nat.le_trans (List.length_filter_le _ _) (by bv_omega)
  repeat' ac_rfl
  all_goals (try (conv => whnf))
  refine loop_c trivial (fun _ _ _ _ h => h.1) ⟨_, rfl⟩ ?_ ?_
  · rintro i x v hi ⟨_, rfl⟩
    have hi : i < 4 := hi
    rcases (by omega : i = 0 ∨ i = 1 ∨ i = 2 ∨ i = 3) with rfl | rfl | rfl | rfl
    all_goals (repeat' ac_rfl)
    all_goals (try (conv => whnf))
    all_goals (first | exact sd_i ⟨some _, List.set_set .., rfl⟩ | (rename_i x; exact absurd rfl x))
  · intro v
    repeat' ac_rfl
    all_goals (try (conv => whnf))
    exact q _ (by nofun)


theorem rd_l_alike {K : PySem.W.Frag} {mg : Str → Option Value} (T : Tx K mg) : ∀ vs H Q E, sp_l_alike K vs H Q E → t_l_alike K (WD E) (EndD Q) (start ["_law_one", "_law_two", "_law_due_here", "_law_told"] vs) H := by
  intro vs H Q E h
  unfold sp_l_alike at h
  obtain ⟨a, b, k, dx, dy, l, v, m, u, rfl, ha, hb, hk, q⟩ := h
  cases T
  repeat' ac_rfl
  all_goals (try (conv => whnf))
  rw [decide_eq_true hk.symm]
  exact q

/-- what stands behind the third statement -/
structure F4 (p q3 : Addr) (ob : Obj) (ns : List Int) (l v m u : List Nat) (H : Hp) : Prop where
  p : H p = some (scr ob ns)
  n : ns.length < 1000
  g : good l v
  t : H q3 = some (.tup [.str (S m), .str (S u)])
  g2 : good m u
structure F7 (K : PySem.W.Frag) (p q3 x1 y1 x2 y2 x3 y3 : Addr) (ob : Obj) (ns : List Int) (l v m u : List Nat) (H : Hp) : Prop where
  f : F4 p q3 ob ns l v m u H
  a1 : H x1 = some (.ins (He.ga K "Alphabet") y1 (alf l v))
  a2 : H x2 = some (.ins (He.ga K "Alphabet") y2 (alf m u))
  a3 : H x3 = some (.ins (He.ga K "Alphabet") y3 (alf l []))
theorem F4.kp {p q3 : Addr} {ob : Obj} {ns : List Int} {l v m u : List Nat} {H H' : Hp} (h : F4 p q3 ob ns l v m u H) (k : Kp [] H H') : F4 p q3 ob ns l v m u H' := ⟨k.get0 h.p, h.n, h.g, k.get0 h.t, h.g2⟩
theorem F7.kp {K : PySem.W.Frag} {p q3 x1 y1 x2 y2 x3 y3 : Addr} {ob : Obj} {ns : List Int} {l v m u : List Nat} {H H' : Hp} (h : F7 K p q3 x1 y1 x2 y2 x3 y3 ob ns l v m u H) (k : Kp [] H H') : F7 K p q3 x1 y1 x2 y2 x3 y3 ob ns l v m u H' := ⟨h.f.kp k, k.get0 h.a1, k.get0 h.a2, k.get0 h.a3⟩
theorem seg_13 {K : PySem.W.Frag} {mg : Str → Option Value} (T : Tx K mg) {p q3 x1 y1 x2 y2 x3 y3 : Addr} {ob : Obj} {ns : List Int} {l v m u : List Nat} {H : Hp} {Q : VK} {W : WX} {v1 v8 v9 v10 v11 v12 : Option V}
    (F : F7 K p q3 x1 y1 x2 y2 x3 y3 ob ns l v m u H) (q : ∀ H', Q (.bl true) H') :
    t_law_13 K W (EndD Q) [some (.ref p), v1, some (.str (S l)), some (.str (S v)), some (.ref q3), some (.ref x1), some (.ref x2), some (.ref x3), v8, v9, v10, v11, v12] H := by
  unfold t_law_13
  obtain ⟨⟨hp, hn, hg, ht, hg2⟩, A1, A2, A3⟩ := F
  obtain ⟨c1, c2, c3, c4⟩ := badL_inv hg.1
  have c5 := good_v hg
  obtain ⟨d1, d2, d3, d4⟩ := badL_inv hg2.1
  have d5 := good_v hg2
  cases T
  repeat' ac_rfl
  all_goals (try (conv => whnf))
  exact q _
abbrev sg (p : Addr) (v1 : Option V) (l v : List Nat) (q3 x1 x2 x3 : Addr) (v8 v9 v10 v11 v12 : Option V) : L2.St := [some (.ref p), v1, some (.str (S l)), some (.str (S v)), some (.ref q3), some (.ref x1), some (.ref x2), some (.ref x3), v8, v9, v10, v11, v12]
theorem seg_12 {K : PySem.W.Frag} {mg : Str → Option Value} (T : Tx K mg) {p q3 x1 y1 x2 y2 x3 y3 : Addr} {ob : Obj} {ns : List Int} {l v m u : List Nat} {H : Hp} {Q : VK} {W : WX} {v1 v8 v9 v10 v11 v12 : Option V}
    (F : F7 K p q3 x1 y1 x2 y2 x3 y3 ob ns l v m u H) (q : ∀ H', Q (.bl true) H') :
    t_law_12 K W (EndD Q) (sg p v1 l v q3 x1 x2 x3 v8 v9 v10 v11 v12) H := by
  unfold t_law_12
  have T0 := T
  obtain ⟨c1, c2, c3, c4⟩ := badL_inv F.f.g.1
  have c5 := good_v F.f.g
  cases T
  repeat' ac_rfl
  all_goals (try (conv => whnf))
  refine loop_i (fun i σ H' => Sd (∃ v1 v8 v9 v10 v11 v12 : Option V, σ = sg p v1 l v q3 x1 x2 x3 v8 v9 v10 v11 v12 ∧ Kp [] H H')) ?_ (fun _ _ _ _ _ => trivial) ?_ ?_
  · exact sd_i ⟨_, _, _, _, _, _, rfl, Kp.rfl'⟩
  · rintro i x σ H5 H6 hi hP ⟨rfl, rfl⟩
    obtain ⟨v1, v8, v9, v10, v11, v12, rfl, hK⟩ := sd_e hP
    have hi : i < 3 := hi
    have p5 := hK.get0 F.f.p
    have hn := F.f.n
    conv => whnf
    refine i_l_box p5 (by omega) hn ?_
    intro q5 a5 b5 hq5
    have n5 : p ≠ q5 := ne_none p5 hq5
    have hq6 : H q5 = none := hK.none hq5
    repeat' ac_rfl
    all_goals (try (conv => whnf))
    all_goals try (refine sd_i ⟨_, _, _, _, _, _, rfl, ?_⟩; nofun)
    all_goals
      rename_i xa ya hxa hya hxy
      have hgd := due_nil (by assumption)
      refine g_Alphabet_init upd_at (by omega) (by omega) hgd.1 hgd.2 ?_
      intro H8 hk8 hA8
      have k8 := Kp.made hxa hya hk8
      clear hk8
      refine ⟨rfl, ?_⟩
      repeat' ac_rfl
      all_goals (try (conv => whnf))
      refine sd_i ⟨_, _, _, _, _, _, rfl, ?_⟩
      nofun
  · rintro σ H5 hP
    obtain ⟨v1, v8, v9, v10, v11, v12, rfl, hK⟩ := sd_e hP
    exact seg_13 T0 (F.kp hK) q
theorem seg_10 {K : PySem.W.Frag} {mg : Str → Option Value} (T : Tx K mg) {p q3 x1 y1 x2 y2 x3 y3 : Addr} {ob : Obj} {ns : List Int} {l v m u : List Nat} {H : Hp} {Q : VK} {W : WX} {v1 v9 v10 v11 v12 : Option V} {b : Bool}
    (F : F7 K p q3 x1 y1 x2 y2 x3 y3 ob ns l v m u H) (hb : b = (decide (srt l = srt m) && decide (srt v = srt u))) (q : ∀ H', Q (.bl true) H') :
    t_law_10 K W (EndD Q) (sg p v1 l v q3 x1 x2 x3 (some (.bl b)) v9 v10 v11 v12) H := by
  unfold t_law_10
  have T0 := T
  have A1 := F.a1
  have A2 := F.a2
  have A3 := F.a3
  have b11 : true = (decide (srt l = srt l) && decide (srt v = srt v)) := by simp
  have b21 : b = (decide (srt m = srt l) && decide (srt u = srt v)) := by
    rw [hb]
    congr 1
    · exact decide_eq_decide.mpr ⟨Eq.symm, Eq.symm⟩
    · exact decide_eq_decide.mpr ⟨Eq.symm, Eq.symm⟩
  have bb1 : decide (tl (S v) = tl (S [])) = (decide (srt l = srt l) && decide (srt [] = srt v)) := by
    rw [decide_eq_true (rfl : srt l = srt l), Bool.true_and, decide_eq_decide]
    constructor
    · intro e
      have e : v = [] := e
      rw [e]
    · intro e
      have e2 := congrArg List.length e
      rw [srt_len, srt_len] at e2
      exact (List.length_eq_zero_iff.mp e2.symm : v = [])
  cases T
  repeat' ac_rfl
  all_goals (try (conv => whnf))
  exact seg_12 T0 F q
theorem seg_9 {K : PySem.W.Frag} {mg : Str → Option Value} (T : Tx K mg) {p q3 x1 y1 x2 y2 x3 y3 : Addr} {ob : Obj} {ns : List Int} {l v m u : List Nat} {H : Hp} {Q : VK} {W : WX} {v1 v8 v9 v10 v11 v12 : Option V}
    (F : F7 K p q3 x1 y1 x2 y2 x3 y3 ob ns l v m u H) (q : ∀ H', Q (.bl true) H') :
    t_law_9 K W (EndD Q) (sg p v1 l v q3 x1 x2 x3 v8 v9 v10 v11 v12) H := by
  unfold t_law_9
  have T0 := T
  obtain ⟨c1, c2, c3, c4⟩ := badL_inv F.f.g.1
  have c5 := good_v F.f.g
  obtain ⟨d1, d2, d3, d4⟩ := badL_inv F.f.g2.1
  have d5 := good_v F.f.g2
  have ht := F.f.t
  have vAZ : ∀ c ∈ v, c ∈ AZ := fun c hc => c4 c ((badV_inv F.f.g.2).2 c hc)
  have uAZ : ∀ c ∈ u, c ∈ AZ := fun c hc => d4 c ((badV_inv F.f.g2.2).2 c hc)
  cases T
  repeat' ac_rfl
  all_goals (try (conv => whnf))
  · have xe : srt l = srt m := by assumption
    refine seg_10 T0 (F.kp ?_) ?_ q
    · nofun
    · rw [decide_eq_true xe, Bool.true_and]
  · rename_i xe
    have xe : ¬ srt l = srt m := xe
    refine seg_10 T0 (F.kp ?_) ?_ q
    · nofun
    · rw [decide_eq_false xe, Bool.false_and]
theorem seg_7 {K : PySem.W.Frag} {mg : Str → Option Value} (T : Tx K mg) {p q3 x1 y1 x2 y2 x3 y3 : Addr} {ob : Obj} {ns : List Int} {l v m u : List Nat} {H : Hp} {Q : VK} {W : WX} {v1 v8 v9 v10 v11 v12 : Option V}
    (F : F7 K p q3 x1 y1 x2 y2 x3 y3 ob ns l v m u H) (q : ∀ H', Q (.bl true) H') :
    t_law_7 K W (EndD Q) (sg p v1 l v q3 x1 x2 x3 v8 v9 v10 v11 v12) H := by
  unfold t_law_7
  have T0 := T
  obtain ⟨c1, c2, c3, c4⟩ := badL_inv F.f.g.1
  have c5 := good_v F.f.g
  obtain ⟨d1, d2, d3, d4⟩ := badL_inv F.f.g2.1
  have d5 := good_v F.f.g2
  have ht := F.f.t
  have A1 := F.a1
  have A2 := F.a2
  have A3 := F.a3
  cases T
  repeat' ac_rfl
  all_goals (try (conv => whnf))
  refine seg_9 T0 (F.kp ?_) q
  nofun
theorem seg_4 {K : PySem.W.Frag} {mg : Str → Option Value} (T : Tx K mg) {p q3 : Addr} {ob : Obj} {ns : List Int} {l v m u : List Nat} {H : Hp} {Q : VK} {W : WX} {v1 v5 v6 v7 v8 v9 v10 v11 v12 : Option V}
    (F : F4 p q3 ob ns l v m u H) (q : ∀ H', Q (.bl true) H') :
    t_law_4 K W (EndD Q) [some (.ref p), v1, some (.str (S l)), some (.str (S v)), some (.ref q3), v5, v6, v7, v8, v9, v10, v11, v12] H := by
  unfold t_law_4
  have T0 := T
  obtain ⟨c1, c2, c3, c4⟩ := badL_inv F.g.1
  have c5 := good_v F.g
  obtain ⟨d1, d2, d3, d4⟩ := badL_inv F.g2.1
  have d5 := good_v F.g2
  have ht := F.t
  cases T
  repeat' ac_rfl
  all_goals (try (conv => whnf))
  rename_i x1 y1 hx1 hy1 hxy1
  refine g_Alphabet_init upd_at (by omega) (by omega) F.g.1 F.g.2 ?_
  intro H2 hk2 hA1
  have k2 : Kp [] H H2 := Kp.made hx1 hy1 hk2
  clear hk2
  refine ⟨rfl, ?_⟩
  repeat' ac_rfl
  all_goals (try (conv => whnf))
  rename_i x2 y2 hx2 hy2 hxy2
  refine g_Alphabet_init upd_at (by omega) (by omega) F.g2.1 F.g2.2 ?_
  intro H3 hk3 hA2
  have k3 : Kp [] H2 H3 := Kp.made hx2 hy2 hk3
  clear hk3
  refine ⟨rfl, ?_⟩
  repeat' ac_rfl
  all_goals (try (conv => whnf))
  rename_i x3 y3 hx3 hy3 hxy3
  have hgb : good l [] := ⟨F.g.1, badV_ok .nil fun _ z => (nomatch z)⟩
  refine g_Alphabet_init (v := []) upd_at (by omega) (by decide) hgb.1 hgb.2 ?_
  intro H4 hk4 hA3
  have k4 : Kp [] H3 H4 := Kp.made hx3 hy3 hk4
  clear hk4
  refine ⟨rfl, ?_⟩
  exact seg_7 T0 (v1 := v1) ⟨((F.kp k2).kp k3).kp k4, k4.get0 (k3.get0 hA1), k4.get0 hA2, hA3⟩ q

theorem rd_law {K : PySem.W.Frag} {mg : Str → Option Value} (T : Tx K mg) : ∀ vs H Q E, sp_law K vs H Q E → t_law K (WD E) (EndD Q) (start ["_law_script", "_law_box_here", "_law_letters", "_law_vowels", "_law_other", "_law_one", "_law_two", "_law_bare", "_law_equal", "_law_k", "_law_odd", "_law_strange", "_law_due_here"] vs) H := by
  intro vs H Q E h
  unfold sp_law at h
  obtain ⟨p, ob, ns, rfl, hp, hn, q⟩ := h
  have T0 := T
  cases T
  conv => whnf
  refine i_l_box hp (by omega) hn ?_
  intro q1 a b hq1
  have n1 : p ≠ q1 := ne_none hp hq1
  repeat' ac_rfl
  all_goals (try (conv => whnf))
  rename_i k3 a3 b3 z1 z2 l r2 a2 b2 hl1 hl2 k1 a1 b1 z3 z4 v r0 a0 b0 hv1 hv2 q2 a4 b4 hq2
  have hL : badL l = false := good_new (by omega) (by omega) hl2
  have hg : good l v := good_sub hL hv2
  have n2 : p ≠ q2 := by
    refine ne_none (o := scr ob ns) ?_ hq2
    contradiction
  refine i_l_second upd_at hg ?_
  intro q3 m u H1 hg2 hk hq3
  have hp1 : H1 p = some (scr ob ns) := by
    refine hk.get1 ?_ n2
    contradiction
  exact seg_4 T0 ⟨hp1, hn, hg, hq3, hg2⟩ q

theorem law_in {K : PySem.W.Frag} {H : Hp} {a : Addr} {oj : Obj} {ns : List Int} {E : XK} (h : H a = some (.frz oj (.lst (ns.map V.int)))) (hl : ns.length ≤ 63) : sp_law K [.ref a] H (fun v _ => v = .bl true) E := by
  unfold sp_law
  exact ⟨a, oj, ns, rfl, h, by omega, fun _ => rfl⟩

end Lw

set_option Elab.async false
set_option linter.all false
set_option maxRecDepth 100000
set_option maxHeartbeats 4000000
namespace Lw
open PySem PySem.Spec PyProof.Rows L2 Ta
abbrev PP : Program := PySem.Challenge.rw_talepost_k00_alphabets.prog
abbrev R : PySem.W.OpenRow := PySem.W.OpenLaw.row PySem.Challenge.rw_talepost_k00_alphabets
def fa : List BF := [bFree "ValueError", bFree "abs", bFree "bool", bFree "int", bFree "isinstance", bFree "len", bFree "range", bFree "set", bFree "sorted", bFree "str", bGlo "Alphabet", bGlo "BadAlphabet", bGlo "BadSet", bGlo "BadText", bVal "SMALL" (.str (S [97, 98, 99, 100, 101, 102, 103, 104, 105, 106, 107, 108, 109, 110, 111, 112, 113, 114, 115, 116, 117, 118, 119, 120, 121, 122])), bGlo "TaleError", bCC "Alphabet" "JOINT" (.str (S [45])), bCC "Alphabet" "MOST" (.int 4), bCls "Alphabet", bIsc "Alphabet", bNo "Alphabet" "letters", bNo "Alphabet" "vowels", bNo "Alphabet" "consonants", bNo "Alphabet" "signs", bKit "Alphabet" "Alphabet" true, bXc "BadAlphabet", bNo "BadAlphabet" "part", bExm "BadAlphabet" "TaleError" true, bKit "BadAlphabet" "BadAlphabet" true, bKitT "BadAlphabet" "ValueError" true, bKitA "BadAlphabet" ["BadText", "BadSet"] false, bCon "Alphabet" "JOINT" (.str (S [45])), bCon "Alphabet" "MOST" (.int 4), bOex "BadAlphabet", bSup "BadAlphabet" "BadAlphabet", bFree "super", bGlo "all_different", bMk "Alphabet", bMe "Alphabet" "__eq__", bGlo "_law_box", bGlo "_law_take", bGlo "_law_pick", bGlo "_law_char", bGlo "_law_second", bGlo "_law_bent", bGlo "_law_due", bGlo "_law_refused", bGlo "_law_shows", bGlo "_law_alike", bNoL, bGlo "law"]
def dd_all_different : He.DefD := ⟨("all_different", none), "all_different", "all_different", defArgs s_all_different, defBody s_all_different, defScope s_all_different, [], []⟩
def dd_Alphabet_init : He.DefD := ⟨("Alphabet", some "__init__"), "__init__", "Alphabet.__init__", defArgs s_Alphabet_init, defBody s_Alphabet_init, defScope s_Alphabet_init, [.str (S [])], []⟩
def dd_Alphabet_eq : He.DefD := ⟨("Alphabet", some "__eq__"), "__eq__", "Alphabet.__eq__", defArgs s_Alphabet_eq, defBody s_Alphabet_eq, defScope s_Alphabet_eq, [], []⟩
def dd_l_box : He.DefD := ⟨("_law_box", none), "_law_box", "_law_box", defArgs s_l_box, defBody s_l_box, defScope s_l_box, [], []⟩
def dd_l_take : He.DefD := ⟨("_law_take", none), "_law_take", "_law_take", defArgs s_l_take, defBody s_l_take, defScope s_l_take, [], []⟩
def dd_l_pick : He.DefD := ⟨("_law_pick", none), "_law_pick", "_law_pick", defArgs s_l_pick, defBody s_l_pick, defScope s_l_pick, [], []⟩
def dd_l_char : He.DefD := ⟨("_law_char", none), "_law_char", "_law_char", defArgs s_l_char, defBody s_l_char, defScope s_l_char, [], []⟩
def dd_l_second : He.DefD := ⟨("_law_second", none), "_law_second", "_law_second", defArgs s_l_second, defBody s_l_second, defScope s_l_second, [], []⟩
def dd_l_bent : He.DefD := ⟨("_law_bent", none), "_law_bent", "_law_bent", defArgs s_l_bent, defBody s_l_bent, defScope s_l_bent, [], []⟩
def dd_l_due : He.DefD := ⟨("_law_due", none), "_law_due", "_law_due", defArgs s_l_due, defBody s_l_due, defScope s_l_due, [], []⟩
def dd_l_refused : He.DefD := ⟨("_law_refused", none), "_law_refused", "_law_refused", defArgs s_l_refused, defBody s_l_refused, defScope s_l_refused, [], []⟩
def dd_l_shows : He.DefD := ⟨("_law_shows", none), "_law_shows", "_law_shows", defArgs s_l_shows, defBody s_l_shows, defScope s_l_shows, [], []⟩
def dd_l_alike : He.DefD := ⟨("_law_alike", none), "_law_alike", "_law_alike", defArgs s_l_alike, defBody s_l_alike, defScope s_l_alike, [], []⟩
def dd_law : He.DefD := ⟨("law", none), "law", "law", defArgs s_law, defBody s_law, defScope s_law, [], []⟩
def sd_BadAlphabet : SupD := ⟨"BadAlphabet", "__init__", "BadAlphabet.__init__", defArgs (inClass (top 3) 0), defBody (inClass (top 3) 0), defScope (inClass (top 3) 0)⟩
def fn : List He.DefD := [dd_all_different, dd_Alphabet_init, dd_Alphabet_eq, dd_l_box, dd_l_take, dd_l_pick, dd_l_char, dd_l_second, dd_l_bent, dd_l_due, dd_l_refused, dd_l_shows, dd_l_alike, dd_law]
def sn : List SupD := [sd_BadAlphabet]
def loose : List Str := (["_wall", "TaleError", "BadAlphabet", "BadText", "BadSet", "SMALL", "all_different", "Alphabet", "_law_box", "_law_take", "_law_pick", "_law_char", "_law_second", "_law_bent", "_law_due", "_law_refused", "_law_shows", "_law_alike"] : List Str)
abbrev hk : PySem.W.Hook := hookX 5 PP.main.file fa fn sn
def ob (s : PySem.W.SharedT) : AlX := obsXG 5 PP.main.file fa fn sn (HandSHeadRun.getT s)
theorem ob_eq (s : PySem.W.SharedT) : ob s = hk.obs s.abs := obsXG_eq (HandSHeadRun.getT_eq s)
theorem run (w : World) : HandSHeadRun.RunEq R (PySem.W.view R.prog [21]) hk ob 3000 loose w := by
  intro os
  kernel_rfl
theorem ex_BadAlphabet {w : World} {K : PySem.W.Frag} {mg : Str → Option Value} {base h : Heap} (X : K.In h) (G : h.Ns mainGlobals mg) (c : SaysX PP.main.file fa fn sn K) : Ex PP w K mg base "BadAlphabet" (He.ga K "BadAlphabet") ["part"] := by
  obtain ⟨F, fd, e1, e2, e3, e4, e5, SF⟩ := c.sup (P := PP) 0 (by decide +kernel) (d := sd_BadAlphabet) rfl
  obtain ⟨n1, n2, n3, n4, n5, n6, n7⟩ := F
  dsimp only at e1 e2 e3 e4 e5
  subst e1 e2 e3 e4 e5
  have S := sup_of (c.fact 33) (c.fact 34)
  refine ⟨⟨_, fd, ["self", "part"], ok_exc1 (hbd := by rfl) SF S.1 (show NdefX.NScope ["self", "part", "__class__"] ["self", "part"] ["__class__"] sd_BadAlphabet.scope from NdefX.nscope_by (by decide +kernel)) (free_of X G (c.fact 35)) (by rfl) (show sd_BadAlphabet.scope.names.lookup ("super" : Str) = some .globalImplicit by decide +kernel) (no_of' (c.fact 26)) (by decide +kernel) (by decide +kernel) (fun env => ⟨_, rfl⟩), S.2.1, S.2.2, ?_, glo_of X G (c.fact 11)⟩, oex_of (c.fact 33)⟩
  obtain ⟨cc, oc, od, an, dV, kV, doc, pm, ct, osl, hcl, rfl, lk, hD, _⟩ := SF.ex
  rcases hD with ⟨_, rfl⟩ | ⟨e, _⟩
  · exact .all fun us hl => match us, hl with | [_, _], _ => rfl
  · exact absurd rfl e
theorem len_all_different {K : PySem.W.Frag} : ∀ vs H Q E, sp_all_different K vs H Q E → vs.length = 1 := by
  intro vs H Q E h
  unfold sp_all_different at h
  repeat (obtain ⟨_, h⟩ := h; try subst_vars)
  all_goals rfl
theorem len_Alphabet_init {K : PySem.W.Frag} : ∀ vs H Q E, sp_Alphabet_init K vs H Q E → vs.length = 3 := by
  intro vs H Q E h
  unfold sp_Alphabet_init at h
  repeat (obtain ⟨_, h⟩ := h; try subst_vars)
  all_goals rfl
theorem len_Alphabet_eq {K : PySem.W.Frag} : ∀ vs H Q E, sp_Alphabet_eq K vs H Q E → vs.length = 2 := by
  intro vs H Q E h
  unfold sp_Alphabet_eq at h
  repeat (obtain ⟨_, h⟩ := h; try subst_vars)
  all_goals rfl
theorem len_l_box {K : PySem.W.Frag} : ∀ vs H Q E, sp_l_box K vs H Q E → vs.length = 2 := by
  intro vs H Q E h
  unfold sp_l_box at h
  repeat (obtain ⟨_, h⟩ := h; try subst_vars)
  all_goals rfl
theorem len_l_take {K : PySem.W.Frag} : ∀ vs H Q E, sp_l_take K vs H Q E → vs.length = 2 := by
  intro vs H Q E h
  unfold sp_l_take at h
  repeat (obtain ⟨_, h⟩ := h; try subst_vars)
  all_goals rfl
theorem len_l_pick {K : PySem.W.Frag} : ∀ vs H Q E, sp_l_pick K vs H Q E → vs.length = 3 := by
  intro vs H Q E h
  unfold sp_l_pick at h
  repeat (obtain ⟨_, h⟩ := h; try subst_vars)
  all_goals rfl
theorem len_l_char {K : PySem.W.Frag} : ∀ vs H Q E, sp_l_char K vs H Q E → vs.length = 1 := by
  intro vs H Q E h
  unfold sp_l_char at h
  repeat (obtain ⟨_, h⟩ := h; try subst_vars)
  all_goals rfl
theorem len_l_second {K : PySem.W.Frag} : ∀ vs H Q E, sp_l_second K vs H Q E → vs.length = 3 := by
  intro vs H Q E h
  unfold sp_l_second at h
  repeat (obtain ⟨_, h⟩ := h; try subst_vars)
  all_goals rfl
theorem len_l_bent {K : PySem.W.Frag} : ∀ vs H Q E, sp_l_bent K vs H Q E → vs.length = 2 := by
  intro vs H Q E h
  unfold sp_l_bent at h
  repeat (obtain ⟨_, h⟩ := h; try subst_vars)
  all_goals rfl
theorem len_l_due {K : PySem.W.Frag} : ∀ vs H Q E, sp_l_due K vs H Q E → vs.length = 2 := by
  intro vs H Q E h
  unfold sp_l_due at h
  repeat (obtain ⟨_, h⟩ := h; try subst_vars)
  all_goals rfl
theorem len_l_refused {K : PySem.W.Frag} : ∀ vs H Q E, sp_l_refused K vs H Q E → vs.length = 2 := by
  intro vs H Q E h
  unfold sp_l_refused at h
  repeat (obtain ⟨_, h⟩ := h; try subst_vars)
  all_goals rfl
theorem len_l_shows {K : PySem.W.Frag} : ∀ vs H Q E, sp_l_shows K vs H Q E → vs.length = 3 := by
  intro vs H Q E h
  unfold sp_l_shows at h
  repeat (obtain ⟨_, h⟩ := h; try subst_vars)
  all_goals rfl
theorem len_l_alike {K : PySem.W.Frag} : ∀ vs H Q E, sp_l_alike K vs H Q E → vs.length = 3 := by
  intro vs H Q E h
  unfold sp_l_alike at h
  repeat (obtain ⟨_, h⟩ := h; try subst_vars)
  all_goals rfl
theorem len_law {K : PySem.W.Frag} : ∀ vs H Q E, sp_law K vs H Q E → vs.length = 1 := by
  intro vs H Q E h
  unfold sp_law at h
  repeat (obtain ⟨_, h⟩ := h; try subst_vars)
  all_goals rfl
theorem all_ok {w : World} {K : PySem.W.Frag} {mg : Str → Option Value} {h : Heap} (X : K.In h) (G : h.Ns mainGlobals mg) (c : SaysX PP.main.file fa fn sn K) :
    ∃ fd : FuncData, (∀ (s : Shared) (v : Value), BindsTo s fd ⟨[v], []⟩ [("_law_script", v)]) ∧ ∀ base : Heap, K.In base → base.Ns mainGlobals mg → FnOk PP w K mg base (L2.CX PP w) 11 (He.ga K "law") fd ["_law_script"] (sp_law K) := by
  have T : Tx K mg := ⟨free_of X G (c.fact 0), free_of X G (c.fact 1), free_of X G (c.fact 2), free_of X G (c.fact 3), free_of X G (c.fact 4), free_of X G (c.fact 5), free_of X G (c.fact 6), free_of X G (c.fact 7), free_of X G (c.fact 8), free_of X G (c.fact 9), gv_of X G (c.fact 10), gv_of X G (c.fact 11), gv_of X G (c.fact 12), gv_of X G (c.fact 13), val_of X G (c.fact 14), gv_of X G (c.fact 15), cc_of X G (c.fact 16), cc_of X G (c.fact 17), cls_of (c.fact 18), isc_of (c.fact 19), no_of (c.fact 20), no_of (c.fact 21), no_of (c.fact 22), no_of (c.fact 23), kit_of (c.fact 24), xc_of (c.fact 25), no_of' (c.fact 26), exm_of (c.fact 27), kit_of (c.fact 28), kitT_of (c.fact 29), kitA_of (c.fact 30), con_of (c.fact 31), con_of (c.fact 32)⟩
  obtain ⟨fd_all_different, F_all_different⟩ := c.def_ 0 (d := dd_all_different) rfl
  obtain ⟨fd_Alphabet_init, F_Alphabet_init⟩ := c.def_ 1 (d := dd_Alphabet_init) rfl
  obtain ⟨fd_Alphabet_eq, F_Alphabet_eq⟩ := c.def_ 2 (d := dd_Alphabet_eq) rfl
  obtain ⟨fd_l_box, F_l_box⟩ := c.def_ 3 (d := dd_l_box) rfl
  obtain ⟨fd_l_take, F_l_take⟩ := c.def_ 4 (d := dd_l_take) rfl
  obtain ⟨fd_l_pick, F_l_pick⟩ := c.def_ 5 (d := dd_l_pick) rfl
  obtain ⟨fd_l_char, F_l_char⟩ := c.def_ 6 (d := dd_l_char) rfl
  obtain ⟨fd_l_second, F_l_second⟩ := c.def_ 7 (d := dd_l_second) rfl
  obtain ⟨fd_l_bent, F_l_bent⟩ := c.def_ 8 (d := dd_l_bent) rfl
  obtain ⟨fd_l_due, F_l_due⟩ := c.def_ 9 (d := dd_l_due) rfl
  obtain ⟨fd_l_refused, F_l_refused⟩ := c.def_ 10 (d := dd_l_refused) rfl
  obtain ⟨fd_l_shows, F_l_shows⟩ := c.def_ 11 (d := dd_l_shows) rfl
  obtain ⟨fd_l_alike, F_l_alike⟩ := c.def_ 12 (d := dd_l_alike) rfl
  obtain ⟨fd_law, F_law⟩ := c.def_ 13 (d := dd_law) rfl
  refine ⟨fd_law, fun s v => FunD.bindsA (ps := ["_law_script"]) F_law (fun _ _ _ _ _ _ us hl => match us, hl with | [_], _ => rfl) s [v] rfl, fun base _ _ => ?_⟩
  have X_BadAlphabet : Ex PP w K mg base "BadAlphabet" (He.ga K "BadAlphabet") ["part"] := ex_BadAlphabet X G c
  have O_all_different : FnOk PP w K mg base (L2.CX PP w) 5 (He.fAd K ("all_different", none)) fd_all_different ["string"] (sp_all_different K) := def_ok F_all_different sc_all_different len_all_different (t_all_different K) (fun cdv A outer s H E hr => tm_all_different T  hr) (rd_all_different T)
  have B_all_different : ∃ ds, Vals ([] : List V) ds ∧ Binds K fd_all_different ["string"] ds := ⟨[], .nil, F_all_different.bindsN (ps := ["string"]) fun _ _ _ _ _ _ us hl => match us, hl with | [_], _ => rfl⟩
  obtain ⟨ds_all_different, v_all_different, b_all_different⟩ := B_all_different
  have G_all_different : Fn PP w K mg base "all_different" 5 [] (sp_all_different K) := ⟨⟨_, fd_all_different, ["string"], ds_all_different, O_all_different, glo_of X G (c.fact 36), F_all_different.kp, v_all_different, b_all_different⟩⟩
  have O_Alphabet_init : FnOk PP w K mg base (L2.CX PP w) 7 (He.fAd K ("Alphabet", some "__init__")) fd_Alphabet_init ["self", "letters", "vowels"] (sp_Alphabet_init K) := def_ok F_Alphabet_init sc_Alphabet_init len_Alphabet_init (t_Alphabet_init K) (fun cdv A outer s H E hr => tm_Alphabet_init T G_all_different X_BadAlphabet hr) (rd_Alphabet_init T)
  have B_Alphabet : ∃ ds, Vals ([] : List V) ds ∧ Binds K fd_Alphabet_init ["self", "letters", "vowels"] ds := F_Alphabet_init.binds1 (ps := ["self", "letters", "vowels"]) 3 1 (List.cons_ne_nil _ _) rfl (fun _ _ _ _ _ _ _ us its h1 h2 => match us, its, h1, h2 with | [_, _, _], [_], _, _ => ⟨_, rfl, rfl⟩)
  obtain ⟨ds_Alphabet, v_Alphabet, b_Alphabet⟩ := B_Alphabet
  have G_Alphabet : Mks PP w K mg base "Alphabet" (He.ga K "Alphabet") 7 [] (sp_Alphabet_init K) := ⟨⟨_, fd_Alphabet_init, ["self", "letters", "vowels"], ds_Alphabet, O_Alphabet_init, mk_of (c.fact 37), glo_of X G (c.fact 10), v_Alphabet, b_Alphabet⟩⟩
  have B_Alphabet_1 : ∃ ds, Vals ([.str (S [])] : List V) ds ∧ Binds K fd_Alphabet_init ["self", "letters", "vowels"] ds := F_Alphabet_init.binds1 (ps := ["self", "letters", "vowels"]) 2 0 (List.cons_ne_nil _ _) rfl (fun _ _ _ _ _ _ _ us its h1 h2 => match us, its, h1, h2 with | [_, _], [_], _, _ => ⟨_, rfl, rfl⟩)
  obtain ⟨ds_Alphabet_1, v_Alphabet_1, b_Alphabet_1⟩ := B_Alphabet_1
  have G_Alphabet_1 : Mks PP w K mg base "Alphabet" (He.ga K "Alphabet") 7 [.str (S [])] (sp_Alphabet_init K) := ⟨⟨_, fd_Alphabet_init, ["self", "letters", "vowels"], ds_Alphabet_1, O_Alphabet_init, mk_of (c.fact 37), glo_of X G (c.fact 10), v_Alphabet_1, b_Alphabet_1⟩⟩
  have O_Alphabet_eq : FnOk PP w K mg base (L2.CX PP w) 5 (He.fAd K ("Alphabet", some "__eq__")) fd_Alphabet_eq ["self", "other"] (sp_Alphabet_eq K) := def_ok F_Alphabet_eq sc_Alphabet_eq len_Alphabet_eq (t_Alphabet_eq K) (fun cdv A outer s H E hr => tm_Alphabet_eq T  hr) (rd_Alphabet_eq T)
  have B_Alphabet___eq__ : ∃ ds, Vals ([] : List V) ds ∧ Binds K fd_Alphabet_eq ["self", "other"] ds := ⟨[], .nil, F_Alphabet_eq.bindsN (ps := ["self", "other"]) fun _ _ _ _ _ _ us hl => match us, hl with | [_, _], _ => rfl⟩
  obtain ⟨ds_Alphabet___eq__, v_Alphabet___eq__, b_Alphabet___eq__⟩ := B_Alphabet___eq__
  have G_Alphabet___eq__ : Me PP w K mg base (He.ga K "Alphabet") "__eq__" 5 [] (sp_Alphabet_eq K) := ⟨⟨_, fd_Alphabet_eq, ["self", "other"], ds_Alphabet___eq__, O_Alphabet_eq, me_of (c.fact 38), v_Alphabet___eq__, b_Alphabet___eq__⟩, cls_of (c.fact 18)⟩
  have O_l_box : FnOk PP w K mg base (L2.CX PP w) 5 (He.fAd K ("_law_box", none)) fd_l_box ["_law_script", "_law_k"] (sp_l_box K) := def_ok F_l_box sc_l_box len_l_box (t_l_box K) (fun cdv A outer s H E hr => tm_l_box T  hr) (rd_l_box T)
  have B_l_box : ∃ ds, Vals ([] : List V) ds ∧ Binds K fd_l_box ["_law_script", "_law_k"] ds := ⟨[], .nil, F_l_box.bindsN (ps := ["_law_script", "_law_k"]) fun _ _ _ _ _ _ us hl => match us, hl with | [_, _], _ => rfl⟩
  obtain ⟨ds_l_box, v_l_box, b_l_box⟩ := B_l_box
  have G_l_box : Fn PP w K mg base "_law_box" 5 [] (sp_l_box K) := ⟨⟨_, fd_l_box, ["_law_script", "_law_k"], ds_l_box, O_l_box, glo_of X G (c.fact 39), F_l_box.kp, v_l_box, b_l_box⟩⟩
  have O_l_take : FnOk PP w K mg base (L2.CX PP w) 5 (He.fAd K ("_law_take", none)) fd_l_take ["_law_box_here", "_law_size"] (sp_l_take K) := def_ok F_l_take sc_l_take len_l_take (t_l_take K) (fun cdv A outer s H E hr => tm_l_take T  hr) (rd_l_take T)
  have B_l_take : ∃ ds, Vals ([] : List V) ds ∧ Binds K fd_l_take ["_law_box_here", "_law_size"] ds := ⟨[], .nil, F_l_take.bindsN (ps := ["_law_box_here", "_law_size"]) fun _ _ _ _ _ _ us hl => match us, hl with | [_, _], _ => rfl⟩
  obtain ⟨ds_l_take, v_l_take, b_l_take⟩ := B_l_take
  have G_l_take : Fn PP w K mg base "_law_take" 5 [] (sp_l_take K) := ⟨⟨_, fd_l_take, ["_law_box_here", "_law_size"], ds_l_take, O_l_take, glo_of X G (c.fact 40), F_l_take.kp, v_l_take, b_l_take⟩⟩
  have O_l_pick : FnOk PP w K mg base (L2.CX PP w) 7 (He.fAd K ("_law_pick", none)) fd_l_pick ["_law_box_here", "_law_string", "_law_many"] (sp_l_pick K) := def_ok F_l_pick sc_l_pick len_l_pick (t_l_pick K) (fun cdv A outer s H E hr => tm_l_pick T G_l_take hr) (rd_l_pick T)
  have B_l_pick : ∃ ds, Vals ([] : List V) ds ∧ Binds K fd_l_pick ["_law_box_here", "_law_string", "_law_many"] ds := ⟨[], .nil, F_l_pick.bindsN (ps := ["_law_box_here", "_law_string", "_law_many"]) fun _ _ _ _ _ _ us hl => match us, hl with | [_, _, _], _ => rfl⟩
  obtain ⟨ds_l_pick, v_l_pick, b_l_pick⟩ := B_l_pick
  have G_l_pick : Fn PP w K mg base "_law_pick" 7 [] (sp_l_pick K) := ⟨⟨_, fd_l_pick, ["_law_box_here", "_law_string", "_law_many"], ds_l_pick, O_l_pick, glo_of X G (c.fact 41), F_l_pick.kp, v_l_pick, b_l_pick⟩⟩
  have O_l_char : FnOk PP w K mg base (L2.CX PP w) 7 (He.fAd K ("_law_char", none)) fd_l_char ["_law_box_here"] (sp_l_char K) := def_ok F_l_char sc_l_char len_l_char (t_l_char K) (fun cdv A outer s H E hr => tm_l_char T G_l_take hr) (rd_l_char T)
  have B_l_char : ∃ ds, Vals ([] : List V) ds ∧ Binds K fd_l_char ["_law_box_here"] ds := ⟨[], .nil, F_l_char.bindsN (ps := ["_law_box_here"]) fun _ _ _ _ _ _ us hl => match us, hl with | [_], _ => rfl⟩
  obtain ⟨ds_l_char, v_l_char, b_l_char⟩ := B_l_char
  have G_l_char : Fn PP w K mg base "_law_char" 7 [] (sp_l_char K) := ⟨⟨_, fd_l_char, ["_law_box_here"], ds_l_char, O_l_char, glo_of X G (c.fact 42), F_l_char.kp, v_l_char, b_l_char⟩⟩
  have O_l_second : FnOk PP w K mg base (L2.CX PP w) 9 (He.fAd K ("_law_second", none)) fd_l_second ["_law_box_here", "_law_letters", "_law_vowels"] (sp_l_second K) := def_ok F_l_second sc_l_second len_l_second (t_l_second K) (fun cdv A outer s H E hr => tm_l_second T G_l_pick G_l_take hr) (rd_l_second T)
  have B_l_second : ∃ ds, Vals ([] : List V) ds ∧ Binds K fd_l_second ["_law_box_here", "_law_letters", "_law_vowels"] ds := ⟨[], .nil, F_l_second.bindsN (ps := ["_law_box_here", "_law_letters", "_law_vowels"]) fun _ _ _ _ _ _ us hl => match us, hl with | [_, _, _], _ => rfl⟩
  obtain ⟨ds_l_second, v_l_second, b_l_second⟩ := B_l_second
  have G_l_second : Fn PP w K mg base "_law_second" 9 [] (sp_l_second K) := ⟨⟨_, fd_l_second, ["_law_box_here", "_law_letters", "_law_vowels"], ds_l_second, O_l_second, glo_of X G (c.fact 43), F_l_second.kp, v_l_second, b_l_second⟩⟩
  have O_l_bent : FnOk PP w K mg base (L2.CX PP w) 9 (He.fAd K ("_law_bent", none)) fd_l_bent ["_law_box_here", "_law_string"] (sp_l_bent K) := def_ok F_l_bent sc_l_bent len_l_bent (t_l_bent K) (fun cdv A outer s H E hr => tm_l_bent T G_l_char G_l_take hr) (rd_l_bent T)
  have B_l_bent : ∃ ds, Vals ([] : List V) ds ∧ Binds K fd_l_bent ["_law_box_here", "_law_string"] ds := ⟨[], .nil, F_l_bent.bindsN (ps := ["_law_box_here", "_law_string"]) fun _ _ _ _ _ _ us hl => match us, hl with | [_, _], _ => rfl⟩
  obtain ⟨ds_l_bent, v_l_bent, b_l_bent⟩ := B_l_bent
  have G_l_bent : Fn PP w K mg base "_law_bent" 9 [] (sp_l_bent K) := ⟨⟨_, fd_l_bent, ["_law_box_here", "_law_string"], ds_l_bent, O_l_bent, glo_of X G (c.fact 44), F_l_bent.kp, v_l_bent, b_l_bent⟩⟩
  have O_l_due : FnOk PP w K mg base (L2.CX PP w) 5 (He.fAd K ("_law_due", none)) fd_l_due ["_law_letters", "_law_vowels"] (sp_l_due K) := def_ok F_l_due sc_l_due len_l_due (t_l_due K) (fun cdv A outer s H E hr => tm_l_due T  hr) (rd_l_due T)
  have B_l_due : ∃ ds, Vals ([] : List V) ds ∧ Binds K fd_l_due ["_law_letters", "_law_vowels"] ds := ⟨[], .nil, F_l_due.bindsN (ps := ["_law_letters", "_law_vowels"]) fun _ _ _ _ _ _ us hl => match us, hl with | [_, _], _ => rfl⟩
  obtain ⟨ds_l_due, v_l_due, b_l_due⟩ := B_l_due
  have G_l_due : Fn PP w K mg base "_law_due" 5 [] (sp_l_due K) := ⟨⟨_, fd_l_due, ["_law_letters", "_law_vowels"], ds_l_due, O_l_due, glo_of X G (c.fact 45), F_l_due.kp, v_l_due, b_l_due⟩⟩
  have O_l_refused : FnOk PP w K mg base (L2.CX PP w) 9 (He.fAd K ("_law_refused", none)) fd_l_refused ["_law_letters", "_law_vowels"] (sp_l_refused K) := def_ok F_l_refused sc_l_refused len_l_refused (t_l_refused K) (fun cdv A outer s H E hr => tm_l_refused T G_Alphabet hr) (rd_l_refused T)
  have B_l_refused : ∃ ds, Vals ([] : List V) ds ∧ Binds K fd_l_refused ["_law_letters", "_law_vowels"] ds := ⟨[], .nil, F_l_refused.bindsN (ps := ["_law_letters", "_law_vowels"]) fun _ _ _ _ _ _ us hl => match us, hl with | [_, _], _ => rfl⟩
  obtain ⟨ds_l_refused, v_l_refused, b_l_refused⟩ := B_l_refused
  have G_l_refused : Fn PP w K mg base "_law_refused" 9 [] (sp_l_refused K) := ⟨⟨_, fd_l_refused, ["_law_letters", "_law_vowels"], ds_l_refused, O_l_refused, glo_of X G (c.fact 46), F_l_refused.kp, v_l_refused, b_l_refused⟩⟩
  have O_l_shows : FnOk PP w K mg base (L2.CX PP w) 5 (He.fAd K ("_law_shows", none)) fd_l_shows ["_law_alphabet", "_law_letters", "_law_vowels"] (sp_l_shows K) := def_ok F_l_shows sc_l_shows len_l_shows (t_l_shows K) (fun cdv A outer s H E hr => tm_l_shows T  hr) (rd_l_shows T)
  have B_l_shows : ∃ ds, Vals ([] : List V) ds ∧ Binds K fd_l_shows ["_law_alphabet", "_law_letters", "_law_vowels"] ds := ⟨[], .nil, F_l_shows.bindsN (ps := ["_law_alphabet", "_law_letters", "_law_vowels"]) fun _ _ _ _ _ _ us hl => match us, hl with | [_, _, _], _ => rfl⟩
  obtain ⟨ds_l_shows, v_l_shows, b_l_shows⟩ := B_l_shows
  have G_l_shows : Fn PP w K mg base "_law_shows" 5 [] (sp_l_shows K) := ⟨⟨_, fd_l_shows, ["_law_alphabet", "_law_letters", "_law_vowels"], ds_l_shows, O_l_shows, glo_of X G (c.fact 47), F_l_shows.kp, v_l_shows, b_l_shows⟩⟩
  have O_l_alike : FnOk PP w K mg base (L2.CX PP w) 7 (He.fAd K ("_law_alike", none)) fd_l_alike ["_law_one", "_law_two", "_law_due_here"] (sp_l_alike K) := def_ok F_l_alike sc_l_alike len_l_alike (t_l_alike K) (fun cdv A outer s H E hr => tm_l_alike T G_Alphabet___eq__ hr) (rd_l_alike T)
  have B_l_alike : ∃ ds, Vals ([] : List V) ds ∧ Binds K fd_l_alike ["_law_one", "_law_two", "_law_due_here"] ds := ⟨[], .nil, F_l_alike.bindsN (ps := ["_law_one", "_law_two", "_law_due_here"]) fun _ _ _ _ _ _ us hl => match us, hl with | [_, _, _], _ => rfl⟩
  obtain ⟨ds_l_alike, v_l_alike, b_l_alike⟩ := B_l_alike
  have G_l_alike : Fn PP w K mg base "_law_alike" 7 [] (sp_l_alike K) := ⟨⟨_, fd_l_alike, ["_law_one", "_law_two", "_law_due_here"], ds_l_alike, O_l_alike, glo_of X G (c.fact 48), F_l_alike.kp, v_l_alike, b_l_alike⟩⟩
  have O_law : FnOk PP w K mg base (L2.CX PP w) 11 (He.fAd K ("law", none)) fd_law ["_law_script"] (sp_law K) := def_ok F_law sc_law len_law (t_law K) (fun cdv A outer s H E hr => tm_law T G_Alphabet G_Alphabet_1 G_l_alike G_l_bent G_l_box G_l_due G_l_pick G_l_refused G_l_second G_l_shows G_l_take hr) (rd_law T)
  exact O_law
end Lw
open PySem PySem.W PySem.Calls PyProof.Rows
set_option maxHeartbeats 0 in
theorem PySem.Challenge.cw_talepost_k00_alphabets_holds : PySem.Challenge.rw_talepost_k00_alphabets.Holds := by
  w_on; o_law
  refine HandSHeadRun.head_any (r := OpenLaw.row PySem.Challenge.rw_talepost_k00_alphabets) (q := view (OpenLaw.row PySem.Challenge.rw_talepost_k00_alphabets).prog [21]) (H := Lw.hk) (ob := Lw.ob) (M := 3000) (loose := Lw.loose) (d := HandSHeadRun.topDef (OpenLaw.row PySem.Challenge.rw_talepost_k00_alphabets).prog 21) (kwd := []) Lw.ob_eq
    (by kernel_rfl) (fun s => by kernel_rfl) Lw.run (by kernel_rfl) (by kernel_rfl) (by kernel_rfl) (by rfl) (by first | assumption | decide +kernel) (by decide +kernel) ⟨rfl, rfl, rfl, rfl, rfl, by decide +kernel⟩ ?hw ?hc
  case hw => w_witness2
  case hc =>
    refine Ta.walk_ofX (l := PySem.Challenge.rw_talepost_k00_alphabets) (n := 63) (k := 11) (x := "_law_script") rfl (by decide) (by kernel_rfl) ⟨rfl, by decide, by decide⟩ ?F
    intro w mg fa h Y G hmg0
    obtain ⟨K, KX, c⟩ := Y
    have hmg : mg ("law" : PySem.Str) = some (.ref fa) := by
      have e : (HandSHeadRun.topDef (OpenLaw.row PySem.Challenge.rw_talepost_k00_alphabets).prog 21).name = ("law" : PySem.Str) := by kernel_rfl
      rw [← e]
      exact hmg0
    obtain ⟨fd, hb, hF⟩ := Lw.all_ok (w := w) KX G c
    have e := hmg.symm.trans (Ta.glo_of KX G (x := "law") (c.fact 50))
    cases e
    refine ⟨K, fd, Lw.sp_law K, KX, hb, fun H a ns hl hO hS => ?_, hF⟩
    obtain ⟨oj, hS⟩ := Ta.scr_of (c.fact 49) hO hS
    exact Lw.law_in hS hl

