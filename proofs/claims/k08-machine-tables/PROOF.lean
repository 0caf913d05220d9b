import PyProof.Rows.All
import Wide.All
import OpenK.AllK
import Wide.FinOn
import HandS.ForMost
import HandS.ForExc
import HandS.Flow
import HandS.Defaults
import HandS.CallSlots
import HandS.IsInst
import HandS.Codes
import HandS.ClsMeth
import HandS.OwnEq
import HandS.Property
import HandS.ExcInit
import HandS.ExcField
import HandS.ExcIs
import HandS.Nested
import KE.KExcSuper
import KE.KExcIs
import HandS.Strs
import HandS.SetTxtIn
import HandS.More
import HandS.Replace
import HandS.ReplaceList
import HandS.Head0
import HandS.Head1
import HandS.Head2
import HandS.HeadEnd
import HandS.HeadHook1
import HandS.HeadHook2
import HandS.TupLe
import HandS.Text
import HandS.List
import PyProof.Rows.StrFirst
import HandS.Conv
import PyProof.ListStr
import HandS.Set
import HandS.SetFor
import KE.SortKeyHeap
import HandS.SortKw
import KE.KSortKey
import HandS.Style
import KE.KRevSl
import PyProof.SliceStr2
import OpenK.KMake
import HandS.Wide
import PyProof.StrLawsIn
import PySem.Challenge.RW_talepost_k08_machine_tables
set_option Elab.async false
set_option linter.all false
set_option maxRecDepth 100000
set_option maxHeartbeats 1000000
namespace Ta
open PySem PySem.Spec PyProof.Rows L2
abbrev St := L2.St

/-! ### texts as lists of codes -/
abbrev tl (x : Str) : List Nat := x.cps.toList
abbrev S (l : List Nat) : Str := ⟨l.toArray⟩
theorem tl_S (l : List Nat) : tl (S l) = l := rfl
theorem S_tl (x : Str) : S (tl x) = x := TL.mk_tl x
theorem ext_tl {x y : Str} (h : tl x = tl y) : x = y := TL.ext_tl h
theorem len_tl (x : Str) : x.length = (tl x).length := TL.len_tl x
theorem add_S (x y : Str) : x ++ y = S (tl x ++ tl y) := ext_tl (TL.tl_append x y)

/-! ### marks: a look at the heap, a branch -/
structure look (H : Hp) (p : Addr) (k : Option HO → Prop) : Prop where
  out : k (H p)
theorem look_i {H : Hp} {p : Addr} {k : Option HO → Prop} {o : HO} (h : H p = some o) (q : k (some o)) : look H p k := by
  refine ⟨?_⟩; rw [h]; exact q
theorem look_n {H : Hp} {p : Addr} {k : Option HO → Prop} (h : H p = none) (q : k none) : look H p k := by
  refine ⟨?_⟩; rw [h]; exact q
theorem look_e {H : Hp} {p : Addr} {k : Option HO → Prop} (q : look H p k) : k (H p) := by
  replace q := q.out; exact q
structure cnd (c : Bool) (p q : Prop) : Prop where
  out : match c with
  | true => p
  | false => q
theorem cnd_i {c : Bool} {p q : Prop} (h1 : c = true → p) (h2 : c = false → q) : cnd c p q := by
  refine ⟨?_⟩; cases c
  · exact h2 rfl
  · exact h1 rfl
theorem cnd_t {c : Bool} {p q : Prop} (h : c = true) (h1 : p) : cnd c p q := by refine ⟨?_⟩; rw [h]; exact h1
theorem cnd_f {c : Bool} {p q : Prop} (h : c = false) (h1 : q) : cnd c p q := by refine ⟨?_⟩; rw [h]; exact h1
theorem cnd_e {c : Bool} {p q : Prop} (h : cnd c p q) : if c = true then p else q := by
  replace h := h.out; cases c
  · exact h
  · exact h

/-! ### weakening -/
section
variable {X : Cx}
theorem pe_imp {e : Expr} {t t' : TE} (h : PE X e t) (i : ∀ σ H Q, t' σ H Q → t σ H Q) : PE X e t' := ⟨fun pins s σ H Q I q => h.run pins s σ H Q I (i σ H Q q)⟩
theorem pt_imp {e : Expr} {t t' : TT} (h : PT X e t) (i : ∀ σ H Q, t' σ H Q → t σ H Q) : PT X e t' := ⟨fun pins s σ H Q I q => h.run pins s σ H Q I (i σ H Q q)⟩
theorem pw_imp {e : Expr} {t t' : TT} (h : PW X e t) (i : ∀ σ H Q, t' σ H Q → t σ H Q) : PW X e t' := ⟨fun whole pins s σ H Q I q => h.run whole pins s σ H Q I (i σ H Q q)⟩
theorem ps_imp {e : Stmt} {t t' : TS} (h : PS X e t) (i : ∀ D σ H, t' D σ H → t D σ H) : PS X e t' := ⟨fun pins s σ H D I q => h.run pins s σ H D I (i D σ H q)⟩
theorem pss_imp {e : List Stmt} {t t' : TS} (h : PSs X e t) (i : ∀ D σ H, t' D σ H → t D σ H) : PSs X e t' := ⟨fun pins s σ H D I q => h.run pins s σ H D I (i D σ H q)⟩
theorem op_imp {f : Value → Value → Sem Value} {r r' : R2} (h : OpR X f r) (i : ∀ x y H Q, r' x y H Q → r x y H Q) : OpR X f r' := fun pins s σ H x y v u Q I rx ry q => h pins s σ H x y v u Q I rx ry (i x y H Q q)
theorem ix_imp {r r' : R2} (h : IxR X r) (i : ∀ x y H Q, r' x y H Q → r x y H Q) : IxR X r' := fun va sl pins s σ H x y v u Q I rx ry q => h va sl pins s σ H x y v u Q I rx ry (i x y H Q q)
theorem cr_imp {f : Value} {r r' : List V → Hp → VK → Prop} (h : CallR X f r) (i : ∀ xs H Q, r' xs H Q → r xs H Q) : CallR X f r' := fun pins s σ H xs us Q I rx q => h pins s σ H xs us Q I rx (i xs H Q q)
theorem sl_imp {r r' : V → Option Int → Option Int → Hp → VK → Prop} (h : SlR X r) (i : ∀ x a b H Q, r' x a b H Q → r x a b H Q) : SlR X r' := fun pins s σ H x v vl vu lo hi sl Q I rx rs pl pu q => h pins s σ H x v vl vu lo hi sl Q I rx rs pl pu (i x lo hi H Q q)
theorem mt_imp {id : String} {r r' : V → List V → Hp → VK → Prop} (h : MtR X id r) (i : ∀ x xs H Q, r' x xs H Q → r x xs H Q) : MtR X id r' := fun pins s σ H x xs v us Q I rx rs q => h pins s σ H x xs v us Q I rx rs (i x xs H Q q)
end

/-! ### limits -/
def Lim (n : Nat) : Prop := n ≤ sizeLine
theorem lim_of {n : Nat} (h : n ≤ 16777216) : Lim n := by unfold Lim; rw [sizeLine_eq]; exact h

/-! ### names, constants -/
section
variable {X : Cx}
def tV (i : Nat) : TE := fun σ H Q => match σ[i]? with
  | some (some v) => Q v H
  | _ => False
theorem tV_e {i : Nat} {σ : St} {H : Hp} {Q : VK} (h : tV i σ H Q) : tVar i σ H Q := by
  unfold tV at h
  split at h
  · rename_i v e
    exact ⟨v, e, h⟩
  · exact h.elim
theorem pv (i : Nat) {x : Str} {pos : Pos} (hN : X.N[i]? = some x := by rfl) (hv : Vis X.env.scope x := by first | exact Or.inl rfl | exact Or.inr (Or.inl rfl) | exact Or.inr (Or.inr rfl)) (hd : (x == ("__debug__" : Str)) = false := by decide +kernel)
    (hcd : (x == ("__classdict__" : Str)) = false := by decide +kernel) : PE X (.Name x pos) (tV i) := pe_imp (pe_var hN hv hd hcd) fun _ _ _ h => tV_e h
theorem pstr (l : List Nat) {x : Str} {j : Nat} {pos : Pos} (h : x = S l := by decide +kernel) : PE X (.Constant (.str x) j pos) (tC (.str (S l))) := by
  subst h; exact pe_str

/-! ### truth -/
def truP (K : PySem.W.Frag) (x : V) (H : Hp) (Q : Bool → Prop) : Prop := match x with
  | .non => Q false
  | .bl b => Q b
  | .int i => Q (!decide (i = 0))
  | .str y => Lim (tl y).length ∧ Q (!(tl y).isEmpty)
  | .ref p => look H p fun o => match o with
    | some (.lst xs) => Q (!xs.isEmpty)
    | some (.tup xs) => Q (!xs.isEmpty)
    | some (.dK kvs) => Q (!kvs.isEmpty)
    | some (.frz _ (.lst xs)) => Q (!xs.isEmpty)
    | _ => ∃ xs, (SqL K H p xs ∨ SqT K H p xs) ∧ Q (!xs.isEmpty)
  | _ => False
theorem truP_e {K : PySem.W.Frag} {x : V} {H : Hp} {Q : Bool → Prop} (h : truP K x H Q) : ∃ k, TruV K x H k ∧ Q k := by
  cases x with
  | non => exact ⟨false, rfl, h⟩
  | bl b => exact ⟨b, rfl, h⟩
  | int i => exact ⟨!decide (i = 0), by show (!decide (i = 0)) = (i != 0); simp only [bne]; congr 1, h⟩
  | str y =>
    obtain ⟨h1, h2⟩ := h
    refine ⟨!(tl y).isEmpty, ⟨by rw [len_tl]; exact h1, ?_⟩, h2⟩
    rw [len_tl]
    cases e : tl y with
    | nil => rfl
    | cons c r => simp; omega
  | ref p =>
    have h' := look_e h
    revert h'
    cases e : H p with
    | none => exact fun ⟨xs, h1, h2⟩ => ⟨_, h1.elim (fun z => .inl ⟨xs, z, rfl⟩) (fun z => .inr (.inl ⟨xs, z, rfl⟩)), h2⟩
    | some o =>
      cases o with
      | lst xs => exact fun h2 => ⟨_, .inl ⟨xs, SqL.of e, rfl⟩, h2⟩
      | tup xs => exact fun h2 => ⟨_, .inr (.inl ⟨xs, SqT.of e, rfl⟩), h2⟩
      | dK xs => exact fun h2 => ⟨_, .inr (.inr ⟨xs, e, rfl⟩), h2⟩
      | frz ob u =>
        cases u with
        | lst xs => exact fun h2 => ⟨_, .inl ⟨xs, .inl (.inr ⟨_, e⟩), rfl⟩, h2⟩
        | _ => exact fun ⟨xs, h1, h2⟩ => ⟨_, h1.elim (fun z => .inl ⟨xs, z, rfl⟩) (fun z => .inr (.inl ⟨xs, z, rfl⟩)), h2⟩
      | _ => exact fun ⟨xs, h1, h2⟩ => ⟨_, h1.elim (fun z => .inl ⟨xs, z, rfl⟩) (fun z => .inr (.inl ⟨xs, z, rfl⟩)), h2⟩
  | _ => exact h.elim
def tTru (K : PySem.W.Frag) (ta : TE) : TT := fun σ H Q => ta σ H fun x H1 => truP K x H1 fun k => Q k H1
variable {a b c : Expr} {ta tb tc : TE} {rest : List Expr} {pos : Pos}
theorem ptru (ha : PE X a ta) (he : ∀ whole, isTrue a X.env whole = (do let v ← whole; standAt a.pos; holding [v] (truthy v)) := by intro _; rfl) : PT X a (tTru X.K ta) := by
  refine ⟨fun pins s σ H Q I h => ?_⟩
  exact isTrue_plain (thn (ha.run pins s σ H _ I h) fun v s1 ⟨x, H1, I1, r1, q1⟩ => tru_ok pins s1 σ H1 x v Q I1 r1 (truP_e (Q := fun k => Q k H1) q1)) (he _)
/-- a test that is a comparison -/
def tTst (t : TE) : TT := fun σ H Q => t σ H fun x H' => match x with
  | .bl k => Q k H'
  | _ => False
theorem bl_of {x : V} {P : Bool → Prop} (h : match x with | .bl k => P k | _ => False) : ∃ k, x = .bl k ∧ P k := by
  cases x with
  | bl k => exact ⟨k, rfl, h⟩
  | _ => exact h.elim
theorem ptcmp {op : CmpOp} {r : R2} (ho : OpR X (compareOp op) r) (ha : PE X a ta) (hb : PE X b tb) (hm : behindInMarks op b = false := by rfl) : PT X (.Compare a [op] [b] pos) (tTst (tOp r ta tb)) := by
  refine ⟨fun pins s σ H Q I h => ?_⟩
  refine wpAny_isTrue_Compare1 (binT ha hb I h fun v u s2 x y H2 I2 rx ry q => ?_) hm
  refine thn (ho pins s2 σ H2 x y v u _ I2 rx ry q) fun c s3 ⟨z, H3, I3, r3, q3⟩ => ?_
  obtain ⟨k, rfl, q3⟩ := bl_of q3
  cases r3
  exact wpAny_truthy_bool ⟨H3, I3, q3⟩
def tAndP (t u : TT) : TT := fun σ H Q => t σ H fun c H1 => cnd c (u σ H1 Q) (Q false H1)
def tOrP (t u : TT) : TT := fun σ H Q => t σ H fun c H1 => cnd c (Q true H1) (u σ H1 Q)
variable {tA tB' : TT}
theorem pwand (ha : PT X a tA) (hb : PW X (.BoolOp .And (b :: rest) pos) tB') : PW X (.BoolOp .And (a :: b :: rest) pos) (tAndP tA tB') := by
  refine ⟨fun wh pins s σ H Q I h => ?_⟩
  refine isTrue_and (thn (ha.run pins s σ H _ I h) fun c s1 ⟨H1, I1, q1⟩ => ?_)
  have q1 := cnd_e q1
  cases c with
  | true => exact hb.run wh pins s1 σ H1 Q I1 q1
  | false => exact ⟨H1, I1, q1⟩
theorem pwor (ha : PT X a tA) (hb : PW X (.BoolOp .Or (b :: rest) pos) tB') : PW X (.BoolOp .Or (a :: b :: rest) pos) (tOrP tA tB') := by
  refine ⟨fun wh pins s σ H Q I h => ?_⟩
  refine isTrue_or (thn (ha.run pins s σ H _ I h) fun c s1 ⟨H1, I1, q1⟩ => ?_)
  have q1 := cnd_e q1
  cases c with
  | true => exact ⟨H1, I1, q1⟩
  | false => exact hb.run wh pins s1 σ H1 Q I1 q1
/-! ### and, or, not as values -/
def tAndE (K : PySem.W.Frag) (ta tb : TE) : TE := fun σ H Q => ta σ H fun x H1 => truP K x H1 fun k => cnd k (tb σ H1 Q) (Q x H1)
def tOrE (K : PySem.W.Frag) (ta tb : TE) : TE := fun σ H Q => ta σ H fun x H1 => truP K x H1 fun k => cnd k (Q x H1) (tb σ H1 Q)
def tNotE (K : PySem.W.Frag) (ta : TE) : TE := fun σ H Q => ta σ H fun x H1 => truP K x H1 fun k => Q (.bl (!k)) H1
theorem peor (ha : PE X a ta) (hb : PE X (.BoolOp .Or (b :: rest) pos) tb) : PE X (.BoolOp .Or (a :: b :: rest) pos) (tOrE X.K ta tb) := by
  refine ⟨fun pins s σ H Q I h => ?_⟩
  refine BoolOp_or (thn (ha.run pins s σ H _ I h) fun v s1 ⟨x, H1, I1, r1, q1⟩ => ?_)
  obtain ⟨k, e, q1⟩ := truP_e q1
  refine thn (tru_ok pins s1 σ H1 x v (fun c H2 => c = k ∧ H2 = H1) I1 r1 ⟨k, e, rfl, rfl⟩) fun c s2 hc => ?_
  obtain ⟨H2, I2, e1, e2⟩ := hc
  rw [e2] at I2
  rw [← e1] at q1
  have q1 := cnd_e q1
  cases c with
  | true => exact ⟨x, H1, I2, r1, q1⟩
  | false => exact hb.run pins s2 σ H1 Q I2 q1
theorem peand (ha : PE X a ta) (hb : PE X (.BoolOp .And (b :: rest) pos) tb) : PE X (.BoolOp .And (a :: b :: rest) pos) (tAndE X.K ta tb) := by
  refine ⟨fun pins s σ H Q I h => ?_⟩
  refine BoolOp_and (thn (ha.run pins s σ H _ I h) fun v s1 ⟨x, H1, I1, r1, q1⟩ => ?_)
  obtain ⟨k, e, q1⟩ := truP_e q1
  refine thn (tru_ok pins s1 σ H1 x v (fun c H2 => c = k ∧ H2 = H1) I1 r1 ⟨k, e, rfl, rfl⟩) fun c s2 hc => ?_
  obtain ⟨H2, I2, e1, e2⟩ := hc
  rw [e2] at I2
  rw [← e1] at q1
  have q1 := cnd_e q1
  cases c with
  | true => exact hb.run pins s2 σ H1 Q I2 q1
  | false => exact ⟨x, H1, I2, r1, q1⟩
theorem penot (ha : PE X a ta) : PE X (.UnaryOp .Not a pos) (tNotE X.K ta) := by
  refine ⟨fun pins s σ H Q I h => ?_⟩
  refine UnaryOp_ (thn (ha.run pins s σ H _ I h) fun v s1 ⟨x, H1, I1, r1, q1⟩ => ?_)
  obtain ⟨k, e, q1⟩ := truP_e q1
  exact not_of (thn (tru_ok pins s1 σ H1 x v (fun c H2 => Q (.bl (!c)) H2) I1 r1 ⟨k, e, q1⟩) fun c s2 ⟨H2, I2, q2⟩ => ⟨.bl (!c), H2, I2, rfl, q2⟩)
def tIfE (t : TT) (ta tb : TE) : TE := fun σ H Q => t σ H fun c H1 => cnd c (ta σ H1 Q) (tb σ H1 Q)
theorem peif (hc : PT X c tA) (ha : PE X a ta) (hb : PE X b tb) : PE X (.IfExp c a b pos) (tIfE tA ta tb) := by
  refine ⟨fun pins s σ H Q I h => ?_⟩
  refine wpAny_IfExp (thn (hc.run pins s σ H _ I h) fun d s1 ⟨H1, I1, q1⟩ => ?_)
  have q1 := cnd_e q1
  cases d with
  | true => exact ha.run pins s1 σ H1 Q I1 q1
  | false => exact hb.run pins s1 σ H1 Q I1 q1
/-- a op1 b op2 c -/
def tChn (r r' : R2) (ta tb tc : TE) : TE := fun σ H Q => ta σ H fun x H1 => tb σ H1 fun y H2 => r x y H2 fun z H3 => match z with
  | .bl k => cnd k (tc σ H3 fun w' H4 => r' y w' H4 Q) (Q (.bl false) H3)
  | _ => False
theorem pechn {op op' : CmpOp} {r r' : R2} (ho : OpR X (compareOp op) r) (ho' : OpR X (compareOp op') r') (ha : PE X a ta) (hb : PE X b tb) (hc : PE X c tc)
    (hm : lastMarks [op, op'] [b, c] = false := by with_unfolding_all rfl) : PE X (.Compare a [op, op'] [b, c] pos) (tChn r r' ta tb tc) := by
  refine ⟨fun pins s σ H Q I h => ?_⟩
  refine Compare_chain (thn (ha.run pins s σ H _ I h) fun v s1 ⟨x, H1, I1, r1, q1⟩ => chain_link (thn (hb.run pins s1 σ H1 _ I1 q1) fun u s2 ⟨y, H2, I2, r2, q2⟩ =>
    thn (ho pins s2 σ H2 x y v u _ I2 r1 r2 q2) fun d s3 ⟨z, H3, I3, r3, q3⟩ => ?_)) hm
  obtain ⟨k, rfl, q3⟩ := bl_of q3
  have q3 := cnd_e q3
  cases r3
  refine wpAny_truthy_bool ?_
  cases k with
  | false => exact ite_ff ⟨.bl false, H3, I3, rfl, q3⟩
  | true => exact ite_tt (chain_last (thn (hc.run pins s3 σ H3 _ I3 q3) fun w' s4 ⟨z', H4, I4, r4, q4⟩ => ho' pins s4 σ H4 y z' u w' Q I4 r2 r4 q4))
theorem ptchn {op op' : CmpOp} {r r' : R2} (ho : OpR X (compareOp op) r) (ho' : OpR X (compareOp op') r') (ha : PE X a ta) (hb : PE X b tb) (hc : PE X c tc)
    (hm : lastMarks [op, op'] [b, c] = false := by with_unfolding_all rfl) : PT X (.Compare a [op, op'] [b, c] pos) (tTst (tChn r r' ta tb tc)) := by
  refine ⟨fun pins s σ H Q I h => ?_⟩
  refine isTrue_chain (thn (ha.run pins s σ H _ I h) fun v s1 ⟨x, H1, I1, r1, q1⟩ => test_link (thn (hb.run pins s1 σ H1 _ I1 q1) fun u s2 ⟨y, H2, I2, r2, q2⟩ =>
    thn (ho pins s2 σ H2 x y v u _ I2 r1 r2 q2) fun d s3 ⟨z, H3, I3, r3, q3⟩ => ?_)) hm
  obtain ⟨k, rfl, q3⟩ := bl_of q3
  have q3 := cnd_e q3
  cases r3
  refine wpAny_truthy_bool ?_
  cases k with
  | false => exact ite_ff ⟨H3, I3, q3⟩
  | true =>
    refine ite_tt (test_last (thn (hc.run pins s3 σ H3 _ I3 q3) fun w' s4 ⟨z', H4, I4, r4, q4⟩ => thn (ho' pins s4 σ H4 y z' u w' _ I4 r2 r4 q4) fun d' s5 ⟨z2, H5, I5, r5, q5⟩ => ?_))
    obtain ⟨k2, rfl, q5⟩ := bl_of q5
    cases r5
    exact wpAny_truthy_bool ⟨H5, I5, q5⟩
end

/-! ### operators by value -/
section
variable {X : Cx}
def zAdd : R2 := fun x y H Q => match x with
  | .int i => (match y with
    | .int j => Q (.int (i + j)) H
    | _ => False)
  | .str a => (match y with
    | .str b => Lim ((tl a).length + (tl b).length) ∧ Q (.str (S (tl a ++ tl b))) H
    | _ => False)
  | .ref p => (match y with
    | .ref q => look H p fun o => match o with
      | some (.lst xs) => look H q fun o' => (match o' with
        | some (.lst ys) => Lim (xs.length + ys.length) ∧ ∀ r, H r = none → Q (.ref r) (upd H r (.lst (xs ++ ys)))
        | _ => False)
      | _ => False
    | _ => False)
  | _ => False
theorem opadd : OpR X (binaryOp .Add) zAdd := by
  intro pins s σ H x y v u Q I rx ry h
  cases x with
  | int i =>
    cases y with
    | int j => exact op_add pins s σ H _ _ v u Q I rx ry ⟨i, j, rfl, rfl, h⟩
    | _ => exact False.elim h
  | str i =>
    cases y with
    | str j => exact op_add_str pins s σ H _ _ v u Q I rx ry ⟨i, j, rfl, rfl, by rw [len_tl, len_tl]; exact h.1, by rw [add_S]; exact h.2⟩
    | _ => exact False.elim h
  | ref p =>
    cases y with
    | ref q =>
      have h := look_e h
      cases e : H p with
      | none => rw [e] at h; exact h.elim
      | some o =>
        rw [e] at h
        cases o with
        | lst xs =>
          have h := look_e h
          cases e' : H q with
          | none => rw [e'] at h; exact h.elim
          | some o' =>
            rw [e'] at h
            cases o' with
            | lst ys => exact op_cat pins s σ H _ _ v u Q I rx ry ⟨p, q, xs, ys, rfl, rfl, e, e', h.1, h.2⟩
            | _ => exact h.elim
        | _ => exact h.elim
    | _ => exact False.elim h
  | _ => exact False.elim h
def zI2 (C : Int → Int → Prop) (g : Int → Int → V) : R2 := fun x y H Q => match x with
  | .int i => (match y with
    | .int j => C i j ∧ Q (g i j) H
    | _ => False)
  | _ => False
def zI2f (g : Int → Int → V) : R2 := fun x y H Q => match x with
  | .int i => (match y with
    | .int j => Q (g i j) H
    | _ => False)
  | _ => False
theorem zI2_e {C : Int → Int → Prop} {g : Int → Int → V} {x y : V} {H : Hp} {Q : VK} (h : zI2 C g x y H Q) : rI C g x y H Q := by
  cases x with
  | int i => cases y with
    | int j => exact ⟨i, j, rfl, rfl, h.1, h.2⟩
    | _ => exact h.elim
  | _ => exact h.elim
theorem zI2f_e {g : Int → Int → V} {x y : V} {H : Hp} {Q : VK} (h : zI2f g x y H Q) : rI0 g x y H Q := by
  cases x with
  | int i => cases y with
    | int j => exact ⟨i, j, rfl, rfl, h⟩
    | _ => exact h.elim
  | _ => exact h.elim
def zSub : R2 := zI2f fun i j => .int (i - j)
def zMul : R2 := zI2 CMul fun i j => .int (i * j)
def zMod : R2 := zI2 (fun _ j => 0 < j) fun i j => .int (i % j)
def zDiv : R2 := zI2 CDiv fun i j => .int (i / j)
def zPow : R2 := zI2 CPow fun i j => .int (i ^ j.toNat)
theorem opsub : OpR X (binaryOp .Sub) zSub := op_imp op_sub fun _ _ _ _ h => zI2f_e h
theorem opmul : OpR X (binaryOp .Mult) zMul := op_imp op_mul fun _ _ _ _ h => zI2_e h
theorem opmod : OpR X (binaryOp .Mod) zMod := op_imp op_mod fun _ _ _ _ h => zI2_e h
theorem opdiv : OpR X (binaryOp .FloorDiv) zDiv := op_imp op_fdiv fun _ _ _ _ h => zI2_e h
theorem oppow : OpR X (binaryOp .Pow) zPow := op_imp op_pow fun _ _ _ _ h => zI2_e h
def zNeg : V → Hp → VK → Prop := fun x H Q => match x with
  | .int i => Q (.int (-i)) H
  | _ => False
theorem unneg : UnR X (unaryOp .USub) zNeg := fun pins s σ H x v Q I rx h => by
  cases x with
  | int i => exact un_neg pins s σ H _ v Q I rx ⟨i, rfl, h⟩
  | _ => exact h.elim
/-! comparisons -/
def zLt : R2 := fun x y H Q => match x with
  | .int i => (match y with
    | .int j => Q (.bl (decide (i < j))) H
    | _ => False)
  | .str a => (match y with
    | .str b => Q (.bl (decide (tl a < tl b))) H
    | _ => False)
  | _ => False
theorem oplt : OpR X (compareOp .Lt) zLt := by
  intro pins s σ H x y v u Q I rx ry h
  cases x with
  | int i => cases y with
    | int j => exact op_lt pins s σ H _ _ v u Q I rx ry ⟨i, j, rfl, rfl, h⟩
    | _ => exact False.elim h
  | str i => cases y with
    | str j => exact op_lt_str pins s σ H _ _ v u Q I rx ry ⟨i, j, rfl, rfl, h⟩
    | _ => exact False.elim h
  | _ => exact False.elim h
def zLe : R2 := zI2f fun i j => .bl (decide (i ≤ j))
def zGt : R2 := zI2f fun i j => .bl (decide (j < i))
def zGe : R2 := zI2f fun i j => .bl (decide (j ≤ i))
theorem ople : OpR X (compareOp .LtE) zLe := op_imp op_le fun _ _ _ _ h => zI2f_e h
theorem opgt : OpR X (compareOp .Gt) zGt := op_imp op_gt fun _ _ _ _ h => zI2f_e h
theorem opge : OpR X (compareOp .GtE) zGe := op_imp op_ge fun _ _ _ _ h => zI2f_e h
/-- == of data at addresses -/
structure dpq (K : PySem.W.Frag) (x y : V) (H : Hp) (Q : Bool → Prop) : Prop where
  out : ∃ d e, Dp K H x d ∧ Dp K H y e ∧ SeqAt.shaped d = true ∧ SeqAt.shaped e = true ∧ Q (PyData.eqv d e)
theorem dpq_i {K : PySem.W.Frag} {x y : V} {H : Hp} {Q : Bool → Prop} {d e : PyData} (h1 : Dp K H x d) (h2 : Dp K H y e) (h3 : SeqAt.shaped d = true) (h4 : SeqAt.shaped e = true) (q : Q (PyData.eqv d e)) : dpq K x y H Q := by refine ⟨?_⟩; exact ⟨d, e, h1, h2, h3, h4, q⟩
theorem dpq_e {K : PySem.W.Frag} {x y : V} {H : Hp} {Q : Bool → Prop} (h : dpq K x y H Q) : ∃ d e, Dp K H x d ∧ Dp K H y e ∧ SeqAt.shaped d = true ∧ SeqAt.shaped e = true ∧ Q (PyData.eqv d e) := by replace h := h.out; exact h
/-- what == tells of two values; data at addresses by Dp -/
def eqP (K : PySem.W.Frag) (x y : V) (H : Hp) (Q : Bool → Prop) : Prop := match x with
  | .int i => (match y with
    | .int j => Q (decide (i = j))
    | .non => Q false
    | .str _ => Q false
    | _ => False)
  | .str a => (match y with
    | .str b => Q (decide (tl a = tl b))
    | .non => Q false
    | .int _ => Q false
    | .bl _ => Q false
    | _ => False)
  | .bl a => (match y with
    | .bl b => Q (decide (a = b))
    | .non => Q false
    | .str _ => Q false
    | _ => False)
  | .non => (match y with
    | .non => Q true
    | .int _ => Q false
    | .bl _ => Q false
    | .str _ => Q false
    | _ => False)
  | .ref p => dpq K x y H Q
  | _ => False
theorem eqP_e {K : PySem.W.Frag} {x y : V} {H : Hp} {Q : Bool → Prop} (h : eqP K x y H Q) : (scal x y = true ∧ Q (decide (x = y))) ∨ ∃ d e, Dp K H x d ∧ Dp K H y e ∧ SeqAt.shaped d = true ∧ SeqAt.shaped e = true ∧ Q (PyData.eqv d e) := by
  cases x with
  | int i => cases y with
    | int j => exact .inl ⟨rfl, by simp; exact h⟩
    | non => exact .inl ⟨rfl, by simp; exact h⟩
    | str j => exact .inl ⟨rfl, by simp; exact h⟩
    | _ => exact h.elim
  | str i => cases y with
    | str j =>
      refine .inl ⟨rfl, ?_⟩
      have e : decide (V.str i = V.str j) = decide (tl i = tl j) := decide_eq_decide.mpr ⟨fun z => by injection z with z; rw [z], fun z => by rw [ext_tl z]⟩
      rw [e]; exact h
    | non => exact .inl ⟨rfl, by simp; exact h⟩
    | int j => exact .inl ⟨rfl, by simp; exact h⟩
    | bl j => exact .inl ⟨rfl, by simp; exact h⟩
    | _ => exact h.elim
  | bl i => cases y with
    | bl j => exact .inl ⟨rfl, by simp; exact h⟩
    | non => exact .inl ⟨rfl, by simp; exact h⟩
    | str j => exact .inl ⟨rfl, by simp; exact h⟩
    | _ => exact h.elim
  | non => cases y with
    | non => exact .inl ⟨rfl, by simp; exact h⟩
    | int j => exact .inl ⟨rfl, by simp; exact h⟩
    | bl j => exact .inl ⟨rfl, by simp; exact h⟩
    | str j => exact .inl ⟨rfl, by simp; exact h⟩
    | _ => exact h.elim
  | ref p => exact .inr (dpq_e h)
  | _ => exact h.elim
def zEqP (K : PySem.W.Frag) : R2 := fun x y H Q => eqP K x y H fun k => Q (.bl k) H
def zNeP (K : PySem.W.Frag) : R2 := fun x y H Q => eqP K x y H fun k => Q (.bl (!k)) H
theorem opeq (hu : X.A.units + 64 < cLine) : OpR X (compareOp .Eq) (zEqP X.K) := fun pins s σ H x y v u Q I rx ry h => by
  rcases eqP_e h with h | h
  · exact op_eq pins s σ H x y v u Q I rx ry h
  · exact op_eqD hu pins s σ H x y v u Q I rx ry h
theorem opne (hu : X.A.units + 64 < cLine) : OpR X (compareOp .NotEq) (zNeP X.K) := fun pins s σ H x y v u Q I rx ry h => by
  rcases eqP_e (Q := fun k => Q (.bl (!k)) H) h with h | h
  · exact op_ne pins s σ H x y v u Q I rx ry h
  · exact op_neD hu pins s σ H x y v u Q I rx ry h
/-- x is None -/
def zIsP : R2 := fun x y H Q => match y with
  | .non => Q (.bl (decide (x = .non))) H
  | _ => False
def zIsnP : R2 := fun x y H Q => match y with
  | .non => Q (.bl (!decide (x = .non))) H
  | _ => False
theorem opis : OpR X (compareOp .Is) zIsP := op_imp op_isN fun x y H Q h => by
  cases y with
  | non => exact ⟨rfl, h⟩
  | _ => exact h.elim
theorem opisn : OpR X (compareOp .IsNot) zIsnP := op_imp op_notN fun x y H Q h => by
  cases y with
  | non => exact ⟨rfl, h⟩
  | _ => exact h.elim
end
end Ta

set_option Elab.async false
set_option linter.all false
set_option maxRecDepth 100000
set_option maxHeartbeats 1000000
namespace Ta
open PySem PySem.Spec PyProof.Rows L2

/-! ### items -/
structure itm {α : Type} (xs : List α) (i : Int) (k : α → Prop) : Prop where
  out : ∃ v, atI xs i = some v ∧ k v
theorem itm_i {α : Type} {xs : List α} {i : Int} {k : α → Prop} {v : α} (h : atI xs i = some v) (q : k v) : itm xs i k := by refine ⟨?_⟩; exact ⟨v, h, q⟩
theorem itm_e {α : Type} {xs : List α} {i : Int} {k : α → Prop} (q : itm xs i k) : ∃ v, atI xs i = some v ∧ k v := by replace q := q.out; exact q
theorem itm_n {α : Type} {xs : List α} {i : Int} {j : Nat} {k : α → Prop} {v : α} (e : i = (j : Int)) (h : xs[j]? = some v) (q : k v) : itm xs i k := by
  subst e; exact itm_i (atI_nat h) q
section
variable {X : Cx}
def zIxP (K : PySem.W.Frag) : R2 := fun x y H Q => match y with
  | .int i => (match x with
    | .str z => Lim (tl z).length ∧ itm (tl z) i fun c => Q (.str (S [c])) H
    | .ref p => look H p fun o => match o with
      | some (.lst xs) => itm xs i fun v => Q v H
      | some (.tup xs) => itm xs i fun v => Q v H
      | some (.frz _ (.lst xs)) => itm xs i fun v => Q v H
      | _ => ∃ xs, (SqL K H p xs ∨ SqT K H p xs) ∧ itm xs i fun v => Q v H
    | _ => False)
  | _ => False
theorem ixp : IxR X (zIxP X.K) := by
  refine ix_imp ix_seq fun x y H Q h => ?_
  cases y with
  | int i =>
    cases x with
    | str z =>
      obtain ⟨h1, h2⟩ := h
      obtain ⟨c, e, q⟩ := itm_e h2
      exact .inr (.inr ⟨z, i, c, rfl, rfl, by rw [len_tl]; exact h1, e, q⟩)
    | ref p =>
      have h := look_e h
      have fin : ∀ xs, SqL X.K H p xs ∨ SqT X.K H p xs → (itm xs i fun v => Q v H) → rIx X.K (.ref p) (.int i) H Q := fun xs hs h2 => by
        obtain ⟨v, e, q⟩ := itm_e h2
        rcases hs with hs | hs
        · exact .inl ⟨p, xs, i, v, rfl, rfl, hs, e, q⟩
        · exact .inr (.inl ⟨p, xs, i, v, rfl, rfl, hs, e, q⟩)
      revert h
      cases e : H p with
      | none => exact fun ⟨xs, h1, h2⟩ => fin xs h1 h2
      | some o =>
        cases o with
        | lst xs => exact fun h2 => fin xs (.inl (SqL.of e)) h2
        | tup xs => exact fun h2 => fin xs (.inr (SqT.of e)) h2
        | frz ob u =>
          cases u with
          | lst xs => exact fun h2 => fin xs (.inl (.inl (.inr ⟨_, e⟩))) h2
          | _ => exact fun ⟨xs, h1, h2⟩ => fin xs h1 h2
        | _ => exact fun ⟨xs, h1, h2⟩ => fin xs h1 h2
    | _ => exact h.elim
  | _ => exact h.elim
variable {a b c : Expr} {ta tb tc : TE} {pos : Pos}
theorem pix (ha : PE X a ta) (hb : PE X b tb) (hs : PlainIx b := by exact fun _ _ => rfl) : PE X (.Subscript a b pos) (tOp (zIxP X.K) ta tb) := pe_ix ixp ha hb hs

/-! ### slices -/
def cut0 {α : Type} (xs : List α) (lo hi : Option Int) : List α := (xs.drop (HT.sIx xs.length 0 lo)).take (HT.sIx xs.length xs.length hi - HT.sIx xs.length 0 lo)
def ixS (n : Nat) (i : Int) : Nat := match i with
  | .ofNat k => k
  | .negSucc k => n - (k + 1)
/-- xs[lo:hi], as take and drop -/
def cut {α : Type} (xs : List α) (lo hi : Option Int) : List α := match hi with
  | none => (match lo with
    | none => xs
    | some i => xs.drop (ixS xs.length i))
  | some j => (match lo with
    | none => xs.take (ixS xs.length j)
    | some i => (xs.take (ixS xs.length j)).drop (ixS xs.length i))
theorem sIx_ixS (n d : Nat) (i : Int) : HT.sIx n d (some i) = min (ixS n i) n := by
  cases i with
  | ofNat k => exact HT.sIx_nat n d k
  | negSucc k =>
    show (if (Int.negSucc k) < 0 then (Int.negSucc k + (n : Int)).toNat else min (Int.negSucc k).toNat n) = min (n - (k + 1)) n
    rw [if_pos (by omega)]; omega
theorem take_min {α : Type} (xs : List α) (k : Nat) : xs.take (min k xs.length) = xs.take k := by
  rw [List.take_eq_take_iff]; omega
theorem drop_min {α : Type} (xs : List α) (k : Nat) : xs.drop (min k xs.length) = xs.drop k := by
  by_cases h : k ≤ xs.length
  · rw [Nat.min_eq_left h]
  · rw [Nat.min_eq_right (by omega), List.drop_eq_nil_of_le (Nat.le_refl _), List.drop_eq_nil_of_le (by omega)]
theorem cut_eq0 {α : Type} (xs : List α) (lo hi : Option Int) : cut0 xs lo hi = cut xs lo hi := by
  unfold cut0
  rw [← List.drop_take]
  cases hi with
  | none =>
    cases lo with
    | none => rw [HT.sIx_none, HT.sIx_none, List.take_length]; rfl
    | some i => rw [HT.sIx_none, sIx_ixS, List.take_length]; exact drop_min xs _
  | some j =>
    rw [sIx_ixS, take_min]
    cases lo with
    | none => rfl
    | some i =>
      rw [sIx_ixS]
      show (xs.take (ixS xs.length j)).drop (min (ixS xs.length i) xs.length) = (xs.take (ixS xs.length j)).drop (ixS xs.length i)
      by_cases h : ixS xs.length i ≤ xs.length
      · rw [Nat.min_eq_left h]
      · rw [Nat.min_eq_right (by omega), List.drop_eq_nil_of_le (by rw [List.length_take]; omega), List.drop_eq_nil_of_le (by rw [List.length_take]; omega)]
theorem cutS_S (z : Str) (lo hi : Option Int) : cutS z lo hi = S (cut (tl z) lo hi) := by
  rw [← cut_eq0]
  unfold cutS cut0
  simp only [len_tl]
theorem cut_len {α : Type} (xs : List α) (lo hi : Option Int) : (cut xs lo hi).length ≤ xs.length := by
  rw [← cut_eq0]; unfold cut0; rw [List.length_take, List.length_drop]; omega
theorem cut_to {α : Type} (xs : List α) (k : Nat) : cut xs none (some (k : Int)) = xs.take k := rfl
theorem cut_from {α : Type} (xs : List α) (k : Nat) : cut xs (some (k : Int)) none = xs.drop k := rfl
theorem cut_both {α : Type} (xs : List α) (i j : Nat) : cut xs (some (i : Int)) (some (j : Int)) = (xs.take j).drop i := rfl
theorem cut_toI {α : Type} (xs : List α) {k : Int} (h : 0 ≤ k) : cut xs none (some k) = xs.take k.toNat := by
  obtain ⟨n, rfl⟩ := Int.eq_ofNat_of_zero_le h; exact cut_to xs n
theorem cut_fromI {α : Type} (xs : List α) {k : Int} (h : 0 ≤ k) : cut xs (some k) none = xs.drop k.toNat := by
  obtain ⟨n, rfl⟩ := Int.eq_ofNat_of_zero_le h; exact cut_from xs n
def zSlP (K : PySem.W.Frag) : V → Option Int → Option Int → Hp → VK → Prop := fun x lo hi H Q => match x with
  | .str z => Lim (tl z).length ∧ Q (.str (S (cut (tl z) lo hi))) H
  | .ref p => look H p fun o => match o with
    | some (.lst xs) => ∀ p', H p' = none → Q (.ref p') (upd H p' (.lst (cut xs lo hi)))
    | some (.frz _ (.lst xs)) => ∀ p', H p' = none → Q (.ref p') (upd H p' (.lst (cut xs lo hi)))
    | _ => False
  | _ => False
theorem slp : SlR X (zSlP X.K) := by
  refine sl_imp (sl_str.or sl_list) fun x lo hi H Q h => ?_
  cases x with
  | str z => exact .inl ⟨z, rfl, by rw [len_tl]; exact h.1, by rw [cutS_S]; exact h.2⟩
  | ref p =>
    have h := look_e h
    revert h
    cases e : H p with
    | none => exact fun h => h.elim
    | some o =>
      cases o with
      | lst xs => exact fun h2 => .inr ⟨p, xs, rfl, SqL.of e, (cut_eq0 xs lo hi ▸ h2 : ∀ p', H p' = none → Q (V.ref p') (upd H p' (HO.lst (cut0 xs lo hi))))⟩
      | frz ob u =>
        cases u with
        | lst xs => exact fun h2 => .inr ⟨p, xs, rfl, .inl (.inr ⟨_, e⟩), (cut_eq0 xs lo hi ▸ h2 : ∀ p', H p' = none → Q (V.ref p') (upd H p' (HO.lst (cut0 xs lo hi))))⟩
        | _ => exact fun h => h.elim
      | _ => exact fun h => h.elim
  | _ => exact h.elim
def tPrt (t : TE) : TO := fun σ H Q => t σ H fun x H1 => match x with
  | .int i => Q (some i) H1
  | _ => False
theorem posome (h : PE X a ta) : PO X (some a) (tPrt ta) := by
  refine ⟨fun pins s σ H Q I hw => ?_⟩
  rw [evalPart_some]
  refine thn (h.run pins s σ H _ I hw) fun u s1 ⟨x, H1, I1, r1, q1⟩ => ?_
  cases x with
  | int i =>
    obtain ⟨t, rfl⟩ := r1
    exact ⟨some i, H1, I1, .int i t, q1⟩
  | _ => exact False.elim q1
theorem psl {lo hi : Option Expr} {t1 t2 : TO} {p2 : Pos} (ha : PE X a ta) (hl : PO X lo t1) (hh : PO X hi t2) : PE X (.Subscript a (.Slice lo hi none p2) pos) (tSl (zSlP X.K) ta t1 t2) := pe_slice slp ha hl hh

/-! ### in -/
def occ (a b : List Nat) : Bool := !(Builtin.Str.occurrences (S b) (S a) 0 (S b).length 1).isEmpty
def inP (K : PySem.W.Frag) (x y : V) (H : Hp) (Q : Bool → Prop) : Prop := match y with
  | .str b => (match x with
    | .str a => (match tl a with
      | [c] => Q (decide (c ∈ tl b))
      | l => Q (occ l (tl b)))
    | _ => False)
  | .ref p => look H p fun o => match o with
    | some (.lst xs) => flatV x = true ∧ xs.all flatV = true ∧ Q (inV x xs)
    | some (.tup xs) => flatV x = true ∧ xs.all flatV = true ∧ Q (inV x xs)
    | some (.frz _ (.lst xs)) => flatV x = true ∧ xs.all flatV = true ∧ Q (inV x xs)
    | _ => ∃ xs, (SqL K H p xs ∨ SqT K H p xs) ∧ flatV x = true ∧ xs.all flatV = true ∧ Q (inV x xs)
  | _ => False
theorem inP_e {K : PySem.W.Frag} {x y : V} {H : Hp} {Q : Bool → Prop} (h : inP K x y H Q) :
    (∃ (c : Nat) (z : Str), x = .str ⟨#[c]⟩ ∧ y = .str z ∧ Q (decide (c ∈ z.cps.toList))) ∨ (∃ i j, x = .str i ∧ y = .str j ∧ Q (!(Builtin.Str.occurrences j i 0 j.length 1).isEmpty)) ∨
    ∃ p xs, y = .ref p ∧ (SqL K H p xs ∨ SqT K H p xs) ∧ flatV x = true ∧ xs.all flatV = true ∧ Q (inV x xs) := by
  cases y with
  | str b =>
    cases x with
    | str a =>
      have h' : (match tl a with
        | [c] => Q (decide (c ∈ tl b))
        | l => Q (occ l (tl b))) := h
      split at h'
      · rename_i c e
        exact .inl ⟨c, b, by rw [← S_tl a, e], rfl, h'⟩
      · refine .inr (.inl ⟨a, b, rfl, rfl, ?_⟩)
        unfold occ at h'
        rw [S_tl, S_tl] at h'
        exact h'
    | _ => exact h.elim
  | ref p =>
    have h := look_e h
    revert h
    cases e : H p with
    | none => exact fun ⟨xs, h1, h2⟩ => .inr (.inr ⟨p, xs, rfl, h1, h2⟩)
    | some o =>
      cases o with
      | lst xs => exact fun h2 => .inr (.inr ⟨p, xs, rfl, .inl (SqL.of e), h2⟩)
      | tup xs => exact fun h2 => .inr (.inr ⟨p, xs, rfl, .inr (SqT.of e), h2⟩)
      | frz ob u =>
        cases u with
        | lst xs => exact fun h2 => .inr (.inr ⟨p, xs, rfl, .inl (.inl (.inr ⟨_, e⟩)), h2⟩)
        | _ => exact fun ⟨xs, h1, h2⟩ => .inr (.inr ⟨p, xs, rfl, h1, h2⟩)
      | _ => exact fun ⟨xs, h1, h2⟩ => .inr (.inr ⟨p, xs, rfl, h1, h2⟩)
  | _ => exact h.elim
def zInP (K : PySem.W.Frag) : R2 := fun x y H Q => inP K x y H fun k => Q (.bl k) H
def zNinP (K : PySem.W.Frag) : R2 := fun x y H Q => inP K x y H fun k => Q (.bl (!k)) H
theorem opin : OpR X (compareOp .In) (zInP X.K) := by
  refine op_imp (op_in_sign.or (op_in_str.or op_in_seq)) fun x y H Q h => ?_
  rcases inP_e h with h | h | h
  · exact .inl h
  · exact .inr (.inl h)
  · exact .inr (.inr h)
theorem opnin : OpR X (compareOp .NotIn) (zNinP X.K) := by
  refine op_imp (op_notIn_sign.or (op_notin_str.or op_notIn_seq)) fun x y H Q h => ?_
  rcases inP_e (Q := fun k => Q (.bl (!k)) H) h with h | h | h
  · exact .inl h
  · exact .inr (.inl h)
  · exact .inr (.inr h)

/-! ### statements -/
variable {st : Stmt} {t u : TS} {rest : List Stmt} {tA : TT}
def tIfP (c : TT) (t u : TS) : TS := fun D σ H => c σ H fun b H1 => cnd b (t D σ H1) (u D σ H1)
theorem psif {p q : List Stmt} (hc : PT X c tA) (ha : PSs X p t) (hb : PSs X q u) : PS X (.If c p q pos) (tIfP tA t u) := by
  refine ⟨fun pins s σ H D I h => ?_⟩
  refine wpAny_If (thn (hc.run pins s σ H _ I h) fun d s1 ⟨H1, I1, q1⟩ => ?_)
  have q1 := cnd_e q1
  cases d with
  | true => exact ha.run pins s1 σ H1 D I1 q1
  | false => exact hb.run pins s1 σ H1 D I1 q1
/-- o[i] = e, o a list -/
def zSetP : TSet := fun o i v H Q => match o with
  | .ref p => (match i with
    | .int k => look H p fun ob => (match ob with
      | some (.lst xs) => ∃ j, ixN xs.length k = some j ∧ Q (upd H p (.lst (xs.set j v)))
      | _ => False)
    | _ => False)
  | _ => False
theorem setp : PSet X zSetP := by
  have base : ∀ o i v H Q, zSetP o i v H Q → rSetL o i v H Q := fun o i v H Q h => by
    cases o with
    | ref p => cases i with
      | int k =>
        have h := look_e h
        revert h
        cases e : H p with
        | none => exact fun h => h.elim
        | some ob =>
          cases ob with
          | lst xs => exact fun ⟨j, h1, h2⟩ => ⟨p, xs, k, j, rfl, rfl, e, h1, h2⟩
          | _ => exact fun h => h.elim
      | _ => exact h.elim
    | _ => exact h.elim
  intro pins s σ H o i v ov iv vv Q I r1 r2 r3 h
  exact set_list pins s σ H o i v ov iv vv Q I r1 r2 r3 (base _ _ _ _ _ h)
end
end Ta

set_option Elab.async false
set_option linter.all false
set_option maxRecDepth 100000
set_option maxHeartbeats 1000000
namespace Ta
open PySem PySem.Spec PyProof.Rows L2

/-! ### defs, methods, classes of the text -/
section
variable (P : Program) (w : World) (K : PySem.W.Frag) (mg : Str → Option Value) (base : Heap)
structure Fn (x : Str) (lv : Nat) (dvs : List V) (sp : Sp) : Prop where
  ex : ∃ (f : Addr) (fd : FuncData) (ps : List Str) (ds : List Value), FnOk P w K mg base (L2.CX P w) lv f fd ps sp ∧ mg x = some (.ref f) ∧ PySem.W.keepIn K (.ref f) = true ∧ Vals dvs ds ∧ Binds K fd ps ds
structure Me (C : Addr) (m : Str) (lv : Nat) (dvs : List V) (sp : Sp) : Prop where
  ex : ∃ (f : Addr) (fd : FuncData) (ps : List Str) (ds : List Value), FnOk P w K mg base (L2.CX P w) lv f fd ps sp ∧ Meth K C m f ∧ Vals dvs ds ∧ Binds K fd ps ds
  cl : Cls K C
structure Mks (x : Str) (C : Addr) (lv : Nat) (dvs : List V) (sp : Sp) : Prop where
  ex : ∃ (f : Addr) (fd : FuncData) (ps : List Str) (ds : List Value), FnOk P w K mg base (L2.CX P w) lv f fd ps sp ∧ Mk K C f ∧ mg x = some (.ref C) ∧ Vals dvs ds ∧ Binds K fd ps ds
end
abbrev WF : WX := fun _ _ _ _ => False
/-- f(..) -/
def tCal (sp : Sp) (dvs : List V) (W : WX) (t : TA) : TE := fun σ H Q => t σ H fun vs H1 => sp (vs ++ dvs) H1 Q fun c d H' => W c d σ H'
/-- C(..) -/
def tMak (C : Addr) (sp : Sp) (dvs : List V) (W : WX) (t : TA) : TE := fun σ H Q => t σ H fun vs H1 => ∀ x dx, H1 x = none → H1 dx = none → dx ≠ x →
  sp (.ref x :: (vs ++ dvs)) (upd (upd H1 dx (.own x)) x (.ins C dx [])) (fun v H2 => v = .non ∧ Q (.ref x) H2) fun c d H' => W c d σ H'
abbrev MS := List (Addr × List V × Sp)
structure pick (ms : MS) (C : Addr) (k : List V → Sp → Prop) : Prop where
  out : ∃ e ∈ ms, e.1 = C ∧ k e.2.1 e.2.2
theorem pick_1 {C : Addr} {dvs : List V} {sp : Sp} {k : List V → Sp → Prop} {r : MS} (h : k dvs sp) : pick ((C, dvs, sp) :: r) C k := by refine ⟨?_⟩; exact ⟨_, List.mem_cons_self, rfl, h⟩
theorem pick_n {ms : MS} {C : Addr} {k : List V → Sp → Prop} {e} (h : pick ms C k) : pick (e :: ms) C k := by
  replace h := h.out; refine ⟨?_⟩
  obtain ⟨e', h1, h2⟩ := h
  exact ⟨e', List.mem_cons_of_mem _ h1, h2⟩
/-- o.m(..) -/
def tMe (ms : MS) (m : Str) (W : WX) (ta : TE) (t : TA) : TE := fun σ H Q => ta σ H fun x H1 => match x with
  | .ref a => look H1 a fun o => (match o with
    | some (.ins C dx fs) => pick ms C fun dvs sp => fs.lookup m = none ∧ t σ H1 fun vs H2 => sp (.ref a :: (vs ++ dvs)) H2 Q fun c d H' => W c d σ H'
    | _ => False)
  | _ => False
section
variable {X : Cx} {x m : Str} {p pos apos : Pos} {e o : Expr} {es : List Expr} {ta : TE} {t : TA} {lv : Nat} {dvs : List V} {sp : Sp} {W : WX} {C : Addr}
theorem pcall (F : Fn X.prog X.w X.K X.mg X.base x lv dvs sp) (hr : Room lv X.A) (tk : Takes X W) (ha : PA X (e :: es) t) (hg : Gl X x := by rfl) (hdb : (x == ("__debug__" : Str)) = false := by decide +kernel)
    (he : starEach (e :: es) X.env = (false, eval e X.env) :: starEach es X.env := by rfl) (hpl : (backTo pos (starEach es X.env)).any (·.1) = false := by rfl) :
    PE X (.Call (.Name x p) (e :: es) [] pos) (tCal sp dvs W t) := by
  obtain ⟨f, fd, ps, ds, F, hm, hk, hd, hb⟩ := F.ex
  refine ⟨fun pins s σ H Q I h => ?_⟩
  refine wpAny_Call_Name_kw (ld_glob I hg hm ?_ hdb)
  refine PySem.W.callWith_K (h₀ := X.base) I.ok.mod.kin hk (thn (ha.run pos pins s σ H _ I h) fun us s1 ⟨vs, H1, I1, r, q⟩ => ⟨I1.kIn, ?_⟩) he hpl
  exact run_fnSD (E := WE W) F hr hb hd (passAt tk σ) I1 r q
theorem pcall0 (F : Fn X.prog X.w X.K X.mg X.base x lv dvs sp) (hr : Room lv X.A) (tk : Takes X W) (hg : Gl X x := by rfl) (hdb : (x == ("__debug__" : Str)) = false := by decide +kernel) :
    PE X (.Call (.Name x p) [] [] pos) (tCal sp dvs W tNil) := by
  obtain ⟨f, fd, ps, ds, F, hm, hk, hd, hb⟩ := F.ex
  refine ⟨fun pins s σ H Q I h => ?_⟩
  refine wpAny_Call_Name_kw (ld_glob I hg hm ?_ hdb)
  exact PySem.W.callWith_K0 I.kIn hk (run_fnSD (E := WE W) (us := []) F hr hb hd (passAt tk σ) I .nil h)
theorem run_makeS {pins : List (Addr × Obj)} {σ : St} {H : Hp} {s : Shared} {Q : VK} {us ds : List Value} {vs : List V} {f : Addr} {fd : FuncData} {ps : List Str} (M : Mk X.K C f) (F : FnOk X.prog X.w X.K X.mg X.base (L2.CX X.prog X.w) lv f fd ps sp) (hr : Room (lv + 1) X.A)
    (hb : Binds X.K fd ps ds) (hd : Vals dvs ds) (tk : Takes X W) (I : Inv X pins σ H s) (r : Vals vs us)
    (h : ∀ x dx, H x = none → H dx = none → dx ≠ x → sp (.ref x :: (vs ++ dvs)) (upd (upd H dx (.own x)) x (.ins C dx [])) (fun v H2 => v = .non ∧ Q (.ref x) H2) fun c d H' => W c d σ H') :
    wpAny (model X.prog X.w) X.A (call (.ref C) us) (EP X pins σ Q) X.xe s := by
  have hq := h (s.heap.objs.size + 1) s.heap.objs.size (I.hok.fresh (Nat.le_succ _)) (I.hok.fresh (Nat.le_refl _)) (Nat.ne_of_lt (Nat.lt_succ_self _))
  have I2 := Inv.made (C := C) I
  have r2 : Vals (V.ref (s.heap.objs.size + 1) :: (vs ++ dvs)) (Value.ref (s.heap.objs.size + 1) :: (us ++ ds)) := .cons rfl (r.append hd)
  have hl : (Value.ref (s.heap.objs.size + 1) :: us ++ ds).length = ps.length := by
    have e := r2.length
    rw [F.len _ _ _ _ hq] at e
    exact e.symm
  refine wpAny_call (make_map (f := f) I.kIn M.makes M.init (beq_iff_eq.mp M.fn) (codeAny_mono (F.run _ X.stack _ _ ⟨Value.ref (s.heap.objs.size + 1) :: us, []⟩ (Value.ref (s.heap.objs.size + 1) :: (us ++ ds)) _ _ (WE W σ) (hr.make C us [])
    (I2.env0.make C us []) (hb _ (Value.ref (s.heap.objs.size + 1) :: us) I2.kIn hl) r2 hq) fun r s' hq' => ?_))
  cases r with
  | error e => exact passAt tk σ pins _ _ e s' I2 hq'
  | ok fl =>
    cases fl with
    | ret u =>
      obtain ⟨v, H', I3, rv, ev, q3⟩ := I2.after hq'
      subst ev
      exact ⟨rv, ⟨V.ref (s.heap.objs.size + 1), H', I3, rfl, q3⟩⟩
    | next => exact False.elim hq'
    | brk => exact False.elim hq'
    | cont => exact False.elim hq'
theorem pmak (F : Mks X.prog X.w X.K X.mg X.base x C lv dvs sp) (hr : Room (lv + 1) X.A) (tk : Takes X W) (ha : PA X (e :: es) t) (hg : Gl X x := by rfl) (hdb : (x == ("__debug__" : Str)) = false := by decide +kernel)
    (he : starEach (e :: es) X.env = (false, eval e X.env) :: starEach es X.env := by rfl) (hpl : (backTo pos (starEach es X.env)).any (·.1) = false := by rfl) :
    PE X (.Call (.Name x p) (e :: es) [] pos) (tMak C sp dvs W t) := by
  obtain ⟨f, fd, ps, ds, F, M, hm, hd, hb⟩ := F.ex
  refine ⟨fun pins s σ H Q I h => ?_⟩
  refine wpAny_Call_Name_kw (ld_glob I hg hm ?_ hdb)
  refine PySem.W.callWith_K (h₀ := X.base) I.ok.mod.kin M.kp (thn (ha.run pos pins s σ H _ I h) fun us s1 ⟨vs, H1, I1, r, q⟩ => ⟨I1.kIn, ?_⟩) he hpl
  exact run_makeS M F hr hb hd tk I1 r q
theorem tMe_e {ms : MS} {a : Addr} {H : Hp} {k : List V → Sp → List (Str × V) → Prop} (h : look H a fun o => (match o with
    | some (.ins C dx fs) => pick ms C fun dvs sp => k dvs sp fs
    | _ => False)) : ∃ C dx fs, H a = some (.ins C dx fs) ∧ ∃ e ∈ ms, e.1 = C ∧ k e.2.1 e.2.2 fs := by
  have h := look_e h
  revert h
  cases e : H a with
  | none => exact fun h => h.elim
  | some o =>
    cases o with
    | ins C dx fs => exact fun h => ⟨C, dx, fs, rfl, by replace h := h.out; exact h⟩
    | _ => exact fun h => h.elim
theorem pmeth {ms : MS} {pl : Sem Bool} (hms : ∀ e ∈ ms, Me X.prog X.w X.K X.mg X.base e.1 m lv e.2.1 e.2.2) (hr : Room lv X.A) (tk : Takes X W) (ho : PE X o ta) (ha : PA X (e :: es) t)
    (hst : starEach (e :: es) X.env = (false, eval e X.env) :: starEach es X.env := by rfl) (hpl : (backTo pos (starEach es X.env)).any (·.1) = false := by rfl)
    (ht : eval (.Call (.Attribute o m apos) (e :: es) [] pos) X.env = (do
      let ov ← eval o X.env
      standAt apos.atName
      let (f, first) ← holding [ov] (getMethod ov m pl)
      callWith pos f first (backTo pos (starEach (e :: es) X.env)) (backToKw pos (keywordEach [] X.env))) := by rfl) :
    PE X (.Call (.Attribute o m apos) (e :: es) [] pos) (tMe ms m W ta t) := by
  refine ⟨fun pins s σ H Q I h => ?_⟩
  refine PySem.W.methodCall_KW (pl := pl) (thn (ho.run pins s σ H _ I h) fun u s1 ⟨x, H1, I1, rx, q⟩ => ?_) ht
  cases x with
  | ref a =>
    obtain rfl : u = Value.ref a := rx
    obtain ⟨C, dx, fs, ea, en, hen, eC, l, q⟩ := tMe_e (k := fun dvs sp fs => fs.lookup m = none ∧ t σ H1 fun vs H2 => sp (.ref a :: (vs ++ dvs)) H2 Q fun c d H' => W c d σ H') q
    obtain ⟨⟨f, fd, ps, ds, F, hm, hd, hb⟩, cl⟩ := hms en hen
    rw [← eC] at ea
    refine getmeth_ok I1 ea cl hm l ?_
    refine PySem.W.callWith_K (first := [.ref a]) (h₀ := X.base) I.ok.mod.kin hm.kp (thn (ha.run pos pins s1 σ H1 _ I1 q) fun us s2 ⟨vs, H2, I2, r, q2⟩ => ⟨I2.kIn, ?_⟩) hst hpl
    exact run_fnSD (E := WE W) (us := .ref a :: us) (vs := .ref a :: vs) F hr hb hd (passAt tk σ) I2 (.cons rfl r) q2
  | _ => exact False.elim q
theorem pmeth0 {ms : MS} {pl : Sem Bool} (hms : ∀ e ∈ ms, Me X.prog X.w X.K X.mg X.base e.1 m lv e.2.1 e.2.2) (hr : Room lv X.A) (tk : Takes X W) (ho : PE X o ta)
    (ht : eval (.Call (.Attribute o m apos) [] [] pos) X.env = (do
      let ov ← eval o X.env
      standAt apos.atName
      let (f, first) ← holding [ov] (getMethod ov m pl)
      callWith pos f first (backTo pos (starEach [] X.env)) (backToKw pos (keywordEach [] X.env))) := by rfl) :
    PE X (.Call (.Attribute o m apos) [] [] pos) (tMe ms m W ta tNil) := by
  refine ⟨fun pins s σ H Q I h => ?_⟩
  refine PySem.W.methodCall_KW (pl := pl) (thn (ho.run pins s σ H _ I h) fun u s1 ⟨x, H1, I1, rx, q⟩ => ?_) ht
  cases x with
  | ref a =>
    obtain rfl : u = Value.ref a := rx
    obtain ⟨C, dx, fs, ea, en, hen, eC, l, q⟩ := tMe_e (k := fun dvs sp fs => fs.lookup m = none ∧ tNil σ H1 fun vs H2 => sp (.ref a :: (vs ++ dvs)) H2 Q fun c d H' => W c d σ H') q
    obtain ⟨⟨f, fd, ps, ds, F, hm, hd, hb⟩, cl⟩ := hms en hen
    rw [← eC] at ea
    refine getmeth_ok I1 ea cl hm l ?_
    exact PySem.W.callWith_K0 (first := [.ref a]) I1.kIn hm.kp (run_fnSD (E := WE W) (us := [.ref a]) (vs := [.ref a]) F hr hb hd (passAt tk σ) I1 (.cons rfl .nil) q)
  | _ => exact False.elim q

/-! ### attributes -/
structure fld (fs : List (Str × V)) (f : Str) (k : V → Prop) : Prop where
  out : ∃ v, fs.lookup f = some v ∧ k v
theorem fld_i {fs : List (Str × V)} {f : Str} {k : V → Prop} {v : V} (h : fs.lookup f = some v) (q : k v) : fld fs f k := by refine ⟨?_⟩; exact ⟨v, h, q⟩
theorem fld_e {fs : List (Str × V)} {f : Str} {k : V → Prop} (q : fld fs f k) : ∃ v, fs.lookup f = some v ∧ k v := by replace q := q.out; exact q
/-- e.f, a field of an instance -/
def tAt (K : PySem.W.Frag) (ta : TE) (f : Str) : TE := fun σ H Q => ta σ H fun x H1 => match x with
  | .ref a => look H1 a fun o => (match o with
    | some (.ins C dx fs) => Cls K C ∧ NoAttr K C f ∧ fld fs f fun v => Q v H1
    | _ => False)
  | _ => False
theorem patt {f : Str} (he : PE X e ta) (hb : attributeBase e f X.env (eval e X.env) = eval e X.env := by rfl) : PE X (.Attribute e f pos) (tAt X.K ta f) := by
  refine ⟨fun pins s σ H Q I h => ?_⟩
  refine attr_of hb (thn (he.run pins s σ H _ I h) fun u s1 ⟨x, H1, I1, rx, q⟩ => ?_)
  cases x with
  | ref a =>
    obtain rfl : u = Value.ref a := rx
    have q := look_e q
    cases ea : H1 a with
    | none => rw [ea] at q; exact q.elim
    | some o =>
      rw [ea] at q
      cases o with
      | ins C dx fs =>
        obtain ⟨c, n, q⟩ := q
        obtain ⟨v, l, q⟩ := fld_e q
        exact getattr_ok I1 ea c n l fun u' s2 I2 r2 => ⟨v, H1, I2, r2, q⟩
      | _ => exact q.elim
  | _ => exact False.elim q
/-- e.f, a constant of the instance's class -/
def tAtC (K : PySem.W.Frag) (ta : TE) (f : Str) (v0 : V) : TE := fun σ H Q => ta σ H fun x H1 => match x with
  | .ref a => look H1 a fun o => (match o with
    | some (.ins C dx fs) => Cls K C ∧ (∃ u, Con K C f v0 u) ∧ fs.lookup f = none ∧ Q v0 H1
    | _ => False)
  | _ => False
theorem pattC {f : Str} (v0 : V) (he : PE X e ta) (hb : attributeBase e f X.env (eval e X.env) = eval e X.env := by rfl) : PE X (.Attribute e f pos) (tAtC X.K ta f v0) := by
  refine ⟨fun pins s σ H Q I h => ?_⟩
  refine attr_of hb (thn (he.run pins s σ H _ I h) fun u s1 ⟨x, H1, I1, rx, q⟩ => ?_)
  cases x with
  | ref a =>
    obtain rfl : u = Value.ref a := rx
    have q := look_e q
    cases ea : H1 a with
    | none => rw [ea] at q; exact q.elim
    | some o =>
      rw [ea] at q
      cases o with
      | ins C dx fs =>
        obtain ⟨c, ⟨u, n⟩, l, q⟩ := q
        exact getcon_ok I1 ea c n l fun s2 I2 => ⟨v0, H1, I2, n.rel, q⟩
      | _ => exact q.elim
  | _ => exact False.elim q
/-- C.f, C a class of the text by its name -/
structure ClsConst (K : PySem.W.Frag) (mg : Str → Option Value) (x f : Str) (v : V) : Prop where
  ex : ∃ C mc u, mg x = some (.ref C) ∧ ClX.CRead K C mc ∧ ClX.CVal K C mc f v u
theorem pclv {f : Str} {v0 : V} (h : ClsConst X.K X.mg x f v0) (hg : Gl X x := by rfl) (hdb : (x == ("__debug__" : Str)) = false := by decide +kernel)
    (hb : attributeBase (.Name x p) f X.env (eval (.Name x p) X.env) = eval (.Name x p) X.env := by rfl) : PE X (.Attribute (.Name x p) f pos) (tC v0) := by
  obtain ⟨C, mc, u, hm, r, c⟩ := h.ex
  exact pe_imp (ClX.pe_cval (pe_glob (v := .ref C) hg hm rfl hdb) hb) fun _ _ _ h => ⟨C, mc, v0, u, rfl, r, c, h⟩
/-- a module's constant -/
structure GlobV (mg : Str → Option Value) (x : Str) (v : V) : Prop where
  ex : ∃ u, mg x = some u ∧ RelV v u
theorem pglo {v0 : V} (h : GlobV X.mg x v0) (hg : Gl X x := by rfl) (hdb : (x == ("__debug__" : Str)) = false := by decide +kernel) : PE X (.Name x p) (tC v0) := by
  obtain ⟨u, hm, r⟩ := h.ex
  exact pe_glob hg hm r hdb
/-- a built-in type by its name -/
theorem pbty {T : String} (hm : X.mg x = none) (hv : bootBuiltins x = some (.type T) := by decide +kernel) (hg : Gl X x := by rfl) (hn : x ≠ "__name__" := by decide +kernel) (hd : (x == ("__debug__" : Str)) = false := by decide +kernel) : PE X (.Name x p) (tC (.ty T)) :=
  pe_bltn (v := .ty T) hg hm hv rfl hn hd
/-- o.f = e -/
def sAt (K : PySem.W.Frag) (ta tv : TE) (f : Str) : TS := fun D σ H => tv σ H fun y H1 => ta σ H1 fun x H2 => match x with
  | .ref a => look H2 a fun ob => (match ob with
    | some (.ins C dx fs) => Cls K C ∧ NoAttr K C f ∧ fs.length < 1000 ∧ D.nx σ (upd H2 a (.ins C dx (putF f y fs)))
    | _ => False)
  | _ => False
theorem sAt_e {K : PySem.W.Frag} {x : V} {f : Str} {y : V} {H : Hp} {k : Hp → Prop} (h : match x with
  | .ref a => look H a fun ob => (match ob with
    | some (.ins C dx fs) => Cls K C ∧ NoAttr K C f ∧ fs.length < 1000 ∧ k (upd H a (.ins C dx (putF f y fs)))
    | _ => False)
  | _ => False) : ∃ a C dx fs, x = .ref a ∧ H a = some (.ins C dx fs) ∧ Cls K C ∧ NoAttr K C f ∧ fs.length < 1000 ∧ k (upd H a (.ins C dx (putF f y fs))) := by
  cases x with
  | ref a =>
    have h := look_e h
    cases ea : H a with
    | none => rw [ea] at h; exact h.elim
    | some o =>
      rw [ea] at h
      cases o with
      | ins C dx fs => exact ⟨a, C, dx, fs, rfl, ea, h⟩
      | _ => exact h.elim
  | _ => exact h.elim
theorem psat {f : Str} {value : Expr} {tv : TE} {pos' : Pos} (ha : PE X o ta) (hv : PE X value tv) (hs : swapsWith value (some (.Attribute o f pos')) pos.line X.env = pure false := by rfl) : PS X (.Assign [.Attribute o f pos'] value pos) (sAt X.K ta tv f) := by
  refine ⟨fun pins s σ H D I h => ?_⟩
  refine plainObj_wpAny_Assign_Attribute (thn (hv.run pins s σ H _ I h) fun v s1 ⟨y, H1, I1, r1, q1⟩ => thn (ha.run pins s1 σ H1 _ I1 q1) fun u s2 ⟨x, H2, I2, r2, q⟩ => ?_) hs
  obtain ⟨a, C, dx, fs, rfl, ea, c, n, hl, q⟩ := sAt_e q
  obtain rfl : u = Value.ref a := r2
  exact setattr_ok I2 ea c n hl r1 fun s' I' => ⟨σ, _, I', q⟩
end

/-! ### built-in calls -/
section
variable {X : Cx}
def lenP (K : PySem.W.Frag) (x : V) (H : Hp) (Q : Nat → Prop) : Prop := match x with
  | .str z => Lim (tl z).length ∧ Q (tl z).length
  | .ref p => look H p fun o => (match o with
    | some (.lst xs) => Q xs.length
    | some (.tup xs) => Q xs.length
    | some (.frz _ (.lst xs)) => Q xs.length
    | _ => ∃ xs, (SqL K H p xs ∨ SqT K H p xs) ∧ Q xs.length)
  | _ => False
def one (xs : List V) (k : V → Prop) : Prop := match xs with
  | [x] => k x
  | _ => False
def two (xs : List V) (k : V → V → Prop) : Prop := match xs with
  | [x, y] => k x y
  | _ => False
theorem one_e {xs : List V} {k : V → Prop} (h : one xs k) : ∃ x, xs = [x] ∧ k x := by
  match xs, h with
  | [x], h => exact ⟨x, rfl, h⟩
theorem two_e {xs : List V} {k : V → V → Prop} (h : two xs k) : ∃ x y, xs = [x, y] ∧ k x y := by
  match xs, h with
  | [x, y], h => exact ⟨x, y, rfl, h⟩
def zLen (K : PySem.W.Frag) : List V → Hp → VK → Prop := fun xs H Q => one xs fun x => lenP K x H fun n => Q (.int n) H
theorem crlen : CallR X (.builtin "len") (zLen X.K) := by
  refine cr_imp (call_len_seq.or call_len_str) fun xs H Q h => ?_
  obtain ⟨x, rfl, h⟩ := one_e h
  cases x with
  | str z => exact .inr ⟨z, rfl, by rw [len_tl]; exact h.1, by rw [len_tl]; exact h.2⟩
  | ref p =>
    have h := look_e h
    revert h
    cases e : H p with
    | none => exact fun ⟨xs, h1, h2⟩ => .inl ⟨p, xs, rfl, h1, h2⟩
    | some o =>
      cases o with
      | lst xs => exact fun h2 => .inl ⟨p, xs, rfl, .inl (SqL.of e), h2⟩
      | tup xs => exact fun h2 => .inl ⟨p, xs, rfl, .inr (SqT.of e), h2⟩
      | frz ob u =>
        cases u with
        | lst xs => exact fun h2 => .inl ⟨p, xs, rfl, .inl (.inl (.inr ⟨_, e⟩)), h2⟩
        | _ => exact fun ⟨xs, h1, h2⟩ => .inl ⟨p, xs, rfl, h1, h2⟩
      | _ => exact fun ⟨xs, h1, h2⟩ => .inl ⟨p, xs, rfl, h1, h2⟩
  | _ => exact h.elim
def zAbs : List V → Hp → VK → Prop := fun xs H Q => one xs fun x => match x with
  | .int i => Q (.int (if i < 0 then -i else i)) H
  | _ => False
theorem crabs : CallR X (.builtin "abs") zAbs := cr_imp call_abs fun xs H Q h => by
  obtain ⟨x, rfl, h⟩ := one_e h
  cases x with
  | int i => exact ⟨i, rfl, h⟩
  | _ => exact h.elim
def zInt : List V → Hp → VK → Prop := fun xs H Q => one xs fun x => match x with
  | .int i => Q (.int i) H
  | .bl b => Q (.int (if b then 1 else 0)) H
  | _ => False
theorem crint : CallR X (.type "int") zInt := cr_imp call_int1 fun xs H Q h => by
  obtain ⟨x, rfl, h⟩ := one_e h
  cases x with
  | int i => exact .inl ⟨i, rfl, h⟩
  | bl i => exact .inr ⟨i, rfl, h⟩
  | _ => exact h.elim
def zMax2 : List V → Hp → VK → Prop := fun xs H Q => two xs fun x y => match x with
  | .int i => (match y with
    | .int j => Q (.int (max i j)) H
    | _ => False)
  | _ => False
def zMin2 : List V → Hp → VK → Prop := fun xs H Q => two xs fun x y => match x with
  | .int i => (match y with
    | .int j => Q (.int (min i j)) H
    | _ => False)
  | _ => False
theorem crmax (hc : X.calm = true) : CallR X (.builtin "max") zMax2 := cr_imp (call_max2 hc) fun xs H Q h => by
  obtain ⟨x, y, rfl, h⟩ := two_e h
  cases x with
  | int i => cases y with
    | int j =>
      refine ⟨i, j, rfl, ?_⟩
      have e : (if j > i then j else i) = max i j := by omega
      rw [e]; exact h
    | _ => exact h.elim
  | _ => exact h.elim
theorem crmin (hc : X.calm = true) : CallR X (.builtin "min") zMin2 := cr_imp (call_min2 hc) fun xs H Q h => by
  obtain ⟨x, y, rfl, h⟩ := two_e h
  cases x with
  | int i => cases y with
    | int j =>
      refine ⟨i, j, rfl, ?_⟩
      have e : (if j < i then j else i) = min i j := by omega
      rw [e]; exact h
    | _ => exact h.elim
  | _ => exact h.elim
/-! isinstance -/
def isP (K : PySem.W.Frag) (x : V) (c : Value) (H : Hp) (Q : Bool → Prop) : Prop := match x with
  | .str _ => ∃ b, PySem.W.kitOne K (.type "str") c = some b ∧ Q b
  | .int _ => ∃ b, PySem.W.kitOne K (.type "int") c = some b ∧ Q b
  | .bl _ => ∃ b, PySem.W.kitOne K (.type "bool") c = some b ∧ Q b
  | .non => ∃ b, PySem.W.kitOne K (.type "NoneType") c = some b ∧ Q b
  | .ref p => ∃ t b, TyX K H (.ref p) t ∧ PySem.W.kitOne K t c = some b ∧ Q b
  | _ => False
theorem isP_e {K : PySem.W.Frag} {x : V} {c : Value} {H : Hp} {Q : Bool → Prop} (h : isP K x c H Q) : ∃ t b, TyX K H x t ∧ PySem.W.kitOne K t c = some b ∧ Q b := by
  cases x with
  | str z => obtain ⟨b, h⟩ := h; exact ⟨_, b, .base (.str z), h⟩
  | int z => obtain ⟨b, h⟩ := h; exact ⟨_, b, .base (.int z), h⟩
  | bl z => obtain ⟨b, h⟩ := h; exact ⟨_, b, .base (.bl z), h⟩
  | non => obtain ⟨b, h⟩ := h; exact ⟨_, b, .base .non, h⟩
  | ref p => exact h
  | _ => exact h.elim
def zIs (K : PySem.W.Frag) : List V → Hp → VK → Prop := fun xs H Q => two xs fun x c => match c with
  | .ty n => isP K x (.type n) H fun b => Q (.bl b) H
  | .ref C => isP K x (.ref C) H fun b => Q (.bl b) H
  | _ => False
theorem cris : CallR X (.builtin "isinstance") (zIs X.K) := cr_imp call_isi fun xs H Q h => by
  obtain ⟨x, c, rfl, h⟩ := two_e h
  cases c with
  | ty n => obtain ⟨t, b, h1, h2, h3⟩ := isP_e h; exact ⟨x, _, t, _, b, rfl, .ty n, h1, h2, h3⟩
  | ref C => obtain ⟨t, b, h1, h2, h3⟩ := isP_e h; exact ⟨x, _, t, _, b, rfl, .own C, h1, h2, h3⟩
  | _ => exact h.elim
variable {x : Str} {p pos : Pos} {e : Expr} {es : List Expr} {t : TA} {id T : String} {r : List V → Hp → VK → Prop}
theorem pcb (hc : CallR X (.builtin id) r) (hm : X.mg x = none) (ha : PA X (e :: es) t) (hv : bootBuiltins x = some (.builtin id) := by decide +kernel) (hg : Gl X x := by rfl) (hn : x ≠ "__name__" := by decide +kernel) (hdb : (x == ("__debug__" : Str)) = false := by decide +kernel)
    (he : starEach (e :: es) X.env = (false, eval e X.env) :: starEach es X.env := by rfl) (hpl : (backTo pos (starEach es X.env)).any (·.1) = false := by rfl) : PE X (.Call (.Name x p) (e :: es) [] pos) (tCB r t) := pe_callB hc hg hm hv ha hn hdb he hpl
theorem pct (hc : CallR X (.type T) r) (hm : X.mg x = none) (ha : PA X (e :: es) t) (hv : bootBuiltins x = some (.type T) := by decide +kernel) (hg : Gl X x := by rfl) (hn : x ≠ "__name__" := by decide +kernel) (hdb : (x == ("__debug__" : Str)) = false := by decide +kernel)
    (he : starEach (e :: es) X.env = (false, eval e X.env) :: starEach es X.env := by rfl) (hpl : (backTo pos (starEach es X.env)).any (·.1) = false := by rfl) : PE X (.Call (.Name x p) (e :: es) [] pos) (tCB r t) := pe_callTy hc hg hm hv ha hn hdb he hpl
/-! methods of texts and lists -/
structure joi (vs : List V) (a : List Nat) (k : List Nat → Prop) : Prop where
  out : ∃ ys : List (List Nat), vs = ys.map (fun l => V.str (S l)) ∧ (ys.map List.length).sum + ys.length * a.length ≤ 16777216 ∧ k (TL.joinL a ys)
theorem joi_e {vs : List V} {a : List Nat} {k : List Nat → Prop} (h : joi vs a k) : ∃ ys : List (List Nat), vs = ys.map (fun l => V.str (S l)) ∧ (ys.map List.length).sum + ys.length * a.length ≤ 16777216 ∧ k (TL.joinL a ys) := by replace h := h.out; exact h
def zJoin (K : PySem.W.Frag) : V → List V → Hp → VK → Prop := fun x xs H Q => match x with
  | .str a => one xs fun y => (match y with
    | .ref p => look H p fun o => (match o with
      | some (.lst vs) => joi vs (tl a) fun t => Q (.str (S t)) H
      | some (.tup vs) => joi vs (tl a) fun t => Q (.str (S t)) H
      | _ => False)
    | _ => False)
  | _ => False
theorem mtjoin : MtR X "str.join" (zJoin X.K) := by
  refine mt_imp mt_join fun x xs H Q h => ?_
  cases x with
  | str a =>
    obtain ⟨y, rfl, h⟩ := one_e h
    cases y with
    | ref p =>
      have fin : ∀ vs, SqL X.K H p vs ∨ SqT X.K H p vs → (∃ ys : List (List Nat), vs = ys.map (fun l => V.str (S l)) ∧ (ys.map List.length).sum + ys.length * (tl a).length ≤ 16777216 ∧ Q (.str (S (TL.joinL (tl a) ys))) H) →
          ∃ a' p', ∃ ys : List Str, V.str a = .str a' ∧ [V.ref p] = [.ref p'] ∧ (SqL X.K H p' (ys.map V.str) ∨ SqT X.K H p' (ys.map V.str)) ∧ (ys.map (·.length)).sum + ys.length * a'.length ≤ 16777216 ∧ Q (.str (Txt.join a' ys)) H := by
        rintro vs hs ⟨ys, rfl, h1, h2⟩
        refine ⟨a, p, ys.map S, rfl, rfl, ?_, ?_, ?_⟩
        · rw [List.map_map]; exact hs
        · rw [List.map_map, List.length_map, len_tl]
          have e : ((fun z : Str => z.length) ∘ S) = List.length := funext fun l => by show (S l).length = l.length; rw [len_tl]
          rw [e]; exact h1
        · rw [TL.join_eq]
          have e : Str.join a (ys.map S) = S (TL.joinL (tl a) ys) := ext_tl ((TL.tl_join a (ys.map S)).trans (by
            rw [List.map_map]
            have e2 : (TL.tl ∘ S) = id := funext fun l => rfl
            rw [e2, List.map_id]))
          rw [e]; exact h2
      have h := look_e h
      revert h
      cases e : H p with
      | none => exact fun h => h.elim
      | some o =>
        cases o with
        | lst vs => exact fun h => fin vs (.inl (SqL.of e)) (joi_e h)
        | tup vs => exact fun h => fin vs (.inr (SqT.of e)) (joi_e h)
        | _ => exact fun h => h.elim
    | _ => exact h.elim
  | _ => exact h.elim
variable {o : Expr} {to : TE} {name : Str} {apos cpos : Pos}
/-- text.m(..) -/
def tSM (r : V → List V → Hp → VK → Prop) (to : TE) (t : TA) : TE := fun σ H Q => to σ H fun x H1 => match x with
  | .str z => t σ H1 fun xs H2 => r (.str z) xs H2 Q
  | _ => False
theorem psm {mid : String} {r : V → List V → Hp → VK → Prop} (slot : Slot "str" name mid) (hty : typeOf (.builtin mid) = pure (.type "method_descriptor")) (hm : MtR X mid r) (ho : PE X o to) (ha : PA X (e :: es) t)
    (hbase : attributeBase o name X.env (eval o X.env) = eval o X.env := by rfl)
    (hfew : ((backTo cpos (starEach (e :: es) X.env)).all (fun x => !x.1) && (backToKw cpos (keywordEach [] X.env)).all (fun x => x.1.isSome)
      && decide ((e :: es).length + ([] : List Keyword).length + (if ([] : List Keyword).isEmpty then 0 else 1) < 30)) = true := by rfl)
    (hline : (apos.endLine == cpos.line) = true := by rfl) (hs : starEach (e :: es) X.env = (false, eval e X.env) :: starEach es X.env := by rfl) (hplain : (backTo cpos (starEach es X.env)).any (·.1) = false := by rfl) :
    PE X (.Call (.Attribute o name apos) (e :: es) [] cpos) (tSM r to t) := by
  refine ⟨fun pins s σ H Q I h => ?_⟩
  refine wpAny_Call_method_late hbase hfew hline rfl (thn (ho.run pins s σ H _ I h) fun v s1 ⟨x, H1, I1, r1, q1⟩ => ?_)
  cases x with
  | str z =>
    obtain ⟨h1, h2⟩ := tyV_is (T := "str") (x := .str z) I1 r1 rfl
    refine ⟨"str", mid, F.plainAttrs_str, slot, hty, h1, h2, ?_⟩
    have hA := ha.run cpos pins s1 σ H1 _ I1 q1
    rw [hs] at hA ⊢
    refine Calls.callWith_builtin (by show (false || (backTo cpos (starEach es X.env)).any (·.1)) = false; rw [hplain] <;> rfl) (Calls.evalArgs_plain ?_)
    exact thn hA fun us s2 ⟨vs, H2, I2, r2, q2⟩ => hm pins s2 σ H2 _ vs v us Q I2 r1 r2 q2
  | _ => exact False.elim q1
end
end Ta

set_option Elab.async false
set_option linter.all false
set_option maxRecDepth 100000
set_option maxHeartbeats 1000000
namespace Ta
open PySem PySem.Spec PyProof.Rows L2

/-! ### what is walked: n turns, turn i yields x (heap H to H'), while st holds -/
abbrev Itm := Nat → Hp → V → Hp → Prop
structure Adm (J : It) (n : Nat) (it : Itm) (st : Hp → Prop) : Prop where
  go : ∀ i H, i < n → st H → J.go i H
  yl : ∀ i H x H', i < n → st H → J.yld i H x H' → it i H x H'
  sp : ∀ H, st H → J.stop n H
abbrev TJ := St → Hp → (Nat → Itm → (Hp → Prop) → Hp → Prop) → Prop
def toI (wi : TJ) : TI := fun σ H R => wi σ H fun n it st H1 => ∀ J, Adm J n it st → R J H1
abbrev PJ (X : Cx) (tg iter : Expr) (wi : TJ) : Prop := PI X tg iter (toI wi)
def itL (xs : List V) : Itm := fun i H x H' => H' = H ∧ xs[i]? = some x
def itR (lo : Int) : Itm := fun i H x H' => H' = H ∧ x = .int (lo + i)
def itS (l : List Nat) : Itm := fun i H x H' => H' = H ∧ ∃ c, l[i]? = some c ∧ x = .str (S [c])

structure loop (n : Nat) (it : Itm) (st : Hp → Prop) (g : TG) (tb : TS) (D : Ends) (σ : St) (H : Hp) : Prop where
  out : ∀ J, Adm J n it st → ∃ W : Nat → Nat → St → Hp → Prop, (∃ m, W 0 m σ H) ∧ ∀ i m σ H, W i m σ H →
  (J.stop i H ∧ D.nx σ H) ∨ (J.go i H ∧ ∃ N : St → Hp → Prop, (∀ σ' H', N σ' H' → ∃ m', m' < m ∧ W (i + 1) m' σ' H') ∧ ∀ x H', J.yld i H x H' → g x σ H' fun σ2 H2 => tb { D with nx := N, ct := N, bk := D.nx } σ2 H2)
theorem loop_i {n : Nat} {it : Itm} {st : Hp → Prop} {g : TG} {tb : TS} {D : Ends} {σ : St} {H : Hp} (Pv : Nat → St → Hp → Prop) (h0 : Pv 0 σ H) (hst : ∀ i σ H, i ≤ n → Pv i σ H → st H)
    (hs : ∀ i x σ H H', i < n → Pv i σ H → it i H x H' → g x σ H' fun σ2 H2 => tb { D with nx := Pv (i + 1), ct := Pv (i + 1), bk := D.nx } σ2 H2) (hd : ∀ σ H, Pv n σ H → D.nx σ H) : loop n it st g tb D σ H := by
  refine ⟨?_⟩
  intro J A
  refine ⟨fun i m σ H => m = n - i ∧ i ≤ n ∧ Pv i σ H, ⟨n, by simp, Nat.zero_le _, h0⟩, ?_⟩
  rintro i m σ H ⟨rfl, hi, p⟩
  have q := hst i σ H hi p
  by_cases hlt : i < n
  · exact .inr ⟨A.go i H hlt q, Pv (i + 1), fun σ' H' p' => ⟨n - (i + 1), by omega, rfl, hlt, p'⟩, fun x H' y => hs i x σ H H' hlt p (A.yl i H x H' hlt q y)⟩
  · have e : i = n := by omega
    subst e
    exact .inl ⟨A.sp H q, hd σ H p⟩
def tForP (wi : TJ) (g : TG) (tb : TS) : TS := fun D σ H => wi σ H fun n it st H1 => loop n it st g tb D σ H1
section
variable {X : Cx} {tg : Expr}
theorem psfor {iter : Expr} {body : List Stmt} {wi : TJ} {g : TG} {tb : TS} {pos : Pos} (hp : PassesOwn (model X.prog X.w) X.A X.env X.xe) (hc : X.calm = true) (hi : PJ X tg iter wi) (hg : PG X tg g) (hb : PSs X body tb)
    (hs : ∀ x, foldedSetIterable iter X.env x = pure x := by intro _; rfl) : PS X (.For tg iter body [] pos) (tForP wi g tb) := by
  refine ps_imp (ps_for (wi := toI wi) hp hc hi hg hb hs) fun D σ H h => ?_
  have e : (fun n it st H1 => loop n it st g tb D σ H1) = (fun n it st H1 => ∀ J, Adm J n it st → ∃ W : Nat → Nat → St → Hp → Prop, (∃ m, W 0 m σ H1) ∧ ∀ i m σ H, W i m σ H →
      (J.stop i H ∧ D.nx σ H) ∨ (J.go i H ∧ ∃ N : St → Hp → Prop, (∀ σ' H', N σ' H' → ∃ m', m' < m ∧ W (i + 1) m' σ' H') ∧ ∀ x H', J.yld i H x H' → g x σ H' fun σ2 H2 => tb { D with nx := N, ct := N, bk := D.nx } σ2 H2)) := by
    funext n it st H1
    exact propext ⟨fun h => h.out, fun h => ⟨h⟩⟩
  have h : wi σ H fun n it st H1 => loop n it st g tb D σ H1 := h
  rw [e] at h
  exact h
/-- range(n) -/
def jR1 (ta : TA) : TJ := fun σ H R => ta σ H fun vs H1 => one vs fun x => match x with
  | .int j => (-(2 ^ 62) ≤ j ∧ j < 2 ^ 62) ∧ R j.toNat (itR 0) (fun _ => True) H1
  | _ => False
def jR2 (ta : TA) : TJ := fun σ H R => ta σ H fun vs H1 => two vs fun x y => match x with
  | .int i => (match y with
    | .int j => (-(2 ^ 62) ≤ i ∧ i < 2 ^ 62 ∧ -(2 ^ 62) ≤ j ∧ j < 2 ^ 62) ∧ R (j - i).toNat (itR i) (fun _ => True) H1
    | _ => False)
  | _ => False
theorem adm_r (lo : Int) (n : Nat) : Adm (Itr lo n) n (itR lo) (fun _ => True) := ⟨fun i H h _ => h, fun i H x H' _ _ h => h, fun H _ => Nat.le_refl n⟩
theorem pjr1 {a : Expr} {ta : TA} {p pos : Pos} (hm : X.mg "range" = none) (ha : PA X [a] ta) (hg : Gl X "range" := by rfl) (hs : starEach [a] X.env = [(false, eval a X.env)] := by rfl) : PJ X tg (.Call (.Name "range" p) [a] [] pos) (jR1 ta) := by
  refine ⟨fun pins s σ H R I h => ?_⟩
  refine Call_ (ld_blt I hg hm boot_range (PyProof.Rows.callWith_type1 (thn (ha.run pos pins s σ H _ I h) fun us s1 ⟨vs, H1, I1, r1, q1⟩ => ?_) hs rfl))
  obtain ⟨x, rfl, q1⟩ := one_e q1
  cases x with
  | int j =>
    obtain ⟨⟨q1, q2⟩, q⟩ := q1
    cases r1 with
    | cons r rr =>
      cases rr
      obtain ⟨t, rfl⟩ := r
      exact call_range_1 (range_it I1 (by omega) (by omega) q1 q2 (by simpa using q _ (adm_r 0 j.toNat)))
  | _ => exact False.elim q1
theorem pjr2 {a b : Expr} {ta : TA} {p pos : Pos} (hm : X.mg "range" = none) (ha : PA X [a, b] ta) (hg : Gl X "range" := by rfl) (hs : starEach [a, b] X.env = [(false, eval a X.env), (false, eval b X.env)] := by rfl) (hs2 : starEach [b] X.env = [(false, eval b X.env)] := by rfl) :
    PJ X tg (.Call (.Name "range" p) [a, b] [] pos) (jR2 ta) := by
  refine ⟨fun pins s σ H R I h => ?_⟩
  refine Call_ (ld_blt I hg hm boot_range (PyProof.Rows.callWith_type1 (thn (ha.run pos pins s σ H _ I h) fun us s1 ⟨vs, H1, I1, r1, q1⟩ => ?_) (by rw [hs, hs2]) (by rw [hs2]; rfl)))
  obtain ⟨x, y, rfl, q1⟩ := two_e q1
  cases x with
  | int i =>
    cases y with
    | int j =>
      obtain ⟨⟨q1, q2, q3, q4⟩, q⟩ := q1
      cases r1 with
      | cons r rr =>
        cases rr with
        | cons r' rr =>
          cases rr
          obtain ⟨t, rfl⟩ := r
          obtain ⟨t', rfl⟩ := r'
          exact call_range_2 (range_it I1 q1 q2 q3 q4 (q _ (adm_r i _)))
    | _ => exact False.elim q1
  | _ => exact False.elim q1
/-- a text, a list, a tuple -/
def jA (K : PySem.W.Frag) (te : TE) : TJ := fun σ H R => te σ H fun x H1 => match x with
  | .str z => R (tl z).length (itS (tl z)) (fun _ => True) H1
  | .ref a => look H1 a fun o => (match o with
    | some (.lst xs) => R xs.length (itL xs) (fun H' => H' a = some (.lst xs)) H1
    | some (.tup xs) => R xs.length (itL xs) (fun H' => H' a = some (.tup xs)) H1
    | some (.frz ob (.lst xs)) => R xs.length (itL xs) (fun H' => H' a = some (.frz ob (.lst xs))) H1
    | _ => ∃ xs, SqT K (fun _ => none) a xs ∧ R xs.length (itL xs) (fun _ => True) H1)
  | _ => False
theorem adm_l {K : PySem.W.Frag} {a : Addr} {xs : List V} {st : Hp → Prop} (h : ∀ H, st H → SqL K H a xs) : Adm (Itl K a) xs.length (itL xs) st :=
  ⟨fun i H hi q => ⟨xs, xs[i], h H q, by simp [hi]⟩, fun i H x H' hi q y => ⟨y.1, y.2 xs (h H q)⟩, fun H q => ⟨xs, h H q, Nat.le_refl _⟩⟩
theorem adm_t {K : PySem.W.Frag} {a : Addr} {xs : List V} {st : Hp → Prop} (h : ∀ H, st H → SqT K H a xs) : Adm (Itt K a) xs.length (itL xs) st :=
  ⟨fun i H hi q => ⟨xs, xs[i], h H q, by simp [hi]⟩, fun i H x H' hi q y => ⟨y.1, y.2 xs (h H q)⟩, fun H q => ⟨xs, h H q, Nat.le_refl _⟩⟩
theorem adm_s (z : Str) : Adm (Its z) (tl z).length (itS (tl z)) (fun _ => True) := by
  have e : z.cps.size = (tl z).length := by simp [tl]
  refine ⟨fun i H h _ => ?_, fun i H x H' _ _ y => ⟨y.1, ?_⟩, fun H _ => ?_⟩
  · show i < z.cps.size; rw [e]; exact h
  · obtain ⟨c, h1, h2⟩ := y.2
    exact ⟨c, by simpa [tl] using h1, h2⟩
  · show z.cps.size ≤ _; rw [e]; exact Nat.le_refl _
theorem sqT_k {K : PySem.W.Frag} {H : Hp} {a : Addr} {xs : List V} (h : SqT K (fun _ => none) a xs) : SqT K H a xs := by
  rcases h with (h | ⟨o, h⟩) | h
  · cases h
  · cases h
  · exact .inr h
theorem pja {l : Expr} {te : TE} (hl : PE X l te) : PJ X tg l (jA X.K te) := by
  refine ⟨fun pins s σ H R I h => ?_⟩
  refine thn (hl.run pins s σ H _ I h) fun v s1 ⟨x, H1, I1, r1, q1⟩ => ?_
  cases x with
  | str z =>
    obtain ⟨t, rfl⟩ := r1
    have q := q1 _ (adm_s z)
    cases ha : z.cps.all (· < 128)
    · exact wpAny_pyIter_wide ha (pi_one (tk := s1.toks) I1 _ (turn_str _ z t "str_iterator" (.inr rfl)) ⟨_, Heap.get?_push_size _ rfl, rfl, rfl⟩ q)
    · exact wpAny_pyIter_ascii ha (pi_one (tk := s1.toks) I1 _ (turn_str _ z t "str_ascii_iterator" (.inl rfl)) ⟨_, Heap.get?_push_size _ rfl, rfl, rfl⟩ q)
  | ref a =>
    cases r1
    have fl : ∀ xs, SqL X.K H1 a xs → R (Itl X.K a) H1 → wpAny (model X.prog X.w) X.A (pyIter (.ref a)) (PIE X pins σ tg R) X.xe s1 := fun xs hq q => by
      obtain ⟨its, rv, p, hz⟩ := I1.list hq
      refine wpAny_pyIter_list p.isList ?_
      refine ⟨s1.heap.objs.size, [s1.heap.objs.size], _, _, H1, rfl, I1.kept (t' := s1.toks) fun b o e => Heap.get?_push_of_some _ e, turn_list a _, ⟨_, Heap.get?_push_size _ rfl, rfl, rfl⟩, fun b hb => ?_, q⟩
      have e : b = s1.heap.objs.size := by simpa using hb
      subst e
      exact I1.fpOk (Nat.le_refl _) (I1.hok.fresh (Nat.le_refl _))
    have ft : ∀ xs, SqT X.K H1 a xs → R (Itt X.K a) H1 → wpAny (model X.prog X.w) X.A (pyIter (.ref a)) (PIE X pins σ tg R) X.xe s1 := fun xs hq q => by
      obtain ⟨its, rv, p, hz⟩ := I1.tuple hq
      refine wpAny_pyIter_tuple (show s1.heap.IsTuple a its.toArray from p) ?_
      refine ⟨s1.heap.objs.size, [s1.heap.objs.size], _, _, H1, rfl, I1.kept (t' := s1.toks) fun b o e => Heap.get?_push_of_some _ e, turn_tuple a _, ⟨_, Heap.get?_push_size _ rfl, rfl, rfl⟩, fun b hb => ?_, q⟩
      have e : b = s1.heap.objs.size := by simpa using hb
      subst e
      exact I1.fpOk (Nat.le_refl _) (I1.hok.fresh (Nat.le_refl _))
    have q1 := look_e q1
    have fk : (∃ xs, SqT X.K (fun _ => none) a xs ∧ ∀ J, Adm J xs.length (itL xs) (fun _ => True) → R J H1) → wpAny (model X.prog X.w) X.A (pyIter (.ref a)) (PIE X pins σ tg R) X.xe s1 :=
      fun ⟨xs, h1, h2⟩ => ft xs (sqT_k h1) (h2 _ (adm_t fun H' _ => sqT_k h1))
    revert q1
    cases e : H1 a with
    | none => exact fk
    | some o =>
      cases o with
      | lst xs => exact fun q1 => fl xs (SqL.of e) (q1 _ (adm_l fun H' h => SqL.of h))
      | tup xs => exact fun q1 => ft xs (SqT.of e) (q1 _ (adm_t fun H' h => SqT.of h))
      | frz ob u =>
        cases u with
        | lst xs => exact fun q1 => fl xs (.inl (.inr ⟨_, e⟩)) (q1 _ (adm_l fun H' h => .inl (.inr ⟨_, h⟩)))
        | _ => exact fk
      | _ => exact fk
  | _ => exact False.elim q1

/-! ### while -/
structure whl (c : TT) (tb : TS) (D : Ends) (σ : St) (H : Hp) : Prop where
  out : tWhile c tb D σ H
/-- by a word and a measure; the test's reading is asked with its own wish -/
theorem whl_i {c : TT} {tb : TS} {D : Ends} {σ : St} {H : Hp} (W : Nat → St → Hp → Prop) (m : Nat) (h0 : W m σ H)
    (hs : ∀ m σ H, W m σ H → c σ H fun b H1 => if b = true then ∃ N : St → Hp → Prop, (∀ σ' H', N σ' H' → ∃ m', m' < m ∧ W m' σ' H') ∧ tb { D with nx := N, ct := N, bk := D.nx } σ H1 else D.nx σ H1) : whl c tb D σ H := by
  refine ⟨?_⟩
  exact ⟨W, ⟨m, h0⟩, hs⟩
theorem pswhl {c : Expr} {body : List Stmt} {tc : TT} {tb : TS} {pos : Pos} (hp : PassesOwn (model X.prog X.w) X.A X.env X.xe) (hc : PT X c tc) (hb : PSs X body tb) : PS X (.While c body [] pos) (whl tc tb) :=
  ps_imp (ps_while hp hc hb) fun D σ H h => by replace h := h.out; exact h

/-! ### list comprehensions -/
structure lcp (n : Nat) (it : Itm) (st : Hp → Prop) (g : TG) (tt : TT) (te : TE) (vs : List Nat) (σ : St) (H1 : Hp) (Q : VK) : Prop where
  out : ∀ J, Adm J n it st → ∀ D, H1 D = none → ∃ W : Nat → Nat → Hp → Prop, (∃ m, W 0 m (upd H1 D (.lst []))) ∧ ∀ i m H, W i m H →
  (J.stop i H ∧ Q (.ref D) H) ∨ (J.go i H ∧ ∃ Nx : Hp → Prop, (∀ H', Nx H' → ∃ m', m' < m ∧ W (i + 1) m' H') ∧ ∀ x H', J.yld i H x H' → g x (wipe σ vs) H' fun σ2 H2 => wipe σ2 vs = wipe σ vs ∧ tt σ2 H2 fun b H3 =>
    if b = true then te σ2 H3 fun y H4 => ∃ acc, H4 D = some (.lst acc) ∧ acc.length < sizeLine ∧ Nx (upd H4 D (.lst (acc ++ [y]))) else Nx H3)
def tLcP (wi : TJ) (g : TG) (tt : TT) (te : TE) (vs : List Nat) : TE := fun σ H Q => wi σ H fun n it st H1 => lcp n it st g tt te vs σ H1 Q
theorem tLcP_e {wi : TJ} {g : TG} {tt : TT} {te : TE} {vs : List Nat} {σ : St} {H : Hp} {Q : VK} (h : tLcP wi g tt te vs σ H Q) : tLc (toI wi) g tt te vs σ H Q := by
  have e : (fun n it st H1 => lcp n it st g tt te vs σ H1 Q) = (fun n it st H1 => ∀ J, Adm J n it st → ∀ D, H1 D = none → ∃ W : Nat → Nat → Hp → Prop, (∃ m, W 0 m (upd H1 D (.lst []))) ∧ ∀ i m H, W i m H →
      (J.stop i H ∧ Q (.ref D) H) ∨ (J.go i H ∧ ∃ Nx : Hp → Prop, (∀ H', Nx H' → ∃ m', m' < m ∧ W (i + 1) m' H') ∧ ∀ x H', J.yld i H x H' → g x (wipe σ vs) H' fun σ2 H2 => wipe σ2 vs = wipe σ vs ∧ tt σ2 H2 fun b H3 =>
        if b = true then te σ2 H3 fun y H4 => ∃ acc, H4 D = some (.lst acc) ∧ acc.length < sizeLine ∧ Nx (upd H4 D (.lst (acc ++ [y]))) else Nx H3)) := by
    funext n it st H1
    exact propext ⟨fun h => h.out, fun h => ⟨h⟩⟩
  have h : wi σ H fun n it st H1 => lcp n it st g tt te vs σ H1 Q := h
  rw [e] at h
  exact h
theorem plc {elt iter : Expr} {ifs : List Expr} {scope : Scope} (own : List (Str × Nat)) {pos : Pos} {wi : TJ} {g : TG} {tt : TT} {te : TE} (hc : X.calm = true) (hN : X.N.Nodup) (hi : PJ X tg iter wi) (ok : blkC X.N X.env.scope scope own = true)
    (hg : ∀ (s : Shared) (H : Hp) (C : Addr) (cl : List (Str × Addr)) (fp : List Addr), PG (X.blk s H scope (compEnvC scope cl C X.env) fp) tg g) (ht : ∀ (s : Shared) (H : Hp) (C : Addr) (cl : List (Str × Addr)) (fp : List Addr), PTs (X.blk s H scope (compEnvC scope cl C X.env) fp) ifs tt)
    (he : ∀ (s : Shared) (H : Hp) (C : Addr) (cl : List (Str × Addr)) (fp : List Addr), PE (X.blk s H scope (compEnvC scope cl C X.env) fp) elt te) (hs : ∀ x, foldedSetIterable iter X.env x = pure x := by intro _; rfl) :
    PE X (.ListComp elt [⟨tg, iter, ifs, 0⟩] scope pos) (tLcP wi g tt te (own.map (·.2))) := pe_imp (pe_lc hc hN hi (blkOk_by ok) hg ht he hs) fun _ _ _ h => tLcP_e h
theorem pslc {i : Nat} {y : Str} {py : Pos} {elt iter : Expr} {ifs : List Expr} {scope : Scope} (own : List (Str × Nat)) {pos spos : Pos} {wi : TJ} {g : TG} {tt : TT} {te : TE} (hc : X.calm = true) (hN : X.N.Nodup) (hy : X.N[i]? = some y) (hyl : X.env.scope.names.lookup y = some .local)
    (hsw : swapsWith (.ListComp elt [⟨tg, iter, ifs, 0⟩] scope pos) (some (.Name y py)) spos.line X.env = pure true) (hi : PJ X tg iter wi) (ok : blkC X.N X.env.scope scope own = true)
    (hg : ∀ (s : Shared) (H : Hp) (C : Addr) (cl : List (Str × Addr)) (fp : List Addr), PG (X.blk s H scope (compEnvC scope cl C X.env) fp) tg g) (ht : ∀ (s : Shared) (H : Hp) (C : Addr) (cl : List (Str × Addr)) (fp : List Addr), PTs (X.blk s H scope (compEnvC scope cl C X.env) fp) ifs tt)
    (he : ∀ (s : Shared) (H : Hp) (C : Addr) (cl : List (Str × Addr)) (fp : List Addr), PE (X.blk s H scope (compEnvC scope cl C X.env) fp) elt te) (hs : ∀ x, foldedSetIterable iter X.env x = pure x := by intro _; rfl) :
    PS X (.Assign [.Name y py] (.ListComp elt [⟨tg, iter, ifs, 0⟩] scope pos) spos) (tAsg (tLcP wi g tt te (own.map (·.2))) (gName i)) :=
  ps_imp (ps_setLc hc hN hy hyl hsw hi (blkOk_by ok) hg ht he hs) fun D σ H h => tLcP_e h
theorem lcp_i {n : Nat} {it : Itm} {st : Hp → Prop} {g : TG} {tt : TT} {te : TE} {vs : List Nat} {σ : St} {H1 : Hp} {Q : VK} (Pv : Addr → Nat → Hp → Prop) (h0 : ∀ D, H1 D = none → Pv D 0 (upd H1 D (.lst []))) (hst : ∀ D i H, H1 D = none → i ≤ n → Pv D i H → st H)
    (hs : ∀ D i x H H', H1 D = none → i < n → Pv D i H → it i H x H' → g x (wipe σ vs) H' fun σ2 H2 => wipe σ2 vs = wipe σ vs ∧ tt σ2 H2 fun b H3 =>
      if b = true then te σ2 H3 fun y H4 => ∃ acc, H4 D = some (.lst acc) ∧ acc.length < sizeLine ∧ Pv D (i + 1) (upd H4 D (.lst (acc ++ [y]))) else Pv D (i + 1) H3) (hd : ∀ D H, H1 D = none → Pv D n H → Q (.ref D) H) : lcp n it st g tt te vs σ H1 Q := by
  refine ⟨?_⟩
  intro J A D hD
  refine ⟨fun i m H => m = n - i ∧ i ≤ n ∧ Pv D i H, ⟨n, by simp, Nat.zero_le _, h0 D hD⟩, ?_⟩
  rintro i m H ⟨rfl, hi, p⟩
  have q := hst D i H hD hi p
  by_cases hlt : i < n
  · exact .inr ⟨A.go i H hlt q, Pv D (i + 1), fun H' p' => ⟨n - (i + 1), by omega, rfl, hlt, p'⟩, fun x H' y => hs D i x H H' hD hlt p (A.yl i H x H' hlt q y)⟩
  · have e : i = n := by omega
    subst e
    exact .inl ⟨A.sp H q, hd D H hD p⟩
end
end Ta

set_option Elab.async false
set_option linter.all false
set_option maxRecDepth 100000
set_option maxHeartbeats 1000000
namespace Ta
open PySem PySem.Spec PyProof.Rows L2

/-! ### a def that says super(): its closure is the cell of __class__ -/
structure SupFn (P : Program) (K : PySem.W.Frag) (f : Addr) (F : NdefX.NF) (D : Addr) (dvs : List V) (fd : FuncData) : Prop where
  ex : ∃ (cc : Addr) (oc : Value) (od an : Option Addr) (dV kV doc pm ct : Value) (osl : Array (Option Value)), F.cl = [(("__class__" : Str), cc)] ∧ fd = PySem.W.fnX F.name F.qual F.params F.body F.scope F.cl dV kV doc pm an (.ref F.c) ct ∧
    K.lookup f = some ⟨oc, od, .func fd, osl⟩ ∧ DflV K dV dvs ∧ ∃ (cl : Value) (cld : Option Addr) (csl : Array (Option Value)), K.lookup cc = some ⟨cl, cld, .cell (some (.ref D)), csl⟩
  cd : PySem.W.codeIn K (.ref F.c) F.qual = true
  file : ∃ (ccl : Value) (cdd : Option Addr) (vs : Array Value) (ccs : Array (Option Value)) (fl : Str) (tf : Tok), K.lookup F.c = some ⟨ccl, cdd, .fields vs, ccs⟩ ∧ vs[2]? = some (.str fl tf) ∧ ((P.main.file : Str) == fl) = true
  clsD : ∃ cdD, PySem.W.clsIn K D = some cdD
  top : (P.main.scope.names.lookup ("super" : Str)).isSome = false
  kp : PySem.W.keepIn K (.ref f) = true
section
variable {P : Program} {w : World} {K : PySem.W.Frag} {mg : Str → Option Value} {base : Heap}
/-- such a def by its first statement (at the code itself) and the rest -/
theorem fn_sup {f D : Addr} {F : NdefX.NF} {fd : FuncData} {N ps : List Str} {sp : Sp} {k : Nat} {st0 : Stmt} {rest : List Stmt} {dvs : List V} (SF : SupFn P K f F D dvs fd) (hbd : F.body = st0 :: rest) (S : NdefX.NScope N ps ["__class__"] F.scope)
    (len : ∀ vs H Q E, sp vs H Q E → vs.length = ps.length)
    (hbody : ∀ (A : Around) (outer : List Env) (s : Shared) (H : Hp) (vs : List V) (Q : VK) (E : XK), Room k (A.deeper (NdefX.envF F f s.heap.objs.size)) → sp vs H Q E →
      ∃ (t : TS), PSs (NdefX.ncx (L2.CX P w) P w K mg base N F f A outer s H E) rest t ∧
        ∀ s', Inv (NdefX.ncx (L2.CX P w) P w K mg base N F f A outer s H E) [] (NdefX.startF N vs [some (.ref D)]) H s' →
          PySem.wpAt (model P w) (A.deeper (NdefX.envF F f s.heap.objs.size)) (.func F.body (NdefX.envF F f s.heap.objs.size)) (exec st0 (NdefX.envF F f s.heap.objs.size))
            (fun fl s'' => fl = .next ∧ ∃ σ' H', Inv (NdefX.ncx (L2.CX P w) P w K mg base N F f A outer s H E) [] σ' H' s'' ∧ t { nx := fun _ H' => Q .non H', rt := Q } σ' H')
            (NdefX.ncx (L2.CX P w) P w K mg base N F f A outer s H E).xe s') :
    FnOk P w K mg base (L2.CX P w) (k + 1) f fd ps sp := by
  obtain ⟨cc, oc, od, an, dV, kV, doc, pm, ct, osl, hcl, rfl, lk, hD, cl, cld, csl, hcell⟩ := SF.ex
  refine ⟨len, fun A outer s H args us vs Q E hr e0 hb r hsp => ?_⟩
  have hl := len _ _ _ _ hsp
  have KX : K.In s.heap := e0.mod.kin.keeps fun b o e => (e0.bs b o e).1
  have lim : s.heap.NoLimit := e0.mod.nolimit.keeps fun b o e => (e0.bs b o e).1
  have C : NdefX.CellsAt F.cl ["__class__"] [some (.ref D)] s.heap H := by
    rw [hcl]
    have hK : ∀ y c, ([("__class__", cc)] : List (Str × Addr)).lookup y = some c → y = "__class__" ∧ c = cc := fun y c e => by
      simp only [List.lookup] at e
      split at e
      · rename_i hb; cases e; exact ⟨eq_of_beq hb, rfl⟩
      · cases e
    refine ⟨rfl, fun y c e => ?_, fun x y c e1 e2 => (hK x c e1).1.trans (hK y c e2).1.symm, fun i y e => ?_⟩
    · obtain ⟨_, rfl⟩ := hK y c e
      exact ⟨(e0.bs _ _ (e0.mod.kin _ _ hcell)).2, _, _, KX _ _ hcell, rfl⟩
    · cases i with
      | zero =>
        have e' : y = "__class__" := by simpa using e.symm
        subst e'
        refine ⟨cc, by simp [List.lookup], fun v hv => ?_⟩
        have hv' : V.ref D = v := by simpa using hv
        subst hv'
        exact ⟨.ref D, rfl, _, KX _ _ hcell, rfl⟩
      | succ i => simp at e
  refine PySem.ks_codeAny_call_defAt hr.depth (KX _ _ lk) rfl lim (PySem.W.codeRec_of KX SF.cd) (body := F.body) rfl hb S.nocell (fun ⟨n, v⟩ hy => S.par n (List.of_mem_zip hy).1) (fun h₁ hns kp => ?_) S.co S.gen S.kind
  obtain ⟨t, ht, hq⟩ := hbody A outer s H vs Q E (hr.deeper _) hsp
  have I : Inv (NdefX.ncx (L2.CX P w) P w K mg base N F f A outer s H E) [] (NdefX.startF N vs [some (.ref D)]) H { s with heap := h₁, toks := s.toks + (ps.zip us).length } := NdefX.inv_startN S hr.hd e0 hl r C hns kp
  have fin : ∀ {s' : Shared} {σ' : L2.St} {H' : Hp} {v : V} {u : Value}, Inv (NdefX.ncx (L2.CX P w) P w K mg base N F f A outer s H E) [] σ' H' s' → RelV v u → Q v H' → CE outer P w H s Q u s' :=
    fun {s' σ' H' v u} J rv q => ⟨v, H', J.os, J.bare, J.base, J.hok, rv, q⟩
  have key : PySem.wpAt (model P w) (A.deeper (NdefX.envF F f s.heap.objs.size)) (.func F.body (NdefX.envF F f s.heap.objs.size)) (execs F.body (NdefX.envF F f s.heap.objs.size))
      (fun fl s' => CR (L2.CX P w) outer P w H s Q E (.ok (.ret (match fl with | .ret v => v | _ => .none))) s') (NdefX.ncx (L2.CX P w) P w K mg base N F f A outer s H E).xe { s with heap := h₁, toks := s.toks + (ps.zip us).length } := by
    have q0 := hq _ I
    rw [hbd] at q0 ⊢
    refine PySem.ks_wpAt_execs_cons (PySem.ks_wpAt_mono q0 (fun fl s1 h1 => ?_) fun _ _ z => z)
    obtain ⟨rfl, σ1, H1, I1, q1⟩ := h1
    refine PySem.wpAt_of_wpAny (thn (ht.run [] s1 σ1 H1 _ I1 q1) fun fl s2 h2 => ?_)
    cases fl with
    | ret u =>
      obtain ⟨v, σ', H', J, rv, q⟩ := h2
      exact fin J rv q
    | next =>
      obtain ⟨σ', H', J, q⟩ := h2
      exact fin (v := V.non) (u := Value.none) J rfl q
    | brk =>
      obtain ⟨_, _, _, q⟩ := h2
      exact False.elim q
    | cont =>
      obtain ⟨_, _, _, q⟩ := h2
      exact False.elim q
  exact key
end
/-! ### super() -/
section
variable {X : Cx} {pins : List (Addr × Obj)} {σ : St} {H : Hp} {s : Shared} {f D x C : Addr} {F : NdefX.NF} {dvs : List V} {fd : FuncData}
abbrev supO (D x C : Addr) : Obj := { cls := .type "super", dict := none, data := .fields #[.ref D, .ref x, .ref C], slots := #[] }
theorem sup_base {p0 p1 : Pos} {attr : Str} {whole : Sem Value} {E : Value → Shared → Prop} {Q : Value → Shared → Prop} {ar : Arg} {ox : Obj} (SF : SupFn X.prog X.K f F D dvs fd) (hE : X.env = NdefX.envF F f X.env.locals) (I : Inv X pins σ H s)
    (hsup : X.mg "super" = none) (hp : (F.params.posonlyargs ++ F.params.args).head? = some ar) (i : Nat) (hN : X.N[i]? = some ar.arg) (hσ : σ[i]? = some (some (.ref x))) (hka : F.scope.names.lookup ar.arg = some .local)
    (hx : s.heap.get? x = some ox) (hxc : ox.cls = .ref C) (hnc : ∀ c, ox.data ≠ .cls c) (hsub : PySem.W.mroIn X.K C (.ref D) = some true)
    (hks : F.scope.names.lookup ("super" : Str) = some .globalImplicit) (hkc : F.scope.names.lookup ("__class__" : Str) = some .free) (hk : F.scope.kind = .function) (hat : (attr == ("__class__" : Str)) = false)
    (h : ∀ so s', s'.heap.get? so = some (supO D x C) → (∀ b o, s.heap.get? b = some o → s'.heap.get? b = some o) → Inv X pins σ H s' → Q (.ref so) s') :
    PySem.wpAt (model X.prog X.w) X.A (.func F.body X.env) (attributeBase (.Call (.Name "super" p0) [] [] p1) attr X.env whole) Q E s := by
  obtain ⟨cc, oc, od, an, dV, kV, doc, pm, ct, osl, hcl, rfl, lk, hD, cl, cld, csl, hcell⟩ := SF.ex
  obtain ⟨ccl, cdd, vs, ccs, fl, tf, hcode, hvs, hfile⟩ := SF.file
  obtain ⟨cdD, hcD⟩ := SF.clsD
  have KX : X.K.In s.heap := I.kIn
  obtain ⟨oD, hD1, hD2⟩ : ∃ oD, s.heap.get? D = some oD ∧ oD.data = .cls cdD := by
    unfold PySem.W.clsIn at hcD
    split at hcD
    · rename_i c d cd' sl ho
      cases hcD
      exact ⟨_, KX _ _ ho, rfl⟩
    · cases hcD
  obtain ⟨m, hn, hloc⟩ := I.loc
  have hsc : X.env.scope = F.scope := by rw [hE]
  obtain ⟨u, ru, lu⟩ := hloc i ar.arg (.ref x) hN hσ (.inl (by rw [hsc]; exact hka))
  cases ru
  have hm : m ar.arg = some (.ref x) := by
    rcases lu with ⟨_, e⟩ | ⟨e, _⟩
    · exact e
    · have e2 : X.env.kindOf ar.arg = some .local := by show X.env.scope.names.lookup _ = _; rw [hsc]; exact hka
      rw [e2] at e; rcases e with e | e <;> cases e
  obtain ⟨mb, hb1, hb2⟩ := I.mod.blt
  refine PySem.ks_wpAt_super_base (env := X.env) (by show X.env.scope.names.lookup _ = _; rw [hsc]; exact hks) (by show X.env.scope.names.lookup _ = _; rw [hsc]; exact hkc) hat (by rw [hE]) (KX _ _ lk) rfl hp (by rw [hE]) (KX _ _ hcode) rfl hvs hfile SF.top ?_
  refine PySem.W.ks_loadName_global (by rw [hsc]; exact hk) (by show X.env.scope.names.lookup _ = _; rw [hsc]; exact hks) (Calls.loadGlobal_builtin (by rw [I.ok.glob]; exact I.mod.glob.keeps I.bk) hsup (by rw [I.ok.blt]; exact hb1.keeps I.bk) ((hb2 "super" (by decide +kernel)).trans (by decide +kernel : bootBuiltins "super" = some (.type "super"))) ⟨rfl, ?_⟩)
  refine wpAny_loadName_free (by rw [hsc]; exact hk) (by show X.env.scope.names.lookup _ = _; rw [hsc]; exact hkc) (by rw [hE]; show F.cl.lookup _ = _; rw [hcl]; rfl) ⟨_, KX _ _ hcell, rfl⟩ ?_
  refine wpAny_loadName_local (by rw [hsc]; exact hk) (by show X.env.scope.names.lookup _ = _; rw [hsc]; exact hka) hn hm ?_
  obtain ⟨hp', g', d', t', os'⟩ := s
  refine PySem.ks_wpAny_isType_cls hD1 hD2 ⟨rfl, ?_⟩
  refine PySem.ks_wpAny_call_super hD1 hD2 hx hxc hnc (PySem.W.looks_mroIn KX hsub) (fun h' e k => ?_)
  exact h _ _ e k (I.kept (t' := t') k)

/-- super().__init__('..') of an exception that is being made -/
structure SupExc (K : PySem.W.Frag) (C D : Addr) : Prop where
  oex : OexC K C
  sub : PySem.W.mroIn K C (.ref D) = some true
  ini : PySem.W.ks_superIn K C D "__init__" = some (some (.builtin "ValueError.__init__"))
  ve : PySem.W.subIn K (.ref C) (.type "ValueError") = some true
  third : PySem.W.nsIn K cStatics "thirdparty.any" = some none
theorem sup_exc {p0 p1 p2 p3 p4 p5 : Pos} {j : Nat} {msg : Str} {E : Value → Shared → Prop} {Q : Flow → Shared → Prop} {ar : Arg} (SF : SupFn X.prog X.K f F D dvs fd) (SE : SupExc X.K C D) (hE : X.env = NdefX.envF F f X.env.locals) (I : Inv X pins σ H s)
    (hsup : X.mg "super" = none) (hp : (F.params.posonlyargs ++ F.params.args).head? = some ar) (i : Nat) (hN : X.N[i]? = some ar.arg) (hσ : σ[i]? = some (some (.ref x))) (hka : F.scope.names.lookup ar.arg = some .local)
    (hx : H x = some (exo x C none)) (hks : F.scope.names.lookup ("super" : Str) = some .globalImplicit) (hkc : F.scope.names.lookup ("__class__" : Str) = some .free) (hk : F.scope.kind = .function)
    (h : ∀ s', Inv X pins σ H s' → Q .next s') (hli : p2.endLine = p2.endLine)
    (hsw : swapsWith (.Call (.Attribute (.Call (.Name "super" p0) [] [] p1) "__init__" p2) [.Constant (.str msg) j p5] [] p3) none p4.line X.env = pure false := by rfl)
    (pl : Sem Bool) (he : eval (.Call (.Attribute (.Call (.Name "super" p0) [] [] p1) "__init__" p2) [.Constant (.str msg) j p5] [] p3) X.env = (do
      let ov ← attributeBase (.Call (.Name "super" p0) [] [] p1) "__init__" X.env (eval (.Call (.Name "super" p0) [] [] p1) X.env)
      standAt p2.atName
      let (f, first) ← holding [ov] (getMethod ov "__init__" pl)
      callWith p3 f first (backTo p3 (starEach [.Constant (.str msg) j p5] X.env)) [])) :
    PySem.wpAt (model X.prog X.w) X.A (.func F.body X.env) (exec (.Expr (.Call (.Attribute (.Call (.Name "super" p0) [] [] p1) "__init__" p2) [.Constant (.str msg) j p5] [] p3) p4) X.env) Q E s := by
  obtain ⟨t1, ho⟩ := exo_at I.hok hx
  obtain ⟨nm, q, N, bs, bm, sn, sub, ab, col, dd, k0, k1, k2, k3, k5, hC, hbm⟩ := SE.oex.cls
  refine PySem.ks_wpAt_Expr_any (PySem.ks_wpAt_MethodCall (pl := pl) (sup_base SF hE I hsup hp i hN hσ hka ho rfl (fun c z => nomatch z) SE.sub hks hkc hk (by decide +kernel) fun so s1 hso kp I1 => ?_) he) I.quiet hsw
  have KX1 : X.K.In s1.heap := I1.kIn
  have ho1 := kp _ _ ho
  have hmro := SE.ini
  unfold PySem.W.ks_superIn at hmro
  cases hcl : PySem.W.clsIn X.K C with
  | none => rw [hcl] at hmro; cases hmro
  | some cd =>
    rw [hcl] at hmro
    have LT : PySem.W.Looks (model X.prog X.w) s1.heap (typeOf (.ref x)) (.ref C) := fun A Q E s k q => wpAny_typeOf_ref (k _ _ ho1) q
    have hI : PySem.W.Looks (model X.prog X.w) s1.heap (isInstance (.ref x) (.type "ValueError")) true := LT.andThen (PySem.W.looks_subIn KX1 SE.ve)
    have hxC : x ≠ C := fun z => by
      have e1 := KX1 _ _ hC
      rw [← z, ho1] at e1
      cases e1
    obtain ⟨h1, g1, d1, t1', os1⟩ := s1
    refine PySem.W.kxs_getMethod PySem.W.kxs_ValueError hso (PySem.W.looks_opaque KX1 SE.third) (l₀ := cd.mro) ?_ rfl KX1 hmro hI hxC (by decide +kernel) ?_
    · exact fun A Q E s k q => wpAny_bind ((PySem.W.looks_clsIn KX1 hcl) A _ E s k (wpAny_pure q))
    · show wpAny _ _ (callWith p3 (.ref h1.objs.size) [] (backTo p3 (starEach [.Constant (.str msg) j p5] X.env)) []) _ _ _
      have I2 : Inv X pins σ H ⟨h1.push (PySem.W.kxs_mw "ValueError.__init__" x), g1, d1, t1' + 1, os1⟩ := I1.kept (t' := t1' + 1) fun b o e => Heap.get?_push_of_some _ e
      have hu : (h1.push (PySem.W.kxs_mw "ValueError.__init__" x)).get? h1.objs.size = some (PySem.W.kxs_mw "ValueError.__init__" x) := Heap.get?_push_size _ rfl
      refine PySem.W.kxs_callWith (i := "ValueError.__init__") (x := x) rfl (Calls.evalArgs_plain (Calls.spliced_cons (Calls.Constant_str (pos := p5) (k := j) (Calls.spliced_nil ⟨hu, ?_⟩))))
      have I3 := I2.tok (t1' + 1 + 1)
      have ho3 : (h1.push (PySem.W.kxs_mw "ValueError.__init__" x)).get? x = some _ := Heap.get?_push_of_some _ ho1
      have hC3 : (h1.push (PySem.W.kxs_mw "ValueError.__init__" x)).get? C = some _ := Heap.get?_push_of_some _ (KX1 _ _ hC)
      show wpAny _ _ (call (.ref h1.objs.size) [.str msg _] []) _ _ _
      refine wpAny_call (codeAny_of_tree ?_)
      show wpAny _ _ (callAny (.ref h1.objs.size) ⟨[.str msg _], []⟩) _ _ _
      simp only [callAny]
      refine wpAny_bind (wpAny_load hu ?_)
      simp only [PySem.W.kxs_mw, show (Value.type "method-wrapper" == Value.type "method" || Value.type "method-wrapper" == Value.type "builtin_function_or_method" || Value.type "method-wrapper" == Value.type "method-wrapper") = true by decide, if_true]
      refine PySem.W.KFB.if_so (by decide) ?_
      refine wpAny_bind (PySem.W.check_bound_init PySem.F.excBase_ValueError.toExcCallFacts hC3 ho3 rfl ?_)
      refine wpAny_bind (wpAny_pure (wpAny_pure ?_))
      refine ⟨plainId_quiet PySem.F.excBase_ValueError.init.plain _, codeAny_builtin PySem.F.excBase_ValueError.initEntry ?_⟩
      refine PySem.W.exc_init_tree (cls := .ref C) (dv := none) (c2 := .none) (c3 := .none) (b4 := .bool false) ho3 (by show 1 ≤ sizeLine; decide) fun h' k hx' _ => ?_
      have J := I3.write (t' := t1' + 1 + 1) (x := x) (e := x) (o := exo x C none) (by rw [hx]; exact True.intro) (.inl rfl) k ⟨_, hx'⟩ (exo_ok hx')
      have eu : upd H x (exo x C none) = H := by
        funext b
        by_cases hb : b = x
        · rw [hb, upd_same, hx]
        · rw [upd_ne hb]
      rw [eu] at J
      exact h _ J
end
end Ta

set_option Elab.async false
set_option linter.all false
set_option maxRecDepth 100000
set_option maxHeartbeats 1000000
namespace Ta
open PySem PySem.Spec PyProof.Rows L2

theorem upd_comm {H : Hp} {a b : Addr} {o u : HO} (h : a ≠ b) : upd (upd H a o) b u = upd (upd H b u) a o := by
  funext c
  unfold upd
  by_cases h1 : c = a
  · subst h1; simp [h]
  · by_cases h2 : c = b
    · subst h2; simp [h1]
    · simp [h1, h2]
/-- __init__ of an exception with the fields fs -/
def spE (C : Addr) (fs : List Str) : Sp := fun vs H Q _ => ∃ a ws, vs = .ref a :: ws ∧ ws.length = fs.length ∧ H a = some (exo a C none) ∧
  (fs = [] → Q .non H) ∧ (fs ≠ [] → ∀ dx, H dx = none → dx ≠ a → Q .non (upd (upd H dx (exd dx (fs.zip ws).reverse)) a (exo a C (some dx))))
section
variable {P : Program} {w : World} {K : PySem.W.Frag} {mg : Str → Option Value} {base : Heap} {f D C : Addr} {F : NdefX.NF} {fd : FuncData}
  {p0 p1 p2 p3 p4 p5 q0 q1 q2 q3 r0 r1 r2 r3 s0 s1 s2 s3 : Pos} {j : Nat} {msg g1 g2 g3 : Str}
abbrev supSt (p0 p1 p2 p3 p4 p5 : Pos) (j : Nat) (msg : Str) : Stmt := .Expr (.Call (.Attribute (.Call (.Name "super" p0) [] [] p1) "__init__" p2) [.Constant (.str msg) j p5] [] p3) p4
abbrev stoSt (q0 q1 q2 q3 : Pos) (g : Str) : Stmt := .Assign [.Attribute (.Name "self" q0) g q1] (.Name g q2) q3
theorem sup_start {N ps : List Str} {A : Around} {outer : List Env} {s : Shared} {H : Hp} {vs ws : List V} {E : XK} {T : St → Hp → Prop} {a : Addr} {ar : Arg} (SF : SupFn P K f F D [] fd) (SE : SupExc K C D) (S : NdefX.NScope N ps ["__class__"] F.scope)
    (hsup : mg "super" = none) (hp : (F.params.posonlyargs ++ F.params.args).head? = some ar) (hN : N[0]? = some ar.arg) (hka : F.scope.names.lookup ar.arg = some .local) (hks : F.scope.names.lookup ("super" : Str) = some .globalImplicit)
    (hev : ∀ env : Env, ∃ pl, eval (.Call (.Attribute (.Call (.Name "super" p0) [] [] p1) "__init__" p2) [.Constant (.str msg) j p5] [] p3) env = (do
      let ov ← attributeBase (.Call (.Name "super" p0) [] [] p1) "__init__" env (eval (.Call (.Name "super" p0) [] [] p1) env)
      standAt p2.atName
      let (f, first) ← holding [ov] (getMethod ov "__init__" pl)
      callWith p3 f first (backTo p3 (starEach [.Constant (.str msg) j p5] env)) [])) (hvs : vs = .ref a :: ws) (ha : H a = some (exo a C none)) (q : T (NdefX.startF N vs [some (.ref D)]) H) :
    ∀ s', Inv (NdefX.ncx (L2.CX P w) P w K mg base N F f A outer s H E) [] (NdefX.startF N vs [some (.ref D)]) H s' →
      PySem.wpAt (model P w) (A.deeper (NdefX.envF F f s.heap.objs.size)) (.func F.body (NdefX.envF F f s.heap.objs.size)) (exec (supSt p0 p1 p2 p3 p4 p5 j msg) (NdefX.envF F f s.heap.objs.size))
        (fun fl s'' => fl = .next ∧ ∃ σ' H', Inv (NdefX.ncx (L2.CX P w) P w K mg base N F f A outer s H E) [] σ' H' s'' ∧ T σ' H')
        (NdefX.ncx (L2.CX P w) P w K mg base N F f A outer s H E).xe s' := fun s' I => by
  obtain ⟨pl, hev⟩ := hev (NdefX.envF F f s.heap.objs.size)
  refine sup_exc (X := NdefX.ncx (L2.CX P w) P w K mg base N F f A outer s H E) SF SE rfl I hsup hp 0 hN (by subst hvs; rfl) hka ha hks (S.frk _ List.mem_cons_self) S.kind (fun s2 I2 => ⟨rfl, _, _, I2, q⟩) rfl rfl pl hev
theorem ok_exc0 (hbd : F.body = [supSt p0 p1 p2 p3 p4 p5 j msg]) (SF : SupFn P K f F D [] fd) (SE : SupExc K C D) (S : NdefX.NScope ["self", "__class__"] ["self"] ["__class__"] F.scope) (hsup : mg "super" = none)
    (hp : (F.params.posonlyargs ++ F.params.args).head?.map (·.arg) = some ("self" : Str)) (hks : F.scope.names.lookup ("super" : Str) = some .globalImplicit)
    (hev : ∀ env : Env, ∃ pl, eval (.Call (.Attribute (.Call (.Name "super" p0) [] [] p1) "__init__" p2) [.Constant (.str msg) j p5] [] p3) env = (do
      let ov ← attributeBase (.Call (.Name "super" p0) [] [] p1) "__init__" env (eval (.Call (.Name "super" p0) [] [] p1) env)
      standAt p2.atName
      let (f, first) ← holding [ov] (getMethod ov "__init__" pl)
      callWith p3 f first (backTo p3 (starEach [.Constant (.str msg) j p5] env)) [])) : FnOk P w K mg base (L2.CX P w) 1 f fd ["self"] (spE C []) := by
  obtain ⟨ar, hp, har⟩ := Option.map_eq_some_iff.mp hp
  refine fn_sup SF hbd S (fun vs H Q E h => ?_) (fun A outer s H vs Q E hr h => ?_)
  · obtain ⟨a, ws, rfl, hl, _⟩ := h
    simp at hl; subst hl; rfl
  · obtain ⟨a, ws, rfl, hl, ha, h1, h2⟩ := h
    refine ⟨tNext, pss_nil, ?_⟩
    exact sup_start (T := tNext _) SF SE S hsup hp (by rw [har]; rfl) (by rw [har]; exact S.par _ List.mem_cons_self) hks hev rfl ha (h1 rfl)
theorem ok_exc1 (hbd : F.body = [supSt p0 p1 p2 p3 p4 p5 j msg, stoSt q0 q1 q2 q3 g1]) (SF : SupFn P K f F D [] fd) (SE : SupExc K C D) (S : NdefX.NScope ["self", g1, "__class__"] ["self", g1] ["__class__"] F.scope) (hsup : mg "super" = none)
    (hp : (F.params.posonlyargs ++ F.params.args).head?.map (·.arg) = some ("self" : Str)) (hks : F.scope.names.lookup ("super" : Str) = some .globalImplicit) (hg : PySem.W.findIn K (.ref C) g1 = some none)
    (hd : (g1 == ("__debug__" : Str)) = false) (hd2 : (g1 == ("__classdict__" : Str)) = false)
    (hev : ∀ env : Env, ∃ pl, eval (.Call (.Attribute (.Call (.Name "super" p0) [] [] p1) "__init__" p2) [.Constant (.str msg) j p5] [] p3) env = (do
      let ov ← attributeBase (.Call (.Name "super" p0) [] [] p1) "__init__" env (eval (.Call (.Name "super" p0) [] [] p1) env)
      standAt p2.atName
      let (f, first) ← holding [ov] (getMethod ov "__init__" pl)
      callWith p3 f first (backTo p3 (starEach [.Constant (.str msg) j p5] env)) [])) : FnOk P w K mg base (L2.CX P w) 1 f fd ["self", g1] (spE C [g1]) := by
  obtain ⟨ar, hp, har⟩ := Option.map_eq_some_iff.mp hp
  refine fn_sup SF hbd S (fun vs H Q E h => ?_) (fun A outer s H vs Q E hr h => ?_)
  · obtain ⟨a, ws, rfl, hl, _⟩ := h
    simpa using hl
  · obtain ⟨a, ws, rfl, hl, ha, h1, h2⟩ := h
    obtain ⟨v, rfl⟩ : ∃ v, ws = [v] := by
      match ws, hl with
      | [v], _ => exact ⟨v, rfl⟩
    have hv := S.par g1 (by simp)
    have hs := S.par "self" (by simp)
    refine ⟨_, pss_one (ps_ost (pe_var (i := 0) rfl (.inl hs) (by decide +kernel) (by decide +kernel)) (pe_var (i := 1) rfl (.inl hv) hd hd2) (by rfl)), ?_⟩
    refine sup_start (T := tOst K g1 (tVar 0) (tVar 1) _) SF SE S hsup hp (by rw [har]; rfl) (by rw [har]; exact hs) hks hev rfl ha ?_
    exact ⟨v, rfl, .ref a, rfl, a, C, rfl, SE.oex, hg, .inl ⟨ha, fun dx n ne => h2 (by simp) dx n ne⟩⟩
theorem ok_exc2 (hbd : F.body = [supSt p0 p1 p2 p3 p4 p5 j msg, stoSt q0 q1 q2 q3 g1, stoSt r0 r1 r2 r3 g2]) (SF : SupFn P K f F D [] fd) (SE : SupExc K C D) (S : NdefX.NScope ["self", g1, g2, "__class__"] ["self", g1, g2] ["__class__"] F.scope) (hsup : mg "super" = none)
    (hp : (F.params.posonlyargs ++ F.params.args).head?.map (·.arg) = some ("self" : Str)) (hks : F.scope.names.lookup ("super" : Str) = some .globalImplicit) (hg : PySem.W.findIn K (.ref C) g1 = some none) (hg2 : PySem.W.findIn K (.ref C) g2 = some none)
    (hd : (g1 == ("__debug__" : Str)) = false) (hd2 : (g1 == ("__classdict__" : Str)) = false) (hd3 : (g2 == ("__debug__" : Str)) = false) (hd4 : (g2 == ("__classdict__" : Str)) = false)
    (hev : ∀ env : Env, ∃ pl, eval (.Call (.Attribute (.Call (.Name "super" p0) [] [] p1) "__init__" p2) [.Constant (.str msg) j p5] [] p3) env = (do
      let ov ← attributeBase (.Call (.Name "super" p0) [] [] p1) "__init__" env (eval (.Call (.Name "super" p0) [] [] p1) env)
      standAt p2.atName
      let (f, first) ← holding [ov] (getMethod ov "__init__" pl)
      callWith p3 f first (backTo p3 (starEach [.Constant (.str msg) j p5] env)) [])) : FnOk P w K mg base (L2.CX P w) 1 f fd ["self", g1, g2] (spE C [g1, g2]) := by
  obtain ⟨ar, hp, har⟩ := Option.map_eq_some_iff.mp hp
  refine fn_sup SF hbd S (fun vs H Q E h => ?_) (fun A outer s H vs Q E hr h => ?_)
  · obtain ⟨a, ws, rfl, hl, _⟩ := h
    simpa using hl
  · obtain ⟨a, ws, rfl, hl, ha, h1, h2⟩ := h
    obtain ⟨v, v2, rfl⟩ : ∃ v v2, ws = [v, v2] := by
      match ws, hl with
      | [v, v2], _ => exact ⟨v, v2, rfl⟩
    have hv := S.par g1 (by simp)
    have hv2 := S.par g2 (by simp)
    have hs := S.par "self" (by simp)
    refine ⟨_, pss_cons (ps_ost (pe_var (i := 0) rfl (.inl hs) (by decide +kernel) (by decide +kernel)) (pe_var (i := 1) rfl (.inl hv) hd hd2) (by rfl)) (pss_one (ps_ost (pe_var (i := 0) rfl (.inl hs) (by decide +kernel) (by decide +kernel)) (pe_var (i := 2) rfl (.inl hv2) hd3 hd4) (by rfl))), ?_⟩
    refine sup_start (T := tSeq (tOst K g1 (tVar 0) (tVar 1)) (tOst K g2 (tVar 0) (tVar 2)) _) SF SE S hsup hp (by rw [har]; rfl) (by rw [har]; exact hs) hks hev rfl ha ?_
    refine ⟨v, rfl, .ref a, rfl, a, C, rfl, SE.oex, hg, .inl ⟨ha, fun dx n ne => ?_⟩⟩
    refine ⟨v2, rfl, .ref a, rfl, a, C, rfl, SE.oex, hg2, .inr ⟨dx, _, upd_same, by rw [upd_ne ne, upd_same], by simp, ?_⟩⟩
    have e := h2 (by simp) dx n ne
    rw [upd_comm (Ne.symm ne), upd_upd]
    exact e
theorem ok_exc3 (hbd : F.body = [supSt p0 p1 p2 p3 p4 p5 j msg, stoSt q0 q1 q2 q3 g1, stoSt r0 r1 r2 r3 g2, stoSt s0 s1 s2 s3 g3]) (SF : SupFn P K f F D [] fd) (SE : SupExc K C D) (S : NdefX.NScope ["self", g1, g2, g3, "__class__"] ["self", g1, g2, g3] ["__class__"] F.scope) (hsup : mg "super" = none)
    (hp : (F.params.posonlyargs ++ F.params.args).head?.map (·.arg) = some ("self" : Str)) (hks : F.scope.names.lookup ("super" : Str) = some .globalImplicit) (hg : PySem.W.findIn K (.ref C) g1 = some none) (hg2 : PySem.W.findIn K (.ref C) g2 = some none) (hg3 : PySem.W.findIn K (.ref C) g3 = some none)
    (hd : (g1 == ("__debug__" : Str)) = false) (hd2 : (g1 == ("__classdict__" : Str)) = false) (hd3 : (g2 == ("__debug__" : Str)) = false) (hd4 : (g2 == ("__classdict__" : Str)) = false) (hd5 : (g3 == ("__debug__" : Str)) = false) (hd6 : (g3 == ("__classdict__" : Str)) = false)
    (hev : ∀ env : Env, ∃ pl, eval (.Call (.Attribute (.Call (.Name "super" p0) [] [] p1) "__init__" p2) [.Constant (.str msg) j p5] [] p3) env = (do
      let ov ← attributeBase (.Call (.Name "super" p0) [] [] p1) "__init__" env (eval (.Call (.Name "super" p0) [] [] p1) env)
      standAt p2.atName
      let (f, first) ← holding [ov] (getMethod ov "__init__" pl)
      callWith p3 f first (backTo p3 (starEach [.Constant (.str msg) j p5] env)) [])) :
    FnOk P w K mg base (L2.CX P w) 1 f fd ["self", g1, g2, g3] (spE C [g1, g2, g3]) := by
  obtain ⟨ar, hp, har⟩ := Option.map_eq_some_iff.mp hp
  refine fn_sup SF hbd S (fun vs H Q E h => ?_) (fun A outer s H vs Q E hr h => ?_)
  · obtain ⟨a, ws, rfl, hl, _⟩ := h
    simpa using hl
  · obtain ⟨a, ws, rfl, hl, ha, h1, h2⟩ := h
    obtain ⟨v, v2, v3, rfl⟩ : ∃ v v2 v3, ws = [v, v2, v3] := by
      match ws, hl with
      | [v, v2, v3], _ => exact ⟨v, v2, v3, rfl⟩
    have hv := S.par g1 (by simp)
    have hv2 := S.par g2 (by simp)
    have hv3 := S.par g3 (by simp)
    have hs := S.par "self" (by simp)
    refine ⟨_, pss_cons (ps_ost (pe_var (i := 0) rfl (.inl hs) (by decide +kernel) (by decide +kernel)) (pe_var (i := 1) rfl (.inl hv) hd hd2) (by rfl)) (pss_cons (ps_ost (pe_var (i := 0) rfl (.inl hs) (by decide +kernel) (by decide +kernel)) (pe_var (i := 2) rfl (.inl hv2) hd3 hd4) (by rfl))
      (pss_one (ps_ost (pe_var (i := 0) rfl (.inl hs) (by decide +kernel) (by decide +kernel)) (pe_var (i := 3) rfl (.inl hv3) hd5 hd6) (by rfl)))), ?_⟩
    refine sup_start (T := tSeq (tOst K g1 (tVar 0) (tVar 1)) (tSeq (tOst K g2 (tVar 0) (tVar 2)) (tOst K g3 (tVar 0) (tVar 3))) _) SF SE S hsup hp (by rw [har]; rfl) (by rw [har]; exact hs) hks hev rfl ha ?_
    refine ⟨v, rfl, .ref a, rfl, a, C, rfl, SE.oex, hg, .inl ⟨ha, fun dx n ne => ?_⟩⟩
    refine ⟨v2, rfl, .ref a, rfl, a, C, rfl, SE.oex, hg2, .inr ⟨dx, _, upd_same, by rw [upd_ne ne, upd_same], by simp, ?_⟩⟩
    refine ⟨v3, rfl, .ref a, rfl, a, C, rfl, SE.oex, hg3, .inr ⟨dx, _, by rw [upd_ne (Ne.symm ne), upd_same], upd_same, by simp, ?_⟩⟩
    have e := h2 (by simp) dx n ne
    rw [upd_upd, upd_comm (Ne.symm ne), upd_upd]
    exact e
end
/-! ### raise X(..) -/
section
variable (P : Program) (w : World) (K : PySem.W.Frag) (mg : Str → Option Value) (base : Heap)
structure Ex (x : Str) (C : Addr) (fs : List Str) : Prop where
  ex : ∃ (f : Addr) (fd : FuncData) (ps : List Str), FnOk P w K mg base (L2.CX P w) 1 f fd ps (spE C fs) ∧ PySem.W.findIn K (.ref C) "__init__" = some (some (.ref f)) ∧ PySem.W.typeIn K (.ref f) = some (.type "function") ∧ Binds K fd ps [] ∧ mg x = some (.ref C)
  oex : OexC K C
end
section
variable {X : Cx} {x : Str} {p pos : Pos} {e : Expr} {es : List Expr} {t : TA} {W : WX} {C : Addr} {fs : List Str}
def tRs (C : Addr) (fs : List Str) (W : WX) (t : TA) : TS := fun _ σ H => t σ H fun vs H1 => vs.length = fs.length ∧ ∀ d, H1 d = none → W (.ref C) (some d) σ (upd H1 d (.xd (fs.zip vs).reverse))
theorem xd_eq {H1 : Hp} {a d : Addr} {o1 o2 u v : HO} (ha : H1 a = none) (hda : d ≠ a) : upd (del (upd (upd (upd H1 a o1) d u) a o2) a) d v = upd H1 d v := by
  funext c
  unfold upd del
  by_cases h1 : c = d
  · simp [h1]
  · by_cases h2 : c = a
    · subst h2; simp [h1, ha]
    · simp [h1, h2]
theorem pmkE (G : Ex X.prog X.w X.K X.mg X.base x C fs) (hne : fs ≠ []) (hlen : fs.length ≤ 900) (hr : Room 2 X.A) (tk : Takes X W) (ha : PA X (e :: es) t) (hg : Gl X x) (hdb : (x == ("__debug__" : Str)) = false)
    (he : starEach (e :: es) X.env = (false, eval e X.env) :: starEach es X.env) (hpl : (backTo pos (starEach es X.env)).any (·.1) = false) :
    PMk X (.Call (.Name x p) (e :: es) [] pos) (fun σ H Q => t σ H fun vs H1 => vs.length = fs.length ∧ ∀ d, H1 d = none → Q (.ref C) (some d) (upd H1 d (.xd (fs.zip vs).reverse))) := by
  obtain ⟨fI, fd, ps, F1, iC, tI, hb, hm⟩ := G.ex
  have T := G.oex
  intro pins s σ H Q I h
  obtain ⟨nm, q, N, bs, bm, sn, sub, ab, col, dd, k0, k1, k2, k3, k5, hC, hbm⟩ := T.cls
  refine wpAny_Call_Name_kw (ld_glob I hg hm ?_ hdb)
  refine PySem.W.callWith_K (h₀ := X.base) I.ok.mod.kin T.kC (thn (ha.run pos pins s σ H _ I h) fun us s1 ⟨vs, H1, I1, r1, hz, q1⟩ => ⟨I1.kIn, ?_⟩) he hpl
  show wpAny _ _ (call (.ref C) us) _ _ _
  obtain ⟨hp, g, dr, tok, os⟩ := s1
  have hsz : hp.objs.size ≤ hp.objs.size + 1 := Nat.le_succ _
  have hn : H1 (hp.objs.size + 1) = none := I1.hok.fresh hsz
  have hq : spE C fs (.ref (hp.objs.size + 1) :: vs) (upd H1 (hp.objs.size + 1) (exo (hp.objs.size + 1) C none))
      (fun v H2 => v = .non ∧ ∃ (d : Addr) (gs : List (Str × V)), H2 (hp.objs.size + 1) = some (exo (hp.objs.size + 1) C (some d)) ∧ H2 d = some (exd d gs) ∧ H1 d = none ∧ Q (.ref C) (some d) (upd (del H2 (hp.objs.size + 1)) d (.xd gs))) (fun _ _ _ => False) := by
    refine ⟨_, vs, rfl, hz, upd_same, fun e0 => absurd e0 hne, fun _ dx n ne => ⟨rfl, dx, _, upd_same, by rw [upd_ne ne, upd_same], ?_, ?_⟩⟩
    · rw [upd_ne ne] at n; exact n
    · rw [upd_ne ne] at n
      rw [xd_eq hn ne]; exact q1 dx n
  have kk : ∀ b o, hp.get? b = some o → ((hp.push (PySem.W.kdv_tup us)).push (PySem.HandSPX.excO C hp.objs.size)).get? b = some o := fun b o e => Heap.get?_push_of_some _ (Heap.get?_push_of_some _ e)
  have hget : ((hp.push (PySem.W.kdv_tup us)).push (PySem.HandSPX.excO C hp.objs.size)).get? (hp.objs.size + 1) = some (PySem.HandSPX.excO C hp.objs.size) := by heap_get
  have I2 : Inv X pins σ (upd H1 (hp.objs.size + 1) (exo (hp.objs.size + 1) C none)) ⟨(hp.push (PySem.W.kdv_tup us)).push (PySem.HandSPX.excO C hp.objs.size), g, dr, tok, os⟩ :=
    I1.laid (t' := tok) (a := hp.objs.size + 1) (o := exo (hp.objs.size + 1) C none) (h' := (hp.push (PySem.W.kdv_tup us)).push (PySem.HandSPX.excO C hp.objs.size)) kk hsz (exo_ok hget)
  have r2 : Vals (V.ref (hp.objs.size + 1) :: vs) (Value.ref (hp.objs.size + 1) :: us) := .cons rfl r1
  have hl : (Value.ref (hp.objs.size + 1) :: us ++ []).length = ps.length := by
    have e := r2.length
    rw [F1.len _ _ _ _ hq] at e
    rw [List.append_nil]
    exact e.symm
  have hus : us.length ≤ sizeLine := by
    rw [← Paired.length r1, sizeLine_eq]
    omega
  have hbi := hb ⟨(hp.push (PySem.W.kdv_tup us)).push (PySem.HandSPX.excO C hp.objs.size), g, dr, tok, os⟩ (Value.ref (hp.objs.size + 1) :: us) I2.kIn hl
  rw [List.append_nil] at hbi
  refine wpAny_call (PySem.HandSPX.call_own PySem.F.excBase_ValueError (fun Y => PySem.HandSPX.refsVE_contains Y bm hbm) (I1.kIn _ _ hC) (PySem.W.looks_findIn I1.kIn iC) (fun self => PySem.W.bind_fn I1.kIn self tI) hus
    (codeAny_mono (F1.run _ X.stack _ _ ⟨Value.ref (hp.objs.size + 1) :: us, []⟩ (Value.ref (hp.objs.size + 1) :: us) _ _ (fun _ _ _ => False) (hr.make C us []) (I2.env0.make C us []) hbi r2 hq) fun r s' hq' => ?_))
  cases r with
  | error er => exact tk er s' (XE.of_call I2 (fun _ _ _ z => z.elim) hq')
  | ok fl =>
    cases fl with
    | ret u =>
      obtain ⟨v, H2, os2, bare2, un2, hok2, rv, ev, d, gs, ea, ed, hd1, q2⟩ := hq'
      subst ev
      obtain ⟨h2, g2, d2, t2, os'⟩ := s'
      exact ⟨rv, mk_end (raises_own T.exC T.tyC) I1 hsz kk un2 hok2 os2 bare2 ea ed hd1 q2⟩
    | next => exact False.elim hq'
    | brk => exact False.elim hq'
    | cont => exact False.elim hq'
theorem praise (G : Ex X.prog X.w X.K X.mg X.base x C fs) (hr : Room 2 X.A) (tk : Takes X W) (ha : PA X (e :: es) t) {pos' : Pos} (hc : X.calm = true := by rfl) (hne : fs ≠ [] := by decide) (hlen : fs.length ≤ 900 := by decide) (hg : Gl X x := by rfl) (hdb : (x == ("__debug__" : Str)) = false := by decide +kernel)
    (he : starEach (e :: es) X.env = (false, eval e X.env) :: starEach es X.env := by rfl) (hpl : (backTo pos (starEach es X.env)).any (·.1) = false := by rfl) :
    PS X (.Raise (some (.Call (.Name x p) (e :: es) [] pos)) none pos') (tRs C fs W t) :=
  ps_raise hc tk (pmkE G hne hlen hr tk ha hg hdb he hpl)
end
end Ta

set_option Elab.async false
set_option linter.all false
set_option maxRecDepth 100000
set_option maxHeartbeats 1000000
namespace Ta
open PySem PySem.Spec PyProof.Rows L2

/-! ### a caught exception: its fields, isinstance -/
section
variable {X : Cx} {a : Addr} {oe : Obj} {cls : Value} {d : Option Addr} {pn : List (Addr × Obj)}
structure XC (K : PySem.W.Frag) (C : Addr) : Prop where
  x : XfC K C
  e : ExcC K C
def tXat (K : PySem.W.Frag) (a : Addr) (cls : Value) (d : Option Addr) (f : Str) (te : TE) : TE := fun σ H Q => te σ H fun x H1 => x = .ref a ∧ match cls with
  | .ref C => (match d with
    | some dd => XC K C ∧ PySem.W.findIn K (.ref C) f = some none ∧ look H1 dd fun o => (match o with
      | some (.xd fs) => fld fs f fun v => Q v H1
      | _ => False)
    | none => False)
  | _ => False
theorem tXat_e {K : PySem.W.Frag} {cls : Value} {d : Option Addr} {f : Str} {H1 : Hp} {k : V → Prop} (h : match cls with
  | .ref C => (match d with
    | some dd => XC K C ∧ PySem.W.findIn K (.ref C) f = some none ∧ look H1 dd fun o => (match o with
      | some (.xd fs) => fld fs f fun v => k v
      | _ => False)
    | none => False)
  | _ => False) : ∃ (C dd : Addr), cls = .ref C ∧ d = some dd ∧ XC K C ∧ PySem.W.findIn K (.ref C) f = some none ∧ look H1 dd fun o => match o with
    | some (.xd fs) => fld fs f fun v => k v
    | _ => False := by
  cases cls with
  | ref C =>
    cases d with
    | none => exact h.elim
    | some dd => exact ⟨C, dd, rfl, rfl, h⟩
  | _ => exact h.elim
theorem pxat {e : Expr} {te : TE} {pos : Pos} {n : Str} (hz : Zc cls d oe) (hf : ∃ vs, oe.data = .fields vs) (he : PE (X.suite a ((a, oe) :: pn)) e te) (hb : attributeBase e n X.env (eval e X.env) = eval e X.env := by rfl) :
    PE (X.suite a ((a, oe) :: pn)) (.Attribute e n pos) (tXat X.K a cls d n te) := by
  refine ⟨fun pins s σ H Q I h => ?_⟩
  refine attr_of hb (thn (he.run pins s σ H _ I h) fun u s1 hh => ?_)
  obtain ⟨x, H1, I1, rx, ex, hh⟩ := hh
  obtain ⟨C, dd, ec, ed, T, hno, q⟩ := tXat_e hh
  subst ex
  obtain rfl : u = Value.ref a := rx
  subst ec
  subst ed
  have q := look_e q
  cases ea : H1 dd with
  | none => rw [ea] at q; exact q.elim
  | some ob =>
    rw [ea] at q
    cases ob with
    | xd fs =>
      obtain ⟨v, l, q⟩ := fld_e q
      obtain ⟨ha, _⟩ := I1.pin (a, oe) (List.mem_append_left _ List.mem_cons_self)
      obtain ⟨vs, hd⟩ := hf
      have hx : ObjOk X.prog X.w H1 s1.heap dd (.xd fs) := I1.hok dd _ ea
      obtain ⟨mA, hns, hr⟩ := hx
      obtain ⟨od, ho, hl⟩ := lookIn_ns hns
      obtain ⟨u, hu, ru⟩ := RelO.some_of (v := v) (o := mA n) (by rw [← l]; exact hr n)
      have J : PySem.W.InstAt s1.heap a oe C (some od) := ⟨ha, hz.1, by unfold PySem.W.notCls; rw [hd] <;> rfl, by rw [hz.2]; exact ho⟩
      exact HandSPX.exc_get I1.kIn J T.x.ga T.x.gg T.x.exC (PySem.W.findObj_own T.x.hdC hno rfl (by rw [hl, hu])) (handed_of ru) ⟨v, H1, I1.tok _, ru, q⟩
    | _ => exact q.elim
def clsOf : V → Value
  | .ty n => .type n
  | .ref C => .ref C
  | _ => .none
def isCls : V → Bool
  | .ty _ => true
  | .ref _ => true
  | _ => false
theorem clsV_of {c : V} (h : isCls c = true) : ClsV c (clsOf c) := by
  cases c with
  | ty n => exact .ty n
  | ref C => exact .own C
  | _ => cases h
theorem clsV_all : ∀ {cs : List V}, cs.all isCls = true → Paired ClsV cs (cs.map clsOf)
  | [], _ => .nil
  | c :: cs, h => by
    simp only [List.all_cons, Bool.and_eq_true] at h
    exact .cons (clsV_of h.1) (clsV_all h.2)
/-- isinstance's second argument: a class, a tuple of classes that was laid -/
structure isaP (K : PySem.W.Frag) (t : Value) (c : V) (H : Hp) (Q : Bool → Prop) : Prop where
  out : (isCls c = true ∧ ∃ b, PySem.W.kitOne K t (clsOf c) = some b ∧ Q b) ∨ ∃ tp cs b, c = .ref tp ∧ H tp = some (.tup cs) ∧ cs.all isCls = true ∧ PySem.W.kitAny K t (cs.map clsOf) = some b ∧ Q b
theorem isa_1 {K : PySem.W.Frag} {t : Value} {c : V} {H : Hp} {Q : Bool → Prop} {b : Bool} (h : isCls c = true) (h2 : PySem.W.kitOne K t (clsOf c) = some b) (q : Q b) : isaP K t c H Q := by
  refine ⟨?_⟩; exact .inl ⟨h, b, h2, q⟩
theorem isa_t {K : PySem.W.Frag} {t : Value} {tp : Addr} {cs : List V} {H : Hp} {Q : Bool → Prop} {b : Bool} (h : H tp = some (.tup cs)) (h1 : cs.all isCls = true) (h2 : PySem.W.kitAny K t (cs.map clsOf) = some b) (q : Q b) : isaP K t (.ref tp) H Q := by
  refine ⟨?_⟩; exact .inr ⟨tp, cs, b, rfl, h, h1, h2, q⟩
/-- isinstance(e, ..), e the caught exception -/
def zIsX (K : PySem.W.Frag) (a : Addr) (cls : Value) (d : Option Addr) : List V → Hp → VK → Prop := fun xs H Q => two xs fun x c => x = .ref a ∧ match cls with
  | .ref D => XC K D ∧ (match d with
    | some dd => look H dd fun o => (match o with
      | some (.xd fs) => isaP K (.ref D) c H fun b => Q (.bl b) H
      | _ => False)
    | none => isaP K (.ref D) c H fun b => Q (.bl b) H)
  | _ => False
theorem zIsX_e {K : PySem.W.Frag} {cls : Value} {d : Option Addr} {c : V} {H : Hp} {k : Bool → Prop} (h : match cls with
  | .ref D => XC K D ∧ (match d with
    | some dd => look H dd fun o => (match o with
      | some (.xd fs) => isaP K (.ref D) c H k
      | _ => False)
    | none => isaP K (.ref D) c H k)
  | _ => False) : (∃ D, cls = .ref D ∧ XC K D) ∧ (∀ dd, d = some dd → ∃ fs, H dd = some (.xd fs)) ∧ isaP K cls c H k := by
  cases cls with
  | ref D =>
    obtain ⟨h1, h2⟩ := h
    cases d with
    | none => exact ⟨⟨D, rfl, h1⟩, fun _ z => (nomatch z), h2⟩
    | some dd =>
      have h2 := look_e h2
      cases e : H dd with
      | none => rw [e] at h2; exact h2.elim
      | some o =>
        rw [e] at h2
        cases o with
        | xd fs => exact ⟨⟨D, rfl, h1⟩, fun dd' z => by cases z; exact ⟨fs, e⟩, h2⟩
        | _ => exact h2.elim
  | _ => exact h.elim
theorem crisx (hz : Zc cls d oe) (hf : ∃ vs, oe.data = .fields vs) : CallR (X.suite a ((a, oe) :: pn)) (.builtin "isinstance") (zIsX X.K a cls d) := by
  intro pins s σ H xs us Q I r h
  obtain ⟨x, c, rfl, h⟩ := two_e h
  obtain ⟨rfl, h'⟩ := h
  obtain ⟨⟨D, rfl, T⟩, hdd, h⟩ := zIsX_e (k := fun b => Q (.bl b) H) h'
  obtain ⟨u1, u2, rfl, r1, r2⟩ := vals2 r
  cases (show u1 = Value.ref a from r1)
  obtain ⟨hget, _⟩ := I.pin (a, oe) (List.mem_append.mpr (.inl List.mem_cons_self))
  obtain ⟨vs, hv⟩ := hf
  have J : ∃ od, PySem.W.InstAt s.heap a oe D od := by
    cases d with
    | none => exact ⟨none, hget, hz.1, by unfold PySem.W.notCls; rw [hv] <;> rfl, by rw [hz.2]; trivial⟩
    | some dd =>
      obtain ⟨fs, hx⟩ := hdd dd rfl
      obtain ⟨mA, hns, _⟩ := (show ObjOk X.prog X.w H s.heap dd (.xd fs) from I.hok dd _ hx)
      obtain ⟨od, ho, _⟩ := lookIn_ns hns
      exact ⟨some od, hget, hz.1, by unfold PySem.W.notCls; rw [hv] <;> rfl, by rw [hz.2]; exact ho⟩
  obtain ⟨od, J⟩ := J
  have hcl : (PySem.W.clsIn X.K D).isSome = true := by
    obtain ⟨cd, h1, _⟩ := PySem.W.any_some T.e.hd
    rw [h1]; rfl
  have Z := PySem.W.kitx_exc (x := a) (ox := oe) (od := od) hcl T.e.hg T.e.hk T.e.hs T.e.ha T.e.hn T.e.ht T.e.hm
  replace h := h.out
  rcases h with ⟨hc, b, e, q⟩ | ⟨tp, cs, b, rfl, hT, hc, e, q⟩
  · have e2 := (clsV_of hc).eq r2
    subst e2
    exact PySem.W.kia_one Z I.kIn J e (fun z => nomatch z) fun tk => ⟨.bl b, H, I.kept (t' := tk) fun _ _ z => z, rfl, q⟩
  · cases (show u2 = Value.ref tp from r2)
    obtain ⟨_, its, rv, o, h1, h2, n, h3⟩ := (show ObjOk X.prog X.w H s.heap tp (.tup cs) from I.hok tp _ hT)
    have e3 := ClsV.all (clsV_all hc) rv
    subst e3
    obtain ⟨oc, odd, dt, sl⟩ := o
    simp only at h2 h3
    subst h2 h3
    exact PySem.W.kia_tup Z I.kIn J h1 e (fun z => nomatch z) fun tk => ⟨.bl b, H, I.kept (t' := tk) fun _ _ z => z, rfl, q⟩
structure IsC (K : PySem.W.Frag) (C : Addr) : Prop where
  ex : ∀ (H : Hp) (a dx : Addr) (fs : List (Str × V)), H a = some (.ins C dx fs) → TyOf K H (.ref a) (.ref C)
/-- isinstance(x, ..) of any value -/
def tyOf (K : PySem.W.Frag) (x : V) (H : Hp) (k : Value → Prop) : Prop := match x with
  | .str _ => k (.type "str")
  | .int _ => k (.type "int")
  | .bl _ => k (.type "bool")
  | .non => k (.type "NoneType")
  | .ref p => look H p fun o => match o with
    | some (.ins C dx fs) => IsC K C ∧ k (.ref C)
    | some (.lst xs) => k (.type "list")
    | some (.tup xs) => k (.type "tuple")
    | some (.dK xs) => k (.type "dict")
    | _ => ∃ t, TyX K H (.ref p) t ∧ k t
  | _ => False
theorem tyOf_e {K : PySem.W.Frag} {x : V} {H : Hp} {k : Value → Prop} (h : tyOf K x H k) : ∃ t, TyX K H x t ∧ k t := by
  cases x with
  | str z => exact ⟨_, .base (.str z), h⟩
  | int z => exact ⟨_, .base (.int z), h⟩
  | bl z => exact ⟨_, .base (.bl z), h⟩
  | non => exact ⟨_, .base .non, h⟩
  | ref p =>
    have h := look_e h
    revert h
    cases e : H p with
    | none => exact fun h => h
    | some o =>
      cases o with
      | ins C dx fs => exact fun h => ⟨_, .base (h.1.ex H p dx fs e), h.2⟩
      | lst xs => exact fun h => ⟨_, .base (.lst e), h⟩
      | tup xs => exact fun h => ⟨_, .base (.tup e), h⟩
      | dK xs => exact fun h => ⟨_, .base (.dK e), h⟩
      | _ => exact fun h => h
  | _ => exact h.elim
def zIsa (K : PySem.W.Frag) : List V → Hp → VK → Prop := fun xs H Q => two xs fun x c => tyOf K x H fun t => isaP K t c H fun b => Q (.bl b) H
theorem crisa {X : Cx} : CallR X (.builtin "isinstance") (zIsa X.K) := by
  refine cr_imp (call_isi.or call_isiT) fun xs H Q h => ?_
  obtain ⟨x, c, rfl, h'⟩ := two_e h
  obtain ⟨t, ht, h⟩ := tyOf_e (K := X.K) (k := fun t => isaP X.K t c H fun b => Q (.bl b) H) h'
  replace h := h.out
  rcases h with ⟨hc, b, e, q⟩ | ⟨tp, cs, b, rfl, hT, hc, e, q⟩
  · exact .inl ⟨x, c, t, _, b, rfl, clsV_of hc, ht, e, q⟩
  · exact .inr ⟨x, tp, cs, t, _, b, rfl, hT, clsV_all hc, ht, e, q⟩
end
/-! ### a def: its promise by its body -/
section
variable {P : Program} {w : World} {K : PySem.W.Frag} {mg : Str → Option Value} {base : Heap} {x qual : Str} {params : Arguments} {body : List Stmt} {scope : Scope} {dvs : List V} {kws : List (Str × V)} {f : Addr} {fd : FuncData}
/-- the wish of a def about what is raised -/
abbrev WD (E : XK) : WX := fun c d _ H => E c d H
abbrev EndD (Q : VK) : Ends := { nx := fun _ H' => Q .non H', rt := Q }
theorem def_ok {N ps : List Str} {k : Nat} {sp : Sp} (F : FunD K x qual params body scope dvs kws f fd) (S : FnScope N ps scope) (len : ∀ vs H Q E, sp vs H Q E → vs.length = ps.length) (t : WX → TS)
    (term : ∀ (cdv : Value) (A : Around) (outer : List Env) (s : Shared) (H : Hp) (E : XK), Room k (A.deeper (envOfC qual scope s.heap.objs.size f cdv)) → PSs (cxOf (L2.CX P w) P w K mg base N qual scope f cdv A outer s H E) body (t (WD E)))
    (rd : ∀ vs H Q E, sp vs H Q E → t (WD E) (EndD Q) (start N vs) H) : FnOk P w K mg base (L2.CX P w) (k + 1) f fd ps sp := by
  refine F.ok S len fun cdv A outer s H vs Q E hr h => ⟨t (WD E), ?_, rd vs H Q E h⟩
  exact term cdv A outer s H E hr
/-- the wish of the def's context -/
theorem takesD {P : Program} {w : World} {K : PySem.W.Frag} {mg : Str → Option Value} {base : Heap} {N : List Str} {qual : Str} {scope : Scope} {f : Addr} {cdv : Value} {A : Around} {outer : List Env} {s : Shared} {H : Hp} {E : XK} :
    Takes (cxOf (L2.CX P w) P w K mg base N qual scope f cdv A outer s H E) (WD E) := takes_of rfl rfl rfl rfl
theorem ownD {P : Program} {w : World} {K : PySem.W.Frag} {mg : Str → Option Value} {base : Heap} {N : List Str} {qual : Str} {scope : Scope} {f : Addr} {cdv : Value} {A : Around} {outer : List Env} {s : Shared} {H : Hp} {E : XK} :
    PassesOwn (model P w) (cxOf (L2.CX P w) P w K mg base N qual scope f cdv A outer s H E).A (cxOf (L2.CX P w) P w K mg base N qual scope f cdv A outer s H E).env (cxOf (L2.CX P w) P w K mg base N qual scope f cdv A outer s H E).xe := PassesOwn.leaving
end
end Ta
namespace Ta
open PySem PySem.Spec PyProof.Rows L2
/-! ### short forms for printed terms -/
section
variable {X : Cx}
theorem pset (i : Nat) {x : Str} {e : Expr} {te : TE} {pos pos' : Pos} (hN : X.N.Nodup) (he : PE X e te) (hi : X.N[i]? = some x := by rfl) (hx : Loc X.env.scope x := by first | exact Or.inl rfl | exact Or.inr rfl)
    (hs : swapsWith e (some (.Name x pos')) pos.line X.env = pure false := by rfl) (hf : X.fn x = true ∨ X.env.scope.names.lookup x = some .local := by first | exact .inl rfl | exact .inr rfl) : PS X (.Assign [.Name x pos'] e pos) (tAsg te (gName i)) := ps_set hN hi hx he hs hf
theorem pgn (i : Nat) {x : Str} {pos : Pos} (hN : X.N.Nodup) (hi : X.N[i]? = some x := by rfl) (hx : Loc X.env.scope x := by first | exact Or.inl rfl | exact Or.inr rfl)
    (hf : X.fn x = true ∨ X.env.scope.names.lookup x = some .local := by first | exact .inl rfl | exact .inr rfl) : PG X (.Name x pos) (gName i) := pg_name hN hi hx hf
theorem psub {o i e : Expr} {to ti te : TE} {pos pos' : Pos} (he : PE X e te) (ho : PE X o to) (hi : PE X i ti) (hs : swapsWithSole [.Subscript o i pos'] e pos.line X.env = pure false := by rfl) (hw : swappedStores [.Subscript o i pos'] e X.env = pure none := by rfl)
    (h3 : List.map (fun x => x.snd) (assignEach [.Subscript o i pos'] X.env) = [assign (.Subscript o i pos') X.env] := by rfl) (h4 : ∀ v : Value, assign (.Subscript o i pos') X.env v = (do
      let ov ← holding [v] (eval o X.env)
      let iv ← holding [v, ov] (eval i X.env)
      standAt pos'
      holding [v, ov, iv] (setItem ov iv v)
      release [v, ov, iv] []) := by intro v; rfl) : PS X (.Assign [.Subscript o i pos'] e pos) (tAsg te (gSub to ti zSetP)) := ps_asg he (pg_sub ho hi setp h4) hs hw h3
end
end Ta

set_option Elab.async false
set_option linter.all false
set_option maxRecDepth 100000
set_option maxHeartbeats 3200000
namespace Ta
open PySem PySem.Spec PyProof.Rows L2

/-! ### len(set(text)) -/
def dn {α : Type} [BEq α] (l : List α) : Nat := l.eraseDups.length
theorem dn_snoc {α : Type} [BEq α] [LawfulBEq α] (l : List α) (x : α) : dn (l ++ [x]) = if l.any (· == x) = true then dn l else dn l + 1 := by
  unfold dn
  rw [List.eraseDups_append]
  by_cases h : x ∈ l
  · have e : [x].removeAll l = [] := by simp [List.removeAll, h]
    rw [e, if_pos (by simpa using h)]; simp
  · have e : [x].removeAll l = [x] := by simp [List.removeAll, h]
    rw [e, if_neg (by simpa using h)]; simp [List.eraseDups_cons]
section
variable {prog : Program} {w : World} {A : Around} {R : Result → Shared → Prop} {I : Addr} {fp wr : List Addr} {G : Array GenState → Array GenState → Prop} {n : Nat} {P : Nat → Value → Prop} {St : Nat → Shared → Prop}
theorem dn_le {α : Type} [BEq α] [LawfulBEq α] (l : List α) : dn l ≤ l.length := by
  suffices h : ∀ m : List α, dn m.reverse ≤ m.reverse.length by
    have z := h l.reverse
    rw [List.reverse_reverse] at z
    exact z
  intro m
  induction m with
  | nil => simp [dn]
  | cons x m ih =>
    rw [List.reverse_cons, dn_snoc]
    split <;> simp <;> simp at ih <;> omega
theorem loopN (W : WalksS prog w A.in1 I fp wr G n P St) (S : Addr) (hSf : S ∉ fp) (xs : List Str) (hsz : xs.length = n) (hn1 : n + 1 < scanBound)
    (hval : ∀ i v, P i v → ∃ t, v = .str (xs.getD i Str.empty) t) :
    ∀ (k i : Nat) (s : Shared), n - i = k → i ≤ n → St i s →
      s.heap.SetOf (PySem.strKind prog w) S (fun k' => (xs.take i).any (· == k')) (dn (xs.take i)) →
      (∀ s', Moved (S :: wr) G s s' → s'.heap.SetOf (PySem.strKind prog w) S (fun k' => xs.any (· == k')) (dn xs) → R (.ok (.ret .none)) s') →
      codeAny (model prog w) A (.builtin "set.update.loop" ⟨[.ref S, .ref I], []⟩) R s := by
  have hSw : S ∉ wr := fun h => hSf (W.sub _ h)
  have hsub : ∀ b ∈ wr, b ∈ S :: wr := fun b hb => List.mem_cons_of_mem _ hb
  intro k
  induction k with
  | zero =>
    intro i s hk hi hst hS hR
    have hin : i = n := by omega
    subst hin
    refine codeAny_builtin PyProof.Rows.F.entry_set_update_loop ?_
    rw [Around.under_plainId PyProof.Rows.F.plain_set_update_loop _]
    show wpAny _ A.in1 (pyNext (.ref I) >>= _) _ _ s
    refine wpAny_bind (W.done s _ _ hst fun s' hm => ?_)
    show wpAny _ A.in1 (ret Value.none) _ _ s'
    rw [List.take_of_length_le (Nat.le_of_eq hsz)] at hS
    exact wpAny_pure (hR s' (hm.mono hsub) (by
      obtain ⟨o, es, ep, t, ho, rest⟩ := hS
      exact ⟨o, es, ep, t, hm.heap S _ hSw ho, rest⟩))
  | succ k ih =>
    intro i s hk hi hst hS hR
    have hlt : i < n := by omega
    have hlx : i < xs.length := by omega
    refine codeAny_builtin PyProof.Rows.F.entry_set_update_loop ?_
    rw [Around.under_plainId PyProof.Rows.F.plain_set_update_loop _]
    show wpAny _ A.in1 (pyNext (.ref I) >>= _) _ _ s
    refine wpAny_bind (W.item i s _ _ hlt hst fun v s' hP hst' hm => ?_)
    obtain ⟨t, rfl⟩ := hval i v hP
    have hS' : s'.heap.SetOf (PySem.strKind prog w) S (fun k' => (xs.take i).any (· == k')) (dn (xs.take i)) := by
      obtain ⟨o, es, ep, tb, ho, rest⟩ := hS
      exact ⟨o, es, ep, tb, hm.heap S _ hSw ho, rest⟩
    show wpAny _ A.in1 (holding [Value.str (xs.getD i Str.empty) t] (setAdd S (.str (xs.getD i Str.empty) t)) >>= _) _ _ s'
    refine wpAny_bind (wpAny_holding ?_)
    unfold setAdd
    refine wpAny_holding ?_
    refine wpAny_bind ((PySem.strKind prog w).pyHash (k := xs.getD i Str.empty) (strKind_is _ _ _ _) ?_)
    have hdn := dn_le (xs.take i)
    have htk : (xs.take i).length ≤ i := by rw [List.length_take]; omega
    refine wpAny_setAddHashed_of (knd := PySem.strKind prog w) (s := { s' with toks := s'.toks + 1 }) (strKind_is _ _ _ _) rfl hS' (by unfold scanBound at hn1 ⊢; omega) fun h' hsb hS2 => ?_
    have ex : xs.getD i Str.empty = xs[i] := by simp [List.getD, hlx]
    have et : xs.take (i + 1) = xs.take i ++ [xs[i]] := by rw [List.take_succ_eq_append_getElem hlx]
    have hSi : h'.SetOf (PySem.strKind prog w) S (fun k' => (xs.take (i + 1)).any (· == k')) (dn (xs.take (i + 1))) := by
      refine SetOf_congr hS2 (fun k' => ?_) ?_
      · show ((xs.take i).any (· == k') || decide (k' = xs.getD i Str.empty)) = (xs.take (i + 1)).any (· == k')
        rw [et, ex, List.any_append]
        congr 1
        by_cases e : k' = xs[i]
        · subst e; simp
        · have hb : (xs[i] == k') = false := by simpa [beq_iff_eq] using (fun h' : xs[i] = k' => e h'.symm)
          simp [hb, e]
      · rw [et, dn_snoc, ex]
    refine wpAny_pure ⟨plainId_quiet PyProof.Rows.F.plain_set_update_loop _, ih (i + 1) _ (by omega) hlt (W.frame _ s' _ _ hst' (Nat.le_succ _) fun b hb o e => ?_) hSi fun s'' hm'' hS'' => ?_⟩
    · rw [hsb.2 b (fun h : b = S => hSf (by rw [← h]; exact hb))]; exact e
    · refine hR s'' (Moved.trans W.gtrans ((hm.mono hsub).then_heap (Nat.le_succ _) fun b o hb e => ?_) hm'') hS''
      rw [hsb.2 b (fun h : b = S => hb (by rw [h]; exact List.mem_cons_self))]; exact e
end
section
variable {prog : Program} {w : World} {A : Around} {E : Value → Shared → Prop} {s : Shared}
def one1 (l : List Nat) : List Str := l.map fun c => S [c]
theorem sign_one {x : Str} {i : Nat} {v : Value} (h : SignAt x i v) : ∃ t, v = .str ((one1 (tl x)).getD i Str.empty) t := by
  obtain ⟨c, u, h1, rfl⟩ := h
  have e : (tl x)[i]? = some c := by simpa [tl] using h1
  exact ⟨u, by simp [one1, List.getD, List.getElem?_map, e]⟩
theorem call_set_text {x : Str} {t : Tok} {Q : Value → Shared → Prop} (hh : A.handled = none) (hn : (tl x).length + 1 < scanBound)
    (h : ∀ (h' : Heap) (tk : Nat), h'.SetOf (PySem.strKind prog w) s.heap.objs.size (fun k' => (one1 (tl x)).any (· == k')) (dn (one1 (tl x))) →
      (∀ b o, b < s.heap.objs.size → s.heap.get? b = some o → h'.get? b = some o) → Q (.ref s.heap.objs.size) { s with heap := h', toks := tk }) :
    wpAny (model prog w) A (call (.type "set") [.str x t]) Q E s := by
  obtain ⟨c, tl', hmro⟩ := PySem.F.called_set.mro
  have hmade := PySem.F.called_set.made
  have hsub := PySem.F.called_set.sub
  refine wpAny_call (codeAny_of_tree ?_)
  show wpAny _ _ (callAny (.type "set") _) _ _ _
  refine wpAny_pure ⟨Code.quiet_builtin _ (by decide +kernel), codeAny_builtin PySem.F.entry_type_call ?_⟩
  rw [Around.under_plain (weight_type_call_type "set" [.str x t] []) rfl]
  have h1 := PySem.F.called_set.notType
  have h2 := PySem.F.called_set.canCreate
  have hct := PySem.F.typeCall_set_1 (.str x t)
  repeat (any_goals (first | assumption | wp_step))
  refine codeAny_mono (code_set_new_1 (.str x t) (E := E) (Q₁ := fun obj s₁ => ∃ led : Bool, obj = .ref s.heap.objs.size ∧ s₁ = { s with heap := s.heap.push { cls := .type "set", dict := none, data := .set #[] 0 (.fresh 0 0 led) } }) fun led => ⟨led, rfl, rfl⟩) fun r s₁ hr => ?_
  cases r with
  | error e => exact hr
  | ok fl =>
    cases fl with
    | ret obj =>
      obtain ⟨led, rfl, rfl⟩ := hr
      have hS : (s.heap.push { cls := .type "set", dict := none, data := .set #[] 0 (.fresh 0 0 led) }).get? s.heap.objs.size = some { cls := .type "set", dict := none, data := .set #[] 0 (.fresh 0 0 led) } := Heap.get?_push_size _ rfl
      have hT : Shared.TypeIs { s with heap := s.heap.push { cls := .type "set", dict := none, data := .set #[] 0 (.fresh 0 0 led) } } (.ref s.heap.objs.size) "set" := ⟨_, hS, rfl⟩
      have hli := PySem.F.called_set.init.lookup
      have hbi := PySem.F.called_set.init.bind (.ref s.heap.objs.size)
      repeat (any_goals (first | assumption | wp_step))
      refine codeAny_mono (codeAny_call_builtin (R := wants (fun r s₂ => r = .none ∧ ∃ h' tk, s₂ = { s with heap := h', toks := tk } ∧
          h'.SetOf (PySem.strKind prog w) s.heap.objs.size (fun k' => (one1 (tl x)).any (· == k')) (dn (one1 (tl x))) ∧
          (∀ b o, b < s.heap.objs.size → s.heap.get? b = some o → h'.get? b = some o)) E) PySem.F.called_set.init.plain PySem.F.entry_set_init (check_set_init_1 hT ?_)) fun r₂ s₂ hr₂ => ?_
      · have hsls := PySem.F.sub_str_set
        have hslf := PySem.F.sub_str_frozenset
        have hne : (Value.type "str" == Value.type "dict") = false := by decide
        unfold Builtin.«set.__init__» noKeywords Builtin.Frozenset.updateFrom
        generalize hPI : pyIter = PI
        wp_walk
        subst hPI
        refine wpAny_pyIter_str fun o St W hst => ?_
        refine wpAny_bind (wpAny_runValue ?_)
        have hh3 : A.in1.in1.in1.handled = none := by simp [hh]
        have hSf : s.heap.objs.size ∉ [(s.heap.push { cls := .type "set", dict := none, data := .set #[] 0 (.fresh 0 0 led) }).objs.size] := by
          rw [Heap.size_push]; simp only [List.mem_singleton]
          exact Nat.ne_of_lt (Nat.lt_succ_self _)
        have hsz : (one1 (tl x)).length = x.cps.size := by simp [one1, tl]
        have hszn : x.cps.size = (tl x).length := by simp [tl]
        refine loopN ((W _ hh3).toS) s.heap.objs.size
          hSf (one1 (tl x)) hsz (by rw [hszn]; exact hn) (fun i v h => sign_one h) (x.cps.size - 0) 0 _ (by omega) (Nat.zero_le _)
          hst ?hS0 ?hR
        case hS0 =>
          have hget : ((s.heap.push { cls := .type "set", dict := none, data := .set #[] 0 (.fresh 0 0 led) }).push o).get? s.heap.objs.size
              = some { cls := .type "set", dict := none, data := .set #[] 0 (.fresh 0 0 led) } := Heap.get?_push_of_some _ hS
          exact PyProof.Rows.SetOf_congr ((PyProof.Rows.setObjOf_fresh (knd := PySem.strKind prog w) led).setOf hget (by unfold scanBound; omega)) (fun _ => rfl) rfl
        case hR =>
          intro s' hm hS'
          obtain ⟨h', g', d', tk', os'⟩ := s'
          have eg : g' = s.gens := hm.gens
          have ed : d' = s.drawn := hm.drawn
          have eo : os' = s.os := hm.os
          subst eg; subst ed; subst eo
          show wpAny _ _ _ _ _ _
          refine wpAny_pure ?_
          show wpAny _ _ (ret Value.none) _ _ _
          refine wpAny_pure ⟨rfl, h', tk', rfl, hS', fun b o hb e => ?_⟩
          have hb1 : b ≠ s.heap.objs.size := Nat.ne_of_lt hb
          have hb2 : b ≠ (s.heap.push { cls := .type "set", dict := none, data := .set #[] 0 (.fresh 0 0 led) }).objs.size := by
            rw [Heap.size_push]; exact Nat.ne_of_lt (Nat.lt_succ_of_lt hb)
          exact hm.heap b o (by simp only [List.mem_cons, List.mem_singleton, List.not_mem_nil, or_false, not_or]; exact ⟨hb1, hb2⟩) (Heap.get?_push_of_some _ (Heap.get?_push_of_some _ e))
      · cases r₂ with
        | error e => exact hr₂
        | ok fl₂ =>
          cases fl₂ with
          | ret r =>
            obtain ⟨rfl, h', tk, rfl, hS', hk'⟩ := hr₂
            repeat (any_goals (first | assumption | wp_step))
            exact h _ _ hS' hk'
          | _ => exact hr₂.elim
    | _ => exact hr.elim
end
end Ta

set_option Elab.async false
set_option linter.all false
set_option maxRecDepth 100000
set_option maxHeartbeats 3200000
namespace Ta
open PySem PySem.Spec PyProof.Rows L2
theorem dn_map {α β : Type} [BEq α] [LawfulBEq α] [BEq β] [LawfulBEq β] (f : α → β) (hf : ∀ x y, f x = f y → x = y) (l : List α) : dn (l.map f) = dn l := by
  suffices h : ∀ m : List α, dn (m.reverse.map f) = dn m.reverse by
    have z := h l.reverse
    rw [List.reverse_reverse] at z
    exact z
  intro m
  induction m with
  | nil => simp [dn]
  | cons x m ih =>
    rw [List.reverse_cons, List.map_append, List.map_cons, List.map_nil, dn_snoc, dn_snoc, ih]
    have e : ((m.reverse.map f).any fun y => y == f x) = (m.reverse.any fun y => y == x) := by
      rw [List.any_map]
      congr 1
      funext y
      show (f y == f x) = (y == x)
      by_cases e : y = x
      · subst e; rw [beq_self_eq_true, beq_self_eq_true]
      · rw [beq_eq_false_iff_ne.mpr e, beq_eq_false_iff_ne.mpr fun z => e (hf _ _ z)]
    rw [e]
theorem S1_inj (x y : Nat) (h : S [x] = S [y]) : x = y := by
  injection h with h
  injection h with h
  injection h
def zLset (x : V) (H : Hp) (Q : VK) : Prop := match x with
  | .str z => (tl z).length < 4000 ∧ Q (.int (dn (tl z))) H
  | _ => False
def tLset (ta : TE) : TE := fun σ H Q => ta σ H fun x H1 => zLset x H1 Q
section
variable {X : Cx}
theorem plset {a : Expr} {ta : TE} {p p2 q pos : Pos} (hc : X.calm = true) (hm : X.mg "len" = none) (hm2 : X.mg "set" = none) (ha : PE X a ta) (hg : Gl X "len" := by rfl) (hg2 : Gl X "set" := by rfl)
    (na : starEach [a] X.env = (false, eval a X.env) :: starEach [] X.env := by rfl) : PE X (.Call (.Name "len" p) [.Call (.Name "set" p2) [a] [] q] [] pos) (tLset ta) := by
  refine ⟨fun pins s σ H Q I h => ?_⟩
  refine Call_ (ld_blt I hg hm boot_len ?_)
  refine PyProof.Rows.callWith_builtin1 (PyProof.Rows.args_cons ?_ rfl) rfl rfl
  refine Call_ (ld_blt I hg2 hm2 boot_set ?_)
  refine PyProof.Rows.callWith_type1 (PyProof.Rows.args_cons (thn (ha.run pins s σ H _ I h) fun v s1 ⟨x, H1, I1, r1, q1⟩ => PyProof.Rows.args_nil ?_) na) na rfl
  cases x with
  | str z =>
    obtain ⟨h1, q1⟩ := q1
    obtain ⟨t, rfl⟩ := r1
    refine call_set_text (I1.ok.hd hc) (by unfold scanBound; omega) fun h' tk hS hk => ?_
    refine PyProof.Rows.args_nil ?_
    have edn : dn (one1 (tl z)) = dn (tl z) := dn_map _ S1_inj _
    have hle := dn_le (tl z)
    obtain ⟨o, es, ep, t, ho, hex, hd, _, _, _, hf, hn⟩ := hS
    have I2 : Inv X pins σ H1 { s1 with heap := h', toks := tk } := I1.kept fun b o e => hk b o (Heap.lt_size e) e
    refine call_len_set ho hex hd hf (by rw [hn, edn]; omega) ⟨.int (dn (tl z)), H1, I2.tok _, ⟨_, by rw [hn, edn]⟩, q1⟩
  | _ => exact False.elim q1
end

/-! ### sorted(text) -/
def srt (l : List Nat) : List Nat := l.mergeSort fun a b => decide (a ≤ b)
theorem srt_perm (l : List Nat) : (srt l).Perm l := List.mergeSort_perm _ _
theorem srt_pw (l : List Nat) : (srt l).Pairwise (· ≤ ·) := by
  have h := List.pairwise_mergeSort (le := fun a b : Nat => decide (a ≤ b)) (fun a b c h1 h2 => by simp at *; omega) (fun a b => by simp; omega) l
  exact h.imp fun z => by simpa using z
theorem srt_uniq {l m : List Nat} (h : m.Perm l) (hp : m.Pairwise (· ≤ ·)) : m = srt l :=
  List.Perm.eq_of_pairwise (fun _ _ _ _ a b => Nat.le_antisymm a b) hp (srt_pw l) (h.trans (srt_perm l).symm)
def sgn (l : List Nat) : List V := l.map fun c => V.str (S [c])
theorem perm_map_inv {α β : Type} {f : α → β} : ∀ {l : List α} {m : List β}, m.Perm (l.map f) → ∃ l' : List α, m = l'.map f ∧ l'.Perm l := by
  intro l m h
  generalize e : l.map f = k at h
  induction h generalizing l with
  | nil => exact ⟨[], rfl, by simp at e; subst e; exact .nil⟩
  | cons x h ih =>
    cases l with
    | nil => cases e
    | cons y l =>
      injection e with e1 e2
      obtain ⟨l', h1, h2⟩ := ih e2
      exact ⟨y :: l', by rw [h1, ← e1]; rfl, h2.cons y⟩
  | swap x y t =>
    cases l with
    | nil => cases e
    | cons a l => cases l with
      | nil => cases e
      | cons b l =>
        injection e with e1 e2
        injection e2 with e2 e3
        exact ⟨b :: a :: l, by rw [List.map_cons, List.map_cons, e1, e2, e3], .swap a b l⟩
  | trans h1 h2 ih1 ih2 =>
    obtain ⟨l1, e1, p1⟩ := ih2 e
    obtain ⟨l2, e2, p2⟩ := ih1 e1.symm
    exact ⟨l2, e2, p2.trans p1⟩
theorem rising_one : ∀ (l : List Nat) (a : Nat), risingS (S [a]) (l.map fun c => S [c]) = true → l.Pairwise (· ≤ ·) ∧ ∀ b ∈ l, a ≤ b
  | [], a, _ => ⟨.nil, fun _ h => nomatch h⟩
  | b :: l, a, h => by
    simp only [List.map_cons, risingS, Bool.and_eq_true] at h
    obtain ⟨h1, h2⟩ := h
    obtain ⟨i1, i2⟩ := rising_one l b h2
    have hab : a ≤ b := by
      have z : ltCps [b] [a] = false := by simpa using h1
      unfold ltCps at z
      apply Decidable.byContradiction
      intro hc
      have : b < a := by omega
      simp [this] at z
    refine ⟨.cons i2 i1, fun c hc => ?_⟩
    rcases List.mem_cons.mp hc with rfl | hc
    · exact hab
    · exact Nat.le_trans hab (i2 c hc)
theorem sorted_one (l : List Nat) (h : sortedS (l.map fun c => S [c]) = true) : l.Pairwise (· ≤ ·) := by
  cases l with
  | nil => exact .nil
  | cons a l => exact .cons (rising_one l a h).2 (rising_one l a h).1
def zSrt1 (x : V) (H : Hp) (Q : VK) : Prop := match x with
  | .str z => (tl z).length < 64 ∧ ∀ p, H p = none → Q (.ref p) (upd H p (.lst (sgn (srt (tl z)))))
  | _ => False
def zSort1 : List V → Hp → VK → Prop := fun xs H Q => one xs fun x => zSrt1 x H Q
section
variable {X : Cx}
theorem crsort (hcalm : X.calm = true) : CallR X (.builtin "sorted") zSort1 := by
  intro pins s σ H xs us Q I r q
  obtain ⟨x, rfl, q⟩ := one_e q
  obtain ⟨u, eu, rx⟩ := vals1 r
  subst eu
  cases x with
  | str z =>
    obtain ⟨h64, q⟩ := q
    obtain ⟨t, rfl⟩ := rx
    refine Calls.call_function_entry PyProof.Rows.kind_sorted PyProof.Rows.plain_sorted PyProof.Rows.entry_sorted (PyProof.Rows.args_sorted1 _) ?_
    unfold Builtin.«sorted»
    refine wpAny_bind (m := checkCount "sorted" 1 1 _) (wpAny_pure ?_)
    have hsz : z.cps.size = (tl z).length := by simp [tl]
    refine wpAny_bind (wpAny_collect_str (A := X.A.in1) (I.ok.hd hcalm) z t (fun s' acc hk hg hd ho hacc => ?_) (by rw [hsz, sizeLine_eq]; omega))
    obtain ⟨h', g', d', tk, os'⟩ := s'
    simp only at hk hg hd ho
    subst hg; subst hd; subst ho
    have hal : acc.toList.length = (one1 (tl z)).length := by rw [Array.length_toList, hacc.1, hsz]; simp [one1]
    have hS : StrsAre acc.toList (one1 (tl z)) := L2.strs_at hal fun j v e => by
      obtain ⟨c, u, e1, e2⟩ := hacc.2 j v (by rw [← Array.getElem?_toList]; exact e)
      exact ⟨S [c], u, by simp [one1, tl, e1], e2⟩
    have hal2 : acc.toList.length < 64 := by rw [hal]; simpa [one1] using h64
    have I1 : Inv X pins σ H { s with heap := h', toks := tk } := I.kept hk
    refine wpAny_bind (wpAny_newList ?_ (by rw [sizeLine_eq]; omega))
    have hoL : (h'.push (seqObj "list" acc.toList.toArray 0)).get? h'.objs.size = some (seqObj "list" acc.toList.toArray 0) := Heap.get?_push_size _ rfl
    show wpAny _ _ _ _ _ { s with heap := h'.push (seqObj "list" acc.toList.toArray 0), toks := tk }
    refine wpAny_bind (wpAny_holding (wpAny_call_entry PyProof.Rows.slot_list_sort ⟨_, hoL, rfl⟩ PyProof.Rows.entry_list_sort
      (list_sort_treeK strKind_oneLt (s := { s with heap := h'.push (seqObj "list" acc.toList.toArray 0), toks := tk }) hoL hS.keysOf (fun v₁ v₂ rest e => keyKind_strs (by rw [← e]; exact hS)) hal2 fun st' hp hs => ⟨_, rfl, ?_⟩)
      (PyProof.Rows.args_list_sort _)))
    obtain ⟨ys, g1, g2, g3⟩ := sorted_out_str hS hp hs
    obtain ⟨e', he'⟩ := PyProof.Rows.sortedHeap_at (vs := acc.toList) (out := (arrOf st').map (·.2)) hoL
    obtain ⟨l', rfl, pl⟩ := perm_map_inv g2
    have el : l' = srt (tl z) := srt_uniq pl (sorted_one l' g3)
    subst el
    have hlen : (sgn (srt (tl z))).length ≤ sizeLine := by
      unfold sgn
      rw [List.length_map, (srt_perm _).length_eq, sizeLine_eq]; omega
    have ev : ((srt (tl z)).map fun c => S [c]).map V.str = sgn (srt (tl z)) := by unfold sgn; rw [List.map_map]; rfl
    refine wpAny_pure ⟨_, rfl, .ref h'.objs.size, upd H h'.objs.size (.lst (sgn (srt (tl z)))), I1.laid (t' := tk) (fun b u e => ?_) (Nat.le_refl _)
      (show ObjOk X.prog X.w _ _ _ (.lst (sgn (srt (tl z)))) from ⟨hlen, ((arrOf st').map (·.2)).toList, e', by rw [← ev]; exact vals_of_strs g1, by rw [Array.toArray_toList]; exact he'⟩), rfl, q _ (I1.hok.fresh (Nat.le_refl _))⟩
    have hb : b < h'.objs.size := Heap.lt_size e
    rw [PyProof.Rows.sortedHeap_old (Nat.ne_of_lt hb) (by rw [size_push']; exact Nat.lt_succ_of_lt hb)]
    exact Heap.get?_push_of_some _ e
  | _ => exact False.elim q
end
end Ta

set_option Elab.async false
set_option linter.all false
set_option maxRecDepth 100000
set_option maxHeartbeats 3200000
namespace Ta
open PySem PySem.Spec PyProof.Rows L2

/-! ### own == of two instances of one class -/
def zOwn (C : Addr) (sp : Sp) : R2 := fun x y H Q => match x with
  | .ref a => (match y with
    | .ref b => look H a fun o => (match o with
      | some (.ins C1 dx fs) => look H b fun o' => (match o' with
        | some (.ins C2 dy gs) => C1 = C ∧ C2 = C ∧ sp [.ref a, .ref b] H (fun v H' => ∃ k, v = .bl k ∧ Q (.bl k) H') fun _ _ _ => False
        | _ => False)
      | _ => False)
    | _ => False)
  | _ => False
theorem zOwn_e {C : Addr} {sp : Sp} {x y : V} {H : Hp} {Q : VK} (h : zOwn C sp x y H Q) : ∃ a b dx fs dy gs, x = .ref a ∧ y = .ref b ∧ H a = some (.ins C dx fs) ∧ H b = some (.ins C dy gs) ∧ sp [.ref a, .ref b] H (fun v H' => ∃ k, v = .bl k ∧ Q (.bl k) H') fun _ _ _ => False := by
  cases x with
  | ref a =>
    cases y with
    | ref b =>
      have h := look_e h
      cases ea : H a with
      | none => rw [ea] at h; exact h.elim
      | some o =>
        rw [ea] at h
        cases o with
        | ins C1 dx fs =>
          have h := look_e h
          cases eb : H b with
          | none => rw [eb] at h; exact h.elim
          | some o' =>
            rw [eb] at h
            cases o' with
            | ins C2 dy gs =>
              obtain ⟨e1, e2, h3⟩ := h
              subst e1
              subst e2
              exact ⟨a, b, dx, fs, dy, gs, rfl, rfl, ea, eb, h3⟩
            | _ => exact h.elim
        | _ => exact h.elim
    | _ => exact h.elim
  | _ => exact h.elim
section
variable {X : Cx}
theorem opown {C : Addr} {lv : Nat} {sp : Sp} (M : Me X.prog X.w X.K X.mg X.base C "__eq__" lv [] sp) (hr : Room lv X.A) : OpR X (compareOp .Eq) (zOwn C sp) := by
  intro pins s σ H x y v u Q I rx ry h
  obtain ⟨a, b, dx, fs, dy, gs, rfl, rfl, ha, hb', h⟩ := zOwn_e h
  cases rx
  cases ry
  obtain ⟨⟨f, fd, ps, ds, F, hm, hd, hb⟩, cl⟩ := M
  cases hd
  obtain ⟨mA, J, _⟩ := ins_get I.hok ha
  obtain ⟨mB, J', _⟩ := ins_get I.hok hb'
  obtain ⟨od, J, _⟩ := J.look
  obtain ⟨od', J', _⟩ := J'.look
  obtain ⟨m, hF⟩ := I.fr
  show wpAny (model X.prog X.w) X.A (richCompare .Eq (.ref a) (.ref b)) (EP X pins σ Q) X.xe s
  refine PySem.W.cmp_K (op := .Eq) (tb := .ref C) hr.units0 hF I.ok.mod.kin J J'.type (by simp [PySem.W.notFirst]) hm.at_ hm.fn ?_
  have r2 : Vals [V.ref a, V.ref b] [Value.ref a, Value.ref b] := .cons rfl (.cons rfl .nil)
  refine wpAny_mono (run_fnSD (E := WE WF) (us := [.ref a, .ref b]) (vs := [.ref a, .ref b]) (Q := fun v H' => ∃ k, v = .bl k ∧ Q (.bl k) H') F hr hb .nil (passAt takes0 σ) I r2 h) (fun r s' q => ?_) fun _ _ z => z
  obtain ⟨z, H', I', rz, k, rfl, q⟩ := q
  cases rz
  exact ⟨.bl k, H', I', rfl, q⟩
theorem names_of {x : Str} {C : Addr} (h : GlobV X.mg x (.ref C)) (hg : Gl X x := by rfl) (hdb : (x == ("__debug__" : Str)) = false := by decide +kernel) : Names X x (.ref C) := by
  obtain ⟨u, hm, r⟩ := h.ex
  cases (show u = Value.ref C from r)
  exact ⟨hg, hdb, .inl hm⟩
end

/-! ### the clause of a try -/
theorem was_t {K : PySem.W.Frag} {c : Value} {i : Nat} {ts : Addr → Value → Option Addr → TS} {Wout : WX} {D : Ends} {cls : Value} {d : Option Addr} {σ : St} {H : Hp} (h : PySem.W.exmOne K cls c = some true)
    (q : ∀ a, H a = none → ts a cls d { nx := fun σ' H' => D.nx (σ'.set i none) H', rt := D.rt, bk := fun σ' H' => D.bk (σ'.set i none) H', ct := fun σ' H' => D.ct (σ'.set i none) H' } (σ.set i (some (.ref a))) H) : wAs K c i ts Wout D cls d σ H :=
  ⟨true, h, fun _ => q, (fun z => by cases z)⟩
theorem was_f {K : PySem.W.Frag} {c : Value} {i : Nat} {ts : Addr → Value → Option Addr → TS} {Wout : WX} {D : Ends} {cls : Value} {d : Option Addr} {σ : St} {H : Hp} (h : PySem.W.exmOne K cls c = some false)
    (q : Wout cls d σ H) : wAs K c i ts Wout D cls d σ H :=
  ⟨false, h, (fun z => by cases z), fun _ => q⟩

/-! ### heaps -/
/-- H' keeps what H has, but for F -/
def Kp (F : List Addr) (H H' : Hp) : Prop := ∀ q o, H q = some o → q ∉ F → H' q = some o
theorem Kp.rfl' {F : List Addr} {H : Hp} : Kp F H H := fun _ _ h _ => h
theorem Kp.trans {F : List Addr} {H H1 H2 : Hp} (a : Kp F H H1) (b : Kp F H1 H2) : Kp F H H2 := fun q o h n => b q o (a q o h n) n
theorem Kp.mono {F F' : List Addr} {H H' : Hp} (a : Kp F H H') (h : ∀ q ∈ F, q ∈ F') : Kp F' H H' := fun q o e n => a q o e fun z => n (h q z)
theorem Kp.nil {F : List Addr} {H H' : Hp} (a : Kp [] H H') : Kp F H H' := a.mono fun _ z => nomatch z
theorem Kp.new {F : List Addr} {H H1 : Hp} {p : Addr} {o : HO} (a : Kp F H H1) (h : H1 p = none) : Kp F H (upd H1 p o) := fun q o' e n => by
  have z := a q o' e n
  rw [upd_ne (ne_of_none z h)]; exact z
theorem Kp.at {F : List Addr} {H H1 : Hp} {p : Addr} {o : HO} (a : Kp F H H1) (h : p ∈ F) : Kp F H (upd H1 p o) := fun q o' e n => by
  have hne : q ≠ p := fun z => n (by rw [z]; exact h)
  rw [upd_ne hne]; exact a q o' e n
theorem Kp.own {F : List Addr} {H H1 : Hp} {p : Addr} {o : HO} (a : Kp F H H1) (h : H p = none) : Kp F H (upd H1 p o) := fun q o' e n => by
  rw [upd_ne (ne_of_none e h)]; exact a q o' e n
theorem upd_at {H : Hp} {p : Addr} {o : HO} : upd H p o p = some o := by unfold upd; rw [if_pos rfl]
theorem upd_fr {H : Hp} {p q : Addr} {o o' : HO} (h : H p = none) (hq : H q = some o) : upd H p o' q = some o := by rw [upd_ne (ne_of_none hq h)]; exact hq
theorem upd_off {H : Hp} {p q : Addr} {o o' : HO} (h : q ≠ p) (hq : H q = some o) : upd H p o' q = some o := by rw [upd_ne h]; exact hq
theorem upd_tw {H : Hp} {p : Addr} {o o' : HO} : upd (upd H p o) p o' = upd H p o' := by
  funext q; unfold upd; split <;> rfl
theorem mem1 {F : List Addr} {q : Addr} (h : ∀ x ∈ F, q ≠ x) : q ∉ F := fun z => h q z rfl
theorem ne_none {H : Hp} {p q : Addr} {o : HO} (h : H q = some o) (hp : H p = none) : q ≠ p := ne_of_none h hp
theorem ne_none' {H : Hp} {p q : Addr} {o : HO} (h : H q = some o) (hp : H p = none) : p ≠ q := (ne_of_none h hp).symm
theorem Kp.get {F : List Addr} {H H' : Hp} {q : Addr} {o : HO} (a : Kp F H H') (h : H q = some o) (n : q ∉ F) : H' q = some o := a q o h n
theorem Kp.get0 {H H' : Hp} {q : Addr} {o : HO} (a : Kp [] H H') (h : H q = some o) : H' q = some o := a q o h fun z => nomatch z
theorem Kp.get1 {p : Addr} {H H' : Hp} {q : Addr} {o : HO} (a : Kp [p] H H') (h : H q = some o) (n : q ≠ p) : H' q = some o := a q o h fun z => n (List.mem_singleton.mp z)
/-- a side goal, left to the end -/
structure Sd (p : Prop) : Prop where
  out : p
theorem sd_i {p : Prop} (h : p) : Sd p := by refine ⟨?_⟩; exact h
theorem sd_e {p : Prop} (h : Sd p) : p := by replace h := h.out; exact h
theorem cnd_d {c : Prop} [Decidable c] {p q : Prop} (h1 : c → p) (h2 : ¬ c → q) : cnd (decide c) p q := cnd_i (fun h => h1 (of_decide_eq_true h)) (fun h => h2 (of_decide_eq_false h))
theorem cnd_n {c : Bool} {p q : Prop} (h : cnd c q p) : cnd (!c) p q := by
  replace h := h.out; refine ⟨?_⟩
  cases c <;> exact h

/-! ### [c for c in text if test] -/
theorem filter_take {l : List Nat} {f : Nat → Bool} {k c : Nat} (h : l[k]? = some c) : (l.take (k + 1)).filter f = (l.take k).filter f ++ (if f c = true then [c] else []) := by
  rw [List.take_succ, h]
  simp [List.filter_append, List.filter_cons]
theorem lcp_g {n : Nat} {it : Itm} {st : Hp → Prop} {l : List Nat} {i : Nat} {tt : TT} {te : TE} {σ : St} {H1 : Hp} {Q : VK} {vs : List Nat} (hn : n = l.length) (hit : ∀ k H x H', it k H x H' → H' = H ∧ ∃ c, l[k]? = some c ∧ x = .str (S [c])) (hst : ∀ D xs, H1 D = none → st (upd H1 D (.lst xs)))
    (f : Nat → Bool) (hl : l.length < 1000000) (ht : ∀ c D H' Q', H1 D = none → c ∈ l → (∃ xs, H' = upd H1 D (.lst xs)) → Q' (f c) H' → tt ((wipe σ vs).set i (some (.str (S [c])))) H' Q')
    (he : ∀ c H' Q', Q' (.str (S [c])) H' → te ((wipe σ vs).set i (some (.str (S [c])))) H' Q')
    (hw : ∀ v, wipe ((wipe σ vs).set i v) vs = wipe σ vs) (q : ∀ D, H1 D = none → Q (.ref D) (upd H1 D (.lst (sgn (l.filter f))))) : lcp n it st (gName i) tt te vs σ H1 Q := by
  subst hn
  refine lcp_i (fun D k H => H = upd H1 D (.lst (sgn ((l.take k).filter f)))) (fun D hD => rfl) (fun D k H hD _ e => by rw [e]; exact hst D _ hD) ?_ ?_
  · rintro D k x H H' hD hk rfl hi
    obtain ⟨rfl, c, hc, rfl⟩ := hit _ _ _ _ hi
    refine ⟨hw _, ht c D _ _ hD (List.mem_of_getElem? hc) ⟨_, rfl⟩ ?_⟩
    cases e : f c with
    | true =>
      rw [if_pos rfl]
      refine he c _ _ ⟨_, upd_at, ?_, ?_⟩
      · unfold sgn
        rw [List.length_map, sizeLine_eq]
        have h1 := List.length_filter_le f (l.take k)
        rw [List.length_take] at h1
        omega
      · rw [upd_tw, filter_take hc, e, if_pos rfl]
        unfold sgn
        rw [List.map_append]
        rfl
    | false =>
      rw [if_neg (by simp), filter_take hc, e, if_neg (by simp), List.append_nil]
  · rintro D H hD rfl
    rw [List.take_length]
    exact q D hD
theorem lcp_f {l : List Nat} {i : Nat} {tt : TT} {te : TE} {σ : St} {H1 : Hp} {Q : VK} {vs : List Nat} (f : Nat → Bool) (hl : l.length < 1000000)
    (ht : ∀ c D H' Q', H1 D = none → c ∈ l → (∃ xs, H' = upd H1 D (.lst xs)) → Q' (f c) H' → tt ((wipe σ vs).set i (some (.str (S [c])))) H' Q')
    (he : ∀ c H' Q', Q' (.str (S [c])) H' → te ((wipe σ vs).set i (some (.str (S [c])))) H' Q')
    (hw : ∀ v, wipe ((wipe σ vs).set i v) vs = wipe σ vs) (q : ∀ D, H1 D = none → Q (.ref D) (upd H1 D (.lst (sgn (l.filter f))))) : lcp l.length (itS l) (fun _ => True) (gName i) tt te vs σ H1 Q :=
  lcp_g rfl (fun _ _ _ _ h => h) (fun _ _ _ => trivial) f hl ht he hw q
theorem lcp_l {l : List Nat} {p : Addr} {i : Nat} {tt : TT} {te : TE} {σ : St} {H1 : Hp} {Q : VK} {vs : List Nat} (hp : H1 p = some (.lst (sgn l))) (f : Nat → Bool) (hl : l.length < 1000000)
    (ht : ∀ c D H' Q', H1 D = none → c ∈ l → (∃ xs, H' = upd H1 D (.lst xs)) → Q' (f c) H' → tt ((wipe σ vs).set i (some (.str (S [c])))) H' Q')
    (he : ∀ c H' Q', Q' (.str (S [c])) H' → te ((wipe σ vs).set i (some (.str (S [c])))) H' Q')
    (hw : ∀ v, wipe ((wipe σ vs).set i v) vs = wipe σ vs) (q : ∀ D, H1 D = none → Q (.ref D) (upd H1 D (.lst (sgn (l.filter f))))) : lcp (sgn l).length (itL (sgn l)) (fun H' => H' p = some (.lst (sgn l))) (gName i) tt te vs σ H1 Q := by
  refine lcp_g (l := l) (by unfold sgn; rw [List.length_map]) (fun k H x H' h => ⟨h.1, ?_⟩) (fun D xs hD => upd_fr hD hp) f hl ht he hw q
  have h2 := h.2
  unfold sgn at h2
  rw [List.getElem?_map] at h2
  cases e : l[k]? with
  | none => rw [e] at h2; cases h2
  | some c => rw [e] at h2; exact ⟨c, rfl, (Option.some.inj h2).symm⟩
theorem upd_self {H : Hp} {p : Addr} {o : HO} (h : H p = some o) : upd H p o = H := by
  funext q; unfold upd; split
  · rename_i e; rw [e, h]
  · rfl

theorem joinL_one : ∀ l : List Nat, TL.joinL [] (l.map fun c => [c]) = l
  | [] => rfl
  | [a] => rfl
  | a :: b :: l => by
    have ih := joinL_one (b :: l)
    show [a] ++ [] ++ TL.joinL [] ((b :: l).map fun c => [c]) = _
    rw [ih]
    rfl
theorem sum_one (l : List Nat) : ((l.map fun c => [c]).map List.length).sum = l.length := by
  induction l with
  | nil => rfl
  | cons a l ih => simp only [List.map_cons, List.sum_cons, ih, List.length_cons, List.length_nil]; omega
theorem joi_i {l : List Nat} {k : List Nat → Prop} (h : l.length ≤ 1000000) (q : k l) : joi (sgn l) (tl (S [])) k := by
  refine ⟨?_⟩
  refine ⟨l.map fun c => [c], by unfold sgn; rw [List.map_map]; rfl, ?_, ?_⟩
  · rw [sum_one, List.length_map]
    show _ + _ * 0 ≤ _
    omega
  · show k (TL.joinL [] _)
    rw [joinL_one]; exact q
theorem sgn_len (l : List Nat) : (sgn l).length = l.length := by unfold sgn; rw [List.length_map]
theorem srt_len (l : List Nat) : (srt l).length = l.length := (srt_perm l).length_eq
theorem sgn_fe (l : List Nat) (f : Nat → Bool) : (sgn (l.filter f)).isEmpty = !l.any f := by
  induction l with
  | nil => rfl
  | cons a l ih =>
    rw [List.filter_cons, List.any_cons]
    cases f a with
    | true => rfl
    | false => exact ih

theorem itm_s {α : Type} {l : List α} {i : Int} {k : α → Prop} (h0 : 0 ≤ i) (h1 : i < (l.length : Int)) (q : ∀ (j : Nat) (hj : j < l.length), i = (j : Int) → k l[j]) : itm l i k := by
  obtain ⟨j, rfl⟩ := Int.eq_ofNat_of_zero_le h0
  have hj : j < l.length := by omega
  exact itm_n rfl (List.getElem?_eq_getElem hj) (q j hj rfl)
theorem perm_out {l r : List Nat} {j : Nat} (hj : j < r.length) : ((l ++ [r[j]]) ++ (r.take j ++ r.drop (j + 1))).Perm (l ++ r) := by
  have e : r = r.take j ++ r[j] :: r.drop (j + 1) := by
    rw [List.getElem_cons_drop, List.take_append_drop]
  have h1 : (r[j] :: (r.take j ++ r.drop (j + 1))).Perm r := by
    refine List.Perm.trans ?_ (List.Perm.of_eq e.symm)
    exact List.perm_middle.symm
  rw [List.append_assoc]
  exact h1.append_left l
theorem dn_nodup (l : List Nat) : dn l = l.length ↔ l.Nodup := by
  suffices h : ∀ m : List Nat, dn m.reverse = m.reverse.length ↔ m.reverse.Nodup by
    have z := h l.reverse
    rw [List.reverse_reverse] at z
    exact z
  intro m
  induction m with
  | nil => simp [dn]
  | cons x m ih =>
    rw [List.reverse_cons, dn_snoc, List.length_append, List.nodup_append]
    have hle := dn_le m.reverse
    have ea : (m.reverse.any fun y => y == x) = decide (x ∈ m.reverse) := by
      rw [Bool.eq_iff_iff]; simp
    rw [ea]
    by_cases hx : x ∈ m.reverse
    · rw [if_pos (decide_eq_true hx)]
      constructor
      · intro h; simp at h hle; omega
      · rintro ⟨_, _, h⟩
        exact absurd rfl (h x hx x (List.mem_singleton.mpr rfl))
    · rw [if_neg (by simpa using hx)]
      constructor
      · intro h
        refine ⟨ih.mp (by simp at h ⊢; omega), by simp, fun a ha b hb => ?_⟩
        rw [List.mem_singleton.mp hb]
        exact fun e => hx (e ▸ ha)
      · rintro ⟨h, _, _⟩
        rw [ih.mpr h]; rfl

theorem Kp.made {F : List Addr} {H H' : Hp} {x dx : Addr} {o1 o2 : HO} (hx : H x = none) (hdx : H dx = none) (k : Kp (x :: F) (upd (upd H dx o1) x o2) H') : Kp F H H' := fun q o e n => by
  have n1 : q ≠ x := ne_of_none e hx
  have n2 : q ≠ dx := ne_of_none e hdx
  refine k q o (by rw [upd_ne n1, upd_ne n2]; exact e) fun z => ?_
  rcases List.mem_cons.mp z with z | z
  · exact n1 z
  · exact n z

theorem upd_tw2 {H : Hp} {p : Addr} {o o1 o2 : HO} : upd (upd (upd H p o) p o1) p o2 = upd H p o2 := by rw [upd_tw, upd_tw]
theorem upd_tw3 {H : Hp} {p : Addr} {o o1 o2 o3 : HO} : upd (upd (upd (upd H p o) p o1) p o2) p o3 = upd H p o3 := by rw [upd_tw, upd_tw, upd_tw]
theorem upd_tw4 {H : Hp} {p : Addr} {o o1 o2 o3 o4 : HO} : upd (upd (upd (upd (upd H p o) p o1) p o2) p o3) p o4 = upd H p o4 := by rw [upd_tw, upd_tw, upd_tw, upd_tw]
/-- a loop that changes nothing but its own name -/
theorem loop_c {n k : Nat} {it : Itm} {st : Hp → Prop} {tb : TS} {D : Ends} {σ : St} {H : Hp} (h0 : st H) (hit : ∀ i H x H', it i H x H' → H' = H) (hk : ∃ v0, σ.set k v0 = σ)
    (hs : ∀ i x v, i < n → it i H x H → tb { D with nx := fun σ' H' => Sd (∃ v', σ' = σ.set k v' ∧ H' = H), ct := fun σ' H' => Sd (∃ v', σ' = σ.set k v' ∧ H' = H), bk := D.nx } ((σ.set k v).set k (some x)) H) (hd : ∀ v, D.nx (σ.set k v) H) : loop n it st (gName k) tb D σ H := by
  obtain ⟨v0, hv0⟩ := hk
  refine loop_i (fun _ σ' H' => Sd (∃ v', σ' = σ.set k v' ∧ H' = H)) (sd_i ⟨v0, hv0.symm, rfl⟩) ?_ ?_ ?_
  · intro i σ' H' _ h
    obtain ⟨v', _, rfl⟩ := sd_e h
    exact h0
  · intro i x σ' H' H'' hi h hI
    obtain ⟨v', rfl, rfl⟩ := sd_e h
    obtain rfl := hit _ _ _ _ hI
    exact hs i x v' hi hI
  · intro σ' H' h
    obtain ⟨v', rfl, rfl⟩ := sd_e h
    exact hd v'

theorem Kp.none {H H' : Hp} {q : Addr} (k : Kp [] H H') (h : H' q = none) : H q = none := by
  cases e : H q with
  | none => rfl
  | some o => rw [k.get0 e] at h; cases h
end Ta

set_option Elab.async false
set_option linter.all false
set_option maxRecDepth 100000
set_option maxHeartbeats 400000
namespace Ta
open PySem PySem.Spec PyProof.Rows L2

/-! ### locals at the code itself -/
def FT (X : Cx) (f : List (Str × Value)) (s : Shared) : Prop := ∃ m, s.heap.Ns X.env.locals m ∧ ∀ e ∈ f, m e.1 = some e.2
section
variable {X : Cx} {pins : List (Addr × Obj)} {σ : St} {H : Hp} {s s' : Shared} {ff : List (Str × Value)}
theorem FT.after {Q : VK} {u : Value} (h : FT X ff s) (I : Inv X pins σ H s) (c : CE X.stack X.prog X.w H s Q u s') : FT X ff s' := by
  obtain ⟨m, ⟨o, es, ep, ho, r⟩, hf⟩ := h
  obtain ⟨v, H', os, bare, un, hok, rr, q⟩ := c
  obtain ⟨sl, hL⟩ := un.any ho I.free (by simp)
  exact ⟨m, ⟨_, es, ep, hL, r⟩, hf⟩
theorem FT.nil (I : Inv X pins σ H s) : FT X [] s := by
  obtain ⟨m, hn, _⟩ := I.loc
  exact ⟨m, hn, fun _ z => nomatch z⟩
theorem run_fnF {CX : CXT} {k : Nat} {f : Addr} {fd : FuncData} {ps : List Str} {sp : Sp} {E : St → XK} {dvs : List V} {ds : List Value} {Q : VK} {us : List Value} {vs : List V} (F : FnOk X.prog X.w X.K X.mg X.base CX k f fd ps sp) (hr : Room k X.A) (hb : Binds X.K fd ps ds) (hd : Vals dvs ds) (hx : PassesAt CX X σ (E σ))
    (I : Inv X pins σ H s) (hF : FT X ff s) (r : Vals vs us) (h : sp (vs ++ dvs) H Q (E σ)) : wpAny (model X.prog X.w) X.A (call (.ref f) us) (fun u s' => EP X pins σ Q u s' ∧ FT X ff s') X.xe s := by
  have r2 : Vals (vs ++ dvs) (us ++ ds) := r.append hd
  have hl : (us ++ ds).length = ps.length := by rw [← r2.length]; exact F.len _ _ _ _ h
  refine wpAny_call (codeAny_mono (F.run X.A X.stack s H ⟨us, []⟩ (us ++ ds) (vs ++ dvs) Q (E σ) hr I.env0 (hb s us I.kIn hl) r2 h) fun r s' hq => ?_)
  cases r with
  | error e => exact hx pins H s e s' I hq
  | ok fl =>
    cases fl with
    | ret u => exact ⟨I.after hq, hF.after I hq⟩
    | next => exact False.elim hq
    | brk => exact False.elim hq
    | cont => exact False.elim hq
/-- s[take(box, len(s))] -/
def tPk (sp : Sp) (W : WX) (il ib : Nat) : TE := fun σ H Q => match σ[il]? with
  | some (some (.str z)) => (match σ[ib]? with
    | some (some bv) => Lim (tl z).length ∧ sp [bv, .int (tl z).length] H (fun v H' => match v with
      | .int i => itm (tl z) i fun c => Q (.str (S [c])) H'
      | _ => False) (fun c d H' => W c d σ H')
    | _ => False)
  | _ => False
theorem tPk_e {sp : Sp} {W : WX} {il ib : Nat} {Q : VK} (h : tPk sp W il ib σ H Q) : ∃ z bv, σ[il]? = some (some (.str z)) ∧ σ[ib]? = some (some bv) ∧ Lim (tl z).length ∧ sp [bv, .int (tl z).length] H (fun v H' => match v with
      | .int i => itm (tl z) i fun c => Q (.str (S [c])) H'
      | _ => False) (fun c d H' => W c d σ H') := by
  unfold tPk at h
  split at h
  · rename_i z e1
    split at h
    · rename_i bv e2
      exact ⟨z, bv, e1, e2, h⟩
    · exact h.elim
  · exact h.elim
theorem ev_pk {il ib lv : Nat} {l b tk : Str} {sp : Sp} {W : WX} {Q : VK} {p1 p2 p3 p4 p5 p6 p7 p8 : Pos} (F : Fn X.prog X.w X.K X.mg X.base tk lv [] sp) (hr : Room lv X.A) (tks : Takes X W) (hlen : X.mg "len" = none) (I : Inv X pins σ H s) (hF : FT X ff s) (h : tPk sp W il ib σ H Q)
    (hNl : X.N[il]? = some l) (hvl : Vis X.env.scope l) (hNb : X.N[ib]? = some b) (hvb : Vis X.env.scope b) (hg : Gl X tk) (hgl : Gl X "len") (hdt : (tk == ("__debug__" : Str)) = false) (hdl : (l == ("__debug__" : Str)) = false) (hcl : (l == ("__classdict__" : Str)) = false)
    (hdb : (b == ("__debug__" : Str)) = false) (hcb : (b == ("__classdict__" : Str)) = false)
    (hst : starEach [.Name b p3, .Call (.Name "len" p4) [.Name l p5] [] p6] X.env = [(false, eval (.Name b p3) X.env), (false, eval (.Call (.Name "len" p4) [.Name l p5] [] p6) X.env)])
    (hst1 : starEach [.Call (.Name "len" p4) [.Name l p5] [] p6] X.env = [(false, eval (.Call (.Name "len" p4) [.Name l p5] [] p6) X.env)])
    (hst2 : starEach [.Name l p5] X.env = [(false, eval (.Name l p5) X.env)])
    (hix : PlainIx (.Call (.Name tk p2) [.Name b p3, .Call (.Name "len" p4) [.Name l p5] [] p6] [] p7)) :
    wpAny (model X.prog X.w) X.A (eval (.Subscript (.Name l p1) (.Call (.Name tk p2) [.Name b p3, .Call (.Name "len" p4) [.Name l p5] [] p6] [] p7) p8) X.env)
      (fun u s' => ∃ (c : Nat) (t : Nat) (H' : Hp), u = .str (S [c]) t ∧ 1 ≤ t ∧ s.toks ≤ t ∧ t < s'.toks ∧ Inv X pins σ H' s' ∧ Q (.str (S [c])) H' ∧ FT X ff s') X.xe s := by
  obtain ⟨z, bv, e1, e2, hlim, h⟩ := tPk_e h
  obtain ⟨f, fd, ps, ds, F, hm, hk, hd, hb⟩ := F.ex
  cases hd
  refine Subscript_ (raw_name hNl hvl I e1 (fun v r => ?_) hdl hcl)
  obtain ⟨tz, rfl⟩ := r
  refine wpAny_Call_Name_kw (ld_glob I hg hm ?_ hdt)
  refine PySem.W.callWith_K (h₀ := X.base) I.ok.mod.kin hk ?_ (by rw [hst, hst1]) (by rw [hst1]; rfl)
  rw [hst]
  show wpAny _ _ (spliced ((false, eval (.Name b p3) X.env) :: backTo p7 [(false, eval (.Call (.Name "len" p4) [.Name l p5] [] p6) X.env)])) _ _ s
  refine Calls.spliced_cons (raw_name hNb hvb I e2 (fun ub rb => ?_) hdb hcb)
  show wpAny _ _ (spliced ((false, eval (.Call (.Name "len" p4) [.Name l p5] [] p6) X.env) :: backTo p7 [])) _ _ s
  refine Calls.spliced_cons ?_
  refine Call_ (ld_blt I hgl hlen boot_len ?_)
  refine PyProof.Rows.callWith_builtin1 (PyProof.Rows.args_cons (raw_name hNl hvl I e1 (fun v r => ?_) hdl hcl) (by rw [hst2]; rfl)) (by rw [hst2]; rfl) rfl
  obtain ⟨tz2, rfl⟩ := r
  refine PyProof.Rows.args_nil ?_
  have hn := line63
  have hz : z.length ≤ sizeLine := by rw [len_tl]; exact hlim
  refine len_str (by omega) ?_
  refine Calls.spliced_nil ⟨(I.tok _).kIn, ?_⟩
  have I1 : Inv X pins σ H { s with toks := s.toks + 1 + 1 } := I.tok _
  have rv : Vals [bv, .int (tl z).length] [ub, .int z.length (s.toks + 1)] := .cons rb (.cons ⟨_, by rw [len_tl]⟩ .nil)
  refine wpAny_mono (wpAny_toks_of (n := s.toks + 1 + 1) (Nat.le_refl _) (run_fnF (E := WE W) (ff := ff) (us := [ub, .int z.length (s.toks + 1)]) (vs := [bv, .int (tl z).length]) F hr hb .nil (passAt tks σ) I1 hF rv h)) (fun u s2 hq => ?_) fun _ _ z => z.2
  obtain ⟨hle, ⟨y, H2, I2, ry, q⟩, hF2⟩ := hq
  cases y with
  | int i =>
    obtain ⟨ti, rfl⟩ := ry
    obtain ⟨c, hat, q⟩ := itm_e q
    obtain ⟨j, h1, h2, h3, h4, h5⟩ := atI_get hat
    have hl : z.cps.toList.length = z.length := by simp [Str.length]
    rw [hl] at h1 h4 h5
    refine tail_any (typeIs_str s2 z tz) slot_str_getitem.lookup (getItem_str (c := c) (by
      have e1 : decide (i < -(2 ^ 63 : Int)) = false := decide_eq_false (by omega)
      have e2 : decide (i ≥ 2 ^ 63) = false := decide_eq_false (by omega)
      rw [e1, e2, Bool.or_false]) (by rw [h1]; simpa using h2) ?_) (hix _ _)
    exact ⟨c, s2.toks, H2, rfl, by omega, by omega, Nat.lt_succ_self _, I2.tok _, q, hF2⟩
  | _ => exact False.elim q
theorem store_F {M : Model} {A : Around} {E : Value → Shared → Prop} {i : Nat} {x : Str} {v : V} {u : Value} {Q : Unit → Shared → Prop} (I : Inv X pins σ H s) (hN : X.N.Nodup) (hi : X.N[i]? = some x) (hk : X.env.kindOf x = some .local) (r : RelV v u) (hF : FT X ff s) (hx : ∀ e ∈ ff, e.1 ≠ x)
    (h : ∀ s', Inv X pins (σ.set i (some v)) H s' → FT X ((x, u) :: ff) s' → s'.toks = s.toks + 1 → Q () s') : wpAny M A (storeName X.env x u) Q E s := by
  obtain ⟨m, hn, hl⟩ := id I.loc
  obtain ⟨m2, hn2, hf⟩ := hF
  have em : m2 = m := by
    obtain ⟨o, es, ep, ho, hd, _, r⟩ := hn
    obtain ⟨o2, es2, ep2, ho2, hd2, _, r2⟩ := hn2
    rw [ho] at ho2
    cases ho2
    rw [hd] at hd2
    cases hd2
    funext name
    rw [← r2 name, ← r name]
  subst em
  have hcls : (X.env.scope.kind == .class || (X.env.scope.kind == .module && X.env.locals != X.env.globals)) = false := by rw [I.ok.kind]; rfl
  have hiσ : i < σ.length := by rw [I.len]; exact (List.getElem?_eq_some_iff.mp hi).1
  have cne := I.cne
  have tracked : ∀ {a : Addr} {h' : Heap}, (∃ o, s.heap.get? a = some o ∧ H a = none) → Heap.SameBut a s.heap h' → HOk X.prog X.w H h' := fun {a h'} ha hs b ob e => by
    obtain ⟨_, _, hfree⟩ := ha
    refine (I.hok b ob e).stay (fun c w' hc q => (hs.2 c ?_).trans q) (fun _ q => q) fun _ _ q => q
    rintro rfl
    rcases hc with rfl | hc
    · rw [hfree] at e; cases e
    · rw [hfree] at hc; cases hc
  refine wpAny_storeName_local hk hn (fun h' hn' hs => ?_) hcls
  obtain ⟨oL, _, _, hoL, _⟩ := id hn
  refine h _ ⟨I.ok, I.os, I.bare, ⟨fun b o e n hb hx => ?_, fun b o e n hb hx => ?_, I.base.free, fun b o e hx => ?_, I.base.tups, I.base.frzs, I.base.tbls⟩, ⟨_, hn', fun j y v' e1 e2 e3 => ?_⟩, fun y c e => ?_, I.free, I.freeC, fun p hp => ?_, tracked ⟨oL, hoL, I.free⟩ hs, by simpa using I.len⟩ ⟨_, hn', fun e he => ?_⟩ rfl
  · exact (hs.2 b (Nat.ne_of_lt (Nat.lt_of_lt_of_le (Heap.lt_size e) I.ok.above))).trans (I.base.keep b o e n hb hx)
  · obtain ⟨sl, e1⟩ := I.base.slot b o e n hb hx
    exact ⟨sl, (hs.2 b (Nat.ne_of_lt (Nat.lt_of_lt_of_le (Heap.lt_size e) I.ok.above))).trans e1⟩
  · obtain ⟨o', e1⟩ := I.base.there b o e hx
    exact ⟨o', (hs.2 b (Nat.ne_of_lt (Nat.lt_of_lt_of_le (Heap.lt_size e) I.ok.above))).trans e1⟩
  · by_cases hj : j = i
    · subst hj
      rw [hi] at e1; cases e1
      rw [List.getElem?_set_self hiσ] at e2
      cases e2
      exact ⟨u, r, .inl ⟨hk, by simp⟩⟩
    · rw [List.getElem?_set_ne (Ne.symm hj)] at e2
      obtain ⟨u', r', q⟩ := hl j y v' e1 e2 e3
      refine ⟨u', r', ?_⟩
      rcases q with ⟨k, e⟩ | ⟨k, c, e, z⟩
      · refine .inl ⟨k, ?_⟩
        have : y ≠ x := fun e => hj (nodup_ix hN e1 (e ▸ hi))
        simp [this, e]
      · exact .inr ⟨k, c, e, z.sameBut hs (cne y c e)⟩
  · obtain ⟨w', z⟩ := I.cell y c e
    exact ⟨w', z.sameBut hs (cne y c e)⟩
  · obtain ⟨e, n, ne, nf, d⟩ := I.pin p hp
    exact ⟨(hs.2 p.1 ne).trans e, n, ne, nf, d⟩
  · rcases List.mem_cons.mp he with rfl | he
    · show (if x = x then some u else m2 x) = some u
      rw [if_pos rfl]
    · show (if e.1 = x then some u else m2 e.1) = some e.2
      rw [if_neg (hx e he)]
      exact hf e he
/-! ### texts in locals whose tokens are out and apart -/
def tokOf : Value → Nat
  | .str _ t => t
  | _ => 0
def TKs (X : Cx) (ns : List Str) (s : Shared) : Prop := ∃ ff : List (Str × Value), FT X ff s ∧ ff.map (·.1) = ns ∧ (∀ e ∈ ff, ∃ (x : Str) (t : Nat), e.2 = .str x t ∧ 1 ≤ t ∧ t < s.toks) ∧ (ff.map fun e => tokOf e.2).Nodup
structure PSsK (X : Cx) (ns : List Str) (st : List Stmt) (t : TS) : Prop where
  run : ∀ (pins : List (Addr × Obj)) (s : Shared) (σ : St) (H : Hp) (D : Ends), Inv X pins σ H s → TKs X ns s → t D σ H → wpAny (model X.prog X.w) X.A (execs st X.env) (SP X pins D) X.xe s
structure PEK (X : Cx) (ns : List Str) (e : Expr) (t : TE) : Prop where
  run : ∀ (pins : List (Addr × Obj)) (s : Shared) (σ : St) (H : Hp) (Q : VK), Inv X pins σ H s → TKs X ns s → t σ H Q → wpAny (model X.prog X.w) X.A (eval e X.env) (fun u s' => EP X pins σ Q u s' ∧ TKs X ns s') X.xe s
structure PAK (X : Cx) (ns : List Str) (es : List Expr) (t : TA) : Prop where
  run : ∀ (pos : Pos) (pins : List (Addr × Obj)) (s : Shared) (σ : St) (H : Hp) (Q : List V → Hp → Prop), Inv X pins σ H s → TKs X ns s → t σ H Q → wpAny (model X.prog X.w) X.A (spliced (backTo pos (starEach es X.env))) (fun us s' => AP X pins σ Q us s' ∧ TKs X ns s') X.xe s
theorem pssk0 {st : List Stmt} {t : TS} (h : PSsK X [] st t) : PSs X st t :=
  ⟨fun pins s σ H D I q => h.run pins s σ H D I ⟨[], FT.nil I, rfl, fun _ z => (nomatch z), .nil⟩ q⟩
theorem pak_nil {ns : List Str} : PAK X ns [] tNil := ⟨fun _ _ _ _ H Q I k h => Calls.spliced_nil ⟨⟨[], H, I, .nil, h⟩, k⟩⟩
theorem pak_cons {ns : List Str} {e : Expr} {es : List Expr} {te : TE} {t : TA} (ha : PEK X ns e te) (hr : PAK X ns es t) (hs : starEach (e :: es) X.env = (false, eval e X.env) :: starEach es X.env := by rfl) : PAK X ns (e :: es) (tCons te t) := by
  refine ⟨fun pos pins s σ H Q I k h => ?_⟩
  rw [hs]
  show wpAny _ _ (spliced ((false, eval e X.env) :: backTo pos (starEach es X.env))) _ _ s
  refine Calls.spliced_cons (thn (ha.run pins s σ H _ I k h) fun u s1 ⟨⟨x, H1, I1, r1, q1⟩, k1⟩ => ?_)
  exact thn (hr.run pos pins s1 σ H1 _ I1 k1 q1) fun us s2 ⟨⟨xs, H2, I2, r2, q2⟩, k2⟩ => ⟨⟨x :: xs, H2, I2, .cons r1 r2, q2⟩, k2⟩
/-- return (..), the items under known tokens -/
theorem pssk_rtup {ns : List Str} {es : List Expr} {x1} {t : TA} {pos pos' : Pos} (h : PAK X ns es t) : PSsK X ns [.Return (some (.Tuple es x1 pos)) pos'] (tRet (tTup t)) := by
  refine ⟨fun pins s σ H D I k q => ?_⟩
  refine wpAny_execs_cons (wpAny_Return_some ?_)
  refine wpAny_Tuple_spliced (thn (h.run pos pins s σ H _ I k q) fun us s1 ⟨⟨xs, H1, I1, r, z, q⟩, _⟩ => ⟨by rw [← r.length]; exact z, ?_⟩)
  have hf : H1 s1.heap.objs.size = none := I1.hok.fresh (Nat.le_refl _)
  refine ⟨.ref s1.heap.objs.size, σ, upd H1 s1.heap.objs.size (.tup xs), I1.laid (t' := s1.toks) (fun b u e => Heap.get?_push_of_some _ e) (Nat.le_refl _) ?_, rfl, q _ hf⟩
  exact ⟨z, us, r, ⟨_, Heap.get?_push_size _ rfl, rfl, _, rfl⟩⟩
theorem pssk_set {ns : List Str} {i : Nat} {x : Str} {e : Expr} {te : TE} {rest : List Stmt} {u : TS} {pos pos' : Pos} (hN : X.N.Nodup) (he : PEK X ns e te) (hrest : PSs X rest u) (hi : X.N[i]? = some x := by rfl) (hx : Loc X.env.scope x := by first | exact Or.inl rfl | exact Or.inr rfl)
    (hs : swapsWith e (some (.Name x pos')) pos.line X.env = pure false := by rfl) (hf : X.fn x = true ∨ X.env.scope.names.lookup x = some .local := by first | exact .inl rfl | exact .inr rfl) : PSsK X ns (.Assign [.Name x pos'] e pos :: rest) (tSeq (tAsg te (gName i)) u) := by
  refine ⟨fun pins s σ H D I k h => ?_⟩
  refine wpAny_execs_cons (wpAny_Assign_Name (thn (he.run pins s σ H _ I k h) fun v s1 ⟨⟨y, H1, I1, r1, q1⟩, _⟩ => ?_) hs)
  exact store_ok I1 hN hi hx r1 (fun s2 I2 => hrest.run pins s2 _ H1 D I2 q1) hf
theorem pssk_pk {ns : List Str} {ix il ib lv : Nat} {x l b tk : Str} {sp : Sp} {W : WX} {rest : List Stmt} {u : TS} {px pos p1 p2 p3 p4 p5 p6 p7 p8 : Pos} (hN : X.N.Nodup) (F : Fn X.prog X.w X.K X.mg X.base tk lv [] sp) (hr : Room lv X.A) (tks : Takes X W) (hlen : X.mg "len" = none) (hrest : PSsK X (x :: ns) rest u) (hxn : x ∉ ns := by decide +kernel)
    (hNx : X.N[ix]? = some x := by rfl) (hkx : X.env.kindOf x = some .local := by rfl)
    (hNl : X.N[il]? = some l := by rfl) (hvl : Vis X.env.scope l := by first | exact Or.inl rfl | exact Or.inr (Or.inl rfl) | exact Or.inr (Or.inr rfl)) (hNb : X.N[ib]? = some b := by rfl) (hvb : Vis X.env.scope b := by first | exact Or.inl rfl | exact Or.inr (Or.inl rfl) | exact Or.inr (Or.inr rfl)) (hg : Gl X tk := by rfl) (hgl : Gl X "len" := by rfl)
    (hdt : (tk == ("__debug__" : Str)) = false := by decide +kernel) (hdl : (l == ("__debug__" : Str)) = false := by decide +kernel) (hcl : (l == ("__classdict__" : Str)) = false := by decide +kernel)
    (hdb : (b == ("__debug__" : Str)) = false := by decide +kernel) (hcb : (b == ("__classdict__" : Str)) = false := by decide +kernel)
    (hst : starEach [.Name b p3, .Call (.Name "len" p4) [.Name l p5] [] p6] X.env = [(false, eval (.Name b p3) X.env), (false, eval (.Call (.Name "len" p4) [.Name l p5] [] p6) X.env)] := by rfl)
    (hst1 : starEach [.Call (.Name "len" p4) [.Name l p5] [] p6] X.env = [(false, eval (.Call (.Name "len" p4) [.Name l p5] [] p6) X.env)] := by rfl)
    (hst2 : starEach [.Name l p5] X.env = [(false, eval (.Name l p5) X.env)] := by rfl)
    (hix : PlainIx (.Call (.Name tk p2) [.Name b p3, .Call (.Name "len" p4) [.Name l p5] [] p6] [] p7) := by exact fun _ _ => rfl)
    (hs : swapsWith (.Subscript (.Name l p1) (.Call (.Name tk p2) [.Name b p3, .Call (.Name "len" p4) [.Name l p5] [] p6] [] p7) p8) (some (.Name x px)) pos.line X.env = pure false := by rfl) :
    PSsK X ns (.Assign [.Name x px] (.Subscript (.Name l p1) (.Call (.Name tk p2) [.Name b p3, .Call (.Name "len" p4) [.Name l p5] [] p6] [] p7) p8) pos :: rest) (tSeq (tAsg (tPk sp W il ib) (gName ix)) u) := by
  refine ⟨fun pins s σ H D I k h => ?_⟩
  obtain ⟨ff, hF, hns, htok, hnd⟩ := k
  have h : tPk sp W il ib σ H fun x H1 => u D (σ.set ix (some x)) H1 := h
  refine wpAny_execs_cons (wpAny_Assign_Name (thn (ev_pk F hr tks hlen I hF h hNl hvl hNb hvb hg hgl hdt hdl hcl hdb hcb hst hst1 hst2 hix) fun v s1 hv => ?_) hs)
  obtain ⟨c, t, H1, rfl, h1, h2, h3, I1, q, hF1⟩ := hv
  refine store_F (v := .str (S [c])) I1 hN hNx hkx ⟨t, rfl⟩ hF1 (fun e he z => hxn (by rw [← hns, ← z]; exact List.mem_map_of_mem he)) fun s2 I2 hF2 ht2 => ?_
  refine hrest.run pins s2 _ H1 D I2 ⟨_, hF2, by rw [List.map_cons, hns], fun e he => ?_, ?_⟩ q
  · rcases List.mem_cons.mp he with rfl | he
    · exact ⟨S [c], t, rfl, h1, by omega⟩
    · obtain ⟨x', t', e1, e2, e3⟩ := htok e he
      exact ⟨x', t', e1, e2, by omega⟩
  · rw [List.map_cons]
    refine List.nodup_cons.mpr ⟨fun hm => ?_, hnd⟩
    obtain ⟨e, he, ee⟩ := List.mem_map.mp hm
    obtain ⟨x', t', e1, e2, e3⟩ := htok e he
    rw [e1] at ee
    have ee : t' = t := ee
    omega
/-! ### x.replace(old, new) -/
def rp (c d : Nat) (l : List Nat) : List Nat := l.map fun a => if a = c then d else a
theorem replL_rp (c d : Nat) : ∀ l : List Nat, StrLaws.replL [c] [d] l = rp c d l
  | [] => StrLaws.replL_nil
  | a :: l => by
    by_cases h : a = c
    · subst h
      rw [StrLaws.replL_hit (by simp) (by simp)]
      show [d] ++ StrLaws.replL [a] [d] l = _
      rw [replL_rp a d l]
      simp [rp]
    · rw [StrLaws.replL_miss (by simp [h]), replL_rp c d l]
      simp [rp, h]
theorem repl_S (x : Str) (c d : Nat) : Txt.replace x (S [c]) (S [d]) = S (rp c d (tl x)) := by
  refine ext_tl ?_
  have e := StrLaws.replace_list (x := x) (y := S [c]) (z := S [d]) (by rw [len_tl]; exact Nat.le_refl 1)
  exact e.trans (replL_rp c d (tl x))
def tRp (ix io iw : Nat) : TE := fun σ H Q => match σ[ix]? with
  | some (some (.str x)) => (match σ[io]? with
    | some (some (.str y)) => (match σ[iw]? with
      | some (some (.str z)) => (match tl y with
        | [c] => (match tl z with
          | [d] => c ≠ d ∧ (tl x).length ≤ 1000000 ∧ Q (.str (S (rp c d (tl x)))) H
          | _ => False)
        | _ => False)
      | _ => False)
    | _ => False)
  | _ => False
theorem tRp_e {ix io iw : Nat} {Q : VK} (h : tRp ix io iw σ H Q) : ∃ x c d, σ[ix]? = some (some (.str x)) ∧ σ[io]? = some (some (.str (S [c]))) ∧ σ[iw]? = some (some (.str (S [d]))) ∧ c ≠ d ∧ (tl x).length ≤ 1000000 ∧ Q (.str (S (rp c d (tl x)))) H := by
  unfold tRp at h
  split at h
  · rename_i x e1
    split at h
    · rename_i y e2
      split at h
      · rename_i z e3
        split at h
        · rename_i c ey
          split at h
          · rename_i d ez
            exact ⟨x, c, d, e1, by rw [e2, ← S_tl y, ey], by rw [e3, ← S_tl z, ez], h⟩
          · exact h.elim
        · exact h.elim
      · exact h.elim
    · exact h.elim
  · exact h.elim
theorem ns_uniq {m m2 : Str → Option Value} {h : Heap} {a : Addr} (hn : h.Ns a m) (hn2 : h.Ns a m2) : m2 = m := by
  obtain ⟨o, es, ep, ho, hd, _, r⟩ := hn
  obtain ⟨o2, es2, ep2, ho2, hd2, _, r2⟩ := hn2
  rw [ho] at ho2
  cases ho2
  rw [hd] at hd2
  cases hd2
  funext name
  rw [← r2 name, ← r name]
/-- a local's text: its token is known -/
theorem tk_name {ns : List Str} {ff : List (Str × Value)} {i : Nat} {x : Str} {y : Str} {pos : Pos} {Q E : Value → Shared → Prop} (hF : FT X ff s) (hns : ff.map (·.1) = ns) (htok : ∀ e ∈ ff, ∃ (x : Str) (t : Nat), e.2 = .str x t ∧ 1 ≤ t ∧ t < s.toks) (hx : x ∈ ns)
    (hN : X.N[i]? = some x) (hk : X.env.kindOf x = some .local) (I : Inv X pins σ H s) (hσ : σ[i]? = some (some (.str y))) (fin : ∀ t : Nat, 1 ≤ t → t < s.toks → (x, Value.str y t) ∈ ff → Q (.str y t) s)
    (hd : (x == ("__debug__" : Str)) = false) : wpAny (model X.prog X.w) X.A (eval (.Name x pos) X.env) Q E s := by
  obtain ⟨m, hn, hl⟩ := I.loc
  obtain ⟨u, ⟨t0, rfl⟩, l⟩ := hl i x _ hN hσ (.inl hk)
  obtain ⟨m2, hn2, hf⟩ := hF
  obtain rfl := ns_uniq hn hn2
  rw [← hns] at hx
  obtain ⟨e, he, rfl⟩ := List.mem_map.mp hx
  obtain ⟨y', t, e1, e2, e3⟩ := htok e he
  rcases l with ⟨_, hm⟩ | ⟨hk', _⟩
  · have hm2 := hf e he
    rw [hm] at hm2
    have e4 : e.2 = .str y t0 := (Option.some.inj hm2).symm
    rw [e4] at e1
    cases e1
    exact wpAny_Name (wpAny_loadName_local I.ok.kind hk hn2 hm (fin t0 e2 e3 (by rw [← e4]; exact he))) hd
  · rw [hk] at hk'
    rcases hk' with z | z <;> cases z
theorem pek_repl {ns : List Str} {ix io iw : Nat} {x o w' : Str} {p1 p2 p3 apos pos : Pos} (hNx : X.N[ix]? = some x := by rfl) (hvx : Vis X.env.scope x := by first | exact Or.inl rfl | exact Or.inr (Or.inl rfl) | exact Or.inr (Or.inr rfl)) (hNo : X.N[io]? = some o := by rfl) (hko : X.env.kindOf o = some .local := by rfl) (hNw : X.N[iw]? = some w' := by rfl) (hkw : X.env.kindOf w' = some .local := by rfl)
    (ho : o ∈ ns := by decide +kernel) (hw : w' ∈ ns := by decide +kernel) (hne : o ≠ w' := by decide +kernel) (hdx : (x == ("__debug__" : Str)) = false := by decide +kernel) (hcx : (x == ("__classdict__" : Str)) = false := by decide +kernel) (hdo : (o == ("__debug__" : Str)) = false := by decide +kernel) (hdw : (w' == ("__debug__" : Str)) = false := by decide +kernel)
    (hst : starEach [.Name o p2, .Name w' p3] X.env = [(false, eval (.Name o p2) X.env), (false, eval (.Name w' p3) X.env)] := by rfl)
    (hbase : attributeBase (.Name x p1) "replace" X.env (eval (.Name x p1) X.env) = eval (.Name x p1) X.env := by rfl) (hline : (apos.endLine == pos.line) = true := by rfl) :
    PEK X ns (.Call (.Attribute (.Name x p1) "replace" apos) [.Name o p2, .Name w' p3] [] pos) (tRp ix io iw) := by
  refine ⟨fun pins s σ H Q I k h => ?_⟩
  obtain ⟨z, c, d, e1, e2, e3, hcd, hb, q⟩ := tRp_e h
  obtain ⟨ff, hF, hns, htok, hnd⟩ := k
  refine wpAny_mono (wpAny_toks (Q := fun u s' => EP X pins σ Q u s' ∧ ∃ k : Nat, s' = { s with toks := k }) (PySem.Call_method2 hbase hst hline (raw_name hNx hvx I e1 (fun v r => ?_) hdx hcx))) (fun u s' hq => ?_) fun _ _ z => z.2
  · obtain ⟨tx, rfl⟩ := r
    refine ⟨"str", _, F.plainAttrs_str, F.slot_str_replace, F.type_str_replace, typeIs_str _ _ _, (fun _ e => nomatch e), Calls.callWith_builtin rfl (Calls.evalArgs_plain (Calls.spliced_cons ?_))⟩
    refine tk_name hF hns htok ho hNo hko I e2 (fun t h1 h2 hm1 => ?_) hdo
    refine Calls.spliced_cons (tk_name hF hns htok hw hNw hkw I e3 (fun t2 h3 h4 hm2 => ?_) hdw)
    refine Calls.spliced_nil ?_
    have hneq : t ≠ t2 := fun et => by
      obtain ⟨i, hi, ei⟩ := List.mem_iff_getElem.mp hm1
      obtain ⟨j, hj, ej⟩ := List.mem_iff_getElem.mp hm2
      have eij : i = j := by
        have hi' : i < (ff.map fun e => tokOf e.2).length := by rw [List.length_map]; exact hi
        have hj' : j < (ff.map fun e => tokOf e.2).length := by rw [List.length_map]; exact hj
        refine (List.getElem_inj hnd (h₀ := hi') (h₁ := hj')).mp ?_
        rw [List.getElem_map, List.getElem_map, ei, ej]
        exact et
      subst eij
      rw [ei] at ej
      exact hne (congrArg Prod.fst ej)
    refine PySem.SC.replace (show t ≠ (0 : Nat) from by omega) (show t2 ≠ (0 : Nat) from by omega) hneq (by simp only [beq_eq_false_iff_ne]; exact fun z => hcd (S1_inj _ _ z)) (by
      have : (S [d]).length = 1 := by rw [len_tl]; rfl
      rw [this, len_tl]; omega) fun t' k => ⟨⟨.str (S (rp c d (tl z))), H, I.tok k, ⟨t', by rw [repl_S]⟩, q⟩, k, rfl⟩
  · obtain ⟨hle, he, k, rfl⟩ := hq
    exact ⟨he, ff, hF, hns, fun e he => (let ⟨x, t, a, b, c⟩ := htok e he; ⟨x, t, a, b, Nat.lt_of_lt_of_le c hle⟩), hnd⟩
end
end Ta

set_option Elab.async false
set_option linter.all false
set_option maxRecDepth 100000
set_option maxHeartbeats 1000000
namespace Ta
open PySem PySem.Spec PyProof.Rows L2 He

/-! ### facts of the written part as Bools -/
abbrev BF := PySem.W.Frag → Bool
def bFree (x : Str) : BF := fun K => (Fa.free x).ok K
def bGlo (x : Str) : BF := fun K => (Fa.glo x).ok K
def bVal (x : Str) (v : V) : BF := fun K => match PySem.W.nsIn K mainGlobals x with
  | some (some u) => relB v u
  | _ => false
def bCls (x : Str) : BF := fun K => (Fa.cls x).ok K
def bNo (x f : Str) : BF := fun K => (Fa.noat x f).ok K
def bMe (x m : Str) : BF := fun K => (Fa.meth x m).ok K
def bMk (x : Str) : BF := fun K => (Fa.mkr x).ok K
def bExm (x y : Str) (b : Bool) : BF := fun K => (Fa.exm x y b).ok K
def bExmT (x : Str) (y : String) (b : Bool) : BF := fun K => decide (PySem.W.exmOne K (.ref (ga K x)) (.type y) = some b)
def bKit (x y : Str) (b : Bool) : BF := fun K => decide (PySem.W.kitOne K (.ref (ga K x)) (.ref (ga K y)) = some b)
def bKitT (x : Str) (y : String) (b : Bool) : BF := fun K => decide (PySem.W.kitOne K (.ref (ga K x)) (.type y) = some b)
def bKitA (x : Str) (ys : List Str) (b : Bool) : BF := fun K => decide (PySem.W.kitAny K (.ref (ga K x)) (ys.map fun y => .ref (ga K y)) = some b)
def bTKit (x : String) (y : Str) (b : Bool) : BF := fun K => decide (PySem.W.kitOne K (.type x) (.ref (ga K y)) = some b)
def bIsc (x : Str) : BF := fun K => (Fa.cls x).ok K && (eqO (PySem.W.findIn K (.ref (ga K x)) "__class__") (some (some (.builtin "object.__class__"))) &&
  (eqO (PySem.W.specialIn K (.builtin "object.__class__") "__get__") (some (some (.builtin "getset_descriptor.__get__"))) && (decide (PySem.W.takesIn K (.builtin "object.__class__") = some true) && decide (PySem.W.mroIn K (ga K x) (.type "object") = some true))))
def bXc (x : Str) : BF := fun K => xfB K (ga K x) && (eqO (PySem.W.findIn K (.ref (ga K x)) "__class__") (some (some (.builtin "object.__class__"))) &&
  (eqO (PySem.W.specialIn K (.builtin "object.__class__") "__get__") (some (some (.builtin "getset_descriptor.__get__"))) && (decide (PySem.W.takesIn K (.builtin "object.__class__") = some true) && decide (PySem.W.mroIn K (ga K x) (.type "object") = some true))))
def bCC (x f : Str) (v : V) : BF := fun K => (Fa.glo x).ok K && (PySem.W.readsIn K (ga K x) (.type "type") && (eqO (PySem.W.specialIn K (.ref (ga K x)) "__getattribute__") (some (some (.builtin "type.__getattribute__"))) &&
  (match PySem.W.findCls K (.ref (ga K x)) (.type "type") f with
    | some (.val u) => relB v u
    | _ => false)))
def bCon (x f : Str) (v : V) : BF := fun K => !PySem.W.copiedNames.contains f && (match PySem.W.findIn K (.ref (ga K x)) f with
  | some (some u) => relB v u && eqO (PySem.W.specialIn K u "__get__") (some none)
  | _ => false)
/-- no list of the written part holds whole numbers alone -/
def bNoL : BF := fun K => K.all fun e => match e.2 with
  | ⟨.type t, _, .seq its _, _⟩ => !decide (t = "list") || its.toList.any fun v => match v with
    | .int _ _ => false
    | _ => true
  | _ => true
def oexB (K : PySem.W.Frag) (C : Addr) : Bool := match K.lookup C with
  | some ⟨.type t, _, .cls cd, sl⟩ => decide (t = "type") && (match cd.mro, sl.toList with
    | .ref c :: bm, [_, _, _, _, some (.builtin i), _] => decide (c = C) && (PySem.HandSPX.refsVE bm && (decide (i = "ValueError.__new__") && (cd.hasDict && !cd.hasDel)))
    | _, _ => false)
  | _ => false
def bOex (x : Str) : BF := fun K => oexB K (ga K x) && (eqO (PySem.W.findIn K (.ref (ga K x)) "__setattr__") (some (some (.builtin "object.__setattr__"))) && (decide (PySem.W.subIn K (.ref (ga K x)) (.type "BaseException") = some true) &&
  (decide (PySem.W.typeIn K (.ref (ga K x)) = some (.type "type")) && PySem.W.keepIn K (.ref (ga K x)))))
/-- class x, its __init__ of class y -/
def bSup (x y : Str) : BF := fun K => decide (PySem.W.mroIn K (ga K x) (.ref (ga K y)) = some true) && (eqO (PySem.W.ks_superIn K (ga K x) (ga K y) "__init__") (some (some (.builtin "ValueError.__init__"))) &&
  (decide (PySem.W.subIn K (.ref (ga K x)) (.type "ValueError") = some true) && (eqO (PySem.W.nsIn K cStatics "thirdparty.any") (some none) &&
  (eqO (PySem.W.findIn K (.ref (ga K x)) "__init__") (some (some (.ref (ma K (ga K y) "__init__")))) && decide (PySem.W.typeIn K (.ref (ma K (ga K y) "__init__")) = some (.type "function"))))))
section
variable {K : PySem.W.Frag} {h : Heap} {mg : Str → Option Value} {x y f : Str} {v : V}
theorem free_of (X : K.In h) (G : h.Ns mainGlobals mg) (c : bFree x K = true) : mg x = none := He.free_ok X G c
theorem glo_of (X : K.In h) (G : h.Ns mainGlobals mg) (c : bGlo x K = true) : mg x = some (.ref (ga K x)) := He.glo_ok X G c
theorem gv_of (X : K.In h) (G : h.Ns mainGlobals mg) (c : bGlo x K = true) : GlobV mg x (.ref (ga K x)) := ⟨_, glo_of X G c, rfl⟩
theorem val_of (X : K.In h) (G : h.Ns mainGlobals mg) (c : bVal x v K = true) : GlobV mg x v := by
  unfold bVal at c
  split at c
  · rename_i u e
    exact ⟨u, PySem.W.mg_of X G e, relB_ok c⟩
  · cases c
theorem cls_of (c : bCls x K = true) : Cls K (ga K x) := He.cls_ok c
theorem no_of (c : bNo x f K = true) : NoAttr K (ga K x) f := He.noat_ok c
theorem no_of' (c : bNo x f K = true) : PySem.W.findIn K (.ref (ga K x)) f = some none := He.noat_ok c
theorem me_of (c : bMe x f K = true) : Meth K (ga K x) f (ma K (ga K x) f) := He.meth_ok c
theorem mk_of (c : bMk x K = true) : Mk K (ga K x) (ma K (ga K x) "__init__") := He.mkr_ok c
theorem exm_of {b : Bool} (c : bExm x y b K = true) : PySem.W.exmOne K (.ref (ga K x)) (.ref (ga K y)) = some b := He.exm_ok c
theorem exmT_of {b : Bool} {y : String} (c : bExmT x y b K = true) : PySem.W.exmOne K (.ref (ga K x)) (.type y) = some b := of_decide_eq_true c
theorem kit_of {b : Bool} (c : bKit x y b K = true) : PySem.W.kitOne K (.ref (ga K x)) (.ref (ga K y)) = some b := of_decide_eq_true c
theorem kitT_of {b : Bool} {y : String} (c : bKitT x y b K = true) : PySem.W.kitOne K (.ref (ga K x)) (.type y) = some b := of_decide_eq_true c
theorem tkit_of {b : Bool} {x : String} (c : bTKit x y b K = true) : PySem.W.kitOne K (.type x) (.ref (ga K y)) = some b := of_decide_eq_true c
theorem kitA_of {b : Bool} {ys : List Str} (c : bKitA x ys b K = true) : PySem.W.kitAny K (.ref (ga K x)) (ys.map fun y => .ref (ga K y)) = some b := of_decide_eq_true c
theorem isc_of (c : bIsc x K = true) : IsC K (ga K x) := by
  obtain ⟨c1, c⟩ := He.ba c
  obtain ⟨c2, c⟩ := He.ba c
  obtain ⟨c3, c⟩ := He.ba c
  obtain ⟨c4, c5⟩ := He.ba c
  exact ⟨fun H a dx fs e => .ins e (cls_of c1) (eqO_ok c2) (eqO_ok c3) (of_decide_eq_true c4) (of_decide_eq_true c5)⟩
theorem xc_of (c : bXc x K = true) : XC K (ga K x) := by
  obtain ⟨c1, c⟩ := He.ba c
  obtain ⟨c2, c⟩ := He.ba c
  obtain ⟨c3, c⟩ := He.ba c
  obtain ⟨c4, c5⟩ := He.ba c
  have q := xfB_ok c1
  exact ⟨q, ⟨q.ga, q.gg, q.exC, q.hdC, eqO_ok c2, eqO_ok c3, of_decide_eq_true c4, of_decide_eq_true c5⟩⟩
theorem cc_of (X : K.In h) (G : h.Ns mainGlobals mg) (c : bCC x f v K = true) : ClsConst K mg x f v := by
  obtain ⟨c1, c⟩ := He.ba c
  obtain ⟨c2, c⟩ := He.ba c
  obtain ⟨c3, c⟩ := He.ba c
  split at c
  · rename_i u e
    exact ⟨_, _, u, He.glo_ok X G c1, ⟨c2, eqO_ok c3⟩, ⟨e, relB_ok c⟩⟩
  · cases c
theorem con_of (c : bCon x f v K = true) : ∃ u, Con K (ga K x) f v u := by
  obtain ⟨c1, c⟩ := He.ba c
  split at c
  · rename_i u e
    obtain ⟨c2, c3⟩ := He.ba c
    exact ⟨u, e, relB_ok c2, eqO_ok c3, by simpa using c1⟩
  · cases c
theorem oexB_ok {C : Addr} (c : oexB K C = true) : ∃ nm q N bs bm sn sub ab col dd k0 k1 k2 k3 k5, K.lookup C = some (excClassObj nm q C N bs bm true sn sub ab col dd k0 k1 k2 k3 k5 "ValueError.__new__") ∧ PySem.HandSPX.refsVE bm = true := by
  unfold oexB at c
  split at c
  · rename_i t dd cd sl e
    obtain ⟨c1, c⟩ := He.ba c
    have c1 := of_decide_eq_true c1
    subst c1
    split at c
    · rename_i cc bm k0 k1 k2 k3 i k5 e1 e2
      obtain ⟨_, c⟩ := He.ba c
      obtain ⟨c2, c⟩ := He.ba c
      obtain ⟨c3, c⟩ := He.ba c
      obtain ⟨c4, c⟩ := He.ba c
      obtain ⟨c5, c6⟩ := He.ba c
      have c2 := of_decide_eq_true c2
      have c4 := of_decide_eq_true c4
      subst c2 c4
      obtain ⟨m1, m2, m3, m4, m5, m6, m7, m8, m9, m10, m11⟩ := cd
      obtain ⟨sl⟩ := sl
      simp only at e1 e2 c5 c6
      simp only [Bool.not_eq_true'] at c6
      subst e1 e2 c5 c6
      exact ⟨_, _, _, _, bm, _, _, _, _, _, k0, k1, k2, k3, k5, e, c3⟩
    · cases c
  · cases c
theorem oex_of (c : bOex x K = true) : OexC K (ga K x) := by
  obtain ⟨c1, c⟩ := He.ba c
  obtain ⟨c2, c⟩ := He.ba c
  obtain ⟨c3, c⟩ := He.ba c
  obtain ⟨c4, c5⟩ := He.ba c
  exact ⟨oexB_ok c1, eqO_ok c2, of_decide_eq_true c3, of_decide_eq_true c4, c5⟩
theorem sup_of (o : bOex x K = true) (c : bSup x y K = true) : SupExc K (ga K x) (ga K y) ∧ PySem.W.findIn K (.ref (ga K x)) "__init__" = some (some (.ref (ma K (ga K y) "__init__"))) ∧ PySem.W.typeIn K (.ref (ma K (ga K y) "__init__")) = some (.type "function") := by
  obtain ⟨c1, c⟩ := He.ba c
  obtain ⟨c2, c⟩ := He.ba c
  obtain ⟨c3, c⟩ := He.ba c
  obtain ⟨c4, c⟩ := He.ba c
  obtain ⟨c5, c6⟩ := He.ba c
  exact ⟨⟨oex_of o, of_decide_eq_true c1, eqO_ok c2, of_decide_eq_true c3, eqO_ok c4⟩, eqO_ok c5, of_decide_eq_true c6⟩
theorem vals_int : ∀ {ns : List Int} {us : List Value}, Vals (ns.map V.int) us → (us.any fun v => match v with
      | .int _ _ => false
      | _ => true) = false
  | [], _, .nil => rfl
  | n :: ns, _, .cons r t => by
    obtain ⟨k, rfl⟩ := r
    rw [List.any_cons, vals_int t]
    rfl
theorem scr_of {H : Hp} {a : Addr} {ns : List Int} (c : bNoL K = true) (hO : Only H) (hS : SqL K H a (ns.map V.int)) : ∃ ob, H a = some (.frz ob (.lst (ns.map V.int))) := by
  rcases hS with (hS | ⟨ob, hS⟩) | ⟨o, its, n, lk, o1, o2, o3, o4, o5⟩
  · rcases hO a with z | ⟨ob, xs, z⟩
    · rw [hS] at z; cases z
    · rw [hS] at z; cases z
  · exact ⟨ob, hS⟩
  · exfalso
    obtain ⟨oc, od, dt, sl⟩ := o
    simp only at o1 o2 o3
    subst o1 o2 o3
    have hm : (a, (⟨.type "list", none, .seq its n, sl⟩ : Obj)) ∈ K := by
      clear c o5 o4
      induction K with
      | nil => cases lk
      | cons e K ih =>
        obtain ⟨b, u⟩ := e
        rw [List.lookup_cons] at lk
        split at lk
        · rename_i hb
          have hb := eq_of_beq hb
          cases lk
          subst hb
          exact List.mem_cons_self
        · exact List.mem_cons_of_mem _ (ih lk)
    have q := List.all_eq_true.mp c _ hm
    have q : (!decide ("list" = "list") || its.toList.any fun v => match v with
      | .int _ _ => false
      | _ => true) = true := q
    rw [vals_int o5, Bool.or_false] at q
    simp at q
end

/-! ### a def that says super(), the Hook -/
abbrev FnS : Type := Option (Str × Str × Arguments × FuncBody × Scope × Addr × List Str × Addr)
structure SupD where
  cls : Str
  name : Str
  qual : Str
  params : Arguments
  body : List Stmt
  scope : Scope
def SupD.at_ (K : PySem.W.Frag) (d : SupD) : Addr := ma K (ga K d.cls) d.name
def fnS (K : PySem.W.Frag) (f : Addr) : FnS := match K.lookup f with
  | some ⟨_, _, .func fd, _⟩ => some (fd.name, fd.qualname, fd.params, fd.body, fd.scope, fd.globals, fd.closure.map (·.1), fd.builtins)
  | _ => none
def SupD.val (d : SupD) : FnS := some (d.name, d.qual, d.params, .stmts d.body, d.scope, mainGlobals, ["__class__"], builtinsNs)
def SupD.ok (file : Str) (K : PySem.W.Frag) (d : SupD) : Bool := PySem.W.keepIn K (.ref (d.at_ K)) && (match K.lookup (d.at_ K) with
  | some ⟨_, _, .func fd, _⟩ => (match fd.closure with
    | [(_, cc)] => (match K.lookup cc with
      | some ⟨_, _, .cell (some (.ref D)), _⟩ => decide (D = ga K d.cls)
      | _ => false)
    | _ => false) && ((match fd.defaults with
      | .none => true
      | _ => false) && ((PySem.W.clsIn K (ga K d.cls)).isSome && (match fd.code with
    | .ref c => PySem.W.codeIn K (.ref c) d.qual && (match K.lookup c with
      | some ⟨_, _, .fields vs, _⟩ => (match (vs[2]? : Option Value) with
        | some (.str fl _) => (file == fl)
        | _ => false)
      | _ => false)
    | _ => false)))
  | _ => false)
theorem SupD.fn {P : Program} {K : PySem.W.Frag} {d : SupD} (e : fnS K (d.at_ K) = d.val) (c : d.ok P.main.file K = true) (top : (P.main.scope.names.lookup ("super" : Str)).isSome = false) :
    ∃ (F : NdefX.NF) (fd : FuncData), F.name = d.name ∧ F.qual = d.qual ∧ F.params = d.params ∧ F.body = d.body ∧ F.scope = d.scope ∧ SupFn P K (d.at_ K) F (ga K d.cls) [] fd := by
  obtain ⟨kp, c2⟩ := He.ba c
  unfold fnS at e
  cases q : K.lookup (d.at_ K) with
  | none => rw [q] at c2; cases c2
  | some o =>
    obtain ⟨oc, od, dt, osl⟩ := o
    rw [q] at c2 e
    cases dt with
    | func fd =>
      obtain ⟨n1, n2, n3, n4, n5, n6, n7, n8, n9, n10, n11, n12, n13, n14, n15⟩ := fd
      have e2 : (some (n1, n2, n3, n4, n5, n6, n7.map (·.1), n15) : FnS) = (some (d.name, d.qual, d.params, FuncBody.stmts d.body, d.scope, mainGlobals, ["__class__"], builtinsNs) : FnS) := e
      simp only [Option.some.injEq, Prod.mk.injEq] at e2
      obtain ⟨h1, h2, h3, h4, h5, h6, h7, h8⟩ := e2
      obtain ⟨k1, c3⟩ := He.ba c2
      obtain ⟨k2, c4⟩ := He.ba c3
      obtain ⟨k3, k4⟩ := He.ba c4
      clear c4 c3 c2 e c
      obtain _ | ⟨⟨xc, cc⟩, _ | ⟨b, r⟩⟩ := n7
      · cases h7
      · simp only [List.map_cons, List.map_nil, List.cons.injEq, and_true] at h7
        subst h7
        simp only at k1 k2 k4
        split at k1
        · rename_i c1 c2 D c3 hc
          have k1' := of_decide_eq_true k1
          clear k1
          split at k2
          · split at k4
            · rename_i c
              obtain ⟨k5, k6⟩ := He.ba k4
              clear k4 k2
              split at k6
              · rename_i a1 a2 vs a3 hcc
                split at k6
                · rename_i fl tf hvs
                  subst h1 h2 h3 h4 h5 h6 h8
                  obtain ⟨cdD, hcd⟩ := Option.isSome_iff_exists.mp k3
                  subst k1'
                  exact ⟨⟨d.name, d.qual, d.params, d.body, d.scope, [("__class__", cc)], _⟩, _, rfl, rfl, rfl, rfl, rfl, ⟨⟨cc, oc, od, _, _, _, _, _, _, osl, rfl, rfl, q, .inl ⟨rfl, rfl⟩, _, _, _, hc⟩, k5, ⟨_, _, vs, _, fl, tf, hcc, hvs, k6⟩, ⟨cdD, hcd⟩, top, kp⟩⟩
                · cases k6
              · cases k6
            · cases k4
          · cases k2
        · cases k1
      · cases h7
    | _ => cases c2
/-! ### a def, wherever it stands -/
structure XD where
  at_ : PySem.W.Frag → Addr
  name : Str
  qual : Str
  params : Arguments
  body : List Stmt
  scope : Scope
  dfl : List Dv := []
  kwd : List (Str × Dv) := []
def XD.val (d : XD) : FnS := some (d.name, d.qual, d.params, .stmts d.body, d.scope, mainGlobals, ([] : List Str), builtinsNs)
def XD.vs (K : PySem.W.Frag) (d : XD) : List V := d.dfl.map fun z => Dv.v K z
def XD.ks (K : PySem.W.Frag) (d : XD) : List (Str × V) := d.kwd.map fun z => (z.1, z.2.v K)
def XD.ok (K : PySem.W.Frag) (d : XD) : Bool := PySem.W.keepIn K (.ref (d.at_ K)) && (match K.lookup (d.at_ K) with
  | some ⟨_, _, .func fd, _⟩ => dflB K fd.defaults (d.vs K) && (kwdB K fd.kwdefaults (d.ks K) && PySem.W.codeIn K fd.code d.qual)
  | _ => false)
theorem XD.fn {K : PySem.W.Frag} {d : XD} (e : fnS K (d.at_ K) = d.val) (c : d.ok K = true) : ∃ fd, FunD K d.name d.qual d.params d.body d.scope (d.vs K) (d.ks K) (d.at_ K) fd := by
  obtain ⟨kp, c1⟩ := He.ba c
  unfold fnS at e
  cases lk : K.lookup (d.at_ K) with
  | none => rw [lk] at c1; cases c1
  | some o =>
    obtain ⟨o1, o2, dt, o4⟩ := o
    rw [lk] at c1 e
    cases dt with
    | func fd =>
      obtain ⟨m1, m2, m3, m4, m5, m6, m7, m8, m9, m10, m11, m12, m13, m14, m15⟩ := fd
      have e2 : (some (m1, m2, m3, m4, m5, m6, m7.map (·.1), m15) : FnS) = (some (d.name, d.qual, d.params, FuncBody.stmts d.body, d.scope, mainGlobals, ([] : List Str), builtinsNs) : FnS) := e
      simp only [Option.some.injEq, Prod.mk.injEq] at e2
      obtain ⟨z1, z2, z3, z4, z5, z6, z7, z8⟩ := e2
      obtain ⟨y1, y2⟩ := He.ba c1
      obtain ⟨y3, y4⟩ := He.ba y2
      have z7 : m7 = [] := List.map_eq_nil_iff.mp z7
      subst z1 z2 z3 z4 z5 z6 z7 z8
      exact ⟨_, ⟨o1, o2, m8, m9, m10, m11, m12, m13, m14, o4, rfl, lk, y4, dflB_ok y1, kwdB_ok y3⟩, kp⟩
    | _ => cases c1
/-- a property's getter -/
def prA (K : PySem.W.Frag) (C : Addr) (f : Str) : Addr := match PySem.W.recIn K (ma K C f) "property" with
  | some (.ref g :: _) => g
  | _ => 0
def bPrp (x f : Str) : BF := fun K => eqO (PySem.W.findIn K (.ref (ga K x)) f) (some (some (.ref (ma K (ga K x) f)))) && (eqO (PySem.W.specialIn K (.ref (ma K (ga K x) f)) "__get__") (some (some (.builtin "property.__get__"))) &&
  (decide (PySem.W.takesIn K (.ref (ma K (ga K x) f)) = some true) && (match PySem.W.recIn K (ma K (ga K x) f) "property" with
    | some (.ref _ :: _) => true
    | _ => false)))
theorem prp_of {K : PySem.W.Frag} {x f : Str} (c : bPrp x f K = true) : PropOf K (ga K x) f (ma K (ga K x) f) (prA K (ga K x) f) := by
  obtain ⟨c1, c⟩ := He.ba c
  obtain ⟨c2, c⟩ := He.ba c
  obtain ⟨c3, c4⟩ := He.ba c
  refine ⟨eqO_ok c1, eqO_ok c2, of_decide_eq_true c3, ?_⟩
  split at c4
  · rename_i g r e
    refine ⟨r, ?_⟩
    unfold prA
    rw [e]
  · cases c4
abbrev AlX : Type := Bool × List FnS × List FnS
def obsX (file : Str) (fa : List BF) (fn : List XD) (sn : List SupD) (K : PySem.W.Frag) : AlX := ((fa.all fun f => f K) && (fn.all (fun d => d.ok K) && sn.all fun d => d.ok file K), fn.map (fun d => fnS K (d.at_ K)), sn.map fun d => fnS K (d.at_ K))
def valX (fn : List XD) (sn : List SupD) : AlX := (true, fn.map XD.val, sn.map SupD.val)
def SaysX (file : Str) (fa : List BF) (fn : List XD) (sn : List SupD) (K : PySem.W.Frag) : Prop := obsX file fa fn sn K = valX fn sn
def asX (g : Addr → Option Obj) (n : Nat) : List Addr := asD g n ++ [cStatics]
def obsXG (n : Nat) (file : Str) (fa : List BF) (fn : List XD) (sn : List SupD) (g : Addr → Option Obj) : AlX := obsX file fa fn sn (frG g (asX g n))
def hookX (n : Nat) (file : Str) (fa : List BF) (fn : List XD) (sn : List SupD) : PySem.W.Hook where
  α := AlX
  obs := fun s => obsXG n file fa fn sn s.heap.get?
  val := fun _ => valX fn sn
  says := fun _ h => ∃ K : PySem.W.Frag, K.In h ∧ SaysX file fa fn sn K
  of := fun _ _ e => ⟨_, frG_in, e⟩
  keeps := fun _ _ _ ⟨K, hK, c⟩ k => ⟨K, PySem.W.Frag.In.keeps hK k, c⟩
theorem obsXG_eq {n : Nat} {file : Str} {fa : List BF} {fn : List XD} {sn : List SupD} {g : Addr → Option Obj} {s : Shared} (h : ∀ a, g a = s.heap.get? a) : obsXG n file fa fn sn g = (hookX n file fa fn sn).obs s := by
  have e : g = s.heap.get? := funext h
  rw [e] <;> rfl
section
variable {file : Str} {fa : List BF} {fn : List XD} {sn : List SupD} {K : PySem.W.Frag}
theorem SaysX.fact (c : SaysX file fa fn sn K) (i : Nat) {f : BF} (h : fa[i]? = some f := by rfl) : f K = true := by
  have c1 := (He.ba (show ((fa.all fun f => f K) && (fn.all (fun d => d.ok K) && sn.all fun d => d.ok file K)) = true from congrArg (fun z : AlX => z.1) c)).1
  exact List.all_eq_true.mp c1 f (List.mem_of_getElem? h)
theorem SaysX.def_ (c : SaysX file fa fn sn K) (i : Nat) {d : XD} (h : fn[i]? = some d := by rfl) : ∃ fd, FunD K d.name d.qual d.params d.body d.scope (d.vs K) (d.ks K) (d.at_ K) fd := by
  have c2 := (He.ba (He.ba (show ((fa.all fun f => f K) && (fn.all (fun d => d.ok K) && sn.all fun d => d.ok file K)) = true from congrArg (fun z : AlX => z.1) c)).2).1
  have e : fn.map (fun d => fnS K (d.at_ K)) = fn.map XD.val := congrArg (fun z : AlX => z.2.1) c
  have e2 : (fn.map fun d => fnS K (d.at_ K))[i]? = (fn.map XD.val)[i]? := by rw [e]
  rw [List.getElem?_map, List.getElem?_map, h] at e2
  exact XD.fn (Option.some.inj e2) (List.all_eq_true.mp c2 d (List.mem_of_getElem? h))
theorem SaysX.sup {P : Program} (c : SaysX P.main.file fa fn sn K) (i : Nat) (top : (P.main.scope.names.lookup ("super" : Str)).isSome = false) {d : SupD} (h : sn[i]? = some d := by rfl) :
    ∃ (F : NdefX.NF) (fd : FuncData), F.name = d.name ∧ F.qual = d.qual ∧ F.params = d.params ∧ F.body = d.body ∧ F.scope = d.scope ∧ SupFn P K (d.at_ K) F (ga K d.cls) [] fd := by
  have c2 := (He.ba (He.ba (show ((fa.all fun f => f K) && (fn.all (fun d => d.ok K) && sn.all fun d => d.ok P.main.file K)) = true from congrArg (fun z : AlX => z.1) c)).2).2
  have e : sn.map (fun d => fnS K (d.at_ K)) = sn.map SupD.val := congrArg (fun z : AlX => z.2.2) c
  have e2 : (sn.map fun d => fnS K (d.at_ K))[i]? = (sn.map SupD.val)[i]? := by rw [e]
  rw [List.getElem?_map, List.getElem?_map, h] at e2
  exact SupD.fn (Option.some.inj e2) (List.all_eq_true.mp c2 d (List.mem_of_getElem? h)) top
end
/-- a law's end -/
theorem walk_ofX {l : PySem.W.OpenLaw} {n k : Nat} {q : Program} {loose : List Str} {XP : (Str → Option Value) → Heap → Prop} {YP : World → Heap → Prop} {d : DefRec} {x : Str}
    (hn : l.most = some n) (hn2 : n ≤ sizeLine) (hdf : d.params.defaults = []) (hr : Room k callerA)
    (F : ∀ (w : World) (mg : Str → Option Value) (fa : Addr) (h : Heap), YP w h → h.Ns mainGlobals mg → mg d.name = some (.ref fa) →
      ∃ (K : PySem.W.Frag) (fd : FuncData) (sp : Sp), K.In h ∧ (∀ (s : Shared) (u : Value), BindsTo s fd ⟨[u], []⟩ [(x, u)]) ∧
        (∀ (H : Hp) (a : Addr) (ns : List Int), ns.length ≤ n → Only H → SqL K H a (ns.map V.int) → sp [.ref a] H (fun v _ => v = .bl true) fun _ _ _ => False) ∧
        ∀ base : Heap, K.In base → base.Ns mainGlobals mg → FnOk l.prog w K mg base (L2.CX l.prog w) k fa fd [x] sp) :
    PySem.W.WalkO q loose XP YP l.row.toRowW d [] (fun f vs => PySem.call f vs) := by
  refine Att.attach_call hn hdf fun w s₀ s₁ mg mb fa o pm cd doc a vs ns G Y ho hd hcd hmg hobj hints hlen hg => ?_
  obtain ⟨K, fd, sp, KX, hb, hsp, hF⟩ := F w mg fa _ Y G.T.g hmg
  exact law_call KX G.T.g G.T.b G.T.builtins G.T.nolimit hg hobj hints (Nat.le_trans hlen hn2) hr hF hb (fun H hO hS => hsp H a ns hlen hO hS) fun H e s' ⟨_, _, _, _, _, _, _, _, _, _, _, _, z⟩ => z
end Ta

set_option Elab.async false
set_option linter.all false
set_option maxRecDepth 100000
set_option maxHeartbeats 1000000
namespace Ta
open PySem PySem.Spec PyProof.Rows L2

/-! ### is, is not: None, truth values -/
def zIsB : R2 := fun x y H Q => match y with
  | .non => Q (.bl (decide (x = .non))) H
  | .bl b => (match x with
    | .bl a => Q (.bl (decide (a = b))) H
    | _ => False)
  | _ => False
def zIsnB : R2 := fun x y H Q => match y with
  | .non => Q (.bl (!decide (x = .non))) H
  | .bl b => (match x with
    | .bl a => Q (.bl (!decide (a = b))) H
    | _ => False)
  | _ => False
section
variable {X : Cx}
theorem opisb : OpR X (compareOp .Is) zIsB := by
  intro pins s σ H x y v u Q I rx ry h
  cases y with
  | non => exact op_isN pins s σ H _ _ v u Q I rx ry ⟨rfl, h⟩
  | bl b => cases x with
    | bl a => exact op_is_bl pins s σ H _ _ v u Q I rx ry ⟨a, b, rfl, rfl, h⟩
    | _ => exact False.elim h
  | _ => exact False.elim h
theorem opisnb : OpR X (compareOp .IsNot) zIsnB := by
  intro pins s σ H x y v u Q I rx ry h
  cases y with
  | non => exact op_notN pins s σ H _ _ v u Q I rx ry ⟨rfl, h⟩
  | bl b => cases x with
    | bl a => exact op_isnot_bl pins s σ H _ _ v u Q I rx ry ⟨a, b, rfl, rfl, h⟩
    | _ => exact False.elim h
  | _ => exact False.elim h
/-! ### o.f += e -/
def sAug (K : PySem.W.Frag) (ta tv : TE) (f : Str) (g : Int → Int → Int) : TS := fun D σ H => ta σ H fun x H1 => match x with
  | .ref a => look H1 a fun ob => (match ob with
    | some (.ins C dx fs) => Cls K C ∧ NoAttr K C f ∧ fld fs f fun v => match v with
      | .int i => tv σ H1 fun y H2 => (match y with
        | .int j => look H2 a fun ob' => (match ob' with
          | some (.ins C' dx' fs') => C' = C ∧ fs'.length < 1000 ∧ D.nx σ (upd H2 a (.ins C dx' (putF f (.int (g i j)) fs')))
          | _ => False)
        | _ => False)
      | _ => False
    | _ => False)
  | _ => False
theorem sAug_e {K : PySem.W.Frag} {tv : TE} {f : Str} {g : Int → Int → Int} {rd : V → V → Hp → VK → Prop} {D : Ends} {σ : St} {x : V} {H1 : Hp} (h : match x with
  | .ref a => look H1 a fun ob => (match ob with
    | some (.ins C dx fs) => Cls K C ∧ NoAttr K C f ∧ fld fs f fun v => match v with
      | .int i => tv σ H1 fun y H2 => (match y with
        | .int j => look H2 a fun ob' => (match ob' with
          | some (.ins C' dx' fs') => C' = C ∧ fs'.length < 1000 ∧ D.nx σ (upd H2 a (.ins C dx' (putF f (.int (g i j)) fs')))
          | _ => False)
        | _ => False)
      | _ => False
    | _ => False)
  | _ => False) (hrd : ∀ i j H Q, Q (.int (g i j)) H → rd (.int i) (.int j) H Q) (hm : ∀ σ H Q Q', (∀ v H, Q v H → Q' v H) → tv σ H Q → tv σ H Q') : ∃ a C dx fs v, x = .ref a ∧ H1 a = some (.ins C dx fs) ∧ Cls K C ∧ NoAttr K C f ∧ fs.lookup f = some v ∧
  tv σ H1 fun y H2 => rd v y H2 fun z H3 => ∃ dx' fs', H3 a = some (.ins C dx' fs') ∧ fs'.length < 1000 ∧ D.nx σ (upd H3 a (.ins C dx' (putF f z fs'))) := by
  cases x with
  | ref a =>
    have h := look_e h
    cases e : H1 a with
    | none => rw [e] at h; exact h.elim
    | some ob =>
      rw [e] at h
      cases ob with
      | ins C dx fs =>
        obtain ⟨h1, h2, h3⟩ := h
        obtain ⟨v, l, q⟩ := fld_e h3
        cases v with
        | int i =>
          refine ⟨a, C, dx, fs, _, rfl, e, h1, h2, l, hm _ _ _ _ (fun y H2 h => ?_) q⟩
          cases y with
          | int j =>
            have h := look_e h
            cases e2 : H2 a with
            | none => rw [e2] at h; exact h.elim
            | some ob2 =>
              rw [e2] at h
              cases ob2 with
              | ins C' dx' fs' =>
                obtain ⟨rfl, h5, h6⟩ := h
                exact hrd i j H2 _ ⟨dx', fs', e2, h5, h6⟩
              | _ => exact h.elim
          | _ => exact h.elim
        | _ => exact q.elim
      | _ => exact h.elim
  | _ => exact h.elim
theorem psaddC {o : Expr} {f : Str} {ta : TE} {n : Int} {j : Nat} {p1 tpos pos : Pos} (ha : PE X o ta) : PS X (.AugAssign (.Attribute o f tpos) .Add (.Constant (.int n) j p1) pos) (sAug X.K ta (tC (.int n)) f (· + ·)) := by
  refine ⟨fun pins s σ H D I h => ?_⟩
  refine wpAny_AugAssign_AttributeAny (thn (ha.run pins s σ H _ I h) fun ov s1 ⟨x, H1, I1, rx, q0⟩ => ?_)
  obtain ⟨a, C, dx, fs, v, ex, ea, c, n, l, q⟩ := sAug_e (rd := rAdd) (tv := tC (.int n)) (g := (· + ·)) q0 (fun i j H Q q => ⟨i, j, rfl, rfl, q⟩) (fun _ _ _ _ h q => h _ _ q)
  clear q0
  subst ex
  obtain rfl : ov = Value.ref a := rx
  refine getattr_ok I1 ea c n l fun u s2 I2 ru => thn (pe_int.run pins s2 σ H1 _ I2 q) fun w3 s3 ⟨y, H2, I3, ry, q3⟩ => thn (in_add pins s3 σ H2 v y u w3 _ I3 ru ry q3) fun w4 s4 ⟨z, H3, I4, rz, dx', fs', ea', l', q4⟩ => ?_
  exact setattr_ok I4 ea' c n l' rz fun s5 I5 => ⟨σ, _, I5, q4⟩
end
/-! ### a property -/
structure Pr (P : Program) (w : World) (K : PySem.W.Frag) (mg : Str → Option Value) (base : Heap) (C : Addr) (f : Str) (lv : Nat) (sp : Sp) : Prop where
  ex : ∃ (p g : Addr) (fd : FuncData) (ps : List Str), PropOf K C f p g ∧ FnOk P w K mg base (L2.CX P w) lv g fd ps sp ∧ Binds K fd ps []
  cl : Cls K C
def tPrp (C : Addr) (sp : Sp) (ta : TE) : TE := fun σ H Q => ta σ H fun x H1 => match x with
  | .ref a => look H1 a fun ob => (match ob with
    | some (.ins C' dx fs) => C' = C ∧ sp [.ref a] H1 Q fun _ _ _ => False
    | _ => False)
  | _ => False
section
variable {X : Cx} {e : Expr} {ta : TE} {C : Addr} {f : Str} {lv : Nat} {sp : Sp} {pos : Pos}
theorem pprp (F : Pr X.prog X.w X.K X.mg X.base C f lv sp) (hr : Room (lv + 1) X.A) (he : PE X e ta) (hab : attributeBase e f X.env (eval e X.env) = eval e X.env := by rfl) : PE X (.Attribute e f pos) (tPrp C sp ta) := by
  obtain ⟨p, g, fd, ps, hp, F1, hb⟩ := F.ex
  refine ⟨fun pins s σ H Q I h => ?_⟩
  refine attr_of hab (thn (he.run pins s σ H _ I h) fun u s1 ⟨x, H1, I1, rx, q⟩ => ?_)
  cases x with
  | ref a =>
    have q1 := look_e q
    clear q
    cases ea : H1 a with
    | none => rw [ea] at q1; exact q1.elim
    | some ob =>
      rw [ea] at q1
      cases ob with
      | ins C' dx fs =>
        obtain ⟨e2, q2⟩ := q1
        subst e2
        obtain rfl : u = Value.ref a := rx
        exact getprop_ok (E := fun _ _ _ => False) I1 ea F.cl hp F1 hr hb .nil (fun _ _ _ _ _ _ _ z => False.elim (let ⟨_, _, _, _, _, _, _, _, _, _, _, _, z⟩ := z; z)) q2
      | _ => exact q1.elim
  | _ => exact q.elim
end
/-! ### x = l[e], then known -/
section
variable {X : Cx} {pins : List (Addr × Obj)} {σ : St} {H : Hp} {s s' : Shared} {ff : List (Str × Value)}
/-- .. and a token is out -/
structure PEn (X : Cx) (e : Expr) (t : TE) : Prop where
  run : ∀ (pins : List (Addr × Obj)) (s : Shared) (σ : St) (H : Hp) (Q : VK), Inv X pins σ H s → t σ H Q → wpAny (model X.prog X.w) X.A (eval e X.env) (fun u s' => EP X pins σ Q u s' ∧ 1 ≤ s'.toks) X.xe s
structure PAn (X : Cx) (es : List Expr) (t : TA) : Prop where
  run : ∀ (pos : Pos) (pins : List (Addr × Obj)) (s : Shared) (σ : St) (H : Hp) (Q : List V → Hp → Prop), Inv X pins σ H s → t σ H Q → wpAny (model X.prog X.w) X.A (spliced (backTo pos (starEach es X.env))) (fun us s' => AP X pins σ Q us s' ∧ 1 ≤ s'.toks) X.xe s
theorem toks1 {α : Type} {t : Sem α} {Q : α → Shared → Prop} {E : Value → Shared → Prop} {M : Model} {A : Around} {s : Shared} (h1 : 1 ≤ s.toks) (h : wpAny M A t Q E s) : wpAny M A t (fun a s' => Q a s' ∧ 1 ≤ s'.toks) E s :=
  wpAny_mono (PySem.wpAny_toks_of h1 h) (fun _ _ z => ⟨z.2, z.1⟩) fun _ _ z => z.2
theorem pen_int {i : Int} {j : Nat} {pos : Pos} : PEn X (.Constant (.int i) j pos) (tC (.int i)) :=
  ⟨fun _ s _ H _ I h => wpAny_Constant_int ⟨⟨.int i, H, I.tok _, ⟨_, rfl⟩, h⟩, Nat.le_add_left 1 s.toks⟩⟩
theorem pen_op {op : Operator} {r : R2} {a b : Expr} {ta tb : TE} {pos : Pos} (ho : OpR X (binaryOp op) r) (ha : PEn X a ta) (hb : PE X b tb) : PEn X (.BinOp a op b pos) (tOp r ta tb) := by
  refine ⟨fun pins s σ H Q I h => wpAny_BinOp ?_⟩
  refine thn (ha.run pins s σ H _ I h) fun v s1 ⟨⟨x, H1, I1, r1, q1⟩, h1⟩ => ?_
  refine thn (toks1 h1 (hb.run pins s1 σ H1 _ I1 q1)) fun u s2 ⟨⟨y, H2, I2, r2, q2⟩, h2⟩ => ?_
  exact toks1 h2 (ho pins s2 σ H2 x y v u Q I2 r1 r2 q2)
theorem pan_hd {e : Expr} {es : List Expr} {te : TE} {t : TA} (ha : PEn X e te) (hr : PA X es t) (hs : starEach (e :: es) X.env = (false, eval e X.env) :: starEach es X.env := by rfl) : PAn X (e :: es) (tCons te t) := by
  refine ⟨fun pos pins s σ H Q I h => ?_⟩
  rw [hs]
  show wpAny _ _ (spliced ((false, eval e X.env) :: backTo pos (starEach es X.env))) _ _ s
  refine Calls.spliced_cons (thn (ha.run pins s σ H _ I h) fun u s1 ⟨⟨x, H1, I1, r1, q1⟩, h1⟩ => ?_)
  exact thn (toks1 h1 (hr.run pos pins s1 σ H1 _ I1 q1)) fun us s2 ⟨⟨xs, H2, I2, r2, q2⟩, h2⟩ => ⟨⟨x :: xs, H2, I2, .cons r1 r2, q2⟩, h2⟩
theorem pan_tl {e : Expr} {es : List Expr} {te : TE} {t : TA} (ha : PE X e te) (hr : PAn X es t) (hs : starEach (e :: es) X.env = (false, eval e X.env) :: starEach es X.env := by rfl) : PAn X (e :: es) (tCons te t) := by
  refine ⟨fun pos pins s σ H Q I h => ?_⟩
  rw [hs]
  show wpAny _ _ (spliced ((false, eval e X.env) :: backTo pos (starEach es X.env))) _ _ s
  refine Calls.spliced_cons (thn (ha.run pins s σ H _ I h) fun u s1 ⟨x, H1, I1, r1, q1⟩ => ?_)
  exact thn (hr.run pos pins s1 σ H1 _ I1 q1) fun us s2 ⟨⟨xs, H2, I2, r2, q2⟩, h2⟩ => ⟨⟨x :: xs, H2, I2, .cons r1 r2, q2⟩, h2⟩
theorem pen_lst {es : List Expr} {t : TA} {pos : Pos} (h : PAn X es t) : PEn X (.List es pos) (tLst t) := by
  refine ⟨fun pins s σ H Q I hq => ?_⟩
  refine wpAny_List_spliced (thn (h.run pos pins s σ H _ I hq) fun us s1 ⟨⟨xs, H1, I1, r, z, q⟩, h1⟩ => ⟨by rw [← r.length]; exact z, ?_⟩)
  have hf : H1 s1.heap.objs.size = none := I1.hok.fresh (Nat.le_refl _)
  refine ⟨⟨.ref s1.heap.objs.size, upd H1 s1.heap.objs.size (.lst xs), I1.laid (t' := s1.toks) (fun b u e => Heap.get?_push_of_some _ e) (Nat.le_refl _) ?_, rfl, q _ hf⟩, h1⟩
  exact ⟨z, us, 0, r, Heap.get?_push_size _ rfl⟩
theorem pen_ix {a b : Expr} {ta tb : TE} {pos : Pos} (ha : PEn X a ta) (hb : PE X b tb) (hs : PlainIx b := by exact fun _ _ => rfl) : PEn X (.Subscript a b pos) (tOp (zIxP X.K) ta tb) := by
  refine ⟨fun pins s σ H Q I h => Subscript_ ?_⟩
  refine thn (ha.run pins s σ H _ I h) fun v s1 ⟨⟨x, H1, I1, r1, q1⟩, h1⟩ => ?_
  refine thn (toks1 h1 (hb.run pins s1 σ H1 _ I1 q1)) fun u s2 ⟨⟨y, H2, I2, r2, q2⟩, h2⟩ => ?_
  exact toks1 h2 (ixp a b pins s2 σ H2 x y v u Q I2 r1 r2 q2 (hs _ _))
theorem pen_call {x : Str} {p pos : Pos} {e : Expr} {es : List Expr} {t : TA} {lv : Nat} {dvs : List V} {sp : Sp} {W : WX} (F : Fn X.prog X.w X.K X.mg X.base x lv dvs sp) (hr : Room lv X.A) (tk : Takes X W) (ha : PAn X (e :: es) t) (hg : Gl X x := by rfl) (hdb : (x == ("__debug__" : Str)) = false := by decide +kernel)
    (he : starEach (e :: es) X.env = (false, eval e X.env) :: starEach es X.env := by rfl) (hpl : (backTo pos (starEach es X.env)).any (·.1) = false := by rfl) :
    PEn X (.Call (.Name x p) (e :: es) [] pos) (tCal sp dvs W t) := by
  obtain ⟨f, fd, ps, ds, F, hm, hk, hd, hb⟩ := F.ex
  refine ⟨fun pins s σ H Q I h => ?_⟩
  refine wpAny_Call_Name_kw (ld_glob I hg hm ?_ hdb)
  refine PySem.W.callWith_K (h₀ := X.base) I.ok.mod.kin hk (thn (ha.run pos pins s σ H _ I h) fun us s1 ⟨⟨vs, H1, I1, r, q⟩, h1⟩ => ⟨I1.kIn, ?_⟩) he hpl
  exact toks1 h1 (run_fnSD (E := WE W) F hr hb hd (passAt tk σ) I1 r q)
def tIx (il : Nat) (te : TE) : TE := fun σ H Q => match σ[il]? with
  | some (some (.str z)) => Lim (tl z).length ∧ te σ H fun v H' => match v with
      | .int i => itm (tl z) i fun c => Q (.str (S [c])) H'
      | _ => False
  | _ => False
theorem pssk_ix {ix il : Nat} {x l : Str} {e : Expr} {te : TE} {rest : List Stmt} {u : TS} {px pos p1 p8 : Pos} (hN : X.N.Nodup) (he : PEn X e te) (hrest : PSsK X [x] rest u)
    (hNx : X.N[ix]? = some x := by rfl) (hkx : X.env.kindOf x = some .local := by rfl)
    (hNl : X.N[il]? = some l := by rfl) (hvl : Vis X.env.scope l := by first | exact Or.inl rfl | exact Or.inr (Or.inl rfl) | exact Or.inr (Or.inr rfl))
    (hdl : (l == ("__debug__" : Str)) = false := by decide +kernel) (hcl : (l == ("__classdict__" : Str)) = false := by decide +kernel)
    (hix : PlainIx e := by exact fun _ _ => rfl)
    (hs : swapsWith (.Subscript (.Name l p1) e p8) (some (.Name x px)) pos.line X.env = pure false := by rfl) :
    PSs X (.Assign [.Name x px] (.Subscript (.Name l p1) e p8) pos :: rest) (tSeq (tAsg (tIx il te) (gName ix)) u) := by
  refine ⟨fun pins s σ H D I h => ?_⟩
  have h : tIx il te σ H fun x H1 => u D (σ.set ix (some x)) H1 := h
  unfold tIx at h
  split at h
  · rename_i z e1
    obtain ⟨hlim, h⟩ := h
    refine wpAny_execs_cons (wpAny_Assign_Name (Subscript_ (raw_name hNl hvl I e1 (fun v r => ?_) hdl hcl)) hs)
    obtain ⟨tz, rfl⟩ := r
    refine thn (he.run pins s σ H _ I h) fun w s2 hq => ?_
    obtain ⟨⟨y, H2, I2, ry, q⟩, h1t⟩ := hq
    cases y with
    | int i =>
      obtain ⟨ti, rfl⟩ := ry
      obtain ⟨c, hat, q⟩ := itm_e q
      obtain ⟨j, h1, h2, h3, h4, h5⟩ := atI_get hat
      have hl : z.cps.toList.length = z.length := by simp [Str.length]
      have hn := line63
      have hz : z.length ≤ sizeLine := by rw [len_tl]; exact hlim
      rw [hl] at h1 h4 h5
      refine tail_any (typeIs_str s2 z tz) slot_str_getitem.lookup (getItem_str (c := c) (by
        have e1 : decide (i < -(2 ^ 63 : Int)) = false := decide_eq_false (by omega)
        have e2 : decide (i ≥ 2 ^ 63) = false := decide_eq_false (by omega)
        rw [e1, e2, Bool.or_false]) (by rw [h1]; simpa using h2) ?_) (hix _ _)
      have I3 := I2.tok (s2.toks + 1)
      refine store_F (v := .str (S [c])) (ff := []) I3 hN hNx hkx ⟨s2.toks, rfl⟩ (FT.nil I3) (fun e he => nomatch he) fun s3 I4 hF2 ht2 => ?_
      refine hrest.run pins s3 _ H2 D I4 ⟨_, hF2, rfl, fun e he => ?_, by simp⟩ q
      obtain rfl := List.mem_singleton.mp he
      exact ⟨S [c], s2.toks, rfl, h1t, by rw [ht2]; exact Nat.lt_succ_of_lt (Nat.lt_succ_self _)⟩
    | _ => exact False.elim q
  · exact h.elim
/-! ### x.replace(o, '') -/
def rpE (c : Nat) (l : List Nat) : List Nat := l.filter fun a => !decide (a = c)
theorem replL_rpE (c : Nat) : ∀ l : List Nat, StrLaws.replL [c] [] l = rpE c l
  | [] => StrLaws.replL_nil
  | a :: l => by
    by_cases h : a = c
    · subst h
      rw [StrLaws.replL_hit (by simp) (by simp)]
      show [] ++ StrLaws.replL [a] [] l = _
      rw [replL_rpE a l]
      simp [rpE]
    · rw [StrLaws.replL_miss (by simp [h]), replL_rpE c l]
      simp [rpE, h]
theorem repl_SE (x : Str) (c : Nat) : Txt.replace x (S [c]) (S []) = S (rpE c (tl x)) := by
  refine ext_tl ?_
  have e := StrLaws.replace_list (x := x) (y := S [c]) (z := S []) (by rw [len_tl]; exact Nat.le_refl 1)
  exact e.trans (replL_rpE c (tl x))
def tRpE (ix io : Nat) : TE := fun σ H Q => match σ[ix]? with
  | some (some (.str x)) => (match σ[io]? with
    | some (some (.str y)) => (match tl y with
      | [c] => (tl x).length ≤ 1000000 ∧ Q (.str (S (rpE c (tl x)))) H
      | _ => False)
    | _ => False)
  | _ => False
theorem tRpE_e {ix io : Nat} {Q : VK} (h : tRpE ix io σ H Q) : ∃ x c, σ[ix]? = some (some (.str x)) ∧ σ[io]? = some (some (.str (S [c]))) ∧ (tl x).length ≤ 1000000 ∧ Q (.str (S (rpE c (tl x)))) H := by
  unfold tRpE at h
  split at h
  · rename_i x e1
    split at h
    · rename_i y e2
      split at h
      · rename_i c ey
        exact ⟨x, c, e1, by rw [e2, ← S_tl y, ey], h⟩
      · exact h.elim
    · exact h.elim
  · exact h.elim
theorem pek_replE {ns : List Str} {ix io : Nat} {x o : Str} {j : Nat} {p1 p2 p3 apos pos : Pos} (hNx : X.N[ix]? = some x := by rfl) (hvx : Vis X.env.scope x := by first | exact Or.inl rfl | exact Or.inr (Or.inl rfl) | exact Or.inr (Or.inr rfl)) (hNo : X.N[io]? = some o := by rfl) (hko : X.env.kindOf o = some .local := by rfl)
    (ho : o ∈ ns := by decide +kernel) (hdx : (x == ("__debug__" : Str)) = false := by decide +kernel) (hcx : (x == ("__classdict__" : Str)) = false := by decide +kernel) (hdo : (o == ("__debug__" : Str)) = false := by decide +kernel)
    (hst : starEach [.Name o p2, .Constant (.str (S [])) j p3] X.env = [(false, eval (.Name o p2) X.env), (false, eval (.Constant (.str (S [])) j p3) X.env)] := by rfl)
    (hbase : attributeBase (.Name x p1) "replace" X.env (eval (.Name x p1) X.env) = eval (.Name x p1) X.env := by rfl) (hline : (apos.endLine == pos.line) = true := by rfl) :
    PEK X ns (.Call (.Attribute (.Name x p1) "replace" apos) [.Name o p2, .Constant (.str (S [])) j p3] [] pos) (tRpE ix io) := by
  refine ⟨fun pins s σ H Q I k h => ?_⟩
  obtain ⟨z, c, e1, e2, hb, q⟩ := tRpE_e h
  obtain ⟨ff, hF, hns, htok, hnd⟩ := k
  refine wpAny_mono (wpAny_toks (Q := fun u s' => EP X pins σ Q u s' ∧ ∃ k : Nat, s' = { s with toks := k }) (PySem.Call_method2 hbase hst hline (raw_name hNx hvx I e1 (fun v r => ?_) hdx hcx))) (fun u s' hq => ?_) fun _ _ z => z.2
  · obtain ⟨tx, rfl⟩ := r
    refine ⟨"str", _, F.plainAttrs_str, F.slot_str_replace, F.type_str_replace, typeIs_str _ _ _, (fun _ e => nomatch e), Calls.callWith_builtin rfl (Calls.evalArgs_plain (Calls.spliced_cons ?_))⟩
    refine tk_name hF hns htok ho hNo hko I e2 (fun t h1 h2 hm1 => ?_) hdo
    refine Calls.spliced_cons (Calls.Constant_str ?_)
    refine Calls.spliced_nil ?_
    refine PySem.SC.replace (show t ≠ (0 : Nat) from by omega) (show s.toks ≠ (0 : Nat) from by omega) (show t ≠ s.toks from by omega) (by simp only [beq_eq_false_iff_ne]; exact fun z => absurd (congrArg (fun y : Str => (tl y).length) z) (show ¬ (1 = 0) by decide)) (by
      have : (S []).length = 0 := by rw [len_tl]; rfl
      rw [this, len_tl]; omega) fun t' k => ⟨⟨.str (S (rpE c (tl z))), H, I.tok k, ⟨t', by rw [repl_SE]⟩, q⟩, k, rfl⟩
  · obtain ⟨hle, he, k, rfl⟩ := hq
    exact ⟨he, ff, hF, hns, fun e he => (let ⟨x, t, a, b, c⟩ := htok e he; ⟨x, t, a, b, Nat.lt_of_lt_of_le c hle⟩), hnd⟩
end
end Ta

set_option Elab.async false
set_option linter.all false
set_option maxRecDepth 100000
set_option maxHeartbeats 1000000
namespace Ta
open PySem PySem.Spec PyProof.Rows L2

/-! ### the part ahead of a sign -/
def bef (c : Nat) (l : List Nat) : List Nat := l.takeWhile fun a => !decide (a = c)
def fnd (c : Nat) (l : List Nat) : Int := if c ∈ l then ((bef c l).length : Int) else -1
theorem bef_at {c : Nat} : ∀ {l : List Nat} {i : Nat}, l[i]? = some c → (∀ k, k < i → ¬ l[k]? = some c) → (bef c l).length = i ∧ l.take i = bef c l
  | [], i, h, _ => by simp at h
  | a :: l, 0, h, _ => by
    have e : a = c := by simpa using h
    subst e
    simp [bef]
  | a :: l, i + 1, h, hk => by
    have e : ¬ a = c := fun z => hk 0 (Nat.succ_pos _) (by simp [z])
    obtain ⟨h1, h2⟩ := bef_at (l := l) (i := i) (by simpa using h) fun k hk' => by
      have := hk (k + 1) (by omega)
      simpa using this
    have e2 : bef c (a :: l) = a :: bef c l := by simp [bef, e]
    rw [e2]
    exact ⟨by simp [h1], by simp [h2]⟩
theorem bef_no {c : Nat} : ∀ {l : List Nat}, ¬ c ∈ l → bef c l = l
  | [], _ => rfl
  | a :: l, h => by
    have e : ¬ a = c := fun z => h (by simp [z])
    have e2 : bef c (a :: l) = a :: bef c l := by simp [bef, e]
    rw [e2, bef_no fun z => h (List.mem_cons_of_mem _ z)]
theorem bef_le (c : Nat) (l : List Nat) : (bef c l).length ≤ l.length := (List.takeWhile_sublist _).length_le
theorem at_one (l : List Nat) (c i : Nat) : StrLaws.At (S l) (S [c]) (S l).length i ↔ l[i]? = some c := StrLaws.subAt_one (S l) c i
theorem find_one (l : List Nat) (c : Nat) : Txt.find (S l) (S [c]) = fnd c l := by
  unfold fnd
  rcases find_whole (S l) (S [c]) with ⟨h1, h2⟩ | ⟨i, h1, h2, h3⟩
  · rw [h1, if_neg]
    intro hm
    obtain ⟨i, hi⟩ := List.mem_iff_getElem?.mp hm
    exact h2 i ((at_one l c i).mpr hi)
  · have hi := (at_one l c i).mp h2
    rw [h1, if_pos (List.mem_iff_getElem?.mpr ⟨i, hi⟩), (bef_at hi fun k hk z => h3 k hk ((at_one l c k).mpr z)).1]
theorem part_one (l : List Nat) (c : Nat) : (Txt.partition (S l) (S [c])).1 = S (bef c l) := by
  have hf := find_one l c
  unfold Txt.find at hf
  unfold Txt.partition
  revert hf
  cases e : Builtin.Str.occurrences (S l) (S [c]) 0 (S l).length 1 with
  | nil =>
    intro hf
    have hn : ¬ c ∈ l := fun z => by
      unfold fnd at hf
      rw [if_pos z] at hf
      have hf : (-1 : Int) = ((bef c l).length : Int) := hf
      omega
    rw [bef_no hn]
  | cons i r =>
    intro hf
    have hf : (i : Int) = fnd c l := hf
    unfold fnd at hf
    by_cases hm : c ∈ l
    · rw [if_pos hm] at hf
      have e2 : i = (bef c l).length := by omega
      refine ext_tl ?_
      have e3 : bef c l = l.take (bef c l).length := List.prefix_iff_eq_take.mp (List.takeWhile_prefix _)
      show ((S l).cps.extract 0 i).toList = bef c l
      rw [Array.toList_extract, e2]
      simp
      exact e3.symm
    · rw [if_neg hm] at hf; omega
section
variable {X : Cx}
def zFind : V → List V → Hp → VK → Prop := fun x xs H Q => match x with
  | .str a => one xs fun y => (match y with
    | .str b => (match tl b with
      | [c] => Q (.int (fnd c (tl a))) H
      | _ => False)
    | _ => False)
  | _ => False
theorem mtfind : MtR X "str.find" zFind := mt_imp mt_find fun x xs H Q h => by
  cases x with
  | str a =>
    obtain ⟨y, rfl, h⟩ := one_e h
    cases y with
    | str b =>
      have h : (match tl b with
        | [c] => Q (.int (fnd c (tl a))) H
        | _ => False) := h
      split at h
      · rename_i c e
        refine ⟨a, b, rfl, rfl, ?_⟩
        have := find_one (tl a) c
        rw [S_tl, ← e, S_tl] at this
        rw [this]; exact h
      · exact h.elim
    | _ => exact h.elim
  | _ => exact h.elim
/-- of its parts the first one is told -/
def zPartition : V → List V → Hp → VK → Prop := fun x xs H Q => match x with
  | .str a => one xs fun y => (match y with
    | .str b => (match tl b with
      | [c] => Lim (tl a).length ∧ ∀ p y1 y2, H p = none → Q (.ref p) (upd H p (.tup [.str (S (bef c (tl a))), .str y1, .str y2]))
      | _ => False)
    | _ => False)
  | _ => False
theorem mtpart : MtR X "str.partition" zPartition := mt_imp mt_partition fun x xs H Q h => by
  cases x with
  | str a =>
    obtain ⟨y, rfl, h⟩ := one_e h
    cases y with
    | str b =>
      have h : (match tl b with
        | [c] => Lim (tl a).length ∧ ∀ p y1 y2, H p = none → Q (.ref p) (upd H p (.tup [.str (S (bef c (tl a))), .str y1, .str y2]))
        | _ => False) := h
      split at h
      · rename_i c e
        refine ⟨a, b, rfl, rfl, by rw [len_tl, e]; rfl, by rw [len_tl]; exact h.1, fun p hp => ?_⟩
        have := part_one (tl a) c
        rw [S_tl, ← e, S_tl] at this
        rw [this]; exact h.2 p _ _ hp
      · exact h.elim
    | _ => exact h.elim
  | _ => exact h.elim
/-- list(x) -/
def zList (K : PySem.W.Frag) : List V → Hp → VK → Prop := fun xs H Q => one xs fun x => match x with
  | .ref p => look H p fun o => (match o with
    | some (.lst ys) => ∀ l, H l = none → Q (.ref l) (upd H l (.lst ys))
    | some (.tup ys) => ∀ l, H l = none → Q (.ref l) (upd H l (.lst ys))
    | some (.frz _ (.lst ys)) => ∀ l, H l = none → Q (.ref l) (upd H l (.lst ys))
    | _ => False)
  | _ => False
theorem crlist : CallR X (.type "list") (zList X.K) := cr_imp call_list_of fun xs H Q h => by
  obtain ⟨x, rfl, h⟩ := one_e h
  cases x with
  | ref p =>
    have h := look_e h
    cases e : H p with
    | none => rw [e] at h; exact h.elim
    | some o =>
      rw [e] at h
      cases o with
      | lst ys => exact ⟨p, ys, rfl, .inl (SqL.of e), h⟩
      | tup ys => exact ⟨p, ys, rfl, .inr (SqT.of e), h⟩
      | frz ob u =>
        cases u with
        | lst ys => exact ⟨p, ys, rfl, .inl (.inl (.inr ⟨_, e⟩)), h⟩
        | _ => exact h.elim
      | _ => exact h.elim
  | _ => exact h.elim
end
end Ta

set_option Elab.async false
set_option linter.all false
set_option maxRecDepth 100000
set_option maxHeartbeats 1000000
namespace Ta
open PySem PySem.Spec PyProof.Rows L2

/-! ### methods of lists -/
section
variable {X : Cx} {o e : Expr} {es : List Expr} {to : TE} {t : TA} {name : Str} {apos cpos : Pos} {T id : String}
abbrev RM := Addr → List V → Hp → VK → Prop
def lstAt (x : V) (H : Hp) (k : Addr → List V → Prop) : Prop := match x with
  | .ref p => look H p fun ob => (match ob with
    | some (.lst xs) => k p xs
    | _ => False)
  | _ => False
theorem lstAt_e {x : V} {H : Hp} {k : Addr → List V → Prop} (h : lstAt x H k) : ∃ p xs, x = .ref p ∧ H p = some (.lst xs) ∧ k p xs := by
  cases x with
  | ref p =>
    have h := look_e h
    cases e : H p with
    | none => rw [e] at h; exact h.elim
    | some ob =>
      rw [e] at h
      cases ob with
      | lst xs => exact ⟨p, xs, rfl, e, h⟩
      | _ => exact h.elim
  | _ => exact h.elim
def tLM (r : RM) (to : TE) (t : TA) : TE := fun σ H Q => to σ H fun x H1 => lstAt x H1 fun p _ => t σ H1 fun xs H2 => r p xs H2 Q
def tLM0 (r : RM) (to : TE) : TE := fun σ H Q => to σ H fun x H1 => lstAt x H1 fun p _ => r p [] H1 Q
def rOf (r : RM) : V → List V → Hp → VK → Prop := fun x vs H Q => ∃ p, x = .ref p ∧ r p vs H Q
theorem plm {r : RM} (slot : Slot "list" name id) (hty : typeOf (.builtin id) = pure (.type "method_descriptor")) (hm : MtR X id (rOf r)) (ho : PE X o to) (ha : PA X (e :: es) t)
    (hbase : attributeBase o name X.env (eval o X.env) = eval o X.env := by rfl)
    (hfew : ((backTo cpos (starEach (e :: es) X.env)).all (fun x => !x.1) && (backToKw cpos (keywordEach [] X.env)).all (fun x => x.1.isSome)
      && decide ((e :: es).length + ([] : List Keyword).length + (if ([] : List Keyword).isEmpty then 0 else 1) < 30)) = true := by rfl)
    (hline : (apos.endLine == cpos.line) = true := by rfl) (hs : starEach (e :: es) X.env = (false, eval e X.env) :: starEach es X.env := by rfl) (hplain : (backTo cpos (starEach es X.env)).any (·.1) = false := by rfl) :
    PE X (.Call (.Attribute o name apos) (e :: es) [] cpos) (tLM r to t) := by
  refine ⟨fun pins s σ H Q I h => ?_⟩
  refine wpAny_Call_method_late hbase hfew hline rfl (thn (ho.run pins s σ H _ I h) fun v s1 ⟨x, H1, I1, r1, q0⟩ => ?_)
  obtain ⟨p, xs, rfl, hp, q1⟩ := lstAt_e q0
  obtain ⟨h1, h2⟩ := tyV_is (T := "list") I1 r1 (.inl ⟨rfl, xs, SqL.of hp⟩)
  refine ⟨"list", id, PySem.F.plainAttrs_list, slot, hty, h1, h2, ?_⟩
  have hA := ha.run cpos pins s1 σ H1 _ I1 q1
  rw [hs] at hA ⊢
  refine Calls.callWith_builtin (by show (false || (backTo cpos (starEach es X.env)).any (·.1)) = false; rw [hplain] <;> rfl) (Calls.evalArgs_plain ?_)
  exact thn hA fun us s2 ⟨vs, H2, I2, r2, q2⟩ => hm pins s2 σ H2 _ vs v us Q I2 r1 r2 ⟨p, rfl, q2⟩
theorem plm0 {r : RM} (slot : Slot "list" name id) (hty : typeOf (.builtin id) = pure (.type "method_descriptor")) (hm : MtR X id (rOf r)) (ho : PE X o to)
    (hbase : attributeBase o name X.env (eval o X.env) = eval o X.env := by rfl) (hline : (apos.endLine == cpos.line) = true := by rfl) : PE X (.Call (.Attribute o name apos) [] [] cpos) (tLM0 r to) := by
  refine ⟨fun pins s σ H Q I h => ?_⟩
  refine wpAny_Call_method0_late hbase hline (thn (ho.run pins s σ H _ I h) fun v s1 ⟨x, H1, I1, r1, q0⟩ => ?_)
  obtain ⟨p, xs, rfl, hp, q1⟩ := lstAt_e q0
  obtain ⟨h1, h2⟩ := tyV_is (T := "list") I1 r1 (.inl ⟨rfl, xs, SqL.of hp⟩)
  exact ⟨"list", id, PySem.F.plainAttrs_list, slot, hty, h1, h2, Calls.callWith_builtin rfl (PySem.evalArgs_none (hm pins s1 σ H1 _ [] v [] Q I1 r1 .nil ⟨p, rfl, q1⟩))⟩
def lkl (H : Hp) (l : Addr) (k : List V → Prop) : Prop := look H l fun ob => match ob with
  | some (.lst xs) => k xs
  | _ => False
theorem lkl_e {H : Hp} {l : Addr} {k : List V → Prop} (h : lkl H l k) : ∃ xs, H l = some (.lst xs) ∧ k xs := by
  have h := look_e h
  cases e : H l with
  | none => rw [e] at h; exact h.elim
  | some ob =>
    rw [e] at h
    cases ob with
    | lst xs => exact ⟨xs, rfl, h⟩
    | _ => exact h.elim
def zAppP : RM := fun l vs H Q => one vs fun y => lkl H l fun xs => Lim (xs.length + 1) ∧ Q .non (upd H l (.lst (xs ++ [y])))
theorem mtapp : MtR X "list.append" (rOf zAppP) := mt_imp mt_append fun x vs H Q h => by
  obtain ⟨l, rfl, h⟩ := h
  obtain ⟨y, rfl, h⟩ := one_e h
  obtain ⟨xs, hl, h1, h2⟩ := lkl_e h
  exact ⟨l, xs, y, rfl, rfl, hl, h1, h2⟩
def zExtP : RM := fun l vs H Q => one vs fun y => match y with
  | .ref b => lkl H l fun xs => lkl H b fun zs => Lim (xs.length + zs.length) ∧ Q .non (upd H l (.lst (xs ++ zs)))
  | _ => False
theorem mtext : MtR X "list.extend" (rOf zExtP) := mt_imp mt_extend fun x vs H Q h => by
  obtain ⟨l, rfl, h⟩ := h
  obtain ⟨y, rfl, h⟩ := one_e h
  cases y with
  | ref b =>
    obtain ⟨xs, hl, h⟩ := lkl_e h
    obtain ⟨zs, hb, h1, h2⟩ := lkl_e h
    exact ⟨l, b, xs, zs, rfl, rfl, hl, hb, h1, h2⟩
  | _ => exact h.elim
def zPopP : RM := fun l vs H Q => match vs with
  | [] => lkl H l fun xs => itm xs ((xs.length : Int) - 1) fun y => Q y (upd H l (.lst xs.dropLast))
  | _ => False
theorem mtpop : MtR X "list.pop" (rOf zPopP) := mt_imp mt_pop fun x vs H Q h => by
  obtain ⟨l, rfl, h⟩ := h
  cases vs with
  | nil =>
    obtain ⟨xs, hl, h⟩ := lkl_e h
    obtain ⟨y, e, q⟩ := itm_e h
    obtain ⟨j, h1, h2, h3, h4, h5⟩ := atI_get e
    refine ⟨l, xs, y, rfl, rfl, hl, ?_, q⟩
    have : seqIndex? ((xs.length : Int) - 1) xs.length = some (xs.length - 1) := by
      have e : ((xs.length : Int) - 1) = ((xs.length - 1 : Nat) : Int) := by omega
      rw [e, PySem.StrLaws.seqIndex_nonneg (by omega) (by omega)]
      simp
    rw [this] at h1
    cases h1
    exact h2
  | cons a b => exact h.elim
def zPopAtP : RM := fun l vs H Q => one vs fun y => match y with
  | .int i => lkl H l fun xs => ∃ j, ixN xs.length i = some j ∧ Lim xs.length ∧ itm xs i fun y => Q y (upd H l (.lst (xs.eraseIdx j)))
  | _ => False
theorem mtpopat : MtR X "list.pop" (rOf zPopAtP) := mt_imp mt_popAt fun x vs H Q h => by
  obtain ⟨l, rfl, h⟩ := h
  obtain ⟨y, rfl, h⟩ := one_e h
  cases y with
  | int i =>
    obtain ⟨xs, hl, j, hj, hlim, h⟩ := lkl_e h
    obtain ⟨y, e, q⟩ := itm_e h
    obtain ⟨j', h1, h2, h3, h4, h5⟩ := atI_get e
    obtain ⟨h6, h7, h8, h9⟩ := ixN_seq hj
    rw [h6] at h1
    cases h1
    have hn := line63
    have hlim : xs.length ≤ sizeLine := hlim
    exact ⟨l, xs, i, j, y, rfl, rfl, hl, by omega, by omega, h6, h2, q⟩
  | _ => exact h.elim
def zRevP : RM := fun l vs H Q => match vs with
  | [] => lkl H l fun xs => Q .non (upd H l (.lst xs.reverse))
  | _ => False
theorem mtrev : MtR X "list.reverse" (rOf zRevP) := mt_imp mt_reverse fun x vs H Q h => by
  obtain ⟨l, rfl, h⟩ := h
  cases vs with
  | nil =>
    obtain ⟨xs, hl, h⟩ := lkl_e h
    exact ⟨l, xs, rfl, rfl, hl, h⟩
  | cons a b => exact h.elim
def zInsP : RM := fun l vs H Q => two vs fun x y => match x with
  | .int i => lkl H l fun xs => Lim (xs.length + 1) ∧ (0 ≤ i ∧ i < 1073741824) ∧ Q .non (upd H l (.lst (xs.take i.toNat ++ [y] ++ xs.drop i.toNat)))
  | _ => False
theorem mtins : MtR X "list.insert" (rOf zInsP) := mt_imp mt_insert fun x vs H Q h => by
  obtain ⟨l, rfl, h⟩ := h
  obtain ⟨x, y, rfl, h⟩ := two_e h
  cases x with
  | int i =>
    obtain ⟨xs, hl, h1, ⟨h2, h3⟩, q⟩ := lkl_e h
    exact ⟨l, xs, i, y, rfl, rfl, hl, h1, h2, by omega, q⟩
  | _ => exact h.elim
end
end Ta

set_option Elab.async false
set_option linter.all false
set_option maxRecDepth 100000
set_option maxHeartbeats 1000000
namespace Ta
open PySem PySem.Spec PyProof.Rows L2

theorem iteT {p q : Prop} (h : p) : if true = true then p else q := by rw [if_pos rfl]; exact h
theorem q_bl {Q : VK} {b c : Bool} {H : Hp} (e : b = c) (q : Q (.bl c) H) : Q (.bl b) H := by rw [e]; exact q
theorem q_v {Q : VK} {b c : V} {H : Hp} (e : b = c) (q : Q c H) : Q b H := by rw [e]; exact q
theorem q_H {Q : VK} {v : V} {H H' : Hp} (e : H = H') (q : Q v H') : Q v H := by rw [e]; exact q
theorem q_vH {Q : VK} {b c : V} {H H' : Hp} (e' : b = c) (e : H = H') (q : Q c H') : Q b H := by rw [e, e']; exact q
theorem Kp.get2 {p r : Addr} {H H' : Hp} {q : Addr} {o : HO} (a : Kp [p, r] H H') (h : H q = some o) (n : q ≠ p) (n2 : q ≠ r) : H' q = some o := a q o h fun z => by
  rcases List.mem_cons.mp z with z | z
  · exact n z
  · exact n2 (List.mem_singleton.mp z)
theorem ne_ho {H : Hp} {p q : Addr} {o o' : HO} (h : H p = some o) (h' : H q = some o') (n : o ≠ o') : p ≠ q := fun e => by
  subst e; rw [h] at h'; exact n (Option.some.inj h')
theorem cut_map {α β : Type} (f : α → β) (xs : List α) (lo hi : Option Int) : cut (xs.map f) lo hi = (cut xs lo hi).map f := by
  rw [← cut_eq0, ← cut_eq0]; unfold cut0; rw [List.length_map, ← List.map_drop, ← List.map_take]
theorem cut_one {α : Type} (xs : List α) (c : Nat) : cut xs (some (c : Int)) (some ((c : Int) + 1)) = (xs.drop c).take 1 := by
  have e : ((c : Int) + 1) = ((c + 1 : Nat) : Int) := by omega
  rw [e, cut_both, List.drop_take]
  congr 1; omega
theorem cut_fr1 {α : Type} (xs : List α) (c : Nat) : cut xs (some ((c : Int) + 1)) none = xs.drop (c + 1) := by
  have e : ((c : Int) + 1) = ((c + 1 : Nat) : Int) := by omega
  rw [e, cut_from]
theorem cut_t1 {α : Type} (xs : List α) : cut xs none (some (1 : Int)) = xs.take 1 := cut_to xs 1
/-- [e for x in xs], e pure -/
theorem lcp_M {n : Nat} {it : Itm} {st : Hp → Prop} {xs : List V} {i : Nat} {te : TE} {σ : St} {H1 : Hp} {Q : VK} {vs : List Nat} (hn : n = xs.length) (hit : ∀ k H x H', it k H x H' → H' = H ∧ xs[k]? = some x) (hst : ∀ D xs, H1 D = none → st (upd H1 D (.lst xs)))
    (f : V → V) (hl : xs.length < 1000000) (he : ∀ x D H' Q', H1 D = none → x ∈ xs → (∃ ys, H' = upd H1 D (.lst ys)) → Q' (f x) H' → te ((wipe σ vs).set i (some x)) H' Q')
    (hw : ∀ v, wipe ((wipe σ vs).set i v) vs = wipe σ vs) (q : ∀ D, H1 D = none → Q (.ref D) (upd H1 D (.lst (xs.map f)))) : lcp n it st (gName i) tYes te vs σ H1 Q := by
  subst hn
  refine lcp_i (fun D k H => H = upd H1 D (.lst ((xs.take k).map f))) (fun D hD => rfl) (fun D k H hD _ e => by rw [e]; exact hst D _ hD) ?_ ?_
  · rintro D k x H H' hD hk rfl hi
    obtain ⟨rfl, hc⟩ := hit _ _ _ _ hi
    refine ⟨hw _, ?_⟩
    unfold tYes; dsimp only
    rw [if_pos rfl]
    refine he x D _ _ hD (List.mem_of_getElem? hc) ⟨_, rfl⟩ ⟨_, upd_at, ?_, ?_⟩
    · rw [List.length_map, List.length_take, sizeLine_eq]; omega
    · rw [upd_tw, List.take_succ, hc]
      simp
  · rintro D H hD rfl
    rw [List.take_length]
    exact q D hD
/-- .. over a list that stands -/
theorem lcp_ML {xs : List V} {p : Addr} {i : Nat} {te : TE} {σ : St} {H1 : Hp} {Q : VK} {vs : List Nat} (hp : H1 p = some (.lst xs))
    (f : V → V) (hl : xs.length < 1000000) (he : ∀ x D H' Q', H1 D = none → x ∈ xs → (∃ ys, H' = upd H1 D (.lst ys)) → Q' (f x) H' → te ((wipe σ vs).set i (some x)) H' Q')
    (hw : ∀ v, wipe ((wipe σ vs).set i v) vs = wipe σ vs) (q : ∀ D, H1 D = none → Q (.ref D) (upd H1 D (.lst (xs.map f)))) : lcp xs.length (itL xs) (fun H' => H' p = some (.lst xs)) (gName i) tYes te vs σ H1 Q :=
  lcp_M rfl (fun k H x H' h => h) (fun D ys hD => upd_fr hD hp) f hl he hw q
/-- .. of a box that is drawn from: after k turns the box b(k) and the items -/
theorem lcp_B {n : Nat} {it : Itm} {st : Hp → Prop} {i : Nat} {te : TE} {σ : St} {H1 : Hp} {Q : VK} {vs : List Nat} (p : Addr) (hp : ∃ o, H1 p = some o) (Bx : HO → Prop) (P : V → Prop) (hb : ∀ o, H1 p = some o → Bx o) (hn : n < 1000000)
    (hit : ∀ k H x H', k < n → it k H x H' → H' = H) (hst : ∀ D xs o, H1 D = none → st (upd (upd H1 p o) D (.lst xs)))
    (he : ∀ k x D o ys Q', k < n → H1 D = none → D ≠ p → it k (upd (upd H1 p o) D (.lst ys)) x (upd (upd H1 p o) D (.lst ys)) → Bx o → (∀ v o', P v → Bx o' → Q' v (upd (upd (upd H1 p o) D (.lst ys)) p o')) → te ((wipe σ vs).set i (some x)) (upd (upd H1 p o) D (.lst ys)) Q')
    (hw : ∀ v, wipe ((wipe σ vs).set i v) vs = wipe σ vs) (q : ∀ D xs o, H1 D = none → D ≠ p → xs.length = n → (∀ v ∈ xs, P v) → Bx o → Q (.ref D) (upd (upd H1 p o) D (.lst xs))) : lcp n it st (gName i) tYes te vs σ H1 Q := by
  obtain ⟨o0, hp⟩ := hp
  refine lcp_i (fun D k H => ∃ xs o, xs.length = k ∧ (∀ v ∈ xs, P v) ∧ Bx o ∧ H = upd (upd H1 p o) D (.lst xs)) (fun D hD => ⟨[], o0, rfl, (fun _ z => nomatch z), hb _ hp, by rw [upd_self hp]⟩) (fun D k H hD _ e => by obtain ⟨xs, o, _, _, _, rfl⟩ := e; exact hst D _ _ hD) ?_ ?_
  · rintro D k x H H' hD hk ⟨xs, o, hl, hP, hB, rfl⟩ hi
    have e := hit _ _ _ _ hk hi
    subst e
    have hne : D ≠ p := fun e => by rw [e, hp] at hD; cases hD
    refine ⟨hw _, ?_⟩
    unfold tYes; dsimp only
    rw [if_pos rfl]
    refine he k x D o xs _ hk hD hne hi hB fun v o' hv hB' => ⟨xs, ?_, ?_, xs ++ [v], o', ?_, ?_, hB', ?_⟩
    · rw [upd_ne hne]; exact upd_at
    · rw [hl, sizeLine_eq]; omega
    · rw [List.length_append, hl]; rfl
    · intro w hw
      rcases List.mem_append.mp hw with h | h
      · exact hP w h
      · rw [List.mem_singleton.mp h]; exact hv
    · funext c
      unfold upd
      by_cases h1 : c = D
      · simp [h1, hne]
      · by_cases h2 : c = p
        · simp [h1, h2]
        · simp [h1, h2]
  · rintro D H hD ⟨xs, o, hl, hP, hB, rfl⟩
    have hne : D ≠ p := fun e => by rw [e, hp] at hD; cases hD
    exact q D xs o hD hne hl hP hB
theorem inV_str (a : Str) (l : List Str) : inV (.str a) (l.map V.str) = decide (a ∈ l) := by
  unfold inV
  induction l with
  | nil => rfl
  | cons b l ih =>
    rw [List.map_cons, List.any_cons, ih]
    show ((b == a) || decide (a ∈ l)) = _
    by_cases h : b = a
    · subst h; simp
    · have h2 : ¬ a = b := fun e => h e.symm
      simp [h, h2]
theorem inV2 (a b c : List Nat) : inV (.str (S a)) [.str (S b), .str (S c)] = (decide (a = b) || decide (a = c)) := by
  show inV (.str (S a)) ([S b, S c].map V.str) = _
  rw [inV_str]
  have e : ∀ x y : List Nat, (S x = S y) ↔ x = y := fun x y => ⟨fun h => congrArg tl h, fun h => by rw [h]⟩
  rw [← Bool.decide_or, decide_eq_decide]
  simp [e]
theorem loop_r {n : Nat} {lo : Int} {g : Nat} {tb : TS} {D : Ends} {σ : St} {H : Hp} (Pv : Nat → St → Hp → Prop) (h0 : Pv 0 σ H)
    (hs : ∀ i σ H, i < n → Pv i σ H → tb { D with nx := Pv (i + 1), ct := Pv (i + 1), bk := D.nx } (σ.set g (some (.int (lo + i)))) H) (hd : ∀ σ H, Pv n σ H → D.nx σ H) : loop n (itR lo) (fun _ => True) (gName g) tb D σ H := by
  refine loop_i Pv h0 (fun _ _ _ _ _ => trivial) ?_ hd
  rintro i x σ H H' hi hP ⟨rfl, rfl⟩
  exact hs i σ H' hi hP
theorem loop_s {l : List Nat} {g : Nat} {tb : TS} {D : Ends} {σ : St} {H : Hp} (Pv : Nat → St → Hp → Prop) (h0 : Pv 0 σ H)
    (hs : ∀ i (hi : i < l.length) σ H, Pv i σ H → tb { D with nx := Pv (i + 1), ct := Pv (i + 1), bk := D.nx } (σ.set g (some (.str (S [l[i]])))) H) (hd : ∀ σ H, Pv l.length σ H → D.nx σ H) : loop l.length (itS l) (fun _ => True) (gName g) tb D σ H := by
  refine loop_i Pv h0 (fun _ _ _ _ _ => trivial) ?_ hd
  rintro i x σ H H' hi hP ⟨rfl, c, hc, rfl⟩
  have e : c = l[i] := by rw [List.getElem?_eq_getElem hi] at hc; exact (Option.some.inj hc).symm
  subst e
  exact hs i hi σ H' hP
end Ta

set_option Elab.async false
set_option linter.all false
set_option maxRecDepth 100000
set_option maxHeartbeats 1000000
namespace Ta
open PySem PySem.Spec PyProof.Rows L2

/-- [e for x in cells], e a whole number by x -/
theorem lcp_I {cs : List Int} {p : Addr} {i : Nat} {te : TE} {σ : St} {H1 : Hp} {Q : VK} {vs : List Nat} (hp : H1 p = some (.lst (cs.map V.int)))
    (g : Int → Int) (hl : cs.length < 1000000) (he : ∀ c D H' Q', H1 D = none → c ∈ cs → (∃ ys, H' = upd H1 D (.lst ys)) → Q' (.int (g c)) H' → te ((wipe σ vs).set i (some (.int c))) H' Q')
    (hw : ∀ v, wipe ((wipe σ vs).set i v) vs = wipe σ vs) (q : ∀ D, H1 D = none → Q (.ref D) (upd H1 D (.lst ((cs.map g).map V.int)))) : lcp (cs.map V.int).length (itL (cs.map V.int)) (fun H' => H' p = some (.lst (cs.map V.int))) (gName i) tYes te vs σ H1 Q := by
  refine lcp_ML hp (fun v => match v with
    | .int c => .int (g c)
    | v => v) (by rw [List.length_map]; exact hl) ?_ hw ?_
  · rintro x D H' Q' hD hx hH hQ
    obtain ⟨c, hc, rfl⟩ := List.mem_map.mp hx
    exact he c D H' Q' hD hc hH hQ
  · intro D hD
    have e : (cs.map V.int).map (fun v => match v with
      | .int c => V.int (g c)
      | v => v) = (cs.map g).map V.int := by rw [List.map_map, List.map_map]; rfl
    rw [e]
    exact q D hD
/-- for x in a list that stands -/
theorem loop_l {xs : List V} {p : Addr} {g : Nat} {tb : TS} {D : Ends} {σ : St} {H : Hp} (Pv : Nat → St → Hp → Prop) (h0 : Pv 0 σ H) (hst : ∀ i σ H, i ≤ xs.length → Pv i σ H → H p = some (.lst xs))
    (hs : ∀ i (hi : i < xs.length) σ H, Pv i σ H → tb { D with nx := Pv (i + 1), ct := Pv (i + 1), bk := D.nx } (σ.set g (some xs[i])) H) (hd : ∀ σ H, Pv xs.length σ H → D.nx σ H) :
    loop xs.length (itL xs) (fun H' => H' p = some (.lst xs)) (gName g) tb D σ H := by
  refine loop_i Pv h0 hst ?_ hd
  rintro i x σ H H' hi hP ⟨rfl, hx⟩
  rw [List.getElem?_eq_getElem hi] at hx
  cases hx
  exact hs i hi σ H' hP
theorem Kp.fr {F : List Addr} {H H1 H2 : Hp} (a : Kp [] H H1) (b : Kp F H1 H2) (hF : ∀ z ∈ F, H z = Option.none) : Kp [] H H2 := fun z u hz _ => b z u (a z u hz (fun h => nomatch h)) (fun hm => by rw [hF z hm] at hz; cases hz)
theorem Kp.fu {H H1 : Hp} {p : Addr} {o : HO} (a : Kp [] H H1) (hp : H p = Option.none) : Kp [] H (upd H1 p o) := Kp.own a hp
theorem Kp.get3 {p r t : Addr} {H H' : Hp} {q : Addr} {o : HO} (a : Kp [p, r, t] H H') (h : H q = some o) (n : q ≠ p) (n2 : q ≠ r) (n3 : q ≠ t) : H' q = some o := a q o h (by simp [n, n2, n3])
theorem ne_x {H : Hp} {p q : Addr} (hp : H p = none) (h : ∃ o, H q = some o) : p ≠ q := by
  obtain ⟨o, h⟩ := h
  exact ne_none' h hp
theorem ne_y {H : Hp} {p q : Addr} (hp : H p = none) (h : ∃ o, H q = some o) : q ≠ p := (ne_x hp h).symm
theorem itm_z0 {α : Type} {x : α} {xs : List α} {i : Int} {k : α → Prop} (e : i = 0) (q : k x) : itm (x :: xs) i k := itm_n (j := 0) e rfl q
theorem itm_z1 {α : Type} {x y : α} {xs : List α} {i : Int} {k : α → Prop} (e : i = 1) (q : k y) : itm (x :: y :: xs) i k := itm_n (j := 1) e rfl q
theorem itm_2 {α : Type} {x y : α} {i : Int} {k : α → Prop} (h0 : 0 ≤ i) (h1 : i < 2) (q0 : i = 0 → k x) (q1 : i = 1 → k y) : itm [x, y] i k := by
  have : i = 0 ∨ i = 1 := by omega
  rcases this with e | e
  · exact itm_z0 e (q0 e)
  · exact itm_z1 e (q1 e)
theorem itm_3 {α : Type} {x y z : α} {i : Int} {k : α → Prop} (h0 : 0 ≤ i) (h1 : i < 3) (q0 : i = 0 → k x) (q1 : i = 1 → k y) (q2 : i = 2 → k z) : itm [x, y, z] i k := by
  have : i = 0 ∨ i = 1 ∨ i = 2 := by omega
  rcases this with e | e | e
  · exact itm_z0 e (q0 e)
  · exact itm_z1 e (q1 e)
  · exact itm_n (j := 2) e rfl (q2 e)
theorem loop_r2 {lo : Int} {g : Nat} {tb : TS} {D : Ends} {σ : St} {H : Hp}
    (h : tb { D with nx := fun σ' H' => tb { D with nx := D.nx, ct := D.nx, bk := D.nx } (σ'.set g (some (.int (lo + 1)))) H', ct := fun σ' H' => tb { D with nx := D.nx, ct := D.nx, bk := D.nx } (σ'.set g (some (.int (lo + 1)))) H', bk := D.nx } (σ.set g (some (.int lo))) H) :
    loop 2 (itR lo) (fun _ => True) (gName g) tb D σ H := by
  refine loop_r (fun i σ' H' => match i with
    | 0 => σ' = σ ∧ H' = H
    | 1 => tb { D with nx := D.nx, ct := D.nx, bk := D.nx } (σ'.set g (some (.int (lo + 1)))) H'
    | _ => D.nx σ' H') ⟨rfl, rfl⟩ ?_ ?_
  · rintro i σ' H' hi hP
    match i, hi, hP with
    | 0, _, hP =>
      obtain ⟨rfl, rfl⟩ := hP
      have e : lo + ((0 : Nat) : Int) = lo := by omega
      rw [e]
      exact h
    | 1, _, hP => exact hP
  · exact fun σ' H' h => h
theorem itm_0 {α : Type} {x : α} {xs : List α} {k : α → Prop} (q : k x) : itm (x :: xs) 0 k := itm_n (j := 0) rfl rfl q
theorem itm_1 {α : Type} {x y : α} {xs : List α} {k : α → Prop} (q : k y) : itm (x :: y :: xs) 1 k := itm_n (j := 1) rfl rfl q
end Ta

set_option Elab.async false
set_option linter.all false
set_option maxRecDepth 100000
set_option maxHeartbeats 1000000
namespace Ta
open PySem PySem.Spec PyProof.Rows L2

section
variable {X : Cx}
/-! ### list(x), x a text too -/
def zListX (K : PySem.W.Frag) : List V → Hp → VK → Prop := fun xs H Q => one xs fun x => match x with
  | .str z => (tl z).length ≤ 1000000 ∧ ∀ l, H l = none → Q (.ref l) (upd H l (.lst (sgn (tl z))))
  | .ref p => look H p fun o => (match o with
    | some (.lst ys) => ∀ l, H l = none → Q (.ref l) (upd H l (.lst ys))
    | some (.tup ys) => ∀ l, H l = none → Q (.ref l) (upd H l (.lst ys))
    | some (.frz _ (.lst ys)) => ∀ l, H l = none → Q (.ref l) (upd H l (.lst ys))
    | _ => False)
  | _ => False
theorem crlistX (hcalm : X.calm = true) : CallR X (.type "list") (zListX X.K) := by
  intro pins s σ H xs us Q I r q
  obtain ⟨x, rfl, q1⟩ := one_e q
  cases x with
  | str z =>
    obtain ⟨h1, q1⟩ := q1
    obtain ⟨u, eu, rx⟩ := vals1 r
    subst eu
    obtain ⟨t, rfl⟩ := rx
    have hsz : z.cps.size = (tl z).length := by simp [tl]
    refine PySem.call_list_str (I.ok.hd hcalm) z t (fun h' tk acc' c' hk hS hacc => ?_) (by rw [hsz, sizeLine_eq]; omega)
    have hal : acc'.toList.length = (one1 (tl z)).length := by rw [Array.length_toList, hacc.1, hsz]; simp [one1]
    have hSt : StrsAre acc'.toList (one1 (tl z)) := L2.strs_at hal fun j v e => by
      obtain ⟨c, u, e1, e2⟩ := hacc.2 j v (by rw [← Array.getElem?_toList]; exact e)
      exact ⟨S [c], u, by simp [one1, tl, e1], e2⟩
    have ev : (one1 (tl z)).map V.str = sgn (tl z) := by unfold sgn one1; rw [List.map_map]; rfl
    have hlen : (sgn (tl z)).length ≤ sizeLine := by unfold sgn; rw [List.length_map, sizeLine_eq]; omega
    exact ⟨.ref s.heap.objs.size, _, I.laid (t' := tk) hk (Nat.le_refl _) (show ObjOk X.prog X.w _ h' _ (.lst (sgn (tl z))) from ⟨hlen, acc'.toList, c', by rw [← ev]; exact vals_of_strs hSt, hS⟩), rfl, q1 _ (I.hok.fresh (Nat.le_refl _))⟩
  | ref p => exact crlist pins s σ H [.ref p] us Q I r q
  | _ => exact False.elim q1
/-! ### list(range(n)) -/
variable {a b : Expr} {ta tb : TE}
abbrev TRg := St → Hp → (Int → Int → Hp → Prop) → Prop
def tRa (ta : TE) : TRg := fun σ H Q => ta σ H fun x H1 => match x with
  | .int n => Q 0 n H1
  | _ => False
def tRb (ta tb : TE) : TRg := fun σ H Q => ta σ H fun x H1 => tb σ H1 fun y H2 => match x with
  | .int n => (match y with
    | .int m => Q n m H2
    | _ => False)
  | _ => False
theorem prga {p pos : Pos} (hm : X.mg "range" = none) (ha : PE X a ta) (hg : Gl X "range" := by rfl) (na : starEach [a] X.env = (false, eval a X.env) :: starEach [] X.env := by rfl) : PRg X (.Call (.Name "range" p) [a] [] pos) (tRa ta) := by
  intro pins s σ H Q I h
  refine Call_ (ld_blt I hg hm boot_range (PyProof.Rows.callWith_type1 (one_arg ha I h (fun v s2 x H2 I2 r q => ?_) na) na))
  cases x with
  | int n =>
    obtain ⟨t, rfl⟩ := r
    exact call_range_1 ⟨_, 0, n, _, _, _, H2, rfl, IsRange.new _ _ _ _ _ _ _, I2.kept fun b u e => Heap.get?_push_of_some _ e, q⟩
  | _ => exact False.elim q
theorem prgb {p pos : Pos} (hm : X.mg "range" = none) (ha : PE X a ta) (hb : PE X b tb) (hg : Gl X "range" := by rfl) (na : starEach [a, b] X.env = (false, eval a X.env) :: starEach [b] X.env := by rfl)
    (nb : starEach [b] X.env = (false, eval b X.env) :: starEach [] X.env := by rfl) (hp : ∀ pos, (backTo pos (starEach [b] X.env)).any (·.1) = false := by exact fun _ => rfl) : PRg X (.Call (.Name "range" p) [a, b] [] pos) (tRb ta tb) := by
  intro pins s σ H Q I h
  refine Call_ (ld_blt I hg hm boot_range (PyProof.Rows.callWith_type1 (args_cons (thn (ha.run pins s σ H _ I h) fun v s1 ⟨x, H1, I1, r1, q1⟩ => one_arg hb I1 q1 (fun u s2 y H2 I2 r2 q => ?_) nb) na) na (hp _)))
  cases x with
  | int i =>
    cases y with
    | int j =>
      obtain ⟨t, rfl⟩ := r1
      obtain ⟨t', rfl⟩ := r2
      exact call_range_2 ⟨_, i, j, _, _, _, H2, rfl, IsRange.new _ _ _ _ _ _ _, I2.kept fun b u e => Heap.get?_push_of_some _ e, q⟩
    | _ => exact False.elim q
  | _ => exact False.elim q
theorem plrg {e : Expr} {te : TRg} {p pos : Pos} (hc : X.calm = true) (hm : X.mg "list" = none) (he : PRg X e te) (hg : Gl X "list" := by rfl) (na : starEach [e] X.env = (false, eval e X.env) :: starEach [] X.env := by rfl) : PE X (.Call (.Name "list" p) [e] [] pos) (tLstRg te) := pe_listRg hc hg hm he na
theorem rg_ok {a b : Int} (h0 : 0 ≤ a) (h1 : b ≤ 1000000) (h2 : a ≤ 1000000) (h3 : 0 ≤ b) : RgOk a b := RgOk.of_le h0 (by omega) (by omega) h3
end
end Ta

set_option Elab.async false
set_option linter.all false
set_option maxRecDepth 100000
set_option maxHeartbeats 1000000
namespace Ta
open PySem PySem.Spec PyProof.Rows L2

section
variable {X : Cx}
/-! ### match e: texts, then anything -/
abbrev TM := V → TS
structure PMs (X : Cx) (cs : List MatchCase) (t : TM) : Prop where
  run : ∀ (first : Bool) (pins : List (Addr × Obj)) (s : Shared) (σ : St) (H : Hp) (D : Ends) (x : V) (v : Value), Inv X pins σ H s → RelV x v → t x D σ H → wpAny (model X.prog X.w) X.A (matchCases cs X.env v first) (SP X pins D) X.xe s
def mWild (t : TS) : TM := fun _ => t
def mVal (l : List Nat) (t : TS) (r : TM) : TM := fun x D σ H => match x with
  | .str a => cnd (decide (tl a = l)) (t D σ H) (r x D σ H)
  | _ => False
def tMat (te : TE) (tm : TM) : TS := fun D σ H => te σ H fun x H1 => tm x D σ H1
variable {body : List Stmt} {t : TS} {r tm : TM} {rest cs : List MatchCase} {p1 p2 pos : Pos} {e : Expr} {te : TE}
theorem pms_wild (h : PSs X body t) : PMs X [⟨.MatchAs none none p1, none, body⟩] (mWild t) := by
  refine ⟨fun first pins s σ H D x v I rx q => ?_⟩
  unfold matchCases
  refine wpAny_bind (wpAny_holding ?_)
  unfold matchPattern
  refine wpAny_pure ?_
  refine wpAny_bind (wpAny_holding ?_)
  refine wpAny_pure ?_
  exact h.run pins s σ H D I q
theorem pms_val (l : List Nat) {y : Str} {j : Nat} (hb : PSs X body t) (hr : PMs X rest r) (hy : y = S l := by decide +kernel) : PMs X (⟨.MatchValue (.Constant (.str y) j p1) p2, none, body⟩ :: rest) (mVal l t r) := by
  subst hy
  refine ⟨fun first pins s σ H D x v I rx q => ?_⟩
  cases x with
  | str a =>
    unfold matchCases
    refine wpAny_bind (wpAny_holding ?_)
    unfold matchPattern
    refine wpAny_bind (thn ((pe_str (X := X) (x := S l) (j := j) (pos := p1)).run pins s σ H (fun z H' => z = .str (S l) ∧ H' = H) I ⟨rfl, rfl⟩) fun u s1 hu => ?_)
    obtain ⟨z, H1, I1, rz, e1, e2⟩ := hu
    subst e1
    subst e2
    refine wpAny_bind (wpAny_standAt ?_)
    have hs : rEq (.str a) (.str (S l)) H1 fun z H' => z = .bl (decide (tl a = l)) ∧ H' = H1 := by
      refine ⟨rfl, ?_, rfl⟩
      have : decide (V.str a = V.str (S l)) = decide (tl a = l) := decide_eq_decide.mpr ⟨fun z => by injection z with z; rw [z], fun z => by rw [← z, S_tl]⟩
      rw [this]
    refine wpAny_bind (thn (op_eq pins s1 σ H1 (.str a) (.str (S l)) v u _ I1 rx rz hs) fun c s2 hc => ?_)
    obtain ⟨z2, H2, I2, rz2, e3, e4⟩ := hc
    subst e3
    subst e4
    cases rz2
    refine wpAny_bind (wpAny_truthy_bool ?_)
    have q := cnd_e q
    by_cases hk : tl a = l
    · rw [decide_eq_true hk] at q ⊢
      refine wpAny_pure ?_
      refine wpAny_bind (wpAny_holding ?_)
      refine wpAny_pure ?_
      exact hb.run pins s2 σ H2 D I2 q
    · rw [decide_eq_false hk] at q ⊢
      refine wpAny_pure ?_
      exact hr.run false pins s2 σ H2 D (.str a) v I2 rx q
  | _ => exact False.elim q
theorem psmat (he : PE X e te) (h : PMs X cs tm) : PS X (.Match e cs pos) (tMat te tm) := by
  refine ⟨fun pins s σ H D I q => ?_⟩
  show wpAny _ _ (standAt pos >>= fun _ => eval e X.env >>= fun v => matchCases cs X.env v true) _ _ _
  refine wpAny_bind (wpAny_standAt ?_)
  refine wpAny_bind (thn (he.run pins s σ H _ I q) fun v s1 hv => ?_)
  obtain ⟨x, H1, I1, rx, q1⟩ := hv
  exact h.run true pins s1 σ H1 D x v I1 rx q1
end
end Ta

set_option Elab.async false
set_option linter.all false
set_option maxRecDepth 100000
set_option maxHeartbeats 3200000
namespace Ta
open PySem PySem.Spec PyProof.Rows L2

/-! ### sets of texts whose table rises -/
def txOf (z : Int × Value) : Str := match z.2 with | .str y _ => y | _ => Str.empty
def GoodT (P : Program) (w : World) (z : Int × Value) : Prop := ∃ y u, z.2 = Value.str y u ∧ z.1 = (strKind P w).hash y
/-- the set of texts at p: T its members, m their number -/
def SetT (P : Program) (w : World) (hp : Heap) (p : Addr) (T : Str → Bool) (m : Nat) : Prop :=
  ∃ ob xs n tb, hp.get? p = some ob ∧ ob.ExactSet ∧ ob.data = .set xs n tb ∧ ((∀ z ∈ xs.toList, GoodT P w z) ∧ (xs.toList.map txOf).Nodup ∧ ∀ y, T y = true ↔ y ∈ xs.toList.map txOf) ∧
    (xs.size < scanBound ∧ tb.fits xs.size = true ∧ xs.size = m) ∧ Ris tb.place.toList ∧ (w.params.followText "set-order" = true ∨ tb.led = true)
section
variable {P : Program} {w : World} {hp hp' : Heap} {p : Addr} {T : Str → Bool} {m : Nat}
theorem goodT_el {l : List (Int × Value)} (g : ∀ z ∈ l, GoodT P w z) : ElemsOf (strKind P w) l := fun z hz => by
  obtain ⟨y, u, e1, e2⟩ := g z hz
  exact ⟨⟨y, by rw [e1]; exact strKind_is P w y u, e2⟩, by rw [e1] <;> rfl⟩
theorem goodT_is {z : Int × Value} (g : GoodT P w z) (y : Str) : (strKind P w).is y z.2 = true ↔ txOf z = y := by
  obtain ⟨x, u, e1, _⟩ := g
  unfold txOf
  rw [e1]
  show ((x == y) = true) ↔ x = y
  exact beq_iff_eq
theorem goodT_mem {l : List (Int × Value)} (g : ∀ z ∈ l, GoodT P w z) (y : Str) : y ∈ l.map txOf ↔ ∃ z ∈ l, (strKind P w).is y z.2 = true := by
  rw [List.mem_map]
  exact ⟨fun ⟨z, hz, q⟩ => ⟨z, hz, (goodT_is (g z hz) y).2 q⟩, fun ⟨z, hz, q⟩ => ⟨z, hz, (goodT_is (g z hz) y).1 q⟩⟩
theorem SetT.kept (R : SetT P w hp p T m) (k : ∀ ob, hp.get? p = some ob → hp'.get? p = some ob) : SetT P w hp' p T m := by
  obtain ⟨ob, xs, n, tb, h1, r⟩ := R
  exact ⟨ob, xs, n, tb, k ob h1, r⟩
theorem SetT.same {T' : Str → Bool} {m' : Nat} (R : SetT P w hp p T m) (e : ∀ y, T' y = T y) (em : m = m') : SetT P w hp p T' m' := by
  have : T' = T := funext e
  rw [this, ← em]; exact R
end
section
variable {P : Program} {w : World} {A : Around} {E : Value → Shared → Prop} {s : Shared} {p : Addr} {T : Str → Bool} {m : Nat}
theorem setT_tail {g : Bool → Sem Unit} (hg : ∀ (b : Bool) (s1 : Shared) (Q1 : Unit → Shared → Prop), Q1 () s1 → wpAny (model P w) A (g b) Q1 E s1)
    {ob : Obj} {xs ys : Array (Int × Value)} {n : Nat} {tb tc : SetTable} (h1 : s.heap.get? p = some ob) (h2 : ob.ExactSet) (h3 : ob.data = .set xs n tb)
    {U : Str → Bool} (gd : (∀ z ∈ ys.toList, GoodT P w z) ∧ (ys.toList.map txOf).Nodup ∧ ∀ y, U y = true ↔ y ∈ ys.toList.map txOf) (sz : ys.size < scanBound) (ft : tc.fits ys.size = true) (ri : Ris tc.place.toList)
    (ld : w.params.followText "set-order" = true ∨ tc.led = true) {dum : Bool} {R : Option Bool → Shared → Prop} (hR : ∀ h', Heap.SameBut p s.heap h' → SetT P w h' p U ys.size → R (some true) { s with heap := h' }) :
    wpAny (model P w) A (do
        storeSet p ys tc
        if (!dum && tc.tooFull) = true then do
            g (relayAll tc ys (SetTable.grown ys.size)).2.2
            storeSet p (relayAll tc ys (SetTable.grown ys.size)).1 (relayAll tc ys (SetTable.grown ys.size)).2.1
            pure (some true)
          else pure (some true)) R E s := by
  obtain ⟨gd1, gd2, gd3⟩ := gd
  refine wpAny_bind (wpAny_storeSet_of h1 h3 ?_ (fits_of_scanBound sz))
  have k1 := store_at (es' := ys) (t' := tc) h1 h3
  have b1 := Heap.SameBut.update s.heap p (Obj.putSet ys tc)
  split
  · have v1 := relayAll_perm tc ys (SetTable.grown ys.size)
    have v2 := relayAll_fits tc ys (SetTable.grown ys.size)
    have v3 := relayAll_ris tc ys (SetTable.grown ys.size)
    have v4 := relayAll_led tc ys (SetTable.grown ys.size)
    generalize relayAll tc ys (SetTable.grown ys.size) = Y at v1 v2 v3 v4 ⊢
    obtain ⟨zs, td, gave⟩ := Y
    dsimp only at v1 v2 v3 v4 ⊢
    have sz2 : zs.size = ys.size := by rw [← Array.length_toList, v1.length_eq, Array.length_toList]
    have sz3 : zs.size < scanBound := by rw [sz2]; exact sz
    refine wpAny_bind (hg _ _ _ ?_)
    refine wpAny_bind (wpAny_storeSet_of k1 rfl ?_ (fits_of_scanBound sz3))
    have k2 := store_at (es' := zs) (t' := td) k1 rfl
    refine wpAny_pure (hR _ (b1.trans (Heap.SameBut.update _ p _)) ⟨_, zs, _, td, k2, h2, rfl, ⟨fun z hz => gd1 z (v1.mem_iff.mp hz), (v1.map txOf).nodup_iff.mpr gd2, fun y => (gd3 y).trans (v1.map txOf).mem_iff.symm⟩, ⟨sz3, v2, sz2⟩, v3, ld.imp id fun z => by rw [v4]; exact z⟩)
  · exact wpAny_pure (hR _ b1 ⟨_, ys, _, tc, k1, h2, rfl, ⟨gd1, gd2, gd3⟩, ⟨sz, ft, rfl⟩, ri, ld⟩)
theorem setT_add {y : Str} {u : Tok} {Q : Bool → Shared → Prop} (R : SetT P w s.heap p T m) (room : m + 1 < scanBound)
    (hQ : ∀ h', Heap.SameBut p s.heap h' → SetT P w h' p (fun x => T x || decide (x = y)) (if T y = true then m else m + 1) → Q (!T y) { s with heap := h' }) :
    wpAny (model P w) A (setAddHashed p (.str y u) ((strKind P w).hash y)) Q E s := by
  obtain ⟨ob, xs, n, tb, h1, h2, h3, ⟨g1, g2, g3⟩, ⟨c1, c2, c3⟩, ri, ld⟩ := R
  have hkey : (strKind P w).is y (.str y u) = true := strKind_is P w y u
  have hsc : (Value.str y u).scannable = true := rfl
  have hel : ElemsOf (strKind P w) xs.toList := goodT_el g1
  unfold setAddHashed setAddHashedIn
  refine wpAny_holding (wpAny_bind (wpAny_setState_of h1 h3 c2 ?_))
  dsimp only
  rw [byScan_of hsc c1 hel]
  simp only [↓reduceIte]
  unfold setAddByScan
  refine wpAny_bind ?_
  refine wpAny_bind (wpAny_rule ?_)
  refine wpAny_bind (wpAny_setScan_of hkey h1 h3 c2 hel ?_)
  cases hfi : List.findIdx? (fun z => (strKind P w).is y z.2) xs.toList with
  | some j =>
    dsimp only
    obtain ⟨hj, pj, _⟩ := List.findIdx?_eq_some_iff_getElem.mp hfi
    have hT : T y = true := (g3 y).2 ((goodT_mem (P := P) (w := w) g1 y).2 ⟨xs.toList[j], List.getElem_mem hj, pj⟩)
    refine wpAny_pure (wpAny_pure ?_)
    have q := hQ s.heap (Heap.SameBut.refl p s.heap) ⟨ob, xs, n, tb, h1, h2, h3, ⟨g1, g2, fun i => by
      rw [Bool.or_eq_true, decide_eq_true_eq, ← g3 i]
      exact ⟨fun z => z.elim id (fun e => e ▸ hT), .inl⟩⟩, ⟨c1, c2, by rw [if_pos hT]; exact c3⟩, ri, ld⟩
    rw [hT] at q
    exact q
  | none =>
    dsimp only
    have hny : y ∉ xs.toList.map txOf := fun z => by
      obtain ⟨e, he, q⟩ := (goodT_mem (P := P) (w := w) g1 y).1 z
      have c := List.findIdx?_eq_none_iff.mp hfi e he
      rw [q] at c
      cases c
    have hT : T y = false := by
      cases q : T y with
      | false => rfl
      | true => exact absurd ((g3 y).1 q) hny
    have hgw : ∀ (b : Bool) {s1 : Shared} {Q1 : Unit → Shared → Prop}, Q1 () s1 → wpAny (model P w) A (match b with | true => rule "set.scan.the-table-gave-way" | false => pure ()) Q1 E s1 := by
      intro b s1 Q1 q
      cases b
      · exact wpAny_pure q
      · exact wpAny_rule q
    have v1 := layNew_perm tb xs ((strKind P w).hash y) (.str y u)
    have v2 := layNew_fits tb xs ((strKind P w).hash y) (.str y u)
    have v3 := layNew_ris tb xs ((strKind P w).hash y) (.str y u) ri
    have v4 := layNew_led tb xs ((strKind P w).hash y) (.str y u)
    generalize layNew tb xs ((strKind P w).hash y) (.str y u) = Y at v1 v2 v3 v4 ⊢
    obtain ⟨ys, tc, dum, gave⟩ := Y
    dsimp only at v1 v2 v3 v4 ⊢
    rw [Array.toList_push] at v1
    have pc : ys.toList.Perm (((strKind P w).hash y, Value.str y u) :: xs.toList) := v1.trans (List.perm_append_singleton _ _)
    have pk : (ys.toList.map txOf).Perm (y :: xs.toList.map txOf) := pc.map txOf
    have gd : (∀ z ∈ ys.toList, GoodT P w z) ∧ (ys.toList.map txOf).Nodup ∧ ∀ i, (T i || decide (i = y)) = true ↔ i ∈ ys.toList.map txOf := by
      refine ⟨fun e he => ?_, pk.nodup_iff.mpr (List.nodup_cons.mpr ⟨hny, g2⟩), fun i => ?_⟩
      · rcases List.mem_cons.mp (pc.mem_iff.mp he) with z | z
        · rw [z]; exact ⟨y, u, rfl, rfl⟩
        · exact g1 e z
      · rw [Bool.or_eq_true, decide_eq_true_eq, g3 i, pk.mem_iff, List.mem_cons]
        exact Or.comm
    have hsz : ys.size = m + 1 := by rw [← Array.length_toList, pc.length_eq, List.length_cons, Array.length_toList, c3]
    have sz : ys.size < scanBound := by rw [hsz]; exact room
    have ld1 : w.params.followText "set-order" = true ∨ tc.led = true := ld.imp id fun z => by rw [v4]; exact z
    have fin : ∀ h', Heap.SameBut p s.heap h' → SetT P w h' p (fun x => T x || decide (x = y)) ys.size → Q true { s with heap := h' } := fun h' sb r => by
      have q := hQ h' sb
      rw [hT] at q
      rw [hsz] at r
      exact q r
    refine wpAny_bind (hgw _ ?_)
    have hgv : ∀ (b : Bool) (s1 : Shared) (Q1 : Unit → Shared → Prop), Q1 () s1 → wpAny (model P w) A (match b with | true => rule "set.scan.the-table-gave-way" | false => pure ()) Q1 E s1 := fun b s1 Q1 q => hgw b q
    split
    · refine wpAny_bind ?_
      rw [hashByValue_scannable 8 hsc]
      refine wpAny_pure ?_
      refine setT_tail ?_ h1 h2 h3 gd sz ?_ ?_ ?_ fun h' sb r => ?_
      · intro b s1 Q1 q; cases b <;> first | exact wpAny_pure q | exact wpAny_rule q
      · first | (split <;> first | exact v2 | exact SetTable.fits_plain_off v2) | exact v2
      · first | (split <;> exact v3) | exact v3
      · first | (split <;> exact ld1) | exact ld1
      · dsimp only; exact wpAny_pure (fin h' sb r)
    · refine wpAny_bind (wpAny_pure ?_)
      simp only [↓reduceIte]
      refine setT_tail ?_ h1 h2 h3 gd sz v2 v3 ld1 fun h' sb r => ?_
      · intro b s1 Q1 q; cases b <;> first | exact wpAny_pure q | exact wpAny_rule q
      · dsimp only; exact wpAny_pure (fin h' sb r)
end
end Ta

set_option Elab.async false
set_option linter.all false
set_option maxRecDepth 100000
set_option maxHeartbeats 3200000
namespace Ta
open PySem PySem.Spec PyProof.Rows L2

section
variable {prog : Program} {w : World} {A : Around} {R : Result → Shared → Prop} {I : Addr} {fp wr : List Addr} {G : Array GenState → Array GenState → Prop} {n : Nat} {P : Nat → Value → Prop} {St : Nat → Shared → Prop}
abbrev tin (xs : List Str) : Str → Bool := fun y => xs.any (· == y)
abbrev led0 (w : World) : Bool := !w.params.followText "set-order"
abbrev set0 (w : World) : Obj := { cls := .type "set", dict := none, data := .set #[] 0 (.fresh 0 0 (led0 w)) }
theorem setT_fresh {hp : Heap} {p : Addr} (h : hp.get? p = some (set0 w)) : SetT prog w hp p (tin []) 0 := by
  refine ⟨_, #[], 0, _, h, ⟨rfl, rfl, rfl⟩, rfl, ⟨fun z hz => (by cases hz), .nil, fun y => ?_⟩, ⟨by unfold scanBound; decide, rfl, rfl⟩, .nil, ?_⟩
  · simp [tin]
  · cases e : w.params.followText "set-order" with
    | true => exact .inl rfl
    | false => exact .inr (by show led0 w = true; unfold led0; rw [e]; rfl)
theorem loopT (W : WalksS prog w A.in1 I fp wr G n P St) (D : Addr) (hDf : D ∉ fp) (xs : List Str) (hsz : xs.length = n) (hn1 : n + 1 < scanBound)
    (hval : ∀ i v, P i v → ∃ t, v = .str (xs.getD i Str.empty) t) :
    ∀ (k i : Nat) (s : Shared), n - i = k → i ≤ n → St i s → SetT prog w s.heap D (tin (xs.take i)) (dn (xs.take i)) →
      (∀ s', Moved (D :: wr) G s s' → SetT prog w s'.heap D (tin xs) (dn xs) → R (.ok (.ret .none)) s') →
      codeAny (model prog w) A (.builtin "set.update.loop" ⟨[.ref D, .ref I], []⟩) R s := by
  have hDw : D ∉ wr := fun h => hDf (W.sub _ h)
  have hsub : ∀ b ∈ wr, b ∈ D :: wr := fun b hb => List.mem_cons_of_mem _ hb
  intro k
  induction k with
  | zero =>
    intro i s hk hi hst hS hR
    have hin : i = n := by omega
    subst hin
    refine codeAny_builtin PyProof.Rows.F.entry_set_update_loop ?_
    rw [Around.under_plainId PyProof.Rows.F.plain_set_update_loop _]
    show wpAny _ A.in1 (pyNext (.ref I) >>= _) _ _ s
    refine wpAny_bind (W.done s _ _ hst fun s' hm => ?_)
    show wpAny _ A.in1 (ret Value.none) _ _ s'
    rw [List.take_of_length_le (Nat.le_of_eq hsz)] at hS
    exact wpAny_pure (hR s' (hm.mono hsub) (hS.kept fun o e => hm.heap D o hDw e))
  | succ k ih =>
    intro i s hk hi hst hS hR
    have hlt : i < n := by omega
    have hlx : i < xs.length := by omega
    refine codeAny_builtin PyProof.Rows.F.entry_set_update_loop ?_
    rw [Around.under_plainId PyProof.Rows.F.plain_set_update_loop _]
    show wpAny _ A.in1 (pyNext (.ref I) >>= _) _ _ s
    refine wpAny_bind (W.item i s _ _ hlt hst fun v s' hP hst' hm => ?_)
    obtain ⟨t, rfl⟩ := hval i v hP
    have hS' : SetT prog w s'.heap D (tin (xs.take i)) (dn (xs.take i)) := hS.kept fun o e => hm.heap D o hDw e
    show wpAny _ A.in1 (holding [Value.str (xs.getD i Str.empty) t] (setAdd D (.str (xs.getD i Str.empty) t)) >>= _) _ _ s'
    refine wpAny_bind (wpAny_holding ?_)
    unfold setAdd
    refine wpAny_holding ?_
    refine wpAny_bind ((PySem.strKind prog w).pyHash (k := xs.getD i Str.empty) (strKind_is _ _ _ _) ?_)
    have hdn := dn_le (xs.take i)
    have htk : (xs.take i).length ≤ i := by rw [List.length_take]; omega
    refine setT_add (s := { s' with toks := s'.toks + 1 }) hS' (by unfold scanBound at hn1 ⊢; omega) fun h' hsb hS2 => ?_
    have ex : xs.getD i Str.empty = xs[i] := by simp [List.getD, hlx]
    have et : xs.take (i + 1) = xs.take i ++ [xs[i]] := by rw [List.take_succ_eq_append_getElem hlx]
    have hSi : SetT prog w h' D (tin (xs.take (i + 1))) (dn (xs.take (i + 1))) := by
      refine hS2.same (fun y => ?_) ?_
      · show (xs.take (i + 1)).any (· == y) = ((xs.take i).any (· == y) || decide (y = xs.getD i Str.empty))
        rw [et, ex, List.any_append]
        congr 1
        by_cases e : y = xs[i]
        · subst e; simp
        · have hb : (xs[i] == y) = false := by simpa [beq_iff_eq] using (fun h' : xs[i] = y => e h'.symm)
          simp [hb, e]
      · rw [et, dn_snoc, ex]
    refine wpAny_pure ⟨plainId_quiet PyProof.Rows.F.plain_set_update_loop _, ih (i + 1) _ (by omega) hlt (W.frame _ s' _ _ hst' (Nat.le_succ _) fun b hb o e => ?_) hSi fun s'' hm'' hS'' => ?_⟩
    · rw [hsb.2 b (fun h : b = D => hDf (by rw [← h]; exact hb))]; exact e
    · refine hR s'' (Moved.trans W.gtrans ((hm.mono hsub).then_heap (Nat.le_succ _) fun b o hb e => ?_) hm'') hS''
      rw [hsb.2 b (fun h : b = D => hb (by rw [h]; exact List.mem_cons_self))]; exact e
end
section
variable {prog : Program} {w : World} {A : Around} {E : Value → Shared → Prop} {s : Shared}
abbrev GotT (prog : Program) (w : World) (s : Shared) (xs : List Str) (Q : Value → Shared → Prop) : Prop :=
  ∀ (h' : Heap) (tk : Nat), SetT prog w h' s.heap.objs.size (tin xs) (dn xs) → (∀ b o, b < s.heap.objs.size → s.heap.get? b = some o → h'.get? b = some o) → Q (.ref s.heap.objs.size) { s with heap := h', toks := tk }
theorem strs_get : ∀ {us : List Value} {xs : List Str}, StrsAre us xs → ∀ (i : Nat) (v : Value), us[i]? = some v → ∃ t, v = .str (xs.getD i Str.empty) t
  | _, _, .nil, i, v, h => by cases h
  | _, _, .cons _ t r, 0, v, h => ⟨t, (Option.some.inj h).symm⟩
  | _, _, .cons _ t r, i + 1, v, h => strs_get r i v h
theorem call_setT_text {x : Str} {t : Tok} {Q : Value → Shared → Prop} (hh : A.handled = none) (hn : (tl x).length + 1 < scanBound) (h : GotT prog w s (one1 (tl x)) Q) :
    wpAny (model prog w) A (call (.type "set") [.str x t]) Q E s := by
  obtain ⟨c, tl', hmro⟩ := PySem.F.called_set.mro
  have hmade := PySem.F.called_set.made
  have hsub := PySem.F.called_set.sub
  refine wpAny_call (codeAny_of_tree ?_)
  show wpAny _ _ (callAny (.type "set") _) _ _ _
  refine wpAny_pure ⟨Code.quiet_builtin _ (by decide +kernel), codeAny_builtin PySem.F.entry_type_call ?_⟩
  rw [Around.under_plain (weight_type_call_type "set" [.str x t] []) rfl]
  have h1 := PySem.F.called_set.notType
  have h2 := PySem.F.called_set.canCreate
  have hct := PySem.F.typeCall_set_1 (.str x t)
  repeat (any_goals (first | assumption | wp_step))
  refine codeAny_mono (code_set_led1 (.str x t) (E := E) (Q₁ := fun obj s₁ => obj = .ref s.heap.objs.size ∧ s₁ = { s with heap := s.heap.push (set0 w) }) ⟨rfl, rfl⟩) fun r s₁ hr => ?_
  cases r with
  | error e => exact hr
  | ok fl =>
    cases fl with
    | ret obj =>
      obtain ⟨rfl, rfl⟩ := hr
      have hS : (s.heap.push (set0 w)).get? s.heap.objs.size = some (set0 w) := Heap.get?_push_size _ rfl
      have hT : Shared.TypeIs { s with heap := s.heap.push (set0 w) } (.ref s.heap.objs.size) "set" := ⟨_, hS, rfl⟩
      have hli := PySem.F.called_set.init.lookup
      have hbi := PySem.F.called_set.init.bind (.ref s.heap.objs.size)
      repeat (any_goals (first | assumption | wp_step))
      refine codeAny_mono (codeAny_call_builtin (R := wants (fun r s₂ => r = .none ∧ ∃ h' tk, s₂ = { s with heap := h', toks := tk } ∧
          SetT prog w h' s.heap.objs.size (tin (one1 (tl x))) (dn (one1 (tl x))) ∧
          (∀ b o, b < s.heap.objs.size → s.heap.get? b = some o → h'.get? b = some o)) E) PySem.F.called_set.init.plain PySem.F.entry_set_init (check_set_init_1 hT ?_)) fun r₂ s₂ hr₂ => ?_
      · have hsls := PySem.F.sub_str_set
        have hslf := PySem.F.sub_str_frozenset
        have hne : (Value.type "str" == Value.type "dict") = false := by decide
        unfold Builtin.«set.__init__» noKeywords Builtin.Frozenset.updateFrom
        generalize hPI : pyIter = PI
        wp_walk
        subst hPI
        refine wpAny_pyIter_str fun o St W hst => ?_
        refine wpAny_bind (wpAny_runValue ?_)
        have hh3 : A.in1.in1.in1.handled = none := by simp [hh]
        have hSf : s.heap.objs.size ∉ [(s.heap.push (set0 w)).objs.size] := by
          rw [Heap.size_push]; simp only [List.mem_singleton]
          exact Nat.ne_of_lt (Nat.lt_succ_self _)
        have hsz : (one1 (tl x)).length = x.cps.size := by simp [one1, tl]
        have hszn : x.cps.size = (tl x).length := by simp [tl]
        refine loopT ((W _ hh3).toS) s.heap.objs.size
          hSf (one1 (tl x)) hsz (by rw [hszn]; exact hn) (fun i v h => sign_one h) (x.cps.size - 0) 0 _ (by omega) (Nat.zero_le _)
          hst ?hS0 ?hR
        case hS0 => exact setT_fresh (Heap.get?_push_of_some _ hS)
        case hR =>
          intro s' hm hS'
          obtain ⟨h', g', d', tk', os'⟩ := s'
          have eg : g' = s.gens := hm.gens
          have ed : d' = s.drawn := hm.drawn
          have eo : os' = s.os := hm.os
          subst eg; subst ed; subst eo
          show wpAny _ _ _ _ _ _
          refine wpAny_pure ?_
          show wpAny _ _ (ret Value.none) _ _ _
          refine wpAny_pure ⟨rfl, h', tk', rfl, hS', fun b o hb e => ?_⟩
          have hb1 : b ≠ s.heap.objs.size := Nat.ne_of_lt hb
          have hb2 : b ≠ (s.heap.push (set0 w)).objs.size := by
            rw [Heap.size_push]; exact Nat.ne_of_lt (Nat.lt_succ_of_lt hb)
          exact hm.heap b o (by simp only [List.mem_cons, List.mem_singleton, List.not_mem_nil, or_false, not_or]; exact ⟨hb1, hb2⟩) (Heap.get?_push_of_some _ (Heap.get?_push_of_some _ e))
      · cases r₂ with
        | error e => exact hr₂
        | ok fl₂ =>
          cases fl₂ with
          | ret r =>
            obtain ⟨rfl, h', tk, rfl, hS', hk'⟩ := hr₂
            repeat (any_goals (first | assumption | wp_step))
            exact h _ _ hS' hk'
          | _ => exact hr₂.elim
    | _ => exact hr.elim
theorem call_setT_list {l : Addr} {items : Array Value} {xs : List Str} {Q : Value → Shared → Prop} (hh : A.handled = none) (hl : s.heap.IsList l items) (hxs : StrsAre items.toList xs) (hn : xs.length + 1 < scanBound) (h : GotT prog w s xs Q) :
    wpAny (model prog w) A (call (.type "set") [.ref l]) Q E s := by
  have hisz : xs.length = items.size := by
    have q := L2.vals_of_strs hxs
    have := q.length
    rw [List.length_map, Array.length_toList] at this
    exact this
  have hval : ∀ (i : Nat) (v : Value), items[i]? = some v → ∃ t, v = .str (xs.getD i Str.empty) t := fun i v hv => strs_get hxs i v (by rw [Array.getElem?_toList]; exact hv)
  obtain ⟨c, tl', hmro⟩ := PySem.F.called_set.mro
  have hmade := PySem.F.called_set.made
  have hsub := PySem.F.called_set.sub
  refine wpAny_call (codeAny_of_tree ?_)
  show wpAny _ _ (callAny (.type "set") _) _ _ _
  refine wpAny_pure ⟨Code.quiet_builtin _ (by decide +kernel), codeAny_builtin PySem.F.entry_type_call ?_⟩
  rw [Around.under_plain (weight_type_call_type "set" [.ref l] []) rfl]
  have h1 := PySem.F.called_set.notType
  have h2 := PySem.F.called_set.canCreate
  have hct := PySem.F.typeCall_set_1 (.ref l)
  repeat (any_goals (first | assumption | wp_step))
  refine codeAny_mono (code_set_led1 (.ref l) (E := E) (Q₁ := fun obj s₁ => obj = .ref s.heap.objs.size ∧ s₁ = { s with heap := s.heap.push (set0 w) }) ⟨rfl, rfl⟩) fun r s₁ hr => ?_
  cases r with
  | error e => exact hr
  | ok fl =>
    cases fl with
    | ret obj =>
      obtain ⟨rfl, rfl⟩ := hr
      have hS : (s.heap.push (set0 w)).get? s.heap.objs.size = some (set0 w) := Heap.get?_push_size _ rfl
      have hT : Shared.TypeIs { s with heap := s.heap.push (set0 w) } (.ref s.heap.objs.size) "set" := ⟨_, hS, rfl⟩
      have hli := PySem.F.called_set.init.lookup
      have hbi := PySem.F.called_set.init.bind (.ref s.heap.objs.size)
      repeat (any_goals (first | assumption | wp_step))
      refine codeAny_mono (codeAny_call_builtin (R := wants (fun r s₂ => r = .none ∧ ∃ h' tk, s₂ = { s with heap := h', toks := tk } ∧ SetT prog w h' s.heap.objs.size (tin xs) (dn xs) ∧
          (∀ b o, b < s.heap.objs.size → s.heap.get? b = some o → h'.get? b = some o)) E) PySem.F.called_set.init.plain PySem.F.entry_set_init (check_set_init_1 hT ?_)) fun r₂ s₂ hr₂ => ?_
      · obtain ⟨ol, hol, hcl, nl, hdl⟩ := hl
        obtain ⟨ocls, odict, odata, oslots⟩ := ol
        simp only at hcl hdl
        subst hcl; subst hdl
        have hol' : (s.heap.push (set0 w)).get? l = some { cls := .type "list", dict := odict, data := .seq items nl, slots := oslots } := Heap.get?_push_of_some _ hol
        have hsls := PySem.F.sub_list_set
        have hslf := PySem.F.sub_list_frozenset
        have hne : (Value.type "list" == Value.type "dict") = false := by decide
        have hl1 : (s.heap.push (set0 w)).IsList l items := ⟨_, hol', rfl, nl, rfl⟩
        unfold Builtin.«set.__init__» noKeywords Builtin.Frozenset.updateFrom
        generalize hPI : pyIter = PI
        wp_walk
        subst hPI
        refine wpAny_pyIter_list hl1 ?_
        refine wpAny_bind (wpAny_runValue ?_)
        have hlS : l < s.heap.objs.size := Heap.lt_size hol
        have hh3 : A.in1.in1.in1.handled = none := by simp [hh]
        have hneI : l ≠ (s.heap.push (set0 w)).objs.size := by rw [Heap.size_push]; exact Nat.ne_of_lt (Nat.lt_succ_of_lt hlS)
        have hSf : s.heap.objs.size ∉ [(s.heap.push (set0 w)).objs.size, l] := by
          rw [Heap.size_push]; simp only [List.mem_cons, List.mem_singleton, List.not_mem_nil, or_false, not_or]
          exact ⟨Nat.ne_of_lt (Nat.lt_succ_self _), Nat.ne_of_gt hlS⟩
        refine loopT ((Walks.list hh3 _ l hneI items).toS) s.heap.objs.size hSf xs hisz (by rw [← hisz]; exact hn) hval (items.size - 0) 0 _ (by omega) (Nat.zero_le _)
          ⟨⟨_, Heap.get?_push_size _ rfl, rfl, rfl⟩, (hl1.push _)⟩ ?hS0 ?hR
        case hS0 => exact setT_fresh (Heap.get?_push_of_some _ hS)
        case hR =>
          intro s' hm hS'
          obtain ⟨h', g', d', tk', os'⟩ := s'
          have eg : g' = s.gens := hm.gens
          have ed : d' = s.drawn := hm.drawn
          have eo : os' = s.os := hm.os
          subst eg; subst ed; subst eo
          show wpAny _ _ _ _ _ _
          refine wpAny_pure ?_
          show wpAny _ _ (ret Value.none) _ _ _
          refine wpAny_pure ⟨rfl, h', tk', rfl, hS', fun b o hb e => ?_⟩
          have hb1 : b ≠ s.heap.objs.size := Nat.ne_of_lt hb
          have hb2 : b ≠ (s.heap.push (set0 w)).objs.size := by rw [Heap.size_push]; exact Nat.ne_of_lt (Nat.lt_succ_of_lt hb)
          exact hm.heap b o (by simp only [List.mem_cons, List.mem_singleton, List.not_mem_nil, or_false, not_or]; exact ⟨hb1, hb2⟩) (Heap.get?_push_of_some _ (Heap.get?_push_of_some _ e))
      · cases r₂ with
        | error e => exact hr₂
        | ok fl₂ =>
          cases fl₂ with
          | ret r =>
            obtain ⟨rfl, h', tk, rfl, hS', hk'⟩ := hr₂
            repeat (any_goals (first | assumption | wp_step))
            exact h _ _ hS' hk'
          | _ => exact hr₂.elim
    | _ => exact hr.elim
end
end Ta

set_option Elab.async false
set_option linter.all false
set_option maxRecDepth 100000
set_option maxHeartbeats 3200000
namespace Ta
open PySem PySem.Spec PyProof.Rows L2

/-! ### sorted(set(x)) -/
section
variable {prog : Program} {w : World} {A : Around} {E : Value → Shared → Prop} {s : Shared}
theorem strs_of : ∀ {us : List Value}, (∀ v ∈ us, ∃ y t, v = Value.str y t) → ∃ xs, StrsAre us xs
  | [], _ => ⟨[], .nil⟩
  | v :: us, h => by
    obtain ⟨y, t, rfl⟩ := h v List.mem_cons_self
    obtain ⟨xs, r⟩ := strs_of (us := us) fun v hv => h v (List.mem_cons_of_mem _ hv)
    exact ⟨y :: xs, .cons y t r⟩
def vtx (v : Value) : Str := match v with | .str y _ => y | _ => Str.empty
theorem strs_map : ∀ {us : List Value} {xs : List Str}, StrsAre us xs → us.map vtx = xs
  | _, _, .nil => rfl
  | _, _, .cons y t r => by rw [List.map_cons, strs_map r]; rfl
theorem sorted_setT {p : Addr} {T : Str → Bool} {m : Nat} {Q : Value → Shared → Prop} (R : SetT prog w s.heap p T m) (hh : A.handled = none) (h64 : m < 64)
    (hQ : ∀ s' q (out : Array Value) (c : Nat) (ys : List Str), (∀ b o, s.heap.get? b = some o → s'.heap.get? b = some o) → s'.gens = s.gens → s'.os = s.os → s.heap.objs.size ≤ q →
      s'.heap.get? q = some (seqObj "list" out c) → StrsAre out.toList ys → sortedS ys = true → ys.Nodup → (∀ y, y ∈ ys ↔ T y = true) → ys.length = m → Q (.ref q) s') :
    wpAny (model prog w) A (call (.builtin "sorted") [.ref p]) Q E s := by
  obtain ⟨ob, xs, n, tb, h1, h2, h3, ⟨g1, g2, g3⟩, ⟨c1, c2, c3⟩, ri, ld⟩ := R
  refine Calls.call_function_entry PyProof.Rows.kind_sorted PyProof.Rows.plain_sorted PyProof.Rows.entry_sorted (PyProof.Rows.args_sorted1 _) ?_
  unfold Builtin.«sorted»
  refine wpAny_bind (m := checkCount "sorted" 1 1 _) (wpAny_pure ?_)
  refine wpAny_bind (collect_set (A := A.in1) hh ⟨ob, h1, h2.1, h3⟩ c2 c1 ri ld fun s1 vs k1 hz e1 e2 pm => ?_)
  have hvl : vs.length = m := by rw [pm.length_eq, List.length_map, Array.length_toList]; exact c3
  obtain ⟨zs, hS⟩ := strs_of (us := vs) fun v hv => by
    obtain ⟨e, he, q⟩ := List.mem_map.mp (pm.mem_iff.mp hv)
    obtain ⟨y, t, q1, _⟩ := g1 e he
    exact ⟨y, t, by rw [← q]; exact q1⟩
  have pz : zs.Perm (xs.toList.map txOf) := by
    have q := pm.map vtx
    rw [strs_map hS, List.map_map] at q
    exact q
  refine wpAny_bind (wpAny_newList ?_ (by rw [hvl, sizeLine_eq]; omega))
  have hoL : (s1.heap.push (seqObj "list" vs.toArray 0)).get? s1.heap.objs.size = some (seqObj "list" vs.toArray 0) := Heap.get?_push_size _ rfl
  refine wpAny_bind (wpAny_holding (wpAny_call_entry PyProof.Rows.slot_list_sort ⟨_, hoL, rfl⟩ PyProof.Rows.entry_list_sort
    (list_sort_treeK strKind_oneLt (s := { s1 with heap := s1.heap.push (seqObj "list" vs.toArray 0) }) hoL hS.keysOf (fun v₁ v₂ rest e => keyKind_strs (by rw [← e]; exact hS)) (by rw [hvl]; exact h64) fun st' hp hs => ⟨_, rfl, ?_⟩)
    (PyProof.Rows.args_list_sort _)))
  obtain ⟨ys, u1, u2, u3⟩ := sorted_out_str hS hp hs
  obtain ⟨c, hc⟩ := PyProof.Rows.sortedHeap_at (vs := vs) (out := (arrOf st').map (·.2)) hoL
  have pn : ys.Perm (xs.toList.map txOf) := u2.trans pz
  refine wpAny_pure ⟨_, rfl, hQ _ s1.heap.objs.size _ c ys (fun b u e => ?_) e1 e2 hz hc u1 u3 (pn.nodup_iff.mpr g2) (fun y => by rw [pn.mem_iff, ← g3 y]) ?_⟩
  · have q := k1 b u e
    have hlt := Heap.lt_size q
    show (PyProof.Rows.sortedHeap (s1.heap.push (seqObj "list" vs.toArray 0)) s1.heap.objs.size vs ((arrOf st').map (·.2))).get? b = some u
    rw [PyProof.Rows.sortedHeap_old (Nat.ne_of_lt hlt) (by rw [size_push']; exact Nat.lt_succ_of_lt hlt)]
    exact Heap.get?_push_of_some _ q
  · rw [pn.length_eq, List.length_map, Array.length_toList]; exact c3
end
/-- a list of texts -/
structure txs (vs : List V) (k : List Str → Prop) : Prop where
  out : ∃ xs : List Str, vs = xs.map V.str ∧ k xs
theorem txs_i {xs : List Str} {k : List Str → Prop} (q : k xs) : txs (xs.map V.str) k := by refine ⟨?_⟩; exact ⟨xs, rfl, q⟩
theorem txs_l {ks : List (List Nat)} {k : List Str → Prop} (q : k (ks.map S)) : txs (ks.map fun l => V.str (S l)) k := by
  refine ⟨?_⟩; exact ⟨ks.map S, by rw [List.map_map]; rfl, q⟩
theorem txs_e {vs : List V} {k : List Str → Prop} (h : txs vs k) : ∃ xs : List Str, vs = xs.map V.str ∧ k xs := by replace h := h.out; exact h
def zSS (x : V) (H : Hp) (Q : VK) : Prop := match x with
  | .str z => (tl z).length < 64 ∧ ∀ p, H p = none → Q (.ref p) (upd H p (.lst (sgn (srt (tl z).eraseDups))))
  | .ref l => look H l fun o => (match o with
    | some (.lst vs) => txs vs fun xs => xs.length < 64 ∧ ∀ ys p, sortedS ys = true → ys.Nodup → (∀ y, y ∈ ys ↔ y ∈ xs) → H p = none → Q (.ref p) (upd H p (.lst (ys.map V.str)))
    | _ => False)
  | _ => False
def tSS (ta : TE) : TE := fun σ H Q => ta σ H fun x H1 => zSS x H1 Q
section
variable {X : Cx} {a : Expr} {ta : TE} {p p2 q pos : Pos}
theorem tin_mem (xs : List Str) (y : Str) : tin xs y = true ↔ y ∈ xs := by
  unfold tin
  rw [List.any_eq_true]
  exact ⟨fun ⟨z, h1, h2⟩ => by rw [← eq_of_beq h2]; exact h1, fun h => ⟨y, h, by simp⟩⟩
theorem nd_dups {α : Type} [BEq α] [LawfulBEq α] (l : List α) : l.eraseDups.Nodup := by
  suffices h : ∀ (n : Nat) (l : List α), l.length ≤ n → l.eraseDups.Nodup from h _ l (Nat.le_refl _)
  intro n
  induction n with
  | zero => intro l h; rw [List.length_eq_zero_iff.mp (Nat.le_zero.mp h)]; exact .nil
  | succ n ih =>
    intro l h
    cases l with
    | nil => exact .nil
    | cons a l =>
      rw [List.eraseDups_cons]
      refine List.nodup_cons.mpr ⟨fun hm => ?_, ih _ (Nat.le_trans (List.length_filter_le _ _) (by simpa using h))⟩
      rw [List.mem_eraseDups, List.mem_filter] at hm
      simp at hm
theorem one1_mem (l : List Nat) (c : Nat) : S [c] ∈ one1 l ↔ c ∈ l := by
  unfold one1
  rw [List.mem_map]
  exact ⟨fun ⟨d, h1, h2⟩ => by rw [← S1_inj _ _ h2]; exact h1, fun h => ⟨c, h, rfl⟩⟩
theorem end_SS {pins : List (Addr × Obj)} {σ : St} {H : Hp} {s : Shared} {Q : VK} {p : Addr} {T : Str → Bool} {m : Nat} (I : Inv X pins σ H s) (hc : X.calm = true) (R : SetT X.prog X.w s.heap p T m) (h64 : m < 64)
    (h : ∀ ys q, sortedS ys = true → ys.Nodup → (∀ y, y ∈ ys ↔ T y = true) → H q = none → Q (.ref q) (upd H q (.lst (ys.map V.str)))) :
    wpAny (model X.prog X.w) X.A (call (.builtin "sorted") [.ref p]) (EP X pins σ Q) X.xe s := by
  refine sorted_setT R (I.ok.hd hc) h64 fun s' q out c ys k g o hq hg hs h1 h2 h3 hl => ?_
  have hlen : (ys.map V.str).length ≤ sizeLine := by rw [List.length_map, hl, sizeLine_eq]; omega
  have hn : H q = none := I.hok.fresh hq
  have J : Inv X pins σ (upd H q (.lst (ys.map V.str))) { s with heap := s'.heap, gens := s'.gens, drawn := s'.drawn, toks := s'.toks } :=
    I.call (ch := []) (Un.laid k hq hn) (I.hok.laid k hq ⟨hlen, out.toList, c, vals_of_strs hs, hg⟩) (by rw [g]; exact I.bare) (fun _ z => nomatch z)
  have e : s' = { s with heap := s'.heap, gens := s'.gens, drawn := s'.drawn, toks := s'.toks } := by
    cases s'; cases s; cases o; rfl
  rw [e]
  exact ⟨.ref q, _, J, rfl, h ys q h1 h2 h3 hn⟩
theorem pss_set (hc : X.calm = true) (hm : X.mg "sorted" = none) (hm2 : X.mg "set" = none) (ha : PE X a ta) (hg : Gl X "sorted" := by rfl) (hg2 : Gl X "set" := by rfl)
    (na : starEach [a] X.env = (false, eval a X.env) :: starEach [] X.env := by rfl) : PE X (.Call (.Name "sorted" p) [.Call (.Name "set" p2) [a] [] q] [] pos) (tSS ta) := by
  refine ⟨fun pins s σ H Q I h => ?_⟩
  refine Call_ (ld_blt I hg hm boot_sorted ?_)
  refine PyProof.Rows.callWith_builtin1 (PyProof.Rows.args_cons ?_ rfl) rfl rfl
  refine Call_ (ld_blt I hg2 hm2 boot_set ?_)
  refine PyProof.Rows.callWith_type1 (PyProof.Rows.args_cons (thn (ha.run pins s σ H _ I h) fun v s1 hv => PyProof.Rows.args_nil ?_) na) na rfl
  obtain ⟨x, H1, I1, r1, q1⟩ := hv
  cases x with
  | str z =>
    obtain ⟨h1, q1⟩ := q1
    obtain ⟨t, rfl⟩ := r1
    refine call_setT_text (I1.ok.hd hc) (by unfold scanBound; omega) fun h' tk hS hk => ?_
    refine PyProof.Rows.args_nil ?_
    have hdn := dn_le (one1 (tl z))
    have hol : (one1 (tl z)).length = (tl z).length := by simp [one1]
    have I2 : Inv X pins σ H1 { s1 with heap := h', toks := tk } := I1.kept fun b o e => hk b o (Heap.lt_size e) e
    refine end_SS I2 hc hS (by omega) fun ys q g1 g2 g3 g4 => ?_
    have pm : ys.Perm ((tl z).eraseDups.map fun c => S [c]) := by
      refine (List.perm_ext_iff_of_nodup g2 ?_).mpr fun y => ?_
      · exact List.Pairwise.map _ (fun a b hn e => hn (S1_inj _ _ e)) (nd_dups _)
      · rw [g3 y, tin_mem]
        unfold one1
        simp only [List.mem_map, List.mem_eraseDups]
    obtain ⟨l', rfl, pl⟩ := perm_map_inv pm
    have el : l' = srt (tl z).eraseDups := srt_uniq pl (sorted_one l' g1)
    subst el
    have ev : ((srt (tl z).eraseDups).map fun c => S [c]).map V.str = sgn (srt (tl z).eraseDups) := by unfold sgn; rw [List.map_map]; rfl
    rw [ev]
    exact q1 q g4
  | ref l =>
    have q1 := look_e q1
    cases ea : H1 l with
    | none => rw [ea] at q1; exact q1.elim
    | some ob =>
      rw [ea] at q1
      cases ob with
      | lst vs =>
        obtain ⟨xs, rfl, h1, q2⟩ := txs_e q1
        obtain rfl : v = Value.ref l := r1
        obtain ⟨its, rv, pl, hz⟩ := I1.list (SqL.of ea)
        have hxs : StrsAre its xs := strs_of_vals rv
        refine call_setT_list (I1.ok.hd hc) pl.isList hxs (by unfold scanBound; omega) fun h' tk hS hk => ?_
        refine PyProof.Rows.args_nil ?_
        have hdn := dn_le xs
        have I2 : Inv X pins σ H1 { s1 with heap := h', toks := tk } := I1.kept fun b o e => hk b o (Heap.lt_size e) e
        exact end_SS I2 hc hS (by omega) fun ys q g1 g2 g3 g4 => q2 ys q g1 g2 (fun y => by rw [g3 y, tin_mem]) g4
      | _ => exact q1.elim
  | _ => exact False.elim q1
end
end Ta

set_option Elab.async false
set_option linter.all false
set_option maxRecDepth 100000
set_option maxHeartbeats 3200000
namespace Ta
open PySem PySem.Spec PyProof.Rows L2 PySem.W

/-! ### sorted(x, key=len) -/
def slen (xs : List Str) : List Str := xs.mergeSort fun a b => decide (a.length ≤ b.length)
abbrev kLen (x : Str) : PyData := .int x.length
theorem dataLe_len (a b : Str) : PySem.W.dataLe false kLen a b = decide (a.length ≤ b.length) := by
  unfold PySem.W.dataLe PySem.W.sortLe
  show (!lexLt itemOrd (keyToks (kLen b)) (keyToks (kLen a))) = _
  have e : ∀ z : Str, keyToks (kLen z) = [.inl (z.length : Int)] := fun z => by show keyToks (.int z.length) = _; rw [keyToks]
  rw [e, e]
  have e2 : lexLt itemOrd [.inl (b.length : Int)] [.inl (a.length : Int)] = decide ((b.length : Int) < a.length) := by
    unfold PyProof.Rows.lexLt
    simp [itemLt, PyProof.Rows.lexLt]
  rw [e2]
  by_cases h : a.length ≤ b.length
  · rw [decide_eq_true h, decide_eq_false (by omega)]; rfl
  · rw [decide_eq_false h, decide_eq_true (by omega)]; rfl
theorem slen_eq (xs : List Str) : xs.mergeSort (PySem.W.dataLe false kLen) = slen xs := by
  unfold slen
  congr 1
  funext a b
  exact dataLe_len a b
def zSL (x : V) (H : Hp) (Q : VK) : Prop := match x with
  | .ref l => look H l fun o => (match o with
    | some (.lst vs) => txs vs fun xs => xs.length < 1000000 ∧ (∀ y ∈ xs, y.length < 1000000) ∧ ∀ p, H p = none → Q (.ref p) (upd H p (.lst ((slen xs).map V.str)))
    | _ => False)
  | _ => False
def tSL (t : TA) : TE := fun σ H Q => t σ H fun vs H1 => one vs fun x => zSL x H1 Q
section
variable {X : Cx} {a : Expr} {t : TA} {p p2 kp pos : Pos}
theorem each_strs : ∀ {us : List Value} {xs : List Str}, StrsAre us xs → EachIs (fun v x => ∃ t, v = Value.str x t) us xs
  | _, _, .nil => .nil
  | _, _, .cons y t r => .cons ⟨t, rfl⟩ (each_strs r)
theorem strs_each : ∀ {us : List Value} {xs : List Str}, EachIs (fun v x => ∃ t, v = Value.str x t) us xs → StrsAre us xs
  | _, _, .nil => .nil
  | _, _, .cons ⟨t, e⟩ r => by subst e; exact .cons _ t (strs_each r)
theorem ps_len {lv : Nat} (hr : Room lv X.A) (hm : X.mg "sorted" = none) (hm2 : X.mg "len" = none) (ha : PA X [a] t) (hg : Gl X "sorted" := by rfl) (hg2 : Gl X "len" := by rfl)
    (na : ∀ pos, backTo pos (starEach [a] X.env) = (false, eval a X.env) :: backTo pos (starEach [] X.env) := by exact fun _ => rfl) (hpl : ∀ pos, (backTo pos (starEach [a] X.env)).any (·.1) = false := by exact fun _ => rfl) :
    PE X (.Call (.Name "sorted" p) [a] [⟨some "key", .Name "len" p2, kp⟩] pos) (tSL t) := by
  refine ⟨fun pins s σ H Q I h => ?_⟩
  refine wpAny_Call_Name_kw (ld_blt I hg hm boot_sorted ?_)
  refine PyProof.Rows.callWith_kw (thn (ha.run pos pins s σ H _ I h) fun us s1 hv => ?_) (na pos) (hpl pos) rfl rfl
  obtain ⟨vs, H1, I1, r1, q1⟩ := hv
  obtain ⟨x, rfl, q1⟩ := one_e q1
  obtain ⟨u, rfl, rx⟩ := vals1 r1
  refine wpAny_evalAll_cons (wpAny_bind (ld_blt I1 hg2 hm2 boot_len (wpAny_bind (wpAny_standAt (wpAny_pure (wpAny_evalAll_nil ?_))))))
  have I2 := I1
  cases x with
  | ref l =>
    have q1 := look_e q1
    cases ea : H1 l with
    | none => rw [ea] at q1; exact q1.elim
    | some ob =>
      rw [ea] at q1
      cases ob with
      | lst vs =>
        obtain ⟨xs, rfl, h1, h2, q2⟩ := txs_e q1
        obtain rfl : u = Value.ref l := rx
        obtain ⟨its, rv, pl, hz⟩ := I1.list (SqL.of ea)
        have hxs : StrsAre its xs := strs_of_vals rv
        have hkd : ∀ x ∈ xs, X.A.units + 2 + (kLen x).depth < cLine := by
          intro x hx
          have := hr.un
          show X.A.units + 2 + PyData.depth (.int x.length) < cLine
          rw [PyData.depth]
          omega
        refine PySem.W.sorted_key_data (k := kLen) (R := fun v x => ∃ t, v = Value.str x t) (b := false) pl.isList (each_strs hxs) ?_ ?_ (by rw [sizeLine_eq]; omega) hkd (PyProof.Rows.ksk_s1 _ _) (fun _ => PyProof.Rows.ksk_l1 _ _) (PyProof.Rows.ksk_t4 "len") ?_ ?_
        · intro d hd d' hd'
          obtain ⟨x, _, rfl⟩ := List.mem_map.mp hd
          obtain ⟨y, _, rfl⟩ := List.mem_map.mp hd'
          show alike (.int x.length) (.int y.length) = true
          rw [alike]
        · refine .inr fun d hd => ?_
          obtain ⟨x, _, rfl⟩ := List.mem_map.mp hd
          exact ⟨fun z => (by cases z), fun ys z => (by cases z)⟩
        · rintro v x ⟨t, rfl⟩ hx h tk _
          have hn := line63
          have hx2 := h2 x hx
          have hx3 : x.length < 2 ^ 63 := by omega
          refine len_str (s := { s1 with heap := h, toks := tk }) (by omega) ?_
          exact ⟨h, _, rfl, fun b o e => e, Reads.int _ _⟩
        · intro out c h' tk hk hf hg3 hl hE
          rw [slen_eq] at hE
          have hs := strs_each hE
          have hlen : ((slen xs).map V.str).length ≤ sizeLine := by unfold slen; rw [List.length_map, List.length_mergeSort, sizeLine_eq]; omega
          exact ⟨.ref _, _, I2.laid (t' := tk) hk (Nat.le_succ _) (show ObjOk X.prog X.w _ h' _ (.lst ((slen xs).map V.str)) from ⟨hlen, out, c, vals_of_strs hs, hg3⟩), rfl, q2 _ (I2.hok.fresh (Nat.le_succ _))⟩
      | _ => exact q1.elim
  | _ => exact False.elim q1
end
end Ta

set_option Elab.async false
set_option linter.all false
set_option maxRecDepth 100000
set_option maxHeartbeats 1000000
namespace Ta
open PySem PySem.Spec PyProof.Rows L2

/-- a list of truth values -/
structure bls (vs : List V) (k : List Bool → Prop) : Prop where
  out : ∃ bs : List Bool, vs = bs.map V.bl ∧ k bs
theorem bls_i {bs : List Bool} {k : List Bool → Prop} (q : k bs) : bls (bs.map V.bl) k := by refine ⟨?_⟩; exact ⟨bs, rfl, q⟩
theorem bls_f {α : Type} {l : List α} {f : α → Bool} {k : List Bool → Prop} (q : k (l.map f)) : bls (l.map fun c => V.bl (f c)) k := by refine ⟨?_⟩; exact ⟨l.map f, by rw [List.map_map]; rfl, q⟩
theorem bls_e {vs : List V} {k : List Bool → Prop} (h : bls vs k) : ∃ bs : List Bool, vs = bs.map V.bl ∧ k bs := by replace h := h.out; exact h
def zAllP (K : PySem.W.Frag) : List V → Hp → VK → Prop := fun xs H Q => one xs fun x => match x with
  | .ref p => look H p fun o => (match o with
    | some (.lst vs) => bls vs fun bs => Q (.bl (bs.all id)) H
    | _ => False)
  | _ => False
def zAnyP (K : PySem.W.Frag) : List V → Hp → VK → Prop := fun xs H Q => one xs fun x => match x with
  | .ref p => look H p fun o => (match o with
    | some (.lst vs) => bls vs fun bs => Q (.bl (bs.any id)) H
    | _ => False)
  | _ => False
section
variable {X : Cx}
theorem crall (hc : X.calm = true) : CallR X (.builtin "all") (zAllP X.K) := cr_imp (cr_all hc) fun xs H Q h => by
  obtain ⟨x, rfl, h⟩ := one_e h
  cases x with
  | ref p =>
    have h := look_e h
    cases e : H p with
    | none => rw [e] at h; exact h.elim
    | some o =>
      rw [e] at h
      cases o with
      | lst vs =>
        obtain ⟨bs, rfl, q⟩ := bls_e h
        exact ⟨p, bs, rfl, SqL.of e, q⟩
      | _ => exact h.elim
  | _ => exact h.elim
theorem crany (hc : X.calm = true) : CallR X (.builtin "any") (zAnyP X.K) := cr_imp (cr_any hc) fun xs H Q h => by
  obtain ⟨x, rfl, h⟩ := one_e h
  cases x with
  | ref p =>
    have h := look_e h
    cases e : H p with
    | none => rw [e] at h; exact h.elim
    | some o =>
      rw [e] at h
      cases o with
      | lst vs =>
        obtain ⟨bs, rfl, q⟩ := bls_e h
        exact ⟨p, bs, rfl, SqL.of e, q⟩
      | _ => exact h.elim
  | _ => exact h.elim
end
/-- [e for c in text], e pure -/
theorem lcp_T {l : List Nat} {i : Nat} {te : TE} {σ : St} {H1 : Hp} {Q : VK} {vs : List Nat} (f : Nat → V) (hl : l.length < 1000000)
    (he : ∀ c D H' Q', H1 D = none → c ∈ l → (∃ ys, H' = upd H1 D (.lst ys)) → Q' (f c) H' → te ((wipe σ vs).set i (some (.str (S [c])))) H' Q')
    (hw : ∀ v, wipe ((wipe σ vs).set i v) vs = wipe σ vs) (q : ∀ D, H1 D = none → Q (.ref D) (upd H1 D (.lst (l.map f)))) : lcp l.length (itS l) (fun _ => True) (gName i) tYes te vs σ H1 Q := by
  refine lcp_i (fun D k H => H = upd H1 D (.lst ((l.take k).map f))) (fun D hD => rfl) (fun D k H hD _ e => trivial) ?_ ?_
  · rintro D k x H H' hD hk rfl hi
    obtain ⟨rfl, c, hc, rfl⟩ := hi
    refine ⟨hw _, ?_⟩
    unfold tYes; dsimp only
    rw [if_pos rfl]
    refine he c D _ _ hD (List.mem_of_getElem? hc) ⟨_, rfl⟩ ⟨_, upd_at, ?_, ?_⟩
    · rw [List.length_map, List.length_take, sizeLine_eq]; omega
    · rw [upd_tw, List.take_succ, hc]
      simp
  · rintro D H hD rfl
    rw [List.take_length]
    exact q D hD
/-- .. over a list of texts that stands -/
theorem lcp_TL {ks : List (List Nat)} {p : Addr} {i : Nat} {te : TE} {σ : St} {H1 : Hp} {Q : VK} {vs : List Nat} (hp : H1 p = some (.lst (ks.map fun k => V.str (S k))))
    (f : List Nat → V) (hl : ks.length < 1000000) (he : ∀ c D H' Q', H1 D = none → c ∈ ks → (∃ ys, H' = upd H1 D (.lst ys)) → Q' (f c) H' → te ((wipe σ vs).set i (some (.str (S c)))) H' Q')
    (hw : ∀ v, wipe ((wipe σ vs).set i v) vs = wipe σ vs) (q : ∀ D, H1 D = none → Q (.ref D) (upd H1 D (.lst (ks.map f)))) : lcp (ks.map fun k => V.str (S k)).length (itL (ks.map fun k => V.str (S k))) (fun H' => H' p = some (.lst (ks.map fun k => V.str (S k)))) (gName i) tYes te vs σ H1 Q := by
  refine lcp_ML hp (fun v => match v with
    | .str c => f (tl c)
    | v => v) (by rw [List.length_map]; exact hl) ?_ hw ?_
  · rintro x D H' Q' hD hx hH hQ
    obtain ⟨c, hc, rfl⟩ := List.mem_map.mp hx
    exact he c D H' Q' hD hc hH hQ
  · intro D hD
    have e : (ks.map fun k => V.str (S k)).map (fun v => match v with
      | .str c => f (tl c)
      | v => v) = ks.map f := by rw [List.map_map]; rfl
    rw [e]
    exact q D hD
/-! ### == of tuples and lists of texts, numbers, truth values, None -/
def flt (v : V) : Option PyData := match v with
  | .non => some .none
  | .bl b => some (.bool b)
  | .int i => some (.int i)
  | .str x => if x.cps.all (· < 0x110000) then some (.str x) else none
  | _ => none
theorem ascii_ok {l : List Nat} (h : ∀ c ∈ l, c < 128) : (S l).cps.all (· < 0x110000) = true := by
  rw [Array.all_eq_true]
  intro i hi
  have : l[i]'hi ∈ l := List.getElem_mem hi
  exact decide_eq_true (Nat.lt_trans (h _ this) (by decide))
theorem flt_s {l : List Nat} (h : ∀ c ∈ l, c < 128) : flt (.str (S l)) = some (.str (S l)) := by
  show (if (S l).cps.all (· < 0x110000) then some (PyData.str (S l)) else none) = _
  rw [if_pos (ascii_ok h)]
theorem flt_str {x : Str} {d : PyData} (h : flt (.str x) = some d) : x.cps.all (· < 0x110000) = true ∧ d = .str x := by
  replace h : (if x.cps.all (· < 0x110000) then some (PyData.str x) else none) = some d := h
  by_cases e : x.cps.all (· < 0x110000) = true
  · rw [if_pos e] at h; exact ⟨e, (Option.some.inj h).symm⟩
  · rw [if_neg e] at h; cases h
theorem flt_dp {K : PySem.W.Frag} {H : Hp} {v : V} {d : PyData} (h : flt v = some d) : Dp K H v d ∧ d.canLay0 = true ∧ d.depth = 0 := by
  cases v with
  | non => cases h; exact ⟨.non, by rw [PyData.canLay0], by rw [PyData.depth]⟩
  | bl b => cases h; exact ⟨.bl b, by rw [PyData.canLay0], by rw [PyData.depth]⟩
  | int i => cases h; exact ⟨.int i, by rw [PyData.canLay0], by rw [PyData.depth]⟩
  | str x =>
    obtain ⟨e, rfl⟩ := flt_str h
    exact ⟨.str x, by rw [PyData.canLay0]; exact e, by rw [PyData.depth]⟩
  | _ => cases h
def flts : List V → Option (List PyData)
  | [] => some []
  | v :: vs => (flt v).bind fun d => (flts vs).map (d :: ·)
theorem flts_dp {K : PySem.W.Frag} {H : Hp} : ∀ {vs : List V} {ds : List PyData}, flts vs = some ds → DpAll K H vs ds ∧ PyData.canLayAll0 ds = true ∧ PyData.depthAll ds = 0
  | [], _, h => by cases h; exact ⟨.nil, by rw [PyData.canLayAll0], by rw [PyData.depthAll]⟩
  | v :: vs, _, h => by
    unfold flts at h
    cases e : flt v with
    | none => rw [e] at h; cases h
    | some d =>
      rw [e] at h
      cases e2 : flts vs with
      | none => rw [e2] at h; cases h
      | some ds =>
        rw [e2] at h
        cases h
        obtain ⟨a1, a2, a3⟩ := flt_dp (K := K) (H := H) e
        obtain ⟨b1, b2, b3⟩ := flts_dp (K := K) (H := H) e2
        exact ⟨.cons a1 b1, by rw [PyData.canLayAll0, a2, b2]; rfl, by rw [PyData.depthAll, a3, b3]; rfl⟩
theorem eqv_refl0 : ∀ {vs : List V} {ds : List PyData}, flts vs = some ds → PyData.eqvAll ds ds = true
  | [], _, h => by cases h; rw [PyData.eqvAll]
  | v :: vs, _, h => by
    unfold flts at h
    cases e : flt v with
    | none => rw [e] at h; cases h
    | some d =>
      rw [e] at h
      cases e2 : flts vs with
      | none => rw [e2] at h; cases h
      | some ds =>
        rw [e2] at h
        cases h
        have h2 := eqv_refl0 e2
        have h1 : PyData.eqv d d = true := by
          cases v with
          | non => cases e; rw [PyData.eqv]
          | bl b => cases e; rw [PyData.eqv]; simp
          | int i => cases e; rw [PyData.eqv]; simp
          | str x =>
            obtain ⟨_, rfl⟩ := flt_str e
            rw [PyData.eqv]; simp
          | _ => cases e
        show PyData.eqvAll (d :: ds) (d :: ds) = true
        rw [PyData.eqvAll, h1, h2]; rfl
/-- two equal tuples -/
theorem eq_tup {K : PySem.W.Frag} {H : Hp} {p r : Addr} {vs : List V} {ds : List PyData} {k : Bool → Prop} (h1 : H p = some (.tup vs)) (h2 : H r = some (.tup vs)) (e : flts vs = some ds) (q : k true) : dpq K (.ref p) (.ref r) H k := by
  obtain ⟨a1, a2, a3⟩ := flts_dp (K := K) (H := H) e
  have sh : SeqAt.shaped (.tuple ds) = true := by
    unfold SeqAt.shaped
    rw [PyData.canLay0, a2, PyData.depth, a3]
    decide
  refine dpq_i (.tup (SqT.of h1) a1) (.tup (SqT.of h2) a1) sh sh ?_
  rw [PyData.eqv, eqv_refl0 e]; exact q
theorem eq_lst {K : PySem.W.Frag} {H : Hp} {p r : Addr} {vs : List V} {ds : List PyData} {k : Bool → Prop} (h1 : H p = some (.lst vs)) (h2 : H r = some (.lst vs)) (e : flts vs = some ds) (q : k true) : dpq K (.ref p) (.ref r) H k := by
  obtain ⟨a1, a2, a3⟩ := flts_dp (K := K) (H := H) e
  have sh : SeqAt.shaped (.list ds) = true := by
    unfold SeqAt.shaped
    rw [PyData.canLay0, a2, PyData.depth, a3]
    decide
  refine dpq_i (.lst (SqL.of h1) a1) (.lst (SqL.of h2) a1) sh sh ?_
  rw [PyData.eqv, eqv_refl0 e]; exact q
theorem flts_s : ∀ {ks : List (List Nat)}, (∀ k ∈ ks, ∀ c ∈ k, c < 128) → flts (ks.map fun k => V.str (S k)) = some (ks.map fun k => PyData.str (S k))
  | [], _ => rfl
  | k :: ks, h => by
    rw [List.map_cons, List.map_cons]
    unfold flts
    rw [flt_s (h k List.mem_cons_self), flts_s fun x hx => h x (List.mem_cons_of_mem _ hx)]
    rfl
end Ta

set_option Elab.async false
set_option linter.all false
set_option maxRecDepth 100000
set_option maxHeartbeats 1000000
namespace Ta
open PySem PySem.Spec PyProof.Rows L2

/-! ### shortlex -/
def bfr (a b : List Nat) : Bool := decide (a.length < b.length) || (decide (a.length = b.length) && decide (a < b))
theorem rising_pw : ∀ (l : List Str) (a : Str), risingS a l = true → (l.Pairwise fun x y => tl x ≤ tl y) ∧ ∀ b ∈ l, tl a ≤ tl b
  | [], a, _ => ⟨.nil, fun _ h => nomatch h⟩
  | b :: l, a, h => by
    simp only [risingS, Bool.and_eq_true] at h
    obtain ⟨h1, h2⟩ := h
    obtain ⟨i1, i2⟩ := rising_pw l b h2
    have hab : tl a ≤ tl b := by
      have z : ltCps (tl b) (tl a) = false := by simpa using h1
      rw [ltCps_eq] at z
      exact List.not_lt.mp (of_decide_eq_false z)
    refine ⟨.cons i2 i1, fun c hc => ?_⟩
    rcases List.mem_cons.mp hc with rfl | hc
    · exact hab
    · exact List.le_trans hab (i2 c hc)
theorem sorted_pw {l : List Str} (h : sortedS l = true) (hn : l.Nodup) : l.Pairwise fun x y => tl x < tl y := by
  have h1 : l.Pairwise fun x y => tl x ≤ tl y := by
    cases l with
    | nil => exact .nil
    | cons a l => exact .cons (rising_pw l a h).2 (rising_pw l a h).1
  exact (List.Pairwise.and h1 hn).imp fun {x y} z => by
    refine Decidable.byContradiction fun hc => z.2 (ext_tl (List.le_antisymm z.1 (List.not_lt.mp hc)))
theorem sub_cons2 {α : Type} {a b x : α} {l : List α} (h : [a, b].Sublist (x :: l)) : [a, b].Sublist l ∨ (a = x ∧ b ∈ l) := by
  cases h with
  | cons _ h => exact .inl h
  | cons_cons _ h => exact .inr ⟨rfl, List.singleton_sublist.mp h⟩
theorem sub_anti {α : Type} {a b : α} : ∀ {l : List α}, l.Nodup → [a, b].Sublist l → [b, a].Sublist l → False
  | [], _, h, _ => by cases h
  | x :: l, hn, h, h' => by
    obtain ⟨n1, n2⟩ := List.nodup_cons.mp hn
    rcases sub_cons2 h with h | ⟨rfl, hb⟩
    · rcases sub_cons2 h' with h' | ⟨e, ha⟩
      · exact sub_anti n2 h h'
      · exact n1 (e ▸ h.subset (List.mem_cons_of_mem _ List.mem_cons_self))
    · rcases sub_cons2 h' with h' | ⟨e, ha⟩
      · exact n1 (h'.subset (List.mem_cons_of_mem _ List.mem_cons_self))
      · exact n1 ha
theorem sub_or {α : Type} {a b : α} : ∀ {l : List α}, a ∈ l → b ∈ l → a ≠ b → [a, b].Sublist l ∨ [b, a].Sublist l
  | x :: l, ha, hb, hne => by
    rcases List.mem_cons.mp ha with e1 | ha2
    · rcases List.mem_cons.mp hb with e2 | hb2
      · exact absurd (e1.trans e2.symm) hne
      · exact .inl (e1 ▸ .cons_cons _ (List.singleton_sublist.mpr hb2))
    · rcases List.mem_cons.mp hb with e2 | hb2
      · exact .inr (e2 ▸ .cons_cons _ (List.singleton_sublist.mpr ha2))
      · exact (sub_or ha2 hb2 hne).imp (.cons _) (.cons _)
theorem slen_perm (l : List Str) : (slen l).Perm l := List.mergeSort_perm _ _
theorem len_tr (a b c : Str) (h1 : decide (a.length ≤ b.length) = true) (h2 : decide (b.length ≤ c.length) = true) : decide (a.length ≤ c.length) = true := by
  simp at *; omega
theorem len_tt (a b : Str) : (decide (a.length ≤ b.length) || decide (b.length ≤ a.length)) = true := by
  simp; omega
theorem slen_ord {l : List Str} (h : sortedS l = true) (hn : l.Nodup) : (slen l).Pairwise fun x y => bfr (tl x) (tl y) = true := by
  have hp := slen_perm l
  have hn2 : (slen l).Nodup := hp.nodup_iff.mpr hn
  have h1 := sorted_pw h hn
  have h2 : (slen l).Pairwise fun a b => decide (a.length ≤ b.length) = true := List.pairwise_mergeSort len_tr len_tt l
  rw [List.pairwise_iff_forall_sublist] at h1 h2 ⊢
  intro a b hs
  have hle := of_decide_eq_true (h2 hs)
  rw [len_tl, len_tl] at hle
  unfold bfr
  by_cases hlt : (tl a).length < (tl b).length
  · rw [decide_eq_true hlt]; rfl
  · have he : (tl a).length = (tl b).length := by omega
    rw [decide_eq_false hlt, decide_eq_true he]
    have hne : a ≠ b := fun e => by
      subst e
      exact sub_anti hn2 hs hs
    have ha : a ∈ l := hp.mem_iff.mp (hs.subset (by simp))
    have hb : b ∈ l := hp.mem_iff.mp (hs.subset (by simp))
    rcases sub_or ha hb hne with z | z
    · rw [decide_eq_true (h1 z)]; rfl
    · exfalso
      have : [b, a].Sublist (slen l) := List.pair_sublist_mergeSort len_tr len_tt (decide_eq_true (by rw [len_tl, len_tl]; omega)) z
      exact sub_anti hn2 hs this
theorem pf_len {α : Type} {l m : List α} (hn : l.Nodup) (hs : ∀ c ∈ l, c ∈ m) : l.length ≤ m.length := by
  classical
  induction l generalizing m with
  | nil => exact Nat.zero_le _
  | cons a l ih =>
    obtain ⟨h1, h2⟩ := List.nodup_cons.mp hn
    have ha := hs a List.mem_cons_self
    obtain ⟨s, t, rfl⟩ := List.append_of_mem ha
    have := ih (m := s ++ t) h2 fun c hc => by
      have := hs c (List.mem_cons_of_mem _ hc)
      simp only [List.mem_append, List.mem_cons] at this ⊢
      rcases this with z | z | z
      · exact .inl z
      · exact absurd (z ▸ hc) h1
      · exact .inr z
    simp only [List.length_append, List.length_cons] at this ⊢
    omega
structure slx (us zs : List (List Nat)) : Prop where
  sub : ∀ z ∈ zs, z ∈ us
  all : ∀ u ∈ us, u ∈ zs
  ord : zs.Pairwise fun a b => bfr a b = true
  nd : zs.length ≤ us.length
theorem slx_of {us : List (List Nat)} {ys : List Str} (h : sortedS ys = true) (hn : ys.Nodup) (hm : ∀ y, y ∈ ys ↔ y ∈ us.map S) : slx us ((slen ys).map tl) := by
  have hp := slen_perm ys
  refine ⟨fun z hz => ?_, fun u hu => ?_, ?_, ?_⟩
  · obtain ⟨y, hy, rfl⟩ := List.mem_map.mp hz
    obtain ⟨u, hu, e⟩ := List.mem_map.mp ((hm y).mp (hp.mem_iff.mp hy))
    rw [← e]; exact hu
  · exact List.mem_map.mpr ⟨S u, hp.mem_iff.mpr ((hm _).mpr (List.mem_map.mpr ⟨u, hu, rfl⟩)), rfl⟩
  · exact List.Pairwise.map _ (fun a b h => h) (slen_ord h hn)
  · rw [List.length_map, hp.length_eq]
    have := pf_len hn fun y hy => (hm y).mp hy
    rwa [List.length_map] at this
theorem ksl_slen (ys : List Str) : (slen ys).map V.str = ((slen ys).map tl).map fun k => V.str (S k) := by
  rw [List.map_map]; congr 1
/-! ### the first places of signs in order -/
theorem fnd_lt : ∀ {sg : List Nat}, sg.Pairwise (· < ·) → ∀ {c d : Nat}, c ∈ sg → d ∈ sg → (fnd c sg < fnd d sg ↔ c < d)
  | sg, hp, c, d, hc, hd => by
    have key : ∀ {sg : List Nat}, sg.Pairwise (· < ·) → ∀ {c d : Nat}, c ∈ sg → d ∈ sg → c < d → (bef c sg).length < (bef d sg).length := by
      intro sg
      induction sg with
      | nil => intro _ c d hc; cases hc
      | cons a sg ih =>
        intro hp c d hc hd hlt
        obtain ⟨h1, h2⟩ := List.pairwise_cons.mp hp
        rcases List.mem_cons.mp hc with e | hc2
        · subst e
          have : ¬ c = d := by omega
          simp [bef, this]
        · rcases List.mem_cons.mp hd with e | hd2
          · have := h1 c hc2; omega
          · have e1 := h1 c hc2
            have e2 := h1 d hd2
            have n1 : ¬ a = c := by omega
            have n2 : ¬ a = d := by omega
            have := ih h2 hc2 hd2 hlt
            simp only [bef] at this ⊢
            simp [n1, n2]
            simpa using this
    have e1 : fnd c sg = ((bef c sg).length : Int) := if_pos hc
    have e2 : fnd d sg = ((bef d sg).length : Int) := if_pos hd
    rw [e1, e2]
    constructor
    · intro h
      refine Decidable.byContradiction fun hn => ?_
      rcases Nat.lt_or_eq_of_le (Nat.le_of_not_lt hn) with z | z
      · have := key hp hd hc z; omega
      · subst z; omega
    · intro h
      have := key hp hc hd h; omega
theorem fnd_ge {c : Nat} {sg : List Nat} (h : c ∈ sg) : 0 ≤ fnd c sg := by
  have e1 : fnd c sg = ((bef c sg).length : Int) := if_pos h
  rw [e1]; omega
theorem fnd_in {c : Nat} {sg : List Nat} (h : 0 ≤ fnd c sg) : c ∈ sg := by
  refine Decidable.byContradiction fun hn => ?_
  have e1 : fnd c sg = -1 := if_neg hn
  rw [e1] at h; omega
theorem fnd_m1 (c : Nat) (sg : List Nat) : -1 ≤ fnd c sg := by
  unfold fnd; split <;> omega
/-! ### texts in ascending order -/
theorem dd_id {l : List Nat} : l.Pairwise (· < ·) → l.eraseDups = l := by
  induction l with
  | nil => intro _; rfl
  | cons a l ih =>
    intro h
    obtain ⟨h1, h2⟩ := List.pairwise_cons.mp h
    rw [List.eraseDups_cons]
    have e : l.filter (fun b => !b == a) = l := by
      rw [List.filter_eq_self]
      intro b hb
      have := h1 b hb
      have : b ≠ a := by omega
      simp [this]
    rw [e, ih h2]
theorem pw_srt {l : List Nat} : srt l.eraseDups = l ↔ l.Pairwise (· < ·) := by
  constructor
  · intro h
    have hp := srt_pw l.eraseDups
    have hn : (srt l.eraseDups).Nodup := (srt_perm _).nodup_iff.mpr (nd_dups l)
    rw [h] at hp hn
    exact (List.Pairwise.and hp hn).imp fun {x y} z => by omega
  · intro h
    rw [dd_id h]
    exact (srt_uniq (List.Perm.refl l) (h.imp fun z => Nat.le_of_lt z)).symm
theorem srt_lt {l : List Nat} (h : l.Nodup) : (srt l).Pairwise (· < ·) :=
  (List.Pairwise.and (srt_pw l) ((srt_perm l).nodup_iff.mpr h)).imp fun {x y} z => by omega
theorem srt_flt {l v : List Nat} (hl : l.Nodup) (hv : v.Nodup) (hs : ∀ c ∈ v, c ∈ l) : (srt l).filter (fun c => decide (c ∈ v)) = srt v := by
  refine srt_uniq ?_ ((srt_pw l).filter _)
  refine (List.perm_ext_iff_of_nodup (List.Pairwise.filter _ ((srt_perm l).nodup_iff.mpr hl)) hv).mpr fun c => ?_
  rw [List.mem_filter, (srt_perm l).mem_iff, decide_eq_true_eq]
  exact ⟨fun h => h.2, fun h => ⟨hs c h, h⟩⟩
theorem itm_all {α : Type} {xs : List α} {i : Int} {k : α → Prop} (P : α → Prop) (h0 : 0 ≤ i) (h1 : i < (xs.length : Int)) (hP : ∀ x ∈ xs, P x) (q : ∀ x, P x → k x) : itm xs i k :=
  itm_s h0 h1 fun j hj _ => q _ (hP _ (List.getElem_mem hj))
theorem itm_k {ks : List (List Nat)} {i : Int} {k : V → Prop} (h0 : 0 ≤ i) (h1 : i < (ks.length : Int)) (q : ∀ (j : Nat) (hj : j < ks.length), i = (j : Int) → k (.str (S ks[j]))) : itm (ks.map fun k => V.str (S k)) i k := by
  refine itm_s h0 (by rw [List.length_map]; exact h1) fun j hj e => ?_
  rw [List.length_map] at hj
  rw [List.getElem_map]
  exact q j hj e
theorem flat_k : ∀ ks : List (List Nat), (ks.map fun k => V.str (S k)).all flatV = true
  | [] => rfl
  | k :: ks => by rw [List.map_cons, List.all_cons, flat_k ks]; rfl
theorem inV_k (a : List Nat) (ks : List (List Nat)) : inV (.str (S a)) (ks.map fun k => V.str (S k)) = decide (a ∈ ks) := by
  have h := inV_str (S a) (ks.map S)
  rw [List.map_map] at h
  refine h.trans (decide_eq_decide.mpr ?_)
  rw [List.mem_map]
  exact ⟨fun ⟨b, hb, e⟩ => by have : b = a := congrArg tl e; exact this ▸ hb, fun h => ⟨a, h, rfl⟩⟩
theorem lt_app {x y : Nat} {s t : List Nat} (h : x ≠ y) : ∀ p : List Nat, (p ++ x :: s < p ++ y :: t ↔ x < y)
  | [] => by
    rw [List.nil_append, List.nil_append, List.cons_lt_cons_iff]
    exact ⟨fun z => z.resolve_right fun w => h w.1, .inl⟩
  | c :: p => by
    rw [List.cons_append, List.cons_append, List.cons_lt_cons_iff, lt_app h p]
    exact ⟨fun z => z.elim (fun w => absurd w (Nat.lt_irrefl _)) (·.2), fun z => .inr ⟨rfl, z⟩⟩
theorem cut_at {l : List Nat} {i : Nat} (h : i < l.length) : l = l.take i ++ l[i] :: l.drop (i + 1) := by
  rw [← List.drop_eq_getElem_cons h, List.take_append_drop]
theorem pw_at {l : List Nat} {i c : Nat} (hp : l.Pairwise (· < ·)) (h : i < l.length) (hc : c ∈ l.take i) : c < l[i] := by
  rw [cut_at h, List.pairwise_append] at hp
  exact hp.2.2 c hc _ List.mem_cons_self
end Ta

set_option Elab.async false
set_option linter.all false
set_option maxRecDepth 100000
set_option maxHeartbeats 1000000
namespace Ta
open PySem PySem.Spec PyProof.Rows L2 ClX

/-! ### at a def's code: super().m(..) of an own class -/
structure PAt (X : Cx) (body sts : List Stmt) (t : TS) : Prop where
  run : ∀ (pins : List (Addr × Obj)) (s : Shared) (σ : St) (H : Hp) (D : Ends), Inv X pins σ H s → t D σ H → PySem.wpAt (model X.prog X.w) X.A (.func body X.env) (execs sts X.env) (SP X pins D) X.xe s
structure PAs (X : Cx) (body : List Stmt) (st : Stmt) (t : TS) : Prop where
  run : ∀ (pins : List (Addr × Obj)) (s : Shared) (σ : St) (H : Hp) (D : Ends), Inv X pins σ H s → t D σ H → PySem.wpAt (model X.prog X.w) X.A (.func body X.env) (exec st X.env) (SP X pins D) X.xe s
structure PAe (X : Cx) (body : List Stmt) (e : Expr) (t : TE) : Prop where
  run : ∀ (pins : List (Addr × Obj)) (s : Shared) (σ : St) (H : Hp) (Q : VK), Inv X pins σ H s → t σ H Q → PySem.wpAt (model X.prog X.w) X.A (.func body X.env) (eval e X.env) (EP X pins σ Q) X.xe s
section
variable {X : Cx} {body sts rest : List Stmt} {st : Stmt} {t u : TS} {e : Expr} {te : TE} {pos : Pos}
theorem pat_of (h : PSs X sts t) : PAt X body sts t := ⟨fun pins s σ H D I q => PySem.wpAt_of_wpAny (h.run pins s σ H D I q)⟩
theorem pas_of (h : PS X st t) : PAs X body st t := ⟨fun pins s σ H D I q => PySem.wpAt_of_wpAny (h.run pins s σ H D I q)⟩
theorem pat_cons (h : PAs X body st t) (hr : PAt X body rest u) : PAt X body (st :: rest) (tSeq t u) := by
  refine ⟨fun pins s σ H D I q => ?_⟩
  refine PySem.ks_wpAt_execs_cons (PySem.ks_wpAt_mono (h.run pins s σ H _ I q) (fun f s1 h1 => ?_) fun _ _ z => z)
  cases f with
  | next =>
    obtain ⟨σ1, H1, I1, q1⟩ := h1
    exact hr.run pins s1 σ1 H1 D I1 q1
  | ret v => exact h1
  | brk => exact h1
  | cont => exact h1
theorem pat_imp {t' : TS} (h : PAt X body sts t) (i : ∀ D σ H, t' D σ H → t D σ H) : PAt X body sts t' := ⟨fun pins s σ H D I q => h.run pins s σ H D I (i D σ H q)⟩
theorem pas_expr (h : PAe X body e te) (hi : interactive X.env = false := by rfl) (hs : swapsWith e none pos.line X.env = pure false := by rfl) : PAs X body (.Expr e pos) (tDrop te) := by
  refine ⟨fun pins s σ H D I q => ?_⟩
  refine PySem.ks_wpAt_Expr_any (PySem.ks_wpAt_mono (h.run pins s σ H _ I q) (fun v s1 h1 => ?_) fun _ _ z => z) hi hs
  obtain ⟨x, H1, I1, r1, q1⟩ := h1
  exact ⟨σ, H1, I1, q1⟩
/-- what super().m is for an object of class C, said in a def of class D -/
structure Su (P : Program) (w : World) (K : PySem.W.Frag) (mg : Str → Option Value) (base : Heap) (D C : Addr) (m : Str) (lv : Nat) (dvs : List V) (sp : Sp) : Prop where
  ex : ∃ (f : Addr) (fd : FuncData) (ps : List Str) (ds : List Value), FnOk P w K mg base (L2.CX P w) lv f fd ps sp ∧ PySem.W.ks_superIn K C D m = some (some (.ref f)) ∧ PySem.W.typeIn K (.ref f) = some (.type "function") ∧ PySem.W.fnIn K f = true ∧ Vals dvs ds ∧ Binds K fd ps ds
  sub : PySem.W.mroIn K C (.ref D) = some true
  third : PySem.W.nsIn K cStatics "thirdparty.any" = some none
theorem nocls_of {h : Heap} {x C : Addr} {ox : Obj} {od : Option Obj} (J : PySem.W.InstAt h x ox C od) : ∀ c, ox.data ≠ .cls c := fun c z => by
  have := J.no
  unfold PySem.W.notCls at this
  rw [z] at this
  cases this
theorem psup {f D : Addr} {F : NdefX.NF} {dvs : List V} {fd : FuncData} {ms : MS} {m : Str} {lv i : Nat} {W : WX} {t : TA} {p0 p1 p2 p3 : Pos} {es : List Expr} {ar : Arg} {pl : Sem Bool} (SF : SupFn X.prog X.K f F D dvs fd) (hE : X.env = NdefX.envF F f X.env.locals)
    (hsup : X.mg "super" = none) (hp : (F.params.posonlyargs ++ F.params.args).head? = some ar) (hN : X.N[i]? = some ar.arg) (hka : F.scope.names.lookup ar.arg = some .local)
    (hks : F.scope.names.lookup ("super" : Str) = some .globalImplicit) (hkc : F.scope.names.lookup ("__class__" : Str) = some .free) (hk : F.scope.kind = .function) (hmc : (m == ("__class__" : Str)) = false)
    (hms : ∀ e ∈ ms, Su X.prog X.w X.K X.mg X.base D e.1 m lv e.2.1 e.2.2) (hr : Room lv X.A) (tk : Takes X W) (ha : PA X (e :: es) t)
    (hst : starEach (e :: es) X.env = (false, eval e X.env) :: starEach es X.env := by rfl) (hpl : (backTo p3 (starEach es X.env)).any (·.1) = false := by rfl)
    (he : eval (.Call (.Attribute (.Call (.Name "super" p0) [] [] p1) m p2) (e :: es) [] p3) X.env = (do
      let ov ← attributeBase (.Call (.Name "super" p0) [] [] p1) m X.env (eval (.Call (.Name "super" p0) [] [] p1) X.env)
      standAt p2.atName
      let (f, first) ← holding [ov] (getMethod ov m pl)
      callWith p3 f first (backTo p3 (starEach (e :: es) X.env)) []) := by rfl) :
    PAe X F.body (.Call (.Attribute (.Call (.Name "super" p0) [] [] p1) m p2) (e :: es) [] p3) (tMe ms m W (tV i) t) := by
  refine ⟨fun pins s σ H Q I h => ?_⟩
  have hV : ∃ x, σ[i]? = some (some x) ∧ (fun x H1 => match x with
      | .ref a => look H1 a fun o => (match o with
        | some (.ins C dx fs) => pick ms C fun dvs sp => fs.lookup m = none ∧ t σ H1 fun vs H2 => sp (.ref a :: (vs ++ dvs)) H2 Q fun c d H' => W c d σ H'
        | _ => False)
      | _ => False) x H := by
    obtain ⟨x, e1, e2⟩ := tV_e h
    exact ⟨x, e1, e2⟩
  obtain ⟨x, hσ, q⟩ := hV
  cases x with
  | ref a =>
    obtain ⟨C, dx, fs, ea, en, hen, eC, l, q⟩ := tMe_e (k := fun dvs sp fs => fs.lookup m = none ∧ t σ H fun vs H2 => sp (.ref a :: (vs ++ dvs)) H2 Q fun c d H' => W c d σ H') q
    obtain ⟨⟨g, gd, ps, ds, FO, hsi, hty, hfn, hvd, hb⟩, hsub, h3⟩ := hms en hen
    subst eC
    obtain ⟨mA, O, _⟩ := ins_get I.hok ea
    obtain ⟨od, J, _⟩ := O.look
    have hnc := nocls_of J
    refine PySem.ks_wpAt_MethodCall (pl := pl) (sup_base SF hE I hsup hp i hN hσ hka J.at_ J.cls hnc hsub hks hkc hk hmc fun so s1 hso kp I1 => ?_) he
    have KX1 : X.K.In s1.heap := I1.kIn
    unfold PySem.W.ks_superIn at hsi
    cases hcl : PySem.W.clsIn X.K en.1 with
    | none => rw [hcl] at hsi; cases hsi
    | some cd =>
      rw [hcl] at hsi
      obtain ⟨of, hof, hofc⟩ : ∃ of, s1.heap.get? g = some of ∧ of.cls = .type "function" := by
        have ht : (X.K.lookup g).map (·.cls) = some (.type "function") := hty
        cases z : X.K.lookup g with
        | none => rw [z] at ht; cases ht
        | some of => rw [z] at ht; exact ⟨of, KX1 _ _ z, Option.some.inj ht⟩
      have hxC : a ≠ en.1 := PySem.W.ks_ne I.kIn J hcl
      obtain ⟨h1, g1, d1, t1', os1⟩ := s1
      refine PySem.ks_wpAny_getMethod_super hso (PySem.W.looks_opaque KX1 h3) (l₀ := cd.mro) ?_ rfl KX1 hsi hof hofc hxC hmc ?_
      · exact fun A Q E s k q => wpAny_bind ((PySem.W.looks_clsIn KX1 hcl) A _ E s k (wpAny_pure q))
      · have I2 : Inv X ((h1.objs.size, PySem.W.methodObj (.ref g) (.ref a)) :: pins) σ H ⟨h1.push (PySem.W.methodObj (.ref g) (.ref a)), g1, d1, t1' + 1, os1⟩ :=
          pin_new I1 (fun _ _ z => Heap.get?_push_of_some _ z) (Nat.le_refl _) (Heap.get?_push_size h1 rfl) (fun v z => nomatch z)
        have hq := pin_at I2
        have hb0 : X.base.get? h1.objs.size = none := base_none I1 (Nat.le_refl _)
        have hL : h1.objs.size ≠ X.env.locals := (I2.pin (h1.objs.size, PySem.W.methodObj (.ref g) (.ref a)) (List.mem_append_right _ List.mem_cons_self)).2.2.1
        refine PySem.W.callWith_M (K := X.K) (h₀ := X.base) (first := []) I.ok.mod.kin (news_at hL hb0 hq) List.mem_cons_self hfn (thn (ha.run p3 _ _ σ H _ I2 q) fun us s2 hv => ?_) hst hpl
        obtain ⟨vs, H2, I3, r, q2⟩ := hv
        refine ⟨⟨pin_at I3, I3.kIn⟩, ?_⟩
        have r2 : Vals ((.ref a :: vs) ++ en.2.1) ((.ref a :: us) ++ ds) := L2.Vals.append (Paired.cons rfl r) hvd
        have hl : ((.ref a :: us) ++ ds).length = ps.length := by rw [← r2.length]; exact FO.len _ _ _ _ q2
        have z : wpAny (model X.prog X.w) X.A (call (.ref h1.objs.size) us) (EP X ((h1.objs.size, PySem.W.methodObj (.ref g) (.ref a)) :: pins) σ Q) X.xe s2 := by
          refine wpAny_call (PySem.W.method_call (pin_at I3) (codeAny_mono (FO.run X.A X.stack s2 H2 ⟨.ref a :: us, []⟩ ((.ref a :: us) ++ ds) ((.ref a :: vs) ++ en.2.1) Q (WE W σ) hr I3.env0 (hb s2 (.ref a :: us) I3.kIn hl) r2 q2) fun r s' hq => ?_))
          cases r with
          | error er => exact passAt tk σ _ _ _ er s' I3 hq
          | ok fl =>
            cases fl with
            | ret u => exact I3.after hq
            | next => exact False.elim hq
            | brk => exact False.elim hq
            | cont => exact False.elim hq
        exact thn z fun _ _ y => unpinE y
  | _ => exact False.elim q
end
section
variable {P : Program} {w : World} {K : PySem.W.Frag} {mg : Str → Option Value} {base : Heap}
theorem fn_supA {f D : Addr} {F : NdefX.NF} {fd : FuncData} {N ps : List Str} {sp : Sp} {k : Nat} {dvs : List V} (SF : SupFn P K f F D dvs fd) (S : NdefX.NScope N ps ["__class__"] F.scope)
    (len : ∀ vs H Q E, sp vs H Q E → vs.length = ps.length)
    (t : WX → TS) (term : ∀ (A : Around) (outer : List Env) (s : Shared) (H : Hp) (E : XK), Room k (A.deeper (NdefX.envF F f s.heap.objs.size)) → PAt (NdefX.ncx (L2.CX P w) P w K mg base N F f A outer s H E) F.body F.body (t (WD E)))
    (rd : ∀ vs H Q E, sp vs H Q E → t (WD E) (EndD Q) (NdefX.startF N vs [some (.ref D)]) H) :
    FnOk P w K mg base (L2.CX P w) (k + 1) f fd ps sp := by
  obtain ⟨cc, oc, od, an, dV, kV, doc, pm, ct, osl, hcl, rfl, lk, hD, cl, cld, csl, hcell⟩ := SF.ex
  refine ⟨len, fun A outer s H args us vs Q E hr e0 hb r hsp => ?_⟩
  have hl := len _ _ _ _ hsp
  have KX : K.In s.heap := e0.mod.kin.keeps fun b o e => (e0.bs b o e).1
  have lim : s.heap.NoLimit := e0.mod.nolimit.keeps fun b o e => (e0.bs b o e).1
  have C : NdefX.CellsAt F.cl ["__class__"] [some (.ref D)] s.heap H := by
    rw [hcl]
    have hK : ∀ y c, ([("__class__", cc)] : List (Str × Addr)).lookup y = some c → y = "__class__" ∧ c = cc := fun y c e => by
      simp only [List.lookup] at e
      split at e
      · rename_i hb; cases e; exact ⟨eq_of_beq hb, rfl⟩
      · cases e
    refine ⟨rfl, fun y c e => ?_, fun x y c e1 e2 => (hK x c e1).1.trans (hK y c e2).1.symm, fun i y e => ?_⟩
    · obtain ⟨_, rfl⟩ := hK y c e
      exact ⟨(e0.bs _ _ (e0.mod.kin _ _ hcell)).2, _, _, KX _ _ hcell, rfl⟩
    · cases i with
      | zero =>
        have e' : y = "__class__" := by simpa using e.symm
        subst e'
        refine ⟨cc, by simp [List.lookup], fun v hv => ?_⟩
        have hv' : V.ref D = v := by simpa using hv
        subst hv'
        exact ⟨.ref D, rfl, _, KX _ _ hcell, rfl⟩
      | succ i => simp at e
  refine PySem.ks_codeAny_call_defAt hr.depth (KX _ _ lk) rfl lim (PySem.W.codeRec_of KX SF.cd) (body := F.body) rfl hb S.nocell (fun ⟨n, v⟩ hy => S.par n (List.of_mem_zip hy).1) (fun h₁ hns kp => ?_) S.co S.gen S.kind
  have ht := term A outer s H E (hr.deeper _)
  have hq := rd _ _ _ _ hsp
  have I : Inv (NdefX.ncx (L2.CX P w) P w K mg base N F f A outer s H E) [] (NdefX.startF N vs [some (.ref D)]) H { s with heap := h₁, toks := s.toks + (ps.zip us).length } := NdefX.inv_startN S hr.hd e0 hl r C hns kp
  have fin : ∀ {s' : Shared} {σ' : L2.St} {H' : Hp} {v : V} {u : Value}, Inv (NdefX.ncx (L2.CX P w) P w K mg base N F f A outer s H E) [] σ' H' s' → RelV v u → Q v H' → CE outer P w H s Q u s' :=
    fun {s' σ' H' v u} J rv q => ⟨v, H', J.os, J.bare, J.base, J.hok, rv, q⟩
  have key : PySem.wpAt (model P w) (A.deeper (NdefX.envF F f s.heap.objs.size)) (.func F.body (NdefX.envF F f s.heap.objs.size)) (execs F.body (NdefX.envF F f s.heap.objs.size))
      (fun fl s' => CR (L2.CX P w) outer P w H s Q E (.ok (.ret (match fl with | .ret v => v | _ => .none))) s') (NdefX.ncx (L2.CX P w) P w K mg base N F f A outer s H E).xe { s with heap := h₁, toks := s.toks + (ps.zip us).length } := by
    refine PySem.ks_wpAt_mono (ht.run [] _ _ H _ I hq) (fun fl s2 h2 => ?_) fun _ _ z => z
    cases fl with
    | ret u =>
      obtain ⟨v, σ', H', J, rv, q⟩ := h2
      exact fin J rv q
    | next =>
      obtain ⟨σ', H', J, q⟩ := h2
      exact fin (v := V.non) (u := Value.none) J rfl q
    | brk =>
      obtain ⟨_, _, _, q⟩ := h2
      exact False.elim q
    | cont =>
      obtain ⟨_, _, _, q⟩ := h2
      exact False.elim q
  exact key
theorem takesN {N : List Str} {F : NdefX.NF} {f : Addr} {A : Around} {outer : List Env} {s : Shared} {H : Hp} {E : XK} :
    Takes (NdefX.ncx (L2.CX P w) P w K mg base N F f A outer s H E) (WD E) := takes_of rfl rfl rfl rfl
theorem ownN {N : List Str} {F : NdefX.NF} {f : Addr} {A : Around} {outer : List Env} {s : Shared} {H : Hp} {E : XK} :
    PassesOwn (model P w) (NdefX.ncx (L2.CX P w) P w K mg base N F f A outer s H E).A (NdefX.ncx (L2.CX P w) P w K mg base N F f A outer s H E).env (NdefX.ncx (L2.CX P w) P w K mg base N F f A outer s H E).xe := PassesOwn.leaving
end
end Ta

set_option Elab.async false
set_option linter.all false
set_option maxRecDepth 100000
set_option maxHeartbeats 1000000
namespace Ta
open PySem PySem.Spec PyProof.Rows L2

/-! ### x[::-1] -/
section
variable {X : Cx} {e : Expr} {te : TE}
theorem rev_made (x : Str) (t u : Tok) : sliceMade x t none none (some (-1, u)) = .str (S (tl x).reverse) := by
  have e : slicePicked x none none (some (-1, u)) = (List.range x.length).reverse := by
    show Builtin.Str.strSliceIndices none none (-1) x.length = _
    show sliceRange ((x.length : Int) - 1) (-1) (-1) = _
    rw [PySem.W.krv_sliceRange, PySem.W.krv_range]
  unfold sliceMade
  rw [if_neg (by simp)]
  rw [e, List.filterMap_reverse]
  have h : (List.range x.length).filterMap (x.cps[·]?) = tl x := PySem.W.krv_all x.cps
  rw [h]
def tRev (te : TE) : TE := fun σ H Q => te σ H fun x H1 => match x with
  | .str z => (tl z).length ≤ 1000000 ∧ Q (.str (S (tl z).reverse)) H1
  | .ref a => look H1 a fun o => (match o with
    | some (.lst xs) => ∀ p, H1 p = none → Q (.ref p) (upd H1 p (.lst xs.reverse))
    | _ => False)
  | _ => False
theorem prev {k : Nat} {p1 p2 p3 pos : Pos} (he : PE X e te) : PE X (.Subscript e (.Slice none none (some (.UnaryOp .USub (.Constant (.int 1) k p1) p2)) p3) pos) (tRev te) := by
  refine ⟨fun pins s σ H Q I h => ?_⟩
  refine Subscript_ (thn (he.run pins s σ H _ I h) fun v s1 hv => ?_)
  obtain ⟨x, H1, I1, r1, q1⟩ := hv
  have hneg : PO X (some (.UnaryOp .USub (.Constant (.int 1) k p1) p2)) (tPart (tUn (rU fun i => .int (-i)) (tC (.int 1)))) := po_some (pe_un un_neg pe_int)
  refine wpAny_Slice (thn (po_none.run pins s1 σ H1 (fun o H2 => o = none ∧ H2 = H1) I1 ⟨rfl, rfl⟩) fun lo s2 h2 => ?_)
  obtain ⟨l, H2, I2, pl, el, e2⟩ := h2
  subst el e2
  refine thn (po_none.run pins s2 σ H2 (fun o H3 => o = none ∧ H3 = H2) I2 ⟨rfl, rfl⟩) fun hi s3 h3 => ?_
  obtain ⟨u, H3, I3, pu, eu, e3⟩ := h3
  subst eu e3
  refine thn (hneg.run pins s3 σ H3 (fun o H4 => o = some (-1) ∧ H4 = H3) I3 ⟨1, rfl, -1, rfl, rfl, rfl⟩) fun vs s4 h4 => ?_
  obtain ⟨o, H4, I4, ps, eo, e4⟩ := h4
  subst eo e4
  have I5 : Inv X pins σ H4 { s4 with heap := s4.heap.push { cls := .type "slice", data := .fields #[lo, hi, vs] } } := I4.kept (t' := s4.toks) fun b oo q => Heap.get?_push_of_some _ q
  cases x with
  | str z =>
    obtain ⟨hzz, q⟩ := q1
    obtain ⟨t, rfl⟩ := r1
    obtain ⟨u, rfl⟩ : ∃ u, vs = Value.int (-1) u := by
      cases ps with
      | int i u => exact ⟨u, rfl⟩
    cases pl
    cases pu
    show wpAny (model X.prog X.w) X.A (subscriptTail e (.Slice none none (some (.UnaryOp .USub (.Constant (.int 1) k p1) p2)) p3) (.str z t) (.ref s4.heap.objs.size)) (EP X pins σ Q) X.xe { s4 with heap := s4.heap.push { cls := .type "slice", data := .fields #[.none, .none, .int (-1) u] } }
    refine tail_any (ops := [.str z t, .ref s4.heap.objs.size]) (typeIs_str _ z t) (PySem.F.slot_str_getitem.lookup) ?_ (by with_unfolding_all rfl)
    refine wpAny_getItem_str_slice (l := none) (u := none) (st := some (-1, u)) ⟨_, Heap.get?_push_size _ rfl, rfl, rfl⟩ rfl ?_
    rw [rev_made]
    exact ⟨by rw [len_tl]; show (tl z).reverse.length ≤ _; rw [List.length_reverse, sizeLine_eq]; omega, .str (S (tl z).reverse), H4, I5.tok _, ⟨_, rfl⟩, q⟩
  | ref a =>
    have q1 := look_e q1
    cases ea : H4 a with
    | none => rw [ea] at q1; exact q1.elim
    | some oo =>
      rw [ea] at q1
      cases oo with
      | lst xs =>
        cases r1
        have hx : SqL X.K H4 a xs := SqL.of ea
        obtain ⟨us, rr, hus, hzz⟩ := I5.list hx
        have hul := rr.length
        show wpAny (model X.prog X.w) X.A (subscriptTail e (.Slice none none (some (.UnaryOp .USub (.Constant (.int 1) k p1) p2)) p3) (.ref a) (.ref s4.heap.objs.size)) (EP X pins σ Q) X.xe { s4 with heap := s4.heap.push { cls := .type "slice", data := .fields #[lo, hi, vs] } }
        refine tail_any (ops := [.ref a, .ref s4.heap.objs.size]) hus.isList.typeIs (PySem.slot_list_getitem.lookup) ?_ (by with_unfolding_all rfl)
        refine wpAny_getItem_list_slice hus.isList (Heap.IsSliceOf.new _ lo hi vs) pl pu ps (by decide) ?_ (by rw [List.size_toArray]; omega)
        rw [PySem.W.krv_pick]
        refine ⟨.ref _, _, I5.laid (t' := s4.toks) (o := .lst xs.reverse) (fun b oo q => Heap.get?_push_of_some _ q) (Nat.le_refl _) ?_, rfl, q1 _ (I5.hok.fresh (Nat.le_refl _))⟩
        exact ⟨by rw [List.length_reverse]; exact hzz, _, 0, rr.reverse, Heap.get?_push_size _ rfl⟩
      | _ => exact q1.elim
  | _ => exact False.elim q1
end
end Ta

set_option Elab.async false
set_option linter.all false
set_option maxRecDepth 100000
set_option maxHeartbeats 1000000
namespace Ta
open PySem PySem.Spec PyProof.Rows L2

/-! ### x[i] += e (x a list) and name += e -/
section
variable {X : Cx}
def zGetL : V → V → Hp → VK → Prop := fun o i H Q => match o with
  | .ref p => (match i with
    | .int k => look H p fun ob => (match ob with
      | some (.lst xs) => itm xs k fun v => Q v H
      | _ => False)
    | _ => False)
  | _ => False
theorem getp : PGet X zGetL := by
  intro pins s σ H o i ov iv Q I ro ri h
  cases o with
  | ref p =>
    cases i with
    | int k =>
      have h := look_e h
      revert h
      cases e : H p with
      | none => exact fun h => h.elim
      | some ob =>
        cases ob with
        | lst xs =>
          intro h
          obtain ⟨z, he, q⟩ := itm_e h
          cases ro
          obtain ⟨t, rfl⟩ := ri
          obtain ⟨its, r, pl, hz⟩ := I.list (SqL.of (K := X.K) e)
          obtain ⟨j, h1, h2, h3, h4, h5⟩ := atI_get he
          obtain ⟨w, ew, rw'⟩ := r.get h2
          have hl := r.length
          have hn := line63
          have fin : EP X pins σ Q w s := ⟨z, H, I, rw', q⟩
          by_cases h0 : 0 ≤ k
          · have hj : k.toNat = j := by
              rw [seqIndex_of h0 h5] at h1
              exact Option.some.inj h1
            exact wpAny_getItem_list pl.isList h0 (by omega) (by rw [hj]; simpa using ew) fin
          · have hj : (k + (its.toArray.size : Int)).toNat = j := by
              rw [seqIndex_neg (by omega) h4] at h1
              rw [List.size_toArray, ← hl]
              exact Option.some.inj h1
            exact wpAny_getItem_list_neg pl.isList (by omega) (by rw [List.size_toArray] <;> omega) (by omega) (by rw [hj]; simpa using ew) fin
        | _ => exact fun h => h.elim
    | _ => exact h.elim
  | _ => exact h.elim
/-- ints, added in place -/
def zIadd : TIp := fun x y H Q => match x with
  | .int i => (match y with
    | .int j => Q (.int (i + j)) H
    | _ => False)
  | _ => False
theorem ipadd : PIp X .Add zIadd := by
  intro pins s σ H x y v u Q I r1 r2 h
  cases x with
  | int i => cases y with
    | int j => exact ip_add pins s σ H (.int i) (.int j) v u Q I r1 r2 ⟨i, j, rfl, rfl, h⟩
    | _ => exact h.elim
  | _ => exact h.elim
variable {o i e : Expr} {to ti te : TE} {tpos pos : Pos}
def tAugI (to ti te : TE) : TS := fun D σ H => to σ H fun o H1 => ti σ H1 fun i H2 => zGetL o i H2 fun x H3 => te σ H3 fun y H4 => zIadd x y H4 fun z H5 => zSetP o i z H5 fun H6 => D.nx σ H6
theorem psaugi (ho : PE X o to) (hi : PE X i ti) (he : PE X e te)
    (ha : ∀ ov iv new, augStore i ov iv new = (do holding [new, ov, iv] (setItem ov iv new); release [new, ov, iv] []; pure .next) := by intros; rfl) : PS X (.AugAssign (.Subscript o i tpos) .Add e pos) (tAugI to ti te) :=
  ps_augS ho hi getp he ipadd setp ha
def tAugN (i : Nat) (te : TE) : TS := fun D σ H => match σ[i]? with
  | some (some x) => te σ H fun y H1 => zIadd x y H1 fun z H2 => D.nx (σ.set i (some z)) H2
  | _ => False
theorem psaugn {i : Nat} {x : Str} {pos' : Pos} (hN : X.N.Nodup) (he : PE X e te) (hi : X.N[i]? = some x := by rfl) (hx : Loc X.env.scope x := by first | exact Or.inl rfl | exact Or.inr rfl) (hf : X.fn x = true ∨ X.env.scope.names.lookup x = some .local := by first | exact .inl rfl | exact .inr rfl | assumption) :
    PS X (.AugAssign (.Name x pos') .Add e pos) (tAugN i te) := by
  refine ⟨fun pins s σ H D I h => ?_⟩
  cases ex : σ[i]? with
  | none => unfold tAugN at h; rw [ex] at h; exact h.elim
  | some ov =>
    cases ov with
    | none => unfold tAugN at h; rw [ex] at h; exact h.elim
    | some v =>
      unfold tAugN at h; rw [ex] at h
      exact (ps_aug (pos := pos) hN hi hx he ipadd hf).run pins s σ H D I ⟨v, ex, h⟩
end
end Ta

set_option Elab.async false
set_option linter.all false
set_option maxRecDepth 100000
set_option maxHeartbeats 1000000
namespace Ta
open PySem PySem.Spec PyProof.Rows L2

/-! ### len of an instance of an own class -/
def zLenO (C : Addr) (sp : Sp) : List V → Hp → VK → Prop := fun xs H Q => one xs fun x => match x with
  | .ref a => look H a fun o => (match o with
    | some (.ins C1 dx fs) => C1 = C ∧ sp [.ref a] H (fun v H' => match v with
      | .int i => 0 ≤ i ∧ i < 4611686018427387904 ∧ Q (.int i) H'
      | _ => False) fun _ _ _ => False
    | _ => False)
  | _ => False
section
variable {X : Cx}
/-- a call from within a builtin -/
theorem run_in1 {k : Nat} {f : Addr} {fd : FuncData} {ps : List Str} {sp : Sp} {ds : List Value} {dvs : List V} {E : St → XK} {CX : CXT} {pins : List (Addr × Obj)} {σ : St} {H : Hp} {s : Shared} {Q : VK} {us : List Value} {vs : List V} (F : FnOk X.prog X.w X.K X.mg X.base CX k f fd ps sp) (hr : Room (k + 1) X.A) (hb : Binds X.K fd ps ds) (hd : Vals dvs ds) (hx : PassesAt CX X σ (E σ))
    (I : Inv X pins σ H s) (r : Vals vs us) (h : sp (vs ++ dvs) H Q (E σ)) : wpAny (model X.prog X.w) X.A.in1 (call (.ref f) us) (EP X pins σ Q) X.xe s := by
  have r2 : Vals (vs ++ dvs) (us ++ ds) := r.append hd
  have hl : (us ++ ds).length = ps.length := by rw [← r2.length]; exact F.len _ _ _ _ h
  refine wpAny_call (codeAny_mono (F.run X.A.in1 X.stack s H ⟨us, []⟩ (us ++ ds) (vs ++ dvs) Q (E σ) hr.in1 I.env0.in1 (hb s us I.kIn hl) r2 h) fun r s' hq => ?_)
  cases r with
  | error e => exact hx pins H s e s' I hq
  | ok fl =>
    cases fl with
    | ret u => exact I.after hq
    | next => exact False.elim hq
    | brk => exact False.elim hq
    | cont => exact False.elim hq
theorem crlenO {C : Addr} {lv : Nat} {sp : Sp} (M : Me X.prog X.w X.K X.mg X.base C "__len__" lv [] sp) (hr : Room (lv + 1) X.A) : CallR X (.builtin "len") (zLenO C sp) := by
  intro pins s σ H xs us Q I r h
  obtain ⟨x, rfl, h⟩ := one_e h
  obtain ⟨u, rfl, rx⟩ := vals1 r
  cases x with
  | ref a =>
    have h := look_e h
    cases ea : H a with
    | none => rw [ea] at h; exact h.elim
    | some o =>
      rw [ea] at h
      cases o with
      | ins C1 dx fs =>
        obtain ⟨e1, h3⟩ := h
        subst e1
        cases rx
        obtain ⟨⟨f, fd, ps, ds, F, hm, hd, hb⟩, cl⟩ := M
        cases hd
        obtain ⟨mA, J, _⟩ := ins_get I.hok ea
        obtain ⟨od, J, _⟩ := J.look
        refine Calls.call_function_entry kind_len plain_len entry_len (args_len1 _) ?_
        unfold Builtin.«len»
        refine wpAny_bind (m := oneArg "len" _) (wpAny_pure ?_)
        refine wpAny_bind (m := callSpecial? (.ref a) (Str.ofString "__len__")) (PySem.W.special_fn I.kIn J hm.at_ (beq_iff_eq.mp hm.fn) ?_)
        refine wpAny_mono (run_in1 (E := WE WF) (us := [.ref a]) (vs := [.ref a]) F hr hb .nil (passAt takes0 σ) I (.cons rfl .nil) h3) (fun r s' q => ?_) fun _ _ z => z
        obtain ⟨z, H', I', rz, q⟩ := q
        cases z with
        | int i =>
          obtain ⟨t, rfl⟩ := rz
          obtain ⟨h0, h1, q⟩ := q
          show wpAny _ _ _ _ _ _
          refine wpAny_bind (wpAny_holding (wpAny_pure ?_))
          refine wpAny_bind (wpAny_letGo ?_)
          show wpAny _ _ (if i < 0 then _ else _) _ _ _
          rw [if_neg (by omega)]
          show wpAny _ _ (if i ≥ 2 ^ 63 then _ else _) _ _ _
          rw [if_neg (by omega)]
          exact wpAny_bind (wpAny_mkInt (wpAny_pure ⟨_, rfl, .int i, H', I'.tok _, ⟨_, rfl⟩, q⟩))
        | _ => exact q.elim
      | _ => exact h.elim
  | _ => exact h.elim
end
end Ta

set_option Elab.async false
set_option linter.all false
set_option maxRecDepth 100000
set_option maxHeartbeats 1000000
namespace Ta
open PySem PySem.Spec PyProof.Rows L2

/-! ### sorted(x), x a text or a list of signs -/
structure sgl (vs : List V) (k : List Nat → Prop) : Prop where
  out : ∃ l : List Nat, vs = sgn l ∧ k l
theorem sgl_i {l : List Nat} {k : List Nat → Prop} (q : k l) : sgl (sgn l) k := by refine ⟨?_⟩; exact ⟨l, rfl, q⟩
theorem sgl_e {vs : List V} {k : List Nat → Prop} (h : sgl vs k) : ∃ l : List Nat, vs = sgn l ∧ k l := by replace h := h.out; exact h
def zSrt2 (x : V) (H : Hp) (Q : VK) : Prop := match x with
  | .str z => (tl z).length < 64 ∧ ∀ p, H p = none → Q (.ref p) (upd H p (.lst (sgn (srt (tl z)))))
  | .ref a => look H a fun o => (match o with
    | some (.lst vs) => sgl vs fun l => l.length < 64 ∧ ∀ p, H p = none → Q (.ref p) (upd H p (.lst (sgn (srt l))))
    | _ => False)
  | _ => False
def zSort2 : List V → Hp → VK → Prop := fun xs H Q => one xs fun x => zSrt2 x H Q
section
variable {X : Cx}
theorem crsort2 (hcalm : X.calm = true) : CallR X (.builtin "sorted") zSort2 := by
  intro pins s σ H xs us Q I r q
  obtain ⟨x, rfl, q⟩ := one_e q
  cases x with
  | str z => exact crsort hcalm pins s σ H _ us Q I r q
  | ref a =>
    have q := look_e q
    cases ea : H a with
    | none => rw [ea] at q; exact q.elim
    | some o =>
      rw [ea] at q
      cases o with
      | lst vs =>
        obtain ⟨l, rfl, h64, q⟩ := sgl_e q
        have ev : ∀ l : List Nat, (l.map fun c => S [c]).map V.str = sgn l := fun l => by unfold sgn; rw [List.map_map]; rfl
        refine cr_sortedS pins s σ H _ us Q I r ⟨a, l.map fun c => S [c], rfl, .inl (.inl ?_), by rw [List.length_map]; exact h64, fun ys p g2 g3 hp => ?_⟩
        · rw [ev]; exact ea
        · obtain ⟨l', rfl, pl⟩ := perm_map_inv g2
          have el : l' = srt l := srt_uniq pl (sorted_one l' g3)
          subst el
          rw [ev]; exact q p hp
      | _ => exact q.elim
  | _ => exact q.elim
end
/-- over a list, any target -/
theorem loop_lg {xs : List V} {p : Addr} {g : TG} {tb : TS} {D : Ends} {σ : St} {H : Hp} (Pv : Nat → St → Hp → Prop) (h0 : Pv 0 σ H) (hst : ∀ i σ H, i ≤ xs.length → Pv i σ H → H p = some (.lst xs))
    (hs : ∀ i (hi : i < xs.length) σ H, Pv i σ H → g xs[i] σ H fun σ2 H2 => tb { D with nx := Pv (i + 1), ct := Pv (i + 1), bk := D.nx } σ2 H2) (hd : ∀ σ H, Pv xs.length σ H → D.nx σ H) :
    loop xs.length (itL xs) (fun H' => H' p = some (.lst xs)) g tb D σ H := by
  refine loop_i Pv h0 hst ?_ hd
  rintro i x σ H H' hi hP ⟨rfl, hx⟩
  rw [List.getElem?_eq_getElem hi] at hx
  cases hx
  exact hs i hi σ H' hP
end Ta

set_option Elab.async false
set_option linter.all false
set_option maxRecDepth 100000
set_option maxHeartbeats 1000000
namespace Ta
open PySem PySem.Spec PyProof.Rows L2

/-! ### // by a great number -/
def zDivW : R2 := zI2 CDivW fun i j => .int (i / j)
section
variable {X : Cx}
theorem opdivW : OpR X (binaryOp .FloorDiv) zDivW := op_imp op_fdivW fun _ _ _ _ h => zI2_e h
end
theorem divW {i j : Int} (h : 0 < j) (h2 : j < 1267650600228229401496703205376) : CDivW i j := wide_div (b := 100) h (by
  have e : (2 : Nat) ^ 100 = 1267650600228229401496703205376 := by decide
  rw [e]; omega) (by decide) (by decide)
/-- '' is in each text -/
theorem occ0 (b : List Nat) : occ [] b = true := (PySem.StrLaws.found_iff (S b) (S [])).mpr ⟨0, by show 0 + 0 ≤ _; omega, by simp [Builtin.Str.subAt, Str.length, S]⟩
end Ta

set_option Elab.async false
set_option linter.all false
set_option maxRecDepth 100000
set_option maxHeartbeats 1000000
namespace Ta
open PySem PySem.Spec PyProof.Rows L2
/-- a store at an index -/
theorem ixs_i {n : Nat} {r : Int} {k : Nat → Prop} (h0 : 0 ≤ r) (h1 : r < (n : Int)) (q : ∀ j : Nat, j < n → r = (j : Int) → k j) : ∃ j, ixN n r = some j ∧ k j := by
  obtain ⟨j, rfl⟩ := Int.eq_ofNat_of_zero_le h0
  have hj : j < n := by omega
  refine ⟨j, ?_, q j hj rfl⟩
  unfold ixN
  rw [if_pos (by omega), if_pos (by omega)]
  congr 1
end Ta

set_option Elab.async false
set_option linter.all false
set_option maxRecDepth 100000
set_option maxHeartbeats 4000000
namespace Lw
open PySem PySem.Spec PyProof.Rows L2 Ta
def top (i : Nat) : Stmt := PySem.Challenge.pw_talepost_k08_machine_tables.main.body.getD i (.Pass ⟨0, 0, 0, 0⟩)
structure Tx (K : PySem.W.Frag) (mg : Str → Option Value) : Prop where
  f_ValueError : mg "ValueError" = none
  f_abs : mg "abs" = none
  f_bool : mg "bool" = none
  f_int : mg "int" = none
  f_isinstance : mg "isinstance" = none
  f_len : mg "len" = none
  f_list : mg "list" = none
  f_range : mg "range" = none
  f_set : mg "set" = none
  f_sorted : mg "sorted" = none
  f_tuple : mg "tuple" = none
  v_BadTable : GlobV mg "BadTable" (.ref (He.ga K "BadTable"))
  v_BadText : GlobV mg "BadText" (.ref (He.ga K "BadText"))
  v_Mixed : GlobV mg "Mixed" (.ref (He.ga K "Mixed"))
  v_SMALL : GlobV mg "SMALL" (.str (S [97, 98, 99, 100, 101, 102, 103, 104, 105, 106, 107, 108, 109, 110, 111, 112, 113, 114, 115, 116, 117, 118, 119, 120, 121, 122]))
  v_TaleError : GlobV mg "TaleError" (.ref (He.ga K "TaleError"))
  cc_Alphabet_JOINT : ClsConst K mg "Alphabet" "JOINT" (.str (S [45]))
  cc_Alphabet_MOST : ClsConst K mg "Alphabet" "MOST" (.int 4)
  k_Alphabet : Cls K (He.ga K "Alphabet")
  k_Machine : Cls K (He.ga K "Machine")
  i_Alphabet : IsC K (He.ga K "Alphabet")
  n_Alphabet_letters : NoAttr K (He.ga K "Alphabet") "letters"
  n_Alphabet_vowels : NoAttr K (He.ga K "Alphabet") "vowels"
  n_Alphabet_consonants : NoAttr K (He.ga K "Alphabet") "consonants"
  n_Alphabet_signs : NoAttr K (He.ga K "Alphabet") "signs"
  i_Machine : IsC K (He.ga K "Machine")
  n_Machine_alphabet : NoAttr K (He.ga K "Machine") "alphabet"
  n_Machine_arcs : NoAttr K (He.ga K "Machine") "arcs"
  n_Machine_goods : NoAttr K (He.ga K "Machine") "goods"
  x_BadTable : XC K (He.ga K "BadTable")
  nx_BadTable_place : PySem.W.findIn K (.ref (He.ga K "BadTable")) "place" = some none
  e_BadTable_TaleError : PySem.W.exmOne K (.ref (He.ga K "BadTable")) (.ref (He.ga K "TaleError")) = some true
  o_BadTable_BadTable : PySem.W.kitOne K (.ref (He.ga K "BadTable")) (.ref (He.ga K "BadTable")) = some true
  o_BadTable_BadText : PySem.W.kitOne K (.ref (He.ga K "BadTable")) (.ref (He.ga K "BadText")) = some false
  o_BadTable_Mixed : PySem.W.kitOne K (.ref (He.ga K "BadTable")) (.ref (He.ga K "Mixed")) = some false
  o_BadTable_TaleError : PySem.W.kitOne K (.ref (He.ga K "BadTable")) (.ref (He.ga K "TaleError")) = some true
  o_BadTable_ValueError : PySem.W.kitOne K (.ref (He.ga K "BadTable")) (.type "ValueError") = some true
abbrev pr (a b : Int) : HO := .lst [.int a, .int b]
abbrev scr (ob : Obj) (ns : List Int) : HO := .frz ob (.lst (ns.map V.int))
abbrev AZ : List Nat := [97, 98, 99, 100, 101, 102, 103, 104, 105, 106, 107, 108, 109, 110, 111, 112, 113, 114, 115, 116, 117, 118, 119, 120, 121, 122]
def dif (l : List Nat) : Bool := decide ((dn l : Int) = (l.length : Int))
def badL (l : List Nat) : Bool := l.any (fun c => !decide (c ∈ AZ)) || !(decide (1 ≤ l.length ∧ l.length ≤ 4)) || !dif l
def badV (l v : List Nat) : Bool := v.any (fun c => !decide (c ∈ l)) || !dif v
abbrev tLet : List Nat := [108, 101, 116, 116, 101, 114, 115]
abbrev tVow : List Nat := [118, 111, 119, 101, 108, 115]
def alf (l v : List Nat) : List (Str × V) := [("letters", .str (S (srt l))), ("vowels", .str (S (srt v))), ("consonants", .str (S ((srt l).filter fun c => !decide (c ∈ v)))), ("signs", .str (S (45 :: srt l)))]
theorem badL1 {l : List Nat} (h : (sgn (l.filter fun c => !decide (c ∈ AZ))).isEmpty = false) : badL l = true := by
  rw [sgn_fe] at h
  unfold badL
  simp only [Bool.not_eq_false'] at h
  rw [h, Bool.true_or, Bool.true_or]
theorem badL2 {l : List Nat} (h : ¬ (1 : Int) ≤ (l.length : Int)) : badL l = true := by
  unfold badL
  rw [decide_eq_false (by omega : ¬ (1 ≤ l.length ∧ l.length ≤ 4)), Bool.not_false, Bool.or_true, Bool.true_or]
theorem badL3 {l : List Nat} (h : ¬ (l.length : Int) ≤ 4) : badL l = true := by
  unfold badL
  rw [decide_eq_false (by omega : ¬ (1 ≤ l.length ∧ l.length ≤ 4)), Bool.not_false, Bool.or_true, Bool.true_or]
theorem badL4 {l : List Nat} (h : ¬ (dn l : Int) = (l.length : Int)) : badL l = true := by
  unfold badL dif
  rw [decide_eq_false h, Bool.not_false, Bool.or_true]
theorem badL0 {l : List Nat} (h : (sgn (l.filter fun c => !decide (c ∈ AZ))).isEmpty = true) (h1 : (1 : Int) ≤ (l.length : Int)) (h2 : (l.length : Int) ≤ 4) (h3 : (dn l : Int) = (l.length : Int)) : badL l = false := by
  rw [sgn_fe] at h
  unfold badL dif
  simp only [Bool.not_eq_true'] at h
  rw [h, decide_eq_true (by omega : 1 ≤ l.length ∧ l.length ≤ 4), decide_eq_true h3]; rfl
theorem badV1 {l v : List Nat} (h : (sgn (v.filter fun c => !decide (c ∈ l))).isEmpty = false) : badV l v = true := by
  rw [sgn_fe] at h
  unfold badV
  simp only [Bool.not_eq_false'] at h
  rw [h, Bool.true_or]
theorem badV2 {l v : List Nat} (h : ¬ (dn v : Int) = (v.length : Int)) : badV l v = true := by
  unfold badV dif
  rw [decide_eq_false h, Bool.not_false, Bool.or_true]
theorem badV0 {l v : List Nat} (h : (sgn (v.filter fun c => !decide (c ∈ l))).isEmpty = true) (h3 : (dn v : Int) = (v.length : Int)) : badV l v = false := by
  rw [sgn_fe] at h
  unfold badV dif
  simp only [Bool.not_eq_true'] at h
  rw [h, decide_eq_true h3]; rfl
theorem dif_nd (l : List Nat) : dif l = true ↔ l.Nodup := by
  unfold dif
  rw [decide_eq_true_iff, ← dn_nodup]
  omega
theorem badL_any {l : List Nat} {c : Nat} (h : c ∈ l) (hc : ¬ c ∈ AZ) : badL l = true := by
  unfold badL
  have z : (l.any fun c => !decide (c ∈ AZ)) = true := List.any_eq_true.mpr ⟨c, h, by rw [decide_eq_false hc]; rfl⟩
  rw [z, Bool.true_or, Bool.true_or]
theorem badL_nd {l : List Nat} (h : ¬ l.Nodup) : badL l = true := by
  unfold badL
  have z : dif l = false := by
    cases e : dif l with
    | false => rfl
    | true => exact absurd ((dif_nd l).mp e) h
  rw [z, Bool.not_false, Bool.or_true]
theorem badV_any {l v : List Nat} {c : Nat} (h : c ∈ v) (hc : ¬ c ∈ l) : badV l v = true := by
  unfold badV
  have z : (v.any fun c => !decide (c ∈ l)) = true := List.any_eq_true.mpr ⟨c, h, by rw [decide_eq_false hc]; rfl⟩
  rw [z, Bool.true_or]
theorem badV_nd {l v : List Nat} (h : ¬ v.Nodup) : badV l v = true := by
  unfold badV
  have z : dif v = false := by
    cases e : dif v with
    | false => rfl
    | true => exact absurd ((dif_nd v).mp e) h
  rw [z, Bool.not_false, Bool.or_true]
theorem badL_ok {l : List Nat} (h1 : 1 ≤ l.length) (h2 : l.length ≤ 4) (h3 : l.Nodup) (h4 : ∀ c ∈ l, c ∈ AZ) : badL l = false := by
  unfold badL
  have z : (l.any fun c => !decide (c ∈ AZ)) = false := List.any_eq_false.mpr fun c hc => by rw [decide_eq_true (h4 c hc)]; decide
  rw [z, (dif_nd l).mpr h3, decide_eq_true ⟨h1, h2⟩]; rfl
theorem badV_ok {l v : List Nat} (h3 : v.Nodup) (h4 : ∀ c ∈ v, c ∈ l) : badV l v = false := by
  unfold badV
  have z : (v.any fun c => !decide (c ∈ l)) = false := List.any_eq_false.mpr fun c hc => by rw [decide_eq_true (h4 c hc)]; decide
  rw [z, (dif_nd v).mpr h3]; rfl
theorem nd_at {l : List Nat} {j : Nat} (hj : j < l.length) (h : l[j] ∈ l.take j) : ¬ l.Nodup := fun nd => by
  obtain ⟨i, hi, e⟩ := List.mem_iff_getElem.mp h
  have hi2 : i < j := by rw [List.length_take] at hi; omega
  rw [List.getElem_take] at e
  exact absurd ((List.getElem_inj nd).mp e) (by omega)
theorem nd_take {l : List Nat} {j : Nat} (hj : j < l.length) (h : ¬ l[j] ∈ l.take j) (nd : (l.take j).Nodup) : (l.take (j + 1)).Nodup := by
  rw [List.take_succ_eq_append_getElem hj]
  refine List.nodup_append.mpr ⟨nd, by simp, fun a ha b hb => ?_⟩
  rw [List.mem_singleton.mp hb]
  exact fun e => h (e ▸ ha)
theorem al_take {l m : List Nat} {j : Nat} (hj : j < l.length) (h : l[j] ∈ m) (al : ∀ c ∈ l.take j, c ∈ m) : ∀ c ∈ l.take (j + 1), c ∈ m := fun c hc => by
  rw [List.take_succ_eq_append_getElem hj] at hc
  rcases List.mem_append.mp hc with z | z
  · exact al c z
  · rw [List.mem_singleton.mp z]; exact h
/-- letters and vowels that an alphabet takes -/
def good (l v : List Nat) : Prop := badL l = false ∧ badV l v = false
abbrev wl (q : Addr) (i n k : Int) : HO := .lst [.ref q, .int i, .int n, .int k]
abbrev cel (cs : List Int) : HO := .lst (cs.map V.int)
abbrev bls (bs : List Bool) : HO := .lst (bs.map V.bl)
abbrev alo (K : PySem.W.Frag) (dA : Addr) (l v : List Nat) : HO := .ins (He.ga K "Alphabet") dA (alf l v)
theorem wlq {H : Hp} {b q q' : Addr} {i n k : Int} {cs : List Int} (hb : H b = some (wl q' i n k)) (hq : H q = some (cel cs)) : q ≠ b := fun e => by
  rw [e, hb] at hq
  have h := Option.some.inj hq
  injection h with h
  match cs, h with
  | [], h => cases h
  | c :: cs, h => cases h
abbrev Arc := List Nat × List Nat × Int
abbrev arcO (a : Arc) : HO := .tup [.str (S a.1), .str (S a.2.1), .int a.2.2]
abbrev macO (K : PySem.W.Frag) (d A p g : Addr) : HO := .ins (He.ga K "Machine") d [("alphabet", .ref A), ("arcs", .ref p), ("goods", .ref g)]
def arcP (H : Hp) (v : V) (a : Arc) : Prop := ∃ q, v = .ref q ∧ H q = some (arcO a)
def rowP (H : Hp) (q : Addr) (r : List Arc) : Prop := ∃ xs, H q = some (.lst xs) ∧ Paired (arcP H) xs r
/-- a table at p, made after G -/
structure tabP (G H : Hp) (p : Addr) (ps : List Addr) (T : List (List Arc)) : Prop where
  at_ : H p = some (.lst (ps.map V.ref))
  fr : G p = none
  frs : ∀ q ∈ ps, G q = none
  nd : (p :: ps).Nodup
  rows : Paired (rowP H) ps T
def lab (g t : List Nat) : Bool := decide (t.length < 2) && t.all fun c => decide (c ∈ g)
def okA (g : List Nat) (n : Nat) (a : Arc) : Bool := lab g a.1 && lab g a.2.1 && decide (0 ≤ a.2.2 ∧ a.2.2 < (n : Int))
def ascA (a : Arc) : Prop := a.1.length ≤ 2 ∧ a.2.1.length ≤ 2 ∧ (∀ c ∈ a.1, c < 128) ∧ ∀ c ∈ a.2.1, c < 128
/-- the first row with a bad arc -/
def fbad (g : List Nat) (n : Nat) : List (List Arc) → Nat → Option Int
  | [], _ => none
  | r :: T, i => if r.all (okA g n) = true then fbad g n T (i + 1) else some (i : Int)
def chk (g : List Nat) (T : List (List Arc)) (m : Nat) : Option Int := if T = [] ∨ T.length ≠ m then some (-1) else fbad g T.length T 0
structure chkK (K : PySem.W.Frag) (o : Option Int) (H : Hp) (q : Prop) (E : XK) : Prop where
  out : match o with
  | none => q
  | some k => ∀ d, H d = none → E (.ref (He.ga K "BadTable")) (some d) (upd H d (.xd [("place", .int k)]))
structure small (T : List (List Arc)) : Prop where
  n : T.length ≤ 60
  r : ∀ r ∈ T, r.length ≤ 9 ∧ ∀ a ∈ r, ascA a
structure tabOk (g : List Nat) (T : List (List Arc)) : Prop where
  pos : 0 < T.length
  n : T.length ≤ 60
  r : ∀ r ∈ T, r.length ≤ 4 ∧ ∀ a ∈ r, okA g T.length a = true ∧ ascA a
theorem sgn_at {F : List Nat} {j : Nat} (h : j < F.length) (h' : j < (sgn F).length) : (sgn F)[j] = .str (S [F[j]]) := by
  have e : (sgn F)[j]? = some (.str (S [F[j]])) := by
    unfold sgn
    rw [List.getElem?_map, List.getElem?_eq_getElem h]; rfl
  rw [List.getElem?_eq_getElem h'] at e
  exact Option.some.inj e

/-! is_label -/
abbrev s_is_label : Stmt := top 18
theorem sc_is_label : FnScope ["alphabet", "string"] ["alphabet", "string"] (defScope s_is_label) := ⟨rfl, rfl, rfl, by decide +kernel, rfl, by decide +kernel, by decide +kernel⟩
structure sp_is_label (K : PySem.W.Frag) (vs : List V) (H : Hp) (Q : VK) (E : XK) : Prop where
  out : ∃ (A dA : Addr) (l v t : List Nat), vs = [.ref A, .str (S t)] ∧ (H A = some (alo K dA l v)) ∧ (t.length < 1000) ∧ (Q (.bl (lab (45 :: srt l) t)) H)
theorem i_is_label {K : PySem.W.Frag} {A dA : Addr} {l v t : List Nat} {H : Hp} {Q : VK} {E : XK} (hA : H A = some (alo K dA l v)) (h1 : t.length < 1000) (q : Q (.bl (lab (45 :: srt l) t)) H) : sp_is_label K [.ref A, .str (S t)] H Q E := by
  exact ⟨⟨A, dA, l, v, t, rfl, hA, h1, q⟩⟩


def t_is_label (K : PySem.W.Frag) (W : WX) : TS :=
  (tRet (tAndE K (tOp zLt (tCB (zLen K) (tCons (tV 1) tNil)) (tC (.int 2))) (tOp (zInP K) (tV 1) (tAt K (tV 0) "signs"))))
theorem tm_is_label {P : Program} {w : World} {K : PySem.W.Frag} {mg : Str → Option Value} {base : Heap} {f : Addr} {cdv : Value} {A : Around} {outer : List Env} {s : Shared} {H : Hp} {E : XK} (T : Tx K mg) (hr : Room 4 (A.deeper (envOfC "is_label" (defScope s_is_label) s.heap.objs.size f cdv))) :
    PSs (cxOf (L2.CX P w) P w K mg base ["alphabet", "string"] "is_label" (defScope s_is_label) f cdv A outer s H E) (defBody s_is_label) (t_is_label K (WD E)) :=
  (pss_one (ps_ret (peand (pe_cmpR oplt (pcb (crlen) T.f_len (pa_cons (Ta.pv 1) pa_nil)) pe_int rfl) (pe_one (pe_cmpR opin (Ta.pv 1) (patt (Ta.pv 0)) rfl)))))
/-! check_arcs -/
abbrev s_check_arcs : Stmt := top 19
theorem sc_check_arcs : FnScope ["alphabet", "arcs", "goods", "place", "read", "write", "onward"] ["alphabet", "arcs", "goods"] (defScope s_check_arcs) := ⟨rfl, rfl, rfl, by decide +kernel, rfl, by decide +kernel, by decide +kernel⟩
structure sp_check_arcs (K : PySem.W.Frag) (vs : List V) (H : Hp) (Q : VK) (E : XK) : Prop where
  out : ∃ (A dA p g : Addr) (l v : List Nat) (G : Hp) (ps : List Addr) (R : List (List Arc)) (gs : List V), vs = [.ref A, .ref p, .ref g] ∧ (H A = some (alo K dA l v)) ∧ (tabP G H p ps R) ∧ (H g = some (.lst gs)) ∧ (gs.length < 1000) ∧ (small R) ∧ (chkK K (chk (45 :: srt l) R gs.length) H (Q .non H) E)
theorem i_check_arcs {K : PySem.W.Frag} {A dA p g : Addr} {l v : List Nat} {G : Hp} {ps : List Addr} {R : List (List Arc)} {gs : List V} {H : Hp} {Q : VK} {E : XK} (hA : H A = some (alo K dA l v)) (hT : tabP G H p ps R) (hg : H g = some (.lst gs)) (hm : gs.length < 1000) (hs : small R) (q : chkK K (chk (45 :: srt l) R gs.length) H (Q .non H) E) : sp_check_arcs K [.ref A, .ref p, .ref g] H Q E := by
  exact ⟨⟨A, dA, p, g, l, v, G, ps, R, gs, rfl, hA, hT, hg, hm, hs, q⟩⟩


def b_check_arcs_2 (K : PySem.W.Frag) (W : WX) : TS :=
  (tSeq (tIfP (tOrP (tNot (tTru K (tCal (sp_is_label K) [] W (tCons (tV 0) (tCons (tV 4) tNil))))) (tNot (tTru K (tCal (sp_is_label K) [] W (tCons (tV 0) (tCons (tV 5) tNil)))))) (tRs (He.ga K "BadTable") ["place"] W (tCons (tV 3) tNil)) tNext)
  (tIfP (tNot (tTst (tChn zLe zLt (tC (.int 0)) (tV 6) (tCB (zLen K) (tCons (tV 1) tNil))))) (tRs (He.ga K "BadTable") ["place"] W (tCons (tV 3) tNil)) tNext))
def b_check_arcs_1 (K : PySem.W.Frag) (W : WX) : TS :=
  (tForP (jA K (tOp (zIxP K) (tV 1) (tV 3))) (gTup K 3 (gCons (gName 4) (gCons (gName 5) (gCons (gName 6) gNil)))) (b_check_arcs_2 K W))
def t_check_arcs (K : PySem.W.Frag) (W : WX) : TS :=
  (tSeq (tIfP (tOrP (tNot (tTru K (tV 1))) (tTst (tOp (zNeP K) (tCB (zLen K) (tCons (tV 1) tNil)) (tCB (zLen K) (tCons (tV 2) tNil))))) (tRs (He.ga K "BadTable") ["place"] W (tCons (tUn zNeg (tC (.int 1))) tNil)) tNext)
  (tForP (jR1 (tCons (tCB (zLen K) (tCons (tV 1) tNil)) tNil)) (gName 3) (b_check_arcs_1 K W)))
theorem tm_check_arcs {P : Program} {w : World} {K : PySem.W.Frag} {mg : Str → Option Value} {base : Heap} {f : Addr} {cdv : Value} {A : Around} {outer : List Env} {s : Shared} {H : Hp} {E : XK} (T : Tx K mg) (G_is_label : Fn P w K mg base "is_label" 5 [] (sp_is_label K)) (X_BadTable : Ex P w K mg base "BadTable" (He.ga K "BadTable") ["place"]) (hr : Room 6 (A.deeper (envOfC "check_arcs" (defScope s_check_arcs) s.heap.objs.size f cdv))) :
    PSs (cxOf (L2.CX P w) P w K mg base ["alphabet", "arcs", "goods", "place", "read", "write", "onward"] "check_arcs" (defScope s_check_arcs) f cdv A outer s H E) (defBody s_check_arcs) (t_check_arcs K (WD E)) :=
  (pss_cons (psif (PW.pt (pwor (pt_not (ptru (Ta.pv 1))) (pw_or1 (ptcmp (opne hr.units) (pcb (crlen) T.f_len (pa_cons (Ta.pv 1) pa_nil)) (pcb (crlen) T.f_len (pa_cons (Ta.pv 2) pa_nil)))))) (pss_one (praise X_BadTable (hr.mono (by decide)) takesD (pa_cons (pe_un unneg pe_int) pa_nil))) pss_nil)
  (pss_one (psfor ownD rfl (pjr1 T.f_range (pa_cons (pcb (crlen) T.f_len (pa_cons (Ta.pv 1) pa_nil)) pa_nil)) (pgn 3 sc_check_arcs.nd) (pss_one (psfor ownD rfl (pja (pix (Ta.pv 1) (Ta.pv 3))) (pg_tup rfl (pgs_cons (pgn 4 sc_check_arcs.nd) (pgs_cons (pgn 5 sc_check_arcs.nd) (pgs_cons (pgn 6 sc_check_arcs.nd) pgs_nil)))) (pss_cons (psif (PW.pt (pwor (pt_not (ptru (pcall G_is_label (hr.mono (by decide)) takesD (pa_cons (Ta.pv 0) (pa_cons (Ta.pv 4) pa_nil))))) (pw_or1 (pt_not (ptru (pcall G_is_label (hr.mono (by decide)) takesD (pa_cons (Ta.pv 0) (pa_cons (Ta.pv 5) pa_nil)))))))) (pss_one (praise X_BadTable (hr.mono (by decide)) takesD (pa_cons (Ta.pv 3) pa_nil))) pss_nil)
  (pss_one (psif (pt_not (ptchn ople oplt pe_int (Ta.pv 6) (pcb (crlen) T.f_len (pa_cons (Ta.pv 1) pa_nil)))) (pss_one (praise X_BadTable (hr.mono (by decide)) takesD (pa_cons (Ta.pv 3) pa_nil))) pss_nil))))))))
/-! Machine___init__ -/
abbrev s_Machine_init : Stmt := inClass (top 26) 0
theorem sc_Machine_init : FnScope ["self", "alphabet", "arcs", "goods", "row"] ["self", "alphabet", "arcs", "goods"] (defScope s_Machine_init) := ⟨rfl, rfl, rfl, by decide +kernel, rfl, by decide +kernel, by decide +kernel⟩
structure sp_Machine_init (K : PySem.W.Frag) (vs : List V) (H : Hp) (Q : VK) (E : XK) : Prop where
  out : ∃ (M dM A dA p g : Addr) (l v : List Nat) (G : Hp) (ps : List Addr) (R : List (List Arc)) (bs : List Bool), vs = [.ref M, .ref A, .ref p, .ref g] ∧ (H M = some (.ins (He.ga K "Machine") dM [])) ∧ (H A = some (alo K dA l v)) ∧ (tabP G H p ps R) ∧ (H g = some (bls bs)) ∧ (bs.length < 1000) ∧ (small R) ∧ (chkK K (chk (45 :: srt l) R bs.length) H (∀ mp mps mg H', tabP H H' mp mps R → H mg = none → H' mg = some (bls bs) → Kp [M] H H' → H' M = some (macO K dM A mp mg) → Q .non H') E)
theorem i_Machine_init {K : PySem.W.Frag} {M dM A dA p g : Addr} {l v : List Nat} {G : Hp} {ps : List Addr} {R : List (List Arc)} {bs : List Bool} {H : Hp} {Q : VK} {E : XK} (hM : H M = some (.ins (He.ga K "Machine") dM [])) (hA : H A = some (alo K dA l v)) (hT : tabP G H p ps R) (hg : H g = some (bls bs)) (hm : bs.length < 1000) (hs : small R) (q : chkK K (chk (45 :: srt l) R bs.length) H (∀ mp mps mg H', tabP H H' mp mps R → H mg = none → H' mg = some (bls bs) → Kp [M] H H' → H' M = some (macO K dM A mp mg) → Q .non H') E) : sp_Machine_init K [.ref M, .ref A, .ref p, .ref g] H Q E := by
  exact ⟨⟨M, dM, A, dA, p, g, l, v, G, ps, R, bs, rfl, hM, hA, hT, hg, hm, hs, q⟩⟩


def t_Machine_init (K : PySem.W.Frag) (W : WX) : TS :=
  (tSeq (tDrop (tCal (sp_check_arcs K) [] W (tCons (tV 1) (tCons (tV 2) (tCons (tV 3) tNil)))))
  (tSeq (sAt K (tV 0) (tV 1) "alphabet")
  (tSeq (sAt K (tV 0) (tLcP (jA K (tV 2)) (gName 4) tYes (tCB (zListX K) (tCons (tV 4) tNil)) [4]) "arcs")
  (sAt K (tV 0) (tCB (zListX K) (tCons (tV 3) tNil)) "goods"))))
theorem tm_Machine_init {P : Program} {w : World} {K : PySem.W.Frag} {mg : Str → Option Value} {base : Heap} {f : Addr} {cdv : Value} {A : Around} {outer : List Env} {s : Shared} {H : Hp} {E : XK} (T : Tx K mg) (G_check_arcs : Fn P w K mg base "check_arcs" 7 [] (sp_check_arcs K)) (hr : Room 8 (A.deeper (envOfC "Machine.__init__" (defScope s_Machine_init) s.heap.objs.size f cdv))) :
    PSs (cxOf (L2.CX P w) P w K mg base ["self", "alphabet", "arcs", "goods", "row"] "Machine.__init__" (defScope s_Machine_init) f cdv A outer s H E) (defBody s_Machine_init) (t_Machine_init K (WD E)) :=
  (pss_cons (ps_expr (pcall G_check_arcs (hr.mono (by decide)) takesD (pa_cons (Ta.pv 1) (pa_cons (Ta.pv 2) (pa_cons (Ta.pv 3) pa_nil)))))
  (pss_cons (psat (Ta.pv 0) (Ta.pv 1))
  (pss_cons (psat (Ta.pv 0) (plc [("row", 4)] rfl sc_Machine_init.nd (pja (Ta.pv 2)) (by kernel_rfl) (fun _ _ _ _ _ => (pgn 4 sc_Machine_init.nd)) (fun _ _ _ _ _ => pts_nil) (fun _ _ _ _ _ => (pct (crlistX rfl) T.f_list (pa_cons (Ta.pv 4) pa_nil)))))
  (pss_one (psat (Ta.pv 0) (pct (crlistX rfl) T.f_list (pa_cons (Ta.pv 3) pa_nil)))))))
/-! Machine___len__ -/
abbrev s_Machine_len : Stmt := inClass (top 26) 4
theorem sc_Machine_len : FnScope ["self"] ["self"] (defScope s_Machine_len) := ⟨rfl, rfl, rfl, by decide +kernel, rfl, by decide +kernel, by decide +kernel⟩
structure sp_Machine_len (K : PySem.W.Frag) (vs : List V) (H : Hp) (Q : VK) (E : XK) : Prop where
  out : ∃ (M dM A p g : Addr) (xs : List V), vs = [.ref M] ∧ (H M = some (macO K dM A p g)) ∧ (H p = some (.lst xs)) ∧ (xs.length < 1000) ∧ (Q (.int xs.length) H)
theorem i_Machine_len {K : PySem.W.Frag} {M dM A p g : Addr} {xs : List V} {H : Hp} {Q : VK} {E : XK} (hM : H M = some (macO K dM A p g)) (hp : H p = some (.lst xs)) (hl : xs.length < 1000) (q : Q (.int xs.length) H) : sp_Machine_len K [.ref M] H Q E := by
  exact ⟨⟨M, dM, A, p, g, xs, rfl, hM, hp, hl, q⟩⟩


def t_Machine_len (K : PySem.W.Frag) (W : WX) : TS :=
  (tRet (tCB (zLen K) (tCons (tAt K (tV 0) "arcs") tNil)))
theorem tm_Machine_len {P : Program} {w : World} {K : PySem.W.Frag} {mg : Str → Option Value} {base : Heap} {f : Addr} {cdv : Value} {A : Around} {outer : List Env} {s : Shared} {H : Hp} {E : XK} (T : Tx K mg) (hr : Room 4 (A.deeper (envOfC "Machine.__len__" (defScope s_Machine_len) s.heap.objs.size f cdv))) :
    PSs (cxOf (L2.CX P w) P w K mg base ["self"] "Machine.__len__" (defScope s_Machine_len) f cdv A outer s H E) (defBody s_Machine_len) (t_Machine_len K (WD E)) :=
  (pss_one (ps_ret (pcb (crlen) T.f_len (pa_cons (patt (Ta.pv 0)) pa_nil))))
/-! _law_kept -/
abbrev s_l_kept : Stmt := top 36
theorem sc_l_kept : FnScope ["_law_machine", "_law_arcs", "_law_goods", "_law_letters_here", "_law_vowels", "_law_place", "_law_row", "_law_arc"] ["_law_machine", "_law_arcs", "_law_goods", "_law_letters_here", "_law_vowels"] (defScope s_l_kept) := ⟨rfl, rfl, rfl, by decide +kernel, rfl, by decide +kernel, by decide +kernel⟩
structure sp_l_kept (K : PySem.W.Frag) (vs : List V) (H : Hp) (Q : VK) (E : XK) : Prop where
  out : ∃ (M dM A dA mp mg p g : Addr) (l v l0 : List Nat) (G G2 : Hp) (ps mps : List Addr) (R : List (List Arc)) (bs : List Bool), vs = [.ref M, .ref p, .ref g, .str (S (srt l0)), .str (S (srt v))] ∧ (H M = some (macO K dM A mp mg)) ∧ (H A = some (alo K dA l0 v)) ∧ (tabP G H p ps R) ∧ (tabP G2 H mp mps R) ∧ (H g = some (bls bs)) ∧ (H mg = some (bls bs)) ∧ (bs.length = R.length) ∧ (small R) ∧ (Q (.bl true) H)
theorem i_l_kept {K : PySem.W.Frag} {M dM A dA mp mg p g : Addr} {l v l0 : List Nat} {G G2 : Hp} {ps mps : List Addr} {R : List (List Arc)} {bs : List Bool} {H : Hp} {Q : VK} {E : XK} (hM : H M = some (macO K dM A mp mg)) (hA : H A = some (alo K dA l0 v)) (hT : tabP G H p ps R) (hT2 : tabP G2 H mp mps R) (hg : H g = some (bls bs)) (hg2 : H mg = some (bls bs)) (hm : bs.length = R.length) (hs : small R) (q : Q (.bl true) H) : sp_l_kept K [.ref M, .ref p, .ref g, .str (S (srt l0)), .str (S (srt v))] H Q E := by
  exact ⟨⟨M, dM, A, dA, mp, mg, p, g, l, v, l0, G, G2, ps, mps, R, bs, rfl, hM, hA, hT, hT2, hg, hg2, hm, hs, q⟩⟩


def b_l_kept_2 (K : PySem.W.Frag) (W : WX) : TS :=
  (tIfP (tOrP (tNot (tTru K (tCB (zIsa K) (tCons (tV 7) (tCons (tC (.ty "tuple")) tNil))))) (tOrP (tNot (tTru K (tCB (zIsa K) (tCons (tOp (zIxP K) (tV 7) (tC (.int 2))) (tCons (tC (.ty "int")) tNil))))) (tTru K (tCB (zIsa K) (tCons (tOp (zIxP K) (tV 7) (tC (.int 2))) (tCons (tC (.ty "bool")) tNil)))))) (tRet (tC (.bl false))) tNext)
def b_l_kept_1 (K : PySem.W.Frag) (W : WX) : TS :=
  (tSeq (tAsg (tOp (zIxP K) (tAt K (tV 0) "arcs") (tV 5)) (gName 6))
  (tSeq (tIfP (tOrP (tNot (tTru K (tCB (zIsa K) (tCons (tV 6) (tCons (tC (.ty "list")) tNil))))) (tTst (tOp (zNeP K) (tV 6) (tOp (zIxP K) (tV 1) (tV 5))))) (tRet (tC (.bl false))) tNext)
  (tSeq (tForP (jA K (tV 6)) (gName 7) (b_l_kept_2 K W))
  (tIfP (tOrP (tNot (tTru K (tCB (zIsa K) (tCons (tOp (zIxP K) (tAt K (tV 0) "goods") (tV 5)) (tCons (tC (.ty "bool")) tNil))))) (tTst (tOp (zNeP K) (tOp (zIxP K) (tAt K (tV 0) "goods") (tV 5)) (tOp (zIxP K) (tV 2) (tV 5))))) (tRet (tC (.bl false))) tNext))))
def t_l_kept (K : PySem.W.Frag) (W : WX) : TS :=
  (tSeq (tIfP (tOrP (tNot (tTru K (tCB (zIsa K) (tCons (tAt K (tV 0) "arcs") (tCons (tC (.ty "list")) tNil))))) (tNot (tTru K (tCB (zIsa K) (tCons (tAt K (tV 0) "goods") (tCons (tC (.ty "list")) tNil)))))) (tRet (tC (.bl false))) tNext)
  (tSeq (tIfP (tOrP (tTst (tOp (zNeP K) (tCB (zLen K) (tCons (tAt K (tV 0) "arcs") tNil)) (tCB (zLen K) (tCons (tV 1) tNil)))) (tOrP (tTst (tOp (zNeP K) (tCB (zLen K) (tCons (tAt K (tV 0) "goods") tNil)) (tCB (zLen K) (tCons (tV 2) tNil)))) (tTst (tOp (zNeP K) (tCB (zLenO (He.ga K "Machine") (sp_Machine_len K)) (tCons (tV 0) tNil)) (tCB (zLen K) (tCons (tV 1) tNil)))))) (tRet (tC (.bl false))) tNext)
  (tSeq (tForP (jR1 (tCons (tCB (zLen K) (tCons (tV 1) tNil)) tNil)) (gName 5) (b_l_kept_1 K W))
  (tRet (tAndE K (tOp (zEqP K) (tAt K (tAt K (tV 0) "alphabet") "letters") (tV 3)) (tOp (zEqP K) (tAt K (tAt K (tV 0) "alphabet") "vowels") (tV 4)))))))
theorem tm_l_kept {P : Program} {w : World} {K : PySem.W.Frag} {mg : Str → Option Value} {base : Heap} {f : Addr} {cdv : Value} {A : Around} {outer : List Env} {s : Shared} {H : Hp} {E : XK} (T : Tx K mg) (G_Machine___len__ : Me P w K mg base (He.ga K "Machine") "__len__" 5 [] (sp_Machine_len K)) (hr : Room 6 (A.deeper (envOfC "_law_kept" (defScope s_l_kept) s.heap.objs.size f cdv))) :
    PSs (cxOf (L2.CX P w) P w K mg base ["_law_machine", "_law_arcs", "_law_goods", "_law_letters_here", "_law_vowels", "_law_place", "_law_row", "_law_arc"] "_law_kept" (defScope s_l_kept) f cdv A outer s H E) (defBody s_l_kept) (t_l_kept K (WD E)) :=
  (pss_cons (psif (PW.pt (pwor (pt_not (ptru (pcb (crisa) T.f_isinstance (pa_cons (patt (Ta.pv 0)) (pa_cons (pbty T.f_list) pa_nil))))) (pw_or1 (pt_not (ptru (pcb (crisa) T.f_isinstance (pa_cons (patt (Ta.pv 0)) (pa_cons (pbty T.f_list) pa_nil)))))))) (pss_one (ps_ret pe_bl)) pss_nil)
  (pss_cons (psif (PW.pt (pwor (ptcmp (opne hr.units) (pcb (crlen) T.f_len (pa_cons (patt (Ta.pv 0)) pa_nil)) (pcb (crlen) T.f_len (pa_cons (Ta.pv 1) pa_nil))) (pwor (ptcmp (opne hr.units) (pcb (crlen) T.f_len (pa_cons (patt (Ta.pv 0)) pa_nil)) (pcb (crlen) T.f_len (pa_cons (Ta.pv 2) pa_nil))) (pw_or1 (ptcmp (opne hr.units) (pcb (crlenO G_Machine___len__ (hr.mono (by decide))) T.f_len (pa_cons (Ta.pv 0) pa_nil)) (pcb (crlen) T.f_len (pa_cons (Ta.pv 1) pa_nil))))))) (pss_one (ps_ret pe_bl)) pss_nil)
  (pss_cons (psfor ownD rfl (pjr1 T.f_range (pa_cons (pcb (crlen) T.f_len (pa_cons (Ta.pv 1) pa_nil)) pa_nil)) (pgn 5 sc_l_kept.nd) (pss_cons (pset 6 sc_l_kept.nd (pix (patt (Ta.pv 0)) (Ta.pv 5)))
  (pss_cons (psif (PW.pt (pwor (pt_not (ptru (pcb (crisa) T.f_isinstance (pa_cons (Ta.pv 6) (pa_cons (pbty T.f_list) pa_nil))))) (pw_or1 (ptcmp (opne hr.units) (Ta.pv 6) (pix (Ta.pv 1) (Ta.pv 5)))))) (pss_one (ps_ret pe_bl)) pss_nil)
  (pss_cons (psfor ownD rfl (pja (Ta.pv 6)) (pgn 7 sc_l_kept.nd) (pss_one (psif (PW.pt (pwor (pt_not (ptru (pcb (crisa) T.f_isinstance (pa_cons (Ta.pv 7) (pa_cons (pbty T.f_tuple) pa_nil))))) (pwor (pt_not (ptru (pcb (crisa) T.f_isinstance (pa_cons (pix (Ta.pv 7) pe_int) (pa_cons (pbty T.f_int) pa_nil))))) (pw_or1 (ptru (pcb (crisa) T.f_isinstance (pa_cons (pix (Ta.pv 7) pe_int) (pa_cons (pbty T.f_bool) pa_nil)))))))) (pss_one (ps_ret pe_bl)) pss_nil)))
  (pss_one (psif (PW.pt (pwor (pt_not (ptru (pcb (crisa) T.f_isinstance (pa_cons (pix (patt (Ta.pv 0)) (Ta.pv 5)) (pa_cons (pbty T.f_bool) pa_nil))))) (pw_or1 (ptcmp (opne hr.units) (pix (patt (Ta.pv 0)) (Ta.pv 5)) (pix (Ta.pv 2) (Ta.pv 5)))))) (pss_one (ps_ret pe_bl)) pss_nil))))))
  (pss_one (ps_ret (peand (pe_cmpR (opeq hr.units) (patt (patt (Ta.pv 0))) (Ta.pv 3) rfl) (pe_one (pe_cmpR (opeq hr.units) (patt (patt (Ta.pv 0))) (Ta.pv 4) rfl))))))))
/-! _law_copy -/
abbrev s_l_copy : Stmt := top 32
theorem sc_l_copy : FnScope ["_law_rows", "_law_row"] ["_law_rows"] (defScope s_l_copy) := ⟨rfl, rfl, rfl, by decide +kernel, rfl, by decide +kernel, by decide +kernel⟩
structure sp_l_copy (K : PySem.W.Frag) (vs : List V) (H : Hp) (Q : VK) (E : XK) : Prop where
  out : ∃ (p : Addr) (G : Hp) (ps : List Addr) (R : List (List Arc)), vs = [.ref p] ∧ (tabP G H p ps R) ∧ (R.length < 1000) ∧ (∀ p' ps' H', tabP H H' p' ps' R → Kp [] H H' → Q (.ref p') H')
theorem i_l_copy {K : PySem.W.Frag} {p : Addr} {G : Hp} {ps : List Addr} {R : List (List Arc)} {H : Hp} {Q : VK} {E : XK} (hT : tabP G H p ps R) (hl : R.length < 1000) (q1 : ∀ p' ps' H', tabP H H' p' ps' R → Kp [] H H' → Q (.ref p') H') : sp_l_copy K [.ref p] H Q E := by
  exact ⟨⟨p, G, ps, R, rfl, hT, hl, q1⟩⟩


def t_l_copy (K : PySem.W.Frag) (W : WX) : TS :=
  (tRet (tLcP (jA K (tV 0)) (gName 1) tYes (tCB (zListX K) (tCons (tV 1) tNil)) [1]))
theorem tm_l_copy {P : Program} {w : World} {K : PySem.W.Frag} {mg : Str → Option Value} {base : Heap} {f : Addr} {cdv : Value} {A : Around} {outer : List Env} {s : Shared} {H : Hp} {E : XK} (T : Tx K mg) (hr : Room 4 (A.deeper (envOfC "_law_copy" (defScope s_l_copy) s.heap.objs.size f cdv))) :
    PSs (cxOf (L2.CX P w) P w K mg base ["_law_rows", "_law_row"] "_law_copy" (defScope s_l_copy) f cdv A outer s H E) (defBody s_l_copy) (t_l_copy K (WD E)) :=
  (pss_one (ps_ret (plc [("_law_row", 1)] rfl sc_l_copy.nd (pja (Ta.pv 0)) (by kernel_rfl) (fun _ _ _ _ _ => (pgn 1 sc_l_copy.nd)) (fun _ _ _ _ _ => pts_nil) (fun _ _ _ _ _ => (pct (crlistX rfl) T.f_list (pa_cons (Ta.pv 1) pa_nil))))))
/-! _law_refused -/
abbrev s_l_refused : Stmt := top 37
theorem sc_l_refused : FnScope ["_law_alphabet", "_law_arcs", "_law_goods", "_law_handed", "_law_handed_goods", "error"] ["_law_alphabet", "_law_arcs", "_law_goods"] (defScope s_l_refused) := ⟨rfl, rfl, rfl, by decide +kernel, rfl, by decide +kernel, by decide +kernel⟩
structure sp_l_refused (K : PySem.W.Frag) (vs : List V) (H : Hp) (Q : VK) (E : XK) : Prop where
  out : ∃ (A dA p g : Addr) (l v : List Nat) (G : Hp) (ps : List Addr) (R : List (List Arc)) (bs : List Bool), vs = [.ref A, .ref p, .ref g] ∧ (H A = some (alo K dA l v)) ∧ (tabP G H p ps R) ∧ (H g = some (bls bs)) ∧ (bs.length < 1000) ∧ (small R) ∧ (∀ H', Kp [] H H' → Q (match chk (45 :: srt l) R bs.length with | none => .non | some k => .int k) H')
theorem i_l_refused {K : PySem.W.Frag} {A dA p g : Addr} {l v : List Nat} {G : Hp} {ps : List Addr} {R : List (List Arc)} {bs : List Bool} {H : Hp} {Q : VK} {E : XK} (hA : H A = some (alo K dA l v)) (hT : tabP G H p ps R) (hg : H g = some (bls bs)) (hm : bs.length < 1000) (hs : small R) (q : ∀ H', Kp [] H H' → Q (match chk (45 :: srt l) R bs.length with | none => .non | some k => .int k) H') : sp_l_refused K [.ref A, .ref p, .ref g] H Q E := by
  exact ⟨⟨A, dA, p, g, l, v, G, ps, R, bs, rfl, hA, hT, hg, hm, hs, q⟩⟩


def t_l_refused (K : PySem.W.Frag) (W : WX) : TS :=
  (tSeq (tAsg (tCal (sp_l_copy K) [] W (tCons (tV 1) tNil)) (gName 3))
  (tSeq (tAsg (tCB (zListX K) (tCons (tV 2) tNil)) (gName 4))
  (tSeq (fun D0 σ0 H0 => (fun (W1 : WX) => (tDrop (tMak (He.ga K "Machine") (sp_Machine_init K) [] W1 (tCons (tV 0) (tCons (tV 3) (tCons (tV 4) tNil)))))) (wAs K (.ref (He.ga K "TaleError")) 5 (fun a cls d => (tSeq (tIfP (tOrP (tNot (tTru K (tCB (zIsX K a cls d) (tCons (tV 5) (tCons (tC (.ref (He.ga K "BadTable"))) tNil))))) (tOrP (tTru K (tCB (zIsX K a cls d) (tCons (tV 5) (tCons (tC (.ref (He.ga K "BadText"))) tNil)))) (tTru K (tCB (zIsX K a cls d) (tCons (tV 5) (tCons (tC (.ref (He.ga K "Mixed"))) tNil)))))) (tRet (tC (.str (S [99, 108, 97, 115, 115])))) tNext)
  (tSeq (tIfP (tOrP (tNot (tTru K (tCB (zIsX K a cls d) (tCons (tV 5) (tCons (tC (.ty "ValueError")) tNil))))) (tOrP (tNot (tTru K (tCB (zIsa K) (tCons (tXat K a cls d "place" (tV 5)) (tCons (tC (.ty "int")) tNil))))) (tTru K (tCB (zIsa K) (tCons (tXat K a cls d "place" (tV 5)) (tCons (tC (.ty "bool")) tNil)))))) (tRet (tC (.str (S [112, 108, 97, 99, 101])))) tNext)
  (tSeq (tIfP (tOrP (tTst (tOp (zNeP K) (tV 3) (tV 1))) (tTst (tOp (zNeP K) (tV 4) (tV 2)))) (tRet (tC (.str (S [99, 104, 97, 110, 103, 101, 100])))) tNext)
  (tRet (tXat K a cls d "place" (tV 5))))))) W D0) D0 σ0 H0)
  (tRet (tC .non)))))
theorem tm_l_refused {P : Program} {w : World} {K : PySem.W.Frag} {mg : Str → Option Value} {base : Heap} {f : Addr} {cdv : Value} {A : Around} {outer : List Env} {s : Shared} {H : Hp} {E : XK} (T : Tx K mg) (G_Machine : Mks P w K mg base "Machine" (He.ga K "Machine") 9 [] (sp_Machine_init K)) (G_l_copy : Fn P w K mg base "_law_copy" 5 [] (sp_l_copy K)) (hr : Room 10 (A.deeper (envOfC "_law_refused" (defScope s_l_refused) s.heap.objs.size f cdv))) :
    PSs (cxOf (L2.CX P w) P w K mg base ["_law_alphabet", "_law_arcs", "_law_goods", "_law_handed", "_law_handed_goods", "error"] "_law_refused" (defScope s_l_refused) f cdv A outer s H E) (defBody s_l_refused) (t_l_refused K (WD E)) :=
  (pss_cons (pset 3 sc_l_refused.nd (pcall G_l_copy (hr.mono (by decide)) takesD (pa_cons (Ta.pv 1) pa_nil)))
  (pss_cons (pset 4 sc_l_refused.nd (pct (crlistX rfl) T.f_list (pa_cons (Ta.pv 2) pa_nil)))
  (pss_cons (ps_try_as (i := 5) rfl rfl sc_l_refused.nd rfl rfl (names_of T.v_TaleError) takesD (tb := fun W1 => (tDrop (tMak (He.ga K "Machine") (sp_Machine_init K) [] W1 (tCons (tV 0) (tCons (tV 3) (tCons (tV 4) tNil)))))) (ts := fun a cls d => (tSeq (tIfP (tOrP (tNot (tTru K (tCB (zIsX K a cls d) (tCons (tV 5) (tCons (tC (.ref (He.ga K "BadTable"))) tNil))))) (tOrP (tTru K (tCB (zIsX K a cls d) (tCons (tV 5) (tCons (tC (.ref (He.ga K "BadText"))) tNil)))) (tTru K (tCB (zIsX K a cls d) (tCons (tV 5) (tCons (tC (.ref (He.ga K "Mixed"))) tNil)))))) (tRet (tC (.str (S [99, 108, 97, 115, 115])))) tNext)
  (tSeq (tIfP (tOrP (tNot (tTru K (tCB (zIsX K a cls d) (tCons (tV 5) (tCons (tC (.ty "ValueError")) tNil))))) (tOrP (tNot (tTru K (tCB (zIsa K) (tCons (tXat K a cls d "place" (tV 5)) (tCons (tC (.ty "int")) tNil))))) (tTru K (tCB (zIsa K) (tCons (tXat K a cls d "place" (tV 5)) (tCons (tC (.ty "bool")) tNil)))))) (tRet (tC (.str (S [112, 108, 97, 99, 101])))) tNext)
  (tSeq (tIfP (tOrP (tTst (tOp (zNeP K) (tV 3) (tV 1))) (tTst (tOp (zNeP K) (tV 4) (tV 2)))) (tRet (tC (.str (S [99, 104, 97, 110, 103, 101, 100])))) tNext)
  (tRet (tXat K a cls d "place" (tV 5))))))) (fun W1 pn xe tk1 _ => (pss_one (ps_expr (pmak G_Machine (hr.mono (by decide)) tk1 (pa_cons (Ta.pv 0) (pa_cons (Ta.pv 3) (pa_cons (Ta.pv 4) pa_nil))))))) (fun a oe cls d pn hz hf => (pss_cons (psif (PW.pt (pwor (pt_not (ptru (pcb (crisx hz hf) T.f_isinstance (pa_cons (Ta.pv 5) (pa_cons (pglo T.v_BadTable) pa_nil))))) (pwor (ptru (pcb (crisx hz hf) T.f_isinstance (pa_cons (Ta.pv 5) (pa_cons (pglo T.v_BadText) pa_nil)))) (pw_or1 (ptru (pcb (crisx hz hf) T.f_isinstance (pa_cons (Ta.pv 5) (pa_cons (pglo T.v_Mixed) pa_nil)))))))) (pss_one (ps_ret (pstr [99, 108, 97, 115, 115]))) pss_nil)
  (pss_cons (psif (PW.pt (pwor (pt_not (ptru (pcb (crisx hz hf) T.f_isinstance (pa_cons (Ta.pv 5) (pa_cons (pbty T.f_ValueError) pa_nil))))) (pwor (pt_not (ptru (pcb (crisa) T.f_isinstance (pa_cons (pxat hz hf (Ta.pv 5)) (pa_cons (pbty T.f_int) pa_nil))))) (pw_or1 (ptru (pcb (crisa) T.f_isinstance (pa_cons (pxat hz hf (Ta.pv 5)) (pa_cons (pbty T.f_bool) pa_nil)))))))) (pss_one (ps_ret (pstr [112, 108, 97, 99, 101]))) pss_nil)
  (pss_cons (psif (PW.pt (pwor (ptcmp (opne hr.units) (Ta.pv 3) (Ta.pv 1)) (pw_or1 (ptcmp (opne hr.units) (Ta.pv 4) (Ta.pv 2))))) (pss_one (ps_ret (pstr [99, 104, 97, 110, 103, 101, 100]))) pss_nil)
  (pss_one (ps_ret (pxat hz hf (Ta.pv 5)))))))))
  (pss_one (ps_ret pe_non)))))
/-! _law_take -/
abbrev s_l_take : Stmt := top 29
theorem sc_l_take : FnScope ["_law_well_here", "_law_size", "_law_digit", "_law_cell", "_law_once", "_law_twice"] ["_law_well_here", "_law_size"] (defScope s_l_take) := ⟨rfl, rfl, rfl, by decide +kernel, rfl, by decide +kernel, by decide +kernel⟩
structure sp_l_take (K : PySem.W.Frag) (vs : List V) (H : Hp) (Q : VK) (E : XK) : Prop where
  out : ∃ (b q : Addr) (i n k z : Int) (cs : List Int), vs = [.ref b, .int z] ∧ (H b = some (wl q i n k)) ∧ (H q = some (cel cs)) ∧ (cs.length < 1000) ∧ (0 ≤ k ∧ k < 1000000) ∧ (0 < z ∧ z ≤ 1000000000000000000000000000000) ∧ (∀ r i' n' H', 0 ≤ r → r < z → Kp [b] H H' → H' b = some (wl q i' n' (k + 1)) → Q (.int r) H')
theorem i_l_take {K : PySem.W.Frag} {b q : Addr} {i n k z : Int} {cs : List Int} {H : Hp} {Q : VK} {E : XK} (hb : H b = some (wl q i n k)) (hq : H q = some (cel cs)) (hc : cs.length < 1000) (hk : 0 ≤ k ∧ k < 1000000) (hz : 0 < z ∧ z ≤ 1000000000000000000000000000000) (q1 : ∀ r i' n' H', 0 ≤ r → r < z → Kp [b] H H' → H' b = some (wl q i' n' (k + 1)) → Q (.int r) H') : sp_l_take K [.ref b, .int z] H Q E := by
  exact ⟨⟨b, q, i, n, k, z, cs, rfl, hb, hq, hc, hk, hz, q1⟩⟩


def t_l_take (K : PySem.W.Frag) (W : WX) : TS :=
  (tSeq (tAugI (tV 0) (tC (.int 3)) (tC (.int 1)))
  (tSeq (tIfP (tTst (tOp (zEqP K) (tOp (zIxP K) (tV 0) (tC (.int 0))) (tLst tNil))) (tRet (tC (.int 0))) tNext)
  (tSeq (tIfP (tTst (tOp zGt (tOp (zIxP K) (tV 0) (tC (.int 2))) (tC (.int 0)))) (tSeq (tAsg (tOp zMod (tCB (zInt) (tCons (tOp (zIxP K) (tV 0) (tC (.int 2))) tNil)) (tV 1)) (gName 2))
  (tSeq (tAsg (tOp zDivW (tOp (zIxP K) (tV 0) (tC (.int 2))) (tV 1)) (gSub (tV 0) (tC (.int 2)) zSetP))
  (tRet (tV 2)))) tNext)
  (tSeq (tAsg (tOp (zIxP K) (tOp (zIxP K) (tV 0) (tC (.int 0))) (tOp zMod (tCB (zInt) (tCons (tOp (zIxP K) (tV 0) (tC (.int 1))) tNil)) (tCB (zLen K) (tCons (tOp (zIxP K) (tV 0) (tC (.int 0))) tNil)))) (gName 3))
  (tSeq (tAugI (tV 0) (tC (.int 1)) (tC (.int 1)))
  (tSeq (tIfP (tAndP (tTst (tOp zGe (tCB (zAbs) (tCons (tV 3) tNil)) (tOp zPow (tC (.int 10)) (tC (.int 18))))) (tTst (tOp zLe (tOp (zIxP K) (tV 0) (tC (.int 1))) (tCB (zLen K) (tCons (tOp (zIxP K) (tV 0) (tC (.int 0))) tNil))))) (tSeq (tAsg (tOp zDivW (tCB (zAbs) (tCons (tV 3) tNil)) (tV 1)) (gSub (tV 0) (tC (.int 2)) zSetP))
  (tRet (tOp zMod (tCB (zInt) (tCons (tCB (zAbs) (tCons (tV 3) tNil)) tNil)) (tV 1)))) tNext)
  (tSeq (tAsg (tOp zMod (tCB (zInt) (tCons (tOp zAdd (tOp zAdd (tOp zMul (tV 3) (tC (.int 48271))) (tOp zMul (tOp (zIxP K) (tV 0) (tC (.int 3))) (tC (.int 69621)))) (tC (.int 7))) tNil)) (tC (.int 2147483647))) (gName 4))
  (tSeq (tAsg (tOp zMod (tCB (zInt) (tCons (tOp zAdd (tOp zAdd (tOp zMul (tV 4) (tC (.int 40692))) (tOp zDivW (tV 4) (tC (.int 127773)))) (tOp zMul (tOp zMul (tOp (zIxP K) (tV 0) (tC (.int 3))) (tOp (zIxP K) (tV 0) (tC (.int 3)))) (tC (.int 30269)))) tNil)) (tC (.int 2147483399))) (gName 5))
  (tRet (tOp zMod (tCB (zInt) (tCons (tOp zDivW (tV 5) (tC (.int 16))) tNil)) (tV 1)))))))))))
theorem tm_l_take {P : Program} {w : World} {K : PySem.W.Frag} {mg : Str → Option Value} {base : Heap} {f : Addr} {cdv : Value} {A : Around} {outer : List Env} {s : Shared} {H : Hp} {E : XK} (T : Tx K mg) (hr : Room 4 (A.deeper (envOfC "_law_take" (defScope s_l_take) s.heap.objs.size f cdv))) :
    PSs (cxOf (L2.CX P w) P w K mg base ["_law_well_here", "_law_size", "_law_digit", "_law_cell", "_law_once", "_law_twice"] "_law_take" (defScope s_l_take) f cdv A outer s H E) (defBody s_l_take) (t_l_take K (WD E)) :=
  (pss_cons (psaugi (Ta.pv 0) pe_int pe_int)
  (pss_cons (psif (ptcmp (opeq hr.units) (pix (Ta.pv 0) pe_int) (pe_lst pa_nil)) (pss_one (ps_ret pe_int)) pss_nil)
  (pss_cons (psif (ptcmp opgt (pix (Ta.pv 0) pe_int) pe_int) (pss_cons (pset 2 sc_l_take.nd (pe_op opmod (pct (crint) T.f_int (pa_cons (pix (Ta.pv 0) pe_int) pa_nil)) (Ta.pv 1)))
  (pss_cons (psub (pe_op opdivW (pix (Ta.pv 0) pe_int) (Ta.pv 1)) (Ta.pv 0) pe_int)
  (pss_one (ps_ret (Ta.pv 2))))) pss_nil)
  (pss_cons (pset 3 sc_l_take.nd (pix (pix (Ta.pv 0) pe_int) (pe_op opmod (pct (crint) T.f_int (pa_cons (pix (Ta.pv 0) pe_int) pa_nil)) (pcb (crlen) T.f_len (pa_cons (pix (Ta.pv 0) pe_int) pa_nil)))))
  (pss_cons (psaugi (Ta.pv 0) pe_int pe_int)
  (pss_cons (psif (PW.pt (pwand (ptcmp opge (pcb (crabs) T.f_abs (pa_cons (Ta.pv 3) pa_nil)) (pe_op oppow pe_int pe_int)) (pw_and1 (ptcmp ople (pix (Ta.pv 0) pe_int) (pcb (crlen) T.f_len (pa_cons (pix (Ta.pv 0) pe_int) pa_nil)))))) (pss_cons (psub (pe_op opdivW (pcb (crabs) T.f_abs (pa_cons (Ta.pv 3) pa_nil)) (Ta.pv 1)) (Ta.pv 0) pe_int)
  (pss_one (ps_ret (pe_op opmod (pct (crint) T.f_int (pa_cons (pcb (crabs) T.f_abs (pa_cons (Ta.pv 3) pa_nil)) pa_nil)) (Ta.pv 1))))) pss_nil)
  (pss_cons (pset 4 sc_l_take.nd (pe_op opmod (pct (crint) T.f_int (pa_cons (pe_op opadd (pe_op opadd (pe_op opmul (Ta.pv 3) pe_int) (pe_op opmul (pix (Ta.pv 0) pe_int) pe_int)) pe_int) pa_nil)) pe_int))
  (pss_cons (pset 5 sc_l_take.nd (pe_op opmod (pct (crint) T.f_int (pa_cons (pe_op opadd (pe_op opadd (pe_op opmul (Ta.pv 4) pe_int) (pe_op opdivW (Ta.pv 4) pe_int)) (pe_op opmul (pe_op opmul (pix (Ta.pv 0) pe_int) (pix (Ta.pv 0) pe_int)) pe_int)) pa_nil)) pe_int))
  (pss_one (ps_ret (pe_op opmod (pct (crint) T.f_int (pa_cons (pe_op opdivW (Ta.pv 5) pe_int) pa_nil)) (Ta.pv 1))))))))))))
/-! _law_put -/
abbrev s_l_put : Stmt := top 35
theorem sc_l_put : FnScope ["_law_well_here", "_law_arcs", "_law_place", "_law_arc", "_law_bent"] ["_law_well_here", "_law_arcs", "_law_place", "_law_arc"] (defScope s_l_put) := ⟨rfl, rfl, rfl, by decide +kernel, rfl, by decide +kernel, by decide +kernel⟩
structure sp_l_put (K : PySem.W.Frag) (vs : List V) (H : Hp) (Q : VK) (E : XK) : Prop where
  out : ∃ (b q p ar : Addr) (i n k : Int) (cs : List Int) (G : Hp) (ps : List Addr) (R : List (List Arc)) (j : Nat) (a : Arc), vs = [.ref b, .ref p, .int j, .ref ar] ∧ (H b = some (wl q i n k)) ∧ (H q = some (cel cs)) ∧ (cs.length < 1000) ∧ (0 ≤ k ∧ k < 900000) ∧ (tabP G H p ps R) ∧ (small R) ∧ (j < R.length) ∧ (H ar = some (arcO a)) ∧ (∀ p' ps' row z i' n' k' H', R[j]? = some row → tabP H H' p' ps' (R.set j (row.take z ++ [a] ++ row.drop z)) → Kp [b] H H' → 0 ≤ k' → k' ≤ k + 1 → H' b = some (wl q i' n' k') → Q (.ref p') H')
theorem i_l_put {K : PySem.W.Frag} {b q p ar : Addr} {i n k : Int} {cs : List Int} {G : Hp} {ps : List Addr} {R : List (List Arc)} {j : Nat} {a : Arc} {H : Hp} {Q : VK} {E : XK} (hb : H b = some (wl q i n k)) (hq : H q = some (cel cs)) (hc : cs.length < 1000) (hk : 0 ≤ k ∧ k < 900000) (hT : tabP G H p ps R) (hs : small R) (hj : j < R.length) (ha : H ar = some (arcO a)) (q1 : ∀ p' ps' row z i' n' k' H', R[j]? = some row → tabP H H' p' ps' (R.set j (row.take z ++ [a] ++ row.drop z)) → Kp [b] H H' → 0 ≤ k' → k' ≤ k + 1 → H' b = some (wl q i' n' k') → Q (.ref p') H') : sp_l_put K [.ref b, .ref p, .int j, .ref ar] H Q E := by
  exact ⟨⟨b, q, p, ar, i, n, k, cs, G, ps, R, j, a, rfl, hb, hq, hc, hk, hT, hs, hj, ha, q1⟩⟩


def t_l_put (K : PySem.W.Frag) (W : WX) : TS :=
  (tSeq (tAsg (tCal (sp_l_copy K) [] W (tCons (tV 1) tNil)) (gName 4))
  (tSeq (tDrop (tLM zInsP (tOp (zIxP K) (tV 4) (tV 2)) (tCons (tCal (sp_l_take K) [] W (tCons (tV 0) (tCons (tOp zAdd (tCB (zLen K) (tCons (tOp (zIxP K) (tV 4) (tV 2)) tNil)) (tC (.int 1))) tNil))) (tCons (tV 3) tNil))))
  (tRet (tV 4))))
theorem tm_l_put {P : Program} {w : World} {K : PySem.W.Frag} {mg : Str → Option Value} {base : Heap} {f : Addr} {cdv : Value} {A : Around} {outer : List Env} {s : Shared} {H : Hp} {E : XK} (T : Tx K mg) (G_l_copy : Fn P w K mg base "_law_copy" 5 [] (sp_l_copy K)) (G_l_take : Fn P w K mg base "_law_take" 5 [] (sp_l_take K)) (hr : Room 6 (A.deeper (envOfC "_law_put" (defScope s_l_put) s.heap.objs.size f cdv))) :
    PSs (cxOf (L2.CX P w) P w K mg base ["_law_well_here", "_law_arcs", "_law_place", "_law_arc", "_law_bent"] "_law_put" (defScope s_l_put) f cdv A outer s H E) (defBody s_l_put) (t_l_put K (WD E)) :=
  (pss_cons (pset 4 sc_l_put.nd (pcall G_l_copy (hr.mono (by decide)) takesD (pa_cons (Ta.pv 1) pa_nil)))
  (pss_cons (ps_expr (plm PySem.F.slot_list_insert PySem.F.type_list_insert mtins (pix (Ta.pv 4) (Ta.pv 2)) (pa_cons (pcall G_l_take (hr.mono (by decide)) takesD (pa_cons (Ta.pv 0) (pa_cons (pe_op opadd (pcb (crlen) T.f_len (pa_cons (pix (Ta.pv 4) (Ta.pv 2)) pa_nil)) pe_int) pa_nil))) (pa_cons (Ta.pv 3) pa_nil))))
  (pss_one (ps_ret (Ta.pv 4)))))
/-! _law_strange -/
abbrev s_l_strange : Stmt := top 31
theorem sc_l_strange : FnScope ["_law_well_here", "_law_signs", "_law_pool", "_law_char"] ["_law_well_here", "_law_signs"] (defScope s_l_strange) := ⟨rfl, rfl, rfl, by decide +kernel, rfl, by decide +kernel, by decide +kernel⟩
structure sp_l_strange (K : PySem.W.Frag) (vs : List V) (H : Hp) (Q : VK) (E : XK) : Prop where
  out : ∃ (b q : Addr) (i n k : Int) (cs : List Int) (g : List Nat), vs = [.ref b, .str (S g)] ∧ (H b = some (wl q i n k)) ∧ (H q = some (cel cs)) ∧ (cs.length < 1000) ∧ (0 ≤ k ∧ k < 950000) ∧ (∀ c ∈ g, c = 45 ∨ c ∈ AZ) ∧ (g.length < 1000) ∧ (∀ c i' n' k' H', ¬ c ∈ g → c < 128 → Kp [b] H H' → 0 ≤ k' → k' ≤ k + 1 → H' b = some (wl q i' n' k') → Q (.str (S [c])) H')
theorem i_l_strange {K : PySem.W.Frag} {b q : Addr} {i n k : Int} {cs : List Int} {g : List Nat} {H : Hp} {Q : VK} {E : XK} (hb : H b = some (wl q i n k)) (hq : H q = some (cel cs)) (hc : cs.length < 1000) (hk : 0 ≤ k ∧ k < 950000) (hg : ∀ c ∈ g, c = 45 ∨ c ∈ AZ) (hg2 : g.length < 1000) (q1 : ∀ c i' n' k' H', ¬ c ∈ g → c < 128 → Kp [b] H H' → 0 ≤ k' → k' ≤ k + 1 → H' b = some (wl q i' n' k') → Q (.str (S [c])) H') : sp_l_strange K [.ref b, .str (S g)] H Q E := by
  exact ⟨⟨b, q, i, n, k, cs, g, rfl, hb, hq, hc, hk, hg, hg2, q1⟩⟩


def t_l_strange (K : PySem.W.Frag) (W : WX) : TS :=
  (tSeq (tAsg (tLcP (jA K (tC (.str (S [97, 98, 99, 100, 101, 102, 103, 104, 105, 106, 107, 108, 109, 110, 111, 112, 113, 114, 115, 116, 117, 118, 119, 120, 121, 122, 65, 66, 90, 48, 49, 57, 32, 95, 46, 43, 63])))) (gName 3) (tTst (tOp (zNinP K) (tV 3) (tV 1))) (tV 3) [3]) (gName 2))
  (tRet (tOp (zIxP K) (tV 2) (tCal (sp_l_take K) [] W (tCons (tV 0) (tCons (tCB (zLen K) (tCons (tV 2) tNil)) tNil))))))
theorem tm_l_strange {P : Program} {w : World} {K : PySem.W.Frag} {mg : Str → Option Value} {base : Heap} {f : Addr} {cdv : Value} {A : Around} {outer : List Env} {s : Shared} {H : Hp} {E : XK} (T : Tx K mg) (G_l_take : Fn P w K mg base "_law_take" 5 [] (sp_l_take K)) (hr : Room 6 (A.deeper (envOfC "_law_strange" (defScope s_l_strange) s.heap.objs.size f cdv))) :
    PSs (cxOf (L2.CX P w) P w K mg base ["_law_well_here", "_law_signs", "_law_pool", "_law_char"] "_law_strange" (defScope s_l_strange) f cdv A outer s H E) (defBody s_l_strange) (t_l_strange K (WD E)) :=
  (pss_cons (pslc (i := 2) [("_law_char", 3)] rfl sc_l_strange.nd rfl rfl (sw_true rfl rfl rfl (by decide +kernel)) (pja (pstr [97, 98, 99, 100, 101, 102, 103, 104, 105, 106, 107, 108, 109, 110, 111, 112, 113, 114, 115, 116, 117, 118, 119, 120, 121, 122, 65, 66, 90, 48, 49, 57, 32, 95, 46, 43, 63])) (by kernel_rfl) (fun _ _ _ _ _ => (pgn 3 sc_l_strange.nd)) (fun _ _ _ _ _ => (pts_one (ptcmp opnin (Ta.pv 3) (Ta.pv 1)))) (fun _ _ _ _ _ => (Ta.pv 3)))
  (pss_one (ps_ret (pix (Ta.pv 2) (pcall G_l_take (hr.mono (by decide)) takesD (pa_cons (Ta.pv 0) (pa_cons (pcb (crlen) T.f_len (pa_cons (Ta.pv 2) pa_nil)) pa_nil)))))))
/-! _law_wrong -/
abbrev s_l_wrong : Stmt := top 34
theorem sc_l_wrong : FnScope ["_law_well_here", "_law_signs", "_law_places", "_law_good", "_law_strange_here", "_law_way"] ["_law_well_here", "_law_signs", "_law_places"] (defScope s_l_wrong) := ⟨rfl, rfl, rfl, by decide +kernel, rfl, by decide +kernel, by decide +kernel⟩
structure sp_l_wrong (K : PySem.W.Frag) (vs : List V) (H : Hp) (Q : VK) (E : XK) : Prop where
  out : ∃ (b q : Addr) (i n k : Int) (cs : List Int) (g0 : Nat) (g : List Nat) (m : Nat), vs = [.ref b, .str (S (g0 :: g)), .int m] ∧ (H b = some (wl q i n k)) ∧ (H q = some (cel cs)) ∧ (cs.length < 1000) ∧ (0 ≤ k ∧ k < 900000) ∧ (∀ c ∈ g0 :: g, c = 45 ∨ c ∈ AZ) ∧ (g.length ≤ 4) ∧ (0 < m ∧ m ≤ 60) ∧ (∀ r a i' n' k' H', okA (g0 :: g) m a = false → ascA a → H r = none → H' r = some (arcO a) → Kp [b] H H' → 0 ≤ k' → k' ≤ k + 5 → H' b = some (wl q i' n' k') → Q (.ref r) H')
theorem i_l_wrong {K : PySem.W.Frag} {b q : Addr} {i n k : Int} {cs : List Int} {g0 : Nat} {g : List Nat} {m : Nat} {H : Hp} {Q : VK} {E : XK} (hb : H b = some (wl q i n k)) (hq : H q = some (cel cs)) (hc : cs.length < 1000) (hk : 0 ≤ k ∧ k < 900000) (hg : ∀ c ∈ g0 :: g, c = 45 ∨ c ∈ AZ) (hg2 : g.length ≤ 4) (hm : 0 < m ∧ m ≤ 60) (q1 : ∀ r a i' n' k' H', okA (g0 :: g) m a = false → ascA a → H r = none → H' r = some (arcO a) → Kp [b] H H' → 0 ≤ k' → k' ≤ k + 5 → H' b = some (wl q i' n' k') → Q (.ref r) H') : sp_l_wrong K [.ref b, .str (S (g0 :: g)), .int m] H Q E := by
  exact ⟨⟨b, q, i, n, k, cs, g0, g, m, rfl, hb, hq, hc, hk, hg, hg2, hm, q1⟩⟩


def t_l_wrong (K : PySem.W.Frag) (W : WX) : TS :=
  (tSeq (tAsg (tOp (zIxP K) (tV 1) (tCal (sp_l_take K) [] W (tCons (tV 0) (tCons (tCB (zLen K) (tCons (tV 1) tNil)) tNil)))) (gName 3))
  (tSeq (tAsg (tCal (sp_l_strange K) [] W (tCons (tV 0) (tCons (tV 1) tNil))) (gName 4))
  (tSeq (tAsg (tCal (sp_l_take K) [] W (tCons (tV 0) (tCons (tC (.int 8)) tNil))) (gName 5))
  (tSeq (tIfP (tTst (tOp (zEqP K) (tV 5) (tC (.int 0)))) (tRet (tTup (tCons (tV 4) (tCons (tV 3) (tCons (tC (.int 0)) tNil))))) tNext)
  (tSeq (tIfP (tTst (tOp (zEqP K) (tV 5) (tC (.int 1)))) (tRet (tTup (tCons (tV 3) (tCons (tV 4) (tCons (tC (.int 0)) tNil))))) tNext)
  (tSeq (tIfP (tTst (tOp (zEqP K) (tV 5) (tC (.int 2)))) (tRet (tTup (tCons (tOp zAdd (tV 3) (tOp (zIxP K) (tV 1) (tC (.int 0)))) (tCons (tC (.str (S []))) (tCons (tC (.int 0)) tNil))))) tNext)
  (tSeq (tIfP (tTst (tOp (zEqP K) (tV 5) (tC (.int 3)))) (tRet (tTup (tCons (tC (.str (S []))) (tCons (tOp zAdd (tOp (zIxP K) (tV 1) (tC (.int 0))) (tV 3)) (tCons (tC (.int 0)) tNil))))) tNext)
  (tSeq (tIfP (tTst (tOp (zEqP K) (tV 5) (tC (.int 4)))) (tRet (tTup (tCons (tV 3) (tCons (tC (.str (S []))) (tCons (tUn zNeg (tC (.int 1))) tNil))))) tNext)
  (tSeq (tIfP (tTst (tOp (zEqP K) (tV 5) (tC (.int 5)))) (tRet (tTup (tCons (tC (.str (S []))) (tCons (tV 3) (tCons (tV 2) tNil))))) tNext)
  (tSeq (tIfP (tTst (tOp (zEqP K) (tV 5) (tC (.int 6)))) (tRet (tTup (tCons (tV 3) (tCons (tV 3) (tCons (tUn zNeg (tV 2)) tNil))))) tNext)
  (tRet (tTup (tCons (tC (.str (S []))) (tCons (tC (.str (S []))) (tCons (tOp zAdd (tV 2) (tCal (sp_l_take K) [] W (tCons (tV 0) (tCons (tOp zPow (tC (.int 10)) (tC (.int 30))) tNil)))) tNil)))))))))))))))
theorem tm_l_wrong {P : Program} {w : World} {K : PySem.W.Frag} {mg : Str → Option Value} {base : Heap} {f : Addr} {cdv : Value} {A : Around} {outer : List Env} {s : Shared} {H : Hp} {E : XK} (T : Tx K mg) (G_l_strange : Fn P w K mg base "_law_strange" 7 [] (sp_l_strange K)) (G_l_take : Fn P w K mg base "_law_take" 5 [] (sp_l_take K)) (hr : Room 8 (A.deeper (envOfC "_law_wrong" (defScope s_l_wrong) s.heap.objs.size f cdv))) :
    PSs (cxOf (L2.CX P w) P w K mg base ["_law_well_here", "_law_signs", "_law_places", "_law_good", "_law_strange_here", "_law_way"] "_law_wrong" (defScope s_l_wrong) f cdv A outer s H E) (defBody s_l_wrong) (t_l_wrong K (WD E)) :=
  (pss_cons (pset 3 sc_l_wrong.nd (pix (Ta.pv 1) (pcall G_l_take (hr.mono (by decide)) takesD (pa_cons (Ta.pv 0) (pa_cons (pcb (crlen) T.f_len (pa_cons (Ta.pv 1) pa_nil)) pa_nil)))))
  (pss_cons (pset 4 sc_l_wrong.nd (pcall G_l_strange (hr.mono (by decide)) takesD (pa_cons (Ta.pv 0) (pa_cons (Ta.pv 1) pa_nil))))
  (pss_cons (pset 5 sc_l_wrong.nd (pcall G_l_take (hr.mono (by decide)) takesD (pa_cons (Ta.pv 0) (pa_cons pe_int pa_nil))))
  (pss_cons (psif (ptcmp (opeq hr.units) (Ta.pv 5) pe_int) (pss_one (ps_ret (pe_tup (pa_cons (Ta.pv 4) (pa_cons (Ta.pv 3) (pa_cons pe_int pa_nil)))))) pss_nil)
  (pss_cons (psif (ptcmp (opeq hr.units) (Ta.pv 5) pe_int) (pss_one (ps_ret (pe_tup (pa_cons (Ta.pv 3) (pa_cons (Ta.pv 4) (pa_cons pe_int pa_nil)))))) pss_nil)
  (pss_cons (psif (ptcmp (opeq hr.units) (Ta.pv 5) pe_int) (pss_one (ps_ret (pe_tup (pa_cons (pe_op opadd (Ta.pv 3) (pix (Ta.pv 1) pe_int)) (pa_cons (pstr []) (pa_cons pe_int pa_nil)))))) pss_nil)
  (pss_cons (psif (ptcmp (opeq hr.units) (Ta.pv 5) pe_int) (pss_one (ps_ret (pe_tup (pa_cons (pstr []) (pa_cons (pe_op opadd (pix (Ta.pv 1) pe_int) (Ta.pv 3)) (pa_cons pe_int pa_nil)))))) pss_nil)
  (pss_cons (psif (ptcmp (opeq hr.units) (Ta.pv 5) pe_int) (pss_one (ps_ret (pe_tup (pa_cons (Ta.pv 3) (pa_cons (pstr []) (pa_cons (pe_un unneg pe_int) pa_nil)))))) pss_nil)
  (pss_cons (psif (ptcmp (opeq hr.units) (Ta.pv 5) pe_int) (pss_one (ps_ret (pe_tup (pa_cons (pstr []) (pa_cons (Ta.pv 3) (pa_cons (Ta.pv 2) pa_nil)))))) pss_nil)
  (pss_cons (psif (ptcmp (opeq hr.units) (Ta.pv 5) pe_int) (pss_one (ps_ret (pe_tup (pa_cons (Ta.pv 3) (pa_cons (Ta.pv 3) (pa_cons (pe_un unneg (Ta.pv 2)) pa_nil)))))) pss_nil)
  (pss_one (ps_ret (pe_tup (pa_cons (pstr []) (pa_cons (pstr []) (pa_cons (pe_op opadd (Ta.pv 2) (pcall G_l_take (hr.mono (by decide)) takesD (pa_cons (Ta.pv 0) (pa_cons (pe_op oppow pe_int pe_int) pa_nil)))) pa_nil))))))))))))))))
/-! _law_well -/
abbrev s_l_well : Stmt := top 28
theorem sc_l_well : FnScope ["_law_script", "_law_cell"] ["_law_script"] (defScope s_l_well) := ⟨rfl, rfl, rfl, by decide +kernel, rfl, by decide +kernel, by decide +kernel⟩
structure sp_l_well (K : PySem.W.Frag) (vs : List V) (H : Hp) (Q : VK) (E : XK) : Prop where
  out : ∃ (p : Addr) (ob : Obj) (ns : List Int), vs = [.ref p] ∧ (H p = some (scr ob ns)) ∧ (ns.length < 1000) ∧ (∀ b q cs H', Kp [] H H' → H b = none → H q = none → H' b = some (wl q 0 0 0) → H' q = some (cel cs) → cs.length < 1000 → Q (.ref b) H')
theorem i_l_well {K : PySem.W.Frag} {p : Addr} {ob : Obj} {ns : List Int} {H : Hp} {Q : VK} {E : XK} (hp : H p = some (scr ob ns)) (h1 : ns.length < 1000) (q1 : ∀ b q cs H', Kp [] H H' → H b = none → H q = none → H' b = some (wl q 0 0 0) → H' q = some (cel cs) → cs.length < 1000 → Q (.ref b) H') : sp_l_well K [.ref p] H Q E := by
  exact ⟨⟨p, ob, ns, rfl, hp, h1, q1⟩⟩


def t_l_well (K : PySem.W.Frag) (W : WX) : TS :=
  (tRet (tLst (tCons (tLcP (jA K (tSl (zSlP K) (tV 0) tNoPart (tPrt (tC (.int 63))))) (gName 1) tYes (tCB (zInt) (tCons (tV 1) tNil)) [1]) (tCons (tC (.int 0)) (tCons (tC (.int 0)) (tCons (tC (.int 0)) tNil))))))
theorem tm_l_well {P : Program} {w : World} {K : PySem.W.Frag} {mg : Str → Option Value} {base : Heap} {f : Addr} {cdv : Value} {A : Around} {outer : List Env} {s : Shared} {H : Hp} {E : XK} (T : Tx K mg) (hr : Room 4 (A.deeper (envOfC "_law_well" (defScope s_l_well) s.heap.objs.size f cdv))) :
    PSs (cxOf (L2.CX P w) P w K mg base ["_law_script", "_law_cell"] "_law_well" (defScope s_l_well) f cdv A outer s H E) (defBody s_l_well) (t_l_well K (WD E)) :=
  (pss_one (ps_ret (pe_lst (pa_cons (plc [("_law_cell", 1)] rfl sc_l_well.nd (pja (psl (Ta.pv 0) po_none (posome pe_int))) (by kernel_rfl) (fun _ _ _ _ _ => (pgn 1 sc_l_well.nd)) (fun _ _ _ _ _ => pts_nil) (fun _ _ _ _ _ => (pct (crint) T.f_int (pa_cons (Ta.pv 1) pa_nil)))) (pa_cons pe_int (pa_cons pe_int (pa_cons pe_int pa_nil)))))))
/-! _law_letters -/
abbrev s_l_letters : Stmt := top 30
theorem sc_l_letters : FnScope ["_law_well_here", "_law_most", "_law_pool", "_law_chosen", "_law_k", "_law_vowels", "_law_letter"] ["_law_well_here", "_law_most"] (defScope s_l_letters) := ⟨rfl, rfl, rfl, by decide +kernel, rfl, by decide +kernel, by decide +kernel⟩
structure sp_l_letters (K : PySem.W.Frag) (vs : List V) (H : Hp) (Q : VK) (E : XK) : Prop where
  out : ∃ (b q : Addr) (i n k : Int) (cs : List Int), vs = [.ref b, .int 4] ∧ (H b = some (wl q i n k)) ∧ (H q = some (cel cs)) ∧ (cs.length < 1000) ∧ (0 ≤ k ∧ k < 900000) ∧ (∀ r l v i' n' k' H', good l v → l.Pairwise (· < ·) → v.Pairwise (· < ·) → Kp [b] H H' → 0 ≤ k' → k' ≤ k + 9 → H' b = some (wl q i' n' k') → H r = none → H' r = some (.tup [.str (S l), .str (S v)]) → Q (.ref r) H')
theorem i_l_letters {K : PySem.W.Frag} {b q : Addr} {i n k : Int} {cs : List Int} {H : Hp} {Q : VK} {E : XK} (hb : H b = some (wl q i n k)) (hq : H q = some (cel cs)) (hc : cs.length < 1000) (hk : 0 ≤ k ∧ k < 900000) (q1 : ∀ r l v i' n' k' H', good l v → l.Pairwise (· < ·) → v.Pairwise (· < ·) → Kp [b] H H' → 0 ≤ k' → k' ≤ k + 9 → H' b = some (wl q i' n' k') → H r = none → H' r = some (.tup [.str (S l), .str (S v)]) → Q (.ref r) H') : sp_l_letters K [.ref b, .int 4] H Q E := by
  exact ⟨⟨b, q, i, n, k, cs, rfl, hb, hq, hc, hk, q1⟩⟩


def b_l_letters_1 (K : PySem.W.Frag) (W : WX) : TS :=
  (tDrop (tLM zAppP (tV 3) (tCons (tLM zPopAtP (tV 2) (tCons (tCal (sp_l_take K) [] W (tCons (tV 0) (tCons (tCB (zLen K) (tCons (tV 2) tNil)) tNil))) tNil)) tNil)))
def b_l_letters_2 (K : PySem.W.Frag) (W : WX) : TS :=
  (tIfP (tTst (tOp (zEqP K) (tCal (sp_l_take K) [] W (tCons (tV 0) (tCons (tC (.int 2)) tNil))) (tC (.int 1)))) (tDrop (tLM zAppP (tV 5) (tCons (tV 6) tNil))) tNext)
def t_l_letters (K : PySem.W.Frag) (W : WX) : TS :=
  (tSeq (tAsg (tCB (zListX K) (tCons (tC (.str (S [97, 98, 99, 100, 101, 102, 103, 104, 105, 106, 107, 108, 109, 110, 111, 112, 113, 114, 115, 116, 117, 118, 119, 120, 121, 122]))) tNil)) (gName 2))
  (tSeq (tAsg (tLst tNil) (gName 3))
  (tSeq (tForP (jR1 (tCons (tOp zAdd (tC (.int 1)) (tCal (sp_l_take K) [] W (tCons (tV 0) (tCons (tV 1) tNil)))) tNil)) (gName 4) (b_l_letters_1 K W))
  (tSeq (tAsg (tCB (zSort2) (tCons (tV 3) tNil)) (gName 3))
  (tSeq (tAsg (tLst tNil) (gName 5))
  (tSeq (tForP (jA K (tV 3)) (gName 6) (b_l_letters_2 K W))
  (tRet (tTup (tCons (tSM (zJoin K) (tC (.str (S []))) (tCons (tV 3) tNil)) (tCons (tSM (zJoin K) (tC (.str (S []))) (tCons (tV 5) tNil)) tNil))))))))))
theorem tm_l_letters {P : Program} {w : World} {K : PySem.W.Frag} {mg : Str → Option Value} {base : Heap} {f : Addr} {cdv : Value} {A : Around} {outer : List Env} {s : Shared} {H : Hp} {E : XK} (T : Tx K mg) (G_l_take : Fn P w K mg base "_law_take" 5 [] (sp_l_take K)) (hr : Room 6 (A.deeper (envOfC "_law_letters" (defScope s_l_letters) s.heap.objs.size f cdv))) :
    PSs (cxOf (L2.CX P w) P w K mg base ["_law_well_here", "_law_most", "_law_pool", "_law_chosen", "_law_k", "_law_vowels", "_law_letter"] "_law_letters" (defScope s_l_letters) f cdv A outer s H E) (defBody s_l_letters) (t_l_letters K (WD E)) :=
  (pss_cons (pset 2 sc_l_letters.nd (pct (crlistX rfl) T.f_list (pa_cons (pstr [97, 98, 99, 100, 101, 102, 103, 104, 105, 106, 107, 108, 109, 110, 111, 112, 113, 114, 115, 116, 117, 118, 119, 120, 121, 122]) pa_nil)))
  (pss_cons (pset 3 sc_l_letters.nd (pe_lst pa_nil))
  (pss_cons (psfor ownD rfl (pjr1 T.f_range (pa_cons (pe_op opadd pe_int (pcall G_l_take (hr.mono (by decide)) takesD (pa_cons (Ta.pv 0) (pa_cons (Ta.pv 1) pa_nil)))) pa_nil)) (pgn 4 sc_l_letters.nd) (pss_one (ps_expr (plm PySem.F.slot_list_append PySem.F.type_list_append mtapp (Ta.pv 3) (pa_cons (plm PySem.F.slot_list_pop PySem.F.type_list_pop mtpopat (Ta.pv 2) (pa_cons (pcall G_l_take (hr.mono (by decide)) takesD (pa_cons (Ta.pv 0) (pa_cons (pcb (crlen) T.f_len (pa_cons (Ta.pv 2) pa_nil)) pa_nil))) pa_nil)) pa_nil)))))
  (pss_cons (pset 3 sc_l_letters.nd (pcb (crsort2 rfl) T.f_sorted (pa_cons (Ta.pv 3) pa_nil)))
  (pss_cons (pset 5 sc_l_letters.nd (pe_lst pa_nil))
  (pss_cons (psfor ownD rfl (pja (Ta.pv 3)) (pgn 6 sc_l_letters.nd) (pss_one (psif (ptcmp (opeq hr.units) (pcall G_l_take (hr.mono (by decide)) takesD (pa_cons (Ta.pv 0) (pa_cons pe_int pa_nil))) pe_int) (pss_one (ps_expr (plm PySem.F.slot_list_append PySem.F.type_list_append mtapp (Ta.pv 5) (pa_cons (Ta.pv 6) pa_nil)))) pss_nil)))
  (pss_one (ps_ret (pe_tup (pa_cons (psm PySem.F.slot_str_join PySem.F.type_str_join mtjoin (pstr []) (pa_cons (Ta.pv 3) pa_nil)) (pa_cons (psm PySem.F.slot_str_join PySem.F.type_str_join mtjoin (pstr []) (pa_cons (Ta.pv 5) pa_nil)) pa_nil)))))))))))
/-! all_different -/
abbrev s_all_different : Stmt := top 9
theorem sc_all_different : FnScope ["string"] ["string"] (defScope s_all_different) := ⟨rfl, rfl, rfl, by decide +kernel, rfl, by decide +kernel, by decide +kernel⟩
structure sp_all_different (K : PySem.W.Frag) (vs : List V) (H : Hp) (Q : VK) (E : XK) : Prop where
  out : ∃ (l : List Nat), vs = [.str (S l)] ∧ l.length < 4000 ∧ Q (.bl (dif l)) H
theorem i_all_different {K : PySem.W.Frag} {l : List Nat} {H : Hp} {Q : VK} {E : XK} (h : l.length < 4000) (q : Q (.bl (dif l)) H) : sp_all_different K [.str (S l)] H Q E := by
  exact ⟨⟨l, rfl, h, q⟩⟩

def t_all_different (K : PySem.W.Frag) (W : WX) : TS :=
  (tRet (tOp (zEqP K) (tLset (tV 0)) (tCB (zLen K) (tCons (tV 0) tNil))))
theorem tm_all_different {P : Program} {w : World} {K : PySem.W.Frag} {mg : Str → Option Value} {base : Heap} {f : Addr} {cdv : Value} {A : Around} {outer : List Env} {s : Shared} {H : Hp} {E : XK} (T : Tx K mg) (hr : Room 4 (A.deeper (envOfC "all_different" (defScope s_all_different) s.heap.objs.size f cdv))) :
    PSs (cxOf (L2.CX P w) P w K mg base ["string"] "all_different" (defScope s_all_different) f cdv A outer s H E) (defBody s_all_different) (t_all_different K (WD E)) :=
  (pss_one (ps_ret (pe_cmpR (opeq hr.units) (plset rfl T.f_len T.f_set (Ta.pv 0)) (pcb (crlen) T.f_len (pa_cons (Ta.pv 0) pa_nil)) rfl)))
/-! Alphabet___init__ -/
abbrev s_Alphabet_init : Stmt := inClass (top 10) 2
theorem sc_Alphabet_init : FnScope ["self", "letters", "vowels", "foreign", "sign"] ["self", "letters", "vowels"] (defScope s_Alphabet_init) := ⟨rfl, rfl, rfl, by decide +kernel, rfl, by decide +kernel, by decide +kernel⟩
structure sp_Alphabet_init (K : PySem.W.Frag) (vs : List V) (H : Hp) (Q : VK) (E : XK) : Prop where
  out : ∃ (a dx : Addr) (l v : List Nat), vs = [.ref a, .str (S l), .str (S v)] ∧ H a = some (.ins (He.ga K "Alphabet") dx []) ∧ l.length < 64 ∧ v.length < 64 ∧
  (badL l = true → ∀ H' d, Kp [] H H' → H' d = none → E (.ref (He.ga K "BadAlphabet")) (some d) (upd H' d (.xd [("part", .str (S tLet))]))) ∧
  (badL l = false → badV l v = true → ∀ H' d, Kp [] H H' → H' d = none → E (.ref (He.ga K "BadAlphabet")) (some d) (upd H' d (.xd [("part", .str (S tVow))]))) ∧
  (badL l = false → badV l v = false → ∀ H', Kp [a] H H' → H' a = some (.ins (He.ga K "Alphabet") dx (alf l v)) → Q .non H')
theorem i_Alphabet_init {K : PySem.W.Frag} {a dx : Addr} {l v : List Nat} {H : Hp} {Q : VK} {E : XK} (ha : H a = some (.ins (He.ga K "Alphabet") dx [])) (h1 : l.length < 64) (h2 : v.length < 64)
  (q1 : badL l = true → ∀ H' d, Kp [] H H' → H' d = none → E (.ref (He.ga K "BadAlphabet")) (some d) (upd H' d (.xd [("part", .str (S tLet))])))
  (q2 : badL l = false → badV l v = true → ∀ H' d, Kp [] H H' → H' d = none → E (.ref (He.ga K "BadAlphabet")) (some d) (upd H' d (.xd [("part", .str (S tVow))])))
  (q3 : badL l = false → badV l v = false → ∀ H', Kp [a] H H' → H' a = some (.ins (He.ga K "Alphabet") dx (alf l v)) → Q .non H') : sp_Alphabet_init K [.ref a, .str (S l), .str (S v)] H Q E := by
  exact ⟨⟨a, dx, l, v, rfl, ha, h1, h2, q1, q2, q3⟩⟩
/-- good letters and vowels -/
theorem g_Alphabet_init {K : PySem.W.Frag} {a dx : Addr} {l v : List Nat} {H : Hp} {Q : VK} {E : XK} (ha : H a = some (.ins (He.ga K "Alphabet") dx [])) (h1 : l.length < 64) (h2 : v.length < 64) (e1 : badL l = false) (e2 : badV l v = false)
  (q3 : ∀ H', Kp [a] H H' → H' a = some (.ins (He.ga K "Alphabet") dx (alf l v)) → Q .non H') : sp_Alphabet_init K [.ref a, .str (S l), .str (S v)] H Q E := by
  refine i_Alphabet_init ha h1 h2 (fun z => ?_) (fun _ z => ?_) fun _ _ => q3
  · rw [e1] at z; cases z
  · rw [e2] at z; cases z

def t_Alphabet_init (K : PySem.W.Frag) (W : WX) : TS :=
  (tSeq (tAsg (tLcP (jA K (tV 1)) (gName 4) (tTst (tOp (zNinP K) (tV 4) (tC (.str (S [97, 98, 99, 100, 101, 102, 103, 104, 105, 106, 107, 108, 109, 110, 111, 112, 113, 114, 115, 116, 117, 118, 119, 120, 121, 122]))))) (tV 4) [4]) (gName 3))
  (tSeq (tIfP (tOrP (tTru K (tV 3)) (tOrP (tNot (tTst (tChn zLe zLe (tC (.int 1)) (tCB (zLen K) (tCons (tV 1) tNil)) (tC (.int 4))))) (tNot (tTru K (tCal (sp_all_different K) [] W (tCons (tV 1) tNil)))))) (tRs (He.ga K "BadAlphabet") ["part"] W (tCons (tC (.str (S [108, 101, 116, 116, 101, 114, 115]))) tNil)) tNext)
  (tSeq (tIfP (tOrP (tTru K (tLcP (jA K (tV 2)) (gName 4) (tTst (tOp (zNinP K) (tV 4) (tV 1))) (tV 4) [4])) (tNot (tTru K (tCal (sp_all_different K) [] W (tCons (tV 2) tNil))))) (tRs (He.ga K "BadAlphabet") ["part"] W (tCons (tC (.str (S [118, 111, 119, 101, 108, 115]))) tNil)) tNext)
  (tSeq (sAt K (tV 0) (tSM (zJoin K) (tC (.str (S []))) (tCons (tCB (zSort1) (tCons (tV 1) tNil)) tNil)) "letters")
  (tSeq (sAt K (tV 0) (tSM (zJoin K) (tC (.str (S []))) (tCons (tCB (zSort1) (tCons (tV 2) tNil)) tNil)) "vowels")
  (tSeq (sAt K (tV 0) (tSM (zJoin K) (tC (.str (S []))) (tCons (tLcP (jA K (tCB (zSort1) (tCons (tV 1) tNil))) (gName 4) (tTst (tOp (zNinP K) (tV 4) (tV 2))) (tV 4) [4]) tNil)) "consonants")
  (sAt K (tV 0) (tOp zAdd (tC (.str (S [45]))) (tAt K (tV 0) "letters")) "signs")))))))
theorem tm_Alphabet_init {P : Program} {w : World} {K : PySem.W.Frag} {mg : Str → Option Value} {base : Heap} {f : Addr} {cdv : Value} {A : Around} {outer : List Env} {s : Shared} {H : Hp} {E : XK} (T : Tx K mg) (G_all_different : Fn P w K mg base "all_different" 5 [] (sp_all_different K)) (X_BadAlphabet : Ex P w K mg base "BadAlphabet" (He.ga K "BadAlphabet") ["part"]) (hr : Room 6 (A.deeper (envOfC "Alphabet.__init__" (defScope s_Alphabet_init) s.heap.objs.size f cdv))) :
    PSs (cxOf (L2.CX P w) P w K mg base ["self", "letters", "vowels", "foreign", "sign"] "Alphabet.__init__" (defScope s_Alphabet_init) f cdv A outer s H E) (defBody s_Alphabet_init) (t_Alphabet_init K (WD E)) :=
  (pss_cons (pslc (i := 3) [("sign", 4)] rfl sc_Alphabet_init.nd rfl rfl (sw_true rfl rfl rfl (by decide +kernel)) (pja (Ta.pv 1)) (by kernel_rfl) (fun _ _ _ _ _ => (pgn 4 sc_Alphabet_init.nd)) (fun _ _ _ _ _ => (pts_one (ptcmp opnin (Ta.pv 4) (pglo T.v_SMALL)))) (fun _ _ _ _ _ => (Ta.pv 4)))
  (pss_cons (psif (PW.pt (pwor (ptru (Ta.pv 3)) (pwor (pt_not (ptchn ople ople pe_int (pcb (crlen) T.f_len (pa_cons (Ta.pv 1) pa_nil)) (pclv T.cc_Alphabet_MOST))) (pw_or1 (pt_not (ptru (pcall G_all_different (hr.mono (by decide)) takesD (pa_cons (Ta.pv 1) pa_nil)))))))) (pss_one (praise X_BadAlphabet (hr.mono (by decide)) takesD (pa_cons (pstr [108, 101, 116, 116, 101, 114, 115]) pa_nil))) pss_nil)
  (pss_cons (psif (PW.pt (pwor (ptru (plc [("sign", 4)] rfl sc_Alphabet_init.nd (pja (Ta.pv 2)) (by kernel_rfl) (fun _ _ _ _ _ => (pgn 4 sc_Alphabet_init.nd)) (fun _ _ _ _ _ => (pts_one (ptcmp opnin (Ta.pv 4) (Ta.pv 1)))) (fun _ _ _ _ _ => (Ta.pv 4)))) (pw_or1 (pt_not (ptru (pcall G_all_different (hr.mono (by decide)) takesD (pa_cons (Ta.pv 2) pa_nil))))))) (pss_one (praise X_BadAlphabet (hr.mono (by decide)) takesD (pa_cons (pstr [118, 111, 119, 101, 108, 115]) pa_nil))) pss_nil)
  (pss_cons (psat (Ta.pv 0) (psm PySem.F.slot_str_join PySem.F.type_str_join mtjoin (pstr []) (pa_cons (pcb (crsort rfl) T.f_sorted (pa_cons (Ta.pv 1) pa_nil)) pa_nil)))
  (pss_cons (psat (Ta.pv 0) (psm PySem.F.slot_str_join PySem.F.type_str_join mtjoin (pstr []) (pa_cons (pcb (crsort rfl) T.f_sorted (pa_cons (Ta.pv 2) pa_nil)) pa_nil)))
  (pss_cons (psat (Ta.pv 0) (psm PySem.F.slot_str_join PySem.F.type_str_join mtjoin (pstr []) (pa_cons (plc [("sign", 4)] rfl sc_Alphabet_init.nd (pja (pcb (crsort rfl) T.f_sorted (pa_cons (Ta.pv 1) pa_nil))) (by kernel_rfl) (fun _ _ _ _ _ => (pgn 4 sc_Alphabet_init.nd)) (fun _ _ _ _ _ => (pts_one (ptcmp opnin (Ta.pv 4) (Ta.pv 2)))) (fun _ _ _ _ _ => (Ta.pv 4))) pa_nil)))
  (pss_one (psat (Ta.pv 0) (pe_op opadd (pclv T.cc_Alphabet_JOINT) (patt (Ta.pv 0)))))))))))
/-! _law_table -/
abbrev s_l_table : Stmt := top 33
theorem sc_l_table : FnScope ["_law_well_here", "_law_signs", "_law_places", "_law_most", "_law_marks", "_law_arcs", "_law_goods", "_law_place", "_law_row", "_law_k"] ["_law_well_here", "_law_signs"] (defScope s_l_table) := ⟨rfl, rfl, rfl, by decide +kernel, rfl, by decide +kernel, by decide +kernel⟩
structure sp_l_table (K : PySem.W.Frag) (vs : List V) (H : Hp) (Q : VK) (E : XK) : Prop where
  out : ∃ (b q : Addr) (i n k : Int) (cs : List Int) (g : List Nat), vs = [.ref b, .str (S g)] ∧ (H b = some (wl q i n k)) ∧ (H q = some (cel cs)) ∧ (cs.length < 1000) ∧ (0 ≤ k ∧ k < 900000) ∧ (∀ c ∈ g, c < 128) ∧ (g.length ≤ 5) ∧ (∀ r p gl ps R bs i' n' k' H', tabOk g R → tabP H H' p ps R → H gl = none → H' gl = some (bls bs) → bs.length = R.length → H r = none → H' r = some (.tup [.ref p, .ref gl]) → Kp [b] H H' → 0 ≤ k' → k' ≤ k + 1000 → H' b = some (wl q i' n' k') → Q (.ref r) H')
theorem i_l_table {K : PySem.W.Frag} {b q : Addr} {i n k : Int} {cs : List Int} {g : List Nat} {H : Hp} {Q : VK} {E : XK} (hb : H b = some (wl q i n k)) (hq : H q = some (cel cs)) (hc : cs.length < 1000) (hk : 0 ≤ k ∧ k < 900000) (hg : ∀ c ∈ g, c < 128) (hg2 : g.length ≤ 5) (q1 : ∀ r p gl ps R bs i' n' k' H', tabOk g R → tabP H H' p ps R → H gl = none → H' gl = some (bls bs) → bs.length = R.length → H r = none → H' r = some (.tup [.ref p, .ref gl]) → Kp [b] H H' → 0 ≤ k' → k' ≤ k + 1000 → H' b = some (wl q i' n' k') → Q (.ref r) H') : sp_l_table K [.ref b, .str (S g)] H Q E := by
  exact ⟨⟨b, q, i, n, k, cs, g, rfl, hb, hq, hc, hk, hg, hg2, q1⟩⟩


def b_l_table_2 (K : PySem.W.Frag) (W : WX) : TS :=
  (tDrop (tLM zAppP (tV 8) (tCons (tTup (tCons (tOp (zIxP K) (tV 4) (tCal (sp_l_take K) [] W (tCons (tV 0) (tCons (tCB (zLen K) (tCons (tV 4) tNil)) tNil)))) (tCons (tOp (zIxP K) (tV 4) (tCal (sp_l_take K) [] W (tCons (tV 0) (tCons (tCB (zLen K) (tCons (tV 4) tNil)) tNil)))) (tCons (tCal (sp_l_take K) [] W (tCons (tV 0) (tCons (tV 2) tNil))) tNil)))) tNil)))
def b_l_table_1 (K : PySem.W.Frag) (W : WX) : TS :=
  (tSeq (tAsg (tLst tNil) (gName 8))
  (tSeq (tForP (jR1 (tCons (tCal (sp_l_take K) [] W (tCons (tV 0) (tCons (tV 3) tNil))) tNil)) (gName 9) (b_l_table_2 K W))
  (tSeq (tDrop (tLM zAppP (tV 5) (tCons (tV 8) tNil)))
  (tDrop (tLM zAppP (tV 6) (tCons (tOp (zEqP K) (tCal (sp_l_take K) [] W (tCons (tV 0) (tCons (tC (.int 2)) tNil))) (tC (.int 0))) tNil))))))
structure t_l_table_6 (K : PySem.W.Frag) (W : WX) (D : Ends) (σ : L2.St) (H : Hp) : Prop where
  out : (tSeq (tForP (jR1 (tCons (tV 2) tNil)) (gName 7) (b_l_table_1 K W))
  (tRet (tTup (tCons (tV 5) (tCons (tV 6) tNil))))) D σ H
def t_l_table (K : PySem.W.Frag) (W : WX) : TS :=
  (tSeq (tAsg (tOp zAdd (tC (.int 1)) (tCal (sp_l_take K) [] W (tCons (tV 0) (tCons (tC (.int 6)) tNil)))) (gName 2))
  (tSeq (tAsg (tC (.int 5)) (gName 3))
  (tSeq (tIfP (tTst (tOp (zEqP K) (tCal (sp_l_take K) [] W (tCons (tV 0) (tCons (tC (.int 8)) tNil))) (tC (.int 7)))) (tSeq (tAsg (tC (.int 60)) (gName 2))
  (tAsg (tC (.int 2)) (gName 3))) tNext)
  (tSeq (tAsg (tOp zAdd (tLst (tCons (tC (.str (S []))) tNil)) (tCB (zListX K) (tCons (tV 1) tNil))) (gName 4))
  (tSeq (tAsg (tLst tNil) (gName 5))
  (tSeq (tAsg (tLst tNil) (gName 6))
  (t_l_table_6 K W)))))))
theorem tm_l_table {P : Program} {w : World} {K : PySem.W.Frag} {mg : Str → Option Value} {base : Heap} {f : Addr} {cdv : Value} {A : Around} {outer : List Env} {s : Shared} {H : Hp} {E : XK} (T : Tx K mg) (G_l_take : Fn P w K mg base "_law_take" 5 [] (sp_l_take K)) (hr : Room 6 (A.deeper (envOfC "_law_table" (defScope s_l_table) s.heap.objs.size f cdv))) :
    PSs (cxOf (L2.CX P w) P w K mg base ["_law_well_here", "_law_signs", "_law_places", "_law_most", "_law_marks", "_law_arcs", "_law_goods", "_law_place", "_law_row", "_law_k"] "_law_table" (defScope s_l_table) f cdv A outer s H E) (defBody s_l_table) (t_l_table K (WD E)) :=
  (pss_cons (pset 2 sc_l_table.nd (pe_op opadd pe_int (pcall G_l_take (hr.mono (by decide)) takesD (pa_cons (Ta.pv 0) (pa_cons pe_int pa_nil)))))
  (pss_cons (pset 3 sc_l_table.nd pe_int)
  (pss_cons (psif (ptcmp (opeq hr.units) (pcall G_l_take (hr.mono (by decide)) takesD (pa_cons (Ta.pv 0) (pa_cons pe_int pa_nil))) pe_int) (pss_cons (pset 2 sc_l_table.nd pe_int)
  (pss_one (pset 3 sc_l_table.nd pe_int))) pss_nil)
  (pss_cons (pset 4 sc_l_table.nd (pe_op opadd (pe_lst (pa_cons (pstr []) pa_nil)) (pct (crlistX rfl) T.f_list (pa_cons (Ta.pv 1) pa_nil))))
  (pss_cons (pset 5 sc_l_table.nd (pe_lst pa_nil))
  (pss_cons (pset 6 sc_l_table.nd (pe_lst pa_nil))
  (pss_imp (pss_cons (psfor ownD rfl (pjr1 T.f_range (pa_cons (Ta.pv 2) pa_nil)) (pgn 7 sc_l_table.nd) (pss_cons (pset 8 sc_l_table.nd (pe_lst pa_nil))
  (pss_cons (psfor ownD rfl (pjr1 T.f_range (pa_cons (pcall G_l_take (hr.mono (by decide)) takesD (pa_cons (Ta.pv 0) (pa_cons (Ta.pv 3) pa_nil))) pa_nil)) (pgn 9 sc_l_table.nd) (pss_one (ps_expr (plm PySem.F.slot_list_append PySem.F.type_list_append mtapp (Ta.pv 8) (pa_cons (pe_tup (pa_cons (pix (Ta.pv 4) (pcall G_l_take (hr.mono (by decide)) takesD (pa_cons (Ta.pv 0) (pa_cons (pcb (crlen) T.f_len (pa_cons (Ta.pv 4) pa_nil)) pa_nil)))) (pa_cons (pix (Ta.pv 4) (pcall G_l_take (hr.mono (by decide)) takesD (pa_cons (Ta.pv 0) (pa_cons (pcb (crlen) T.f_len (pa_cons (Ta.pv 4) pa_nil)) pa_nil)))) (pa_cons (pcall G_l_take (hr.mono (by decide)) takesD (pa_cons (Ta.pv 0) (pa_cons (Ta.pv 2) pa_nil))) pa_nil)))) pa_nil)))))
  (pss_cons (ps_expr (plm PySem.F.slot_list_append PySem.F.type_list_append mtapp (Ta.pv 5) (pa_cons (Ta.pv 8) pa_nil)))
  (pss_one (ps_expr (plm PySem.F.slot_list_append PySem.F.type_list_append mtapp (Ta.pv 6) (pa_cons (pe_cmpR (opeq hr.units) (pcall G_l_take (hr.mono (by decide)) takesD (pa_cons (Ta.pv 0) (pa_cons pe_int pa_nil))) pe_int rfl) pa_nil))))))))
  (pss_one (ps_ret (pe_tup (pa_cons (Ta.pv 5) (pa_cons (Ta.pv 6) pa_nil)))))) fun _ _ _ h => h.out)))))))
/-! law -/
abbrev s_law : Stmt := top 38
theorem sc_law : FnScope ["_law_script", "_law_well_here", "_law_letters_here", "_law_vowels", "_law_alphabet", "_law_signs", "_law_arcs", "_law_goods", "_law_handed", "_law_handed_goods", "_law_machine", "_law_places", "_law_place", "_law_later", "_law_bent", "_law_twice", "_law_other"] ["_law_script"] (defScope s_law) := ⟨rfl, rfl, rfl, by decide +kernel, rfl, by decide +kernel, by decide +kernel⟩
structure sp_law (K : PySem.W.Frag) (vs : List V) (H : Hp) (Q : VK) (E : XK) : Prop where
  out : ∃ (p : Addr) (ob : Obj) (ns : List Int), vs = [.ref p] ∧ H p = some (scr ob ns) ∧ ns.length < 1000 ∧ ∀ H', Q (.bl true) H'

structure t_law_23 (K : PySem.W.Frag) (W : WX) (D : Ends) (σ : L2.St) (H : Hp) : Prop where
  out : (tSeq (tAsg (tMak (He.ga K "Machine") (sp_Machine_init K) [] W (tCons (tV 4) (tCons (tLst (tCons (tLst tNil) tNil)) (tCons (tLst (tCons (tC (.bl true)) tNil)) tNil)))) (gName 16))
  (tRet (tAndE K (tCal (sp_l_kept K) [] W (tCons (tV 16) (tCons (tLst (tCons (tLst tNil) tNil)) (tCons (tLst (tCons (tC (.bl true)) tNil)) (tCons (tV 2) (tCons (tV 3) tNil)))))) (tCal (sp_l_kept K) [] W (tCons (tV 10) (tCons (tV 6) (tCons (tV 7) (tCons (tV 2) (tCons (tV 3) tNil))))))))) D σ H
structure t_law_20 (K : PySem.W.Frag) (W : WX) (D : Ends) (σ : L2.St) (H : Hp) : Prop where
  out : (tSeq (tIfP (tOrP (tTst (tOp (zNeP K) (tCal (sp_l_refused K) [] W (tCons (tV 4) (tCons (tV 14) (tCons (tSl (zSlP K) (tV 7) (tPrt (tC (.int 1))) tNoPart) tNil)))) (tUn zNeg (tC (.int 1))))) (tTst (tOp (zNeP K) (tCal (sp_l_refused K) [] W (tCons (tV 4) (tCons (tV 6) (tCons (tOp zAdd (tV 7) (tLst (tCons (tC (.bl false)) tNil))) tNil)))) (tUn zNeg (tC (.int 1)))))) (tRet (tC (.bl false))) tNext)
  (tSeq (tIfP (tOrP (tTst (tOp (zNeP K) (tCal (sp_l_refused K) [] W (tCons (tV 4) (tCons (tLst tNil) (tCons (tLst tNil) tNil)))) (tUn zNeg (tC (.int 1))))) (tTst (tOp (zNeP K) (tCal (sp_l_refused K) [] W (tCons (tV 4) (tCons (tLst tNil) (tCons (tLst (tCons (tC (.bl true)) tNil)) tNil)))) (tUn zNeg (tC (.int 1)))))) (tRet (tC (.bl false))) tNext)
  (tSeq (tIfP (tTst (tOp zIsnB (tCal (sp_l_refused K) [] W (tCons (tV 4) (tCons (tV 6) (tCons (tV 7) tNil)))) (tC .non))) (tRet (tC (.bl false))) tNext)
  (t_law_23 K W)))) D σ H
structure t_law_14 (K : PySem.W.Frag) (W : WX) (D : Ends) (σ : L2.St) (H : Hp) : Prop where
  out : (tSeq (tAsg (tCB (zLen K) (tCons (tV 6) tNil)) (gName 11))
  (tSeq (tAsg (tCal (sp_l_take K) [] W (tCons (tV 1) (tCons (tV 11) tNil))) (gName 12))
  (tSeq (tAsg (tOp zAdd (tV 12) (tCal (sp_l_take K) [] W (tCons (tV 1) (tCons (tOp zSub (tV 11) (tV 12)) tNil)))) (gName 13))
  (tSeq (tAsg (tCal (sp_l_put K) [] W (tCons (tV 1) (tCons (tV 6) (tCons (tV 12) (tCons (tCal (sp_l_wrong K) [] W (tCons (tV 1) (tCons (tV 5) (tCons (tV 11) tNil)))) tNil))))) (gName 14))
  (tSeq (tAsg (tCal (sp_l_put K) [] W (tCons (tV 1) (tCons (tV 14) (tCons (tV 13) (tCons (tCal (sp_l_wrong K) [] W (tCons (tV 1) (tCons (tV 5) (tCons (tV 11) tNil)))) tNil))))) (gName 15))
  (tSeq (tIfP (tOrP (tTst (tOp (zNeP K) (tCal (sp_l_refused K) [] W (tCons (tV 4) (tCons (tV 14) (tCons (tV 7) tNil)))) (tV 12))) (tTst (tOp (zNeP K) (tCal (sp_l_refused K) [] W (tCons (tV 4) (tCons (tV 15) (tCons (tV 7) tNil)))) (tV 12)))) (tRet (tC (.bl false))) tNext)
  (t_law_20 K W))))))) D σ H
def t_law (K : PySem.W.Frag) (W : WX) : TS :=
  (tSeq (tAsg (tCal (sp_l_well K) [] W (tCons (tV 0) tNil)) (gName 1))
  (tSeq (tAsg (tCal (sp_l_letters K) [] W (tCons (tV 1) (tCons (tC (.int 4)) tNil))) (gTup K 2 (gCons (gName 2) (gCons (gName 3) gNil))))
  (tSeq (tAsg (tMak (He.ga K "Alphabet") (sp_Alphabet_init K) [] W (tCons (tRev (tV 2)) (tCons (tV 3) tNil))) (gName 4))
  (tSeq (tAsg (tOp zAdd (tC (.str (S [45]))) (tV 2)) (gName 5))
  (tSeq (tAsg (tCal (sp_l_table K) [] W (tCons (tV 1) (tCons (tV 5) tNil))) (gTup K 2 (gCons (gName 6) (gCons (gName 7) gNil))))
  (tSeq (tAsg (tCal (sp_l_copy K) [] W (tCons (tV 6) tNil)) (gName 8))
  (tSeq (tAsg (tCB (zListX K) (tCons (tV 7) tNil)) (gName 9))
  (tSeq (tAsg (tMak (He.ga K "Machine") (sp_Machine_init K) [] W (tCons (tV 4) (tCons (tV 8) (tCons (tV 9) tNil)))) (gName 10))
  (tSeq (tIfP (tOrP (tTst (tOp (zNeP K) (tV 8) (tV 6))) (tOrP (tTst (tOp (zNeP K) (tV 9) (tV 7))) (tNot (tTru K (tCal (sp_l_kept K) [] W (tCons (tV 10) (tCons (tV 6) (tCons (tV 7) (tCons (tV 2) (tCons (tV 3) tNil)))))))))) (tRet (tC (.bl false))) tNext)
  (tSeq (tDrop (tLM zAppP (tOp (zIxP K) (tV 8) (tC (.int 0))) (tCons (tTup (tCons (tOp (zIxP K) (tV 5) (tC (.int 0))) (tCons (tOp (zIxP K) (tV 5) (tC (.int 1))) (tCons (tC (.int 0)) tNil)))) tNil)))
  (tSeq (tDrop (tLM zAppP (tV 8) (tCons (tLst tNil) tNil)))
  (tSeq (tAsg (tNotE K (tOp (zIxP K) (tV 9) (tC (.int 0)))) (gSub (tV 9) (tC (.int 0)) zSetP))
  (tSeq (tDrop (tLM zAppP (tV 9) (tCons (tC (.bl true)) tNil)))
  (tSeq (tIfP (tNot (tTru K (tCal (sp_l_kept K) [] W (tCons (tV 10) (tCons (tV 6) (tCons (tV 7) (tCons (tV 2) (tCons (tV 3) tNil)))))))) (tRet (tC (.bl false))) tNext)
  (t_law_14 K W)))))))))))))))
theorem tm_law {P : Program} {w : World} {K : PySem.W.Frag} {mg : Str → Option Value} {base : Heap} {f : Addr} {cdv : Value} {A : Around} {outer : List Env} {s : Shared} {H : Hp} {E : XK} (T : Tx K mg) (G_Alphabet : Mks P w K mg base "Alphabet" (He.ga K "Alphabet") 7 [] (sp_Alphabet_init K)) (G_Machine : Mks P w K mg base "Machine" (He.ga K "Machine") 9 [] (sp_Machine_init K)) (G_l_copy : Fn P w K mg base "_law_copy" 5 [] (sp_l_copy K)) (G_l_kept : Fn P w K mg base "_law_kept" 7 [] (sp_l_kept K)) (G_l_letters : Fn P w K mg base "_law_letters" 7 [] (sp_l_letters K)) (G_l_put : Fn P w K mg base "_law_put" 7 [] (sp_l_put K)) (G_l_refused : Fn P w K mg base "_law_refused" 11 [] (sp_l_refused K)) (G_l_table : Fn P w K mg base "_law_table" 7 [] (sp_l_table K)) (G_l_take : Fn P w K mg base "_law_take" 5 [] (sp_l_take K)) (G_l_well : Fn P w K mg base "_law_well" 5 [] (sp_l_well K)) (G_l_wrong : Fn P w K mg base "_law_wrong" 9 [] (sp_l_wrong K)) (hr : Room 12 (A.deeper (envOfC "law" (defScope s_law) s.heap.objs.size f cdv))) :
    PSs (cxOf (L2.CX P w) P w K mg base ["_law_script", "_law_well_here", "_law_letters_here", "_law_vowels", "_law_alphabet", "_law_signs", "_law_arcs", "_law_goods", "_law_handed", "_law_handed_goods", "_law_machine", "_law_places", "_law_place", "_law_later", "_law_bent", "_law_twice", "_law_other"] "law" (defScope s_law) f cdv A outer s H E) (defBody s_law) (t_law K (WD E)) :=
  (pss_cons (pset 1 sc_law.nd (pcall G_l_well (hr.mono (by decide)) takesD (pa_cons (Ta.pv 0) pa_nil)))
  (pss_cons (ps_asg (pcall G_l_letters (hr.mono (by decide)) takesD (pa_cons (Ta.pv 1) (pa_cons pe_int pa_nil))) (pg_tup rfl (pgs_cons (pgn 2 sc_law.nd) (pgs_cons (pgn 3 sc_law.nd) pgs_nil))))
  (pss_cons (pset 4 sc_law.nd (pmak G_Alphabet (hr.mono (by decide)) takesD (pa_cons (prev (Ta.pv 2)) (pa_cons (Ta.pv 3) pa_nil))))
  (pss_cons (pset 5 sc_law.nd (pe_op opadd (pstr [45]) (Ta.pv 2)))
  (pss_cons (ps_asg (pcall G_l_table (hr.mono (by decide)) takesD (pa_cons (Ta.pv 1) (pa_cons (Ta.pv 5) pa_nil))) (pg_tup rfl (pgs_cons (pgn 6 sc_law.nd) (pgs_cons (pgn 7 sc_law.nd) pgs_nil))))
  (pss_cons (pset 8 sc_law.nd (pcall G_l_copy (hr.mono (by decide)) takesD (pa_cons (Ta.pv 6) pa_nil)))
  (pss_cons (pset 9 sc_law.nd (pct (crlistX rfl) T.f_list (pa_cons (Ta.pv 7) pa_nil)))
  (pss_cons (pset 10 sc_law.nd (pmak G_Machine (hr.mono (by decide)) takesD (pa_cons (Ta.pv 4) (pa_cons (Ta.pv 8) (pa_cons (Ta.pv 9) pa_nil)))))
  (pss_cons (psif (PW.pt (pwor (ptcmp (opne hr.units) (Ta.pv 8) (Ta.pv 6)) (pwor (ptcmp (opne hr.units) (Ta.pv 9) (Ta.pv 7)) (pw_or1 (pt_not (ptru (pcall G_l_kept (hr.mono (by decide)) takesD (pa_cons (Ta.pv 10) (pa_cons (Ta.pv 6) (pa_cons (Ta.pv 7) (pa_cons (Ta.pv 2) (pa_cons (Ta.pv 3) pa_nil)))))))))))) (pss_one (ps_ret pe_bl)) pss_nil)
  (pss_cons (ps_expr (plm PySem.F.slot_list_append PySem.F.type_list_append mtapp (pix (Ta.pv 8) pe_int) (pa_cons (pe_tup (pa_cons (pix (Ta.pv 5) pe_int) (pa_cons (pix (Ta.pv 5) pe_int) (pa_cons pe_int pa_nil)))) pa_nil)))
  (pss_cons (ps_expr (plm PySem.F.slot_list_append PySem.F.type_list_append mtapp (Ta.pv 8) (pa_cons (pe_lst pa_nil) pa_nil)))
  (pss_cons (psub (penot (pix (Ta.pv 9) pe_int)) (Ta.pv 9) pe_int)
  (pss_cons (ps_expr (plm PySem.F.slot_list_append PySem.F.type_list_append mtapp (Ta.pv 9) (pa_cons pe_bl pa_nil)))
  (pss_cons (psif (pt_not (ptru (pcall G_l_kept (hr.mono (by decide)) takesD (pa_cons (Ta.pv 10) (pa_cons (Ta.pv 6) (pa_cons (Ta.pv 7) (pa_cons (Ta.pv 2) (pa_cons (Ta.pv 3) pa_nil)))))))) (pss_one (ps_ret pe_bl)) pss_nil)
  (pss_imp (pss_cons (pset 11 sc_law.nd (pcb (crlen) T.f_len (pa_cons (Ta.pv 6) pa_nil)))
  (pss_cons (pset 12 sc_law.nd (pcall G_l_take (hr.mono (by decide)) takesD (pa_cons (Ta.pv 1) (pa_cons (Ta.pv 11) pa_nil))))
  (pss_cons (pset 13 sc_law.nd (pe_op opadd (Ta.pv 12) (pcall G_l_take (hr.mono (by decide)) takesD (pa_cons (Ta.pv 1) (pa_cons (pe_op opsub (Ta.pv 11) (Ta.pv 12)) pa_nil)))))
  (pss_cons (pset 14 sc_law.nd (pcall G_l_put (hr.mono (by decide)) takesD (pa_cons (Ta.pv 1) (pa_cons (Ta.pv 6) (pa_cons (Ta.pv 12) (pa_cons (pcall G_l_wrong (hr.mono (by decide)) takesD (pa_cons (Ta.pv 1) (pa_cons (Ta.pv 5) (pa_cons (Ta.pv 11) pa_nil)))) pa_nil))))))
  (pss_cons (pset 15 sc_law.nd (pcall G_l_put (hr.mono (by decide)) takesD (pa_cons (Ta.pv 1) (pa_cons (Ta.pv 14) (pa_cons (Ta.pv 13) (pa_cons (pcall G_l_wrong (hr.mono (by decide)) takesD (pa_cons (Ta.pv 1) (pa_cons (Ta.pv 5) (pa_cons (Ta.pv 11) pa_nil)))) pa_nil))))))
  (pss_cons (psif (PW.pt (pwor (ptcmp (opne hr.units) (pcall G_l_refused (hr.mono (by decide)) takesD (pa_cons (Ta.pv 4) (pa_cons (Ta.pv 14) (pa_cons (Ta.pv 7) pa_nil)))) (Ta.pv 12)) (pw_or1 (ptcmp (opne hr.units) (pcall G_l_refused (hr.mono (by decide)) takesD (pa_cons (Ta.pv 4) (pa_cons (Ta.pv 15) (pa_cons (Ta.pv 7) pa_nil)))) (Ta.pv 12))))) (pss_one (ps_ret pe_bl)) pss_nil)
  (pss_imp (pss_cons (psif (PW.pt (pwor (ptcmp (opne hr.units) (pcall G_l_refused (hr.mono (by decide)) takesD (pa_cons (Ta.pv 4) (pa_cons (Ta.pv 14) (pa_cons (psl (Ta.pv 7) (posome pe_int) po_none) pa_nil)))) (pe_un unneg pe_int)) (pw_or1 (ptcmp (opne hr.units) (pcall G_l_refused (hr.mono (by decide)) takesD (pa_cons (Ta.pv 4) (pa_cons (Ta.pv 6) (pa_cons (pe_op opadd (Ta.pv 7) (pe_lst (pa_cons pe_bl pa_nil))) pa_nil)))) (pe_un unneg pe_int))))) (pss_one (ps_ret pe_bl)) pss_nil)
  (pss_cons (psif (PW.pt (pwor (ptcmp (opne hr.units) (pcall G_l_refused (hr.mono (by decide)) takesD (pa_cons (Ta.pv 4) (pa_cons (pe_lst pa_nil) (pa_cons (pe_lst pa_nil) pa_nil)))) (pe_un unneg pe_int)) (pw_or1 (ptcmp (opne hr.units) (pcall G_l_refused (hr.mono (by decide)) takesD (pa_cons (Ta.pv 4) (pa_cons (pe_lst pa_nil) (pa_cons (pe_lst (pa_cons pe_bl pa_nil)) pa_nil)))) (pe_un unneg pe_int))))) (pss_one (ps_ret pe_bl)) pss_nil)
  (pss_cons (psif (ptcmp opisnb (pcall G_l_refused (hr.mono (by decide)) takesD (pa_cons (Ta.pv 4) (pa_cons (Ta.pv 6) (pa_cons (Ta.pv 7) pa_nil)))) pe_non) (pss_one (ps_ret pe_bl)) pss_nil)
  (pss_imp (pss_cons (pset 16 sc_law.nd (pmak G_Machine (hr.mono (by decide)) takesD (pa_cons (Ta.pv 4) (pa_cons (pe_lst (pa_cons (pe_lst pa_nil) pa_nil)) (pa_cons (pe_lst (pa_cons pe_bl pa_nil)) pa_nil)))))
  (pss_one (ps_ret (peand (pcall G_l_kept (hr.mono (by decide)) takesD (pa_cons (Ta.pv 16) (pa_cons (pe_lst (pa_cons (pe_lst pa_nil) pa_nil)) (pa_cons (pe_lst (pa_cons pe_bl pa_nil)) (pa_cons (Ta.pv 2) (pa_cons (Ta.pv 3) pa_nil)))))) (pe_one (pcall G_l_kept (hr.mono (by decide)) takesD (pa_cons (Ta.pv 10) (pa_cons (Ta.pv 6) (pa_cons (Ta.pv 7) (pa_cons (Ta.pv 2) (pa_cons (Ta.pv 3) pa_nil))))))))))) fun _ _ _ h => h.out)))) fun _ _ _ h => h.out))))))) fun _ _ _ h => h.out)))))))))))))))
end Lw

set_option Elab.async false
set_option linter.all false
set_option maxRecDepth 100000
set_option maxHeartbeats 4000000
namespace Lw
open PySem PySem.Spec PyProof.Rows L2 Ta
theorem nd_len {l m : List Nat} (hn : l.Nodup) (hs : ∀ c ∈ l, c ∈ m) : l.length ≤ m.length := by
  induction l generalizing m with
  | nil => exact Nat.zero_le _
  | cons a l ih =>
    obtain ⟨h1, h2⟩ := List.nodup_cons.mp hn
    have ha := hs a List.mem_cons_self
    have := ih (m := m.erase a) h2 fun c hc => (List.mem_erase_of_ne (fun e : c = a => h1 (by rw [← e]; exact hc))).mpr (hs c (List.mem_cons_of_mem _ hc))
    rw [List.length_erase_of_mem ha] at this
    have hp : 0 < m.length := List.length_pos_of_mem ha
    rw [List.length_cons]
    omega
theorem badL_inv {l : List Nat} (h : badL l = false) : 1 ≤ l.length ∧ l.length ≤ 4 ∧ l.Nodup ∧ ∀ c ∈ l, c ∈ AZ := by
  unfold badL at h
  simp only [Bool.or_eq_false_iff, Bool.not_eq_false', decide_eq_true_eq, List.any_eq_false] at h
  obtain ⟨⟨h1, h2⟩, h3⟩ := h
  refine ⟨h2.1, h2.2, (dif_nd l).mp h3, fun c hc => ?_⟩
  have z := h1 c hc
  exact Decidable.byContradiction fun hn => z (by rw [decide_eq_false hn]; rfl)
theorem badV_inv {l v : List Nat} (h : badV l v = false) : v.Nodup ∧ ∀ c ∈ v, c ∈ l := by
  unfold badV at h
  simp only [Bool.or_eq_false_iff, Bool.not_eq_false', List.any_eq_false] at h
  obtain ⟨h1, h3⟩ := h
  refine ⟨(dif_nd v).mp h3, fun c hc => ?_⟩
  have z := h1 c hc
  simpa using z
theorem good_v {l v : List Nat} (h : good l v) : v.length ≤ 4 := by
  have h1 := badL_inv h.1
  have h2 := badV_inv h.2
  have := nd_len h2.1 h2.2
  omega
theorem pick_sub {m r s : List Nat} (hp : (m ++ r).Perm s) (hn : s.Nodup) : m.Nodup ∧ ∀ c ∈ m, c ∈ s := by
  have h := hp.nodup_iff.mpr hn
  exact ⟨(List.nodup_append.mp h).1, fun c hc => hp.mem_iff.mp (List.mem_append_left _ hc)⟩
theorem pick_all {m r s : List Nat} (hp : (m ++ r).Perm s) (hl : m.length = s.length) : m.Perm s := by
  have e := hp.length_eq
  rw [List.length_append] at e
  have : r = [] := List.length_eq_zero_iff.mp (by omega)
  rw [this, List.append_nil] at hp
  exact hp
theorem good_perm {l v m u : List Nat} (h : good l v) (hm : m.Perm l) (hu : u.Perm v) : good m u := by
  obtain ⟨a1, a2, a3, a4⟩ := badL_inv h.1
  obtain ⟨b1, b2⟩ := badV_inv h.2
  have e := hm.length_eq
  exact ⟨badL_ok (by omega) (by omega) (hm.nodup_iff.mpr a3) fun c hc => a4 c (hm.mem_iff.mp hc), badV_ok (hu.nodup_iff.mpr b1) fun c hc => hm.mem_iff.mpr (b2 c (hu.mem_iff.mp hc))⟩
theorem good_sub {l u r : List Nat} (h : badL l = false) (hu : (u ++ r).Perm l) : good l u := by
  obtain ⟨a1, a2, a3, a4⟩ := badL_inv h
  obtain ⟨b1, b2⟩ := pick_sub hu a3
  exact ⟨h, badV_ok b1 b2⟩
theorem good_new {m r : List Nat} (h1 : 1 ≤ m.length) (h2 : m.length ≤ 4) (hm : (m ++ r).Perm AZ) : badL m = false := by
  obtain ⟨b1, b2⟩ := pick_sub hm (by decide)
  exact badL_ok h1 h2 b1 b2
abbrev oth (l : List Nat) : List Nat := AZ.filter fun c => !decide (c ∈ l)
theorem oth_mem {l : List Nat} {d : Nat} (h : d ∈ oth l) : d ∈ AZ ∧ ¬ d ∈ l := by
  have := List.mem_filter.mp h
  simpa using this
theorem flt_len (f : Nat → Bool) : ∀ s : List Nat, (s.filter f).length + (s.filter fun c => !f c).length = s.length
  | [] => rfl
  | a :: s => by
    have ih := flt_len f s
    rw [List.filter_cons, List.filter_cons]
    cases f a with
    | true => simp only [Bool.not_true, List.length_cons, if_true]; simp; omega
    | false => simp only [Bool.not_false, List.length_cons, if_true]; simp; omega
theorem oth_len {l : List Nat} (h : l.length ≤ 4) : 22 ≤ (oth l).length ∧ (oth l).length ≤ 26 := by
  have h1 : (AZ.filter fun c => decide (c ∈ l)).length ≤ l.length := nd_len (List.Pairwise.filter _ (by decide : AZ.Nodup)) fun c hc => by
    have := (List.mem_filter.mp hc).2
    simpa using this
  have h2 := flt_len (fun c => decide (c ∈ l)) AZ
  have h3 : AZ.length = 26 := rfl
  show 22 ≤ (AZ.filter fun c => !decide (c ∈ l)).length ∧ (AZ.filter fun c => !decide (c ∈ l)).length ≤ 26
  have h4 := List.length_filter_le (fun c => !decide (c ∈ l)) AZ
  omega
theorem good_rp {l v : List Nat} {c d : Nat} (h : good l v) (hc : c ∈ l) (hd : d ∈ oth l) : good (rp c d l) (rp c d v) := by
  obtain ⟨a1, a2, a3, a4⟩ := badL_inv h.1
  obtain ⟨b1, b2⟩ := badV_inv h.2
  obtain ⟨d1, d2⟩ := oth_mem hd
  have inj : ∀ s : List Nat, s.Nodup → (∀ x ∈ s, x ∈ l) → (rp c d s).Nodup := fun s => by
    induction s with
    | nil => exact fun _ _ => .nil
    | cons x s ih =>
      intro hn hs
      obtain ⟨n1, n2⟩ := List.nodup_cons.mp hn
      have hx := hs x List.mem_cons_self
      show ((if x = c then d else x) :: rp c d s).Nodup
      refine List.nodup_cons.mpr ⟨fun hm => ?_, ih n2 fun y hy => hs y (List.mem_cons_of_mem _ hy)⟩
      obtain ⟨y, hy, e⟩ := List.mem_map.mp hm
      have hyl := hs y (List.mem_cons_of_mem _ hy)
      by_cases e1 : x = c
      · rw [if_pos e1] at e
        by_cases e2 : y = c
        · exact n1 (by rw [e1, ← e2]; exact hy)
        · rw [if_neg e2] at e; exact d2 (e ▸ hyl)
      · rw [if_neg e1] at e
        by_cases e2 : y = c
        · rw [if_pos e2] at e; exact d2 (e ▸ hx)
        · rw [if_neg e2] at e; exact n1 (e ▸ hy)
  have len : (rp c d l).length = l.length := List.length_map _
  refine ⟨badL_ok (by omega) (by omega) (inj l a3 fun _ h => h) fun x hx => ?_, badV_ok (inj v b1 b2) fun x hx => ?_⟩
  · obtain ⟨y, hy, e⟩ := List.mem_map.mp hx
    rw [← e]
    split
    · exact d1
    · exact a4 y hy
  · obtain ⟨y, hy, e⟩ := List.mem_map.mp hx
    exact List.mem_map.mpr ⟨y, b2 y hy, e⟩
theorem good_cons {l v : List Nat} {d : Nat} (h : good l v) (hl : l.length < 4) (hd : d ∈ oth l) : good (d :: l) v := by
  obtain ⟨a1, a2, a3, a4⟩ := badL_inv h.1
  obtain ⟨b1, b2⟩ := badV_inv h.2
  obtain ⟨d1, d2⟩ := oth_mem hd
  refine ⟨badL_ok (by simp) (by simp; omega) (List.nodup_cons.mpr ⟨d2, a3⟩) fun x hx => ?_, badV_ok b1 fun x hx => List.mem_cons_of_mem _ (b2 x hx)⟩
  rcases List.mem_cons.mp hx with rfl | hx
  · exact d1
  · exact a4 x hx
theorem kn1 {b q : Addr} {H H' : Hp} (k : Kp [b] H H') (hq : q ≠ b) (h : H' q = none) : H q = none := by
  cases e : H q with
  | none => rfl
  | some o => rw [k.get1 e hq] at h; cases h
theorem pmem {α β : Type} {F G : α → β → Prop} : ∀ {l₁ : List α} {l₂ : List β}, Paired F l₁ l₂ → (∀ a b, a ∈ l₁ → F a b → G a b) → Paired G l₁ l₂
  | _, _, .nil, _ => .nil
  | _, _, .cons h t, g => .cons (g _ _ List.mem_cons_self h) (pmem t fun a b ha => g a b (List.mem_cons_of_mem _ ha))
theorem arcP.mono {H H' : Hp} {v : V} {a : Arc} (kt : ∀ q a, H q = some (arcO a) → H' q = some (arcO a)) (h : arcP H v a) : arcP H' v a := by
  obtain ⟨q, e, h⟩ := h
  exact ⟨q, e, kt q a h⟩
theorem rowP.mono {H H' : Hp} {q : Addr} {r : List Arc} (kt : ∀ q a, H q = some (arcO a) → H' q = some (arcO a)) (kq : ∀ xs, H q = some (.lst xs) → H' q = some (.lst xs)) (h : rowP H q r) : rowP H' q r := by
  obtain ⟨xs, h1, h2⟩ := h
  exact ⟨xs, kq xs h1, pmem h2 fun _ _ _ => arcP.mono kt⟩
theorem plen {α β : Type} {F : α → β → Prop} : ∀ {l₁ : List α} {l₂ : List β}, Paired F l₁ l₂ → l₁.length = l₂.length
  | _, _, .nil => rfl
  | _, _, .cons _ t => congrArg (· + 1) (plen t)
theorem pget {α β : Type} {F : α → β → Prop} : ∀ {l₁ : List α} {l₂ : List β} {i : Nat} (h : i < l₁.length) (h2 : i < l₂.length), Paired F l₁ l₂ → F l₁[i] l₂[i]
  | _, _, 0, _, _, .cons h _ => h
  | _, _, i + 1, h1, h2, .cons _ t => pget (i := i) (Nat.lt_of_succ_lt_succ h1) (Nat.lt_of_succ_lt_succ h2) t
theorem papp {α β : Type} {F : α → β → Prop} : ∀ {l₁ m₁ : List α} {l₂ m₂ : List β}, Paired F l₁ l₂ → Paired F m₁ m₂ → Paired F (l₁ ++ m₁) (l₂ ++ m₂)
  | _, _, _, _, .nil, h => h
  | _, _, _, _, .cons h t, g => .cons h (papp t g)
theorem ptake {α β : Type} {F : α → β → Prop} : ∀ (k : Nat) {l₁ : List α} {l₂ : List β}, Paired F l₁ l₂ → Paired F (l₁.take k) (l₂.take k)
  | 0, _, _, _ => .nil
  | _ + 1, _, _, .nil => .nil
  | k + 1, _, _, .cons h t => .cons h (ptake k t)
theorem pdrop {α β : Type} {F : α → β → Prop} : ∀ (k : Nat) {l₁ : List α} {l₂ : List β}, Paired F l₁ l₂ → Paired F (l₁.drop k) (l₂.drop k)
  | 0, _, _, h => h
  | _ + 1, _, _, .nil => .nil
  | k + 1, _, _, .cons _ t => pdrop k t
theorem tabP.len {G H : Hp} {p : Addr} {ps : List Addr} {T : List (List Arc)} (h : tabP G H p ps T) : ps.length = T.length := plen h.rows
theorem tabP.kp0 {G H H' : Hp} {p : Addr} {ps : List Addr} {T : List (List Arc)} (h : tabP G H p ps T) (k : Kp [] H H') : tabP G H' p ps T :=
  ⟨k.get0 h.at_, h.fr, h.frs, h.nd, pmem h.rows fun _ _ _ => rowP.mono (fun _ _ e => k.get0 e) fun _ e => k.get0 e⟩
/-- what is written are lists that were there before the table -/
theorem tabP.kpo {G H H' : Hp} {F : List Addr} {p : Addr} {ps : List Addr} {T : List (List Arc)} (h : tabP G H p ps T) (k : Kp F H H') (hF : ∀ f ∈ F, (∃ xs, H f = some (.lst xs)) ∧ G f ≠ none) : tabP G H' p ps T := by
  have kt : ∀ q a, H q = some (arcO a) → H' q = some (arcO a) := fun q a e => k q _ e fun z => by
    obtain ⟨⟨xs, e2⟩, _⟩ := hF q z
    rw [e] at e2; cases e2
  have kq : ∀ q, G q = none → ∀ xs, H q = some (.lst xs) → H' q = some (.lst xs) := fun q hq xs e => k q _ e fun z => (hF q z).2 hq
  exact ⟨kq p h.fr _ h.at_, h.fr, h.frs, h.nd, pmem h.rows fun a b ha => rowP.mono kt (kq a (h.frs a ha))⟩
theorem tabP.kpi {G H H' : Hp} {F : List Addr} {p : Addr} {ps : List Addr} {T : List (List Arc)} (h : tabP G H p ps T) (k : Kp F H H') (hF : ∀ f ∈ F, ∃ C d fs, H f = some (.ins C d fs)) : tabP G H' p ps T := by
  have kt : ∀ q a, H q = some (arcO a) → H' q = some (arcO a) := fun q a e => k q _ e fun z => by
    obtain ⟨C, d, fs, e2⟩ := hF q z
    rw [e] at e2; cases e2
  have kq : ∀ q xs, H q = some (.lst xs) → H' q = some (.lst xs) := fun q xs e => k q _ e fun z => by
    obtain ⟨C, d, fs, e2⟩ := hF q z
    rw [e] at e2; cases e2
  exact ⟨kq p _ h.at_, h.fr, h.frs, h.nd, pmem h.rows fun a b ha => rowP.mono kt (kq a)⟩
theorem tabP.gm {G G' H : Hp} {p : Addr} {ps : List Addr} {T : List (List Arc)} (h : tabP G H p ps T) (g : ∀ z, G z = none → G' z = none) : tabP G' H p ps T :=
  ⟨h.at_, g p h.fr, fun q hq => g q (h.frs q hq), h.nd, h.rows⟩
theorem nd_snoc {α : Type} {l : List α} {a : α} (h : l.Nodup) (n : ¬ a ∈ l) : (l ++ [a]).Nodup :=
  List.nodup_append.mpr ⟨h, by simp, fun x hx y hy e => n (by rw [List.mem_singleton.mp hy] at e; rw [← e]; exact hx)⟩
theorem pany {α β : Type} {F : α → β → Prop} {a : α} : ∀ {l₁ : List α} {l₂ : List β}, Paired F l₁ l₂ → a ∈ l₁ → ∃ b, b ∈ l₂ ∧ F a b
  | _, _, .cons h t, m => by
    rcases List.mem_cons.mp m with e | m
    · rw [e]; exact ⟨_, List.mem_cons_self, h⟩
    · obtain ⟨b, hb, hf⟩ := pany t m
      exact ⟨b, List.mem_cons_of_mem _ hb, hf⟩
theorem pset {α β : Type} {F F' : α → β → Prop} {r : β} : ∀ {l₁ : List α} {l₂ : List β} {j : Nat} (hj : j < l₁.length), l₁.Nodup → Paired F l₁ l₂ → (∀ q ∈ l₁, q ≠ l₁[j] → ∀ b, F q b → F' q b) → F' l₁[j] r → Paired F' l₁ (l₂.set j r)
  | a :: l₁, b :: l₂, 0, _, nd, .cons h t, g, f => .cons f (pmem t fun x y hx hf => g x (List.mem_cons_of_mem _ hx) (fun e => (List.nodup_cons.mp nd).1 (by
      have e : x = a := e
      rw [← e]; exact hx)) y hf)
  | a :: l₁, b :: l₂, j + 1, hj, nd, .cons h t, g, f => .cons (g a List.mem_cons_self (fun e => (List.nodup_cons.mp nd).1 (by
      have e : a = l₁[j]'(Nat.lt_of_succ_lt_succ hj) := e
      rw [e]; exact List.getElem_mem _)) b h) (pset (j := j) (Nat.lt_of_succ_lt_succ hj) (List.nodup_cons.mp nd).2 t (fun q hq hn y hf => g q (List.mem_cons_of_mem _ hq) hn y hf) f)
theorem tabP.set {G H : Hp} {p : Addr} {ps : List Addr} {T : List (List Arc)} {j : Nat} {ys : List V} {row : List Arc} (h : tabP G H p ps T) (hj : j < ps.length) (hy : Paired (arcP H) ys row) : tabP G (upd H ps[j] (.lst ys)) p ps (T.set j row) := by
  obtain ⟨n1, n2⟩ := List.nodup_cons.mp h.nd
  have hp : p ≠ ps[j] := fun e => n1 (by rw [e]; exact List.getElem_mem _)
  obtain ⟨r0, _, ⟨xs, e0, _⟩⟩ := pany h.rows (List.getElem_mem hj)
  have kt : ∀ q a, H q = some (arcO a) → upd H ps[j] (.lst ys) q = some (arcO a) := fun q a e => upd_off (fun z => by rw [z, e0] at e; cases e) e
  exact ⟨upd_off hp h.at_, h.fr, h.frs, h.nd, pset hj n2 h.rows (fun q _ hn r => rowP.mono kt fun xs e => upd_off hn e) ⟨ys, upd_at, pmem hy fun _ _ _ => arcP.mono kt⟩⟩
theorem lcp_copy {G H1 : Hp} {p : Addr} {ps : List Addr} {T : List (List Arc)} (hT : tabP G H1 p ps T) (hl : T.length < 1000) {i : Nat} {te : TE} {σ : L2.St} {Q : VK} {vs : List Nat}
    (he : ∀ q xs H' Q', H' q = some (.lst xs) → (∀ r, H' r = none → Q' (.ref r) (upd H' r (.lst xs))) → te ((wipe σ vs).set i (some (.ref q))) H' Q')
    (hw : ∀ v, wipe ((wipe σ vs).set i v) vs = wipe σ vs)
    (q : ∀ D ps' H', tabP H1 H' D ps' T → Kp [] H1 H' → Q (.ref D) H') :
    lcp (ps.map V.ref).length (itL (ps.map V.ref)) (fun H' => H' p = some (.lst (ps.map V.ref))) (gName i) tYes te vs σ H1 Q := by
  have hpl := hT.len
  refine lcp_i (fun D k H => ∃ ps' : List Addr, Kp [] H1 H ∧ H D = some (.lst (ps'.map V.ref)) ∧ (∀ q ∈ ps', H1 q = none ∧ q ≠ D) ∧ (D :: ps').Nodup ∧ Paired (rowP H) ps' (T.take k)) (fun D hD => ⟨[], Kp.rfl'.new hD, upd_at, (fun _ z => nomatch z), by simp, .nil⟩) (fun D k H hD _ e => by obtain ⟨ps', kk, _⟩ := e; exact kk.get0 hT.at_) ?_ ?_
  · rintro D k x H H' hD hk ⟨ps', kk, hDD, hfr, hnd, hrows⟩ hi
    obtain ⟨rfl, hx⟩ := hi
    refine ⟨hw _, ?_⟩
    have hk2 : k < ps.length := by rw [← List.length_map (f := V.ref)]; exact hk
    rw [List.getElem?_map, List.getElem?_eq_getElem hk2] at hx
    cases hx
    have hkT : k < T.length := by omega
    obtain ⟨xs, e1, e2⟩ := pget hk2 hkT hT.rows
    unfold tYes; dsimp only
    rw [if_pos rfl]
    refine he ps[k] xs _ _ (kk.get0 e1) fun r hr => ?_
    have hDr : D ≠ r := ne_none hDD hr
    have hlp := plen hrows
    rw [List.length_take] at hlp
    refine ⟨ps'.map V.ref, upd_off hDr hDD, by rw [List.length_map, sizeLine_eq]; omega, ps' ++ [r], ?_, ?_, ?_, ?_, ?_⟩
    · exact (kk.new hr).own hD
    · rw [List.map_append]; exact upd_at
    · intro z hz
      rcases List.mem_append.mp hz with hz | hz
      · exact hfr z hz
      · rw [List.mem_singleton.mp hz]; exact ⟨Kp.none kk hr, hDr.symm⟩
    · refine nd_snoc hnd fun z => ?_
      rcases List.mem_cons.mp z with z | z
      · exact hDr z.symm
      · obtain ⟨T1, _, ⟨ys, ey, _⟩⟩ := pany hrows z
        rw [hr] at ey; cases ey
    · have kt : ∀ q a, H' q = some (arcO a) → upd (upd H' r (.lst xs)) D (.lst (ps'.map V.ref ++ [V.ref r])) q = some (arcO a) := fun z a ez => by
        refine upd_off (fun h => ?_) (upd_off (ne_none ez hr) ez)
        rw [h, hDD] at ez; cases ez
      rw [List.take_succ_eq_append_getElem hkT]
      refine papp (pmem hrows fun a c ha => rowP.mono kt fun ys ey => upd_off (hfr a ha).2 (upd_off (ne_none ey hr) ey)) (.cons ?_ .nil)
      exact ⟨xs, upd_off hDr.symm upd_at, pmem e2 fun v a _ ⟨z, ez, hz⟩ => ⟨z, ez, kt z a (kk.get0 hz)⟩⟩
  · rintro D H hD ⟨ps', kk, hDD, hfr, hnd, hrows⟩
    rw [List.length_map, hpl, List.take_length] at hrows
    exact q D ps' H ⟨hDD, hD, fun z hz => (hfr z hz).1, hnd, hrows⟩ kk
theorem chk_m {g : List Nat} {R : List (List Arc)} {m : Nat} (h : R = [] ∨ R.length ≠ m) : chk g R m = some (-1) := if_pos h
theorem chk_e {g : List Nat} {R : List (List Arc)} {m : Nat} (h : R ≠ []) (h2 : R.length = m) : chk g R m = fbad g R.length R 0 := if_neg (fun z => by rcases z with z | z; exact h z; exact z h2)
theorem fbad_take {g : List Nat} {n : Nat} : ∀ (i : Nat) {R : List (List Arc)} {s : Nat}, (∀ r ∈ R.take i, r.all (okA g n) = true) → i ≤ R.length → fbad g n R s = fbad g n (R.drop i) (s + i)
  | 0, _, _, _, _ => rfl
  | i + 1, [], _, _, h => absurd h (by simp)
  | i + 1, r :: R, s, h, hl => by
    have h1 := h r List.mem_cons_self
    show (if r.all (okA g n) = true then fbad g n R (s + 1) else some (s : Int)) = fbad g n (R.drop i) (s + (i + 1))
    rw [if_pos h1, fbad_take i (fun x hx => h x (List.mem_cons_of_mem _ hx)) (Nat.le_of_succ_le_succ hl), Nat.add_assoc, Nat.add_comm 1 i]
theorem fbad_at {g : List Nat} {n i : Nat} {R : List (List Arc)} (hi : i < R.length) (h : ∀ r ∈ R.take i, r.all (okA g n) = true) (hb : ¬ R[i].all (okA g n) = true) : fbad g n R 0 = some (i : Int) := by
  rw [fbad_take i h (by omega), List.drop_eq_getElem_cons hi]
  show (if R[i].all (okA g n) = true then _ else some ((0 + i : Nat) : Int)) = _
  rw [if_neg hb, Nat.zero_add]
theorem fbad_no {g : List Nat} {n : Nat} {R : List (List Arc)} (h : ∀ r ∈ R, r.all (okA g n) = true) : fbad g n R 0 = none := by
  rw [fbad_take R.length (by rw [List.take_length]; exact h) (Nat.le_refl _), List.drop_length]; rfl
theorem chk_s {K : PySem.W.Frag} {o : Option Int} {k : Int} {H : Hp} {q : Prop} {E : XK} (h : chkK K o H q E) (e : o = some k) : ∀ d, H d = none → E (.ref (He.ga K "BadTable")) (some d) (upd H d (.xd [("place", .int k)])) := by
  have h := h.out; rw [e] at h; exact h
theorem chk_n {K : PySem.W.Frag} {o : Option Int} {H : Hp} {q : Prop} {E : XK} (h : chkK K o H q E) (e : o = none) : q := by
  have h := h.out; rw [e] at h; exact h
/-- data that is equal to itself -/
structure selfD (d : PyData) (n : Nat) : Prop where
  c : d.canLay0 = true
  dd : d.depth ≤ n
  e : PyData.eqv d d = true
theorem selfD_all {n : Nat} : ∀ {ds : List PyData}, (∀ d ∈ ds, selfD d n) → PyData.canLayAll0 ds = true ∧ PyData.depthAll ds ≤ n ∧ PyData.eqvAll ds ds = true
  | [], _ => ⟨by rw [PyData.canLayAll0], by rw [PyData.depthAll]; omega, by rw [PyData.eqvAll]⟩
  | d :: ds, h => by
    obtain ⟨a1, a2, a3⟩ := selfD_all fun x hx => h x (List.mem_cons_of_mem _ hx)
    obtain ⟨b1, b2, b3⟩ := h d List.mem_cons_self
    exact ⟨by rw [PyData.canLayAll0, b1, a1]; rfl, by rw [PyData.depthAll]; omega, by rw [PyData.eqvAll, b3, a3]; rfl⟩
theorem selfD_l {n : Nat} {ds : List PyData} (h : ∀ d ∈ ds, selfD d n) : selfD (.list ds) (n + 1) := by
  obtain ⟨a1, a2, a3⟩ := selfD_all h
  exact ⟨by rw [PyData.canLay0, a1], by rw [PyData.depth]; omega, by rw [PyData.eqv, a3]⟩
theorem selfD_t {n : Nat} {ds : List PyData} (h : ∀ d ∈ ds, selfD d n) : selfD (.tuple ds) (n + 1) := by
  obtain ⟨a1, a2, a3⟩ := selfD_all h
  exact ⟨by rw [PyData.canLay0, a1], by rw [PyData.depth]; omega, by rw [PyData.eqv, a3]⟩
theorem selfD_i (i : Int) : selfD (.int i) 0 := ⟨by rw [PyData.canLay0], by rw [PyData.depth]; omega, by rw [PyData.eqv]; simp⟩
theorem selfD_b (b : Bool) : selfD (.bool b) 0 := ⟨by rw [PyData.canLay0], by rw [PyData.depth]; omega, by rw [PyData.eqv]; simp⟩
theorem selfD_s {l : List Nat} (h : ∀ c ∈ l, c < 128) : selfD (.str (S l)) 0 := ⟨by rw [PyData.canLay0]; exact ascii_ok h, by rw [PyData.depth]; omega, by rw [PyData.eqv]; simp⟩
def arcD (a : Arc) : PyData := .tuple [.str (S a.1), .str (S a.2.1), .int a.2.2]
def rowD (r : List Arc) : PyData := .list (r.map arcD)
theorem arc_self {a : Arc} (h : ascA a) : selfD (arcD a) 1 := selfD_t fun d hd => by
  simp only [List.mem_cons, List.not_mem_nil, or_false] at hd
  rcases hd with rfl | rfl | rfl
  · exact selfD_s h.2.2.1
  · exact selfD_s h.2.2.2
  · exact selfD_i _
theorem row_self {r : List Arc} (h : ∀ a ∈ r, ascA a) : selfD (rowD r) 2 := selfD_l fun d hd => by
  obtain ⟨a, ha, rfl⟩ := List.mem_map.mp hd
  exact arc_self (h a ha)
theorem tab_self {T : List (List Arc)} (h : small T) : selfD (.list (T.map rowD)) 3 := selfD_l fun d hd => by
  obtain ⟨a, ha, rfl⟩ := List.mem_map.mp hd
  exact row_self (h.r a ha).2
theorem arc_dp {K : PySem.W.Frag} {H : Hp} {v : V} {a : Arc} (h : arcP H v a) : Dp K H v (arcD a) := by
  obtain ⟨q, rfl, h⟩ := h
  exact .tup (SqT.of h) (.cons (.str _) (.cons (.str _) (.cons (.int _) .nil)))
theorem pair_dp {α : Type} {K : PySem.W.Frag} {H : Hp} {F : V → α → Prop} {f : α → PyData} (hf : ∀ v a, F v a → Dp K H v (f a)) : ∀ {xs : List V} {r : List α}, Paired F xs r → DpAll K H xs (r.map f)
  | _, _, .nil => .nil
  | _, _, .cons h t => .cons (hf _ _ h) (pair_dp hf t)
theorem row_dp {K : PySem.W.Frag} {H : Hp} {q : Addr} {r : List Arc} (h : rowP H q r) : Dp K H (.ref q) (rowD r) := by
  obtain ⟨xs, h1, h2⟩ := h
  exact .lst (SqL.of h1) (pair_dp (f := arcD) (fun _ _ => arc_dp) h2)
theorem rows_dp {K : PySem.W.Frag} {H : Hp} : ∀ {ps : List Addr} {T : List (List Arc)}, Paired (rowP H) ps T → DpAll K H (ps.map V.ref) (T.map rowD)
  | _, _, .nil => .nil
  | _, _, .cons h t => .cons (row_dp h) (rows_dp t)
theorem self_sh {d : PyData} {n : Nat} (h : selfD d n) (hn : n ≤ 64) : SeqAt.shaped d = true := by
  unfold SeqAt.shaped
  rw [h.c, decide_eq_true (Nat.le_trans h.dd hn)]; rfl
theorem eq_tab {K : PySem.W.Frag} {G G' H : Hp} {p p' : Addr} {ps ps' : List Addr} {T : List (List Arc)} {k : Bool → Prop} (h1 : tabP G H p ps T) (h2 : tabP G' H p' ps' T) (hs : small T) (q : k true) : dpq K (.ref p) (.ref p') H k := by
  have s := tab_self hs
  exact dpq_i (.lst (SqL.of h1.at_) (rows_dp h1.rows)) (.lst (SqL.of h2.at_) (rows_dp h2.rows)) (self_sh s (by decide)) (self_sh s (by decide)) (by rw [s.e]; exact q)
theorem eq_row {K : PySem.W.Frag} {H : Hp} {q q' : Addr} {r : List Arc} {k : Bool → Prop} (h1 : rowP H q r) (h2 : rowP H q' r) (hr : ∀ a ∈ r, ascA a) (h : k true) : dpq K (.ref q) (.ref q') H k := by
  have s := row_self hr
  exact dpq_i (row_dp h1) (row_dp h2) (self_sh s (by decide)) (self_sh s (by decide)) (by rw [s.e]; exact h)
theorem bls_dp {K : PySem.W.Frag} {H : Hp} : ∀ bs : List Bool, DpAll K H (bs.map V.bl) (bs.map PyData.bool)
  | [] => .nil
  | b :: bs => .cons (.bl b) (bls_dp bs)
theorem eq_bls {K : PySem.W.Frag} {H : Hp} {q q' : Addr} {bs : List Bool} {k : Bool → Prop} (h1 : H q = some (bls bs)) (h2 : H q' = some (bls bs)) (h : k true) : dpq K (.ref q) (.ref q') H k := by
  have s : selfD (.list (bs.map PyData.bool)) 1 := selfD_l fun d hd => by
    obtain ⟨a, ha, rfl⟩ := List.mem_map.mp hd
    exact selfD_b a
  exact dpq_i (.lst (SqL.of h1) (bls_dp bs)) (.lst (SqL.of h2) (bls_dp bs)) (self_sh s (by decide)) (self_sh s (by decide)) (by rw [s.e]; exact h)
-- two addresses
local macro_rules | `(tactic| and_intros) => `(tactic| first
  | assumption
  | (apply Ne.symm; assumption)
  | (apply ne_x; (focus assumption); (focus (apply Exists.intro; contradiction)))
  | (apply ne_y; (focus assumption); (focus (apply Exists.intro; contradiction))))
-- heap facts
local macro_rules | `(tactic| contradiction) => `(tactic| first
  | assumption
  | with_reducible exact upd_at
  | ((first | (apply upd_fr; (focus assumption)) | (apply upd_off; (focus and_intros))); contradiction)
  | (apply Kp.get0; (focus assumption); contradiction)
  | (apply Kp.get1; (focus assumption); (focus contradiction); (focus and_intros))
  | (apply Kp.get2; (focus assumption); (focus contradiction); (focus and_intros); (focus and_intros)))
-- what is kept
local macro_rules | `(tactic| nofun) => `(tactic| first
  | exact Kp.rfl'
  | assumption
  | (apply Kp.nil; assumption)
  | (apply Kp.at; (focus nofun); (focus first | exact List.mem_cons_self | exact List.mem_cons_of_mem _ List.mem_cons_self))
  | (apply Kp.new; (focus nofun); (focus assumption))
  | (apply Kp.own; (focus nofun); (focus assumption))
  | (apply Kp.trans; rotate_left 1; (focus (first | assumption | (apply Kp.nil; assumption))); (focus nofun)))
-- side facts
local macro_rules | `(tactic| bv_omega) => `(tactic| first
  | with_reducible assumption
  | omega
  | (with_reducible refine lim_of ?_; omega)
  | (simp only [tl, S, List.toList_toArray, srt_len, sgn_len, List.length_append, List.length_cons, List.length_nil, List.length_take, List.length_drop, List.length_map, List.length_set, cut_to, cut_from, cut_both, cut_one, cut_fr1, cut_t1]; omega)
  | (with_reducible refine lim_of ?_; simp only [tl, S, List.toList_toArray, srt_len, sgn_len, List.length_append, List.length_cons, List.length_nil, List.length_take, List.length_drop, List.length_map, List.length_set, cut_to, cut_from, cut_both, cut_one, cut_fr1, cut_t1]; omega)
  | exact rfl
  | exact flat_k _
  | (refine rg_ok ?_ ?_ ?_ ?_ <;> omega)
  | (refine rg_ok ?_ ?_ ?_ ?_ <;> (simp only [tl, S, List.toList_toArray, List.length_cons, List.length_nil]; omega))
  | (refine And.intro ?_ ?_ <;> omega)
  | (refine Or.inr (And.intro ?_ ?_) <;> omega)
  | (refine Or.inl (And.intro ?_ ?_) <;> omega)
  | (dsimp only; omega)
  | (refine And.intro ?_ ?_ <;> (simp only [tl, S, List.toList_toArray, srt_len, sgn_len, List.length_append, List.length_cons, List.length_nil, List.length_take, List.length_drop, List.length_map, List.length_set, cut_to, cut_from, cut_both, cut_one, cut_fr1, cut_t1]; omega))
  | (show _ < 1000; exact Nat.le_of_ble_eq_true (Eq.refl true))
  | (rw [sizeLine_eq]; exact Nat.le_of_ble_eq_true (Eq.refl true))
  | (with_reducible refine lim_of ?_; simp only [tl, S, List.toList_toArray, srt_len, sgn_len, List.length_append, List.length_cons, List.length_nil, List.length_take, List.length_drop, List.length_map, List.length_set, cut_to, cut_from, cut_both, cut_one, cut_fr1, cut_t1]; grind [cut_len])
  | assumption)
-- one step
local macro_rules | `(tactic| ac_rfl) => `(tactic| (conv => whnf) <;> first
  | (apply look_i; (focus contradiction))
  | (refine itm_i (by first | rfl | assumption) ?_)
  | (refine itm_0 ?_)
  | (refine itm_1 ?_)
  | (apply itm_z0; (focus omega))
  | (apply itm_z1; (focus omega))
  | (apply itm_2; (focus omega); (focus omega))
  | (apply itm_3; (focus omega); (focus omega))
  | (refine fld_i (by first | rfl | assumption) ?_)
  | (apply itm_k; (focus bv_omega); (focus bv_omega))
  | (apply itm_s; (focus bv_omega); (focus bv_omega))
  | (refine isa_1 rfl (by first | assumption | rfl) ?_)
  | (apply isa_t; (focus contradiction); (focus rfl); (focus assumption))
  | (refine i_all_different ?_ ?_; (focus bv_omega))
  | (apply i_Alphabet_eqS; (focus contradiction))
  | (apply i_Alphabet_eq; (focus contradiction); (focus contradiction))
  | (refine sgl_i ?_)
  | (refine Exists.intro _ (Exists.intro _ (And.intro rfl (And.intro (SqT.of (by contradiction)) (And.intro rfl ?_)))))
  | (refine Exists.intro _ (Exists.intro _ (And.intro rfl ?_)))
  | (refine And.intro (Eq.refl []) ?_)
  | (apply i_is_label; (focus contradiction); (focus bv_omega))
  | (apply i_Machine_len; (focus contradiction); (focus contradiction); (focus bv_omega))
  | (apply i_l_well; (focus contradiction); (focus bv_omega))
  | (apply i_l_take; (focus contradiction); (focus contradiction); (focus bv_omega); (focus bv_omega); (focus bv_omega))
  | (apply i_l_letters; (focus contradiction); (focus contradiction); (focus bv_omega); (focus bv_omega))
  | (refine joi_i ?_ ?_; (focus bv_omega))
  | (refine And.intro (fun (_ : true = true) => ?_) (fun (z : true = false) => Bool.noConfusion z))
  | (refine And.intro (fun (z : false = true) => Bool.noConfusion z) (fun (_ : false = false) => ?_))
  | (refine And.intro ?_ ?_; (focus bv_omega))
  | (refine And.intro (sd_e ?_) ?_)
  | (refine Exists.intro _ (And.intro (by first | rfl | assumption) ?_))
  | (apply ixs_i; (focus bv_omega); (focus bv_omega))
  | (refine cnd_t (Eq.refl true) ?_)
  | (refine cnd_f (Eq.refl false) ?_)
  | (refine cnd_n ?_)
  | (apply cnd_t; (focus (apply decide_eq_true; omega)))
  | (apply cnd_f; (focus (apply decide_eq_false; omega)))
  | (refine cnd_d (fun _ => ?_) (fun _ => ?_))
  | (refine cnd_i (fun _ => ?_) (fun _ => ?_))
  | (intro _))


theorem rd_is_label {K : PySem.W.Frag} {mg : Str → Option Value} (T : Tx K mg) : ∀ vs H Q E, sp_is_label K vs H Q E → t_is_label K (WD E) (EndD Q) (start ["alphabet", "string"] vs) H := by
  intro vs H Q E h
  replace h := h.out
  obtain ⟨A, dA, l, v, t, rfl, hA, h1, q⟩ := h
  have T0 := T
  cases T
  rcases t with _ | ⟨a, _ | ⟨c, r⟩⟩
  · repeat' ac_rfl
    all_goals (try (conv => whnf))
    all_goals first
      | exact q_bl (occ0 _) q
      | (rename_i x; exact absurd (show ((0 : Nat) : Int) < 2 by decide) x)
  · repeat' ac_rfl
    all_goals (try (conv => whnf))
    all_goals first
      | (rename_i x; exact absurd (show ((1 : Nat) : Int) < 2 by decide) x)
      | (refine q_bl ?_ q; show decide (a ∈ 45 :: srt l) = (true && ([a].all fun c => decide (c ∈ 45 :: srt l))); simp)
  · have h2 : ¬ ((r.length + 1 + 1 : Nat) : Int) < 2 := by omega
    repeat' ac_rfl
    all_goals (try (conv => whnf))
    all_goals first
      | (rename_i x; exact absurd x h2)
      | (refine q_bl ?_ q
         show decide (((r.length + 1 + 1 : Nat) : Int) < 2) = (decide ((a :: c :: r).length < 2) && _)
         rw [decide_eq_false h2, decide_eq_false (by simp)]; rfl)


theorem rd_check_arcs {K : PySem.W.Frag} {mg : Str → Option Value} (T : Tx K mg) : ∀ vs H Q E, sp_check_arcs K vs H Q E → t_check_arcs K (WD E) (EndD Q) (start ["alphabet", "arcs", "goods", "place", "read", "write", "onward"] vs) H := by
  intro vs H Q E h
  replace h := h.out
  obtain ⟨A, dA, p, g, l, v, G, ps, R, gs, rfl, hA, hT, hg, hm, hs, q⟩ := h
  have T0 := T
  cases T
  have hpl := hT.len
  have hat := hT.at_
  have hn := hs.n
  have hml : (ps.map V.ref).length = R.length := by rw [List.length_map]; exact hpl
  repeat' ac_rfl
  all_goals (try (conv => whnf))
  · rename_i x d hd
    refine chk_s q (chk_m (.inl ?_)) d hd
    have : ps = [] := by simpa using x
    rw [this] at hpl
    exact List.length_eq_zero_iff.mp hpl.symm
  · rename_i x1 x2
    have hne : R ≠ [] := fun e => by
      rw [e] at hpl
      have : ps = [] := List.length_eq_zero_iff.mp hpl
      rw [this] at x1; cases x1
    have hlen : R.length = gs.length := by rw [hml] at x2; omega
    have hchk := chk_e (g := 45 :: srt l) hne hlen
    refine loop_r (fun i σ H' => Sd (∃ v3 v4 v5 v6 : Option V, σ = [some (.ref A), some (.ref p), some (.ref g), v3, v4, v5, v6] ∧ H' = H ∧ ∀ r ∈ R.take i, r.all (okA (45 :: srt l) R.length) = true)) ?_ ?_ ?_
    · exact sd_i ⟨none, none, none, none, rfl, rfl, fun _ z => (nomatch z)⟩
    · rintro i σ H' hi hP
      obtain ⟨v3, v4, v5, v6, rfl, rfl, hok⟩ := sd_e hP
      have hi : i < ((ps.map V.ref).length : Int).toNat := hi
      have hiR : i < R.length := by omega
      have hip : i < ps.length := by omega
      obtain ⟨xs, e1, e2⟩ := pget hip hiR hT.rows
      have hxl := plen e2
      repeat' ac_rfl
      all_goals (try (conv => whnf))
      rename_i j hj e
      obtain rfl : j = i := by omega
      have ev : (ps.map V.ref)[j] = .ref ps[j] := List.getElem_map ..
      rw [ev]
      repeat' ac_rfl
      all_goals (try (conv => whnf))
      refine loop_lg (p := ps[j]) (fun m σ H2 => Sd (∃ v4 v5 v6 : Option V, σ = [some (.ref A), some (.ref p), some (.ref g), some (.int (0 + j)), v4, v5, v6] ∧ H2 = H' ∧ ∀ a ∈ R[j].take m, okA (45 :: srt l) R.length a = true)) ?_ ?_ ?_ ?_
      · exact sd_i ⟨_, _, _, rfl, rfl, fun _ z => (nomatch z)⟩
      · rintro m σ H2 _ hP
        obtain ⟨_, _, _, _, rfl, _⟩ := sd_e hP
        exact e1
      · rintro m hm σ H2 hP
        obtain ⟨w4, w5, w6, rfl, rfl, hoa⟩ := sd_e hP
        have hma : m < R[j].length := by omega
        obtain ⟨z, ez, hz⟩ := pget hm hma e2
        have hasc := (hs.r _ (List.getElem_mem hiR)).2 _ (List.getElem_mem hma)
        obtain ⟨a, ha⟩ : ∃ a, R[j][m] = a := ⟨_, rfl⟩
        rw [ha] at hz hasc
        rw [ez]
        obtain ⟨rd, wr, on⟩ := a
        obtain ⟨c1, c2, _, _⟩ := hasc
        have c1 : rd.length ≤ 2 := c1
        have c2 : wr.length ≤ 2 := c2
        have bad : okA (45 :: srt l) R.length (rd, wr, on) = false → chk (45 :: srt l) R gs.length = some (0 + (j : Int)) := fun hb => by
          rw [hchk, Int.zero_add]
          refine fbad_at hiR hok fun z => ?_
          have z2 := List.all_eq_true.mp z _ (List.getElem_mem hma)
          rw [ha, hb] at z2; cases z2
        repeat' ac_rfl
        all_goals (try (conv => whnf))
        · rename_i x1 x2 x3 x4
          have x4 : on < ((ps.map V.ref).length : Int) := x4
          refine sd_i ⟨_, _, _, rfl, rfl, fun a hm2 => ?_⟩
          rw [List.take_succ_eq_append_getElem hma] at hm2
          rcases List.mem_append.mp hm2 with hm2 | hm2
          · exact hoa a hm2
          · rw [List.mem_singleton.mp hm2, ha]
            show (lab (45 :: srt l) rd && lab (45 :: srt l) wr && decide (0 ≤ on ∧ on < (R.length : Int))) = true
            rw [show lab (45 :: srt l) rd = true from x1, show lab (45 :: srt l) wr = true from x2, decide_eq_true (And.intro (show 0 ≤ on from x3) (by omega))]; rfl
        · rename_i x1 x2 x3 x4 d hd
          have x4 : ¬ on < ((ps.map V.ref).length : Int) := x4
          refine chk_s q (bad ?_) d hd
          show (lab (45 :: srt l) rd && lab (45 :: srt l) wr && decide (0 ≤ on ∧ on < (R.length : Int))) = false
          rw [decide_eq_false (by omega : ¬ (0 ≤ on ∧ on < (R.length : Int))), Bool.and_false]
        · rename_i x1 x2 x3 d hd
          have x3 : ¬ 0 ≤ on := x3
          refine chk_s q (bad ?_) d hd
          show (lab (45 :: srt l) rd && lab (45 :: srt l) wr && decide (0 ≤ on ∧ on < (R.length : Int))) = false
          rw [decide_eq_false (by omega : ¬ (0 ≤ on ∧ on < (R.length : Int))), Bool.and_false]
        · rename_i x1 x2 d hd
          refine chk_s q (bad ?_) d hd
          show (lab (45 :: srt l) rd && lab (45 :: srt l) wr && _) = false
          rw [show lab (45 :: srt l) wr = false from x2, Bool.and_false]; rfl
        · rename_i x1 d hd
          refine chk_s q (bad ?_) d hd
          show (lab (45 :: srt l) rd && lab (45 :: srt l) wr && _) = false
          rw [show lab (45 :: srt l) rd = false from x1]; rfl
      · rintro σ H2 hP
        obtain ⟨w4, w5, w6, rfl, rfl, hoa⟩ := sd_e hP
        rw [hxl, List.take_length] at hoa
        refine sd_i ⟨_, _, _, _, rfl, rfl, fun r hr => ?_⟩
        rw [List.take_succ_eq_append_getElem hiR] at hr
        rcases List.mem_append.mp hr with hr | hr
        · exact hok r hr
        · rw [List.mem_singleton.mp hr]; exact List.all_eq_true.mpr hoa
    · rintro σ H' hP
      obtain ⟨v3, v4, v5, v6, rfl, rfl, hok⟩ := sd_e hP
      have e : ((ps.map V.ref).length : Int).toNat = R.length := by omega
      rw [e, List.take_length] at hok
      repeat' ac_rfl
      all_goals (try (conv => whnf))
      exact chk_n q (hchk.trans (fbad_no hok))
  · rename_i x1 x2 d hd
    refine chk_s q (chk_m (.inr ?_)) d hd
    intro e
    exact x2 (by rw [hml, e])


theorem rd_Machine_init {K : PySem.W.Frag} {mg : Str → Option Value} (T : Tx K mg) : ∀ vs H Q E, sp_Machine_init K vs H Q E → t_Machine_init K (WD E) (EndD Q) (start ["self", "alphabet", "arcs", "goods", "row"] vs) H := by
  intro vs H Q E h
  replace h := h.out
  obtain ⟨M, dM, A, dA, p, g, l, v, G, ps, R, bs, rfl, hM, hA, hT, hg, hm, hs, q⟩ := h
  have T0 := T
  cases T
  have hn := hs.n
  have hat := hT.at_
  have hbl : (bs.map V.bl).length = bs.length := List.length_map _
  have hMp : M ≠ p := ne_ho hM hT.at_ (by intro z; cases z)
  have hMg : M ≠ g := ne_ho hM hg (by intro z; cases z)
  repeat' ac_rfl
  all_goals (try (conv => whnf))
  refine i_check_arcs hA hT hg (by omega) hs ?_
  rw [hbl]
  cases hc : chk (45 :: srt l) R bs.length with
  | some k => 
    have q := chk_s q hc
    refine ⟨fun d hd => ?_⟩
    exact q d hd
  | none =>
    have q := chk_n q hc
    refine ⟨?_⟩
    show _
    repeat' ac_rfl
    all_goals (try (conv => whnf))
    have k1 : Kp [M] H (upd H M (.ins (He.ga K "Machine") dM [("alphabet", .ref A)])) := Kp.rfl'.at List.mem_cons_self
    have hi1 : ∀ f ∈ [M], ∃ C d fs, H f = some (.ins C d fs) := fun f hf => by rw [List.mem_singleton.mp hf]; exact ⟨_, _, _, hM⟩
    refine lcp_copy (hT.kpi k1 hi1) (by omega) ?_ (fun _ => rfl) ?_
    · intro z xs H' Q' hz hQ
      repeat' ac_rfl
      all_goals (try (conv => whnf))
      exact hQ _ (by assumption)
    · intro D ps' H' hT' hk
      have hM' := hk.get0 (show upd H M _ M = _ from upd_at)
      have hg' := hk.get0 (upd_off (o' := .ins (He.ga K "Machine") dM [("alphabet", .ref A)]) hMg.symm hg)
      have hDn := hT'.fr
      repeat' ac_rfl
      all_goals (try (conv => whnf))
      rename_i L hL
      have hT'' := hT'.gm (G' := H) fun z hz => by
        have hzM : z ≠ M := fun e => by rw [e] at hz; cases upd_at.symm.trans hz
        rw [upd_ne hzM] at hz; exact hz
      have hML : M ≠ L := ne_none (show upd H' M _ M = _ from upd_at) hL
      have hL' : H' L = none := by rw [upd_ne hML.symm] at hL; exact hL
      have hLH : H L = none := by
        have := Kp.none hk hL'
        rw [upd_ne hML.symm] at this; exact this
      have kf : ∀ o1 o2 o3, Kp [M] H' (upd (upd (upd H' M o1) L o2) M o3) := fun o1 o2 o3 => ((Kp.rfl'.at List.mem_cons_self).own hL').at List.mem_cons_self
      refine q D ps' L _ (hT''.kpi (kf _ _ _) fun f hf => ?_) hLH (upd_off hML.symm upd_at) ((k1.trans hk.nil).trans (kf _ _ _)) (upd_at.trans rfl)
      rw [List.mem_singleton.mp hf]; exact ⟨_, _, _, hM'⟩


theorem rd_Machine_len {K : PySem.W.Frag} {mg : Str → Option Value} (T : Tx K mg) : ∀ vs H Q E, sp_Machine_len K vs H Q E → t_Machine_len K (WD E) (EndD Q) (start ["self"] vs) H := by
  intro vs H Q E h
  replace h := h.out
  obtain ⟨M, dM, A, p, g, xs, rfl, hM, hp, hl, q⟩ := h
  have T0 := T
  cases T
  repeat' ac_rfl
  all_goals (try (conv => whnf))
  exact q


theorem rd_l_kept {K : PySem.W.Frag} {mg : Str → Option Value} (T : Tx K mg) : ∀ vs H Q E, sp_l_kept K vs H Q E → t_l_kept K (WD E) (EndD Q) (start ["_law_machine", "_law_arcs", "_law_goods", "_law_letters_here", "_law_vowels", "_law_place", "_law_row", "_law_arc"] vs) H := by
  intro vs H Q E h
  replace h := h.out
  obtain ⟨M, dM, A, dA, mp, mg, p, g, l, v, l0, G, G2, ps, mps, R, bs, rfl, hM, hA, hT, hT2, hg, hg2, hm, hs, q⟩ := h
  have T0 := T
  cases T
  have hn := hs.n
  have hpl := hT.len
  have hpl2 := hT2.len
  have hat := hT.at_
  have hat2 := hT2.at_
  have hml : (ps.map V.ref).length = R.length := by rw [List.length_map]; exact hpl
  have hml2 : (mps.map V.ref).length = R.length := by rw [List.length_map]; exact hpl2
  have hbl : (bs.map V.bl).length = R.length := by rw [List.length_map]; exact hm
  repeat' ac_rfl
  all_goals (try (conv => whnf))
  refine loop_r (fun i σ H' => Sd (∃ v5 v6 v7 : Option V, σ = [some (.ref M), some (.ref p), some (.ref g), some (.str (S (srt l0))), some (.str (S (srt v))), v5, v6, v7] ∧ H' = H)) ?_ ?_ ?_
  · exact sd_i ⟨none, none, none, rfl, rfl⟩
  · rintro i σ H' hi hP
    obtain ⟨v5, v6, v7, rfl, rfl⟩ := sd_e hP
    have hi : i < ((ps.map V.ref).length : Int).toNat := hi
    have hiR : i < R.length := by omega
    have hip : i < ps.length := by omega
    have him : i < mps.length := by omega
    have hib : i < bs.length := by omega
    have r1 := pget hip hiR hT.rows
    have r2 := pget him hiR hT2.rows
    have hasc := (hs.r _ (List.getElem_mem hiR)).2
    obtain ⟨xs, e1, e2⟩ := pget him hiR hT2.rows
    have ev : ∀ h, (ps.map V.ref)[i]'h = .ref ps[i] := fun h => List.getElem_map ..
    have ev2 : ∀ h, (mps.map V.ref)[i]'h = .ref mps[i] := fun h => List.getElem_map ..
    have ev3 : ∀ h, (bs.map V.bl)[i]'h = .bl bs[i] := fun h => List.getElem_map ..
    repeat' ac_rfl
    all_goals (try (conv => whnf))
    rename_i j hj e
    obtain rfl : j = i := by omega
    rw [ev2]
    repeat' ac_rfl
    all_goals (try (conv => whnf))
    rename_i j2 hj2 ej2
    obtain rfl : j2 = j := by omega
    rw [ev]
    refine eq_row r2 r1 hasc ?_
    repeat' ac_rfl
    all_goals (try (conv => whnf))
    have hxl := plen e2
    refine loop_l (p := mps[j2]) (fun z σ H2 => Sd (∃ v7 : Option V, σ = [some (.ref M), some (.ref p), some (.ref g), some (.str (S (srt l0))), some (.str (S (srt v))), some (.int (0 + j2)), some (.ref mps[j2]), v7] ∧ H2 = H')) ?_ ?_ ?_ ?_
    · exact sd_i ⟨_, rfl, rfl⟩
    · rintro z σ H2 hz hP
      obtain ⟨w7, rfl, rfl⟩ := sd_e hP
      exact e1
    · rintro z hz σ H2 hP
      obtain ⟨w7, rfl, rfl⟩ := sd_e hP
      have hzr : z < R[j2].length := by omega
      obtain ⟨t, et, ht⟩ := pget hz hzr e2
      rw [et]
      repeat' ac_rfl
      all_goals (try (conv => whnf))
      all_goals first | exact sd_i ⟨_, rfl, rfl⟩ | trace_state
    · rintro σ H2 hP
      obtain ⟨w7, rfl, rfl⟩ := sd_e hP
      repeat' ac_rfl
      all_goals (try (conv => whnf))
      rename_i j3 hj3 ej3
      obtain rfl : j3 = j2 := by omega
      rw [ev3]
      repeat' ac_rfl
      all_goals (try (conv => whnf))
      rename_i j4 hj4 ej4 j5 hj5 ej5
      obtain rfl : j4 = j3 := by omega
      obtain rfl : j5 = j4 := by omega
      rw [ev3]
      repeat' ac_rfl
      all_goals (try (conv => whnf))
      all_goals first | exact sd_i ⟨_, _, _, rfl, rfl⟩ | (rename_i x; exact absurd rfl x) | trace_state
  · rintro σ H' hP
    obtain ⟨v5, v6, v7, rfl, rfl⟩ := sd_e hP
    repeat' ac_rfl
    all_goals (try (conv => whnf))
    · exact q_bl (decide_eq_true rfl) q
    · rename_i x; exact absurd rfl x


theorem rd_l_copy {K : PySem.W.Frag} {mg : Str → Option Value} (T : Tx K mg) : ∀ vs H Q E, sp_l_copy K vs H Q E → t_l_copy K (WD E) (EndD Q) (start ["_law_rows", "_law_row"] vs) H := by
  intro vs H Q E h
  replace h := h.out
  obtain ⟨p, G, ps, R, rfl, hT, hl, q1⟩ := h
  have T0 := T
  cases T
  have hpl := hT.len
  have hat := hT.at_
  repeat' ac_rfl
  all_goals (try (conv => whnf))
  refine lcp_copy hT hl ?_ (fun _ => rfl) ?_
  · intro z xs H' Q' hz hQ
    repeat' ac_rfl
    all_goals (try (conv => whnf))
    exact hQ _ (by assumption)
  · intro D ps' H' hT' hk
    exact q1 D ps' H' hT' hk


theorem rd_l_refused {K : PySem.W.Frag} {mg : Str → Option Value} (T : Tx K mg) : ∀ vs H Q E, sp_l_refused K vs H Q E → t_l_refused K (WD E) (EndD Q) (start ["_law_alphabet", "_law_arcs", "_law_goods", "_law_handed", "_law_handed_goods", "error"] vs) H := by
  intro vs H Q E h
  replace h := h.out
  obtain ⟨A, dA, p, g, l, v, G, ps, R, bs, rfl, hA, hT, hg, hm, hs, q⟩ := h
  have T0 := T
  cases T
  have hn := hs.n
  repeat' ac_rfl
  all_goals (try (conv => whnf))
  refine i_l_copy hT (by omega) fun p1 ps1 H1 hT1 k1 => ?_
  have hA1 := k1.get0 hA
  have hg1 := k1.get0 hg
  repeat' ac_rfl
  all_goals (try (conv => whnf))
  rename_i L hL x dx hx hdx hne
  have hx1 := Kp.none (Kp.rfl'.new hL) hx
  have hdx1 := Kp.none (Kp.rfl'.new hL) hdx
  have kk : ∀ o1 o2 o3, Kp [] H1 (upd (upd (upd H1 L o1) dx o2) x o3) := fun o1 o2 o3 => ((Kp.rfl'.new hL).own hdx1).own hx1
  have hxL : L ≠ x := ne_none (show upd H1 L _ L = _ from upd_at) hx
  have hdL : L ≠ dx := ne_none (show upd H1 L _ L = _ from upd_at) hdx
  have hL3 : ∀ o2 o3, upd (upd (upd H1 L (.lst (bs.map V.bl))) dx o2) x o3 L = some (bls bs) := fun o2 o3 => upd_off hxL (upd_off hdL upd_at)
  refine i_Machine_init upd_at ((kk _ _ _).get0 hA1) (hT1.kp0 (kk _ _ _)) (hL3 _ _) (by omega) hs ?_
  cases hc : chk (45 :: srt l) R bs.length with
  | some k =>
    rw [hc] at q
    refine ⟨fun d hd => ?_⟩
    have kx := (kk (.lst (bs.map V.bl)) (.own x) (.ins (He.ga K "Machine") dx [])).new (o := .xd [("place", .int k)]) hd
    have hLx := upd_fr (o' := .xd [("place", .int k)]) hd (hL3 (.own x) (.ins (He.ga K "Machine") dx []))
    repeat' ac_rfl
    all_goals (try (conv => whnf))
    rename_i z er her
    refine eq_tab (hT1.kp0 kx) (hT.kp0 (k1.trans kx)) hs ?_
    repeat' ac_rfl
    all_goals (try (conv => whnf))
    refine eq_bls hLx ((k1.trans kx).get0 hg) ?_
    repeat' ac_rfl
    all_goals (try (conv => whnf))
    exact q _ (k1.trans kx)
  | none =>
    rw [hc] at q
    refine ⟨fun mp mps mg H2 hT2 hmg hmg2 k2 hM2 => ?_⟩
    repeat' ac_rfl
    all_goals (try (conv => whnf))
    exact q H2 (Kp.fr (k1.trans (kk _ _ _)) k2 fun z hz => by rw [List.mem_singleton.mp hz]; exact Kp.none k1 hx1)

theorem flts_i : ∀ cs : List Int, flts (cs.map V.int) = some (cs.map PyData.int)
  | [] => rfl
  | c :: cs => by
    rw [List.map_cons, List.map_cons]
    unfold flts
    rw [flts_i cs]; rfl
theorem eq_nil {K : PySem.W.Frag} {H : Hp} {q p : Addr} {cs : List Int} {k : Bool → Prop} (hq : H q = some (cel cs)) (hp : H p = some (.lst [])) (k1 : cs = [] → k true) (k2 : cs ≠ [] → k false) : dpq K (.ref q) (.ref p) H k := by
  obtain ⟨a1, a2, a3⟩ := flts_dp (K := K) (H := H) (flts_i cs)
  have sh : SeqAt.shaped (.list (cs.map PyData.int)) = true := by
    unfold SeqAt.shaped
    rw [PyData.canLay0, a2, PyData.depth, a3]
    decide
  refine dpq_i (.lst (SqL.of hq) a1) (.lst (SqL.of hp) .nil) sh (by decide) ?_
  rw [PyData.eqv]
  cases cs with
  | nil => rw [List.map_nil, PyData.eqvAll]; exact k1 rfl
  | cons c cs => rw [List.map_cons, PyData.eqvAll]; exact k2 (by simp)

theorem rd_l_take {K : PySem.W.Frag} {mg : Str → Option Value} (T : Tx K mg) : ∀ vs H Q E, sp_l_take K vs H Q E → t_l_take K (WD E) (EndD Q) (start ["_law_well_here", "_law_size", "_law_digit", "_law_cell", "_law_once", "_law_twice"] vs) H := by
  intro vs H Q E h
  replace h := h.out
  obtain ⟨b, q, i, n, k, z, cs, rfl, hb, hq, hc, hk, hz, q1⟩ := h
  have T0 := T
  cases T
  have hqb := wlq hb hq
  have hlen : (cs.map V.int).length = cs.length := List.length_map _
  have hm : ∀ x : Int, 0 ≤ x % z ∧ x % z < z := fun x => ⟨Int.emod_nonneg _ (by omega), Int.emod_lt_of_pos _ hz.1⟩
  have hw : CDivW n z := divW hz.1 (by omega)
  repeat' ac_rfl
  all_goals (try (conv => whnf))
  rename_i p0 hp0
  have hq1 := upd_off (o' := .lst ([V.ref q, V.int i, V.int n, V.int k].set (Int.toNat 3) (V.int (k + 1)))) hqb hq
  refine eq_nil (upd_fr hp0 hq1) upd_at (fun e => ?_) (fun e => ?_)
  · repeat' ac_rfl
    all_goals (try (conv => whnf))
    exact q1 0 i n _ (Int.le_refl _) hz.1 (by nofun) (upd_fr hp0 upd_at)
  · have hpos : 0 < cs.length := List.length_pos_iff.mpr e
    have hb0 : b ≠ p0 := ne_none (show upd H b _ b = _ from upd_at) hp0
    repeat' ac_rfl
    all_goals (try (conv => whnf))
    · exact q1 _ i (n / z) _ (hm n).1 (hm n).2 (by nofun) upd_at
    · have hlt := Int.emod_lt_of_pos i (show (0 : Int) < (cs.map V.int).length by omega)
      have hge := Int.emod_nonneg i (show ((cs.map V.int).length : Int) ≠ 0 by omega)
      obtain ⟨j, hj⟩ := Int.eq_ofNat_of_zero_le hge
      have hj2 : j < cs.length := by omega
      refine itm_n (v := .int cs[j]) hj (by rw [List.getElem?_map, List.getElem?_eq_getElem hj2]; rfl) ?_
      repeat' ac_rfl
      all_goals (try (conv => whnf))
      all_goals first
        | exact sd_i (divW (by decide) (by decide))
        | exact q1 _ _ _ _ (hm _).1 (hm _).2 (by nofun) upd_at


theorem rd_l_put {K : PySem.W.Frag} {mg : Str → Option Value} (T : Tx K mg) : ∀ vs H Q E, sp_l_put K vs H Q E → t_l_put K (WD E) (EndD Q) (start ["_law_well_here", "_law_arcs", "_law_place", "_law_arc", "_law_bent"] vs) H := by
  intro vs H Q E h
  replace h := h.out
  obtain ⟨b, q, p, ar, i, n, k, cs, G, ps, R, j, a, rfl, hb, hq, hc, hk, hT, hs, hj, ha, q1⟩ := h
  have T0 := T
  cases T
  have hqb := wlq hb hq
  repeat' ac_rfl
  all_goals (try (conv => whnf))
  have hn := hs.n
  refine i_l_copy hT (by omega) fun p1 ps1 H1 hT1 k1 => ?_
  have hb1 := k1.get0 hb
  have hq1 := k1.get0 hq
  have ha1 := k1.get0 ha
  have hat := hT1.at_
  have hpl := hT1.len
  have hj1 : j < ps1.length := by omega
  obtain ⟨xs, e1, e2⟩ := pget hj1 hj hT1.rows
  have hxl := plen e2
  have hr9 := (hs.r _ (List.getElem_mem hj)).1
  repeat' ac_rfl
  all_goals (try (conv => whnf))
  rename_i j2 hj2 ej
  obtain rfl : j2 = j := by omega
  have ev : (ps1.map V.ref)[j2] = .ref ps1[j2] := List.getElem_map ..
  rw [ev]
  repeat' ac_rfl
  all_goals (try (conv => whnf))
  rename_i j3 hj3 ej3
  obtain rfl : j3 = j2 := by omega
  rw [ev]
  have hjb : ps1[j3] ≠ b := fun e => by
    have := hT1.frs _ (List.getElem_mem hj1)
    rw [e, hb] at this; cases this
  repeat' ac_rfl
  all_goals (try (conv => whnf))
  rename_i r i2 n2 H2 r0 r1 k2 b2
  have hT2 := hT1.kpo k2 fun f hf => by
    rw [List.mem_singleton.mp hf]
    exact ⟨⟨_, hb1⟩, fun z => by rw [hb] at z; cases z⟩
  have e3 : Paired (arcP H2) xs R[j3] := pmem e2 fun v a _ hv => hv.mono fun z a ez => k2.get1 ez fun e => by rw [e, hb1] at ez; cases ez
  have ha2 : arcP H2 (.ref ar) a := ⟨ar, rfl, k2.get1 ha1 fun e => by rw [e, hb1] at ha1; cases ha1⟩
  refine q1 p1 ps1 R[j3] r.toNat i2 n2 (k + 1) _ (List.getElem?_eq_getElem hj) (hT2.set hj1 (papp (papp (ptake _ e3) (.cons ha2 .nil)) (pdrop _ e3))) ?_ (by omega) (by omega) (upd_off hjb.symm b2)
  exact (k1.nil.trans k2).own (hT1.frs _ (List.getElem_mem hj1))


theorem rd_l_strange {K : PySem.W.Frag} {mg : Str → Option Value} (T : Tx K mg) : ∀ vs H Q E, sp_l_strange K vs H Q E → t_l_strange K (WD E) (EndD Q) (start ["_law_well_here", "_law_signs", "_law_pool", "_law_char"] vs) H := by
  intro vs H Q E h
  replace h := h.out
  obtain ⟨b, q, i, n, k, cs, g, rfl, hb, hq, hc, hk, hg, hg2, q1⟩ := h
  have T0 := T
  cases T
  have hqb := wlq hb hq
  repeat' ac_rfl
  all_goals (try (conv => whnf))
  refine lcp_f (fun c => !decide (c ∈ g)) (Nat.le_of_ble_eq_true rfl) ?_ ?_ (fun _ => rfl) ?_
  · rintro c D _ Q' hD hc ⟨xs, rfl⟩ q
    exact q
  · intro c H' Q' q
    exact q
  intro D hD
  have hlow : ∀ c ∈ tl (S [97, 98, 99, 100, 101, 102, 103, 104, 105, 106, 107, 108, 109, 110, 111, 112, 113, 114, 115, 116, 117, 118, 119, 120, 121, 122, 65, 66, 90, 48, 49, 57, 32, 95, 46, 43, 63]), c < 128 := by decide
  have h65 : (65 : Nat) ∈ tl (S [97, 98, 99, 100, 101, 102, 103, 104, 105, 106, 107, 108, 109, 110, 111, 112, 113, 114, 115, 116, 117, 118, 119, 120, 121, 122, 65, 66, 90, 48, 49, 57, 32, 95, 46, 43, 63]) := by decide
  have hlen : (tl (S [97, 98, 99, 100, 101, 102, 103, 104, 105, 106, 107, 108, 109, 110, 111, 112, 113, 114, 115, 116, 117, 118, 119, 120, 121, 122, 65, 66, 90, 48, 49, 57, 32, 95, 46, 43, 63])).length = 37 := rfl
  generalize tl (S [97, 98, 99, 100, 101, 102, 103, 104, 105, 106, 107, 108, 109, 110, 111, 112, 113, 114, 115, 116, 117, 118, 119, 120, 121, 122, 65, 66, 90, 48, 49, 57, 32, 95, 46, 43, 63]) = L at hlow h65 hlen
  have h65g : ¬ 65 ∈ g := fun z => by
    rcases hg _ z with z | z
    · cases z
    · exact absurd z (by decide)
  have hpos : 0 < (L.filter fun c => !decide (c ∈ g)).length := List.length_pos_of_mem (List.mem_filter.mpr ⟨h65, by rw [decide_eq_false h65g]; rfl⟩)
  have hle : (L.filter fun c => !decide (c ∈ g)).length ≤ 37 := by have := List.length_filter_le (fun c => !decide (c ∈ g)) L; omega
  have hmem : ∀ c ∈ L.filter (fun c => !decide (c ∈ g)), ¬ c ∈ g ∧ c < 128 := fun c hc => by
    obtain ⟨h1, h2⟩ := List.mem_filter.mp hc
    exact ⟨by simpa using h2, hlow c h1⟩
  generalize L.filter (fun c => !decide (c ∈ g)) = F at hpos hle hmem
  repeat' ac_rfl
  all_goals (try (conv => whnf))
  rename_i r i1 n1 H1 r0 r1 k1 b1 j hj e
  have hsl := sgn_len F
  have hj2 : j < F.length := by omega
  have ev : (sgn F)[j] = .str (S [F[j]]) := sgn_at hj2 hj
  have hm2 := hmem _ (List.getElem_mem hj2)
  rw [ev]
  exact q1 _ _ _ _ _ hm2.1 hm2.2 (by nofun) (by omega) (by omega) b1

theorem lab1 {g : List Nat} {c : Nat} (h : ¬ c ∈ g) : lab g [c] = false := by
  unfold lab
  simp [h]
theorem lab2 {g : List Nat} {a c : Nat} : lab g [a, c] = false := by
  unfold lab
  simp
theorem okA1 {g : List Nat} {m : Nat} {a : Arc} (h : lab g a.1 = false) : okA g m a = false := by unfold okA; rw [h]; rfl
theorem okA2 {g : List Nat} {m : Nat} {a : Arc} (h : lab g a.2.1 = false) : okA g m a = false := by unfold okA; rw [h, Bool.and_false]; rfl
theorem okA3 {g : List Nat} {m : Nat} {a : Arc} (h : ¬ (0 ≤ a.2.2 ∧ a.2.2 < (m : Int))) : okA g m a = false := by unfold okA; rw [decide_eq_false h, Bool.and_false]
theorem asc_i {a : Arc} (h1 : a.1.length ≤ 2) (h2 : a.2.1.length ≤ 2) (h3 : ∀ c ∈ a.1, c < 128) (h4 : ∀ c ∈ a.2.1, c < 128) : ascA a := ⟨h1, h2, h3, h4⟩
theorem low1 {c : Nat} (h : c < 128) : ∀ d ∈ [c], d < 128 := fun d hd => by rw [List.mem_singleton.mp hd]; exact h
theorem low2 {c e : Nat} (h : c < 128) (h2 : e < 128) : ∀ d ∈ [c, e], d < 128 := fun d hd => by
  simp only [List.mem_cons, List.not_mem_nil, or_false] at hd
  rcases hd with rfl | rfl <;> assumption
theorem low0 : ∀ d ∈ ([] : List Nat), d < 128 := fun d hd => nomatch hd

theorem rd_l_wrong {K : PySem.W.Frag} {mg : Str → Option Value} (T : Tx K mg) : ∀ vs H Q E, sp_l_wrong K vs H Q E → t_l_wrong K (WD E) (EndD Q) (start ["_law_well_here", "_law_signs", "_law_places", "_law_good", "_law_strange_here", "_law_way"] vs) H := by
  intro vs H Q E h
  replace h := h.out
  obtain ⟨b, q, i, n, k, cs, g0, g, m, rfl, hb, hq, hc, hk, hg, hg2, hm, q1⟩ := h
  have T0 := T
  cases T
  have hqb := wlq hb hq
  have hgl : (g0 :: g).length < 1000 := by rw [List.length_cons]; omega
  have lowg : ∀ c ∈ g0 :: g, c < 128 := fun c hc => by
    rcases hg c hc with e | e
    · omega
    · simp only [AZ, List.mem_cons, List.not_mem_nil, or_false] at e
      omega
  have low0' : g0 < 128 := lowg _ List.mem_cons_self
  repeat' ac_rfl
  all_goals (try (conv => whnf))
  rename_i r1 i1 n1 H1 r10 r11 k1 b1 j hj ej
  have hsm : (tl (S (g0 :: g)))[j] ∈ g0 :: g := List.getElem_mem hj
  generalize (tl (S (g0 :: g)))[j] = s at hsm
  have hsl := lowg s hsm
  refine i_l_strange b1 (k1.get1 hq hqb) hc ⟨by omega, by omega⟩ hg hgl fun c i2 n2 k2 H2 hcg hcl kk2 k20 k21 b2 => ?_
  have fin : ∀ (p : Addr) (a : Arc) (i3 n3 k3 : Int) (H3 : Hp), Kp [b] H2 H3 → 0 ≤ k3 → k3 ≤ k2 + 2 → H3 b = some (wl q i3 n3 k3) → H3 p = none → okA (g0 :: g) m a = false → ascA a → Q (.ref p) (upd H3 p (arcO a)) := fun p a i3 n3 k3 H3 kk3 e1 e2 b3 hp h1 h2 => by
    have kH : Kp [b] H H3 := (k1.trans kk2).trans kk3
    exact q1 p a i3 n3 k3 _ h1 h2 (kn1 kH (ne_none' b3 hp) hp) upd_at (kH.new hp) e1 (by omega) (upd_off (ne_none b3 hp) b3)
  have hq2 : H2 q = some (cel cs) := (k1.trans kk2).get1 hq hqb
  repeat' ac_rfl
  all_goals (try (conv => whnf))
  · rename_i r3 i3 n3 H3 r30 r31 kk3 b3 x1 p hp
    exact fin p ([c], [s], 0) i3 n3 _ H3 kk3 (by omega) (by omega) b3 hp (okA1 (lab1 hcg)) (asc_i (by simp) (by simp) (low1 hcl) (low1 hsl))
  · rename_i r3 i3 n3 H3 r30 r31 kk3 b3 x1 x2 p hp
    exact fin p ([s], [c], 0) i3 n3 _ H3 kk3 (by omega) (by omega) b3 hp (okA2 (lab1 hcg)) (asc_i (by simp) (by simp) (low1 hsl) (low1 hcl))
  · rename_i r3 i3 n3 H3 r30 r31 kk3 b3 x1 x2 x3 p hp
    exact fin p ([s, g0], [], 0) i3 n3 _ H3 kk3 (by omega) (by omega) b3 hp (okA1 lab2) (asc_i (by simp) (by simp) (low2 hsl low0') low0)
  · rename_i r3 i3 n3 H3 r30 r31 kk3 b3 x1 x2 x3 x4 p hp
    exact fin p ([], [g0, s], 0) i3 n3 _ H3 kk3 (by omega) (by omega) b3 hp (okA2 lab2) (asc_i (by simp) (by simp) low0 (low2 low0' hsl))
  · rename_i r3 i3 n3 H3 r30 r31 kk3 b3 x1 x2 x3 x4 x5 p hp
    exact fin p ([s], [], -1) i3 n3 _ H3 kk3 (by omega) (by omega) b3 hp (okA3 (by show ¬ ((0 : Int) ≤ -1 ∧ _); omega)) (asc_i (by simp) (by simp) (low1 hsl) low0)
  · rename_i r3 i3 n3 H3 r30 r31 kk3 b3 x1 x2 x3 x4 x5 x6 p hp
    exact fin p ([], [s], m) i3 n3 _ H3 kk3 (by omega) (by omega) b3 hp (okA3 (by show ¬ ((0 : Int) ≤ m ∧ (m : Int) < m); omega)) (asc_i (by simp) (by simp) low0 (low1 hsl))
  · rename_i r3 i3 n3 H3 r30 r31 kk3 b3 x1 x2 x3 x4 x5 x6 x7 p hp
    exact fin p ([s], [s], -(m : Int)) i3 n3 _ H3 kk3 (by omega) (by omega) b3 hp (okA3 (by show ¬ ((0 : Int) ≤ -(m : Int) ∧ _); omega)) (asc_i (by simp) (by simp) (low1 hsl) (low1 hsl))
  · rename_i r3 i3 n3 H3 r30 r31 kk3 b3 x1 x2 x3 x4 x5 x6 x7
    refine i_l_take b3 (kk3.get1 hq2 hqb) hc ⟨by omega, by omega⟩ ⟨by decide, by decide⟩ fun r4 i4 n4 H4 r40 r41 kk4 b4 => ?_
    repeat' ac_rfl
    all_goals (try (conv => whnf))
    rename_i p hp
    exact fin p ([], [], m + r4) i4 n4 _ H4 (kk3.trans kk4) (by omega) (by omega) b4 hp (okA3 (by show ¬ ((0 : Int) ≤ (m : Int) + r4 ∧ (m : Int) + r4 < m); omega)) (asc_i (by simp) (by simp) low0 low0)


theorem rd_l_well {K : PySem.W.Frag} {mg : Str → Option Value} (T : Tx K mg) : ∀ vs H Q E, sp_l_well K vs H Q E → t_l_well K (WD E) (EndD Q) (start ["_law_script", "_law_cell"] vs) H := by
  intro vs H Q E h
  replace h := h.out
  obtain ⟨p, ob, ns, rfl, hp, h1, q1⟩ := h
  have T0 := T
  cases T
  have hl := cut_len ns none (some 63)
  repeat' ac_rfl
  all_goals (try (conv => whnf))
  rename_i p' hp'
  rw [cut_map]
  generalize cut ns none (some 63) = cs at hl
  refine lcp_I upd_at (fun x => x) (by omega) ?_ (fun _ => rfl) ?_
  · rintro x D _ Q' hD hx ⟨ys, rfl⟩ hQ
    repeat' ac_rfl
    all_goals (try (conv => whnf))
    exact hQ
  · intro D hD
    rw [List.map_id']
    repeat' ac_rfl
    all_goals (try (conv => whnf))
    rename_i B hB
    exact q1 B D cs _ (by nofun) (Kp.none (by nofun) hB) (Kp.none (by nofun) hD) upd_at (upd_fr hB upd_at) (by omega)

theorem pop_k {xs : List V} {r : Int} {k : Nat → V → Prop} (h0 : 0 ≤ r) (h1 : r < xs.length) (hl : Lim xs.length) (q : ∀ (j : Nat) (hj : j < xs.length), r = j → k j xs[j]) : ∃ j, ixN xs.length r = some j ∧ Lim xs.length ∧ itm xs r fun y => k j y := by
  obtain ⟨j, rfl⟩ := Int.eq_ofNat_of_zero_le h0
  have hj : j < xs.length := by omega
  refine ⟨j, ?_, hl, itm_n (v := xs[j]) rfl (List.getElem?_eq_getElem hj) (q j hj rfl)⟩
  unfold ixN
  rw [if_pos (by omega), if_pos (by omega)]
  congr 1
theorem sgn_er {l : List Nat} {j : Nat} : (sgn l).eraseIdx j = sgn (l.eraseIdx j) := by
  induction l generalizing j with
  | nil => rfl
  | cons a l ih =>
    cases j with
    | zero => rfl
    | succ j =>
      show V.str (S [a]) :: (sgn l).eraseIdx j = V.str (S [a]) :: sgn (l.eraseIdx j)
      rw [ih]
theorem pop_perm {α : Type} {l po : List α} {j : Nat} (h : j < po.length) : ((l ++ [po[j]]) ++ po.eraseIdx j).Perm (l ++ po) := by
  rw [List.append_assoc]
  refine List.Perm.append_left l ?_
  rw [List.eraseIdx_eq_take_drop_succ]
  refine (List.perm_middle (a := po[j]) (l₁ := po.take j) (l₂ := po.drop (j + 1))).symm.trans ?_
  rw [← List.drop_eq_getElem_cons h, List.take_append_drop]

theorem rd_l_letters {K : PySem.W.Frag} {mg : Str → Option Value} (T : Tx K mg) : ∀ vs H Q E, sp_l_letters K vs H Q E → t_l_letters K (WD E) (EndD Q) (start ["_law_well_here", "_law_most", "_law_pool", "_law_chosen", "_law_k", "_law_vowels", "_law_letter"] vs) H := by
  intro vs H Q E h
  replace h := h.out
  obtain ⟨b, q, i, n, k, cs, rfl, hb, hq, hc, hk, q1⟩ := h
  have T0 := T
  cases T
  have hqb := wlq hb hq
  repeat' ac_rfl
  all_goals (try (conv => whnf))
  rename_i L hL C hC r i1 n1 H1 r0 r1 k1 b1
  have hCL : L ≠ C := ne_none (show upd H L _ L = _ from upd_at) hC
  have hLH : H L = none := hL
  have hCH : H C = none := Kp.none (Kp.rfl'.new hL) hC
  have hbL : L ≠ b := ne_none' hb hLH
  have hbC : C ≠ b := ne_none' hb hCH
  refine loop_r (fun j σ H' => Sd (∃ (po l : List Nat) (i n k' : Int) (v4 : Option V), σ = [some (.ref b), some (.int 4), some (.ref L), some (.ref C), v4, none, none] ∧ Kp [b] H H' ∧ H' b = some (wl q i n k') ∧ k ≤ k' ∧ k' ≤ k + 1 + j ∧ H' L = some (.lst (sgn po)) ∧ H' C = some (.lst (sgn l)) ∧ po.length + j = 26 ∧ l.length = j ∧ (l ++ po).Nodup ∧ ∀ c ∈ l ++ po, c ∈ AZ)) ?_ ?_ ?_
  · exact sd_i ⟨AZ, [], i1, n1, k + 1, none, rfl, by nofun, b1, by omega, by omega, k1.get1 (upd_fr hC upd_at) hbL, k1.get1 upd_at hbC, rfl, rfl, by decide, by decide⟩
  · rintro j σ H' hi hP
    obtain ⟨po, l, i, n, k', v4, rfl, hk1, hb', hk2, hk3, hL', hC', hpo, hl, hnd, haz⟩ := sd_e hP
    have hi : j < (1 + r).toNat := hi
    have hq' : H' q = some (cel cs) := hk1.get1 hq hqb
    have hsp := sgn_len po
    have hsl := sgn_len l
    repeat' ac_rfl
    all_goals (try (conv => whnf))
    rename_i r2 i2 n2 H2 r20 r21 k2 b2 x0 hx0 e0 x hx e
    obtain rfl : x0 = x := by omega
    have hx2 : x0 < po.length := by omega
    have L2 := k2.get1 hL' hbL
    have C2 := k2.get1 hC' hbC
    have C3 := upd_off (o' := .lst ((sgn po).eraseIdx x0)) hCL.symm C2
    rw [sgn_at hx2 hx]
    repeat' ac_rfl
    all_goals (try (conv => whnf))
    have hp := pop_perm (l := l) hx2
    refine sd_i ⟨po.eraseIdx x0, l ++ [po[x0]], i2, n2, k' + 1, _, rfl, ?_, upd_off hbC.symm (upd_off hbL.symm b2), by omega, by omega, ?_, ?_, ?_, ?_, ?_, ?_⟩
    · exact ((hk1.trans k2).own hLH).own hCH
    · rw [← sgn_er]; exact upd_off hCL upd_at
    · exact upd_at.trans (by unfold sgn; rw [List.map_append]; rfl)
    · rw [List.length_eraseIdx_of_lt hx2]; omega
    · rw [List.length_append]; simp only [List.length_cons, List.length_nil]; omega
    · exact hp.nodup_iff.mpr hnd
    · exact fun c hc => haz c (hp.mem_iff.mp hc)
  · rintro σ H' hP
    obtain ⟨po, l, i, n, k', v4, rfl, hk1, hb', hk2, hk3, hL', hC', hpo, hl, hnd, haz⟩ := sd_e hP
    have hq' : H' q = some (cel cs) := hk1.get1 hq hqb
    have hsl := sgn_len l
    obtain ⟨nd1, nd2, nd3⟩ := List.nodup_append.mp hnd
    have hpm := srt_perm l
    have hlen := srt_len l
    have nds : (srt l).Nodup := hpm.nodup_iff.mpr nd1
    have hlt : (srt l).Pairwise (· < ·) := srt_lt nd1
    have hbl : badL (srt l) = false := badL_ok (by omega) (by omega) nds fun c hc => haz c (List.mem_append_left _ (hpm.mem_iff.mp hc))
    repeat' ac_rfl
    all_goals (try (conv => whnf))
    rename_i R hR U hU
    generalize srt l = m at hpm hlen nds hlt hbl hU
    have hRb : R ≠ b := ne_none' hb' hR
    have hUb : U ≠ b := ne_none' (show upd H' R _ b = _ from upd_off hRb.symm hb') hU
    have hRU : R ≠ U := ne_none (show upd H' R _ R = _ from upd_at) hU
    have hRH : H R = none := kn1 hk1 hRb hR
    have hUH : H U = none := kn1 (hk1.own hRH) hUb hU
    refine loop_l (fun j σ H2 => Sd (∃ (v : List Nat) (i n k' : Int) (v6 : Option V), σ = [some (.ref b), some (.int 4), some (.ref L), some (.ref R), v4, some (.ref U), v6] ∧ Kp [b] H H2 ∧ H2 b = some (wl q i n k') ∧ k ≤ k' ∧ k' ≤ k + 5 + j ∧ H2 R = some (.lst (sgn m)) ∧ H2 U = some (.lst (sgn v)) ∧ v.Sublist (m.take j))) ?_ ?_ ?_ ?_
    · exact sd_i ⟨[], i, n, k', none, rfl, (hk1.own hRH).own hUH, upd_off hUb.symm (upd_off hRb.symm hb'), by omega, by omega, upd_off hRU upd_at, upd_at, List.Sublist.refl _⟩
    · rintro j σ H2 hj hP
      obtain ⟨v, i, n, k', v6, rfl, kk, bb, kk1, kk2, RR, UU, sb⟩ := sd_e hP
      exact RR
    · rintro j hj σ H2 hP
      obtain ⟨v, i, n, k', v6, rfl, kk, bb, kk1, kk2, RR, UU, sb⟩ := sd_e hP
      have hq2 : H2 q = some (cel cs) := kk.get1 hq hqb
      have hj2 : j < m.length := by rw [← sgn_len m]; exact hj
      have hvl := sb.length_le
      have hvs := sgn_len v
      rw [List.length_take] at hvl
      rw [sgn_at hj2 hj]
      repeat' ac_rfl
      all_goals (try (conv => whnf))
      · rename_i r3 i3 n3 H3 r30 r31 k3 b3 x
        refine sd_i ⟨v ++ [m[j]], i3, n3, k' + 1, _, rfl, (kk.trans k3).own hUH, upd_off hUb.symm b3, by omega, by omega, upd_off hRU (k3.get1 RR hRb), upd_at.trans (by unfold sgn; rw [List.map_append]; rfl), ?_⟩
        rw [List.take_succ_eq_append_getElem hj2]
        exact sb.append (List.Sublist.refl _)
      · rename_i r3 i3 n3 H3 r30 r31 k3 b3 x
        refine sd_i ⟨v, i3, n3, k' + 1, _, rfl, kk.trans k3, b3, by omega, by omega, k3.get1 RR hRb, k3.get1 UU hUb, ?_⟩
        rw [List.take_succ_eq_append_getElem hj2]
        exact sb.trans (List.sublist_append_left _ _)
    · rintro σ H2 hP
      obtain ⟨v, i, n, k', v6, rfl, kk, bb, kk1, kk2, RR, UU, sb⟩ := sd_e hP
      have hml := sgn_len m
      have hvl := sgn_len v
      rw [hml, List.take_length] at sb
      have hsl := sb.length_le
      repeat' ac_rfl
      all_goals (try (conv => whnf))
      rename_i X hX
      refine q1 X m v i n k' _ ⟨hbl, badV_ok (nds.sublist sb) fun c hc => sb.subset hc⟩ hlt (hlt.sublist sb) (kk.own ?_) (by omega) (by omega) (upd_off (ne_none bb hX) bb) ?_ upd_at
      · exact kn1 kk (ne_none' bb hX) hX
      · exact kn1 kk (ne_none' bb hX) hX


theorem rd_all_different {K : PySem.W.Frag} {mg : Str → Option Value} (T : Tx K mg) : ∀ vs H Q E, sp_all_different K vs H Q E → t_all_different K (WD E) (EndD Q) (start ["string"] vs) H := by
  intro vs H Q E h
  replace h := h.out
  obtain ⟨l, rfl, h1, q⟩ := h
  repeat' ac_rfl
  all_goals (conv => whnf)
  exact q


theorem rd_Alphabet_init {K : PySem.W.Frag} {mg : Str → Option Value} (T : Tx K mg) : ∀ vs H Q E, sp_Alphabet_init K vs H Q E → t_Alphabet_init K (WD E) (EndD Q) (start ["self", "letters", "vowels", "foreign", "sign"] vs) H := by
  intro vs H Q E h
  replace h := h.out
  obtain ⟨a, dx, l, v, rfl, ha, h1, h2, q1, q2, q3⟩ := h
  cases T
  have g1 : (tl (S l)).length < 64 := h1
  have g2 : (tl (S v)).length < 64 := h2
  conv => whnf
  refine lcp_f (fun c => !decide (c ∈ AZ)) (by omega) ?_ ?_ (fun _ => rfl) ?_
  · rintro c D _ Q' hD hc ⟨xs, rfl⟩ q
    exact q
  · intro c H' Q' q
    exact q
  intro D hD
  repeat' ac_rfl
  all_goals (try (conv => whnf))
  rotate_left 1
  · rename_i d hd; exact q1 (badL4 (by assumption)) _ d (Kp.rfl'.new hD) hd
  · rename_i d hd; exact q1 (badL3 (by assumption)) _ d (Kp.rfl'.new hD) hd
  · rename_i d hd; exact q1 (badL2 (by assumption)) _ d (Kp.rfl'.new hD) hd
  · rename_i d hd; exact q1 (badL1 (by assumption)) _ d (Kp.rfl'.new hD) hd
  have hL : badL l = false := badL0 (by assumption) (by assumption) (by assumption) (by assumption)
  refine lcp_f (fun c => !decide (c ∈ l)) (by omega) ?_ ?_ (fun _ => rfl) ?_
  · rintro c D _ Q' hD hc ⟨xs, rfl⟩ q
    exact q
  · intro c H' Q' q
    exact q
  intro D2 hD2
  repeat' ac_rfl
  all_goals (try (conv => whnf))
  rotate_left 1
  · rename_i d hd; exact q2 hL (badV2 (by assumption)) _ d (by nofun) hd
  · rename_i d hd; exact q2 hL (badV1 (by assumption)) _ d (by nofun) hd
  have hV : badV l v = false := badV0 (by assumption) (by assumption)
  have q3 := q3 hL hV
  refine lcp_l (by contradiction) (fun c => !decide (c ∈ v)) (by bv_omega) ?_ ?_ (fun _ => rfl) ?_
  · rintro c D _ Q' hD hc ⟨xs, rfl⟩ q
    exact q
  · intro c H' Q' q
    exact q
  intro D3 hD3
  have hfl : ((srt (tl (S l))).filter fun c => !decide (c ∈ v)).length ≤ 1000000 := Nat.le_trans (List.length_filter_le _ _) (by bv_omega)
  repeat' ac_rfl
  all_goals (try (conv => whnf))
  exact q3 _ (by nofun) (upd_at.trans rfl)

theorem rows_kp {F : List Addr} {H H' : Hp} {ps : List Addr} {T : List (List Arc)} (h : Paired (rowP H) ps T) (k : Kp F H H') (hF : ∀ f ∈ F, (∃ xs, H f = some (.lst xs)) ∧ ¬ f ∈ ps) : Paired (rowP H') ps T := by
  have kt : ∀ q a, H q = some (arcO a) → H' q = some (arcO a) := fun q a e => k q _ e fun z => by
    obtain ⟨⟨xs, e2⟩, _⟩ := hF q z
    rw [e] at e2; cases e2
  exact pmem h fun a b ha => rowP.mono kt fun xs e => k a _ e fun z => (hF a z).2 ha
theorem mk_at {g : List Nat} (hg : ∀ c ∈ g, c < 128) (j : Nat) (h : j < ([V.str (S [])] ++ sgn g).length) : ∃ t, ([V.str (S [])] ++ sgn g)[j] = .str (S t) ∧ lab g t = true ∧ t.length ≤ 2 ∧ ∀ c ∈ t, c < 128 := by
  cases j with
  | zero => exact ⟨[], rfl, rfl, by decide, fun c hc => nomatch hc⟩
  | succ j =>
    have h2 : j < (sgn g).length := by simpa using h
    have h3 : j < g.length := by rw [← sgn_len g]; exact h2
    refine ⟨[g[j]], sgn_at h3 h2, ?_, by simp, fun c hc => ?_⟩
    · have := List.getElem_mem h3
      unfold lab; simp [this]
    · rw [List.mem_singleton.mp hc]; exact hg _ (List.getElem_mem h3)
theorem tab_in {K : PySem.W.Frag} {mg : Str → Option Value} (T0 : Tx K mg) {E : XK} {D : Ends} {b q mk A Gd r : Addr} {i n k m mo z pl : Int} {cs : List Int} {g : List Nat} {H : Hp} {v9 : Option V}
    (hb : H b = some (wl q i n k)) (hq : H q = some (cel cs)) (hqb : q ≠ b) (hc : cs.length < 1000) (hk : 0 ≤ k ∧ k < 950000) (hg : ∀ c ∈ g, c < 128) (hg2 : g.length ≤ 5) (hm : 0 < m ∧ m ≤ 60) (hmk : H mk = some (.lst ([V.str (S [])] ++ sgn g))) (hmb : mk ≠ b) (hr : H r = some (.lst [])) (hrb : r ≠ b) (hmr : mk ≠ r) (hqr : q ≠ r) (hz : z ≤ 4)
    (h : ∀ xs row i' n' k' v9 H', Kp [b, r] H H' → k ≤ k' → k' ≤ k + 12 → H' b = some (wl q i' n' k') → H' r = some (.lst xs) → Paired (arcP H') xs row → row.length ≤ 4 → (∀ a ∈ row, okA g m.toNat a = true ∧ ascA a) → D.nx [some (.ref b), some (.str (S g)), some (.int m), some (.int mo), some (.ref mk), some (.ref A), some (.ref Gd), some (.int pl), some (.ref r), v9] H') :
    loop z.toNat (itR 0) (fun _ => True) (gName 9) (b_l_table_2 K (WD E)) D [some (.ref b), some (.str (S g)), some (.int m), some (.int mo), some (.ref mk), some (.ref A), some (.ref Gd), some (.int pl), some (.ref r), v9] H := by
  cases T0
  have hgl : (sgn g).length = g.length := sgn_len g
  refine loop_r (fun j σ H' => Sd (∃ (xs : List V) (row : List Arc) (i' n' k' : Int) (v9 : Option V), σ = [some (.ref b), some (.str (S g)), some (.int m), some (.int mo), some (.ref mk), some (.ref A), some (.ref Gd), some (.int pl), some (.ref r), v9] ∧ Kp [b, r] H H' ∧ k ≤ k' ∧ k' ≤ k + 3 * j ∧ H' b = some (wl q i' n' k') ∧ H' r = some (.lst xs) ∧ Paired (arcP H') xs row ∧ row.length = j ∧ ∀ a ∈ row, okA g m.toNat a = true ∧ ascA a)) ?_ ?_ ?_
  · exact sd_i ⟨[], [], i, n, k, v9, rfl, Kp.rfl', by omega, by omega, hb, hr, .nil, rfl, fun _ z => nomatch z⟩
  · rintro j σ H' hj hP
    obtain ⟨xs, row, i', n', k', v9, rfl, kk, k1, k2, b1, r1, pr, rl, ok⟩ := sd_e hP
    have hj4 : j < 4 := by omega
    have hxl := plen pr
    repeat' ac_rfl
    all_goals (try (conv => whnf))
    rename_i ra ia na Ha ra0 ra1 ka ba ja hja ea rb ib nb Hb rb0 rb1 kb bb jb hjb eb rc ic nc Hc rc0 rc1 kc bc t ht
    obtain ⟨t1, et1, lt1, al1, as1⟩ := mk_at hg ja hja
    obtain ⟨t2, et2, lt2, al2, as2⟩ := mk_at hg jb hjb
    rw [et1, et2]
    have kH : Kp [b] H' Hc := (ka.trans kb).trans kc
    have rc' : Hc r = some (.lst xs) := kH.get1 r1 hrb
    have hrt : r ≠ t := ne_none rc' ht
    have hbt : b ≠ t := ne_none bc ht
    refine sd_i ⟨xs ++ [.ref t], row ++ [(t1, t2, rc)], ic, nc, k' + 1 + 1 + 1, _, rfl, ?_, by omega, by omega, upd_off hrb.symm (upd_off hbt bc), upd_at, ?_, ?_, ?_⟩
    · refine ((kk.trans (kH.mono fun z hz => ?_)).new ht).at (by simp)
      rw [List.mem_singleton.mp hz]; exact List.mem_cons_self
    · have kt : ∀ z a, H' z = some (arcO a) → upd (upd Hc t (.tup [.str (S t1), .str (S t2), .int rc])) r (.lst (xs ++ [.ref t])) z = some (arcO a) := fun z a ez =>
        upd_off (fun e => by rw [e, r1] at ez; cases ez) (upd_fr ht (kH.get1 ez fun e => by rw [e, b1] at ez; cases ez))
      exact papp (pmem pr fun _ _ _ => arcP.mono kt) (.cons ⟨t, rfl, upd_off hrt.symm upd_at⟩ .nil)
    · rw [List.length_append, rl]; rfl
    · intro a ha
      rcases List.mem_append.mp ha with ha | ha
      · exact ok a ha
      · rw [List.mem_singleton.mp ha]
        refine ⟨?_, al1, al2, as1, as2⟩
        show (lab g t1 && lab g t2 && decide (0 ≤ rc ∧ rc < (m.toNat : Int))) = true
        rw [lt1, lt2, decide_eq_true (And.intro rc0 (by omega))]; rfl
  · rintro σ H' hP
    obtain ⟨xs, row, i', n', k', v9, rfl, kk, k1, k2, b1, r1, pr, rl, ok⟩ := sd_e hP
    exact h xs row i' n' k' v9 H' kk k1 (by omega) b1 r1 pr (by omega) ok
theorem tab_out {K : PySem.W.Frag} {mg : Str → Option Value} (T0 : Tx K mg) {E : XK} {Q : VK} {b q mk A Gd : Addr} {i n i0 n0 k k0 m mo : Int} {cs : List Int} {g : List Nat} {H0 H : Hp}
    (hb0 : H0 b = some (wl q i0 n0 k0)) (hq0 : H0 q = some (cel cs)) (hqb : q ≠ b) (k0H : Kp [b] H0 H) (hb : H b = some (wl q i n k)) (hc : cs.length < 1000) (hk : 0 ≤ k ∧ k < 900010) (hg : ∀ c ∈ g, c < 128) (hg2 : g.length ≤ 5) (hm : 0 < m ∧ m ≤ 60) (hmo : 0 < mo ∧ mo ≤ 5)
    (hmk : H mk = some (.lst ([V.str (S [])] ++ sgn g))) (hmk0 : H0 mk = none) (hA : H A = some (.lst [])) (hA0 : H0 A = none) (hG : H Gd = some (.lst [])) (hG0 : H0 Gd = none) (hAG : A ≠ Gd) (hmA : mk ≠ A) (hmG : mk ≠ Gd)
    (q1 : ∀ r p gl ps R bs i' n' k' H', tabOk g R → tabP H0 H' p ps R → H0 gl = none → H' gl = some (bls bs) → bs.length = R.length → H0 r = none → H' r = some (.tup [.ref p, .ref gl]) → Kp [b] H0 H' → k ≤ k' → k' ≤ k + 14 * m → H' b = some (wl q i' n' k') → Q (.ref r) H') :
    t_l_table_6 K (WD E) (EndD Q) [some (.ref b), some (.str (S g)), some (.int m), some (.int mo), some (.ref mk), some (.ref A), some (.ref Gd), none, none, none] H := by
  have T1 := T0
  cases T0
  refine ⟨?_⟩
  have hne : ∀ {z : Addr}, H0 z = none → z ≠ b := fun hz e => by rw [e, hb0] at hz; cases hz
  have hne2 : ∀ {z : Addr}, H0 z = none → q ≠ z := fun hz e => by rw [← e, hq0] at hz; cases hz
  repeat' ac_rfl
  all_goals (try (conv => whnf))
  refine loop_r (fun j σ H' => Sd (∃ (ps : List Addr) (R : List (List Arc)) (bs : List Bool) (i' n' k' : Int) (v7 v8 v9 : Option V), σ = [some (.ref b), some (.str (S g)), some (.int m), some (.int mo), some (.ref mk), some (.ref A), some (.ref Gd), v7, v8, v9] ∧ Kp [b] H0 H' ∧ k ≤ k' ∧ k' ≤ k + 14 * j ∧ H' b = some (wl q i' n' k') ∧ H' mk = some (.lst ([V.str (S [])] ++ sgn g)) ∧ H' A = some (.lst (ps.map V.ref)) ∧ H' Gd = some (bls bs) ∧ Paired (rowP H') ps R ∧ (∀ z ∈ ps, H0 z = none ∧ z ≠ A ∧ z ≠ Gd) ∧ ps.Nodup ∧ R.length = j ∧ bs.length = j ∧ ∀ r ∈ R, r.length ≤ 4 ∧ ∀ a ∈ r, okA g m.toNat a = true ∧ ascA a)) ?_ ?_ ?_
  · exact sd_i ⟨[], [], [], i, n, k, none, none, none, rfl, k0H, by omega, by omega, hb, hmk, hA, hG, .nil, fun _ z => (nomatch z), .nil, rfl, rfl, fun _ z => (nomatch z)⟩
  · rintro j σ H' hj hP
    obtain ⟨ps, R, bs, i', n', k', v7, v8, v9, rfl, kk, k1, k2, b1, m1, A1, G1, pr, fr, nd, Rl, bl, ok⟩ := sd_e hP
    have hj60 : j < 60 := by omega
    have hq' : H' q = some (cel cs) := kk.get1 hq0 hqb
    have hpl := plen pr
    have hml : (ps.map V.ref).length = ps.length := List.length_map ..
    have hbl : (bs.map V.bl).length = bs.length := List.length_map ..
    repeat' ac_rfl
    all_goals (try (conv => whnf))
    rename_i p hp r2 i2 n2 H2 r20 r21 kk2 b2
    have hAb := hne hA0
    have hGb := hne hG0
    have hpb : p ≠ b := ne_none' b1 hp
    have hpA : A ≠ p := ne_none A1 hp
    have hpG : Gd ≠ p := ne_none G1 hp
    have hpm : mk ≠ p := ne_none m1 hp
    have hp0 : H0 p = none := kn1 kk hpb hp
    have A2 := kk2.get1 (upd_fr hp A1) hAb
    have G2 := kk2.get1 (upd_fr hp G1) hGb
    have m2 := kk2.get1 (upd_fr hp m1) (hne hmk0)
    have p2 := kk2.get1 (show upd H' p _ p = _ from upd_at) hpb
    have hq2 := kk2.get1 (upd_fr hp hq') hqb
    have hpps : ¬ p ∈ ps := fun z => by
      obtain ⟨T, _, xs, e, _⟩ := pany pr z
      rw [hp] at e; cases e
    have kk1 : Kp [b] H0 H2 := (kk.own hp0).trans kk2
    refine tab_in T1 b2 hq2 hqb hc (by omega) hg hg2 hm m2 (hne hmk0) p2 hpb hpm (hne2 hp0) (by omega) fun xs row i3 n3 k3 w9 H3 kk3 k31 k32 b3 r3 pr3 rl3 ok3 => ?_
    have A3 := kk3.get2 A2 hAb hpA
    have G3 := kk3.get2 G2 hGb hpG
    have m3 := kk3.get2 m2 (hne hmk0) hpm
    have hq3 : H3 q = some (cel cs) := kk3.get2 hq2 hqb (hne2 hp0)
    have kk13 : Kp [b] H0 H3 := fun z o ez nz => kk3 z o (kk1 z o ez nz) fun hz => by
      rcases List.mem_cons.mp hz with e | hz
      · exact nz (by rw [e]; exact List.mem_cons_self)
      · rw [List.mem_singleton.mp hz, hp0] at ez; cases ez
    repeat' ac_rfl
    all_goals (try (conv => whnf))
    rename_i r4 i4 n4 H4 r40 r41 kk4 b4
    have A4 : H4 A = some (.lst (ps.map V.ref ++ [.ref p])) := kk4.get1 upd_at hAb
    have kf : ∀ z o, H3 z = some o → z ≠ b → z ≠ A → z ≠ Gd → upd H4 Gd (.lst (bs.map V.bl ++ [.bl (decide (r4 = 0))])) z = some o := fun z o ez n1 n2 n3 => upd_off n3 (kk4.get1 (upd_off n2 ez) n1)
    have kt : ∀ z a, H3 z = some (arcO a) → upd H4 Gd (.lst (bs.map V.bl ++ [.bl (decide (r4 = 0))])) z = some (arcO a) := fun z a ez =>
      kf z _ ez (fun e => by rw [e, b3] at ez; cases ez) (fun e => by rw [e, A3] at ez; cases ez) (fun e => by rw [e, G3] at ez; cases ez)
    have kt2 : ∀ z a, H' z = some (arcO a) → H3 z = some (arcO a) := fun z a ez =>
      kk3.get2 (kk2.get1 (upd_fr hp ez) fun e => by rw [e, b1] at ez; cases ez) (fun e => by rw [e, b1] at ez; cases ez) (fun e => by rw [e, hp] at ez; cases ez)
    refine sd_i ⟨ps ++ [p], R ++ [row], bs ++ [decide (r4 = 0)], i4, n4, k3 + 1, _, _, _, rfl, ?_, by omega, by omega, upd_off hGb.symm b4, ?_, ?_, ?_, ?_, ?_, ?_, ?_, ?_, ?_⟩
    · exact (((kk13.own hA0)).trans kk4).own hG0
    · exact kf mk _ m3 (hne hmk0) hmA hmG
    · rw [List.map_append]; exact upd_off hAG A4
    · exact upd_at.trans (by unfold bls; rw [List.map_append]; rfl)
    · refine papp (pmem pr fun z c hz h => rowP.mono (fun z a ez => kt z a (kt2 z a ez)) (fun xs ex => ?_) h) (.cons ⟨xs, kf p _ r3 hpb hpA.symm hpG.symm, pmem pr3 fun _ _ _ => arcP.mono kt⟩ .nil)
      obtain ⟨f1, f2, f3⟩ := fr z hz
      exact kf z _ (kk3.get2 (kk2.get1 (upd_fr hp ex) (hne f1)) (hne f1) (fun e => hpps (e ▸ hz))) (hne f1) f2 f3
    · intro z hz
      rcases List.mem_append.mp hz with hz | hz
      · exact fr z hz
      · rw [List.mem_singleton.mp hz]; exact ⟨hp0, hpA.symm, hpG.symm⟩
    · exact nd_snoc nd hpps
    · rw [List.length_append, Rl]; rfl
    · rw [List.length_append, bl]; rfl
    · intro z hz
      rcases List.mem_append.mp hz with hz | hz
      · exact ok z hz
      · rw [List.mem_singleton.mp hz]; exact ⟨rl3, ok3⟩
  · rintro σ H' hP
    obtain ⟨ps, R, bs, i', n', k', v7, v8, v9, rfl, kk, k1, k2, b1, m1, A1, G1, pr, fr, nd, Rl, bl, ok⟩ := sd_e hP
    repeat' ac_rfl
    all_goals (try (conv => whnf))
    rename_i p hp
    have hp0 : H0 p = none := kn1 kk (ne_none' b1 hp) hp
    refine q1 p A Gd ps R bs i' n' k' _ ⟨by omega, by omega, fun r hr => ?_⟩ ⟨upd_fr hp A1, hA0, fun z hz => (fr z hz).1, List.nodup_cons.mpr ⟨fun z => (fr A z).2.1 rfl, nd⟩, pmem pr fun z c hz h => rowP.mono (fun z a ez => upd_fr hp ez) (fun xs ex => upd_fr hp ex) h⟩ hG0 (upd_fr hp G1) (by omega) hp0 upd_at (kk.own hp0) k1 (by omega) (upd_off (ne_none b1 hp) b1)
    rw [Rl]; exact ok r hr

theorem rd_l_table {K : PySem.W.Frag} {mg : Str → Option Value} (T : Tx K mg) : ∀ vs H Q E, sp_l_table K vs H Q E → t_l_table K (WD E) (EndD Q) (start ["_law_well_here", "_law_signs", "_law_places", "_law_most", "_law_marks", "_law_arcs", "_law_goods", "_law_place", "_law_row", "_law_k"] vs) H := by
  intro vs H Q E h
  replace h := h.out
  obtain ⟨b, q, i, n, k, cs, g, rfl, hb, hq, hc, hk, hg, hg2, q1⟩ := h
  have T0 := T
  cases T
  have hqb := wlq hb hq
  have hgl : (sgn g).length = g.length := sgn_len g
  have fin : ∀ (i2 n2 k2 m mo : Int) (H2 : Hp) (p1 p2 mk A Gd : Addr), Kp [b] H H2 → H2 b = some (wl q i2 n2 k2) → 0 ≤ k2 → k2 ≤ k + 2 → 0 < m ∧ m ≤ 60 → 0 < mo ∧ mo ≤ 5 → H2 p1 = none → upd H2 p1 (.lst [V.str (S [])]) p2 = none → upd (upd H2 p1 (.lst [V.str (S [])])) p2 (.lst (sgn (tl (S g)))) mk = none →
      upd (upd (upd H2 p1 (.lst [V.str (S [])])) p2 (.lst (sgn (tl (S g))))) mk (.lst ([V.str (S [])] ++ sgn (tl (S g)))) A = none → upd (upd (upd (upd H2 p1 (.lst [V.str (S [])])) p2 (.lst (sgn (tl (S g))))) mk (.lst ([V.str (S [])] ++ sgn (tl (S g))))) A (.lst []) Gd = none →
      t_l_table_6 K (WD E) (EndD Q) [some (.ref b), some (.str (S g)), some (.int m), some (.int mo), some (.ref mk), some (.ref A), some (.ref Gd), none, none, none] (upd (upd (upd (upd (upd H2 p1 (.lst [V.str (S [])])) p2 (.lst (sgn (tl (S g))))) mk (.lst ([V.str (S [])] ++ sgn (tl (S g))))) A (.lst [])) Gd (.lst [])) := by
    intro i2 n2 k2 m mo H2 p1 p2 mk A Gd kH b2 k20 k21 hm hmo hp1 hp2 hmk hA hGd
    generalize eH3 : upd (upd H2 p1 (.lst [V.str (S [])])) p2 (.lst (sgn (tl (S g)))) = H3 at hmk hA hGd
    have k3 : Kp [] H2 H3 := by rw [← eH3]; exact (Kp.rfl'.new hp1).new hp2
    have k5 : Kp [] H2 (upd (upd (upd H3 mk (.lst ([V.str (S [])] ++ sgn (tl (S g))))) A (.lst [])) Gd (.lst [])) := ((k3.new hmk).new hA).new hGd
    have b3 := k3.get0 b2
    have hmb : mk ≠ b := ne_none' b3 hmk
    have hAb : A ≠ b := ne_none' (upd_fr hmk b3) hA
    have hGb : Gd ≠ b := ne_none' (upd_fr hA (upd_fr hmk b3)) hGd
    have hmA : mk ≠ A := ne_none (show upd H3 mk _ mk = _ from upd_at) hA
    have hmG : mk ≠ Gd := ne_none (upd_fr hA (show upd H3 mk _ mk = _ from upd_at)) hGd
    have hAG : A ≠ Gd := ne_none (show upd _ A _ A = _ from upd_at) hGd
    have hmk0 : H mk = none := kn1 kH hmb (Kp.none k3 hmk)
    have hA0 : H A = none := kn1 kH hAb (Kp.none (k3.new hmk) hA)
    have hG0 : H Gd = none := kn1 kH hGb (Kp.none ((k3.new hmk).new hA) hGd)
    refine tab_out T0 hb hq hqb (kH.trans k5.nil) (k5.get0 b2) hc ⟨k20, by omega⟩ hg hg2 hm hmo (upd_fr hGd (upd_fr hA upd_at)) hmk0 (upd_fr hGd upd_at) hA0 upd_at hG0 hAG hmA hmG fun r p gl ps R bs i' n' k' H' a1 a2 a3 a4 a5 a6 a7 a8 a9 a10 a11 => ?_
    exact q1 r p gl ps R bs i' n' k' H' a1 a2 a3 a4 a5 a6 a7 a8 (by omega) (by omega) a11
  repeat' ac_rfl
  all_goals (try (conv => whnf))
  · rename_i r1 i1 n1 H1 r10 r11 k1 b1 r2 i2 n2 H2 r20 r21 k2 b2 x p1 hp1 p2 hp2 mk hmk A hA Gd hGd
    exact fin i2 n2 _ 60 2 H2 p1 p2 mk A Gd (k1.trans k2) b2 (by omega) (by omega) (by omega) (by omega) hp1 hp2 hmk hA hGd
  · rename_i r1 i1 n1 H1 r10 r11 k1 b1 r2 i2 n2 H2 r20 r21 k2 b2 x p1 hp1 p2 hp2 mk hmk A hA Gd hGd
    exact fin i2 n2 _ (1 + r1) 5 H2 p1 p2 mk A Gd (k1.trans k2) b2 (by omega) (by omega) (by omega) (by omega) hp1 hp2 hmk hA hGd

theorem srt_rev (l : List Nat) : srt l.reverse = srt l := srt_uniq ((srt_perm _).trans (List.reverse_perm l)) (srt_pw _)
theorem srt_id {l : List Nat} (h : l.Pairwise (· < ·)) : srt l = l := (srt_uniq (List.Perm.refl l) (h.imp fun h => Nat.le_of_lt h)).symm
theorem alf_rev (l v : List Nat) : alf l.reverse v = alf l v := by unfold alf; rw [srt_rev]
structure lawF (K : PySem.W.Frag) (b q A dA p gl M dM mp mg : Addr) (G G2 : Hp) (cs : List Int) (l v : List Nat) (ps mps : List Addr) (R : List (List Arc)) (bs : List Bool) (H : Hp) : Prop where
  q_ : H q = some (cel cs)
  qb : q ≠ b
  A_ : H A = some (alo K dA l v)
  p_ : tabP G H p ps R
  Gb : G b ≠ none
  g_ : H gl = some (bls bs)
  gb : gl ≠ b
  M_ : H M = some (macO K dM A mp mg)
  mp_ : tabP G2 H mp mps R
  G2b : G2 b ≠ none
  mg_ : H mg = some (bls bs)
  mgb : mg ≠ b
theorem lawF.kp {K : PySem.W.Frag} {b q A dA p gl M dM mp mg : Addr} {G G2 : Hp} {cs : List Int} {l v : List Nat} {ps mps : List Addr} {R : List (List Arc)} {bs : List Bool} {H H' : Hp} {xs : List V} (F : lawF K b q A dA p gl M dM mp mg G G2 cs l v ps mps R bs H)
    (hb : H b = some (.lst xs)) (k : Kp [b] H H') : lawF K b q A dA p gl M dM mp mg G G2 cs l v ps mps R bs H' := by
  obtain ⟨a1, a2, a3, a4, a5, a6, a7, a8, a9, a10, a11, a12⟩ := F
  have hn : ∀ {G : Hp}, G b ≠ none → ∀ f ∈ [b], (∃ xs, H f = some (.lst xs)) ∧ G f ≠ none := fun h f hf => by rw [List.mem_singleton.mp hf]; exact ⟨⟨_, hb⟩, h⟩
  exact ⟨k.get1 a1 a2, a2, k.get1 a3 (fun e => by rw [e, hb] at a3; cases a3), a4.kpo k (hn a5), a5, k.get1 a6 a7, a7, k.get1 a8 (fun e => by rw [e, hb] at a8; cases a8), a9.kpo k (hn a10), a10, k.get1 a11 a12, a12⟩
theorem take_set_same {α : Type} (R : List α) (j : Nat) (x : α) : (R.set j x).take j = R.take j := by
  rw [List.take_set, List.set_eq_of_length_le (by rw [List.length_take]; omega)]
theorem chk_bad {g : List Nat} {R : List (List Arc)} {m j : Nat} {row : List Arc} {a : Arc} (hm : R.length = m) (hj : R[j]? = some row) (hp : ∀ r ∈ R.take j, r.all (okA g R.length) = true) (ha : a ∈ row) (hb : okA g R.length a = false) : chk g R m = some (j : Int) := by
  obtain ⟨hj2, e⟩ := List.getElem?_eq_some_iff.mp hj
  rw [chk_e (fun e => by rw [e] at hj2; cases hj2) hm]
  refine fbad_at hj2 hp fun z => ?_
  rw [e] at z
  have := List.all_eq_true.mp z a ha
  rw [hb] at this; cases this
theorem tab_all {g : List Nat} {R : List (List Arc)} (h : tabOk g R) : ∀ r ∈ R, r.all (okA g R.length) = true := fun r hr => List.all_eq_true.mpr fun a ha => ((h.r r hr).2 a ha).1
theorem mid_in {α : Type} {row : List α} {z : Nat} {a x : α} (h : x ∈ row ∨ x = a) : x ∈ row.take z ++ [a] ++ row.drop z := by
  rcases h with h | h
  · rw [← List.take_append_drop z row] at h
    rcases List.mem_append.mp h with h | h
    · exact List.mem_append_left _ (List.mem_append_left _ h)
    · exact List.mem_append_right _ h
  · rw [h]; simp
theorem mid_of {α : Type} {row : List α} {z : Nat} {a x : α} (h : x ∈ row.take z ++ [a] ++ row.drop z) : x ∈ row ∨ x = a := by
  rcases List.mem_append.mp h with h | h
  · rcases List.mem_append.mp h with h | h
    · exact .inl (List.mem_of_mem_take h)
    · exact .inr (List.mem_singleton.mp h)
  · exact .inl (List.mem_of_mem_drop h)
theorem mid_len {α : Type} (row : List α) (z : Nat) (a : α) : (row.take z ++ [a] ++ row.drop z).length = row.length + 1 := by
  rw [List.length_append, List.length_append, List.length_take, List.length_drop]; simp only [List.length_cons, List.length_nil]; omega
structure smallN (m : Nat) (T : List (List Arc)) : Prop where
  n : T.length ≤ 60
  r : ∀ r ∈ T, r.length ≤ m ∧ ∀ a ∈ r, ascA a
theorem smallN.set {n j z : Nat} {T : List (List Arc)} {row : List Arc} {a : Arc} (h : smallN n T) (hj : T[j]? = some row) (ha : ascA a) : smallN (n + 1) (T.set j (row.take z ++ [a] ++ row.drop z)) := by
  refine ⟨by rw [List.length_set]; exact h.n, fun r hr => ?_⟩
  rcases List.mem_or_eq_of_mem_set hr with hr | hr
  · exact ⟨Nat.le_succ_of_le (h.r r hr).1, (h.r r hr).2⟩
  · obtain ⟨h1, h2⟩ := h.r row (List.mem_of_getElem? hj)
    rw [hr, mid_len]
    refine ⟨by omega, fun x hx => ?_⟩
    rcases mid_of hx with hx | hx
    · exact h2 x hx
    · rw [hx]; exact ha
theorem smallN.s {n : Nat} {T : List (List Arc)} (h : smallN n T) (hn : n ≤ 9) : small T := ⟨h.n, fun r hr => ⟨by have := (h.r r hr).1; omega, (h.r r hr).2⟩⟩
theorem tabOk.s {g : List Nat} {T : List (List Arc)} (h : tabOk g T) : smallN 4 T := ⟨h.n, fun r hr => ⟨(h.r r hr).1, fun a ha => ((h.r r hr).2 a ha).2⟩⟩
theorem k_refused {K : PySem.W.Frag} {A dA p g : Addr} {l v : List Nat} {G : Hp} {ps : List Addr} {R : List (List Arc)} {bs : List Bool} {H : Hp} {Q : VK} {E : XK} {k : Int} (hA : H A = some (alo K dA l v)) (hT : tabP G H p ps R) (hg : H g = some (bls bs)) (hm : bs.length < 1000) (hs : small R)
    (e : chk (45 :: srt l) R bs.length = some k) (q : ∀ H', Kp [] H H' → Q (.int k) H') : sp_l_refused K [.ref A, .ref p, .ref g] H Q E := by
  refine i_l_refused hA hT hg hm hs fun H' k => ?_
  rw [e]; exact q H' k
theorem n_refused {K : PySem.W.Frag} {A dA p g : Addr} {l v : List Nat} {G : Hp} {ps : List Addr} {R : List (List Arc)} {bs : List Bool} {H : Hp} {Q : VK} {E : XK} (hA : H A = some (alo K dA l v)) (hT : tabP G H p ps R) (hg : H g = some (bls bs)) (hm : bs.length < 1000) (hs : small R)
    (e : chk (45 :: srt l) R bs.length = none) (q : ∀ H', Kp [] H H' → Q .non H') : sp_l_refused K [.ref A, .ref p, .ref g] H Q E := by
  refine i_l_refused hA hT hg hm hs fun H' k => ?_
  rw [e]; exact q H' k
theorem k_kept {K : PySem.W.Frag} {M dM A dA mp mg p g : Addr} {l v : List Nat} {G G2 : Hp} {ps mps : List Addr} {R : List (List Arc)} {bs : List Bool} {H : Hp} {Q : VK} {E : XK} (hM : H M = some (macO K dM A mp mg)) (hA : H A = some (alo K dA l v)) (hT : tabP G H p ps R) (hT2 : tabP G2 H mp mps R) (hg : H g = some (bls bs)) (hg2 : H mg = some (bls bs)) (hm : bs.length = R.length) (hs : small R) (hl : srt l = l) (hv : srt v = v)
    (q : Q (.bl true) H) : sp_l_kept K [.ref M, .ref p, .ref g, .str (S l), .str (S v)] H Q E := by
  have h := i_l_kept (E := E) (l := l) hM hA hT hT2 hg hg2 hm hs q
  rw [hl, hv] at h; exact h
theorem empty_tab {H : Hp} {p : Addr} (hp : H p = none) : tabP H (upd H p (.lst [])) p [] [] := ⟨upd_at, hp, fun _ z => (nomatch z), by simp, .nil⟩
section
variable {K : PySem.W.Frag} {mg0 : Str → Option Value} {E : XK} {Q : VK} {sc b q A dA p gl M dM mp mg : Addr} {G G2 H : Hp} {cs : List Int} {l v : List Nat} {ps mps : List Addr} {R : List (List Arc)} {bs : List Bool} {i n k : Int}
theorem seg23 (T0 : Tx K mg0) (F : lawF K b q A dA p gl M dM mp mg G G2 cs l v ps mps R bs H) (hb : H b = some (wl q i n k)) (ht : tabOk (45 :: l) R) (hbl : bs.length = R.length) (hl : srt l = l) (hv : srt v = v) {v8 v9 v11 v12 v13 v14 v15 v16 : Option V}
    (fin : ∀ H', Q (.bl true) H') : t_law_23 K (WD E) (EndD Q) [some (.ref sc), some (.ref b), some (.str (S l)), some (.str (S v)), some (.ref A), some (.str (S (45 :: l))), some (.ref p), some (.ref gl), v8, v9, some (.ref M), v11, v12, v13, v14, v15, v16] H := by
  have T1 := T0
  cases T0
  refine ⟨?_⟩
  have hat := F.p_.at_
  have hg := F.g_
  have hml : (ps.map V.ref).length = R.length := by rw [List.length_map]; exact F.p_.len
  have hn := ht.n
  have hpos := ht.pos
  have hbm : (bs.map V.bl).length = bs.length := List.length_map ..
  have s4 := ht.s
  repeat' ac_rfl
  all_goals (try (conv => whnf))
  rename_i r1 hr1 r2 hr2 r3 hr3 x dx hx hdx hne
  have k3 : Kp [] H (upd (upd (upd H r1 (.lst [])) r2 (.lst [.ref r1])) r3 (.lst [.bl true])) := ((Kp.rfl'.new hr1).new hr2).new hr3
  have hr12 : r1 ≠ r2 := ne_none (show upd H r1 _ r1 = _ from upd_at) hr2
  have hr23 : r2 ≠ r3 := ne_none (show upd _ r2 _ r2 = _ from upd_at) hr3
  have o1 : tabP H (upd (upd (upd H r1 (.lst [])) r2 (.lst [.ref r1])) r3 (.lst [.bl true])) r2 [r1] [[]] :=
    ⟨upd_fr hr3 upd_at, Kp.none (Kp.rfl'.new hr1) hr2, fun z hz => by rw [List.mem_singleton.mp hz]; exact hr1, by simp [hr12.symm], .cons ⟨[], upd_fr hr3 (upd_fr hr2 upd_at), .nil⟩ .nil⟩
  have o3 : upd (upd (upd H r1 (.lst [])) r2 (.lst [.ref r1])) r3 (.lst [.bl true]) r3 = some (bls [true]) := upd_at
  generalize upd (upd (upd H r1 (.lst [])) r2 (.lst [.ref r1])) r3 (.lst [.bl true]) = H3 at *
  have k5 : Kp [] H3 (upd (upd H3 dx (.own x)) x (.ins (He.ga K "Machine") dx [])) := (Kp.rfl'.new hdx).own hx
  have F5 := F.kp hb (k3.trans k5).nil
  have b5 := (k3.trans k5).get0 hb
  refine i_Machine_init upd_at F5.A_ (o1.kp0 k5) (k5.get0 o3) (by decide) ⟨by decide, fun r hr => by rw [List.mem_singleton.mp hr]; exact ⟨by decide, fun _ z => nomatch z⟩⟩ ?_
  refine ⟨?_⟩
  show ∀ mp mps mg H', _
  intro mp' mps' mg' H6 hT6 hmg6 hmg6' k6 hM6
  have kx : ∀ {z : Addr} {o : HO}, H z = some o → z ≠ x := fun hz => ne_none (k3.get0 hz) hx
  have kk6 : Kp [] H H6 := (k3.trans k5).fr k6 fun z hz => by rw [List.mem_singleton.mp hz]; exact Kp.none k3 hx
  have F6 := F.kp hb kk6.nil
  have b6 := kk6.get0 hb
  have hA6 := F6.A_
  repeat' ac_rfl
  all_goals (try (conv => whnf))
  rename_i r7 hr7 r8 hr8 r9 hr9
  have k9 : Kp [] H6 (upd (upd (upd H6 r7 (.lst [])) r8 (.lst [.ref r7])) r9 (.lst [.bl true])) := ((Kp.rfl'.new hr7).new hr8).new hr9
  have hr78 : r7 ≠ r8 := ne_none (show upd H6 r7 _ r7 = _ from upd_at) hr8
  have o7 : tabP H6 (upd (upd (upd H6 r7 (.lst [])) r8 (.lst [.ref r7])) r9 (.lst [.bl true])) r8 [r7] [[]] :=
    ⟨upd_fr hr9 upd_at, Kp.none (Kp.rfl'.new hr7) hr8, fun z hz => by rw [List.mem_singleton.mp hz]; exact hr7, by simp [hr78.symm], .cons ⟨[], upd_fr hr9 (upd_fr hr8 upd_at), .nil⟩ .nil⟩
  have F9 := F6.kp b6 k9.nil
  refine k_kept (bs := [true]) (k9.get0 hM6) F9.A_ o7 (hT6.kp0 k9) upd_at (k9.get0 hmg6') rfl ⟨by decide, fun r hr => by rw [List.mem_singleton.mp hr]; exact ⟨by decide, fun _ z => nomatch z⟩⟩ hl hv ?_
  repeat' ac_rfl
  all_goals (try (conv => whnf))
  refine k_kept F9.M_ F9.A_ F9.p_ F9.mp_ F9.g_ F9.mg_ hbl (s4.s (by omega)) hl hv ?_
  repeat' ac_rfl
  all_goals (try (conv => whnf))
  exact fin _
theorem seg20 {G4 : Hp} {p4 : Addr} {ps4 : List Addr} {R4 : List (List Arc)} (T0 : Tx K mg0) (F : lawF K b q A dA p gl M dM mp mg G G2 cs l v ps mps R bs H) (hb : H b = some (wl q i n k)) (ht : tabOk (45 :: l) R) (hbl : bs.length = R.length) (hl : srt l = l) (hv : srt v = v)
    (hT4 : tabP G4 H p4 ps4 R4) (h4l : R4.length = R.length) (hs4 : small R4) {v8 v9 v11 v12 v13 v15 v16 : Option V}
    (fin : ∀ H', Q (.bl true) H') : t_law_20 K (WD E) (EndD Q) [some (.ref sc), some (.ref b), some (.str (S l)), some (.str (S v)), some (.ref A), some (.str (S (45 :: l))), some (.ref p), some (.ref gl), v8, v9, some (.ref M), v11, v12, v13, some (.ref p4), v15, v16] H := by
  have T1 := T0
  cases T0
  refine ⟨?_⟩
  have hat := F.p_.at_
  have hg := F.g_
  have hml : (ps.map V.ref).length = R.length := by rw [List.length_map]; exact F.p_.len
  have hn := ht.n
  have hpos := ht.pos
  have hbm : (bs.map V.bl).length = bs.length := List.length_map ..
  have s4 := ht.s
  repeat' ac_rfl
  all_goals (try (conv => whnf))
  rename_i r1 hr1
  have F1 := F.kp hb (Kp.rfl'.new (o := .lst (cut (bs.map V.bl) (some 1) none)) hr1)
  have b1 := upd_fr (o' := .lst (cut (bs.map V.bl) (some 1) none)) hr1 hb
  have e1 : upd H r1 (.lst (cut (bs.map V.bl) (some 1) none)) r1 = some (bls (bs.drop 1)) := by rw [cut_map]; exact upd_at
  refine k_refused F1.A_ (hT4.kp0 (Kp.rfl'.new hr1)) e1 (by rw [List.length_drop]; omega) hs4 (chk_m (.inr (by rw [List.length_drop]; omega))) fun H2 k2 => ?_
  have F2 := F1.kp b1 k2.nil
  have b2 := k2.get0 b1
  have hg2 := F2.g_
  repeat' ac_rfl
  all_goals (try (conv => whnf))
  rename_i r3 hr3 r4 hr4
  have k4 : Kp [] H2 (upd (upd H2 r3 (.lst [.bl false])) r4 (.lst (bs.map V.bl ++ [.bl false]))) := (Kp.rfl'.new hr3).new hr4
  have F4 := F2.kp b2 k4.nil
  have b4 := k4.get0 b2
  have e4 : upd (upd H2 r3 (.lst [.bl false])) r4 (.lst (bs.map V.bl ++ [.bl false])) r4 = some (bls (bs ++ [false])) := upd_at.trans (by unfold bls; rw [List.map_append]; rfl)
  refine k_refused F4.A_ F4.p_ e4 (by rw [List.length_append]; simp only [List.length_cons, List.length_nil]; omega) (s4.s (by omega)) (chk_m (.inr (by rw [List.length_append]; simp only [List.length_cons, List.length_nil]; omega))) fun H5 k5 => ?_
  have F5 := F4.kp b4 k5.nil
  have b5 := k5.get0 b4
  repeat' ac_rfl
  all_goals (try (conv => whnf))
  rename_i r6 hr6 r7 hr7
  have k7 : Kp [] H5 (upd (upd H5 r6 (.lst [])) r7 (.lst [])) := (Kp.rfl'.new hr6).new hr7
  have F7 := F5.kp b5 k7.nil
  have b7 := k7.get0 b5
  refine k_refused (bs := []) F7.A_ ((empty_tab hr6).kp0 (Kp.rfl'.new hr7)) upd_at (by decide) ⟨by decide, fun _ z => nomatch z⟩ (chk_m (.inl rfl)) fun H8 k8 => ?_
  have F8 := F7.kp b7 k8.nil
  have b8 := k8.get0 b7
  repeat' ac_rfl
  all_goals (try (conv => whnf))
  rename_i r9 hr9 r10 hr10
  have k10 : Kp [] H8 (upd (upd H8 r9 (.lst [])) r10 (.lst [.bl true])) := (Kp.rfl'.new hr9).new hr10
  have F10 := F8.kp b8 k10.nil
  have b10 := k10.get0 b8
  refine k_refused (bs := [true]) F10.A_ ((empty_tab hr9).kp0 (Kp.rfl'.new hr10)) upd_at (by decide) ⟨by decide, fun _ z => nomatch z⟩ (chk_m (.inl rfl)) fun H11 k11 => ?_
  have F11 := F10.kp b10 k11.nil
  have b11 := k11.get0 b10
  repeat' ac_rfl
  all_goals (try (conv => whnf))
  refine n_refused F11.A_ F11.p_ F11.g_ (by omega) (s4.s (by omega)) (by rw [hl, chk_e (fun e => by rw [e] at hpos; cases hpos) hbl.symm]; exact fbad_no (tab_all ht)) fun H12 k12 => ?_
  have F12 := F11.kp b11 k12.nil
  have b12 := k12.get0 b11
  repeat' ac_rfl
  all_goals (try (conv => whnf))
  exact seg23 T1 F12 b12 ht hbl hl hv fin
/-- from 14 on -/
theorem seg14 (T0 : Tx K mg0) (F : lawF K b q A dA p gl M dM mp mg G G2 cs l v ps mps R bs H) (hb : H b = some (wl q i n k)) (hk : 0 ≤ k ∧ k < 2000) (hc : cs.length < 1000) (ht : tabOk (45 :: l) R) (hbl : bs.length = R.length) (hl : srt l = l) (hv : srt v = v) (haz : ∀ c ∈ l, c ∈ AZ) (hln : l.length ≤ 4) {v8 v9 v11 v12 v13 v14 v15 v16 : Option V}
    (fin : ∀ H', Q (.bl true) H') : t_law_14 K (WD E) (EndD Q) [some (.ref sc), some (.ref b), some (.str (S l)), some (.str (S v)), some (.ref A), some (.str (S (45 :: l))), some (.ref p), some (.ref gl), v8, v9, some (.ref M), v11, v12, v13, v14, v15, v16] H := by
  have T1 := T0
  cases T0
  refine ⟨?_⟩
  have hat := F.p_.at_
  have hq := F.q_
  have hml : (ps.map V.ref).length = R.length := by rw [List.length_map]; exact F.p_.len
  have hn := ht.n
  have hpos := ht.pos
  have hAZ2 : ∀ c ∈ 45 :: l, c = 45 ∨ c ∈ AZ := fun c hc => by
    rcases List.mem_cons.mp hc with e | hc
    · exact .inl e
    · exact .inr (haz c hc)
  have hqb := F.qb
  repeat' ac_rfl
  all_goals (try (conv => whnf))
  rename_i r1 i1 n1 H1 r10 r11 k1 b1 r2 i2 n2 H2 r20 r21 k2 b2
  obtain ⟨j1, rfl⟩ := Int.eq_ofNat_of_zero_le r10
  obtain ⟨j2, e2⟩ : ∃ j2 : Nat, (j1 : Int) + r2 = j2 := Int.eq_ofNat_of_zero_le (by omega)
  rw [e2]
  have hj1 : j1 < R.length := by omega
  have hj2 : j2 < R.length := by omega
  have hj12 : j1 ≤ j2 := by omega
  have F1 := F.kp hb k1
  have F2 := F1.kp b1 k2
  have s4 := ht.s
  refine i_l_wrong b2 F2.q_ hc (by omega) hAZ2 hln (by omega) fun w1 a1 i3 n3 k3 H3 bad1 asc1 hw1 hw1' kk3 k30 k31 b3 => ?_
  have F3 := F2.kp b2 kk3
  refine i_l_put b3 F3.q_ hc (by omega) F3.p_ (s4.s (by omega)) hj1 hw1' fun p4 ps4 row4 z4 i4 n4 k4 H4 hrow4 hT4 kk4 k40 k41 b4 => ?_
  have F4 := F3.kp b3 kk4
  have s5 := s4.set (z := z4) hrow4 asc1
  have R4l : (R.set j1 (row4.take z4 ++ [a1] ++ row4.drop z4)).length = R.length := List.length_set
  repeat' ac_rfl
  all_goals (try (conv => whnf))
  refine i_l_wrong b4 F4.q_ hc (by omega) hAZ2 hln (by omega) fun w5 a5 i5 n5 k5 H5 bad5 asc5 hw5 hw5' kk5 k50 k51 b5 => ?_
  have F5 := F4.kp b4 kk5
  have G3b : H3 b ≠ none := by rw [b3]; exact fun z => nomatch z
  have G5b : H5 b ≠ none := by rw [b5]; exact fun z => nomatch z
  have hT5 := hT4.kpo kk5 fun f hf => by rw [List.mem_singleton.mp hf]; exact ⟨⟨_, b4⟩, G3b⟩
  refine i_l_put b5 F5.q_ hc (by omega) hT5 (s5.s (by omega)) (by omega) hw5' fun p6 ps6 row6 z6 i6 n6 k6 H6 hrow6 hT6 kk6 k60 k61 b6 => ?_
  have F6 := F5.kp b5 kk6
  have hT46 := hT5.kpo kk6 fun f hf => by rw [List.mem_singleton.mp hf]; exact ⟨⟨_, b5⟩, G3b⟩
  have s7 := s5.set (z := z6) hrow6 asc5
  have hgood := tab_all ht
  have hml5 : (ps.map V.ref).length = R.length := hml
  rw [hml5] at bad1 bad5
  have c4 : chk (45 :: srt l) (R.set j1 (row4.take z4 ++ [a1] ++ row4.drop z4)) bs.length = some (j1 : Int) := by
    rw [hl]
    refine chk_bad (row := row4.take z4 ++ [a1] ++ row4.drop z4) (a := a1) (by omega) ?_ ?_ (mid_in (.inr rfl)) (by rw [R4l]; exact bad1)
    · rw [List.getElem?_set_self hj1]
    · rw [take_set_same, R4l]; exact fun r hr => hgood r (List.mem_of_mem_take hr)
  have c6 : chk (45 :: srt l) ((R.set j1 (row4.take z4 ++ [a1] ++ row4.drop z4)).set j2 (row6.take z6 ++ [a5] ++ row6.drop z6)) bs.length = some (j1 : Int) := by
    rw [hl]
    have R6l : ((R.set j1 (row4.take z4 ++ [a1] ++ row4.drop z4)).set j2 (row6.take z6 ++ [a5] ++ row6.drop z6)).length = R.length := by rw [List.length_set, R4l]
    have ht6 : ∀ r ∈ ((R.set j1 (row4.take z4 ++ [a1] ++ row4.drop z4)).set j2 (row6.take z6 ++ [a5] ++ row6.drop z6)).take j1, r.all (okA (45 :: l) R.length) = true := fun r hr => by
      rw [List.take_set, List.set_eq_of_length_le (by rw [List.length_take]; omega), take_set_same] at hr
      exact hgood r (List.mem_of_mem_take hr)
    by_cases e : j2 = j1
    · subst e
      rw [List.getElem?_set_self hj1] at hrow6
      refine chk_bad (row := row6.take z6 ++ [a5] ++ row6.drop z6) (a := a1) (by omega) ?_ (by rw [R6l]; exact ht6) (mid_in (.inl ?_)) (by rw [R6l]; exact bad1)
      · rw [List.getElem?_set_self (by omega)]
      · rw [← Option.some.inj hrow6]; exact mid_in (.inr rfl)
    · refine chk_bad (row := row4.take z4 ++ [a1] ++ row4.drop z4) (a := a1) (by omega) ?_ (by rw [R6l]; exact ht6) (mid_in (.inr rfl)) (by rw [R6l]; exact bad1)
      rw [List.getElem?_set_ne e, List.getElem?_set_self hj1]
  repeat' ac_rfl
  all_goals (try (conv => whnf))
  refine k_refused F6.A_ hT46 F6.g_ (by omega) (s5.s (by omega)) c4 fun H7 kk7 => ?_
  have F7 := F6.kp b6 kk7.nil
  have b7 := kk7.get0 b6
  repeat' ac_rfl
  all_goals (try (conv => whnf))
  refine k_refused F7.A_ (hT6.kp0 kk7) F7.g_ (by omega) (s7.s (by omega)) c6 fun H8 kk8 => ?_
  have F8 := F7.kp b7 kk8.nil
  have b8 := kk8.get0 b7
  repeat' ac_rfl
  all_goals (try (conv => whnf))
  exact seg20 T1 F8 b8 ht hbl hl hv ((hT46.kp0 kk7).kp0 kk8) R4l (s5.s (by omega)) fin
end

theorem rd_law {K : PySem.W.Frag} {mg : Str → Option Value} (T : Tx K mg) : ∀ vs H Q E, sp_law K vs H Q E → t_law K (WD E) (EndD Q) (start ["_law_script", "_law_well_here", "_law_letters_here", "_law_vowels", "_law_alphabet", "_law_signs", "_law_arcs", "_law_goods", "_law_handed", "_law_handed_goods", "_law_machine", "_law_places", "_law_place", "_law_later", "_law_bent", "_law_twice", "_law_other"] vs) H := by
  intro vs H Q E h
  replace h := h.out
  obtain ⟨p, ob, ns, rfl, hp, h1, q⟩ := h
  have T0 := T
  cases T
  repeat' ac_rfl
  all_goals (try (conv => whnf))
  · rename_i w0 q0 cs H1 k1 hw hqn hwb hqc hc r l v i2 n2 k2 H2 hgo hls hvs kk2 k20 k21 b2 hrn hr
    have h4 := badL_inv hgo.1
    exact sd_i (by show l.length ≤ 1000000; omega)
  rename_i b q0 cs H1 k1 hw hqn hwb hqc hc r l v i2 n2 k2 H2 hgo hls hvs kk2 k20 k21 b2 hrn hr A dA hA hdA hAne
  have hqw := wlq hwb hqc
  have hq2 := kk2.get1 hqc hqw
  have hl := srt_id hls
  have hv := srt_id hvs
  have hv4 := good_v hgo
  obtain ⟨a1, a2, a3, a4⟩ := badL_inv hgo.1
  have hgr : good l.reverse v := good_perm hgo (List.reverse_perm l) (List.Perm.refl v)
  refine g_Alphabet_init upd_at (by show l.reverse.length < 64; rw [List.length_reverse]; omega) (by omega) hgr.1 hgr.2 fun H3 kA3 hA3 => ?_
  replace hA3 : H3 A = some (.ins (He.ga K "Alphabet") dA (alf l.reverse v)) := hA3
  rw [alf_rev] at hA3
  have k3 : Kp [] H2 H3 := Kp.made hA hdA kA3
  have b3 := k3.get0 b2
  have hq3 := k3.get0 hq2
  repeat' ac_rfl
  all_goals (try (conv => whnf))
  have hg45 : ∀ c ∈ 45 :: l, c < 128 := fun c hc => by
    rcases List.mem_cons.mp hc with e | hc
    · omega
    · have := a4 c hc
      simp only [AZ, List.mem_cons, List.not_mem_nil, or_false] at this
      omega
  refine i_l_table (g := 45 :: l) b3 hq3 hc (by omega) hg45 (by simp; omega) fun r4 p4 gl ps R bs i4 n4 k4 H4 ht hT4 hgn hg4 hbl hrn4 hr4 kk4 k40 k41 b4 => ?_
  have hq4 := kk4.get1 hq3 hqw
  have hA4 := kk4.get1 hA3 (fun e => by rw [e, b3] at hA3; cases hA3)
  have hn := ht.n
  have hpos := ht.pos
  have s4 := ht.s
  have hbm : (bs.map V.bl).length = bs.length := List.length_map ..
  repeat' ac_rfl
  all_goals (try (conv => whnf))
  refine i_l_copy hT4 (by omega) fun p5 ps5 H5 hT5 k5 => ?_
  have hg5 := k5.get0 hg4
  repeat' ac_rfl
  all_goals (try (conv => whnf))
  rename_i r6 hr6 M dM hM hdM hMne
  have e6 : upd H5 r6 (.lst (bs.map V.bl)) r6 = some (bls bs) := upd_at
  have k6 : Kp [] H5 (upd H5 r6 (.lst (bs.map V.bl))) := Kp.rfl'.new hr6
  generalize upd H5 r6 (.lst (bs.map V.bl)) = H6 at *
  have kM : Kp [] H6 (upd (upd H6 dM (.own M)) M (.ins (He.ga K "Machine") dM [])) := (Kp.rfl'.own hdM).own hM
  refine i_Machine_init upd_at (kM.get0 (k6.get0 (k5.get0 hA4))) ((hT5.kp0 k6).kp0 kM) (kM.get0 e6) (by omega) (s4.s (by omega)) ?_
  have hck : chk (45 :: srt l) R bs.length = none := by
    rw [hl, chk_e (fun e => by rw [e] at hpos; cases hpos) hbl.symm]; exact fbad_no (tab_all ht)
  rw [hck]
  refine ⟨?_⟩
  show ∀ mp mps mg H', _
  intro mp mps mg H7 hT7 hmgn hmg7 k7 hM7
  have K67 : Kp [] H6 H7 := kM.fr k7 fun z hz => by rw [List.mem_singleton.mp hz]; exact hM
  have K47 : Kp [] H4 H7 := (k5.trans k6).trans K67
  have hT57 := (hT5.kp0 k6).kp0 K67
  have hT47 := hT4.kp0 K47
  have e7 := K67.get0 e6
  have hg7 := K47.get0 hg4
  have hA7 := K47.get0 hA4
  have b7 := K47.get0 b4
  have hq7 := K47.get0 hq4
  have hpl5 := hT5.len
  have h05 : 0 < ps5.length := by omega
  obtain ⟨xs0, x0, x0p⟩ := pget h05 hpos hT57.rows
  have x0l := plen x0p
  have hr9 := (ht.r _ (List.getElem_mem hpos)).1
  have hat5 := hT57.at_
  have hm5 : (ps5.map V.ref).length = R.length := by rw [List.length_map]; exact hpl5
  have np5 : p5 ≠ ps5[0] := fun e => (List.nodup_cons.mp hT5.nd).1 (by rw [e]; exact List.getElem_mem _)
  have nr6 : r6 ≠ p5 := ne_none' hT5.at_ hr6
  obtain ⟨xs5, x5, _⟩ := pget h05 hpos hT5.rows
  have nr6' : r6 ≠ ps5[0] := ne_none' x5 hr6
  have h4p5 : H4 p5 = none := hT5.fr
  have h4p0 : H4 ps5[0] = none := hT5.frs _ (List.getElem_mem _)
  have h4r6 : H4 r6 = none := Kp.none k5 hr6
  refine And.intro rfl ?_
  repeat' ac_rfl
  all_goals (try (conv => whnf))
  refine eq_tab hT57 hT47 (s4.s (by omega)) ?_
  repeat' ac_rfl
  all_goals (try (conv => whnf))
  refine eq_bls e7 hg7 ?_
  repeat' ac_rfl
  all_goals (try (conv => whnf))
  refine k_kept hM7 hA7 hT47 hT7 hg7 hmg7 hbl (s4.s (by omega)) hl hv ?_
  repeat' ac_rfl
  all_goals (try (conv => whnf))
  rename_i j8 hj8 ej8
  obtain rfl : j8 = 0 := by omega
  have ev : ∀ h, (ps5.map V.ref)[0]'h = .ref ps5[0] := fun h => List.getElem_map ..
  rw [ev]
  repeat' ac_rfl
  all_goals (try (conv => whnf))
  rename_i j1 hj1 ej1 t ht7 t2 ht2 j3 hj3 ej3
  have hbm0 : ∀ h, (bs.map V.bl)[j3]'h = .bl (bs[j3]'(by rw [List.length_map] at h; exact h)) := fun h => List.getElem_map ..
  rw [hbm0]
  repeat' ac_rfl
  all_goals (try (conv => whnf))
  rename_i j4 hj4 ej4
  have k8 : Kp [ps5[0], p5, r6] H7 (upd (upd (upd (upd (upd (upd H7 t (HO.tup [V.str (S [45]), V.str (S [(tl (S (tl (S [45]) ++ tl (S l))))[j1]]), V.int 0])) ps5[0] (HO.lst (xs0 ++ [V.ref t]))) t2 (HO.lst [])) p5 (HO.lst (List.map V.ref ps5 ++ [V.ref t2]))) r6 (HO.lst ((List.map V.bl bs).set j4 (V.bl !bs[j3])))) r6 (HO.lst ((List.map V.bl bs).set j4 (V.bl !bs[j3]) ++ [V.bl true]))) :=
    ((((((Kp.rfl'.new ht7).at (by simp)).new ht2).at (by simp)).at (by simp)).at (by simp))
  generalize (upd (upd (upd (upd (upd (upd H7 t (HO.tup [V.str (S [45]), V.str (S [(tl (S (tl (S [45]) ++ tl (S l))))[j1]]), V.int 0])) ps5[0] (HO.lst (xs0 ++ [V.ref t]))) t2 (HO.lst [])) p5 (HO.lst (List.map V.ref ps5 ++ [V.ref t2]))) r6 (HO.lst ((List.map V.bl bs).set j4 (V.bl !bs[j3])))) r6 (HO.lst ((List.map V.bl bs).set j4 (V.bl !bs[j3]) ++ [V.bl true]))) = H8 at *
  have K48 : Kp [] H4 H8 := K47.fr k8 fun z hz => by
    simp only [List.mem_cons, List.not_mem_nil, or_false] at hz
    rcases hz with rfl | rfl | rfl <;> assumption
  have hin : ∀ f ∈ [ps5[0], p5, r6], (∃ xs, H7 f = some (.lst xs)) ∧ upd (upd H6 dM (.own M)) M (.ins (He.ga K "Machine") dM []) f ≠ none := fun f hf => by
    simp only [List.mem_cons, List.not_mem_nil, or_false] at hf
    rcases hf with rfl | rfl | rfl
    · exact ⟨⟨_, x0⟩, fun z => by rw [kM.get0 (k6.get0 x5)] at z; cases z⟩
    · exact ⟨⟨_, hat5⟩, fun z => by rw [kM.get0 (k6.get0 hT5.at_)] at z; cases z⟩
    · exact ⟨⟨_, e7⟩, fun z => by rw [kM.get0 e6] at z; cases z⟩
  have hM8 : H8 M = some (macO K dM A mp mg) := k8 M _ hM7 fun z => by
    obtain ⟨⟨xs, e⟩, _⟩ := hin M z
    rw [hM7] at e; cases e
  have hmg8 : H8 mg = some (bls bs) := k8 mg _ hmg7 fun z => (hin mg z).2 hmgn
  have hb6 : H6 b ≠ none := fun z => by rw [k6.get0 (k5.get0 b4)] at z; cases z
  have F : lawF K b q0 A dA p4 gl M dM mp mg H3 (upd (upd H6 dM (.own M)) M (.ins (He.ga K "Machine") dM [])) cs l v ps mps R bs H8 :=
    ⟨K48.get0 hq4, hqw, K48.get0 hA4, hT4.kp0 K48, (fun z => by rw [b3] at z; cases z), K48.get0 hg4, ne_none' b3 hgn, hM8, hT7.kpo k8 hin, (fun z => by rw [kM.get0 (k6.get0 (k5.get0 b4))] at z; cases z), hmg8, ne_none' (kM.get0 (k6.get0 (k5.get0 b4))) hmgn⟩
  refine k_kept hM8 F.A_ F.p_ F.mp_ F.g_ hmg8 hbl (s4.s (by omega)) hl hv ?_
  repeat' ac_rfl
  all_goals (try (conv => whnf))
  exact seg14 T0 F (K48.get0 b4) (by omega) hc ht hbl hl hv a4 (by omega) q

theorem law_in {K : PySem.W.Frag} {H : Hp} {a : Addr} {oj : Obj} {ns : List Int} {E : XK} (h : H a = some (.frz oj (.lst (ns.map V.int)))) (hl : ns.length ≤ 63) : sp_law K [.ref a] H (fun v _ => v = .bl true) E := by
  exact ⟨⟨a, oj, ns, rfl, h, by omega, fun _ => rfl⟩⟩

end Lw

set_option Elab.async false
set_option linter.all false
set_option maxRecDepth 100000
set_option maxHeartbeats 4000000
namespace Lw
open PySem PySem.Spec PyProof.Rows L2 Ta
abbrev PP : Program := PySem.Challenge.rw_talepost_k08_machine_tables.prog
abbrev R : PySem.W.OpenRow := PySem.W.OpenLaw.row PySem.Challenge.rw_talepost_k08_machine_tables
def fa : List BF := [bFree "ValueError", bFree "abs", bFree "bool", bFree "int", bFree "isinstance", bFree "len", bFree "list", bFree "range", bFree "set", bFree "sorted", bFree "tuple", bGlo "BadTable", bGlo "BadText", bGlo "Mixed", bVal "SMALL" (.str (S [97, 98, 99, 100, 101, 102, 103, 104, 105, 106, 107, 108, 109, 110, 111, 112, 113, 114, 115, 116, 117, 118, 119, 120, 121, 122])), bGlo "TaleError", bCC "Alphabet" "JOINT" (.str (S [45])), bCC "Alphabet" "MOST" (.int 4), bCls "Alphabet", bCls "Machine", bIsc "Alphabet", bNo "Alphabet" "letters", bNo "Alphabet" "vowels", bNo "Alphabet" "consonants", bNo "Alphabet" "signs", bIsc "Machine", bNo "Machine" "alphabet", bNo "Machine" "arcs", bNo "Machine" "goods", bXc "BadTable", bNo "BadTable" "place", bExm "BadTable" "TaleError" true, bKit "BadTable" "BadTable" true, bKit "BadTable" "BadText" false, bKit "BadTable" "Mixed" false, bKit "BadTable" "TaleError" true, bKitT "BadTable" "ValueError" true, bNo "BadAlphabet" "part", bOex "BadAlphabet", bSup "BadAlphabet" "BadAlphabet", bFree "super", bGlo "BadAlphabet", bOex "BadTable", bSup "BadTable" "BadTable", bGlo "is_label", bGlo "check_arcs", bMk "Machine", bGlo "Machine", bMe "Machine" "__len__", bGlo "_law_kept", bGlo "_law_copy", bGlo "_law_refused", bGlo "_law_take", bGlo "_law_put", bGlo "_law_strange", bGlo "_law_wrong", bGlo "_law_well", bGlo "_law_letters", bGlo "all_different", bMk "Alphabet", bGlo "Alphabet", bGlo "_law_table", bNoL, bGlo "law"]
def dd_is_label : XD := ⟨fun K => (He.fAd K ("is_label", none)), "is_label", "is_label", defArgs s_is_label, defBody s_is_label, defScope s_is_label, [], []⟩
def dd_check_arcs : XD := ⟨fun K => (He.fAd K ("check_arcs", none)), "check_arcs", "check_arcs", defArgs s_check_arcs, defBody s_check_arcs, defScope s_check_arcs, [], []⟩
def dd_Machine_init : XD := ⟨fun K => (He.fAd K ("Machine", some "__init__")), "__init__", "Machine.__init__", defArgs s_Machine_init, defBody s_Machine_init, defScope s_Machine_init, [], []⟩
def dd_Machine_len : XD := ⟨fun K => (He.fAd K ("Machine", some "__len__")), "__len__", "Machine.__len__", defArgs s_Machine_len, defBody s_Machine_len, defScope s_Machine_len, [], []⟩
def dd_l_kept : XD := ⟨fun K => (He.fAd K ("_law_kept", none)), "_law_kept", "_law_kept", defArgs s_l_kept, defBody s_l_kept, defScope s_l_kept, [], []⟩
def dd_l_copy : XD := ⟨fun K => (He.fAd K ("_law_copy", none)), "_law_copy", "_law_copy", defArgs s_l_copy, defBody s_l_copy, defScope s_l_copy, [], []⟩
def dd_l_refused : XD := ⟨fun K => (He.fAd K ("_law_refused", none)), "_law_refused", "_law_refused", defArgs s_l_refused, defBody s_l_refused, defScope s_l_refused, [], []⟩
def dd_l_take : XD := ⟨fun K => (He.fAd K ("_law_take", none)), "_law_take", "_law_take", defArgs s_l_take, defBody s_l_take, defScope s_l_take, [], []⟩
def dd_l_put : XD := ⟨fun K => (He.fAd K ("_law_put", none)), "_law_put", "_law_put", defArgs s_l_put, defBody s_l_put, defScope s_l_put, [], []⟩
def dd_l_strange : XD := ⟨fun K => (He.fAd K ("_law_strange", none)), "_law_strange", "_law_strange", defArgs s_l_strange, defBody s_l_strange, defScope s_l_strange, [], []⟩
def dd_l_wrong : XD := ⟨fun K => (He.fAd K ("_law_wrong", none)), "_law_wrong", "_law_wrong", defArgs s_l_wrong, defBody s_l_wrong, defScope s_l_wrong, [], []⟩
def dd_l_well : XD := ⟨fun K => (He.fAd K ("_law_well", none)), "_law_well", "_law_well", defArgs s_l_well, defBody s_l_well, defScope s_l_well, [], []⟩
def dd_l_letters : XD := ⟨fun K => (He.fAd K ("_law_letters", none)), "_law_letters", "_law_letters", defArgs s_l_letters, defBody s_l_letters, defScope s_l_letters, [], []⟩
def dd_all_different : XD := ⟨fun K => (He.fAd K ("all_different", none)), "all_different", "all_different", defArgs s_all_different, defBody s_all_different, defScope s_all_different, [], []⟩
def dd_Alphabet_init : XD := ⟨fun K => (He.fAd K ("Alphabet", some "__init__")), "__init__", "Alphabet.__init__", defArgs s_Alphabet_init, defBody s_Alphabet_init, defScope s_Alphabet_init, [.str (S [])], []⟩
def dd_l_table : XD := ⟨fun K => (He.fAd K ("_law_table", none)), "_law_table", "_law_table", defArgs s_l_table, defBody s_l_table, defScope s_l_table, [], []⟩
def dd_law : XD := ⟨fun K => (He.fAd K ("law", none)), "law", "law", defArgs s_law, defBody s_law, defScope s_law, [], []⟩
def sd_BadAlphabet : SupD := ⟨"BadAlphabet", "__init__", "BadAlphabet.__init__", defArgs (inClass (top 4) 0), defBody (inClass (top 4) 0), defScope (inClass (top 4) 0)⟩
def sd_BadTable : SupD := ⟨"BadTable", "__init__", "BadTable.__init__", defArgs (inClass (top 6) 0), defBody (inClass (top 6) 0), defScope (inClass (top 6) 0)⟩
def fn : List XD := [dd_is_label, dd_check_arcs, dd_Machine_init, dd_Machine_len, dd_l_kept, dd_l_copy, dd_l_refused, dd_l_take, dd_l_put, dd_l_strange, dd_l_wrong, dd_l_well, dd_l_letters, dd_all_different, dd_Alphabet_init, dd_l_table, dd_law]
def sn : List SupD := [sd_BadAlphabet, sd_BadTable]
def loose : List Str := (["_wall", "TaleError", "Mixed", "BadAlphabet", "BadText", "BadTable", "SMALL", "all_different", "Alphabet", "check_alphabets", "marked", "turned", "useful", "trimmed", "is_label", "check_arcs"] : List Str) ++ (["product_steps", "product_table", "shifted", "union_table", "inverse_table", "walk_found", "Machine", "_law_well", "_law_take", "_law_letters", "_law_strange", "_law_copy", "_law_table", "_law_wrong", "_law_put", "_law_kept"] : List Str) ++ (["_law_refused"] : List Str)
abbrev hk : PySem.W.Hook := hookX 5 PP.main.file fa fn sn
def ob (s : PySem.W.SharedT) : AlX := obsXG 5 PP.main.file fa fn sn (HandSHeadRun.getT s)
theorem ob_eq (s : PySem.W.SharedT) : ob s = hk.obs s.abs := obsXG_eq (HandSHeadRun.getT_eq s)
theorem run (w : World) : HandSHeadRun.RunEq R (PySem.W.view R.prog [38]) hk ob 12000 loose w := by
  intro os
  kernel_rfl
theorem ex_BadAlphabet {w : World} {K : PySem.W.Frag} {mg : Str → Option Value} {base h : Heap} (X : K.In h) (G : h.Ns mainGlobals mg) (c : SaysX PP.main.file fa fn sn K) : Ex PP w K mg base "BadAlphabet" (He.ga K "BadAlphabet") ["part"] := by
  obtain ⟨F, fd, e1, e2, e3, e4, e5, SF⟩ := c.sup (P := PP) 0 (by decide +kernel) (d := sd_BadAlphabet) rfl
  obtain ⟨n1, n2, n3, n4, n5, n6, n7⟩ := F
  dsimp only at e1 e2 e3 e4 e5
  subst e1 e2 e3 e4 e5
  have S := sup_of (c.fact 38) (c.fact 39)
  refine ⟨⟨_, fd, ["self", "part"], ok_exc1 (hbd := by rfl) SF S.1 (show NdefX.NScope ["self", "part", "__class__"] ["self", "part"] ["__class__"] sd_BadAlphabet.scope from NdefX.nscope_by (by decide +kernel)) (free_of X G (c.fact 40)) (by rfl) (show sd_BadAlphabet.scope.names.lookup ("super" : Str) = some .globalImplicit by decide +kernel) (no_of' (c.fact 37)) (by decide +kernel) (by decide +kernel) (fun env => ⟨_, rfl⟩), S.2.1, S.2.2, ?_, glo_of X G (c.fact 41)⟩, oex_of (c.fact 38)⟩
  obtain ⟨cc, oc, od, an, dV, kV, doc, pm, ct, osl, hcl, rfl, lk, hD, _⟩ := SF.ex
  rcases hD with ⟨_, rfl⟩ | ⟨e, _⟩
  · exact .all fun us hl => match us, hl with | [_, _], _ => rfl
  · exact absurd rfl e
theorem ex_BadTable {w : World} {K : PySem.W.Frag} {mg : Str → Option Value} {base h : Heap} (X : K.In h) (G : h.Ns mainGlobals mg) (c : SaysX PP.main.file fa fn sn K) : Ex PP w K mg base "BadTable" (He.ga K "BadTable") ["place"] := by
  obtain ⟨F, fd, e1, e2, e3, e4, e5, SF⟩ := c.sup (P := PP) 1 (by decide +kernel) (d := sd_BadTable) rfl
  obtain ⟨n1, n2, n3, n4, n5, n6, n7⟩ := F
  dsimp only at e1 e2 e3 e4 e5
  subst e1 e2 e3 e4 e5
  have S := sup_of (c.fact 42) (c.fact 43)
  refine ⟨⟨_, fd, ["self", "place"], ok_exc1 (hbd := by rfl) SF S.1 (show NdefX.NScope ["self", "place", "__class__"] ["self", "place"] ["__class__"] sd_BadTable.scope from NdefX.nscope_by (by decide +kernel)) (free_of X G (c.fact 40)) (by rfl) (show sd_BadTable.scope.names.lookup ("super" : Str) = some .globalImplicit by decide +kernel) (no_of' (c.fact 30)) (by decide +kernel) (by decide +kernel) (fun env => ⟨_, rfl⟩), S.2.1, S.2.2, ?_, glo_of X G (c.fact 11)⟩, oex_of (c.fact 42)⟩
  obtain ⟨cc, oc, od, an, dV, kV, doc, pm, ct, osl, hcl, rfl, lk, hD, _⟩ := SF.ex
  rcases hD with ⟨_, rfl⟩ | ⟨e, _⟩
  · exact .all fun us hl => match us, hl with | [_, _], _ => rfl
  · exact absurd rfl e
theorem len_is_label {K : PySem.W.Frag} : ∀ vs H Q E, sp_is_label K vs H Q E → vs.length = 2 := by
  intro vs H Q E h
  replace h := h.out
  repeat (obtain ⟨_, h⟩ := h; try subst_vars)
  all_goals rfl
theorem len_check_arcs {K : PySem.W.Frag} : ∀ vs H Q E, sp_check_arcs K vs H Q E → vs.length = 3 := by
  intro vs H Q E h
  replace h := h.out
  repeat (obtain ⟨_, h⟩ := h; try subst_vars)
  all_goals rfl
theorem len_Machine_init {K : PySem.W.Frag} : ∀ vs H Q E, sp_Machine_init K vs H Q E → vs.length = 4 := by
  intro vs H Q E h
  replace h := h.out
  repeat (obtain ⟨_, h⟩ := h; try subst_vars)
  all_goals rfl
theorem len_Machine_len {K : PySem.W.Frag} : ∀ vs H Q E, sp_Machine_len K vs H Q E → vs.length = 1 := by
  intro vs H Q E h
  replace h := h.out
  repeat (obtain ⟨_, h⟩ := h; try subst_vars)
  all_goals rfl
theorem len_l_kept {K : PySem.W.Frag} : ∀ vs H Q E, sp_l_kept K vs H Q E → vs.length = 5 := by
  intro vs H Q E h
  replace h := h.out
  repeat (obtain ⟨_, h⟩ := h; try subst_vars)
  all_goals rfl
theorem len_l_copy {K : PySem.W.Frag} : ∀ vs H Q E, sp_l_copy K vs H Q E → vs.length = 1 := by
  intro vs H Q E h
  replace h := h.out
  repeat (obtain ⟨_, h⟩ := h; try subst_vars)
  all_goals rfl
theorem len_l_refused {K : PySem.W.Frag} : ∀ vs H Q E, sp_l_refused K vs H Q E → vs.length = 3 := by
  intro vs H Q E h
  replace h := h.out
  repeat (obtain ⟨_, h⟩ := h; try subst_vars)
  all_goals rfl
theorem len_l_take {K : PySem.W.Frag} : ∀ vs H Q E, sp_l_take K vs H Q E → vs.length = 2 := by
  intro vs H Q E h
  replace h := h.out
  repeat (obtain ⟨_, h⟩ := h; try subst_vars)
  all_goals rfl
theorem len_l_put {K : PySem.W.Frag} : ∀ vs H Q E, sp_l_put K vs H Q E → vs.length = 4 := by
  intro vs H Q E h
  replace h := h.out
  repeat (obtain ⟨_, h⟩ := h; try subst_vars)
  all_goals rfl
theorem len_l_strange {K : PySem.W.Frag} : ∀ vs H Q E, sp_l_strange K vs H Q E → vs.length = 2 := by
  intro vs H Q E h
  replace h := h.out
  repeat (obtain ⟨_, h⟩ := h; try subst_vars)
  all_goals rfl
theorem len_l_wrong {K : PySem.W.Frag} : ∀ vs H Q E, sp_l_wrong K vs H Q E → vs.length = 3 := by
  intro vs H Q E h
  replace h := h.out
  repeat (obtain ⟨_, h⟩ := h; try subst_vars)
  all_goals rfl
theorem len_l_well {K : PySem.W.Frag} : ∀ vs H Q E, sp_l_well K vs H Q E → vs.length = 1 := by
  intro vs H Q E h
  replace h := h.out
  repeat (obtain ⟨_, h⟩ := h; try subst_vars)
  all_goals rfl
theorem len_l_letters {K : PySem.W.Frag} : ∀ vs H Q E, sp_l_letters K vs H Q E → vs.length = 2 := by
  intro vs H Q E h
  replace h := h.out
  repeat (obtain ⟨_, h⟩ := h; try subst_vars)
  all_goals rfl
theorem len_all_different {K : PySem.W.Frag} : ∀ vs H Q E, sp_all_different K vs H Q E → vs.length = 1 := by
  intro vs H Q E h
  replace h := h.out
  repeat (obtain ⟨_, h⟩ := h; try subst_vars)
  all_goals rfl
theorem len_Alphabet_init {K : PySem.W.Frag} : ∀ vs H Q E, sp_Alphabet_init K vs H Q E → vs.length = 3 := by
  intro vs H Q E h
  replace h := h.out
  repeat (obtain ⟨_, h⟩ := h; try subst_vars)
  all_goals rfl
theorem len_l_table {K : PySem.W.Frag} : ∀ vs H Q E, sp_l_table K vs H Q E → vs.length = 2 := by
  intro vs H Q E h
  replace h := h.out
  repeat (obtain ⟨_, h⟩ := h; try subst_vars)
  all_goals rfl
theorem len_law {K : PySem.W.Frag} : ∀ vs H Q E, sp_law K vs H Q E → vs.length = 1 := by
  intro vs H Q E h
  replace h := h.out
  repeat (obtain ⟨_, h⟩ := h; try subst_vars)
  all_goals rfl
theorem all_ok {w : World} {K : PySem.W.Frag} {mg : Str → Option Value} {h : Heap} (X : K.In h) (G : h.Ns mainGlobals mg) (c : SaysX PP.main.file fa fn sn K) :
    ∃ fd : FuncData, (∀ (s : Shared) (v : Value), BindsTo s fd ⟨[v], []⟩ [("_law_script", v)]) ∧ ∀ base : Heap, K.In base → base.Ns mainGlobals mg → FnOk PP w K mg base (L2.CX PP w) 13 (He.ga K "law") fd ["_law_script"] (sp_law K) := by
  have T : Tx K mg := ⟨free_of X G (c.fact 0), free_of X G (c.fact 1), free_of X G (c.fact 2), free_of X G (c.fact 3), free_of X G (c.fact 4), free_of X G (c.fact 5), free_of X G (c.fact 6), free_of X G (c.fact 7), free_of X G (c.fact 8), free_of X G (c.fact 9), free_of X G (c.fact 10), gv_of X G (c.fact 11), gv_of X G (c.fact 12), gv_of X G (c.fact 13), val_of X G (c.fact 14), gv_of X G (c.fact 15), cc_of X G (c.fact 16), cc_of X G (c.fact 17), cls_of (c.fact 18), cls_of (c.fact 19), isc_of (c.fact 20), no_of (c.fact 21), no_of (c.fact 22), no_of (c.fact 23), no_of (c.fact 24), isc_of (c.fact 25), no_of (c.fact 26), no_of (c.fact 27), no_of (c.fact 28), xc_of (c.fact 29), no_of' (c.fact 30), exm_of (c.fact 31), kit_of (c.fact 32), kit_of (c.fact 33), kit_of (c.fact 34), kit_of (c.fact 35), kitT_of (c.fact 36)⟩
  obtain ⟨fd_is_label, F_is_label⟩ := c.def_ 0 (d := dd_is_label) rfl
  obtain ⟨fd_check_arcs, F_check_arcs⟩ := c.def_ 1 (d := dd_check_arcs) rfl
  obtain ⟨fd_Machine_init, F_Machine_init⟩ := c.def_ 2 (d := dd_Machine_init) rfl
  obtain ⟨fd_Machine_len, F_Machine_len⟩ := c.def_ 3 (d := dd_Machine_len) rfl
  obtain ⟨fd_l_kept, F_l_kept⟩ := c.def_ 4 (d := dd_l_kept) rfl
  obtain ⟨fd_l_copy, F_l_copy⟩ := c.def_ 5 (d := dd_l_copy) rfl
  obtain ⟨fd_l_refused, F_l_refused⟩ := c.def_ 6 (d := dd_l_refused) rfl
  obtain ⟨fd_l_take, F_l_take⟩ := c.def_ 7 (d := dd_l_take) rfl
  obtain ⟨fd_l_put, F_l_put⟩ := c.def_ 8 (d := dd_l_put) rfl
  obtain ⟨fd_l_strange, F_l_strange⟩ := c.def_ 9 (d := dd_l_strange) rfl
  obtain ⟨fd_l_wrong, F_l_wrong⟩ := c.def_ 10 (d := dd_l_wrong) rfl
  obtain ⟨fd_l_well, F_l_well⟩ := c.def_ 11 (d := dd_l_well) rfl
  obtain ⟨fd_l_letters, F_l_letters⟩ := c.def_ 12 (d := dd_l_letters) rfl
  obtain ⟨fd_all_different, F_all_different⟩ := c.def_ 13 (d := dd_all_different) rfl
  obtain ⟨fd_Alphabet_init, F_Alphabet_init⟩ := c.def_ 14 (d := dd_Alphabet_init) rfl
  obtain ⟨fd_l_table, F_l_table⟩ := c.def_ 15 (d := dd_l_table) rfl
  obtain ⟨fd_law, F_law⟩ := c.def_ 16 (d := dd_law) rfl
  refine ⟨fd_law, fun s v => FunD.bindsA (ps := ["_law_script"]) F_law (fun _ _ _ _ _ _ us hl => match us, hl with | [_], _ => rfl) s [v] rfl, fun base _ _ => ?_⟩
  have X_BadAlphabet : Ex PP w K mg base "BadAlphabet" (He.ga K "BadAlphabet") ["part"] := ex_BadAlphabet X G c
  have X_BadTable : Ex PP w K mg base "BadTable" (He.ga K "BadTable") ["place"] := ex_BadTable X G c
  have O_is_label : FnOk PP w K mg base (L2.CX PP w) 5 (He.fAd K ("is_label", none)) fd_is_label ["alphabet", "string"] (sp_is_label K) := def_ok F_is_label sc_is_label len_is_label (t_is_label K) (fun cdv A outer s H E hr => tm_is_label T  hr) (rd_is_label T)
  have B_is_label : ∃ ds, Vals ([] : List V) ds ∧ Binds K fd_is_label ["alphabet", "string"] ds := ⟨[], .nil, F_is_label.bindsN (ps := ["alphabet", "string"]) fun _ _ _ _ _ _ us hl => match us, hl with | [_, _], _ => rfl⟩
  obtain ⟨ds_is_label, v_is_label, b_is_label⟩ := B_is_label
  have G_is_label : Fn PP w K mg base "is_label" 5 [] (sp_is_label K) := ⟨⟨_, fd_is_label, ["alphabet", "string"], ds_is_label, O_is_label, glo_of X G (c.fact 44), F_is_label.kp, v_is_label, b_is_label⟩⟩
  have O_check_arcs : FnOk PP w K mg base (L2.CX PP w) 7 (He.fAd K ("check_arcs", none)) fd_check_arcs ["alphabet", "arcs", "goods"] (sp_check_arcs K) := def_ok F_check_arcs sc_check_arcs len_check_arcs (t_check_arcs K) (fun cdv A outer s H E hr => tm_check_arcs T G_is_label X_BadTable hr) (rd_check_arcs T)
  have B_check_arcs : ∃ ds, Vals ([] : List V) ds ∧ Binds K fd_check_arcs ["alphabet", "arcs", "goods"] ds := ⟨[], .nil, F_check_arcs.bindsN (ps := ["alphabet", "arcs", "goods"]) fun _ _ _ _ _ _ us hl => match us, hl with | [_, _, _], _ => rfl⟩
  obtain ⟨ds_check_arcs, v_check_arcs, b_check_arcs⟩ := B_check_arcs
  have G_check_arcs : Fn PP w K mg base "check_arcs" 7 [] (sp_check_arcs K) := ⟨⟨_, fd_check_arcs, ["alphabet", "arcs", "goods"], ds_check_arcs, O_check_arcs, glo_of X G (c.fact 45), F_check_arcs.kp, v_check_arcs, b_check_arcs⟩⟩
  have O_Machine_init : FnOk PP w K mg base (L2.CX PP w) 9 (He.fAd K ("Machine", some "__init__")) fd_Machine_init ["self", "alphabet", "arcs", "goods"] (sp_Machine_init K) := def_ok F_Machine_init sc_Machine_init len_Machine_init (t_Machine_init K) (fun cdv A outer s H E hr => tm_Machine_init T G_check_arcs hr) (rd_Machine_init T)
  have B_Machine : ∃ ds, Vals ([] : List V) ds ∧ Binds K fd_Machine_init ["self", "alphabet", "arcs", "goods"] ds := ⟨[], .nil, F_Machine_init.bindsN (ps := ["self", "alphabet", "arcs", "goods"]) fun _ _ _ _ _ _ us hl => match us, hl with | [_, _, _, _], _ => rfl⟩
  obtain ⟨ds_Machine, v_Machine, b_Machine⟩ := B_Machine
  have G_Machine : Mks PP w K mg base "Machine" (He.ga K "Machine") 9 [] (sp_Machine_init K) := ⟨⟨_, fd_Machine_init, ["self", "alphabet", "arcs", "goods"], ds_Machine, O_Machine_init, mk_of (c.fact 46), glo_of X G (c.fact 47), v_Machine, b_Machine⟩⟩
  have O_Machine_len : FnOk PP w K mg base (L2.CX PP w) 5 (He.fAd K ("Machine", some "__len__")) fd_Machine_len ["self"] (sp_Machine_len K) := def_ok F_Machine_len sc_Machine_len len_Machine_len (t_Machine_len K) (fun cdv A outer s H E hr => tm_Machine_len T  hr) (rd_Machine_len T)
  have B_Machine___len__ : ∃ ds, Vals ([] : List V) ds ∧ Binds K fd_Machine_len ["self"] ds := ⟨[], .nil, F_Machine_len.bindsN (ps := ["self"]) fun _ _ _ _ _ _ us hl => match us, hl with | [_], _ => rfl⟩
  obtain ⟨ds_Machine___len__, v_Machine___len__, b_Machine___len__⟩ := B_Machine___len__
  have G_Machine___len__ : Me PP w K mg base (He.ga K "Machine") "__len__" 5 [] (sp_Machine_len K) := ⟨⟨_, fd_Machine_len, ["self"], ds_Machine___len__, O_Machine_len, me_of (c.fact 48), v_Machine___len__, b_Machine___len__⟩, cls_of (c.fact 19)⟩
  have O_l_kept : FnOk PP w K mg base (L2.CX PP w) 7 (He.fAd K ("_law_kept", none)) fd_l_kept ["_law_machine", "_law_arcs", "_law_goods", "_law_letters_here", "_law_vowels"] (sp_l_kept K) := def_ok F_l_kept sc_l_kept len_l_kept (t_l_kept K) (fun cdv A outer s H E hr => tm_l_kept T G_Machine___len__ hr) (rd_l_kept T)
  have B_l_kept : ∃ ds, Vals ([] : List V) ds ∧ Binds K fd_l_kept ["_law_machine", "_law_arcs", "_law_goods", "_law_letters_here", "_law_vowels"] ds := ⟨[], .nil, F_l_kept.bindsN (ps := ["_law_machine", "_law_arcs", "_law_goods", "_law_letters_here", "_law_vowels"]) fun _ _ _ _ _ _ us hl => match us, hl with | [_, _, _, _, _], _ => rfl⟩
  obtain ⟨ds_l_kept, v_l_kept, b_l_kept⟩ := B_l_kept
  have G_l_kept : Fn PP w K mg base "_law_kept" 7 [] (sp_l_kept K) := ⟨⟨_, fd_l_kept, ["_law_machine", "_law_arcs", "_law_goods", "_law_letters_here", "_law_vowels"], ds_l_kept, O_l_kept, glo_of X G (c.fact 49), F_l_kept.kp, v_l_kept, b_l_kept⟩⟩
  have O_l_copy : FnOk PP w K mg base (L2.CX PP w) 5 (He.fAd K ("_law_copy", none)) fd_l_copy ["_law_rows"] (sp_l_copy K) := def_ok F_l_copy sc_l_copy len_l_copy (t_l_copy K) (fun cdv A outer s H E hr => tm_l_copy T  hr) (rd_l_copy T)
  have B_l_copy : ∃ ds, Vals ([] : List V) ds ∧ Binds K fd_l_copy ["_law_rows"] ds := ⟨[], .nil, F_l_copy.bindsN (ps := ["_law_rows"]) fun _ _ _ _ _ _ us hl => match us, hl with | [_], _ => rfl⟩
  obtain ⟨ds_l_copy, v_l_copy, b_l_copy⟩ := B_l_copy
  have G_l_copy : Fn PP w K mg base "_law_copy" 5 [] (sp_l_copy K) := ⟨⟨_, fd_l_copy, ["_law_rows"], ds_l_copy, O_l_copy, glo_of X G (c.fact 50), F_l_copy.kp, v_l_copy, b_l_copy⟩⟩
  have O_l_refused : FnOk PP w K mg base (L2.CX PP w) 11 (He.fAd K ("_law_refused", none)) fd_l_refused ["_law_alphabet", "_law_arcs", "_law_goods"] (sp_l_refused K) := def_ok F_l_refused sc_l_refused len_l_refused (t_l_refused K) (fun cdv A outer s H E hr => tm_l_refused T G_Machine G_l_copy hr) (rd_l_refused T)
  have B_l_refused : ∃ ds, Vals ([] : List V) ds ∧ Binds K fd_l_refused ["_law_alphabet", "_law_arcs", "_law_goods"] ds := ⟨[], .nil, F_l_refused.bindsN (ps := ["_law_alphabet", "_law_arcs", "_law_goods"]) fun _ _ _ _ _ _ us hl => match us, hl with | [_, _, _], _ => rfl⟩
  obtain ⟨ds_l_refused, v_l_refused, b_l_refused⟩ := B_l_refused
  have G_l_refused : Fn PP w K mg base "_law_refused" 11 [] (sp_l_refused K) := ⟨⟨_, fd_l_refused, ["_law_alphabet", "_law_arcs", "_law_goods"], ds_l_refused, O_l_refused, glo_of X G (c.fact 51), F_l_refused.kp, v_l_refused, b_l_refused⟩⟩
  have O_l_take : FnOk PP w K mg base (L2.CX PP w) 5 (He.fAd K ("_law_take", none)) fd_l_take ["_law_well_here", "_law_size"] (sp_l_take K) := def_ok F_l_take sc_l_take len_l_take (t_l_take K) (fun cdv A outer s H E hr => tm_l_take T  hr) (rd_l_take T)
  have B_l_take : ∃ ds, Vals ([] : List V) ds ∧ Binds K fd_l_take ["_law_well_here", "_law_size"] ds := ⟨[], .nil, F_l_take.bindsN (ps := ["_law_well_here", "_law_size"]) fun _ _ _ _ _ _ us hl => match us, hl with | [_, _], _ => rfl⟩
  obtain ⟨ds_l_take, v_l_take, b_l_take⟩ := B_l_take
  have G_l_take : Fn PP w K mg base "_law_take" 5 [] (sp_l_take K) := ⟨⟨_, fd_l_take, ["_law_well_here", "_law_size"], ds_l_take, O_l_take, glo_of X G (c.fact 52), F_l_take.kp, v_l_take, b_l_take⟩⟩
  have O_l_put : FnOk PP w K mg base (L2.CX PP w) 7 (He.fAd K ("_law_put", none)) fd_l_put ["_law_well_here", "_law_arcs", "_law_place", "_law_arc"] (sp_l_put K) := def_ok F_l_put sc_l_put len_l_put (t_l_put K) (fun cdv A outer s H E hr => tm_l_put T G_l_copy G_l_take hr) (rd_l_put T)
  have B_l_put : ∃ ds, Vals ([] : List V) ds ∧ Binds K fd_l_put ["_law_well_here", "_law_arcs", "_law_place", "_law_arc"] ds := ⟨[], .nil, F_l_put.bindsN (ps := ["_law_well_here", "_law_arcs", "_law_place", "_law_arc"]) fun _ _ _ _ _ _ us hl => match us, hl with | [_, _, _, _], _ => rfl⟩
  obtain ⟨ds_l_put, v_l_put, b_l_put⟩ := B_l_put
  have G_l_put : Fn PP w K mg base "_law_put" 7 [] (sp_l_put K) := ⟨⟨_, fd_l_put, ["_law_well_here", "_law_arcs", "_law_place", "_law_arc"], ds_l_put, O_l_put, glo_of X G (c.fact 53), F_l_put.kp, v_l_put, b_l_put⟩⟩
  have O_l_strange : FnOk PP w K mg base (L2.CX PP w) 7 (He.fAd K ("_law_strange", none)) fd_l_strange ["_law_well_here", "_law_signs"] (sp_l_strange K) := def_ok F_l_strange sc_l_strange len_l_strange (t_l_strange K) (fun cdv A outer s H E hr => tm_l_strange T G_l_take hr) (rd_l_strange T)
  have B_l_strange : ∃ ds, Vals ([] : List V) ds ∧ Binds K fd_l_strange ["_law_well_here", "_law_signs"] ds := ⟨[], .nil, F_l_strange.bindsN (ps := ["_law_well_here", "_law_signs"]) fun _ _ _ _ _ _ us hl => match us, hl with | [_, _], _ => rfl⟩
  obtain ⟨ds_l_strange, v_l_strange, b_l_strange⟩ := B_l_strange
  have G_l_strange : Fn PP w K mg base "_law_strange" 7 [] (sp_l_strange K) := ⟨⟨_, fd_l_strange, ["_law_well_here", "_law_signs"], ds_l_strange, O_l_strange, glo_of X G (c.fact 54), F_l_strange.kp, v_l_strange, b_l_strange⟩⟩
  have O_l_wrong : FnOk PP w K mg base (L2.CX PP w) 9 (He.fAd K ("_law_wrong", none)) fd_l_wrong ["_law_well_here", "_law_signs", "_law_places"] (sp_l_wrong K) := def_ok F_l_wrong sc_l_wrong len_l_wrong (t_l_wrong K) (fun cdv A outer s H E hr => tm_l_wrong T G_l_strange G_l_take hr) (rd_l_wrong T)
  have B_l_wrong : ∃ ds, Vals ([] : List V) ds ∧ Binds K fd_l_wrong ["_law_well_here", "_law_signs", "_law_places"] ds := ⟨[], .nil, F_l_wrong.bindsN (ps := ["_law_well_here", "_law_signs", "_law_places"]) fun _ _ _ _ _ _ us hl => match us, hl with | [_, _, _], _ => rfl⟩
  obtain ⟨ds_l_wrong, v_l_wrong, b_l_wrong⟩ := B_l_wrong
  have G_l_wrong : Fn PP w K mg base "_law_wrong" 9 [] (sp_l_wrong K) := ⟨⟨_, fd_l_wrong, ["_law_well_here", "_law_signs", "_law_places"], ds_l_wrong, O_l_wrong, glo_of X G (c.fact 55), F_l_wrong.kp, v_l_wrong, b_l_wrong⟩⟩
  have O_l_well : FnOk PP w K mg base (L2.CX PP w) 5 (He.fAd K ("_law_well", none)) fd_l_well ["_law_script"] (sp_l_well K) := def_ok F_l_well sc_l_well len_l_well (t_l_well K) (fun cdv A outer s H E hr => tm_l_well T  hr) (rd_l_well T)
  have B_l_well : ∃ ds, Vals ([] : List V) ds ∧ Binds K fd_l_well ["_law_script"] ds := ⟨[], .nil, F_l_well.bindsN (ps := ["_law_script"]) fun _ _ _ _ _ _ us hl => match us, hl with | [_], _ => rfl⟩
  obtain ⟨ds_l_well, v_l_well, b_l_well⟩ := B_l_well
  have G_l_well : Fn PP w K mg base "_law_well" 5 [] (sp_l_well K) := ⟨⟨_, fd_l_well, ["_law_script"], ds_l_well, O_l_well, glo_of X G (c.fact 56), F_l_well.kp, v_l_well, b_l_well⟩⟩
  have O_l_letters : FnOk PP w K mg base (L2.CX PP w) 7 (He.fAd K ("_law_letters", none)) fd_l_letters ["_law_well_here", "_law_most"] (sp_l_letters K) := def_ok F_l_letters sc_l_letters len_l_letters (t_l_letters K) (fun cdv A outer s H E hr => tm_l_letters T G_l_take hr) (rd_l_letters T)
  have B_l_letters : ∃ ds, Vals ([] : List V) ds ∧ Binds K fd_l_letters ["_law_well_here", "_law_most"] ds := ⟨[], .nil, F_l_letters.bindsN (ps := ["_law_well_here", "_law_most"]) fun _ _ _ _ _ _ us hl => match us, hl with | [_, _], _ => rfl⟩
  obtain ⟨ds_l_letters, v_l_letters, b_l_letters⟩ := B_l_letters
  have G_l_letters : Fn PP w K mg base "_law_letters" 7 [] (sp_l_letters K) := ⟨⟨_, fd_l_letters, ["_law_well_here", "_law_most"], ds_l_letters, O_l_letters, glo_of X G (c.fact 57), F_l_letters.kp, v_l_letters, b_l_letters⟩⟩
  have O_all_different : FnOk PP w K mg base (L2.CX PP w) 5 (He.fAd K ("all_different", none)) fd_all_different ["string"] (sp_all_different K) := def_ok F_all_different sc_all_different len_all_different (t_all_different K) (fun cdv A outer s H E hr => tm_all_different T  hr) (rd_all_different T)
  have B_all_different : ∃ ds, Vals ([] : List V) ds ∧ Binds K fd_all_different ["string"] ds := ⟨[], .nil, F_all_different.bindsN (ps := ["string"]) fun _ _ _ _ _ _ us hl => match us, hl with | [_], _ => rfl⟩
  obtain ⟨ds_all_different, v_all_different, b_all_different⟩ := B_all_different
  have G_all_different : Fn PP w K mg base "all_different" 5 [] (sp_all_different K) := ⟨⟨_, fd_all_different, ["string"], ds_all_different, O_all_different, glo_of X G (c.fact 58), F_all_different.kp, v_all_different, b_all_different⟩⟩
  have O_Alphabet_init : FnOk PP w K mg base (L2.CX PP w) 7 (He.fAd K ("Alphabet", some "__init__")) fd_Alphabet_init ["self", "letters", "vowels"] (sp_Alphabet_init K) := def_ok F_Alphabet_init sc_Alphabet_init len_Alphabet_init (t_Alphabet_init K) (fun cdv A outer s H E hr => tm_Alphabet_init T G_all_different X_BadAlphabet hr) (rd_Alphabet_init T)
  have B_Alphabet : ∃ ds, Vals ([] : List V) ds ∧ Binds K fd_Alphabet_init ["self", "letters", "vowels"] ds := F_Alphabet_init.binds1 (ps := ["self", "letters", "vowels"]) 3 1 (List.cons_ne_nil _ _) rfl (fun _ _ _ _ _ _ _ us its h1 h2 => match us, its, h1, h2 with | [_, _, _], [_], _, _ => ⟨_, rfl, rfl⟩)
  obtain ⟨ds_Alphabet, v_Alphabet, b_Alphabet⟩ := B_Alphabet
  have G_Alphabet : Mks PP w K mg base "Alphabet" (He.ga K "Alphabet") 7 [] (sp_Alphabet_init K) := ⟨⟨_, fd_Alphabet_init, ["self", "letters", "vowels"], ds_Alphabet, O_Alphabet_init, mk_of (c.fact 59), glo_of X G (c.fact 60), v_Alphabet, b_Alphabet⟩⟩
  have O_l_table : FnOk PP w K mg base (L2.CX PP w) 7 (He.fAd K ("_law_table", none)) fd_l_table ["_law_well_here", "_law_signs"] (sp_l_table K) := def_ok F_l_table sc_l_table len_l_table (t_l_table K) (fun cdv A outer s H E hr => tm_l_table T G_l_take hr) (rd_l_table T)
  have B_l_table : ∃ ds, Vals ([] : List V) ds ∧ Binds K fd_l_table ["_law_well_here", "_law_signs"] ds := ⟨[], .nil, F_l_table.bindsN (ps := ["_law_well_here", "_law_signs"]) fun _ _ _ _ _ _ us hl => match us, hl with | [_, _], _ => rfl⟩
  obtain ⟨ds_l_table, v_l_table, b_l_table⟩ := B_l_table
  have G_l_table : Fn PP w K mg base "_law_table" 7 [] (sp_l_table K) := ⟨⟨_, fd_l_table, ["_law_well_here", "_law_signs"], ds_l_table, O_l_table, glo_of X G (c.fact 61), F_l_table.kp, v_l_table, b_l_table⟩⟩
  have O_law : FnOk PP w K mg base (L2.CX PP w) 13 (He.fAd K ("law", none)) fd_law ["_law_script"] (sp_law K) := def_ok F_law sc_law len_law (t_law K) (fun cdv A outer s H E hr => tm_law T G_Alphabet G_Machine G_l_copy G_l_kept G_l_letters G_l_put G_l_refused G_l_table G_l_take G_l_well G_l_wrong hr) (rd_law T)
  exact O_law
end Lw
open PySem PySem.W PySem.Calls PyProof.Rows
set_option maxHeartbeats 0 in
theorem PySem.Challenge.cw_talepost_k08_machine_tables_holds : PySem.Challenge.rw_talepost_k08_machine_tables.Holds := by
  w_on; o_law
  refine HandSHeadRun.head_any (r := OpenLaw.row PySem.Challenge.rw_talepost_k08_machine_tables) (q := view (OpenLaw.row PySem.Challenge.rw_talepost_k08_machine_tables).prog [38]) (H := Lw.hk) (ob := Lw.ob) (M := 12000) (loose := Lw.loose) (d := HandSHeadRun.topDef (OpenLaw.row PySem.Challenge.rw_talepost_k08_machine_tables).prog 38) (kwd := []) Lw.ob_eq
    (by kernel_rfl) (fun s => by kernel_rfl) Lw.run (by kernel_rfl) (by kernel_rfl) (by kernel_rfl) (by rfl) (by first | assumption | decide +kernel) (by decide +kernel) ⟨rfl, rfl, rfl, rfl, rfl, by decide +kernel⟩ ?hw ?hc
  case hw => w_witness2
  case hc =>
    refine Ta.walk_ofX (l := PySem.Challenge.rw_talepost_k08_machine_tables) (n := 63) (k := 13) (x := "_law_script") rfl (by decide) (by kernel_rfl) ⟨rfl, by decide, by decide⟩ ?F
    intro w mg fa h Y G hmg0
    obtain ⟨K, KX, c⟩ := Y
    have hmg : mg ("law" : PySem.Str) = some (.ref fa) := by
      have e : (HandSHeadRun.topDef (OpenLaw.row PySem.Challenge.rw_talepost_k08_machine_tables).prog 38).name = ("law" : PySem.Str) := by kernel_rfl
      rw [← e]
      exact hmg0
    obtain ⟨fd, hb, hF⟩ := Lw.all_ok (w := w) KX G c
    have e := hmg.symm.trans (Ta.glo_of KX G (x := "law") (c.fact 63))
    cases e
    refine ⟨K, fd, Lw.sp_law K, KX, hb, fun H a ns hl hO hS => ?_, hF⟩
    obtain ⟨oj, hS⟩ := Ta.scr_of (c.fact 62) hO hS
    exact Lw.law_in hS hl

