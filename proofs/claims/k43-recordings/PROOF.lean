import PyProof.Rows.All
import Wide.All
import OpenK.AllK
import Wide.FinOn
import HandS.ForMost
import HandS.ForExc
import HandS.Flow
import HandS.Defaults
import HandS.CallSlots
import HandS.IsInst
import HandS.Codes
import HandS.ClsMeth
import HandS.OwnEq
import HandS.Property
import HandS.ExcInit
import HandS.ExcField
import HandS.ExcIs
import HandS.Nested
import KE.KExcSuper
import KE.KExcIs
import HandS.Strs
import HandS.SetTxtIn
import HandS.More
import HandS.Replace
import HandS.ReplaceList
import HandS.Head0
import HandS.Head1
import HandS.Head2
import HandS.HeadEnd
import HandS.HeadHook1
import HandS.HeadHook2
import HandS.TupLe
import HandS.Text
import HandS.List
import PyProof.Rows.StrFirst
import HandS.Conv
import PyProof.ListStr
import HandS.Set
import HandS.SetFor
import KE.SortKeyHeap
import HandS.SortKw
import KE.KSortKey
import HandS.Style
import KE.KRevSl
import PyProof.SliceStr2
import OpenK.KMake
import HandS.Wide
import PyProof.StrLawsIn
import HandS.TryMany
import HandS.TryOnly
import KE.KCallOwn
import OpenK.KMeth
import PyProof.InstNe
import HandS.RaiseMore
import HandS.Small
import HandS.HotCalls
import PySem.Challenge.RW_talepost_k43_recordings
set_option Elab.async false
set_option linter.all false
set_option maxRecDepth 100000
set_option maxHeartbeats 1000000
namespace Ta
open PySem PySem.Spec PyProof.Rows L2
abbrev St := L2.St

/-! ### texts as lists of codes -/
abbrev tl (x : Str) : List Nat := x.cps.toList
abbrev S (l : List Nat) : Str := ⟨l.toArray⟩
theorem tl_S (l : List Nat) : tl (S l) = l := rfl
theorem S_tl (x : Str) : S (tl x) = x := TL.mk_tl x
theorem ext_tl {x y : Str} (h : tl x = tl y) : x = y := TL.ext_tl h
theorem len_tl (x : Str) : x.length = (tl x).length := TL.len_tl x
theorem add_S (x y : Str) : x ++ y = S (tl x ++ tl y) := ext_tl (TL.tl_append x y)

/-! ### marks: a look at the heap, a branch -/
structure look (H : Hp) (p : Addr) (k : Option HO → Prop) : Prop where
  out : k (H p)
theorem look_i {H : Hp} {p : Addr} {k : Option HO → Prop} {o : HO} (h : H p = some o) (q : k (some o)) : look H p k := by
  refine ⟨?_⟩; rw [h]; exact q
theorem look_n {H : Hp} {p : Addr} {k : Option HO → Prop} (h : H p = none) (q : k none) : look H p k := by
  refine ⟨?_⟩; rw [h]; exact q
theorem look_e {H : Hp} {p : Addr} {k : Option HO → Prop} (q : look H p k) : k (H p) := by
  replace q := q.out; exact q
structure cnd (c : Bool) (p q : Prop) : Prop where
  out : match c with
  | true => p
  | false => q
theorem cnd_i {c : Bool} {p q : Prop} (h1 : c = true → p) (h2 : c = false → q) : cnd c p q := by
  refine ⟨?_⟩; cases c
  · exact h2 rfl
  · exact h1 rfl
theorem cnd_t {c : Bool} {p q : Prop} (h : c = true) (h1 : p) : cnd c p q := by refine ⟨?_⟩; rw [h]; exact h1
theorem cnd_f {c : Bool} {p q : Prop} (h : c = false) (h1 : q) : cnd c p q := by refine ⟨?_⟩; rw [h]; exact h1
theorem cnd_e {c : Bool} {p q : Prop} (h : cnd c p q) : if c = true then p else q := by
  replace h := h.out; cases c
  · exact h
  · exact h

/-! ### weakening -/
section
variable {X : Cx}
theorem pe_imp {e : Expr} {t t' : TE} (h : PE X e t) (i : ∀ σ H Q, t' σ H Q → t σ H Q) : PE X e t' := ⟨fun pins s σ H Q I q => h.run pins s σ H Q I (i σ H Q q)⟩
theorem pt_imp {e : Expr} {t t' : TT} (h : PT X e t) (i : ∀ σ H Q, t' σ H Q → t σ H Q) : PT X e t' := ⟨fun pins s σ H Q I q => h.run pins s σ H Q I (i σ H Q q)⟩
theorem pw_imp {e : Expr} {t t' : TT} (h : PW X e t) (i : ∀ σ H Q, t' σ H Q → t σ H Q) : PW X e t' := ⟨fun whole pins s σ H Q I q => h.run whole pins s σ H Q I (i σ H Q q)⟩
theorem ps_imp {e : Stmt} {t t' : TS} (h : PS X e t) (i : ∀ D σ H, t' D σ H → t D σ H) : PS X e t' := ⟨fun pins s σ H D I q => h.run pins s σ H D I (i D σ H q)⟩
theorem pss_imp {e : List Stmt} {t t' : TS} (h : PSs X e t) (i : ∀ D σ H, t' D σ H → t D σ H) : PSs X e t' := ⟨fun pins s σ H D I q => h.run pins s σ H D I (i D σ H q)⟩
theorem op_imp {f : Value → Value → Sem Value} {r r' : R2} (h : OpR X f r) (i : ∀ x y H Q, r' x y H Q → r x y H Q) : OpR X f r' := fun pins s σ H x y v u Q I rx ry q => h pins s σ H x y v u Q I rx ry (i x y H Q q)
theorem ix_imp {r r' : R2} (h : IxR X r) (i : ∀ x y H Q, r' x y H Q → r x y H Q) : IxR X r' := fun va sl pins s σ H x y v u Q I rx ry q => h va sl pins s σ H x y v u Q I rx ry (i x y H Q q)
theorem cr_imp {f : Value} {r r' : List V → Hp → VK → Prop} (h : CallR X f r) (i : ∀ xs H Q, r' xs H Q → r xs H Q) : CallR X f r' := fun pins s σ H xs us Q I rx q => h pins s σ H xs us Q I rx (i xs H Q q)
theorem sl_imp {r r' : V → Option Int → Option Int → Hp → VK → Prop} (h : SlR X r) (i : ∀ x a b H Q, r' x a b H Q → r x a b H Q) : SlR X r' := fun pins s σ H x v vl vu lo hi sl Q I rx rs pl pu q => h pins s σ H x v vl vu lo hi sl Q I rx rs pl pu (i x lo hi H Q q)
theorem mt_imp {id : String} {r r' : V → List V → Hp → VK → Prop} (h : MtR X id r) (i : ∀ x xs H Q, r' x xs H Q → r x xs H Q) : MtR X id r' := fun pins s σ H x xs v us Q I rx rs q => h pins s σ H x xs v us Q I rx rs (i x xs H Q q)
end

/-! ### limits -/
def Lim (n : Nat) : Prop := n ≤ sizeLine
theorem lim_of {n : Nat} (h : n ≤ 16777216) : Lim n := by unfold Lim; rw [sizeLine_eq]; exact h

/-! ### names, constants -/
section
variable {X : Cx}
def tV (i : Nat) : TE := fun σ H Q => match σ[i]? with
  | some (some v) => Q v H
  | _ => False
theorem tV_e {i : Nat} {σ : St} {H : Hp} {Q : VK} (h : tV i σ H Q) : tVar i σ H Q := by
  unfold tV at h
  split at h
  · rename_i v e
    exact ⟨v, e, h⟩
  · exact h.elim
theorem pv (i : Nat) {x : Str} {pos : Pos} (hN : X.N[i]? = some x := by rfl) (hv : Vis X.env.scope x := by first | exact Or.inl rfl | exact Or.inr (Or.inl rfl) | exact Or.inr (Or.inr rfl)) (hd : (x == ("__debug__" : Str)) = false := by decide +kernel)
    (hcd : (x == ("__classdict__" : Str)) = false := by decide +kernel) : PE X (.Name x pos) (tV i) := pe_imp (pe_var hN hv hd hcd) fun _ _ _ h => tV_e h
theorem pstr (l : List Nat) {x : Str} {j : Nat} {pos : Pos} (h : x = S l := by decide +kernel) : PE X (.Constant (.str x) j pos) (tC (.str (S l))) := by
  subst h; exact pe_str

/-! ### truth -/
def truP (K : PySem.W.Frag) (x : V) (H : Hp) (Q : Bool → Prop) : Prop := match x with
  | .non => Q false
  | .bl b => Q b
  | .int i => Q (!decide (i = 0))
  | .str y => Lim (tl y).length ∧ Q (!(tl y).isEmpty)
  | .ref p => look H p fun o => match o with
    | some (.lst xs) => Q (!xs.isEmpty)
    | some (.tup xs) => Q (!xs.isEmpty)
    | some (.dK kvs) => Q (!kvs.isEmpty)
    | some (.frz _ (.lst xs)) => Q (!xs.isEmpty)
    | _ => ∃ xs, (SqL K H p xs ∨ SqT K H p xs) ∧ Q (!xs.isEmpty)
  | _ => False
theorem truP_e {K : PySem.W.Frag} {x : V} {H : Hp} {Q : Bool → Prop} (h : truP K x H Q) : ∃ k, TruV K x H k ∧ Q k := by
  cases x with
  | non => exact ⟨false, rfl, h⟩
  | bl b => exact ⟨b, rfl, h⟩
  | int i => exact ⟨!decide (i = 0), by show (!decide (i = 0)) = (i != 0); simp only [bne]; congr 1, h⟩
  | str y =>
    obtain ⟨h1, h2⟩ := h
    refine ⟨!(tl y).isEmpty, ⟨by rw [len_tl]; exact h1, ?_⟩, h2⟩
    rw [len_tl]
    cases e : tl y with
    | nil => rfl
    | cons c r => simp; omega
  | ref p =>
    have h' := look_e h
    revert h'
    cases e : H p with
    | none => exact fun ⟨xs, h1, h2⟩ => ⟨_, h1.elim (fun z => .inl ⟨xs, z, rfl⟩) (fun z => .inr (.inl ⟨xs, z, rfl⟩)), h2⟩
    | some o =>
      cases o with
      | lst xs => exact fun h2 => ⟨_, .inl ⟨xs, SqL.of e, rfl⟩, h2⟩
      | tup xs => exact fun h2 => ⟨_, .inr (.inl ⟨xs, SqT.of e, rfl⟩), h2⟩
      | dK xs => exact fun h2 => ⟨_, .inr (.inr ⟨xs, e, rfl⟩), h2⟩
      | frz ob u =>
        cases u with
        | lst xs => exact fun h2 => ⟨_, .inl ⟨xs, .inl (.inr ⟨_, e⟩), rfl⟩, h2⟩
        | _ => exact fun ⟨xs, h1, h2⟩ => ⟨_, h1.elim (fun z => .inl ⟨xs, z, rfl⟩) (fun z => .inr (.inl ⟨xs, z, rfl⟩)), h2⟩
      | _ => exact fun ⟨xs, h1, h2⟩ => ⟨_, h1.elim (fun z => .inl ⟨xs, z, rfl⟩) (fun z => .inr (.inl ⟨xs, z, rfl⟩)), h2⟩
  | _ => exact h.elim
def tTru (K : PySem.W.Frag) (ta : TE) : TT := fun σ H Q => ta σ H fun x H1 => truP K x H1 fun k => Q k H1
variable {a b c : Expr} {ta tb tc : TE} {rest : List Expr} {pos : Pos}
theorem ptru (ha : PE X a ta) (he : ∀ whole, isTrue a X.env whole = (do let v ← whole; standAt a.pos; holding [v] (truthy v)) := by intro _; rfl) : PT X a (tTru X.K ta) := by
  refine ⟨fun pins s σ H Q I h => ?_⟩
  exact isTrue_plain (thn (ha.run pins s σ H _ I h) fun v s1 ⟨x, H1, I1, r1, q1⟩ => tru_ok pins s1 σ H1 x v Q I1 r1 (truP_e (Q := fun k => Q k H1) q1)) (he _)
/-- a test that is a comparison -/
def tTst (t : TE) : TT := fun σ H Q => t σ H fun x H' => match x with
  | .bl k => Q k H'
  | _ => False
theorem bl_of {x : V} {P : Bool → Prop} (h : match x with | .bl k => P k | _ => False) : ∃ k, x = .bl k ∧ P k := by
  cases x with
  | bl k => exact ⟨k, rfl, h⟩
  | _ => exact h.elim
theorem ptcmp {op : CmpOp} {r : R2} (ho : OpR X (compareOp op) r) (ha : PE X a ta) (hb : PE X b tb) (hm : behindInMarks op b = false := by rfl) : PT X (.Compare a [op] [b] pos) (tTst (tOp r ta tb)) := by
  refine ⟨fun pins s σ H Q I h => ?_⟩
  refine wpAny_isTrue_Compare1 (binT ha hb I h fun v u s2 x y H2 I2 rx ry q => ?_) hm
  refine thn (ho pins s2 σ H2 x y v u _ I2 rx ry q) fun c s3 ⟨z, H3, I3, r3, q3⟩ => ?_
  obtain ⟨k, rfl, q3⟩ := bl_of q3
  cases r3
  exact wpAny_truthy_bool ⟨H3, I3, q3⟩
def tAndP (t u : TT) : TT := fun σ H Q => t σ H fun c H1 => cnd c (u σ H1 Q) (Q false H1)
def tOrP (t u : TT) : TT := fun σ H Q => t σ H fun c H1 => cnd c (Q true H1) (u σ H1 Q)
variable {tA tB' : TT}
theorem pwand (ha : PT X a tA) (hb : PW X (.BoolOp .And (b :: rest) pos) tB') : PW X (.BoolOp .And (a :: b :: rest) pos) (tAndP tA tB') := by
  refine ⟨fun wh pins s σ H Q I h => ?_⟩
  refine isTrue_and (thn (ha.run pins s σ H _ I h) fun c s1 ⟨H1, I1, q1⟩ => ?_)
  have q1 := cnd_e q1
  cases c with
  | true => exact hb.run wh pins s1 σ H1 Q I1 q1
  | false => exact ⟨H1, I1, q1⟩
theorem pwor (ha : PT X a tA) (hb : PW X (.BoolOp .Or (b :: rest) pos) tB') : PW X (.BoolOp .Or (a :: b :: rest) pos) (tOrP tA tB') := by
  refine ⟨fun wh pins s σ H Q I h => ?_⟩
  refine isTrue_or (thn (ha.run pins s σ H _ I h) fun c s1 ⟨H1, I1, q1⟩ => ?_)
  have q1 := cnd_e q1
  cases c with
  | true => exact ⟨H1, I1, q1⟩
  | false => exact hb.run wh pins s1 σ H1 Q I1 q1
/-! ### and, or, not as values -/
def tAndE (K : PySem.W.Frag) (ta tb : TE) : TE := fun σ H Q => ta σ H fun x H1 => truP K x H1 fun k => cnd k (tb σ H1 Q) (Q x H1)
def tOrE (K : PySem.W.Frag) (ta tb : TE) : TE := fun σ H Q => ta σ H fun x H1 => truP K x H1 fun k => cnd k (Q x H1) (tb σ H1 Q)
def tNotE (K : PySem.W.Frag) (ta : TE) : TE := fun σ H Q => ta σ H fun x H1 => truP K x H1 fun k => Q (.bl (!k)) H1
theorem peor (ha : PE X a ta) (hb : PE X (.BoolOp .Or (b :: rest) pos) tb) : PE X (.BoolOp .Or (a :: b :: rest) pos) (tOrE X.K ta tb) := by
  refine ⟨fun pins s σ H Q I h => ?_⟩
  refine BoolOp_or (thn (ha.run pins s σ H _ I h) fun v s1 ⟨x, H1, I1, r1, q1⟩ => ?_)
  obtain ⟨k, e, q1⟩ := truP_e q1
  refine thn (tru_ok pins s1 σ H1 x v (fun c H2 => c = k ∧ H2 = H1) I1 r1 ⟨k, e, rfl, rfl⟩) fun c s2 hc => ?_
  obtain ⟨H2, I2, e1, e2⟩ := hc
  rw [e2] at I2
  rw [← e1] at q1
  have q1 := cnd_e q1
  cases c with
  | true => exact ⟨x, H1, I2, r1, q1⟩
  | false => exact hb.run pins s2 σ H1 Q I2 q1
theorem peand (ha : PE X a ta) (hb : PE X (.BoolOp .And (b :: rest) pos) tb) : PE X (.BoolOp .And (a :: b :: rest) pos) (tAndE X.K ta tb) := by
  refine ⟨fun pins s σ H Q I h => ?_⟩
  refine BoolOp_and (thn (ha.run pins s σ H _ I h) fun v s1 ⟨x, H1, I1, r1, q1⟩ => ?_)
  obtain ⟨k, e, q1⟩ := truP_e q1
  refine thn (tru_ok pins s1 σ H1 x v (fun c H2 => c = k ∧ H2 = H1) I1 r1 ⟨k, e, rfl, rfl⟩) fun c s2 hc => ?_
  obtain ⟨H2, I2, e1, e2⟩ := hc
  rw [e2] at I2
  rw [← e1] at q1
  have q1 := cnd_e q1
  cases c with
  | true => exact hb.run pins s2 σ H1 Q I2 q1
  | false => exact ⟨x, H1, I2, r1, q1⟩
theorem penot (ha : PE X a ta) : PE X (.UnaryOp .Not a pos) (tNotE X.K ta) := by
  refine ⟨fun pins s σ H Q I h => ?_⟩
  refine UnaryOp_ (thn (ha.run pins s σ H _ I h) fun v s1 ⟨x, H1, I1, r1, q1⟩ => ?_)
  obtain ⟨k, e, q1⟩ := truP_e q1
  exact not_of (thn (tru_ok pins s1 σ H1 x v (fun c H2 => Q (.bl (!c)) H2) I1 r1 ⟨k, e, q1⟩) fun c s2 ⟨H2, I2, q2⟩ => ⟨.bl (!c), H2, I2, rfl, q2⟩)
def tIfE (t : TT) (ta tb : TE) : TE := fun σ H Q => t σ H fun c H1 => cnd c (ta σ H1 Q) (tb σ H1 Q)
theorem peif (hc : PT X c tA) (ha : PE X a ta) (hb : PE X b tb) : PE X (.IfExp c a b pos) (tIfE tA ta tb) := by
  refine ⟨fun pins s σ H Q I h => ?_⟩
  refine wpAny_IfExp (thn (hc.run pins s σ H _ I h) fun d s1 ⟨H1, I1, q1⟩ => ?_)
  have q1 := cnd_e q1
  cases d with
  | true => exact ha.run pins s1 σ H1 Q I1 q1
  | false => exact hb.run pins s1 σ H1 Q I1 q1
/-- a op1 b op2 c -/
def tChn (r r' : R2) (ta tb tc : TE) : TE := fun σ H Q => ta σ H fun x H1 => tb σ H1 fun y H2 => r x y H2 fun z H3 => match z with
  | .bl k => cnd k (tc σ H3 fun w' H4 => r' y w' H4 Q) (Q (.bl false) H3)
  | _ => False
theorem pechn {op op' : CmpOp} {r r' : R2} (ho : OpR X (compareOp op) r) (ho' : OpR X (compareOp op') r') (ha : PE X a ta) (hb : PE X b tb) (hc : PE X c tc)
    (hm : lastMarks [op, op'] [b, c] = false := by with_unfolding_all rfl) : PE X (.Compare a [op, op'] [b, c] pos) (tChn r r' ta tb tc) := by
  refine ⟨fun pins s σ H Q I h => ?_⟩
  refine Compare_chain (thn (ha.run pins s σ H _ I h) fun v s1 ⟨x, H1, I1, r1, q1⟩ => chain_link (thn (hb.run pins s1 σ H1 _ I1 q1) fun u s2 ⟨y, H2, I2, r2, q2⟩ =>
    thn (ho pins s2 σ H2 x y v u _ I2 r1 r2 q2) fun d s3 ⟨z, H3, I3, r3, q3⟩ => ?_)) hm
  obtain ⟨k, rfl, q3⟩ := bl_of q3
  have q3 := cnd_e q3
  cases r3
  refine wpAny_truthy_bool ?_
  cases k with
  | false => exact ite_ff ⟨.bl false, H3, I3, rfl, q3⟩
  | true => exact ite_tt (chain_last (thn (hc.run pins s3 σ H3 _ I3 q3) fun w' s4 ⟨z', H4, I4, r4, q4⟩ => ho' pins s4 σ H4 y z' u w' Q I4 r2 r4 q4))
theorem ptchn {op op' : CmpOp} {r r' : R2} (ho : OpR X (compareOp op) r) (ho' : OpR X (compareOp op') r') (ha : PE X a ta) (hb : PE X b tb) (hc : PE X c tc)
    (hm : lastMarks [op, op'] [b, c] = false := by with_unfolding_all rfl) : PT X (.Compare a [op, op'] [b, c] pos) (tTst (tChn r r' ta tb tc)) := by
  refine ⟨fun pins s σ H Q I h => ?_⟩
  refine isTrue_chain (thn (ha.run pins s σ H _ I h) fun v s1 ⟨x, H1, I1, r1, q1⟩ => test_link (thn (hb.run pins s1 σ H1 _ I1 q1) fun u s2 ⟨y, H2, I2, r2, q2⟩ =>
    thn (ho pins s2 σ H2 x y v u _ I2 r1 r2 q2) fun d s3 ⟨z, H3, I3, r3, q3⟩ => ?_)) hm
  obtain ⟨k, rfl, q3⟩ := bl_of q3
  have q3 := cnd_e q3
  cases r3
  refine wpAny_truthy_bool ?_
  cases k with
  | false => exact ite_ff ⟨H3, I3, q3⟩
  | true =>
    refine ite_tt (test_last (thn (hc.run pins s3 σ H3 _ I3 q3) fun w' s4 ⟨z', H4, I4, r4, q4⟩ => thn (ho' pins s4 σ H4 y z' u w' _ I4 r2 r4 q4) fun d' s5 ⟨z2, H5, I5, r5, q5⟩ => ?_))
    obtain ⟨k2, rfl, q5⟩ := bl_of q5
    cases r5
    exact wpAny_truthy_bool ⟨H5, I5, q5⟩
end

/-! ### operators by value -/
section
variable {X : Cx}
def zAdd : R2 := fun x y H Q => match x with
  | .int i => (match y with
    | .int j => Q (.int (i + j)) H
    | _ => False)
  | .str a => (match y with
    | .str b => Lim ((tl a).length + (tl b).length) ∧ Q (.str (S (tl a ++ tl b))) H
    | _ => False)
  | .ref p => (match y with
    | .ref q => look H p fun o => match o with
      | some (.lst xs) => look H q fun o' => (match o' with
        | some (.lst ys) => Lim (xs.length + ys.length) ∧ ∀ r, H r = none → Q (.ref r) (upd H r (.lst (xs ++ ys)))
        | _ => False)
      | _ => False
    | _ => False)
  | _ => False
theorem opadd : OpR X (binaryOp .Add) zAdd := by
  intro pins s σ H x y v u Q I rx ry h
  cases x with
  | int i =>
    cases y with
    | int j => exact op_add pins s σ H _ _ v u Q I rx ry ⟨i, j, rfl, rfl, h⟩
    | _ => exact False.elim h
  | str i =>
    cases y with
    | str j => exact op_add_str pins s σ H _ _ v u Q I rx ry ⟨i, j, rfl, rfl, by rw [len_tl, len_tl]; exact h.1, by rw [add_S]; exact h.2⟩
    | _ => exact False.elim h
  | ref p =>
    cases y with
    | ref q =>
      have h := look_e h
      cases e : H p with
      | none => rw [e] at h; exact h.elim
      | some o =>
        rw [e] at h
        cases o with
        | lst xs =>
          have h := look_e h
          cases e' : H q with
          | none => rw [e'] at h; exact h.elim
          | some o' =>
            rw [e'] at h
            cases o' with
            | lst ys => exact op_cat pins s σ H _ _ v u Q I rx ry ⟨p, q, xs, ys, rfl, rfl, e, e', h.1, h.2⟩
            | _ => exact h.elim
        | _ => exact h.elim
    | _ => exact False.elim h
  | _ => exact False.elim h
def zI2 (C : Int → Int → Prop) (g : Int → Int → V) : R2 := fun x y H Q => match x with
  | .int i => (match y with
    | .int j => C i j ∧ Q (g i j) H
    | _ => False)
  | _ => False
def zI2f (g : Int → Int → V) : R2 := fun x y H Q => match x with
  | .int i => (match y with
    | .int j => Q (g i j) H
    | _ => False)
  | _ => False
theorem zI2_e {C : Int → Int → Prop} {g : Int → Int → V} {x y : V} {H : Hp} {Q : VK} (h : zI2 C g x y H Q) : rI C g x y H Q := by
  cases x with
  | int i => cases y with
    | int j => exact ⟨i, j, rfl, rfl, h.1, h.2⟩
    | _ => exact h.elim
  | _ => exact h.elim
theorem zI2f_e {g : Int → Int → V} {x y : V} {H : Hp} {Q : VK} (h : zI2f g x y H Q) : rI0 g x y H Q := by
  cases x with
  | int i => cases y with
    | int j => exact ⟨i, j, rfl, rfl, h⟩
    | _ => exact h.elim
  | _ => exact h.elim
def zSub : R2 := zI2f fun i j => .int (i - j)
def zMul : R2 := zI2 CMul fun i j => .int (i * j)
def zMod : R2 := zI2 (fun _ j => 0 < j) fun i j => .int (i % j)
def zDiv : R2 := zI2 CDiv fun i j => .int (i / j)
def zPow : R2 := zI2 CPow fun i j => .int (i ^ j.toNat)
theorem opsub : OpR X (binaryOp .Sub) zSub := op_imp op_sub fun _ _ _ _ h => zI2f_e h
theorem opmul : OpR X (binaryOp .Mult) zMul := op_imp op_mul fun _ _ _ _ h => zI2_e h
theorem opmod : OpR X (binaryOp .Mod) zMod := op_imp op_mod fun _ _ _ _ h => zI2_e h
theorem opdiv : OpR X (binaryOp .FloorDiv) zDiv := op_imp op_fdiv fun _ _ _ _ h => zI2_e h
theorem oppow : OpR X (binaryOp .Pow) zPow := op_imp op_pow fun _ _ _ _ h => zI2_e h
def zNeg : V → Hp → VK → Prop := fun x H Q => match x with
  | .int i => Q (.int (-i)) H
  | _ => False
theorem unneg : UnR X (unaryOp .USub) zNeg := fun pins s σ H x v Q I rx h => by
  cases x with
  | int i => exact un_neg pins s σ H _ v Q I rx ⟨i, rfl, h⟩
  | _ => exact h.elim
/-! comparisons -/
def zLt : R2 := fun x y H Q => match x with
  | .int i => (match y with
    | .int j => Q (.bl (decide (i < j))) H
    | _ => False)
  | .str a => (match y with
    | .str b => Q (.bl (decide (tl a < tl b))) H
    | _ => False)
  | _ => False
theorem oplt : OpR X (compareOp .Lt) zLt := by
  intro pins s σ H x y v u Q I rx ry h
  cases x with
  | int i => cases y with
    | int j => exact op_lt pins s σ H _ _ v u Q I rx ry ⟨i, j, rfl, rfl, h⟩
    | _ => exact False.elim h
  | str i => cases y with
    | str j => exact op_lt_str pins s σ H _ _ v u Q I rx ry ⟨i, j, rfl, rfl, h⟩
    | _ => exact False.elim h
  | _ => exact False.elim h
def zLe : R2 := zI2f fun i j => .bl (decide (i ≤ j))
def zGt : R2 := zI2f fun i j => .bl (decide (j < i))
def zGe : R2 := zI2f fun i j => .bl (decide (j ≤ i))
theorem ople : OpR X (compareOp .LtE) zLe := op_imp op_le fun _ _ _ _ h => zI2f_e h
theorem opgt : OpR X (compareOp .Gt) zGt := op_imp op_gt fun _ _ _ _ h => zI2f_e h
theorem opge : OpR X (compareOp .GtE) zGe := op_imp op_ge fun _ _ _ _ h => zI2f_e h
/-- == of data at addresses -/
structure dpq (K : PySem.W.Frag) (x y : V) (H : Hp) (Q : Bool → Prop) : Prop where
  out : ∃ d e, Dp K H x d ∧ Dp K H y e ∧ SeqAt.shaped d = true ∧ SeqAt.shaped e = true ∧ Q (PyData.eqv d e)
theorem dpq_i {K : PySem.W.Frag} {x y : V} {H : Hp} {Q : Bool → Prop} {d e : PyData} (h1 : Dp K H x d) (h2 : Dp K H y e) (h3 : SeqAt.shaped d = true) (h4 : SeqAt.shaped e = true) (q : Q (PyData.eqv d e)) : dpq K x y H Q := by refine ⟨?_⟩; exact ⟨d, e, h1, h2, h3, h4, q⟩
theorem dpq_e {K : PySem.W.Frag} {x y : V} {H : Hp} {Q : Bool → Prop} (h : dpq K x y H Q) : ∃ d e, Dp K H x d ∧ Dp K H y e ∧ SeqAt.shaped d = true ∧ SeqAt.shaped e = true ∧ Q (PyData.eqv d e) := by replace h := h.out; exact h
/-- what == tells of two values; data at addresses by Dp -/
def eqP (K : PySem.W.Frag) (x y : V) (H : Hp) (Q : Bool → Prop) : Prop := match x with
  | .int i => (match y with
    | .int j => Q (decide (i = j))
    | .non => Q false
    | .str _ => Q false
    | _ => False)
  | .str a => (match y with
    | .str b => Q (decide (tl a = tl b))
    | .non => Q false
    | .int _ => Q false
    | .bl _ => Q false
    | _ => False)
  | .bl a => (match y with
    | .bl b => Q (decide (a = b))
    | .non => Q false
    | .str _ => Q false
    | _ => False)
  | .non => (match y with
    | .non => Q true
    | .int _ => Q false
    | .bl _ => Q false
    | .str _ => Q false
    | _ => False)
  | .ref p => dpq K x y H Q
  | _ => False
theorem eqP_e {K : PySem.W.Frag} {x y : V} {H : Hp} {Q : Bool → Prop} (h : eqP K x y H Q) : (scal x y = true ∧ Q (decide (x = y))) ∨ ∃ d e, Dp K H x d ∧ Dp K H y e ∧ SeqAt.shaped d = true ∧ SeqAt.shaped e = true ∧ Q (PyData.eqv d e) := by
  cases x with
  | int i => cases y with
    | int j => exact .inl ⟨rfl, by simp; exact h⟩
    | non => exact .inl ⟨rfl, by simp; exact h⟩
    | str j => exact .inl ⟨rfl, by simp; exact h⟩
    | _ => exact h.elim
  | str i => cases y with
    | str j =>
      refine .inl ⟨rfl, ?_⟩
      have e : decide (V.str i = V.str j) = decide (tl i = tl j) := decide_eq_decide.mpr ⟨fun z => by injection z with z; rw [z], fun z => by rw [ext_tl z]⟩
      rw [e]; exact h
    | non => exact .inl ⟨rfl, by simp; exact h⟩
    | int j => exact .inl ⟨rfl, by simp; exact h⟩
    | bl j => exact .inl ⟨rfl, by simp; exact h⟩
    | _ => exact h.elim
  | bl i => cases y with
    | bl j => exact .inl ⟨rfl, by simp; exact h⟩
    | non => exact .inl ⟨rfl, by simp; exact h⟩
    | str j => exact .inl ⟨rfl, by simp; exact h⟩
    | _ => exact h.elim
  | non => cases y with
    | non => exact .inl ⟨rfl, by simp; exact h⟩
    | int j => exact .inl ⟨rfl, by simp; exact h⟩
    | bl j => exact .inl ⟨rfl, by simp; exact h⟩
    | str j => exact .inl ⟨rfl, by simp; exact h⟩
    | _ => exact h.elim
  | ref p => exact .inr (dpq_e h)
  | _ => exact h.elim
def zEqP (K : PySem.W.Frag) : R2 := fun x y H Q => eqP K x y H fun k => Q (.bl k) H
def zNeP (K : PySem.W.Frag) : R2 := fun x y H Q => eqP K x y H fun k => Q (.bl (!k)) H
theorem opeq (hu : X.A.units + 64 < cLine) : OpR X (compareOp .Eq) (zEqP X.K) := fun pins s σ H x y v u Q I rx ry h => by
  rcases eqP_e h with h | h
  · exact op_eq pins s σ H x y v u Q I rx ry h
  · exact op_eqD hu pins s σ H x y v u Q I rx ry h
theorem opne (hu : X.A.units + 64 < cLine) : OpR X (compareOp .NotEq) (zNeP X.K) := fun pins s σ H x y v u Q I rx ry h => by
  rcases eqP_e (Q := fun k => Q (.bl (!k)) H) h with h | h
  · exact op_ne pins s σ H x y v u Q I rx ry h
  · exact op_neD hu pins s σ H x y v u Q I rx ry h
/-- x is None -/
def zIsP : R2 := fun x y H Q => match y with
  | .non => Q (.bl (decide (x = .non))) H
  | _ => False
def zIsnP : R2 := fun x y H Q => match y with
  | .non => Q (.bl (!decide (x = .non))) H
  | _ => False
theorem opis : OpR X (compareOp .Is) zIsP := op_imp op_isN fun x y H Q h => by
  cases y with
  | non => exact ⟨rfl, h⟩
  | _ => exact h.elim
theorem opisn : OpR X (compareOp .IsNot) zIsnP := op_imp op_notN fun x y H Q h => by
  cases y with
  | non => exact ⟨rfl, h⟩
  | _ => exact h.elim
end
end Ta

set_option Elab.async false
set_option linter.all false
set_option maxRecDepth 100000
set_option maxHeartbeats 1000000
namespace Ta
open PySem PySem.Spec PyProof.Rows L2

/-! ### items -/
structure itm {α : Type} (xs : List α) (i : Int) (k : α → Prop) : Prop where
  out : ∃ v, atI xs i = some v ∧ k v
theorem itm_i {α : Type} {xs : List α} {i : Int} {k : α → Prop} {v : α} (h : atI xs i = some v) (q : k v) : itm xs i k := by refine ⟨?_⟩; exact ⟨v, h, q⟩
theorem itm_e {α : Type} {xs : List α} {i : Int} {k : α → Prop} (q : itm xs i k) : ∃ v, atI xs i = some v ∧ k v := by replace q := q.out; exact q
theorem itm_n {α : Type} {xs : List α} {i : Int} {j : Nat} {k : α → Prop} {v : α} (e : i = (j : Int)) (h : xs[j]? = some v) (q : k v) : itm xs i k := by
  subst e; exact itm_i (atI_nat h) q
section
variable {X : Cx}
def zIxP (K : PySem.W.Frag) : R2 := fun x y H Q => match y with
  | .int i => (match x with
    | .str z => Lim (tl z).length ∧ itm (tl z) i fun c => Q (.str (S [c])) H
    | .ref p => look H p fun o => match o with
      | some (.lst xs) => itm xs i fun v => Q v H
      | some (.tup xs) => itm xs i fun v => Q v H
      | some (.frz _ (.lst xs)) => itm xs i fun v => Q v H
      | _ => ∃ xs, (SqL K H p xs ∨ SqT K H p xs) ∧ itm xs i fun v => Q v H
    | _ => False)
  | _ => False
theorem ixp : IxR X (zIxP X.K) := by
  refine ix_imp ix_seq fun x y H Q h => ?_
  cases y with
  | int i =>
    cases x with
    | str z =>
      obtain ⟨h1, h2⟩ := h
      obtain ⟨c, e, q⟩ := itm_e h2
      exact .inr (.inr ⟨z, i, c, rfl, rfl, by rw [len_tl]; exact h1, e, q⟩)
    | ref p =>
      have h := look_e h
      have fin : ∀ xs, SqL X.K H p xs ∨ SqT X.K H p xs → (itm xs i fun v => Q v H) → rIx X.K (.ref p) (.int i) H Q := fun xs hs h2 => by
        obtain ⟨v, e, q⟩ := itm_e h2
        rcases hs with hs | hs
        · exact .inl ⟨p, xs, i, v, rfl, rfl, hs, e, q⟩
        · exact .inr (.inl ⟨p, xs, i, v, rfl, rfl, hs, e, q⟩)
      revert h
      cases e : H p with
      | none => exact fun ⟨xs, h1, h2⟩ => fin xs h1 h2
      | some o =>
        cases o with
        | lst xs => exact fun h2 => fin xs (.inl (SqL.of e)) h2
        | tup xs => exact fun h2 => fin xs (.inr (SqT.of e)) h2
        | frz ob u =>
          cases u with
          | lst xs => exact fun h2 => fin xs (.inl (.inl (.inr ⟨_, e⟩))) h2
          | _ => exact fun ⟨xs, h1, h2⟩ => fin xs h1 h2
        | _ => exact fun ⟨xs, h1, h2⟩ => fin xs h1 h2
    | _ => exact h.elim
  | _ => exact h.elim
variable {a b c : Expr} {ta tb tc : TE} {pos : Pos}
theorem pix (ha : PE X a ta) (hb : PE X b tb) (hs : PlainIx b := by exact fun _ _ => rfl) : PE X (.Subscript a b pos) (tOp (zIxP X.K) ta tb) := pe_ix ixp ha hb hs

/-! ### slices -/
def cut0 {α : Type} (xs : List α) (lo hi : Option Int) : List α := (xs.drop (HT.sIx xs.length 0 lo)).take (HT.sIx xs.length xs.length hi - HT.sIx xs.length 0 lo)
def ixS (n : Nat) (i : Int) : Nat := match i with
  | .ofNat k => k
  | .negSucc k => n - (k + 1)
/-- xs[lo:hi], as take and drop -/
def cut {α : Type} (xs : List α) (lo hi : Option Int) : List α := match hi with
  | none => (match lo with
    | none => xs
    | some i => xs.drop (ixS xs.length i))
  | some j => (match lo with
    | none => xs.take (ixS xs.length j)
    | some i => (xs.take (ixS xs.length j)).drop (ixS xs.length i))
theorem sIx_ixS (n d : Nat) (i : Int) : HT.sIx n d (some i) = min (ixS n i) n := by
  cases i with
  | ofNat k => exact HT.sIx_nat n d k
  | negSucc k =>
    show (if (Int.negSucc k) < 0 then (Int.negSucc k + (n : Int)).toNat else min (Int.negSucc k).toNat n) = min (n - (k + 1)) n
    rw [if_pos (by omega)]; omega
theorem take_min {α : Type} (xs : List α) (k : Nat) : xs.take (min k xs.length) = xs.take k := by
  rw [List.take_eq_take_iff]; omega
theorem drop_min {α : Type} (xs : List α) (k : Nat) : xs.drop (min k xs.length) = xs.drop k := by
  by_cases h : k ≤ xs.length
  · rw [Nat.min_eq_left h]
  · rw [Nat.min_eq_right (by omega), List.drop_eq_nil_of_le (Nat.le_refl _), List.drop_eq_nil_of_le (by omega)]
theorem cut_eq0 {α : Type} (xs : List α) (lo hi : Option Int) : cut0 xs lo hi = cut xs lo hi := by
  unfold cut0
  rw [← List.drop_take]
  cases hi with
  | none =>
    cases lo with
    | none => rw [HT.sIx_none, HT.sIx_none, List.take_length]; rfl
    | some i => rw [HT.sIx_none, sIx_ixS, List.take_length]; exact drop_min xs _
  | some j =>
    rw [sIx_ixS, take_min]
    cases lo with
    | none => rfl
    | some i =>
      rw [sIx_ixS]
      show (xs.take (ixS xs.length j)).drop (min (ixS xs.length i) xs.length) = (xs.take (ixS xs.length j)).drop (ixS xs.length i)
      by_cases h : ixS xs.length i ≤ xs.length
      · rw [Nat.min_eq_left h]
      · rw [Nat.min_eq_right (by omega), List.drop_eq_nil_of_le (by rw [List.length_take]; omega), List.drop_eq_nil_of_le (by rw [List.length_take]; omega)]
theorem cutS_S (z : Str) (lo hi : Option Int) : cutS z lo hi = S (cut (tl z) lo hi) := by
  rw [← cut_eq0]
  unfold cutS cut0
  simp only [len_tl]
theorem cut_len {α : Type} (xs : List α) (lo hi : Option Int) : (cut xs lo hi).length ≤ xs.length := by
  rw [← cut_eq0]; unfold cut0; rw [List.length_take, List.length_drop]; omega
theorem cut_to {α : Type} (xs : List α) (k : Nat) : cut xs none (some (k : Int)) = xs.take k := rfl
theorem cut_from {α : Type} (xs : List α) (k : Nat) : cut xs (some (k : Int)) none = xs.drop k := rfl
theorem cut_both {α : Type} (xs : List α) (i j : Nat) : cut xs (some (i : Int)) (some (j : Int)) = (xs.take j).drop i := rfl
theorem cut_toI {α : Type} (xs : List α) {k : Int} (h : 0 ≤ k) : cut xs none (some k) = xs.take k.toNat := by
  obtain ⟨n, rfl⟩ := Int.eq_ofNat_of_zero_le h; exact cut_to xs n
theorem cut_fromI {α : Type} (xs : List α) {k : Int} (h : 0 ≤ k) : cut xs (some k) none = xs.drop k.toNat := by
  obtain ⟨n, rfl⟩ := Int.eq_ofNat_of_zero_le h; exact cut_from xs n
def zSlP (K : PySem.W.Frag) : V → Option Int → Option Int → Hp → VK → Prop := fun x lo hi H Q => match x with
  | .str z => Lim (tl z).length ∧ Q (.str (S (cut (tl z) lo hi))) H
  | .ref p => look H p fun o => match o with
    | some (.lst xs) => ∀ p', H p' = none → Q (.ref p') (upd H p' (.lst (cut xs lo hi)))
    | some (.frz _ (.lst xs)) => ∀ p', H p' = none → Q (.ref p') (upd H p' (.lst (cut xs lo hi)))
    | _ => False
  | _ => False
theorem slp : SlR X (zSlP X.K) := by
  refine sl_imp (sl_str.or sl_list) fun x lo hi H Q h => ?_
  cases x with
  | str z => exact .inl ⟨z, rfl, by rw [len_tl]; exact h.1, by rw [cutS_S]; exact h.2⟩
  | ref p =>
    have h := look_e h
    revert h
    cases e : H p with
    | none => exact fun h => h.elim
    | some o =>
      cases o with
      | lst xs => exact fun h2 => .inr ⟨p, xs, rfl, SqL.of e, (cut_eq0 xs lo hi ▸ h2 : ∀ p', H p' = none → Q (V.ref p') (upd H p' (HO.lst (cut0 xs lo hi))))⟩
      | frz ob u =>
        cases u with
        | lst xs => exact fun h2 => .inr ⟨p, xs, rfl, .inl (.inr ⟨_, e⟩), (cut_eq0 xs lo hi ▸ h2 : ∀ p', H p' = none → Q (V.ref p') (upd H p' (HO.lst (cut0 xs lo hi))))⟩
        | _ => exact fun h => h.elim
      | _ => exact fun h => h.elim
  | _ => exact h.elim
def tPrt (t : TE) : TO := fun σ H Q => t σ H fun x H1 => match x with
  | .int i => Q (some i) H1
  | _ => False
theorem posome (h : PE X a ta) : PO X (some a) (tPrt ta) := by
  refine ⟨fun pins s σ H Q I hw => ?_⟩
  rw [evalPart_some]
  refine thn (h.run pins s σ H _ I hw) fun u s1 ⟨x, H1, I1, r1, q1⟩ => ?_
  cases x with
  | int i =>
    obtain ⟨t, rfl⟩ := r1
    exact ⟨some i, H1, I1, .int i t, q1⟩
  | _ => exact False.elim q1
theorem psl {lo hi : Option Expr} {t1 t2 : TO} {p2 : Pos} (ha : PE X a ta) (hl : PO X lo t1) (hh : PO X hi t2) : PE X (.Subscript a (.Slice lo hi none p2) pos) (tSl (zSlP X.K) ta t1 t2) := pe_slice slp ha hl hh

/-! ### in -/
def occ (a b : List Nat) : Bool := !(Builtin.Str.occurrences (S b) (S a) 0 (S b).length 1).isEmpty
def inP (K : PySem.W.Frag) (x y : V) (H : Hp) (Q : Bool → Prop) : Prop := match y with
  | .str b => (match x with
    | .str a => (match tl a with
      | [c] => Q (decide (c ∈ tl b))
      | l => Q (occ l (tl b)))
    | _ => False)
  | .ref p => look H p fun o => match o with
    | some (.lst xs) => flatV x = true ∧ xs.all flatV = true ∧ Q (inV x xs)
    | some (.tup xs) => flatV x = true ∧ xs.all flatV = true ∧ Q (inV x xs)
    | some (.frz _ (.lst xs)) => flatV x = true ∧ xs.all flatV = true ∧ Q (inV x xs)
    | _ => ∃ xs, (SqL K H p xs ∨ SqT K H p xs) ∧ flatV x = true ∧ xs.all flatV = true ∧ Q (inV x xs)
  | _ => False
theorem inP_e {K : PySem.W.Frag} {x y : V} {H : Hp} {Q : Bool → Prop} (h : inP K x y H Q) :
    (∃ (c : Nat) (z : Str), x = .str ⟨#[c]⟩ ∧ y = .str z ∧ Q (decide (c ∈ z.cps.toList))) ∨ (∃ i j, x = .str i ∧ y = .str j ∧ Q (!(Builtin.Str.occurrences j i 0 j.length 1).isEmpty)) ∨
    ∃ p xs, y = .ref p ∧ (SqL K H p xs ∨ SqT K H p xs) ∧ flatV x = true ∧ xs.all flatV = true ∧ Q (inV x xs) := by
  cases y with
  | str b =>
    cases x with
    | str a =>
      have h' : (match tl a with
        | [c] => Q (decide (c ∈ tl b))
        | l => Q (occ l (tl b))) := h
      split at h'
      · rename_i c e
        exact .inl ⟨c, b, by rw [← S_tl a, e], rfl, h'⟩
      · refine .inr (.inl ⟨a, b, rfl, rfl, ?_⟩)
        unfold occ at h'
        rw [S_tl, S_tl] at h'
        exact h'
    | _ => exact h.elim
  | ref p =>
    have h := look_e h
    revert h
    cases e : H p with
    | none => exact fun ⟨xs, h1, h2⟩ => .inr (.inr ⟨p, xs, rfl, h1, h2⟩)
    | some o =>
      cases o with
      | lst xs => exact fun h2 => .inr (.inr ⟨p, xs, rfl, .inl (SqL.of e), h2⟩)
      | tup xs => exact fun h2 => .inr (.inr ⟨p, xs, rfl, .inr (SqT.of e), h2⟩)
      | frz ob u =>
        cases u with
        | lst xs => exact fun h2 => .inr (.inr ⟨p, xs, rfl, .inl (.inl (.inr ⟨_, e⟩)), h2⟩)
        | _ => exact fun ⟨xs, h1, h2⟩ => .inr (.inr ⟨p, xs, rfl, h1, h2⟩)
      | _ => exact fun ⟨xs, h1, h2⟩ => .inr (.inr ⟨p, xs, rfl, h1, h2⟩)
  | _ => exact h.elim
def zInP (K : PySem.W.Frag) : R2 := fun x y H Q => inP K x y H fun k => Q (.bl k) H
def zNinP (K : PySem.W.Frag) : R2 := fun x y H Q => inP K x y H fun k => Q (.bl (!k)) H
theorem opin : OpR X (compareOp .In) (zInP X.K) := by
  refine op_imp (op_in_sign.or (op_in_str.or op_in_seq)) fun x y H Q h => ?_
  rcases inP_e h with h | h | h
  · exact .inl h
  · exact .inr (.inl h)
  · exact .inr (.inr h)
theorem opnin : OpR X (compareOp .NotIn) (zNinP X.K) := by
  refine op_imp (op_notIn_sign.or (op_notin_str.or op_notIn_seq)) fun x y H Q h => ?_
  rcases inP_e (Q := fun k => Q (.bl (!k)) H) h with h | h | h
  · exact .inl h
  · exact .inr (.inl h)
  · exact .inr (.inr h)

/-! ### statements -/
variable {st : Stmt} {t u : TS} {rest : List Stmt} {tA : TT}
def tIfP (c : TT) (t u : TS) : TS := fun D σ H => c σ H fun b H1 => cnd b (t D σ H1) (u D σ H1)
theorem psif {p q : List Stmt} (hc : PT X c tA) (ha : PSs X p t) (hb : PSs X q u) : PS X (.If c p q pos) (tIfP tA t u) := by
  refine ⟨fun pins s σ H D I h => ?_⟩
  refine wpAny_If (thn (hc.run pins s σ H _ I h) fun d s1 ⟨H1, I1, q1⟩ => ?_)
  have q1 := cnd_e q1
  cases d with
  | true => exact ha.run pins s1 σ H1 D I1 q1
  | false => exact hb.run pins s1 σ H1 D I1 q1
/-- o[i] = e, o a list -/
def zSetP : TSet := fun o i v H Q => match o with
  | .ref p => (match i with
    | .int k => look H p fun ob => (match ob with
      | some (.lst xs) => ∃ j, ixN xs.length k = some j ∧ Q (upd H p (.lst (xs.set j v)))
      | _ => False)
    | _ => False)
  | _ => False
theorem setp : PSet X zSetP := by
  have base : ∀ o i v H Q, zSetP o i v H Q → rSetL o i v H Q := fun o i v H Q h => by
    cases o with
    | ref p => cases i with
      | int k =>
        have h := look_e h
        revert h
        cases e : H p with
        | none => exact fun h => h.elim
        | some ob =>
          cases ob with
          | lst xs => exact fun ⟨j, h1, h2⟩ => ⟨p, xs, k, j, rfl, rfl, e, h1, h2⟩
          | _ => exact fun h => h.elim
      | _ => exact h.elim
    | _ => exact h.elim
  intro pins s σ H o i v ov iv vv Q I r1 r2 r3 h
  exact set_list pins s σ H o i v ov iv vv Q I r1 r2 r3 (base _ _ _ _ _ h)
end
end Ta

set_option Elab.async false
set_option linter.all false
set_option maxRecDepth 100000
set_option maxHeartbeats 1000000
namespace Ta
open PySem PySem.Spec PyProof.Rows L2

/-! ### defs, methods, classes of the text -/
section
variable (P : Program) (w : World) (K : PySem.W.Frag) (mg : Str → Option Value) (base : Heap)
structure Fn (x : Str) (lv : Nat) (dvs : List V) (sp : Sp) : Prop where
  ex : ∃ (f : Addr) (fd : FuncData) (ps : List Str) (ds : List Value), FnOk P w K mg base (L2.CX P w) lv f fd ps sp ∧ mg x = some (.ref f) ∧ PySem.W.keepIn K (.ref f) = true ∧ Vals dvs ds ∧ Binds K fd ps ds
structure Me (C : Addr) (m : Str) (lv : Nat) (dvs : List V) (sp : Sp) : Prop where
  ex : ∃ (f : Addr) (fd : FuncData) (ps : List Str) (ds : List Value), FnOk P w K mg base (L2.CX P w) lv f fd ps sp ∧ Meth K C m f ∧ Vals dvs ds ∧ Binds K fd ps ds
  cl : Cls K C
structure Mks (x : Str) (C : Addr) (lv : Nat) (dvs : List V) (sp : Sp) : Prop where
  ex : ∃ (f : Addr) (fd : FuncData) (ps : List Str) (ds : List Value), FnOk P w K mg base (L2.CX P w) lv f fd ps sp ∧ Mk K C f ∧ mg x = some (.ref C) ∧ Vals dvs ds ∧ Binds K fd ps ds
end
abbrev WF : WX := fun _ _ _ _ => False
/-- f(..) -/
def tCal (sp : Sp) (dvs : List V) (W : WX) (t : TA) : TE := fun σ H Q => t σ H fun vs H1 => sp (vs ++ dvs) H1 Q fun c d H' => W c d σ H'
/-- C(..) -/
def tMak (C : Addr) (sp : Sp) (dvs : List V) (W : WX) (t : TA) : TE := fun σ H Q => t σ H fun vs H1 => ∀ x dx, H1 x = none → H1 dx = none → dx ≠ x →
  sp (.ref x :: (vs ++ dvs)) (upd (upd H1 dx (.own x)) x (.ins C dx [])) (fun v H2 => v = .non ∧ Q (.ref x) H2) fun c d H' => W c d σ H'
abbrev MS := List (Addr × List V × Sp)
structure pick (ms : MS) (C : Addr) (k : List V → Sp → Prop) : Prop where
  out : ∃ e ∈ ms, e.1 = C ∧ k e.2.1 e.2.2
theorem pick_1 {C : Addr} {dvs : List V} {sp : Sp} {k : List V → Sp → Prop} {r : MS} (h : k dvs sp) : pick ((C, dvs, sp) :: r) C k := by refine ⟨?_⟩; exact ⟨_, List.mem_cons_self, rfl, h⟩
theorem pick_n {ms : MS} {C : Addr} {k : List V → Sp → Prop} {e} (h : pick ms C k) : pick (e :: ms) C k := by
  replace h := h.out; refine ⟨?_⟩
  obtain ⟨e', h1, h2⟩ := h
  exact ⟨e', List.mem_cons_of_mem _ h1, h2⟩
/-- o.m(..) -/
def tMe (ms : MS) (m : Str) (W : WX) (ta : TE) (t : TA) : TE := fun σ H Q => ta σ H fun x H1 => match x with
  | .ref a => look H1 a fun o => (match o with
    | some (.ins C dx fs) => pick ms C fun dvs sp => fs.lookup m = none ∧ t σ H1 fun vs H2 => sp (.ref a :: (vs ++ dvs)) H2 Q fun c d H' => W c d σ H'
    | _ => False)
  | _ => False
section
variable {X : Cx} {x m : Str} {p pos apos : Pos} {e o : Expr} {es : List Expr} {ta : TE} {t : TA} {lv : Nat} {dvs : List V} {sp : Sp} {W : WX} {C : Addr}
theorem pcall (F : Fn X.prog X.w X.K X.mg X.base x lv dvs sp) (hr : Room lv X.A) (tk : Takes X W) (ha : PA X (e :: es) t) (hg : Gl X x := by rfl) (hdb : (x == ("__debug__" : Str)) = false := by decide +kernel)
    (he : starEach (e :: es) X.env = (false, eval e X.env) :: starEach es X.env := by rfl) (hpl : (backTo pos (starEach es X.env)).any (·.1) = false := by rfl) :
    PE X (.Call (.Name x p) (e :: es) [] pos) (tCal sp dvs W t) := by
  obtain ⟨f, fd, ps, ds, F, hm, hk, hd, hb⟩ := F.ex
  refine ⟨fun pins s σ H Q I h => ?_⟩
  refine wpAny_Call_Name_kw (ld_glob I hg hm ?_ hdb)
  refine PySem.W.callWith_K (h₀ := X.base) I.ok.mod.kin hk (thn (ha.run pos pins s σ H _ I h) fun us s1 ⟨vs, H1, I1, r, q⟩ => ⟨I1.kIn, ?_⟩) he hpl
  exact run_fnSD (E := WE W) F hr hb hd (passAt tk σ) I1 r q
theorem pcall0 (F : Fn X.prog X.w X.K X.mg X.base x lv dvs sp) (hr : Room lv X.A) (tk : Takes X W) (hg : Gl X x := by rfl) (hdb : (x == ("__debug__" : Str)) = false := by decide +kernel) :
    PE X (.Call (.Name x p) [] [] pos) (tCal sp dvs W tNil) := by
  obtain ⟨f, fd, ps, ds, F, hm, hk, hd, hb⟩ := F.ex
  refine ⟨fun pins s σ H Q I h => ?_⟩
  refine wpAny_Call_Name_kw (ld_glob I hg hm ?_ hdb)
  exact PySem.W.callWith_K0 I.kIn hk (run_fnSD (E := WE W) (us := []) F hr hb hd (passAt tk σ) I .nil h)
theorem run_makeS {pins : List (Addr × Obj)} {σ : St} {H : Hp} {s : Shared} {Q : VK} {us ds : List Value} {vs : List V} {f : Addr} {fd : FuncData} {ps : List Str} (M : Mk X.K C f) (F : FnOk X.prog X.w X.K X.mg X.base (L2.CX X.prog X.w) lv f fd ps sp) (hr : Room (lv + 1) X.A)
    (hb : Binds X.K fd ps ds) (hd : Vals dvs ds) (tk : Takes X W) (I : Inv X pins σ H s) (r : Vals vs us)
    (h : ∀ x dx, H x = none → H dx = none → dx ≠ x → sp (.ref x :: (vs ++ dvs)) (upd (upd H dx (.own x)) x (.ins C dx [])) (fun v H2 => v = .non ∧ Q (.ref x) H2) fun c d H' => W c d σ H') :
    wpAny (model X.prog X.w) X.A (call (.ref C) us) (EP X pins σ Q) X.xe s := by
  have hq := h (s.heap.objs.size + 1) s.heap.objs.size (I.hok.fresh (Nat.le_succ _)) (I.hok.fresh (Nat.le_refl _)) (Nat.ne_of_lt (Nat.lt_succ_self _))
  have I2 := Inv.made (C := C) I
  have r2 : Vals (V.ref (s.heap.objs.size + 1) :: (vs ++ dvs)) (Value.ref (s.heap.objs.size + 1) :: (us ++ ds)) := .cons rfl (r.append hd)
  have hl : (Value.ref (s.heap.objs.size + 1) :: us ++ ds).length = ps.length := by
    have e := r2.length
    rw [F.len _ _ _ _ hq] at e
    exact e.symm
  refine wpAny_call (make_map (f := f) I.kIn M.makes M.init (beq_iff_eq.mp M.fn) (codeAny_mono (F.run _ X.stack _ _ ⟨Value.ref (s.heap.objs.size + 1) :: us, []⟩ (Value.ref (s.heap.objs.size + 1) :: (us ++ ds)) _ _ (WE W σ) (hr.make C us [])
    (I2.env0.make C us []) (hb _ (Value.ref (s.heap.objs.size + 1) :: us) I2.kIn hl) r2 hq) fun r s' hq' => ?_))
  cases r with
  | error e => exact passAt tk σ pins _ _ e s' I2 hq'
  | ok fl =>
    cases fl with
    | ret u =>
      obtain ⟨v, H', I3, rv, ev, q3⟩ := I2.after hq'
      subst ev
      exact ⟨rv, ⟨V.ref (s.heap.objs.size + 1), H', I3, rfl, q3⟩⟩
    | next => exact False.elim hq'
    | brk => exact False.elim hq'
    | cont => exact False.elim hq'
theorem pmak (F : Mks X.prog X.w X.K X.mg X.base x C lv dvs sp) (hr : Room (lv + 1) X.A) (tk : Takes X W) (ha : PA X (e :: es) t) (hg : Gl X x := by rfl) (hdb : (x == ("__debug__" : Str)) = false := by decide +kernel)
    (he : starEach (e :: es) X.env = (false, eval e X.env) :: starEach es X.env := by rfl) (hpl : (backTo pos (starEach es X.env)).any (·.1) = false := by rfl) :
    PE X (.Call (.Name x p) (e :: es) [] pos) (tMak C sp dvs W t) := by
  obtain ⟨f, fd, ps, ds, F, M, hm, hd, hb⟩ := F.ex
  refine ⟨fun pins s σ H Q I h => ?_⟩
  refine wpAny_Call_Name_kw (ld_glob I hg hm ?_ hdb)
  refine PySem.W.callWith_K (h₀ := X.base) I.ok.mod.kin M.kp (thn (ha.run pos pins s σ H _ I h) fun us s1 ⟨vs, H1, I1, r, q⟩ => ⟨I1.kIn, ?_⟩) he hpl
  exact run_makeS M F hr hb hd tk I1 r q
theorem tMe_e {ms : MS} {a : Addr} {H : Hp} {k : List V → Sp → List (Str × V) → Prop} (h : look H a fun o => (match o with
    | some (.ins C dx fs) => pick ms C fun dvs sp => k dvs sp fs
    | _ => False)) : ∃ C dx fs, H a = some (.ins C dx fs) ∧ ∃ e ∈ ms, e.1 = C ∧ k e.2.1 e.2.2 fs := by
  have h := look_e h
  revert h
  cases e : H a with
  | none => exact fun h => h.elim
  | some o =>
    cases o with
    | ins C dx fs => exact fun h => ⟨C, dx, fs, rfl, by replace h := h.out; exact h⟩
    | _ => exact fun h => h.elim
theorem pmeth {ms : MS} {pl : Sem Bool} (hms : ∀ e ∈ ms, Me X.prog X.w X.K X.mg X.base e.1 m lv e.2.1 e.2.2) (hr : Room lv X.A) (tk : Takes X W) (ho : PE X o ta) (ha : PA X (e :: es) t)
    (hst : starEach (e :: es) X.env = (false, eval e X.env) :: starEach es X.env := by rfl) (hpl : (backTo pos (starEach es X.env)).any (·.1) = false := by rfl)
    (ht : eval (.Call (.Attribute o m apos) (e :: es) [] pos) X.env = (do
      let ov ← eval o X.env
      standAt apos.atName
      let (f, first) ← holding [ov] (getMethod ov m pl)
      callWith pos f first (backTo pos (starEach (e :: es) X.env)) (backToKw pos (keywordEach [] X.env))) := by rfl) :
    PE X (.Call (.Attribute o m apos) (e :: es) [] pos) (tMe ms m W ta t) := by
  refine ⟨fun pins s σ H Q I h => ?_⟩
  refine PySem.W.methodCall_KW (pl := pl) (thn (ho.run pins s σ H _ I h) fun u s1 ⟨x, H1, I1, rx, q⟩ => ?_) ht
  cases x with
  | ref a =>
    obtain rfl : u = Value.ref a := rx
    obtain ⟨C, dx, fs, ea, en, hen, eC, l, q⟩ := tMe_e (k := fun dvs sp fs => fs.lookup m = none ∧ t σ H1 fun vs H2 => sp (.ref a :: (vs ++ dvs)) H2 Q fun c d H' => W c d σ H') q
    obtain ⟨⟨f, fd, ps, ds, F, hm, hd, hb⟩, cl⟩ := hms en hen
    rw [← eC] at ea
    refine getmeth_ok I1 ea cl hm l ?_
    refine PySem.W.callWith_K (first := [.ref a]) (h₀ := X.base) I.ok.mod.kin hm.kp (thn (ha.run pos pins s1 σ H1 _ I1 q) fun us s2 ⟨vs, H2, I2, r, q2⟩ => ⟨I2.kIn, ?_⟩) hst hpl
    exact run_fnSD (E := WE W) (us := .ref a :: us) (vs := .ref a :: vs) F hr hb hd (passAt tk σ) I2 (.cons rfl r) q2
  | _ => exact False.elim q
theorem pmeth0 {ms : MS} {pl : Sem Bool} (hms : ∀ e ∈ ms, Me X.prog X.w X.K X.mg X.base e.1 m lv e.2.1 e.2.2) (hr : Room lv X.A) (tk : Takes X W) (ho : PE X o ta)
    (ht : eval (.Call (.Attribute o m apos) [] [] pos) X.env = (do
      let ov ← eval o X.env
      standAt apos.atName
      let (f, first) ← holding [ov] (getMethod ov m pl)
      callWith pos f first (backTo pos (starEach [] X.env)) (backToKw pos (keywordEach [] X.env))) := by rfl) :
    PE X (.Call (.Attribute o m apos) [] [] pos) (tMe ms m W ta tNil) := by
  refine ⟨fun pins s σ H Q I h => ?_⟩
  refine PySem.W.methodCall_KW (pl := pl) (thn (ho.run pins s σ H _ I h) fun u s1 ⟨x, H1, I1, rx, q⟩ => ?_) ht
  cases x with
  | ref a =>
    obtain rfl : u = Value.ref a := rx
    obtain ⟨C, dx, fs, ea, en, hen, eC, l, q⟩ := tMe_e (k := fun dvs sp fs => fs.lookup m = none ∧ tNil σ H1 fun vs H2 => sp (.ref a :: (vs ++ dvs)) H2 Q fun c d H' => W c d σ H') q
    obtain ⟨⟨f, fd, ps, ds, F, hm, hd, hb⟩, cl⟩ := hms en hen
    rw [← eC] at ea
    refine getmeth_ok I1 ea cl hm l ?_
    exact PySem.W.callWith_K0 (first := [.ref a]) I1.kIn hm.kp (run_fnSD (E := WE W) (us := [.ref a]) (vs := [.ref a]) F hr hb hd (passAt tk σ) I1 (.cons rfl .nil) q)
  | _ => exact False.elim q

/-! ### attributes -/
structure fld (fs : List (Str × V)) (f : Str) (k : V → Prop) : Prop where
  out : ∃ v, fs.lookup f = some v ∧ k v
theorem fld_i {fs : List (Str × V)} {f : Str} {k : V → Prop} {v : V} (h : fs.lookup f = some v) (q : k v) : fld fs f k := by refine ⟨?_⟩; exact ⟨v, h, q⟩
theorem fld_e {fs : List (Str × V)} {f : Str} {k : V → Prop} (q : fld fs f k) : ∃ v, fs.lookup f = some v ∧ k v := by replace q := q.out; exact q
/-- e.f, a field of an instance -/
def tAt (K : PySem.W.Frag) (ta : TE) (f : Str) : TE := fun σ H Q => ta σ H fun x H1 => match x with
  | .ref a => look H1 a fun o => (match o with
    | some (.ins C dx fs) => Cls K C ∧ NoAttr K C f ∧ fld fs f fun v => Q v H1
    | _ => False)
  | _ => False
theorem patt {f : Str} (he : PE X e ta) (hb : attributeBase e f X.env (eval e X.env) = eval e X.env := by rfl) : PE X (.Attribute e f pos) (tAt X.K ta f) := by
  refine ⟨fun pins s σ H Q I h => ?_⟩
  refine attr_of hb (thn (he.run pins s σ H _ I h) fun u s1 ⟨x, H1, I1, rx, q⟩ => ?_)
  cases x with
  | ref a =>
    obtain rfl : u = Value.ref a := rx
    have q := look_e q
    cases ea : H1 a with
    | none => rw [ea] at q; exact q.elim
    | some o =>
      rw [ea] at q
      cases o with
      | ins C dx fs =>
        obtain ⟨c, n, q⟩ := q
        obtain ⟨v, l, q⟩ := fld_e q
        exact getattr_ok I1 ea c n l fun u' s2 I2 r2 => ⟨v, H1, I2, r2, q⟩
      | _ => exact q.elim
  | _ => exact False.elim q
/-- e.f, a constant of the instance's class -/
def tAtC (K : PySem.W.Frag) (ta : TE) (f : Str) (v0 : V) : TE := fun σ H Q => ta σ H fun x H1 => match x with
  | .ref a => look H1 a fun o => (match o with
    | some (.ins C dx fs) => Cls K C ∧ (∃ u, Con K C f v0 u) ∧ fs.lookup f = none ∧ Q v0 H1
    | _ => False)
  | _ => False
theorem pattC {f : Str} (v0 : V) (he : PE X e ta) (hb : attributeBase e f X.env (eval e X.env) = eval e X.env := by rfl) : PE X (.Attribute e f pos) (tAtC X.K ta f v0) := by
  refine ⟨fun pins s σ H Q I h => ?_⟩
  refine attr_of hb (thn (he.run pins s σ H _ I h) fun u s1 ⟨x, H1, I1, rx, q⟩ => ?_)
  cases x with
  | ref a =>
    obtain rfl : u = Value.ref a := rx
    have q := look_e q
    cases ea : H1 a with
    | none => rw [ea] at q; exact q.elim
    | some o =>
      rw [ea] at q
      cases o with
      | ins C dx fs =>
        obtain ⟨c, ⟨u, n⟩, l, q⟩ := q
        exact getcon_ok I1 ea c n l fun s2 I2 => ⟨v0, H1, I2, n.rel, q⟩
      | _ => exact q.elim
  | _ => exact False.elim q
/-- C.f, C a class of the text by its name -/
structure ClsConst (K : PySem.W.Frag) (mg : Str → Option Value) (x f : Str) (v : V) : Prop where
  ex : ∃ C mc u, mg x = some (.ref C) ∧ ClX.CRead K C mc ∧ ClX.CVal K C mc f v u
theorem pclv {f : Str} {v0 : V} (h : ClsConst X.K X.mg x f v0) (hg : Gl X x := by rfl) (hdb : (x == ("__debug__" : Str)) = false := by decide +kernel)
    (hb : attributeBase (.Name x p) f X.env (eval (.Name x p) X.env) = eval (.Name x p) X.env := by rfl) : PE X (.Attribute (.Name x p) f pos) (tC v0) := by
  obtain ⟨C, mc, u, hm, r, c⟩ := h.ex
  exact pe_imp (ClX.pe_cval (pe_glob (v := .ref C) hg hm rfl hdb) hb) fun _ _ _ h => ⟨C, mc, v0, u, rfl, r, c, h⟩
/-- a module's constant -/
structure GlobV (mg : Str → Option Value) (x : Str) (v : V) : Prop where
  ex : ∃ u, mg x = some u ∧ RelV v u
theorem pglo {v0 : V} (h : GlobV X.mg x v0) (hg : Gl X x := by rfl) (hdb : (x == ("__debug__" : Str)) = false := by decide +kernel) : PE X (.Name x p) (tC v0) := by
  obtain ⟨u, hm, r⟩ := h.ex
  exact pe_glob hg hm r hdb
/-- a built-in type by its name -/
theorem pbty {T : String} (hm : X.mg x = none) (hv : bootBuiltins x = some (.type T) := by decide +kernel) (hg : Gl X x := by rfl) (hn : x ≠ "__name__" := by decide +kernel) (hd : (x == ("__debug__" : Str)) = false := by decide +kernel) : PE X (.Name x p) (tC (.ty T)) :=
  pe_bltn (v := .ty T) hg hm hv rfl hn hd
/-- o.f = e -/
def sAt (K : PySem.W.Frag) (ta tv : TE) (f : Str) : TS := fun D σ H => tv σ H fun y H1 => ta σ H1 fun x H2 => match x with
  | .ref a => look H2 a fun ob => (match ob with
    | some (.ins C dx fs) => Cls K C ∧ NoAttr K C f ∧ fs.length < 1000 ∧ D.nx σ (upd H2 a (.ins C dx (putF f y fs)))
    | _ => False)
  | _ => False
theorem sAt_e {K : PySem.W.Frag} {x : V} {f : Str} {y : V} {H : Hp} {k : Hp → Prop} (h : match x with
  | .ref a => look H a fun ob => (match ob with
    | some (.ins C dx fs) => Cls K C ∧ NoAttr K C f ∧ fs.length < 1000 ∧ k (upd H a (.ins C dx (putF f y fs)))
    | _ => False)
  | _ => False) : ∃ a C dx fs, x = .ref a ∧ H a = some (.ins C dx fs) ∧ Cls K C ∧ NoAttr K C f ∧ fs.length < 1000 ∧ k (upd H a (.ins C dx (putF f y fs))) := by
  cases x with
  | ref a =>
    have h := look_e h
    cases ea : H a with
    | none => rw [ea] at h; exact h.elim
    | some o =>
      rw [ea] at h
      cases o with
      | ins C dx fs => exact ⟨a, C, dx, fs, rfl, ea, h⟩
      | _ => exact h.elim
  | _ => exact h.elim
theorem psat {f : Str} {value : Expr} {tv : TE} {pos' : Pos} (ha : PE X o ta) (hv : PE X value tv) (hs : swapsWith value (some (.Attribute o f pos')) pos.line X.env = pure false := by rfl) : PS X (.Assign [.Attribute o f pos'] value pos) (sAt X.K ta tv f) := by
  refine ⟨fun pins s σ H D I h => ?_⟩
  refine plainObj_wpAny_Assign_Attribute (thn (hv.run pins s σ H _ I h) fun v s1 ⟨y, H1, I1, r1, q1⟩ => thn (ha.run pins s1 σ H1 _ I1 q1) fun u s2 ⟨x, H2, I2, r2, q⟩ => ?_) hs
  obtain ⟨a, C, dx, fs, rfl, ea, c, n, hl, q⟩ := sAt_e q
  obtain rfl : u = Value.ref a := r2
  exact setattr_ok I2 ea c n hl r1 fun s' I' => ⟨σ, _, I', q⟩
end

/-! ### built-in calls -/
section
variable {X : Cx}
def lenP (K : PySem.W.Frag) (x : V) (H : Hp) (Q : Nat → Prop) : Prop := match x with
  | .str z => Lim (tl z).length ∧ Q (tl z).length
  | .ref p => look H p fun o => (match o with
    | some (.lst xs) => Q xs.length
    | some (.tup xs) => Q xs.length
    | some (.frz _ (.lst xs)) => Q xs.length
    | _ => ∃ xs, (SqL K H p xs ∨ SqT K H p xs) ∧ Q xs.length)
  | _ => False
def one (xs : List V) (k : V → Prop) : Prop := match xs with
  | [x] => k x
  | _ => False
def two (xs : List V) (k : V → V → Prop) : Prop := match xs with
  | [x, y] => k x y
  | _ => False
theorem one_e {xs : List V} {k : V → Prop} (h : one xs k) : ∃ x, xs = [x] ∧ k x := by
  match xs, h with
  | [x], h => exact ⟨x, rfl, h⟩
theorem two_e {xs : List V} {k : V → V → Prop} (h : two xs k) : ∃ x y, xs = [x, y] ∧ k x y := by
  match xs, h with
  | [x, y], h => exact ⟨x, y, rfl, h⟩
def zLen (K : PySem.W.Frag) : List V → Hp → VK → Prop := fun xs H Q => one xs fun x => lenP K x H fun n => Q (.int n) H
theorem crlen : CallR X (.builtin "len") (zLen X.K) := by
  refine cr_imp (call_len_seq.or call_len_str) fun xs H Q h => ?_
  obtain ⟨x, rfl, h⟩ := one_e h
  cases x with
  | str z => exact .inr ⟨z, rfl, by rw [len_tl]; exact h.1, by rw [len_tl]; exact h.2⟩
  | ref p =>
    have h := look_e h
    revert h
    cases e : H p with
    | none => exact fun ⟨xs, h1, h2⟩ => .inl ⟨p, xs, rfl, h1, h2⟩
    | some o =>
      cases o with
      | lst xs => exact fun h2 => .inl ⟨p, xs, rfl, .inl (SqL.of e), h2⟩
      | tup xs => exact fun h2 => .inl ⟨p, xs, rfl, .inr (SqT.of e), h2⟩
      | frz ob u =>
        cases u with
        | lst xs => exact fun h2 => .inl ⟨p, xs, rfl, .inl (.inl (.inr ⟨_, e⟩)), h2⟩
        | _ => exact fun ⟨xs, h1, h2⟩ => .inl ⟨p, xs, rfl, h1, h2⟩
      | _ => exact fun ⟨xs, h1, h2⟩ => .inl ⟨p, xs, rfl, h1, h2⟩
  | _ => exact h.elim
def zAbs : List V → Hp → VK → Prop := fun xs H Q => one xs fun x => match x with
  | .int i => Q (.int (if i < 0 then -i else i)) H
  | _ => False
theorem crabs : CallR X (.builtin "abs") zAbs := cr_imp call_abs fun xs H Q h => by
  obtain ⟨x, rfl, h⟩ := one_e h
  cases x with
  | int i => exact ⟨i, rfl, h⟩
  | _ => exact h.elim
def zInt : List V → Hp → VK → Prop := fun xs H Q => one xs fun x => match x with
  | .int i => Q (.int i) H
  | .bl b => Q (.int (if b then 1 else 0)) H
  | _ => False
theorem crint : CallR X (.type "int") zInt := cr_imp call_int1 fun xs H Q h => by
  obtain ⟨x, rfl, h⟩ := one_e h
  cases x with
  | int i => exact .inl ⟨i, rfl, h⟩
  | bl i => exact .inr ⟨i, rfl, h⟩
  | _ => exact h.elim
def zMax2 : List V → Hp → VK → Prop := fun xs H Q => two xs fun x y => match x with
  | .int i => (match y with
    | .int j => Q (.int (max i j)) H
    | _ => False)
  | _ => False
def zMin2 : List V → Hp → VK → Prop := fun xs H Q => two xs fun x y => match x with
  | .int i => (match y with
    | .int j => Q (.int (min i j)) H
    | _ => False)
  | _ => False
theorem crmax (hc : X.calm = true) : CallR X (.builtin "max") zMax2 := cr_imp (call_max2 hc) fun xs H Q h => by
  obtain ⟨x, y, rfl, h⟩ := two_e h
  cases x with
  | int i => cases y with
    | int j =>
      refine ⟨i, j, rfl, ?_⟩
      have e : (if j > i then j else i) = max i j := by omega
      rw [e]; exact h
    | _ => exact h.elim
  | _ => exact h.elim
theorem crmin (hc : X.calm = true) : CallR X (.builtin "min") zMin2 := cr_imp (call_min2 hc) fun xs H Q h => by
  obtain ⟨x, y, rfl, h⟩ := two_e h
  cases x with
  | int i => cases y with
    | int j =>
      refine ⟨i, j, rfl, ?_⟩
      have e : (if j < i then j else i) = min i j := by omega
      rw [e]; exact h
    | _ => exact h.elim
  | _ => exact h.elim
/-! isinstance -/
def isP (K : PySem.W.Frag) (x : V) (c : Value) (H : Hp) (Q : Bool → Prop) : Prop := match x with
  | .str _ => ∃ b, PySem.W.kitOne K (.type "str") c = some b ∧ Q b
  | .int _ => ∃ b, PySem.W.kitOne K (.type "int") c = some b ∧ Q b
  | .bl _ => ∃ b, PySem.W.kitOne K (.type "bool") c = some b ∧ Q b
  | .non => ∃ b, PySem.W.kitOne K (.type "NoneType") c = some b ∧ Q b
  | .ref p => ∃ t b, TyX K H (.ref p) t ∧ PySem.W.kitOne K t c = some b ∧ Q b
  | _ => False
theorem isP_e {K : PySem.W.Frag} {x : V} {c : Value} {H : Hp} {Q : Bool → Prop} (h : isP K x c H Q) : ∃ t b, TyX K H x t ∧ PySem.W.kitOne K t c = some b ∧ Q b := by
  cases x with
  | str z => obtain ⟨b, h⟩ := h; exact ⟨_, b, .base (.str z), h⟩
  | int z => obtain ⟨b, h⟩ := h; exact ⟨_, b, .base (.int z), h⟩
  | bl z => obtain ⟨b, h⟩ := h; exact ⟨_, b, .base (.bl z), h⟩
  | non => obtain ⟨b, h⟩ := h; exact ⟨_, b, .base .non, h⟩
  | ref p => exact h
  | _ => exact h.elim
def zIs (K : PySem.W.Frag) : List V → Hp → VK → Prop := fun xs H Q => two xs fun x c => match c with
  | .ty n => isP K x (.type n) H fun b => Q (.bl b) H
  | .ref C => isP K x (.ref C) H fun b => Q (.bl b) H
  | _ => False
theorem cris : CallR X (.builtin "isinstance") (zIs X.K) := cr_imp call_isi fun xs H Q h => by
  obtain ⟨x, c, rfl, h⟩ := two_e h
  cases c with
  | ty n => obtain ⟨t, b, h1, h2, h3⟩ := isP_e h; exact ⟨x, _, t, _, b, rfl, .ty n, h1, h2, h3⟩
  | ref C => obtain ⟨t, b, h1, h2, h3⟩ := isP_e h; exact ⟨x, _, t, _, b, rfl, .own C, h1, h2, h3⟩
  | _ => exact h.elim
variable {x : Str} {p pos : Pos} {e : Expr} {es : List Expr} {t : TA} {id T : String} {r : List V → Hp → VK → Prop}
theorem pcb (hc : CallR X (.builtin id) r) (hm : X.mg x = none) (ha : PA X (e :: es) t) (hv : bootBuiltins x = some (.builtin id) := by decide +kernel) (hg : Gl X x := by rfl) (hn : x ≠ "__name__" := by decide +kernel) (hdb : (x == ("__debug__" : Str)) = false := by decide +kernel)
    (he : starEach (e :: es) X.env = (false, eval e X.env) :: starEach es X.env := by rfl) (hpl : (backTo pos (starEach es X.env)).any (·.1) = false := by rfl) : PE X (.Call (.Name x p) (e :: es) [] pos) (tCB r t) := pe_callB hc hg hm hv ha hn hdb he hpl
theorem pct (hc : CallR X (.type T) r) (hm : X.mg x = none) (ha : PA X (e :: es) t) (hv : bootBuiltins x = some (.type T) := by decide +kernel) (hg : Gl X x := by rfl) (hn : x ≠ "__name__" := by decide +kernel) (hdb : (x == ("__debug__" : Str)) = false := by decide +kernel)
    (he : starEach (e :: es) X.env = (false, eval e X.env) :: starEach es X.env := by rfl) (hpl : (backTo pos (starEach es X.env)).any (·.1) = false := by rfl) : PE X (.Call (.Name x p) (e :: es) [] pos) (tCB r t) := pe_callTy hc hg hm hv ha hn hdb he hpl
/-! methods of texts and lists -/
structure joi (vs : List V) (a : List Nat) (k : List Nat → Prop) : Prop where
  out : ∃ ys : List (List Nat), vs = ys.map (fun l => V.str (S l)) ∧ (ys.map List.length).sum + ys.length * a.length ≤ 16777216 ∧ k (TL.joinL a ys)
theorem joi_e {vs : List V} {a : List Nat} {k : List Nat → Prop} (h : joi vs a k) : ∃ ys : List (List Nat), vs = ys.map (fun l => V.str (S l)) ∧ (ys.map List.length).sum + ys.length * a.length ≤ 16777216 ∧ k (TL.joinL a ys) := by replace h := h.out; exact h
def zJoin (K : PySem.W.Frag) : V → List V → Hp → VK → Prop := fun x xs H Q => match x with
  | .str a => one xs fun y => (match y with
    | .ref p => look H p fun o => (match o with
      | some (.lst vs) => joi vs (tl a) fun t => Q (.str (S t)) H
      | some (.tup vs) => joi vs (tl a) fun t => Q (.str (S t)) H
      | _ => False)
    | _ => False)
  | _ => False
theorem mtjoin : MtR X "str.join" (zJoin X.K) := by
  refine mt_imp mt_join fun x xs H Q h => ?_
  cases x with
  | str a =>
    obtain ⟨y, rfl, h⟩ := one_e h
    cases y with
    | ref p =>
      have fin : ∀ vs, SqL X.K H p vs ∨ SqT X.K H p vs → (∃ ys : List (List Nat), vs = ys.map (fun l => V.str (S l)) ∧ (ys.map List.length).sum + ys.length * (tl a).length ≤ 16777216 ∧ Q (.str (S (TL.joinL (tl a) ys))) H) →
          ∃ a' p', ∃ ys : List Str, V.str a = .str a' ∧ [V.ref p] = [.ref p'] ∧ (SqL X.K H p' (ys.map V.str) ∨ SqT X.K H p' (ys.map V.str)) ∧ (ys.map (·.length)).sum + ys.length * a'.length ≤ 16777216 ∧ Q (.str (Txt.join a' ys)) H := by
        rintro vs hs ⟨ys, rfl, h1, h2⟩
        refine ⟨a, p, ys.map S, rfl, rfl, ?_, ?_, ?_⟩
        · rw [List.map_map]; exact hs
        · rw [List.map_map, List.length_map, len_tl]
          have e : ((fun z : Str => z.length) ∘ S) = List.length := funext fun l => by show (S l).length = l.length; rw [len_tl]
          rw [e]; exact h1
        · rw [TL.join_eq]
          have e : Str.join a (ys.map S) = S (TL.joinL (tl a) ys) := ext_tl ((TL.tl_join a (ys.map S)).trans (by
            rw [List.map_map]
            have e2 : (TL.tl ∘ S) = id := funext fun l => rfl
            rw [e2, List.map_id]))
          rw [e]; exact h2
      have h := look_e h
      revert h
      cases e : H p with
      | none => exact fun h => h.elim
      | some o =>
        cases o with
        | lst vs => exact fun h => fin vs (.inl (SqL.of e)) (joi_e h)
        | tup vs => exact fun h => fin vs (.inr (SqT.of e)) (joi_e h)
        | _ => exact fun h => h.elim
    | _ => exact h.elim
  | _ => exact h.elim
variable {o : Expr} {to : TE} {name : Str} {apos cpos : Pos}
/-- text.m(..) -/
def tSM (r : V → List V → Hp → VK → Prop) (to : TE) (t : TA) : TE := fun σ H Q => to σ H fun x H1 => match x with
  | .str z => t σ H1 fun xs H2 => r (.str z) xs H2 Q
  | _ => False
theorem psm {mid : String} {r : V → List V → Hp → VK → Prop} (slot : Slot "str" name mid) (hty : typeOf (.builtin mid) = pure (.type "method_descriptor")) (hm : MtR X mid r) (ho : PE X o to) (ha : PA X (e :: es) t)
    (hbase : attributeBase o name X.env (eval o X.env) = eval o X.env := by rfl)
    (hfew : ((backTo cpos (starEach (e :: es) X.env)).all (fun x => !x.1) && (backToKw cpos (keywordEach [] X.env)).all (fun x => x.1.isSome)
      && decide ((e :: es).length + ([] : List Keyword).length + (if ([] : List Keyword).isEmpty then 0 else 1) < 30)) = true := by rfl)
    (hline : (apos.endLine == cpos.line) = true := by rfl) (hs : starEach (e :: es) X.env = (false, eval e X.env) :: starEach es X.env := by rfl) (hplain : (backTo cpos (starEach es X.env)).any (·.1) = false := by rfl) :
    PE X (.Call (.Attribute o name apos) (e :: es) [] cpos) (tSM r to t) := by
  refine ⟨fun pins s σ H Q I h => ?_⟩
  refine wpAny_Call_method_late hbase hfew hline rfl (thn (ho.run pins s σ H _ I h) fun v s1 ⟨x, H1, I1, r1, q1⟩ => ?_)
  cases x with
  | str z =>
    obtain ⟨h1, h2⟩ := tyV_is (T := "str") (x := .str z) I1 r1 rfl
    refine ⟨"str", mid, F.plainAttrs_str, slot, hty, h1, h2, ?_⟩
    have hA := ha.run cpos pins s1 σ H1 _ I1 q1
    rw [hs] at hA ⊢
    refine Calls.callWith_builtin (by show (false || (backTo cpos (starEach es X.env)).any (·.1)) = false; rw [hplain] <;> rfl) (Calls.evalArgs_plain ?_)
    exact thn hA fun us s2 ⟨vs, H2, I2, r2, q2⟩ => hm pins s2 σ H2 _ vs v us Q I2 r1 r2 q2
  | _ => exact False.elim q1
end
end Ta

set_option Elab.async false
set_option linter.all false
set_option maxRecDepth 100000
set_option maxHeartbeats 1000000
namespace Ta
open PySem PySem.Spec PyProof.Rows L2

/-! ### what is walked: n turns, turn i yields x (heap H to H'), while st holds -/
abbrev Itm := Nat → Hp → V → Hp → Prop
structure Adm (J : It) (n : Nat) (it : Itm) (st : Hp → Prop) : Prop where
  go : ∀ i H, i < n → st H → J.go i H
  yl : ∀ i H x H', i < n → st H → J.yld i H x H' → it i H x H'
  sp : ∀ H, st H → J.stop n H
abbrev TJ := St → Hp → (Nat → Itm → (Hp → Prop) → Hp → Prop) → Prop
def toI (wi : TJ) : TI := fun σ H R => wi σ H fun n it st H1 => ∀ J, Adm J n it st → R J H1
abbrev PJ (X : Cx) (tg iter : Expr) (wi : TJ) : Prop := PI X tg iter (toI wi)
def itL (xs : List V) : Itm := fun i H x H' => H' = H ∧ xs[i]? = some x
def itR (lo : Int) : Itm := fun i H x H' => H' = H ∧ x = .int (lo + i)
def itS (l : List Nat) : Itm := fun i H x H' => H' = H ∧ ∃ c, l[i]? = some c ∧ x = .str (S [c])

structure loop (n : Nat) (it : Itm) (st : Hp → Prop) (g : TG) (tb : TS) (D : Ends) (σ : St) (H : Hp) : Prop where
  out : ∀ J, Adm J n it st → ∃ W : Nat → Nat → St → Hp → Prop, (∃ m, W 0 m σ H) ∧ ∀ i m σ H, W i m σ H →
  (J.stop i H ∧ D.nx σ H) ∨ (J.go i H ∧ ∃ N : St → Hp → Prop, (∀ σ' H', N σ' H' → ∃ m', m' < m ∧ W (i + 1) m' σ' H') ∧ ∀ x H', J.yld i H x H' → g x σ H' fun σ2 H2 => tb { D with nx := N, ct := N, bk := D.nx } σ2 H2)
theorem loop_i {n : Nat} {it : Itm} {st : Hp → Prop} {g : TG} {tb : TS} {D : Ends} {σ : St} {H : Hp} (Pv : Nat → St → Hp → Prop) (h0 : Pv 0 σ H) (hst : ∀ i σ H, i ≤ n → Pv i σ H → st H)
    (hs : ∀ i x σ H H', i < n → Pv i σ H → it i H x H' → g x σ H' fun σ2 H2 => tb { D with nx := Pv (i + 1), ct := Pv (i + 1), bk := D.nx } σ2 H2) (hd : ∀ σ H, Pv n σ H → D.nx σ H) : loop n it st g tb D σ H := by
  refine ⟨?_⟩
  intro J A
  refine ⟨fun i m σ H => m = n - i ∧ i ≤ n ∧ Pv i σ H, ⟨n, by simp, Nat.zero_le _, h0⟩, ?_⟩
  rintro i m σ H ⟨rfl, hi, p⟩
  have q := hst i σ H hi p
  by_cases hlt : i < n
  · exact .inr ⟨A.go i H hlt q, Pv (i + 1), fun σ' H' p' => ⟨n - (i + 1), by omega, rfl, hlt, p'⟩, fun x H' y => hs i x σ H H' hlt p (A.yl i H x H' hlt q y)⟩
  · have e : i = n := by omega
    subst e
    exact .inl ⟨A.sp H q, hd σ H p⟩
def tForP (wi : TJ) (g : TG) (tb : TS) : TS := fun D σ H => wi σ H fun n it st H1 => loop n it st g tb D σ H1
section
variable {X : Cx} {tg : Expr}
theorem psfor {iter : Expr} {body : List Stmt} {wi : TJ} {g : TG} {tb : TS} {pos : Pos} (hp : PassesOwn (model X.prog X.w) X.A X.env X.xe) (hc : X.calm = true) (hi : PJ X tg iter wi) (hg : PG X tg g) (hb : PSs X body tb)
    (hs : ∀ x, foldedSetIterable iter X.env x = pure x := by intro _; rfl) : PS X (.For tg iter body [] pos) (tForP wi g tb) := by
  refine ps_imp (ps_for (wi := toI wi) hp hc hi hg hb hs) fun D σ H h => ?_
  have e : (fun n it st H1 => loop n it st g tb D σ H1) = (fun n it st H1 => ∀ J, Adm J n it st → ∃ W : Nat → Nat → St → Hp → Prop, (∃ m, W 0 m σ H1) ∧ ∀ i m σ H, W i m σ H →
      (J.stop i H ∧ D.nx σ H) ∨ (J.go i H ∧ ∃ N : St → Hp → Prop, (∀ σ' H', N σ' H' → ∃ m', m' < m ∧ W (i + 1) m' σ' H') ∧ ∀ x H', J.yld i H x H' → g x σ H' fun σ2 H2 => tb { D with nx := N, ct := N, bk := D.nx } σ2 H2)) := by
    funext n it st H1
    exact propext ⟨fun h => h.out, fun h => ⟨h⟩⟩
  have h : wi σ H fun n it st H1 => loop n it st g tb D σ H1 := h
  rw [e] at h
  exact h
/-- range(n) -/
def jR1 (ta : TA) : TJ := fun σ H R => ta σ H fun vs H1 => one vs fun x => match x with
  | .int j => (-(2 ^ 62) ≤ j ∧ j < 2 ^ 62) ∧ R j.toNat (itR 0) (fun _ => True) H1
  | _ => False
def jR2 (ta : TA) : TJ := fun σ H R => ta σ H fun vs H1 => two vs fun x y => match x with
  | .int i => (match y with
    | .int j => (-(2 ^ 62) ≤ i ∧ i < 2 ^ 62 ∧ -(2 ^ 62) ≤ j ∧ j < 2 ^ 62) ∧ R (j - i).toNat (itR i) (fun _ => True) H1
    | _ => False)
  | _ => False
theorem adm_r (lo : Int) (n : Nat) : Adm (Itr lo n) n (itR lo) (fun _ => True) := ⟨fun i H h _ => h, fun i H x H' _ _ h => h, fun H _ => Nat.le_refl n⟩
theorem pjr1 {a : Expr} {ta : TA} {p pos : Pos} (hm : X.mg "range" = none) (ha : PA X [a] ta) (hg : Gl X "range" := by rfl) (hs : starEach [a] X.env = [(false, eval a X.env)] := by rfl) : PJ X tg (.Call (.Name "range" p) [a] [] pos) (jR1 ta) := by
  refine ⟨fun pins s σ H R I h => ?_⟩
  refine Call_ (ld_blt I hg hm boot_range (PyProof.Rows.callWith_type1 (thn (ha.run pos pins s σ H _ I h) fun us s1 ⟨vs, H1, I1, r1, q1⟩ => ?_) hs rfl))
  obtain ⟨x, rfl, q1⟩ := one_e q1
  cases x with
  | int j =>
    obtain ⟨⟨q1, q2⟩, q⟩ := q1
    cases r1 with
    | cons r rr =>
      cases rr
      obtain ⟨t, rfl⟩ := r
      exact call_range_1 (range_it I1 (by omega) (by omega) q1 q2 (by simpa using q _ (adm_r 0 j.toNat)))
  | _ => exact False.elim q1
theorem pjr2 {a b : Expr} {ta : TA} {p pos : Pos} (hm : X.mg "range" = none) (ha : PA X [a, b] ta) (hg : Gl X "range" := by rfl) (hs : starEach [a, b] X.env = [(false, eval a X.env), (false, eval b X.env)] := by rfl) (hs2 : starEach [b] X.env = [(false, eval b X.env)] := by rfl) :
    PJ X tg (.Call (.Name "range" p) [a, b] [] pos) (jR2 ta) := by
  refine ⟨fun pins s σ H R I h => ?_⟩
  refine Call_ (ld_blt I hg hm boot_range (PyProof.Rows.callWith_type1 (thn (ha.run pos pins s σ H _ I h) fun us s1 ⟨vs, H1, I1, r1, q1⟩ => ?_) (by rw [hs, hs2]) (by rw [hs2]; rfl)))
  obtain ⟨x, y, rfl, q1⟩ := two_e q1
  cases x with
  | int i =>
    cases y with
    | int j =>
      obtain ⟨⟨q1, q2, q3, q4⟩, q⟩ := q1
      cases r1 with
      | cons r rr =>
        cases rr with
        | cons r' rr =>
          cases rr
          obtain ⟨t, rfl⟩ := r
          obtain ⟨t', rfl⟩ := r'
          exact call_range_2 (range_it I1 q1 q2 q3 q4 (q _ (adm_r i _)))
    | _ => exact False.elim q1
  | _ => exact False.elim q1
/-- a text, a list, a tuple -/
def jA (K : PySem.W.Frag) (te : TE) : TJ := fun σ H R => te σ H fun x H1 => match x with
  | .str z => R (tl z).length (itS (tl z)) (fun _ => True) H1
  | .ref a => look H1 a fun o => (match o with
    | some (.lst xs) => R xs.length (itL xs) (fun H' => H' a = some (.lst xs)) H1
    | some (.tup xs) => R xs.length (itL xs) (fun H' => H' a = some (.tup xs)) H1
    | some (.frz ob (.lst xs)) => R xs.length (itL xs) (fun H' => H' a = some (.frz ob (.lst xs))) H1
    | _ => ∃ xs, SqT K (fun _ => none) a xs ∧ R xs.length (itL xs) (fun _ => True) H1)
  | _ => False
theorem adm_l {K : PySem.W.Frag} {a : Addr} {xs : List V} {st : Hp → Prop} (h : ∀ H, st H → SqL K H a xs) : Adm (Itl K a) xs.length (itL xs) st :=
  ⟨fun i H hi q => ⟨xs, xs[i], h H q, by simp [hi]⟩, fun i H x H' hi q y => ⟨y.1, y.2 xs (h H q)⟩, fun H q => ⟨xs, h H q, Nat.le_refl _⟩⟩
theorem adm_t {K : PySem.W.Frag} {a : Addr} {xs : List V} {st : Hp → Prop} (h : ∀ H, st H → SqT K H a xs) : Adm (Itt K a) xs.length (itL xs) st :=
  ⟨fun i H hi q => ⟨xs, xs[i], h H q, by simp [hi]⟩, fun i H x H' hi q y => ⟨y.1, y.2 xs (h H q)⟩, fun H q => ⟨xs, h H q, Nat.le_refl _⟩⟩
theorem adm_s (z : Str) : Adm (Its z) (tl z).length (itS (tl z)) (fun _ => True) := by
  have e : z.cps.size = (tl z).length := by simp [tl]
  refine ⟨fun i H h _ => ?_, fun i H x H' _ _ y => ⟨y.1, ?_⟩, fun H _ => ?_⟩
  · show i < z.cps.size; rw [e]; exact h
  · obtain ⟨c, h1, h2⟩ := y.2
    exact ⟨c, by simpa [tl] using h1, h2⟩
  · show z.cps.size ≤ _; rw [e]; exact Nat.le_refl _
theorem sqT_k {K : PySem.W.Frag} {H : Hp} {a : Addr} {xs : List V} (h : SqT K (fun _ => none) a xs) : SqT K H a xs := by
  rcases h with (h | ⟨o, h⟩) | h
  · cases h
  · cases h
  · exact .inr h
theorem pja {l : Expr} {te : TE} (hl : PE X l te) : PJ X tg l (jA X.K te) := by
  refine ⟨fun pins s σ H R I h => ?_⟩
  refine thn (hl.run pins s σ H _ I h) fun v s1 ⟨x, H1, I1, r1, q1⟩ => ?_
  cases x with
  | str z =>
    obtain ⟨t, rfl⟩ := r1
    have q := q1 _ (adm_s z)
    cases ha : z.cps.all (· < 128)
    · exact wpAny_pyIter_wide ha (pi_one (tk := s1.toks) I1 _ (turn_str _ z t "str_iterator" (.inr rfl)) ⟨_, Heap.get?_push_size _ rfl, rfl, rfl⟩ q)
    · exact wpAny_pyIter_ascii ha (pi_one (tk := s1.toks) I1 _ (turn_str _ z t "str_ascii_iterator" (.inl rfl)) ⟨_, Heap.get?_push_size _ rfl, rfl, rfl⟩ q)
  | ref a =>
    cases r1
    have fl : ∀ xs, SqL X.K H1 a xs → R (Itl X.K a) H1 → wpAny (model X.prog X.w) X.A (pyIter (.ref a)) (PIE X pins σ tg R) X.xe s1 := fun xs hq q => by
      obtain ⟨its, rv, p, hz⟩ := I1.list hq
      refine wpAny_pyIter_list p.isList ?_
      refine ⟨s1.heap.objs.size, [s1.heap.objs.size], _, _, H1, rfl, I1.kept (t' := s1.toks) fun b o e => Heap.get?_push_of_some _ e, turn_list a _, ⟨_, Heap.get?_push_size _ rfl, rfl, rfl⟩, fun b hb => ?_, q⟩
      have e : b = s1.heap.objs.size := by simpa using hb
      subst e
      exact I1.fpOk (Nat.le_refl _) (I1.hok.fresh (Nat.le_refl _))
    have ft : ∀ xs, SqT X.K H1 a xs → R (Itt X.K a) H1 → wpAny (model X.prog X.w) X.A (pyIter (.ref a)) (PIE X pins σ tg R) X.xe s1 := fun xs hq q => by
      obtain ⟨its, rv, p, hz⟩ := I1.tuple hq
      refine wpAny_pyIter_tuple (show s1.heap.IsTuple a its.toArray from p) ?_
      refine ⟨s1.heap.objs.size, [s1.heap.objs.size], _, _, H1, rfl, I1.kept (t' := s1.toks) fun b o e => Heap.get?_push_of_some _ e, turn_tuple a _, ⟨_, Heap.get?_push_size _ rfl, rfl, rfl⟩, fun b hb => ?_, q⟩
      have e : b = s1.heap.objs.size := by simpa using hb
      subst e
      exact I1.fpOk (Nat.le_refl _) (I1.hok.fresh (Nat.le_refl _))
    have q1 := look_e q1
    have fk : (∃ xs, SqT X.K (fun _ => none) a xs ∧ ∀ J, Adm J xs.length (itL xs) (fun _ => True) → R J H1) → wpAny (model X.prog X.w) X.A (pyIter (.ref a)) (PIE X pins σ tg R) X.xe s1 :=
      fun ⟨xs, h1, h2⟩ => ft xs (sqT_k h1) (h2 _ (adm_t fun H' _ => sqT_k h1))
    revert q1
    cases e : H1 a with
    | none => exact fk
    | some o =>
      cases o with
      | lst xs => exact fun q1 => fl xs (SqL.of e) (q1 _ (adm_l fun H' h => SqL.of h))
      | tup xs => exact fun q1 => ft xs (SqT.of e) (q1 _ (adm_t fun H' h => SqT.of h))
      | frz ob u =>
        cases u with
        | lst xs => exact fun q1 => fl xs (.inl (.inr ⟨_, e⟩)) (q1 _ (adm_l fun H' h => .inl (.inr ⟨_, h⟩)))
        | _ => exact fk
      | _ => exact fk
  | _ => exact False.elim q1

/-! ### while -/
structure whl (c : TT) (tb : TS) (D : Ends) (σ : St) (H : Hp) : Prop where
  out : tWhile c tb D σ H
/-- by a word and a measure; the test's reading is asked with its own wish -/
theorem whl_i {c : TT} {tb : TS} {D : Ends} {σ : St} {H : Hp} (W : Nat → St → Hp → Prop) (m : Nat) (h0 : W m σ H)
    (hs : ∀ m σ H, W m σ H → c σ H fun b H1 => if b = true then ∃ N : St → Hp → Prop, (∀ σ' H', N σ' H' → ∃ m', m' < m ∧ W m' σ' H') ∧ tb { D with nx := N, ct := N, bk := D.nx } σ H1 else D.nx σ H1) : whl c tb D σ H := by
  refine ⟨?_⟩
  exact ⟨W, ⟨m, h0⟩, hs⟩
theorem pswhl {c : Expr} {body : List Stmt} {tc : TT} {tb : TS} {pos : Pos} (hp : PassesOwn (model X.prog X.w) X.A X.env X.xe) (hc : PT X c tc) (hb : PSs X body tb) : PS X (.While c body [] pos) (whl tc tb) :=
  ps_imp (ps_while hp hc hb) fun D σ H h => by replace h := h.out; exact h

/-! ### list comprehensions -/
structure lcp (n : Nat) (it : Itm) (st : Hp → Prop) (g : TG) (tt : TT) (te : TE) (vs : List Nat) (σ : St) (H1 : Hp) (Q : VK) : Prop where
  out : ∀ J, Adm J n it st → ∀ D, H1 D = none → ∃ W : Nat → Nat → Hp → Prop, (∃ m, W 0 m (upd H1 D (.lst []))) ∧ ∀ i m H, W i m H →
  (J.stop i H ∧ Q (.ref D) H) ∨ (J.go i H ∧ ∃ Nx : Hp → Prop, (∀ H', Nx H' → ∃ m', m' < m ∧ W (i + 1) m' H') ∧ ∀ x H', J.yld i H x H' → g x (wipe σ vs) H' fun σ2 H2 => wipe σ2 vs = wipe σ vs ∧ tt σ2 H2 fun b H3 =>
    if b = true then te σ2 H3 fun y H4 => ∃ acc, H4 D = some (.lst acc) ∧ acc.length < sizeLine ∧ Nx (upd H4 D (.lst (acc ++ [y]))) else Nx H3)
def tLcP (wi : TJ) (g : TG) (tt : TT) (te : TE) (vs : List Nat) : TE := fun σ H Q => wi σ H fun n it st H1 => lcp n it st g tt te vs σ H1 Q
theorem tLcP_e {wi : TJ} {g : TG} {tt : TT} {te : TE} {vs : List Nat} {σ : St} {H : Hp} {Q : VK} (h : tLcP wi g tt te vs σ H Q) : tLc (toI wi) g tt te vs σ H Q := by
  have e : (fun n it st H1 => lcp n it st g tt te vs σ H1 Q) = (fun n it st H1 => ∀ J, Adm J n it st → ∀ D, H1 D = none → ∃ W : Nat → Nat → Hp → Prop, (∃ m, W 0 m (upd H1 D (.lst []))) ∧ ∀ i m H, W i m H →
      (J.stop i H ∧ Q (.ref D) H) ∨ (J.go i H ∧ ∃ Nx : Hp → Prop, (∀ H', Nx H' → ∃ m', m' < m ∧ W (i + 1) m' H') ∧ ∀ x H', J.yld i H x H' → g x (wipe σ vs) H' fun σ2 H2 => wipe σ2 vs = wipe σ vs ∧ tt σ2 H2 fun b H3 =>
        if b = true then te σ2 H3 fun y H4 => ∃ acc, H4 D = some (.lst acc) ∧ acc.length < sizeLine ∧ Nx (upd H4 D (.lst (acc ++ [y]))) else Nx H3)) := by
    funext n it st H1
    exact propext ⟨fun h => h.out, fun h => ⟨h⟩⟩
  have h : wi σ H fun n it st H1 => lcp n it st g tt te vs σ H1 Q := h
  rw [e] at h
  exact h
theorem plc {elt iter : Expr} {ifs : List Expr} {scope : Scope} (own : List (Str × Nat)) {pos : Pos} {wi : TJ} {g : TG} {tt : TT} {te : TE} (hc : X.calm = true) (hN : X.N.Nodup) (hi : PJ X tg iter wi) (ok : blkC X.N X.env.scope scope own = true)
    (hg : ∀ (s : Shared) (H : Hp) (C : Addr) (cl : List (Str × Addr)) (fp : List Addr), PG (X.blk s H scope (compEnvC scope cl C X.env) fp) tg g) (ht : ∀ (s : Shared) (H : Hp) (C : Addr) (cl : List (Str × Addr)) (fp : List Addr), PTs (X.blk s H scope (compEnvC scope cl C X.env) fp) ifs tt)
    (he : ∀ (s : Shared) (H : Hp) (C : Addr) (cl : List (Str × Addr)) (fp : List Addr), PE (X.blk s H scope (compEnvC scope cl C X.env) fp) elt te) (hs : ∀ x, foldedSetIterable iter X.env x = pure x := by intro _; rfl) :
    PE X (.ListComp elt [⟨tg, iter, ifs, 0⟩] scope pos) (tLcP wi g tt te (own.map (·.2))) := pe_imp (pe_lc hc hN hi (blkOk_by ok) hg ht he hs) fun _ _ _ h => tLcP_e h
theorem pslc {i : Nat} {y : Str} {py : Pos} {elt iter : Expr} {ifs : List Expr} {scope : Scope} (own : List (Str × Nat)) {pos spos : Pos} {wi : TJ} {g : TG} {tt : TT} {te : TE} (hc : X.calm = true) (hN : X.N.Nodup) (hy : X.N[i]? = some y) (hyl : X.env.scope.names.lookup y = some .local)
    (hsw : swapsWith (.ListComp elt [⟨tg, iter, ifs, 0⟩] scope pos) (some (.Name y py)) spos.line X.env = pure true) (hi : PJ X tg iter wi) (ok : blkC X.N X.env.scope scope own = true)
    (hg : ∀ (s : Shared) (H : Hp) (C : Addr) (cl : List (Str × Addr)) (fp : List Addr), PG (X.blk s H scope (compEnvC scope cl C X.env) fp) tg g) (ht : ∀ (s : Shared) (H : Hp) (C : Addr) (cl : List (Str × Addr)) (fp : List Addr), PTs (X.blk s H scope (compEnvC scope cl C X.env) fp) ifs tt)
    (he : ∀ (s : Shared) (H : Hp) (C : Addr) (cl : List (Str × Addr)) (fp : List Addr), PE (X.blk s H scope (compEnvC scope cl C X.env) fp) elt te) (hs : ∀ x, foldedSetIterable iter X.env x = pure x := by intro _; rfl) :
    PS X (.Assign [.Name y py] (.ListComp elt [⟨tg, iter, ifs, 0⟩] scope pos) spos) (tAsg (tLcP wi g tt te (own.map (·.2))) (gName i)) :=
  ps_imp (ps_setLc hc hN hy hyl hsw hi (blkOk_by ok) hg ht he hs) fun D σ H h => tLcP_e h
theorem lcp_i {n : Nat} {it : Itm} {st : Hp → Prop} {g : TG} {tt : TT} {te : TE} {vs : List Nat} {σ : St} {H1 : Hp} {Q : VK} (Pv : Addr → Nat → Hp → Prop) (h0 : ∀ D, H1 D = none → Pv D 0 (upd H1 D (.lst []))) (hst : ∀ D i H, H1 D = none → i ≤ n → Pv D i H → st H)
    (hs : ∀ D i x H H', H1 D = none → i < n → Pv D i H → it i H x H' → g x (wipe σ vs) H' fun σ2 H2 => wipe σ2 vs = wipe σ vs ∧ tt σ2 H2 fun b H3 =>
      if b = true then te σ2 H3 fun y H4 => ∃ acc, H4 D = some (.lst acc) ∧ acc.length < sizeLine ∧ Pv D (i + 1) (upd H4 D (.lst (acc ++ [y]))) else Pv D (i + 1) H3) (hd : ∀ D H, H1 D = none → Pv D n H → Q (.ref D) H) : lcp n it st g tt te vs σ H1 Q := by
  refine ⟨?_⟩
  intro J A D hD
  refine ⟨fun i m H => m = n - i ∧ i ≤ n ∧ Pv D i H, ⟨n, by simp, Nat.zero_le _, h0 D hD⟩, ?_⟩
  rintro i m H ⟨rfl, hi, p⟩
  have q := hst D i H hD hi p
  by_cases hlt : i < n
  · exact .inr ⟨A.go i H hlt q, Pv D (i + 1), fun H' p' => ⟨n - (i + 1), by omega, rfl, hlt, p'⟩, fun x H' y => hs D i x H H' hD hlt p (A.yl i H x H' hlt q y)⟩
  · have e : i = n := by omega
    subst e
    exact .inl ⟨A.sp H q, hd D H hD p⟩
end
end Ta

set_option Elab.async false
set_option linter.all false
set_option maxRecDepth 100000
set_option maxHeartbeats 1000000
namespace Ta
open PySem PySem.Spec PyProof.Rows L2

/-! ### a def that says super(): its closure is the cell of __class__ -/
structure SupFn (P : Program) (K : PySem.W.Frag) (f : Addr) (F : NdefX.NF) (D : Addr) (dvs : List V) (fd : FuncData) : Prop where
  ex : ∃ (cc : Addr) (oc : Value) (od an : Option Addr) (dV kV doc pm ct : Value) (osl : Array (Option Value)), F.cl = [(("__class__" : Str), cc)] ∧ fd = PySem.W.fnX F.name F.qual F.params F.body F.scope F.cl dV kV doc pm an (.ref F.c) ct ∧
    K.lookup f = some ⟨oc, od, .func fd, osl⟩ ∧ DflV K dV dvs ∧ ∃ (cl : Value) (cld : Option Addr) (csl : Array (Option Value)), K.lookup cc = some ⟨cl, cld, .cell (some (.ref D)), csl⟩
  cd : PySem.W.codeIn K (.ref F.c) F.qual = true
  file : ∃ (ccl : Value) (cdd : Option Addr) (vs : Array Value) (ccs : Array (Option Value)) (fl : Str) (tf : Tok), K.lookup F.c = some ⟨ccl, cdd, .fields vs, ccs⟩ ∧ vs[2]? = some (.str fl tf) ∧ ((P.main.file : Str) == fl) = true
  clsD : ∃ cdD, PySem.W.clsIn K D = some cdD
  top : (P.main.scope.names.lookup ("super" : Str)).isSome = false
  kp : PySem.W.keepIn K (.ref f) = true
section
variable {P : Program} {w : World} {K : PySem.W.Frag} {mg : Str → Option Value} {base : Heap}
/-- such a def by its first statement (at the code itself) and the rest -/
theorem fn_sup {f D : Addr} {F : NdefX.NF} {fd : FuncData} {N ps : List Str} {sp : Sp} {k : Nat} {st0 : Stmt} {rest : List Stmt} {dvs : List V} (SF : SupFn P K f F D dvs fd) (hbd : F.body = st0 :: rest) (S : NdefX.NScope N ps ["__class__"] F.scope)
    (len : ∀ vs H Q E, sp vs H Q E → vs.length = ps.length)
    (hbody : ∀ (A : Around) (outer : List Env) (s : Shared) (H : Hp) (vs : List V) (Q : VK) (E : XK), Room k (A.deeper (NdefX.envF F f s.heap.objs.size)) → sp vs H Q E →
      ∃ (t : TS), PSs (NdefX.ncx (L2.CX P w) P w K mg base N F f A outer s H E) rest t ∧
        ∀ s', Inv (NdefX.ncx (L2.CX P w) P w K mg base N F f A outer s H E) [] (NdefX.startF N vs [some (.ref D)]) H s' →
          PySem.wpAt (model P w) (A.deeper (NdefX.envF F f s.heap.objs.size)) (.func F.body (NdefX.envF F f s.heap.objs.size)) (exec st0 (NdefX.envF F f s.heap.objs.size))
            (fun fl s'' => fl = .next ∧ ∃ σ' H', Inv (NdefX.ncx (L2.CX P w) P w K mg base N F f A outer s H E) [] σ' H' s'' ∧ t { nx := fun _ H' => Q .non H', rt := Q } σ' H')
            (NdefX.ncx (L2.CX P w) P w K mg base N F f A outer s H E).xe s') :
    FnOk P w K mg base (L2.CX P w) (k + 1) f fd ps sp := by
  obtain ⟨cc, oc, od, an, dV, kV, doc, pm, ct, osl, hcl, rfl, lk, hD, cl, cld, csl, hcell⟩ := SF.ex
  refine ⟨len, fun A outer s H args us vs Q E hr e0 hb r hsp => ?_⟩
  have hl := len _ _ _ _ hsp
  have KX : K.In s.heap := e0.mod.kin.keeps fun b o e => (e0.bs b o e).1
  have lim : s.heap.NoLimit := e0.mod.nolimit.keeps fun b o e => (e0.bs b o e).1
  have C : NdefX.CellsAt F.cl ["__class__"] [some (.ref D)] s.heap H := by
    rw [hcl]
    have hK : ∀ y c, ([("__class__", cc)] : List (Str × Addr)).lookup y = some c → y = "__class__" ∧ c = cc := fun y c e => by
      simp only [List.lookup] at e
      split at e
      · rename_i hb; cases e; exact ⟨eq_of_beq hb, rfl⟩
      · cases e
    refine ⟨rfl, fun y c e => ?_, fun x y c e1 e2 => (hK x c e1).1.trans (hK y c e2).1.symm, fun i y e => ?_⟩
    · obtain ⟨_, rfl⟩ := hK y c e
      exact ⟨(e0.bs _ _ (e0.mod.kin _ _ hcell)).2, _, _, KX _ _ hcell, rfl⟩
    · cases i with
      | zero =>
        have e' : y = "__class__" := by simpa using e.symm
        subst e'
        refine ⟨cc, by simp [List.lookup], fun v hv => ?_⟩
        have hv' : V.ref D = v := by simpa using hv
        subst hv'
        exact ⟨.ref D, rfl, _, KX _ _ hcell, rfl⟩
      | succ i => simp at e
  refine PySem.ks_codeAny_call_defAt hr.depth (KX _ _ lk) rfl lim (PySem.W.codeRec_of KX SF.cd) (body := F.body) rfl hb S.nocell (fun ⟨n, v⟩ hy => S.par n (List.of_mem_zip hy).1) (fun h₁ hns kp => ?_) S.co S.gen S.kind
  obtain ⟨t, ht, hq⟩ := hbody A outer s H vs Q E (hr.deeper _) hsp
  have I : Inv (NdefX.ncx (L2.CX P w) P w K mg base N F f A outer s H E) [] (NdefX.startF N vs [some (.ref D)]) H { s with heap := h₁, toks := s.toks + (ps.zip us).length } := NdefX.inv_startN S hr.hd e0 hl r C hns kp
  have fin : ∀ {s' : Shared} {σ' : L2.St} {H' : Hp} {v : V} {u : Value}, Inv (NdefX.ncx (L2.CX P w) P w K mg base N F f A outer s H E) [] σ' H' s' → RelV v u → Q v H' → CE outer P w H s Q u s' :=
    fun {s' σ' H' v u} J rv q => ⟨v, H', J.os, J.bare, J.base, J.hok, rv, q⟩
  have key : PySem.wpAt (model P w) (A.deeper (NdefX.envF F f s.heap.objs.size)) (.func F.body (NdefX.envF F f s.heap.objs.size)) (execs F.body (NdefX.envF F f s.heap.objs.size))
      (fun fl s' => CR (L2.CX P w) outer P w H s Q E (.ok (.ret (match fl with | .ret v => v | _ => .none))) s') (NdefX.ncx (L2.CX P w) P w K mg base N F f A outer s H E).xe { s with heap := h₁, toks := s.toks + (ps.zip us).length } := by
    have q0 := hq _ I
    rw [hbd] at q0 ⊢
    refine PySem.ks_wpAt_execs_cons (PySem.ks_wpAt_mono q0 (fun fl s1 h1 => ?_) fun _ _ z => z)
    obtain ⟨rfl, σ1, H1, I1, q1⟩ := h1
    refine PySem.wpAt_of_wpAny (thn (ht.run [] s1 σ1 H1 _ I1 q1) fun fl s2 h2 => ?_)
    cases fl with
    | ret u =>
      obtain ⟨v, σ', H', J, rv, q⟩ := h2
      exact fin J rv q
    | next =>
      obtain ⟨σ', H', J, q⟩ := h2
      exact fin (v := V.non) (u := Value.none) J rfl q
    | brk =>
      obtain ⟨_, _, _, q⟩ := h2
      exact False.elim q
    | cont =>
      obtain ⟨_, _, _, q⟩ := h2
      exact False.elim q
  exact key
end
/-! ### super() -/
section
variable {X : Cx} {pins : List (Addr × Obj)} {σ : St} {H : Hp} {s : Shared} {f D x C : Addr} {F : NdefX.NF} {dvs : List V} {fd : FuncData}
abbrev supO (D x C : Addr) : Obj := { cls := .type "super", dict := none, data := .fields #[.ref D, .ref x, .ref C], slots := #[] }
theorem sup_base {p0 p1 : Pos} {attr : Str} {whole : Sem Value} {E : Value → Shared → Prop} {Q : Value → Shared → Prop} {ar : Arg} {ox : Obj} (SF : SupFn X.prog X.K f F D dvs fd) (hE : X.env = NdefX.envF F f X.env.locals) (I : Inv X pins σ H s)
    (hsup : X.mg "super" = none) (hp : (F.params.posonlyargs ++ F.params.args).head? = some ar) (i : Nat) (hN : X.N[i]? = some ar.arg) (hσ : σ[i]? = some (some (.ref x))) (hka : F.scope.names.lookup ar.arg = some .local)
    (hx : s.heap.get? x = some ox) (hxc : ox.cls = .ref C) (hnc : ∀ c, ox.data ≠ .cls c) (hsub : PySem.W.mroIn X.K C (.ref D) = some true)
    (hks : F.scope.names.lookup ("super" : Str) = some .globalImplicit) (hkc : F.scope.names.lookup ("__class__" : Str) = some .free) (hk : F.scope.kind = .function) (hat : (attr == ("__class__" : Str)) = false)
    (h : ∀ so s', s'.heap.get? so = some (supO D x C) → (∀ b o, s.heap.get? b = some o → s'.heap.get? b = some o) → Inv X pins σ H s' → Q (.ref so) s') :
    PySem.wpAt (model X.prog X.w) X.A (.func F.body X.env) (attributeBase (.Call (.Name "super" p0) [] [] p1) attr X.env whole) Q E s := by
  obtain ⟨cc, oc, od, an, dV, kV, doc, pm, ct, osl, hcl, rfl, lk, hD, cl, cld, csl, hcell⟩ := SF.ex
  obtain ⟨ccl, cdd, vs, ccs, fl, tf, hcode, hvs, hfile⟩ := SF.file
  obtain ⟨cdD, hcD⟩ := SF.clsD
  have KX : X.K.In s.heap := I.kIn
  obtain ⟨oD, hD1, hD2⟩ : ∃ oD, s.heap.get? D = some oD ∧ oD.data = .cls cdD := by
    unfold PySem.W.clsIn at hcD
    split at hcD
    · rename_i c d cd' sl ho
      cases hcD
      exact ⟨_, KX _ _ ho, rfl⟩
    · cases hcD
  obtain ⟨m, hn, hloc⟩ := I.loc
  have hsc : X.env.scope = F.scope := by rw [hE]
  obtain ⟨u, ru, lu⟩ := hloc i ar.arg (.ref x) hN hσ (.inl (by rw [hsc]; exact hka))
  cases ru
  have hm : m ar.arg = some (.ref x) := by
    rcases lu with ⟨_, e⟩ | ⟨e, _⟩
    · exact e
    · have e2 : X.env.kindOf ar.arg = some .local := by show X.env.scope.names.lookup _ = _; rw [hsc]; exact hka
      rw [e2] at e; rcases e with e | e <;> cases e
  obtain ⟨mb, hb1, hb2⟩ := I.mod.blt
  refine PySem.ks_wpAt_super_base (env := X.env) (by show X.env.scope.names.lookup _ = _; rw [hsc]; exact hks) (by show X.env.scope.names.lookup _ = _; rw [hsc]; exact hkc) hat (by rw [hE]) (KX _ _ lk) rfl hp (by rw [hE]) (KX _ _ hcode) rfl hvs hfile SF.top ?_
  refine PySem.W.ks_loadName_global (by rw [hsc]; exact hk) (by show X.env.scope.names.lookup _ = _; rw [hsc]; exact hks) (Calls.loadGlobal_builtin (by rw [I.ok.glob]; exact I.mod.glob.keeps I.bk) hsup (by rw [I.ok.blt]; exact hb1.keeps I.bk) ((hb2 "super" (by decide +kernel)).trans (by decide +kernel : bootBuiltins "super" = some (.type "super"))) ⟨rfl, ?_⟩)
  refine wpAny_loadName_free (by rw [hsc]; exact hk) (by show X.env.scope.names.lookup _ = _; rw [hsc]; exact hkc) (by rw [hE]; show F.cl.lookup _ = _; rw [hcl]; rfl) ⟨_, KX _ _ hcell, rfl⟩ ?_
  refine wpAny_loadName_local (by rw [hsc]; exact hk) (by show X.env.scope.names.lookup _ = _; rw [hsc]; exact hka) hn hm ?_
  obtain ⟨hp', g', d', t', os'⟩ := s
  refine PySem.ks_wpAny_isType_cls hD1 hD2 ⟨rfl, ?_⟩
  refine PySem.ks_wpAny_call_super hD1 hD2 hx hxc hnc (PySem.W.looks_mroIn KX hsub) (fun h' e k => ?_)
  exact h _ _ e k (I.kept (t' := t') k)

/-- super().__init__('..') of an exception that is being made -/
structure SupExc (K : PySem.W.Frag) (C D : Addr) : Prop where
  oex : OexC K C
  sub : PySem.W.mroIn K C (.ref D) = some true
  ini : PySem.W.ks_superIn K C D "__init__" = some (some (.builtin "ValueError.__init__"))
  ve : PySem.W.subIn K (.ref C) (.type "ValueError") = some true
  third : PySem.W.nsIn K cStatics "thirdparty.any" = some none
theorem sup_exc {p0 p1 p2 p3 p4 p5 : Pos} {j : Nat} {msg : Str} {E : Value → Shared → Prop} {Q : Flow → Shared → Prop} {ar : Arg} (SF : SupFn X.prog X.K f F D dvs fd) (SE : SupExc X.K C D) (hE : X.env = NdefX.envF F f X.env.locals) (I : Inv X pins σ H s)
    (hsup : X.mg "super" = none) (hp : (F.params.posonlyargs ++ F.params.args).head? = some ar) (i : Nat) (hN : X.N[i]? = some ar.arg) (hσ : σ[i]? = some (some (.ref x))) (hka : F.scope.names.lookup ar.arg = some .local)
    (hx : H x = some (exo x C none)) (hks : F.scope.names.lookup ("super" : Str) = some .globalImplicit) (hkc : F.scope.names.lookup ("__class__" : Str) = some .free) (hk : F.scope.kind = .function)
    (h : ∀ s', Inv X pins σ H s' → Q .next s') (hli : p2.endLine = p2.endLine)
    (hsw : swapsWith (.Call (.Attribute (.Call (.Name "super" p0) [] [] p1) "__init__" p2) [.Constant (.str msg) j p5] [] p3) none p4.line X.env = pure false := by rfl)
    (pl : Sem Bool) (he : eval (.Call (.Attribute (.Call (.Name "super" p0) [] [] p1) "__init__" p2) [.Constant (.str msg) j p5] [] p3) X.env = (do
      let ov ← attributeBase (.Call (.Name "super" p0) [] [] p1) "__init__" X.env (eval (.Call (.Name "super" p0) [] [] p1) X.env)
      standAt p2.atName
      let (f, first) ← holding [ov] (getMethod ov "__init__" pl)
      callWith p3 f first (backTo p3 (starEach [.Constant (.str msg) j p5] X.env)) [])) :
    PySem.wpAt (model X.prog X.w) X.A (.func F.body X.env) (exec (.Expr (.Call (.Attribute (.Call (.Name "super" p0) [] [] p1) "__init__" p2) [.Constant (.str msg) j p5] [] p3) p4) X.env) Q E s := by
  obtain ⟨t1, ho⟩ := exo_at I.hok hx
  obtain ⟨nm, q, N, bs, bm, sn, sub, ab, col, dd, k0, k1, k2, k3, k5, hC, hbm⟩ := SE.oex.cls
  refine PySem.ks_wpAt_Expr_any (PySem.ks_wpAt_MethodCall (pl := pl) (sup_base SF hE I hsup hp i hN hσ hka ho rfl (fun c z => nomatch z) SE.sub hks hkc hk (by decide +kernel) fun so s1 hso kp I1 => ?_) he) I.quiet hsw
  have KX1 : X.K.In s1.heap := I1.kIn
  have ho1 := kp _ _ ho
  have hmro := SE.ini
  unfold PySem.W.ks_superIn at hmro
  cases hcl : PySem.W.clsIn X.K C with
  | none => rw [hcl] at hmro; cases hmro
  | some cd =>
    rw [hcl] at hmro
    have LT : PySem.W.Looks (model X.prog X.w) s1.heap (typeOf (.ref x)) (.ref C) := fun A Q E s k q => wpAny_typeOf_ref (k _ _ ho1) q
    have hI : PySem.W.Looks (model X.prog X.w) s1.heap (isInstance (.ref x) (.type "ValueError")) true := LT.andThen (PySem.W.looks_subIn KX1 SE.ve)
    have hxC : x ≠ C := fun z => by
      have e1 := KX1 _ _ hC
      rw [← z, ho1] at e1
      cases e1
    obtain ⟨h1, g1, d1, t1', os1⟩ := s1
    refine PySem.W.kxs_getMethod PySem.W.kxs_ValueError hso (PySem.W.looks_opaque KX1 SE.third) (l₀ := cd.mro) ?_ rfl KX1 hmro hI hxC (by decide +kernel) ?_
    · exact fun A Q E s k q => wpAny_bind ((PySem.W.looks_clsIn KX1 hcl) A _ E s k (wpAny_pure q))
    · show wpAny _ _ (callWith p3 (.ref h1.objs.size) [] (backTo p3 (starEach [.Constant (.str msg) j p5] X.env)) []) _ _ _
      have I2 : Inv X pins σ H ⟨h1.push (PySem.W.kxs_mw "ValueError.__init__" x), g1, d1, t1' + 1, os1⟩ := I1.kept (t' := t1' + 1) fun b o e => Heap.get?_push_of_some _ e
      have hu : (h1.push (PySem.W.kxs_mw "ValueError.__init__" x)).get? h1.objs.size = some (PySem.W.kxs_mw "ValueError.__init__" x) := Heap.get?_push_size _ rfl
      refine PySem.W.kxs_callWith (i := "ValueError.__init__") (x := x) rfl (Calls.evalArgs_plain (Calls.spliced_cons (Calls.Constant_str (pos := p5) (k := j) (Calls.spliced_nil ⟨hu, ?_⟩))))
      have I3 := I2.tok (t1' + 1 + 1)
      have ho3 : (h1.push (PySem.W.kxs_mw "ValueError.__init__" x)).get? x = some _ := Heap.get?_push_of_some _ ho1
      have hC3 : (h1.push (PySem.W.kxs_mw "ValueError.__init__" x)).get? C = some _ := Heap.get?_push_of_some _ (KX1 _ _ hC)
      show wpAny _ _ (call (.ref h1.objs.size) [.str msg _] []) _ _ _
      refine wpAny_call (codeAny_of_tree ?_)
      show wpAny _ _ (callAny (.ref h1.objs.size) ⟨[.str msg _], []⟩) _ _ _
      simp only [callAny]
      refine wpAny_bind (wpAny_load hu ?_)
      simp only [PySem.W.kxs_mw, show (Value.type "method-wrapper" == Value.type "method" || Value.type "method-wrapper" == Value.type "builtin_function_or_method" || Value.type "method-wrapper" == Value.type "method-wrapper") = true by decide, if_true]
      refine PySem.W.KFB.if_so (by decide) ?_
      refine wpAny_bind (PySem.W.check_bound_init PySem.F.excBase_ValueError.toExcCallFacts hC3 ho3 rfl ?_)
      refine wpAny_bind (wpAny_pure (wpAny_pure ?_))
      refine ⟨plainId_quiet PySem.F.excBase_ValueError.init.plain _, codeAny_builtin PySem.F.excBase_ValueError.initEntry ?_⟩
      refine PySem.W.exc_init_tree (cls := .ref C) (dv := none) (c2 := .none) (c3 := .none) (b4 := .bool false) ho3 (by show 1 ≤ sizeLine; decide) fun h' k hx' _ => ?_
      have J := I3.write (t' := t1' + 1 + 1) (x := x) (e := x) (o := exo x C none) (by rw [hx]; exact True.intro) (.inl rfl) k ⟨_, hx'⟩ (exo_ok hx')
      have eu : upd H x (exo x C none) = H := by
        funext b
        by_cases hb : b = x
        · rw [hb, upd_same, hx]
        · rw [upd_ne hb]
      rw [eu] at J
      exact h _ J
end
end Ta

set_option Elab.async false
set_option linter.all false
set_option maxRecDepth 100000
set_option maxHeartbeats 1000000
namespace Ta
open PySem PySem.Spec PyProof.Rows L2

theorem upd_comm {H : Hp} {a b : Addr} {o u : HO} (h : a ≠ b) : upd (upd H a o) b u = upd (upd H b u) a o := by
  funext c
  unfold upd
  by_cases h1 : c = a
  · subst h1; simp [h]
  · by_cases h2 : c = b
    · subst h2; simp [h1]
    · simp [h1, h2]
/-- __init__ of an exception with the fields fs -/
def spE (C : Addr) (fs : List Str) : Sp := fun vs H Q _ => ∃ a ws, vs = .ref a :: ws ∧ ws.length = fs.length ∧ H a = some (exo a C none) ∧
  (fs = [] → Q .non H) ∧ (fs ≠ [] → ∀ dx, H dx = none → dx ≠ a → Q .non (upd (upd H dx (exd dx (fs.zip ws).reverse)) a (exo a C (some dx))))
section
variable {P : Program} {w : World} {K : PySem.W.Frag} {mg : Str → Option Value} {base : Heap} {f D C : Addr} {F : NdefX.NF} {fd : FuncData}
  {p0 p1 p2 p3 p4 p5 q0 q1 q2 q3 r0 r1 r2 r3 s0 s1 s2 s3 : Pos} {j : Nat} {msg g1 g2 g3 : Str}
abbrev supSt (p0 p1 p2 p3 p4 p5 : Pos) (j : Nat) (msg : Str) : Stmt := .Expr (.Call (.Attribute (.Call (.Name "super" p0) [] [] p1) "__init__" p2) [.Constant (.str msg) j p5] [] p3) p4
abbrev stoSt (q0 q1 q2 q3 : Pos) (g : Str) : Stmt := .Assign [.Attribute (.Name "self" q0) g q1] (.Name g q2) q3
theorem sup_start {N ps : List Str} {A : Around} {outer : List Env} {s : Shared} {H : Hp} {vs ws : List V} {E : XK} {T : St → Hp → Prop} {a : Addr} {ar : Arg} (SF : SupFn P K f F D [] fd) (SE : SupExc K C D) (S : NdefX.NScope N ps ["__class__"] F.scope)
    (hsup : mg "super" = none) (hp : (F.params.posonlyargs ++ F.params.args).head? = some ar) (hN : N[0]? = some ar.arg) (hka : F.scope.names.lookup ar.arg = some .local) (hks : F.scope.names.lookup ("super" : Str) = some .globalImplicit)
    (hev : ∀ env : Env, ∃ pl, eval (.Call (.Attribute (.Call (.Name "super" p0) [] [] p1) "__init__" p2) [.Constant (.str msg) j p5] [] p3) env = (do
      let ov ← attributeBase (.Call (.Name "super" p0) [] [] p1) "__init__" env (eval (.Call (.Name "super" p0) [] [] p1) env)
      standAt p2.atName
      let (f, first) ← holding [ov] (getMethod ov "__init__" pl)
      callWith p3 f first (backTo p3 (starEach [.Constant (.str msg) j p5] env)) [])) (hvs : vs = .ref a :: ws) (ha : H a = some (exo a C none)) (q : T (NdefX.startF N vs [some (.ref D)]) H) :
    ∀ s', Inv (NdefX.ncx (L2.CX P w) P w K mg base N F f A outer s H E) [] (NdefX.startF N vs [some (.ref D)]) H s' →
      PySem.wpAt (model P w) (A.deeper (NdefX.envF F f s.heap.objs.size)) (.func F.body (NdefX.envF F f s.heap.objs.size)) (exec (supSt p0 p1 p2 p3 p4 p5 j msg) (NdefX.envF F f s.heap.objs.size))
        (fun fl s'' => fl = .next ∧ ∃ σ' H', Inv (NdefX.ncx (L2.CX P w) P w K mg base N F f A outer s H E) [] σ' H' s'' ∧ T σ' H')
        (NdefX.ncx (L2.CX P w) P w K mg base N F f A outer s H E).xe s' := fun s' I => by
  obtain ⟨pl, hev⟩ := hev (NdefX.envF F f s.heap.objs.size)
  refine sup_exc (X := NdefX.ncx (L2.CX P w) P w K mg base N F f A outer s H E) SF SE rfl I hsup hp 0 hN (by subst hvs; rfl) hka ha hks (S.frk _ List.mem_cons_self) S.kind (fun s2 I2 => ⟨rfl, _, _, I2, q⟩) rfl rfl pl hev
theorem ok_exc0 (hbd : F.body = [supSt p0 p1 p2 p3 p4 p5 j msg]) (SF : SupFn P K f F D [] fd) (SE : SupExc K C D) (S : NdefX.NScope ["self", "__class__"] ["self"] ["__class__"] F.scope) (hsup : mg "super" = none)
    (hp : (F.params.posonlyargs ++ F.params.args).head?.map (·.arg) = some ("self" : Str)) (hks : F.scope.names.lookup ("super" : Str) = some .globalImplicit)
    (hev : ∀ env : Env, ∃ pl, eval (.Call (.Attribute (.Call (.Name "super" p0) [] [] p1) "__init__" p2) [.Constant (.str msg) j p5] [] p3) env = (do
      let ov ← attributeBase (.Call (.Name "super" p0) [] [] p1) "__init__" env (eval (.Call (.Name "super" p0) [] [] p1) env)
      standAt p2.atName
      let (f, first) ← holding [ov] (getMethod ov "__init__" pl)
      callWith p3 f first (backTo p3 (starEach [.Constant (.str msg) j p5] env)) [])) : FnOk P w K mg base (L2.CX P w) 1 f fd ["self"] (spE C []) := by
  obtain ⟨ar, hp, har⟩ := Option.map_eq_some_iff.mp hp
  refine fn_sup SF hbd S (fun vs H Q E h => ?_) (fun A outer s H vs Q E hr h => ?_)
  · obtain ⟨a, ws, rfl, hl, _⟩ := h
    simp at hl; subst hl; rfl
  · obtain ⟨a, ws, rfl, hl, ha, h1, h2⟩ := h
    refine ⟨tNext, pss_nil, ?_⟩
    exact sup_start (T := tNext _) SF SE S hsup hp (by rw [har]; rfl) (by rw [har]; exact S.par _ List.mem_cons_self) hks hev rfl ha (h1 rfl)
theorem ok_exc1 (hbd : F.body = [supSt p0 p1 p2 p3 p4 p5 j msg, stoSt q0 q1 q2 q3 g1]) (SF : SupFn P K f F D [] fd) (SE : SupExc K C D) (S : NdefX.NScope ["self", g1, "__class__"] ["self", g1] ["__class__"] F.scope) (hsup : mg "super" = none)
    (hp : (F.params.posonlyargs ++ F.params.args).head?.map (·.arg) = some ("self" : Str)) (hks : F.scope.names.lookup ("super" : Str) = some .globalImplicit) (hg : PySem.W.findIn K (.ref C) g1 = some none)
    (hd : (g1 == ("__debug__" : Str)) = false) (hd2 : (g1 == ("__classdict__" : Str)) = false)
    (hev : ∀ env : Env, ∃ pl, eval (.Call (.Attribute (.Call (.Name "super" p0) [] [] p1) "__init__" p2) [.Constant (.str msg) j p5] [] p3) env = (do
      let ov ← attributeBase (.Call (.Name "super" p0) [] [] p1) "__init__" env (eval (.Call (.Name "super" p0) [] [] p1) env)
      standAt p2.atName
      let (f, first) ← holding [ov] (getMethod ov "__init__" pl)
      callWith p3 f first (backTo p3 (starEach [.Constant (.str msg) j p5] env)) [])) : FnOk P w K mg base (L2.CX P w) 1 f fd ["self", g1] (spE C [g1]) := by
  obtain ⟨ar, hp, har⟩ := Option.map_eq_some_iff.mp hp
  refine fn_sup SF hbd S (fun vs H Q E h => ?_) (fun A outer s H vs Q E hr h => ?_)
  · obtain ⟨a, ws, rfl, hl, _⟩ := h
    simpa using hl
  · obtain ⟨a, ws, rfl, hl, ha, h1, h2⟩ := h
    obtain ⟨v, rfl⟩ : ∃ v, ws = [v] := by
      match ws, hl with
      | [v], _ => exact ⟨v, rfl⟩
    have hv := S.par g1 (by simp)
    have hs := S.par "self" (by simp)
    refine ⟨_, pss_one (ps_ost (pe_var (i := 0) rfl (.inl hs) (by decide +kernel) (by decide +kernel)) (pe_var (i := 1) rfl (.inl hv) hd hd2) (by rfl)), ?_⟩
    refine sup_start (T := tOst K g1 (tVar 0) (tVar 1) _) SF SE S hsup hp (by rw [har]; rfl) (by rw [har]; exact hs) hks hev rfl ha ?_
    exact ⟨v, rfl, .ref a, rfl, a, C, rfl, SE.oex, hg, .inl ⟨ha, fun dx n ne => h2 (by simp) dx n ne⟩⟩
theorem ok_exc2 (hbd : F.body = [supSt p0 p1 p2 p3 p4 p5 j msg, stoSt q0 q1 q2 q3 g1, stoSt r0 r1 r2 r3 g2]) (SF : SupFn P K f F D [] fd) (SE : SupExc K C D) (S : NdefX.NScope ["self", g1, g2, "__class__"] ["self", g1, g2] ["__class__"] F.scope) (hsup : mg "super" = none)
    (hp : (F.params.posonlyargs ++ F.params.args).head?.map (·.arg) = some ("self" : Str)) (hks : F.scope.names.lookup ("super" : Str) = some .globalImplicit) (hg : PySem.W.findIn K (.ref C) g1 = some none) (hg2 : PySem.W.findIn K (.ref C) g2 = some none)
    (hd : (g1 == ("__debug__" : Str)) = false) (hd2 : (g1 == ("__classdict__" : Str)) = false) (hd3 : (g2 == ("__debug__" : Str)) = false) (hd4 : (g2 == ("__classdict__" : Str)) = false)
    (hev : ∀ env : Env, ∃ pl, eval (.Call (.Attribute (.Call (.Name "super" p0) [] [] p1) "__init__" p2) [.Constant (.str msg) j p5] [] p3) env = (do
      let ov ← attributeBase (.Call (.Name "super" p0) [] [] p1) "__init__" env (eval (.Call (.Name "super" p0) [] [] p1) env)
      standAt p2.atName
      let (f, first) ← holding [ov] (getMethod ov "__init__" pl)
      callWith p3 f first (backTo p3 (starEach [.Constant (.str msg) j p5] env)) [])) : FnOk P w K mg base (L2.CX P w) 1 f fd ["self", g1, g2] (spE C [g1, g2]) := by
  obtain ⟨ar, hp, har⟩ := Option.map_eq_some_iff.mp hp
  refine fn_sup SF hbd S (fun vs H Q E h => ?_) (fun A outer s H vs Q E hr h => ?_)
  · obtain ⟨a, ws, rfl, hl, _⟩ := h
    simpa using hl
  · obtain ⟨a, ws, rfl, hl, ha, h1, h2⟩ := h
    obtain ⟨v, v2, rfl⟩ : ∃ v v2, ws = [v, v2] := by
      match ws, hl with
      | [v, v2], _ => exact ⟨v, v2, rfl⟩
    have hv := S.par g1 (by simp)
    have hv2 := S.par g2 (by simp)
    have hs := S.par "self" (by simp)
    refine ⟨_, pss_cons (ps_ost (pe_var (i := 0) rfl (.inl hs) (by decide +kernel) (by decide +kernel)) (pe_var (i := 1) rfl (.inl hv) hd hd2) (by rfl)) (pss_one (ps_ost (pe_var (i := 0) rfl (.inl hs) (by decide +kernel) (by decide +kernel)) (pe_var (i := 2) rfl (.inl hv2) hd3 hd4) (by rfl))), ?_⟩
    refine sup_start (T := tSeq (tOst K g1 (tVar 0) (tVar 1)) (tOst K g2 (tVar 0) (tVar 2)) _) SF SE S hsup hp (by rw [har]; rfl) (by rw [har]; exact hs) hks hev rfl ha ?_
    refine ⟨v, rfl, .ref a, rfl, a, C, rfl, SE.oex, hg, .inl ⟨ha, fun dx n ne => ?_⟩⟩
    refine ⟨v2, rfl, .ref a, rfl, a, C, rfl, SE.oex, hg2, .inr ⟨dx, _, upd_same, by rw [upd_ne ne, upd_same], by simp, ?_⟩⟩
    have e := h2 (by simp) dx n ne
    rw [upd_comm (Ne.symm ne), upd_upd]
    exact e
theorem ok_exc3 (hbd : F.body = [supSt p0 p1 p2 p3 p4 p5 j msg, stoSt q0 q1 q2 q3 g1, stoSt r0 r1 r2 r3 g2, stoSt s0 s1 s2 s3 g3]) (SF : SupFn P K f F D [] fd) (SE : SupExc K C D) (S : NdefX.NScope ["self", g1, g2, g3, "__class__"] ["self", g1, g2, g3] ["__class__"] F.scope) (hsup : mg "super" = none)
    (hp : (F.params.posonlyargs ++ F.params.args).head?.map (·.arg) = some ("self" : Str)) (hks : F.scope.names.lookup ("super" : Str) = some .globalImplicit) (hg : PySem.W.findIn K (.ref C) g1 = some none) (hg2 : PySem.W.findIn K (.ref C) g2 = some none) (hg3 : PySem.W.findIn K (.ref C) g3 = some none)
    (hd : (g1 == ("__debug__" : Str)) = false) (hd2 : (g1 == ("__classdict__" : Str)) = false) (hd3 : (g2 == ("__debug__" : Str)) = false) (hd4 : (g2 == ("__classdict__" : Str)) = false) (hd5 : (g3 == ("__debug__" : Str)) = false) (hd6 : (g3 == ("__classdict__" : Str)) = false)
    (hev : ∀ env : Env, ∃ pl, eval (.Call (.Attribute (.Call (.Name "super" p0) [] [] p1) "__init__" p2) [.Constant (.str msg) j p5] [] p3) env = (do
      let ov ← attributeBase (.Call (.Name "super" p0) [] [] p1) "__init__" env (eval (.Call (.Name "super" p0) [] [] p1) env)
      standAt p2.atName
      let (f, first) ← holding [ov] (getMethod ov "__init__" pl)
      callWith p3 f first (backTo p3 (starEach [.Constant (.str msg) j p5] env)) [])) :
    FnOk P w K mg base (L2.CX P w) 1 f fd ["self", g1, g2, g3] (spE C [g1, g2, g3]) := by
  obtain ⟨ar, hp, har⟩ := Option.map_eq_some_iff.mp hp
  refine fn_sup SF hbd S (fun vs H Q E h => ?_) (fun A outer s H vs Q E hr h => ?_)
  · obtain ⟨a, ws, rfl, hl, _⟩ := h
    simpa using hl
  · obtain ⟨a, ws, rfl, hl, ha, h1, h2⟩ := h
    obtain ⟨v, v2, v3, rfl⟩ : ∃ v v2 v3, ws = [v, v2, v3] := by
      match ws, hl with
      | [v, v2, v3], _ => exact ⟨v, v2, v3, rfl⟩
    have hv := S.par g1 (by simp)
    have hv2 := S.par g2 (by simp)
    have hv3 := S.par g3 (by simp)
    have hs := S.par "self" (by simp)
    refine ⟨_, pss_cons (ps_ost (pe_var (i := 0) rfl (.inl hs) (by decide +kernel) (by decide +kernel)) (pe_var (i := 1) rfl (.inl hv) hd hd2) (by rfl)) (pss_cons (ps_ost (pe_var (i := 0) rfl (.inl hs) (by decide +kernel) (by decide +kernel)) (pe_var (i := 2) rfl (.inl hv2) hd3 hd4) (by rfl))
      (pss_one (ps_ost (pe_var (i := 0) rfl (.inl hs) (by decide +kernel) (by decide +kernel)) (pe_var (i := 3) rfl (.inl hv3) hd5 hd6) (by rfl)))), ?_⟩
    refine sup_start (T := tSeq (tOst K g1 (tVar 0) (tVar 1)) (tSeq (tOst K g2 (tVar 0) (tVar 2)) (tOst K g3 (tVar 0) (tVar 3))) _) SF SE S hsup hp (by rw [har]; rfl) (by rw [har]; exact hs) hks hev rfl ha ?_
    refine ⟨v, rfl, .ref a, rfl, a, C, rfl, SE.oex, hg, .inl ⟨ha, fun dx n ne => ?_⟩⟩
    refine ⟨v2, rfl, .ref a, rfl, a, C, rfl, SE.oex, hg2, .inr ⟨dx, _, upd_same, by rw [upd_ne ne, upd_same], by simp, ?_⟩⟩
    refine ⟨v3, rfl, .ref a, rfl, a, C, rfl, SE.oex, hg3, .inr ⟨dx, _, by rw [upd_ne (Ne.symm ne), upd_same], upd_same, by simp, ?_⟩⟩
    have e := h2 (by simp) dx n ne
    rw [upd_upd, upd_comm (Ne.symm ne), upd_upd]
    exact e
end
/-! ### raise X(..) -/
section
variable (P : Program) (w : World) (K : PySem.W.Frag) (mg : Str → Option Value) (base : Heap)
structure Ex (x : Str) (C : Addr) (fs : List Str) : Prop where
  ex : ∃ (f : Addr) (fd : FuncData) (ps : List Str), FnOk P w K mg base (L2.CX P w) 1 f fd ps (spE C fs) ∧ PySem.W.findIn K (.ref C) "__init__" = some (some (.ref f)) ∧ PySem.W.typeIn K (.ref f) = some (.type "function") ∧ Binds K fd ps [] ∧ mg x = some (.ref C)
  oex : OexC K C
end
section
variable {X : Cx} {x : Str} {p pos : Pos} {e : Expr} {es : List Expr} {t : TA} {W : WX} {C : Addr} {fs : List Str}
def tRs (C : Addr) (fs : List Str) (W : WX) (t : TA) : TS := fun _ σ H => t σ H fun vs H1 => vs.length = fs.length ∧ ∀ d, H1 d = none → W (.ref C) (some d) σ (upd H1 d (.xd (fs.zip vs).reverse))
theorem xd_eq {H1 : Hp} {a d : Addr} {o1 o2 u v : HO} (ha : H1 a = none) (hda : d ≠ a) : upd (del (upd (upd (upd H1 a o1) d u) a o2) a) d v = upd H1 d v := by
  funext c
  unfold upd del
  by_cases h1 : c = d
  · simp [h1]
  · by_cases h2 : c = a
    · subst h2; simp [h1, ha]
    · simp [h1, h2]
theorem pmkE (G : Ex X.prog X.w X.K X.mg X.base x C fs) (hne : fs ≠ []) (hlen : fs.length ≤ 900) (hr : Room 2 X.A) (tk : Takes X W) (ha : PA X (e :: es) t) (hg : Gl X x) (hdb : (x == ("__debug__" : Str)) = false)
    (he : starEach (e :: es) X.env = (false, eval e X.env) :: starEach es X.env) (hpl : (backTo pos (starEach es X.env)).any (·.1) = false) :
    PMk X (.Call (.Name x p) (e :: es) [] pos) (fun σ H Q => t σ H fun vs H1 => vs.length = fs.length ∧ ∀ d, H1 d = none → Q (.ref C) (some d) (upd H1 d (.xd (fs.zip vs).reverse))) := by
  obtain ⟨fI, fd, ps, F1, iC, tI, hb, hm⟩ := G.ex
  have T := G.oex
  intro pins s σ H Q I h
  obtain ⟨nm, q, N, bs, bm, sn, sub, ab, col, dd, k0, k1, k2, k3, k5, hC, hbm⟩ := T.cls
  refine wpAny_Call_Name_kw (ld_glob I hg hm ?_ hdb)
  refine PySem.W.callWith_K (h₀ := X.base) I.ok.mod.kin T.kC (thn (ha.run pos pins s σ H _ I h) fun us s1 ⟨vs, H1, I1, r1, hz, q1⟩ => ⟨I1.kIn, ?_⟩) he hpl
  show wpAny _ _ (call (.ref C) us) _ _ _
  obtain ⟨hp, g, dr, tok, os⟩ := s1
  have hsz : hp.objs.size ≤ hp.objs.size + 1 := Nat.le_succ _
  have hn : H1 (hp.objs.size + 1) = none := I1.hok.fresh hsz
  have hq : spE C fs (.ref (hp.objs.size + 1) :: vs) (upd H1 (hp.objs.size + 1) (exo (hp.objs.size + 1) C none))
      (fun v H2 => v = .non ∧ ∃ (d : Addr) (gs : List (Str × V)), H2 (hp.objs.size + 1) = some (exo (hp.objs.size + 1) C (some d)) ∧ H2 d = some (exd d gs) ∧ H1 d = none ∧ Q (.ref C) (some d) (upd (del H2 (hp.objs.size + 1)) d (.xd gs))) (fun _ _ _ => False) := by
    refine ⟨_, vs, rfl, hz, upd_same, fun e0 => absurd e0 hne, fun _ dx n ne => ⟨rfl, dx, _, upd_same, by rw [upd_ne ne, upd_same], ?_, ?_⟩⟩
    · rw [upd_ne ne] at n; exact n
    · rw [upd_ne ne] at n
      rw [xd_eq hn ne]; exact q1 dx n
  have kk : ∀ b o, hp.get? b = some o → ((hp.push (PySem.W.kdv_tup us)).push (PySem.HandSPX.excO C hp.objs.size)).get? b = some o := fun b o e => Heap.get?_push_of_some _ (Heap.get?_push_of_some _ e)
  have hget : ((hp.push (PySem.W.kdv_tup us)).push (PySem.HandSPX.excO C hp.objs.size)).get? (hp.objs.size + 1) = some (PySem.HandSPX.excO C hp.objs.size) := by heap_get
  have I2 : Inv X pins σ (upd H1 (hp.objs.size + 1) (exo (hp.objs.size + 1) C none)) ⟨(hp.push (PySem.W.kdv_tup us)).push (PySem.HandSPX.excO C hp.objs.size), g, dr, tok, os⟩ :=
    I1.laid (t' := tok) (a := hp.objs.size + 1) (o := exo (hp.objs.size + 1) C none) (h' := (hp.push (PySem.W.kdv_tup us)).push (PySem.HandSPX.excO C hp.objs.size)) kk hsz (exo_ok hget)
  have r2 : Vals (V.ref (hp.objs.size + 1) :: vs) (Value.ref (hp.objs.size + 1) :: us) := .cons rfl r1
  have hl : (Value.ref (hp.objs.size + 1) :: us ++ []).length = ps.length := by
    have e := r2.length
    rw [F1.len _ _ _ _ hq] at e
    rw [List.append_nil]
    exact e.symm
  have hus : us.length ≤ sizeLine := by
    rw [← Paired.length r1, sizeLine_eq]
    omega
  have hbi := hb ⟨(hp.push (PySem.W.kdv_tup us)).push (PySem.HandSPX.excO C hp.objs.size), g, dr, tok, os⟩ (Value.ref (hp.objs.size + 1) :: us) I2.kIn hl
  rw [List.append_nil] at hbi
  refine wpAny_call (PySem.HandSPX.call_own PySem.F.excBase_ValueError (fun Y => PySem.HandSPX.refsVE_contains Y bm hbm) (I1.kIn _ _ hC) (PySem.W.looks_findIn I1.kIn iC) (fun self => PySem.W.bind_fn I1.kIn self tI) hus
    (codeAny_mono (F1.run _ X.stack _ _ ⟨Value.ref (hp.objs.size + 1) :: us, []⟩ (Value.ref (hp.objs.size + 1) :: us) _ _ (fun _ _ _ => False) (hr.make C us []) (I2.env0.make C us []) hbi r2 hq) fun r s' hq' => ?_))
  cases r with
  | error er => exact tk er s' (XE.of_call I2 (fun _ _ _ z => z.elim) hq')
  | ok fl =>
    cases fl with
    | ret u =>
      obtain ⟨v, H2, os2, bare2, un2, hok2, rv, ev, d, gs, ea, ed, hd1, q2⟩ := hq'
      subst ev
      obtain ⟨h2, g2, d2, t2, os'⟩ := s'
      exact ⟨rv, mk_end (raises_own T.exC T.tyC) I1 hsz kk un2 hok2 os2 bare2 ea ed hd1 q2⟩
    | next => exact False.elim hq'
    | brk => exact False.elim hq'
    | cont => exact False.elim hq'
theorem praise (G : Ex X.prog X.w X.K X.mg X.base x C fs) (hr : Room 2 X.A) (tk : Takes X W) (ha : PA X (e :: es) t) {pos' : Pos} (hc : X.calm = true := by rfl) (hne : fs ≠ [] := by decide) (hlen : fs.length ≤ 900 := by decide) (hg : Gl X x := by rfl) (hdb : (x == ("__debug__" : Str)) = false := by decide +kernel)
    (he : starEach (e :: es) X.env = (false, eval e X.env) :: starEach es X.env := by rfl) (hpl : (backTo pos (starEach es X.env)).any (·.1) = false := by rfl) :
    PS X (.Raise (some (.Call (.Name x p) (e :: es) [] pos)) none pos') (tRs C fs W t) :=
  ps_raise hc tk (pmkE G hne hlen hr tk ha hg hdb he hpl)
end
end Ta

set_option Elab.async false
set_option linter.all false
set_option maxRecDepth 100000
set_option maxHeartbeats 1000000
namespace Ta
open PySem PySem.Spec PyProof.Rows L2

/-! ### a caught exception: its fields, isinstance -/
section
variable {X : Cx} {a : Addr} {oe : Obj} {cls : Value} {d : Option Addr} {pn : List (Addr × Obj)}
structure XC (K : PySem.W.Frag) (C : Addr) : Prop where
  x : XfC K C
  e : ExcC K C
def tXat (K : PySem.W.Frag) (a : Addr) (cls : Value) (d : Option Addr) (f : Str) (te : TE) : TE := fun σ H Q => te σ H fun x H1 => x = .ref a ∧ match cls with
  | .ref C => (match d with
    | some dd => XC K C ∧ PySem.W.findIn K (.ref C) f = some none ∧ look H1 dd fun o => (match o with
      | some (.xd fs) => fld fs f fun v => Q v H1
      | _ => False)
    | none => False)
  | _ => False
theorem tXat_e {K : PySem.W.Frag} {cls : Value} {d : Option Addr} {f : Str} {H1 : Hp} {k : V → Prop} (h : match cls with
  | .ref C => (match d with
    | some dd => XC K C ∧ PySem.W.findIn K (.ref C) f = some none ∧ look H1 dd fun o => (match o with
      | some (.xd fs) => fld fs f fun v => k v
      | _ => False)
    | none => False)
  | _ => False) : ∃ (C dd : Addr), cls = .ref C ∧ d = some dd ∧ XC K C ∧ PySem.W.findIn K (.ref C) f = some none ∧ look H1 dd fun o => match o with
    | some (.xd fs) => fld fs f fun v => k v
    | _ => False := by
  cases cls with
  | ref C =>
    cases d with
    | none => exact h.elim
    | some dd => exact ⟨C, dd, rfl, rfl, h⟩
  | _ => exact h.elim
theorem pxat {e : Expr} {te : TE} {pos : Pos} {n : Str} (hz : Zc cls d oe) (hf : ∃ vs, oe.data = .fields vs) (he : PE (X.suite a ((a, oe) :: pn)) e te) (hb : attributeBase e n X.env (eval e X.env) = eval e X.env := by rfl) :
    PE (X.suite a ((a, oe) :: pn)) (.Attribute e n pos) (tXat X.K a cls d n te) := by
  refine ⟨fun pins s σ H Q I h => ?_⟩
  refine attr_of hb (thn (he.run pins s σ H _ I h) fun u s1 hh => ?_)
  obtain ⟨x, H1, I1, rx, ex, hh⟩ := hh
  obtain ⟨C, dd, ec, ed, T, hno, q⟩ := tXat_e hh
  subst ex
  obtain rfl : u = Value.ref a := rx
  subst ec
  subst ed
  have q := look_e q
  cases ea : H1 dd with
  | none => rw [ea] at q; exact q.elim
  | some ob =>
    rw [ea] at q
    cases ob with
    | xd fs =>
      obtain ⟨v, l, q⟩ := fld_e q
      obtain ⟨ha, _⟩ := I1.pin (a, oe) (List.mem_append_left _ List.mem_cons_self)
      obtain ⟨vs, hd⟩ := hf
      have hx : ObjOk X.prog X.w H1 s1.heap dd (.xd fs) := I1.hok dd _ ea
      obtain ⟨mA, hns, hr⟩ := hx
      obtain ⟨od, ho, hl⟩ := lookIn_ns hns
      obtain ⟨u, hu, ru⟩ := RelO.some_of (v := v) (o := mA n) (by rw [← l]; exact hr n)
      have J : PySem.W.InstAt s1.heap a oe C (some od) := ⟨ha, hz.1, by unfold PySem.W.notCls; rw [hd] <;> rfl, by rw [hz.2]; exact ho⟩
      exact HandSPX.exc_get I1.kIn J T.x.ga T.x.gg T.x.exC (PySem.W.findObj_own T.x.hdC hno rfl (by rw [hl, hu])) (handed_of ru) ⟨v, H1, I1.tok _, ru, q⟩
    | _ => exact q.elim
def clsOf : V → Value
  | .ty n => .type n
  | .ref C => .ref C
  | _ => .none
def isCls : V → Bool
  | .ty _ => true
  | .ref _ => true
  | _ => false
theorem clsV_of {c : V} (h : isCls c = true) : ClsV c (clsOf c) := by
  cases c with
  | ty n => exact .ty n
  | ref C => exact .own C
  | _ => cases h
theorem clsV_all : ∀ {cs : List V}, cs.all isCls = true → Paired ClsV cs (cs.map clsOf)
  | [], _ => .nil
  | c :: cs, h => by
    simp only [List.all_cons, Bool.and_eq_true] at h
    exact .cons (clsV_of h.1) (clsV_all h.2)
/-- isinstance's second argument: a class, a tuple of classes that was laid -/
structure isaP (K : PySem.W.Frag) (t : Value) (c : V) (H : Hp) (Q : Bool → Prop) : Prop where
  out : (isCls c = true ∧ ∃ b, PySem.W.kitOne K t (clsOf c) = some b ∧ Q b) ∨ ∃ tp cs b, c = .ref tp ∧ H tp = some (.tup cs) ∧ cs.all isCls = true ∧ PySem.W.kitAny K t (cs.map clsOf) = some b ∧ Q b
theorem isa_1 {K : PySem.W.Frag} {t : Value} {c : V} {H : Hp} {Q : Bool → Prop} {b : Bool} (h : isCls c = true) (h2 : PySem.W.kitOne K t (clsOf c) = some b) (q : Q b) : isaP K t c H Q := by
  refine ⟨?_⟩; exact .inl ⟨h, b, h2, q⟩
theorem isa_t {K : PySem.W.Frag} {t : Value} {tp : Addr} {cs : List V} {H : Hp} {Q : Bool → Prop} {b : Bool} (h : H tp = some (.tup cs)) (h1 : cs.all isCls = true) (h2 : PySem.W.kitAny K t (cs.map clsOf) = some b) (q : Q b) : isaP K t (.ref tp) H Q := by
  refine ⟨?_⟩; exact .inr ⟨tp, cs, b, rfl, h, h1, h2, q⟩
/-- isinstance(e, ..), e the caught exception -/
def zIsX (K : PySem.W.Frag) (a : Addr) (cls : Value) (d : Option Addr) : List V → Hp → VK → Prop := fun xs H Q => two xs fun x c => x = .ref a ∧ match cls with
  | .ref D => XC K D ∧ (match d with
    | some dd => look H dd fun o => (match o with
      | some (.xd fs) => isaP K (.ref D) c H fun b => Q (.bl b) H
      | _ => False)
    | none => isaP K (.ref D) c H fun b => Q (.bl b) H)
  | _ => False
theorem zIsX_e {K : PySem.W.Frag} {cls : Value} {d : Option Addr} {c : V} {H : Hp} {k : Bool → Prop} (h : match cls with
  | .ref D => XC K D ∧ (match d with
    | some dd => look H dd fun o => (match o with
      | some (.xd fs) => isaP K (.ref D) c H k
      | _ => False)
    | none => isaP K (.ref D) c H k)
  | _ => False) : (∃ D, cls = .ref D ∧ XC K D) ∧ (∀ dd, d = some dd → ∃ fs, H dd = some (.xd fs)) ∧ isaP K cls c H k := by
  cases cls with
  | ref D =>
    obtain ⟨h1, h2⟩ := h
    cases d with
    | none => exact ⟨⟨D, rfl, h1⟩, fun _ z => (nomatch z), h2⟩
    | some dd =>
      have h2 := look_e h2
      cases e : H dd with
      | none => rw [e] at h2; exact h2.elim
      | some o =>
        rw [e] at h2
        cases o with
        | xd fs => exact ⟨⟨D, rfl, h1⟩, fun dd' z => by cases z; exact ⟨fs, e⟩, h2⟩
        | _ => exact h2.elim
  | _ => exact h.elim
theorem crisx (hz : Zc cls d oe) (hf : ∃ vs, oe.data = .fields vs) : CallR (X.suite a ((a, oe) :: pn)) (.builtin "isinstance") (zIsX X.K a cls d) := by
  intro pins s σ H xs us Q I r h
  obtain ⟨x, c, rfl, h⟩ := two_e h
  obtain ⟨rfl, h'⟩ := h
  obtain ⟨⟨D, rfl, T⟩, hdd, h⟩ := zIsX_e (k := fun b => Q (.bl b) H) h'
  obtain ⟨u1, u2, rfl, r1, r2⟩ := vals2 r
  cases (show u1 = Value.ref a from r1)
  obtain ⟨hget, _⟩ := I.pin (a, oe) (List.mem_append.mpr (.inl List.mem_cons_self))
  obtain ⟨vs, hv⟩ := hf
  have J : ∃ od, PySem.W.InstAt s.heap a oe D od := by
    cases d with
    | none => exact ⟨none, hget, hz.1, by unfold PySem.W.notCls; rw [hv] <;> rfl, by rw [hz.2]; trivial⟩
    | some dd =>
      obtain ⟨fs, hx⟩ := hdd dd rfl
      obtain ⟨mA, hns, _⟩ := (show ObjOk X.prog X.w H s.heap dd (.xd fs) from I.hok dd _ hx)
      obtain ⟨od, ho, _⟩ := lookIn_ns hns
      exact ⟨some od, hget, hz.1, by unfold PySem.W.notCls; rw [hv] <;> rfl, by rw [hz.2]; exact ho⟩
  obtain ⟨od, J⟩ := J
  have hcl : (PySem.W.clsIn X.K D).isSome = true := by
    obtain ⟨cd, h1, _⟩ := PySem.W.any_some T.e.hd
    rw [h1]; rfl
  have Z := PySem.W.kitx_exc (x := a) (ox := oe) (od := od) hcl T.e.hg T.e.hk T.e.hs T.e.ha T.e.hn T.e.ht T.e.hm
  replace h := h.out
  rcases h with ⟨hc, b, e, q⟩ | ⟨tp, cs, b, rfl, hT, hc, e, q⟩
  · have e2 := (clsV_of hc).eq r2
    subst e2
    exact PySem.W.kia_one Z I.kIn J e (fun z => nomatch z) fun tk => ⟨.bl b, H, I.kept (t' := tk) fun _ _ z => z, rfl, q⟩
  · cases (show u2 = Value.ref tp from r2)
    obtain ⟨_, its, rv, o, h1, h2, n, h3⟩ := (show ObjOk X.prog X.w H s.heap tp (.tup cs) from I.hok tp _ hT)
    have e3 := ClsV.all (clsV_all hc) rv
    subst e3
    obtain ⟨oc, odd, dt, sl⟩ := o
    simp only at h2 h3
    subst h2 h3
    exact PySem.W.kia_tup Z I.kIn J h1 e (fun z => nomatch z) fun tk => ⟨.bl b, H, I.kept (t' := tk) fun _ _ z => z, rfl, q⟩
structure IsC (K : PySem.W.Frag) (C : Addr) : Prop where
  ex : ∀ (H : Hp) (a dx : Addr) (fs : List (Str × V)), H a = some (.ins C dx fs) → TyOf K H (.ref a) (.ref C)
/-- isinstance(x, ..) of any value -/
def tyOf (K : PySem.W.Frag) (x : V) (H : Hp) (k : Value → Prop) : Prop := match x with
  | .str _ => k (.type "str")
  | .int _ => k (.type "int")
  | .bl _ => k (.type "bool")
  | .non => k (.type "NoneType")
  | .ref p => look H p fun o => match o with
    | some (.ins C dx fs) => IsC K C ∧ k (.ref C)
    | some (.lst xs) => k (.type "list")
    | some (.tup xs) => k (.type "tuple")
    | some (.dK xs) => k (.type "dict")
    | _ => ∃ t, TyX K H (.ref p) t ∧ k t
  | _ => False
theorem tyOf_e {K : PySem.W.Frag} {x : V} {H : Hp} {k : Value → Prop} (h : tyOf K x H k) : ∃ t, TyX K H x t ∧ k t := by
  cases x with
  | str z => exact ⟨_, .base (.str z), h⟩
  | int z => exact ⟨_, .base (.int z), h⟩
  | bl z => exact ⟨_, .base (.bl z), h⟩
  | non => exact ⟨_, .base .non, h⟩
  | ref p =>
    have h := look_e h
    revert h
    cases e : H p with
    | none => exact fun h => h
    | some o =>
      cases o with
      | ins C dx fs => exact fun h => ⟨_, .base (h.1.ex H p dx fs e), h.2⟩
      | lst xs => exact fun h => ⟨_, .base (.lst e), h⟩
      | tup xs => exact fun h => ⟨_, .base (.tup e), h⟩
      | dK xs => exact fun h => ⟨_, .base (.dK e), h⟩
      | _ => exact fun h => h
  | _ => exact h.elim
def zIsa (K : PySem.W.Frag) : List V → Hp → VK → Prop := fun xs H Q => two xs fun x c => tyOf K x H fun t => isaP K t c H fun b => Q (.bl b) H
theorem crisa {X : Cx} : CallR X (.builtin "isinstance") (zIsa X.K) := by
  refine cr_imp (call_isi.or call_isiT) fun xs H Q h => ?_
  obtain ⟨x, c, rfl, h'⟩ := two_e h
  obtain ⟨t, ht, h⟩ := tyOf_e (K := X.K) (k := fun t => isaP X.K t c H fun b => Q (.bl b) H) h'
  replace h := h.out
  rcases h with ⟨hc, b, e, q⟩ | ⟨tp, cs, b, rfl, hT, hc, e, q⟩
  · exact .inl ⟨x, c, t, _, b, rfl, clsV_of hc, ht, e, q⟩
  · exact .inr ⟨x, tp, cs, t, _, b, rfl, hT, clsV_all hc, ht, e, q⟩
end
/-! ### a def: its promise by its body -/
section
variable {P : Program} {w : World} {K : PySem.W.Frag} {mg : Str → Option Value} {base : Heap} {x qual : Str} {params : Arguments} {body : List Stmt} {scope : Scope} {dvs : List V} {kws : List (Str × V)} {f : Addr} {fd : FuncData}
/-- the wish of a def about what is raised -/
abbrev WD (E : XK) : WX := fun c d _ H => E c d H
abbrev EndD (Q : VK) : Ends := { nx := fun _ H' => Q .non H', rt := Q }
theorem def_ok {N ps : List Str} {k : Nat} {sp : Sp} (F : FunD K x qual params body scope dvs kws f fd) (S : FnScope N ps scope) (len : ∀ vs H Q E, sp vs H Q E → vs.length = ps.length) (t : WX → TS)
    (term : ∀ (cdv : Value) (A : Around) (outer : List Env) (s : Shared) (H : Hp) (E : XK), Room k (A.deeper (envOfC qual scope s.heap.objs.size f cdv)) → PSs (cxOf (L2.CX P w) P w K mg base N qual scope f cdv A outer s H E) body (t (WD E)))
    (rd : ∀ vs H Q E, sp vs H Q E → t (WD E) (EndD Q) (start N vs) H) : FnOk P w K mg base (L2.CX P w) (k + 1) f fd ps sp := by
  refine F.ok S len fun cdv A outer s H vs Q E hr h => ⟨t (WD E), ?_, rd vs H Q E h⟩
  exact term cdv A outer s H E hr
/-- the wish of the def's context -/
theorem takesD {P : Program} {w : World} {K : PySem.W.Frag} {mg : Str → Option Value} {base : Heap} {N : List Str} {qual : Str} {scope : Scope} {f : Addr} {cdv : Value} {A : Around} {outer : List Env} {s : Shared} {H : Hp} {E : XK} :
    Takes (cxOf (L2.CX P w) P w K mg base N qual scope f cdv A outer s H E) (WD E) := takes_of rfl rfl rfl rfl
theorem ownD {P : Program} {w : World} {K : PySem.W.Frag} {mg : Str → Option Value} {base : Heap} {N : List Str} {qual : Str} {scope : Scope} {f : Addr} {cdv : Value} {A : Around} {outer : List Env} {s : Shared} {H : Hp} {E : XK} :
    PassesOwn (model P w) (cxOf (L2.CX P w) P w K mg base N qual scope f cdv A outer s H E).A (cxOf (L2.CX P w) P w K mg base N qual scope f cdv A outer s H E).env (cxOf (L2.CX P w) P w K mg base N qual scope f cdv A outer s H E).xe := PassesOwn.leaving
end
end Ta
namespace Ta
open PySem PySem.Spec PyProof.Rows L2
/-! ### short forms for printed terms -/
section
variable {X : Cx}
theorem pset (i : Nat) {x : Str} {e : Expr} {te : TE} {pos pos' : Pos} (hN : X.N.Nodup) (he : PE X e te) (hi : X.N[i]? = some x := by rfl) (hx : Loc X.env.scope x := by first | exact Or.inl rfl | exact Or.inr rfl)
    (hs : swapsWith e (some (.Name x pos')) pos.line X.env = pure false := by rfl) (hf : X.fn x = true ∨ X.env.scope.names.lookup x = some .local := by first | exact .inl rfl | exact .inr rfl) : PS X (.Assign [.Name x pos'] e pos) (tAsg te (gName i)) := ps_set hN hi hx he hs hf
theorem pgn (i : Nat) {x : Str} {pos : Pos} (hN : X.N.Nodup) (hi : X.N[i]? = some x := by rfl) (hx : Loc X.env.scope x := by first | exact Or.inl rfl | exact Or.inr rfl)
    (hf : X.fn x = true ∨ X.env.scope.names.lookup x = some .local := by first | exact .inl rfl | exact .inr rfl) : PG X (.Name x pos) (gName i) := pg_name hN hi hx hf
theorem psub {o i e : Expr} {to ti te : TE} {pos pos' : Pos} (he : PE X e te) (ho : PE X o to) (hi : PE X i ti) (hs : swapsWithSole [.Subscript o i pos'] e pos.line X.env = pure false := by rfl) (hw : swappedStores [.Subscript o i pos'] e X.env = pure none := by rfl)
    (h3 : List.map (fun x => x.snd) (assignEach [.Subscript o i pos'] X.env) = [assign (.Subscript o i pos') X.env] := by rfl) (h4 : ∀ v : Value, assign (.Subscript o i pos') X.env v = (do
      let ov ← holding [v] (eval o X.env)
      let iv ← holding [v, ov] (eval i X.env)
      standAt pos'
      holding [v, ov, iv] (setItem ov iv v)
      release [v, ov, iv] []) := by intro v; rfl) : PS X (.Assign [.Subscript o i pos'] e pos) (tAsg te (gSub to ti zSetP)) := ps_asg he (pg_sub ho hi setp h4) hs hw h3
end
end Ta

set_option Elab.async false
set_option linter.all false
set_option maxRecDepth 100000
set_option maxHeartbeats 3200000
namespace Ta
open PySem PySem.Spec PyProof.Rows L2

/-! ### len(set(text)) -/
def dn {α : Type} [BEq α] (l : List α) : Nat := l.eraseDups.length
theorem dn_snoc {α : Type} [BEq α] [LawfulBEq α] (l : List α) (x : α) : dn (l ++ [x]) = if l.any (· == x) = true then dn l else dn l + 1 := by
  unfold dn
  rw [List.eraseDups_append]
  by_cases h : x ∈ l
  · have e : [x].removeAll l = [] := by simp [List.removeAll, h]
    rw [e, if_pos (by simpa using h)]; simp
  · have e : [x].removeAll l = [x] := by simp [List.removeAll, h]
    rw [e, if_neg (by simpa using h)]; simp [List.eraseDups_cons]
section
variable {prog : Program} {w : World} {A : Around} {R : Result → Shared → Prop} {I : Addr} {fp wr : List Addr} {G : Array GenState → Array GenState → Prop} {n : Nat} {P : Nat → Value → Prop} {St : Nat → Shared → Prop}
theorem dn_le {α : Type} [BEq α] [LawfulBEq α] (l : List α) : dn l ≤ l.length := by
  suffices h : ∀ m : List α, dn m.reverse ≤ m.reverse.length by
    have z := h l.reverse
    rw [List.reverse_reverse] at z
    exact z
  intro m
  induction m with
  | nil => simp [dn]
  | cons x m ih =>
    rw [List.reverse_cons, dn_snoc]
    split <;> simp <;> simp at ih <;> omega
theorem loopN (W : WalksS prog w A.in1 I fp wr G n P St) (S : Addr) (hSf : S ∉ fp) (xs : List Str) (hsz : xs.length = n) (hn1 : n + 1 < scanBound)
    (hval : ∀ i v, P i v → ∃ t, v = .str (xs.getD i Str.empty) t) :
    ∀ (k i : Nat) (s : Shared), n - i = k → i ≤ n → St i s →
      s.heap.SetOf (PySem.strKind prog w) S (fun k' => (xs.take i).any (· == k')) (dn (xs.take i)) →
      (∀ s', Moved (S :: wr) G s s' → s'.heap.SetOf (PySem.strKind prog w) S (fun k' => xs.any (· == k')) (dn xs) → R (.ok (.ret .none)) s') →
      codeAny (model prog w) A (.builtin "set.update.loop" ⟨[.ref S, .ref I], []⟩) R s := by
  have hSw : S ∉ wr := fun h => hSf (W.sub _ h)
  have hsub : ∀ b ∈ wr, b ∈ S :: wr := fun b hb => List.mem_cons_of_mem _ hb
  intro k
  induction k with
  | zero =>
    intro i s hk hi hst hS hR
    have hin : i = n := by omega
    subst hin
    refine codeAny_builtin PyProof.Rows.F.entry_set_update_loop ?_
    rw [Around.under_plainId PyProof.Rows.F.plain_set_update_loop _]
    show wpAny _ A.in1 (pyNext (.ref I) >>= _) _ _ s
    refine wpAny_bind (W.done s _ _ hst fun s' hm => ?_)
    show wpAny _ A.in1 (ret Value.none) _ _ s'
    rw [List.take_of_length_le (Nat.le_of_eq hsz)] at hS
    exact wpAny_pure (hR s' (hm.mono hsub) (by
      obtain ⟨o, es, ep, t, ho, rest⟩ := hS
      exact ⟨o, es, ep, t, hm.heap S _ hSw ho, rest⟩))
  | succ k ih =>
    intro i s hk hi hst hS hR
    have hlt : i < n := by omega
    have hlx : i < xs.length := by omega
    refine codeAny_builtin PyProof.Rows.F.entry_set_update_loop ?_
    rw [Around.under_plainId PyProof.Rows.F.plain_set_update_loop _]
    show wpAny _ A.in1 (pyNext (.ref I) >>= _) _ _ s
    refine wpAny_bind (W.item i s _ _ hlt hst fun v s' hP hst' hm => ?_)
    obtain ⟨t, rfl⟩ := hval i v hP
    have hS' : s'.heap.SetOf (PySem.strKind prog w) S (fun k' => (xs.take i).any (· == k')) (dn (xs.take i)) := by
      obtain ⟨o, es, ep, tb, ho, rest⟩ := hS
      exact ⟨o, es, ep, tb, hm.heap S _ hSw ho, rest⟩
    show wpAny _ A.in1 (holding [Value.str (xs.getD i Str.empty) t] (setAdd S (.str (xs.getD i Str.empty) t)) >>= _) _ _ s'
    refine wpAny_bind (wpAny_holding ?_)
    unfold setAdd
    refine wpAny_holding ?_
    refine wpAny_bind ((PySem.strKind prog w).pyHash (k := xs.getD i Str.empty) (strKind_is _ _ _ _) ?_)
    have hdn := dn_le (xs.take i)
    have htk : (xs.take i).length ≤ i := by rw [List.length_take]; omega
    refine wpAny_setAddHashed_of (knd := PySem.strKind prog w) (s := { s' with toks := s'.toks + 1 }) (strKind_is _ _ _ _) rfl hS' (by unfold scanBound at hn1 ⊢; omega) fun h' hsb hS2 => ?_
    have ex : xs.getD i Str.empty = xs[i] := by simp [List.getD, hlx]
    have et : xs.take (i + 1) = xs.take i ++ [xs[i]] := by rw [List.take_succ_eq_append_getElem hlx]
    have hSi : h'.SetOf (PySem.strKind prog w) S (fun k' => (xs.take (i + 1)).any (· == k')) (dn (xs.take (i + 1))) := by
      refine SetOf_congr hS2 (fun k' => ?_) ?_
      · show ((xs.take i).any (· == k') || decide (k' = xs.getD i Str.empty)) = (xs.take (i + 1)).any (· == k')
        rw [et, ex, List.any_append]
        congr 1
        by_cases e : k' = xs[i]
        · subst e; simp
        · have hb : (xs[i] == k') = false := by simpa [beq_iff_eq] using (fun h' : xs[i] = k' => e h'.symm)
          simp [hb, e]
      · rw [et, dn_snoc, ex]
    refine wpAny_pure ⟨plainId_quiet PyProof.Rows.F.plain_set_update_loop _, ih (i + 1) _ (by omega) hlt (W.frame _ s' _ _ hst' (Nat.le_succ _) fun b hb o e => ?_) hSi fun s'' hm'' hS'' => ?_⟩
    · rw [hsb.2 b (fun h : b = S => hSf (by rw [← h]; exact hb))]; exact e
    · refine hR s'' (Moved.trans W.gtrans ((hm.mono hsub).then_heap (Nat.le_succ _) fun b o hb e => ?_) hm'') hS''
      rw [hsb.2 b (fun h : b = S => hb (by rw [h]; exact List.mem_cons_self))]; exact e
end
section
variable {prog : Program} {w : World} {A : Around} {E : Value → Shared → Prop} {s : Shared}
def one1 (l : List Nat) : List Str := l.map fun c => S [c]
theorem sign_one {x : Str} {i : Nat} {v : Value} (h : SignAt x i v) : ∃ t, v = .str ((one1 (tl x)).getD i Str.empty) t := by
  obtain ⟨c, u, h1, rfl⟩ := h
  have e : (tl x)[i]? = some c := by simpa [tl] using h1
  exact ⟨u, by simp [one1, List.getD, List.getElem?_map, e]⟩
theorem call_set_text {x : Str} {t : Tok} {Q : Value → Shared → Prop} (hh : A.handled = none) (hn : (tl x).length + 1 < scanBound)
    (h : ∀ (h' : Heap) (tk : Nat), h'.SetOf (PySem.strKind prog w) s.heap.objs.size (fun k' => (one1 (tl x)).any (· == k')) (dn (one1 (tl x))) →
      (∀ b o, b < s.heap.objs.size → s.heap.get? b = some o → h'.get? b = some o) → Q (.ref s.heap.objs.size) { s with heap := h', toks := tk }) :
    wpAny (model prog w) A (call (.type "set") [.str x t]) Q E s := by
  obtain ⟨c, tl', hmro⟩ := PySem.F.called_set.mro
  have hmade := PySem.F.called_set.made
  have hsub := PySem.F.called_set.sub
  refine wpAny_call (codeAny_of_tree ?_)
  show wpAny _ _ (callAny (.type "set") _) _ _ _
  refine wpAny_pure ⟨Code.quiet_builtin _ (by decide +kernel), codeAny_builtin PySem.F.entry_type_call ?_⟩
  rw [Around.under_plain (weight_type_call_type "set" [.str x t] []) rfl]
  have h1 := PySem.F.called_set.notType
  have h2 := PySem.F.called_set.canCreate
  have hct := PySem.F.typeCall_set_1 (.str x t)
  repeat (any_goals (first | assumption | wp_step))
  refine codeAny_mono (code_set_new_1 (.str x t) (E := E) (Q₁ := fun obj s₁ => ∃ led : Bool, obj = .ref s.heap.objs.size ∧ s₁ = { s with heap := s.heap.push { cls := .type "set", dict := none, data := .set #[] 0 (.fresh 0 0 led) } }) fun led => ⟨led, rfl, rfl⟩) fun r s₁ hr => ?_
  cases r with
  | error e => exact hr
  | ok fl =>
    cases fl with
    | ret obj =>
      obtain ⟨led, rfl, rfl⟩ := hr
      have hS : (s.heap.push { cls := .type "set", dict := none, data := .set #[] 0 (.fresh 0 0 led) }).get? s.heap.objs.size = some { cls := .type "set", dict := none, data := .set #[] 0 (.fresh 0 0 led) } := Heap.get?_push_size _ rfl
      have hT : Shared.TypeIs { s with heap := s.heap.push { cls := .type "set", dict := none, data := .set #[] 0 (.fresh 0 0 led) } } (.ref s.heap.objs.size) "set" := ⟨_, hS, rfl⟩
      have hli := PySem.F.called_set.init.lookup
      have hbi := PySem.F.called_set.init.bind (.ref s.heap.objs.size)
      repeat (any_goals (first | assumption | wp_step))
      refine codeAny_mono (codeAny_call_builtin (R := wants (fun r s₂ => r = .none ∧ ∃ h' tk, s₂ = { s with heap := h', toks := tk } ∧
          h'.SetOf (PySem.strKind prog w) s.heap.objs.size (fun k' => (one1 (tl x)).any (· == k')) (dn (one1 (tl x))) ∧
          (∀ b o, b < s.heap.objs.size → s.heap.get? b = some o → h'.get? b = some o)) E) PySem.F.called_set.init.plain PySem.F.entry_set_init (check_set_init_1 hT ?_)) fun r₂ s₂ hr₂ => ?_
      · have hsls := PySem.F.sub_str_set
        have hslf := PySem.F.sub_str_frozenset
        have hne : (Value.type "str" == Value.type "dict") = false := by decide
        unfold Builtin.«set.__init__» noKeywords Builtin.Frozenset.updateFrom
        generalize hPI : pyIter = PI
        wp_walk
        subst hPI
        refine wpAny_pyIter_str fun o St W hst => ?_
        refine wpAny_bind (wpAny_runValue ?_)
        have hh3 : A.in1.in1.in1.handled = none := by simp [hh]
        have hSf : s.heap.objs.size ∉ [(s.heap.push { cls := .type "set", dict := none, data := .set #[] 0 (.fresh 0 0 led) }).objs.size] := by
          rw [Heap.size_push]; simp only [List.mem_singleton]
          exact Nat.ne_of_lt (Nat.lt_succ_self _)
        have hsz : (one1 (tl x)).length = x.cps.size := by simp [one1, tl]
        have hszn : x.cps.size = (tl x).length := by simp [tl]
        refine loopN ((W _ hh3).toS) s.heap.objs.size
          hSf (one1 (tl x)) hsz (by rw [hszn]; exact hn) (fun i v h => sign_one h) (x.cps.size - 0) 0 _ (by omega) (Nat.zero_le _)
          hst ?hS0 ?hR
        case hS0 =>
          have hget : ((s.heap.push { cls := .type "set", dict := none, data := .set #[] 0 (.fresh 0 0 led) }).push o).get? s.heap.objs.size
              = some { cls := .type "set", dict := none, data := .set #[] 0 (.fresh 0 0 led) } := Heap.get?_push_of_some _ hS
          exact PyProof.Rows.SetOf_congr ((PyProof.Rows.setObjOf_fresh (knd := PySem.strKind prog w) led).setOf hget (by unfold scanBound; omega)) (fun _ => rfl) rfl
        case hR =>
          intro s' hm hS'
          obtain ⟨h', g', d', tk', os'⟩ := s'
          have eg : g' = s.gens := hm.gens
          have ed : d' = s.drawn := hm.drawn
          have eo : os' = s.os := hm.os
          subst eg; subst ed; subst eo
          show wpAny _ _ _ _ _ _
          refine wpAny_pure ?_
          show wpAny _ _ (ret Value.none) _ _ _
          refine wpAny_pure ⟨rfl, h', tk', rfl, hS', fun b o hb e => ?_⟩
          have hb1 : b ≠ s.heap.objs.size := Nat.ne_of_lt hb
          have hb2 : b ≠ (s.heap.push { cls := .type "set", dict := none, data := .set #[] 0 (.fresh 0 0 led) }).objs.size := by
            rw [Heap.size_push]; exact Nat.ne_of_lt (Nat.lt_succ_of_lt hb)
          exact hm.heap b o (by simp only [List.mem_cons, List.mem_singleton, List.not_mem_nil, or_false, not_or]; exact ⟨hb1, hb2⟩) (Heap.get?_push_of_some _ (Heap.get?_push_of_some _ e))
      · cases r₂ with
        | error e => exact hr₂
        | ok fl₂ =>
          cases fl₂ with
          | ret r =>
            obtain ⟨rfl, h', tk, rfl, hS', hk'⟩ := hr₂
            repeat (any_goals (first | assumption | wp_step))
            exact h _ _ hS' hk'
          | _ => exact hr₂.elim
    | _ => exact hr.elim
end
end Ta

set_option Elab.async false
set_option linter.all false
set_option maxRecDepth 100000
set_option maxHeartbeats 3200000
namespace Ta
open PySem PySem.Spec PyProof.Rows L2
theorem dn_map {α β : Type} [BEq α] [LawfulBEq α] [BEq β] [LawfulBEq β] (f : α → β) (hf : ∀ x y, f x = f y → x = y) (l : List α) : dn (l.map f) = dn l := by
  suffices h : ∀ m : List α, dn (m.reverse.map f) = dn m.reverse by
    have z := h l.reverse
    rw [List.reverse_reverse] at z
    exact z
  intro m
  induction m with
  | nil => simp [dn]
  | cons x m ih =>
    rw [List.reverse_cons, List.map_append, List.map_cons, List.map_nil, dn_snoc, dn_snoc, ih]
    have e : ((m.reverse.map f).any fun y => y == f x) = (m.reverse.any fun y => y == x) := by
      rw [List.any_map]
      congr 1
      funext y
      show (f y == f x) = (y == x)
      by_cases e : y = x
      · subst e; rw [beq_self_eq_true, beq_self_eq_true]
      · rw [beq_eq_false_iff_ne.mpr e, beq_eq_false_iff_ne.mpr fun z => e (hf _ _ z)]
    rw [e]
theorem S1_inj (x y : Nat) (h : S [x] = S [y]) : x = y := by
  injection h with h
  injection h with h
  injection h
def zLset (x : V) (H : Hp) (Q : VK) : Prop := match x with
  | .str z => (tl z).length < 4000 ∧ Q (.int (dn (tl z))) H
  | _ => False
def tLset (ta : TE) : TE := fun σ H Q => ta σ H fun x H1 => zLset x H1 Q
section
variable {X : Cx}
theorem plset {a : Expr} {ta : TE} {p p2 q pos : Pos} (hc : X.calm = true) (hm : X.mg "len" = none) (hm2 : X.mg "set" = none) (ha : PE X a ta) (hg : Gl X "len" := by rfl) (hg2 : Gl X "set" := by rfl)
    (na : starEach [a] X.env = (false, eval a X.env) :: starEach [] X.env := by rfl) : PE X (.Call (.Name "len" p) [.Call (.Name "set" p2) [a] [] q] [] pos) (tLset ta) := by
  refine ⟨fun pins s σ H Q I h => ?_⟩
  refine Call_ (ld_blt I hg hm boot_len ?_)
  refine PyProof.Rows.callWith_builtin1 (PyProof.Rows.args_cons ?_ rfl) rfl rfl
  refine Call_ (ld_blt I hg2 hm2 boot_set ?_)
  refine PyProof.Rows.callWith_type1 (PyProof.Rows.args_cons (thn (ha.run pins s σ H _ I h) fun v s1 ⟨x, H1, I1, r1, q1⟩ => PyProof.Rows.args_nil ?_) na) na rfl
  cases x with
  | str z =>
    obtain ⟨h1, q1⟩ := q1
    obtain ⟨t, rfl⟩ := r1
    refine call_set_text (I1.ok.hd hc) (by unfold scanBound; omega) fun h' tk hS hk => ?_
    refine PyProof.Rows.args_nil ?_
    have edn : dn (one1 (tl z)) = dn (tl z) := dn_map _ S1_inj _
    have hle := dn_le (tl z)
    obtain ⟨o, es, ep, t, ho, hex, hd, _, _, _, hf, hn⟩ := hS
    have I2 : Inv X pins σ H1 { s1 with heap := h', toks := tk } := I1.kept fun b o e => hk b o (Heap.lt_size e) e
    refine call_len_set ho hex hd hf (by rw [hn, edn]; omega) ⟨.int (dn (tl z)), H1, I2.tok _, ⟨_, by rw [hn, edn]⟩, q1⟩
  | _ => exact False.elim q1
end

/-! ### sorted(text) -/
def srt (l : List Nat) : List Nat := l.mergeSort fun a b => decide (a ≤ b)
theorem srt_perm (l : List Nat) : (srt l).Perm l := List.mergeSort_perm _ _
theorem srt_pw (l : List Nat) : (srt l).Pairwise (· ≤ ·) := by
  have h := List.pairwise_mergeSort (le := fun a b : Nat => decide (a ≤ b)) (fun a b c h1 h2 => by simp at *; omega) (fun a b => by simp; omega) l
  exact h.imp fun z => by simpa using z
theorem srt_uniq {l m : List Nat} (h : m.Perm l) (hp : m.Pairwise (· ≤ ·)) : m = srt l :=
  List.Perm.eq_of_pairwise (fun _ _ _ _ a b => Nat.le_antisymm a b) hp (srt_pw l) (h.trans (srt_perm l).symm)
def sgn (l : List Nat) : List V := l.map fun c => V.str (S [c])
theorem perm_map_inv {α β : Type} {f : α → β} : ∀ {l : List α} {m : List β}, m.Perm (l.map f) → ∃ l' : List α, m = l'.map f ∧ l'.Perm l := by
  intro l m h
  generalize e : l.map f = k at h
  induction h generalizing l with
  | nil => exact ⟨[], rfl, by simp at e; subst e; exact .nil⟩
  | cons x h ih =>
    cases l with
    | nil => cases e
    | cons y l =>
      injection e with e1 e2
      obtain ⟨l', h1, h2⟩ := ih e2
      exact ⟨y :: l', by rw [h1, ← e1]; rfl, h2.cons y⟩
  | swap x y t =>
    cases l with
    | nil => cases e
    | cons a l => cases l with
      | nil => cases e
      | cons b l =>
        injection e with e1 e2
        injection e2 with e2 e3
        exact ⟨b :: a :: l, by rw [List.map_cons, List.map_cons, e1, e2, e3], .swap a b l⟩
  | trans h1 h2 ih1 ih2 =>
    obtain ⟨l1, e1, p1⟩ := ih2 e
    obtain ⟨l2, e2, p2⟩ := ih1 e1.symm
    exact ⟨l2, e2, p2.trans p1⟩
theorem rising_one : ∀ (l : List Nat) (a : Nat), risingS (S [a]) (l.map fun c => S [c]) = true → l.Pairwise (· ≤ ·) ∧ ∀ b ∈ l, a ≤ b
  | [], a, _ => ⟨.nil, fun _ h => nomatch h⟩
  | b :: l, a, h => by
    simp only [List.map_cons, risingS, Bool.and_eq_true] at h
    obtain ⟨h1, h2⟩ := h
    obtain ⟨i1, i2⟩ := rising_one l b h2
    have hab : a ≤ b := by
      have z : ltCps [b] [a] = false := by simpa using h1
      unfold ltCps at z
      apply Decidable.byContradiction
      intro hc
      have : b < a := by omega
      simp [this] at z
    refine ⟨.cons i2 i1, fun c hc => ?_⟩
    rcases List.mem_cons.mp hc with rfl | hc
    · exact hab
    · exact Nat.le_trans hab (i2 c hc)
theorem sorted_one (l : List Nat) (h : sortedS (l.map fun c => S [c]) = true) : l.Pairwise (· ≤ ·) := by
  cases l with
  | nil => exact .nil
  | cons a l => exact .cons (rising_one l a h).2 (rising_one l a h).1
def zSrt1 (x : V) (H : Hp) (Q : VK) : Prop := match x with
  | .str z => (tl z).length < 64 ∧ ∀ p, H p = none → Q (.ref p) (upd H p (.lst (sgn (srt (tl z)))))
  | _ => False
def zSort1 : List V → Hp → VK → Prop := fun xs H Q => one xs fun x => zSrt1 x H Q
section
variable {X : Cx}
theorem crsort (hcalm : X.calm = true) : CallR X (.builtin "sorted") zSort1 := by
  intro pins s σ H xs us Q I r q
  obtain ⟨x, rfl, q⟩ := one_e q
  obtain ⟨u, eu, rx⟩ := vals1 r
  subst eu
  cases x with
  | str z =>
    obtain ⟨h64, q⟩ := q
    obtain ⟨t, rfl⟩ := rx
    refine Calls.call_function_entry PyProof.Rows.kind_sorted PyProof.Rows.plain_sorted PyProof.Rows.entry_sorted (PyProof.Rows.args_sorted1 _) ?_
    unfold Builtin.«sorted»
    refine wpAny_bind (m := checkCount "sorted" 1 1 _) (wpAny_pure ?_)
    have hsz : z.cps.size = (tl z).length := by simp [tl]
    refine wpAny_bind (wpAny_collect_str (A := X.A.in1) (I.ok.hd hcalm) z t (fun s' acc hk hg hd ho hacc => ?_) (by rw [hsz, sizeLine_eq]; omega))
    obtain ⟨h', g', d', tk, os'⟩ := s'
    simp only at hk hg hd ho
    subst hg; subst hd; subst ho
    have hal : acc.toList.length = (one1 (tl z)).length := by rw [Array.length_toList, hacc.1, hsz]; simp [one1]
    have hS : StrsAre acc.toList (one1 (tl z)) := L2.strs_at hal fun j v e => by
      obtain ⟨c, u, e1, e2⟩ := hacc.2 j v (by rw [← Array.getElem?_toList]; exact e)
      exact ⟨S [c], u, by simp [one1, tl, e1], e2⟩
    have hal2 : acc.toList.length < 64 := by rw [hal]; simpa [one1] using h64
    have I1 : Inv X pins σ H { s with heap := h', toks := tk } := I.kept hk
    refine wpAny_bind (wpAny_newList ?_ (by rw [sizeLine_eq]; omega))
    have hoL : (h'.push (seqObj "list" acc.toList.toArray 0)).get? h'.objs.size = some (seqObj "list" acc.toList.toArray 0) := Heap.get?_push_size _ rfl
    show wpAny _ _ _ _ _ { s with heap := h'.push (seqObj "list" acc.toList.toArray 0), toks := tk }
    refine wpAny_bind (wpAny_holding (wpAny_call_entry PyProof.Rows.slot_list_sort ⟨_, hoL, rfl⟩ PyProof.Rows.entry_list_sort
      (list_sort_treeK strKind_oneLt (s := { s with heap := h'.push (seqObj "list" acc.toList.toArray 0), toks := tk }) hoL hS.keysOf (fun v₁ v₂ rest e => keyKind_strs (by rw [← e]; exact hS)) hal2 fun st' hp hs => ⟨_, rfl, ?_⟩)
      (PyProof.Rows.args_list_sort _)))
    obtain ⟨ys, g1, g2, g3⟩ := sorted_out_str hS hp hs
    obtain ⟨e', he'⟩ := PyProof.Rows.sortedHeap_at (vs := acc.toList) (out := (arrOf st').map (·.2)) hoL
    obtain ⟨l', rfl, pl⟩ := perm_map_inv g2
    have el : l' = srt (tl z) := srt_uniq pl (sorted_one l' g3)
    subst el
    have hlen : (sgn (srt (tl z))).length ≤ sizeLine := by
      unfold sgn
      rw [List.length_map, (srt_perm _).length_eq, sizeLine_eq]; omega
    have ev : ((srt (tl z)).map fun c => S [c]).map V.str = sgn (srt (tl z)) := by unfold sgn; rw [List.map_map]; rfl
    refine wpAny_pure ⟨_, rfl, .ref h'.objs.size, upd H h'.objs.size (.lst (sgn (srt (tl z)))), I1.laid (t' := tk) (fun b u e => ?_) (Nat.le_refl _)
      (show ObjOk X.prog X.w _ _ _ (.lst (sgn (srt (tl z)))) from ⟨hlen, ((arrOf st').map (·.2)).toList, e', by rw [← ev]; exact vals_of_strs g1, by rw [Array.toArray_toList]; exact he'⟩), rfl, q _ (I1.hok.fresh (Nat.le_refl _))⟩
    have hb : b < h'.objs.size := Heap.lt_size e
    rw [PyProof.Rows.sortedHeap_old (Nat.ne_of_lt hb) (by rw [size_push']; exact Nat.lt_succ_of_lt hb)]
    exact Heap.get?_push_of_some _ e
  | _ => exact False.elim q
end
end Ta

set_option Elab.async false
set_option linter.all false
set_option maxRecDepth 100000
set_option maxHeartbeats 3200000
namespace Ta
open PySem PySem.Spec PyProof.Rows L2

/-! ### own == of two instances of one class -/
def zOwn (C : Addr) (sp : Sp) : R2 := fun x y H Q => match x with
  | .ref a => (match y with
    | .ref b => look H a fun o => (match o with
      | some (.ins C1 dx fs) => look H b fun o' => (match o' with
        | some (.ins C2 dy gs) => C1 = C ∧ C2 = C ∧ sp [.ref a, .ref b] H (fun v H' => ∃ k, v = .bl k ∧ Q (.bl k) H') fun _ _ _ => False
        | _ => False)
      | _ => False)
    | _ => False)
  | _ => False
theorem zOwn_e {C : Addr} {sp : Sp} {x y : V} {H : Hp} {Q : VK} (h : zOwn C sp x y H Q) : ∃ a b dx fs dy gs, x = .ref a ∧ y = .ref b ∧ H a = some (.ins C dx fs) ∧ H b = some (.ins C dy gs) ∧ sp [.ref a, .ref b] H (fun v H' => ∃ k, v = .bl k ∧ Q (.bl k) H') fun _ _ _ => False := by
  cases x with
  | ref a =>
    cases y with
    | ref b =>
      have h := look_e h
      cases ea : H a with
      | none => rw [ea] at h; exact h.elim
      | some o =>
        rw [ea] at h
        cases o with
        | ins C1 dx fs =>
          have h := look_e h
          cases eb : H b with
          | none => rw [eb] at h; exact h.elim
          | some o' =>
            rw [eb] at h
            cases o' with
            | ins C2 dy gs =>
              obtain ⟨e1, e2, h3⟩ := h
              subst e1
              subst e2
              exact ⟨a, b, dx, fs, dy, gs, rfl, rfl, ea, eb, h3⟩
            | _ => exact h.elim
        | _ => exact h.elim
    | _ => exact h.elim
  | _ => exact h.elim
section
variable {X : Cx}
theorem opown {C : Addr} {lv : Nat} {sp : Sp} (M : Me X.prog X.w X.K X.mg X.base C "__eq__" lv [] sp) (hr : Room lv X.A) : OpR X (compareOp .Eq) (zOwn C sp) := by
  intro pins s σ H x y v u Q I rx ry h
  obtain ⟨a, b, dx, fs, dy, gs, rfl, rfl, ha, hb', h⟩ := zOwn_e h
  cases rx
  cases ry
  obtain ⟨⟨f, fd, ps, ds, F, hm, hd, hb⟩, cl⟩ := M
  cases hd
  obtain ⟨mA, J, _⟩ := ins_get I.hok ha
  obtain ⟨mB, J', _⟩ := ins_get I.hok hb'
  obtain ⟨od, J, _⟩ := J.look
  obtain ⟨od', J', _⟩ := J'.look
  obtain ⟨m, hF⟩ := I.fr
  show wpAny (model X.prog X.w) X.A (richCompare .Eq (.ref a) (.ref b)) (EP X pins σ Q) X.xe s
  refine PySem.W.cmp_K (op := .Eq) (tb := .ref C) hr.units0 hF I.ok.mod.kin J J'.type (by simp [PySem.W.notFirst]) hm.at_ hm.fn ?_
  have r2 : Vals [V.ref a, V.ref b] [Value.ref a, Value.ref b] := .cons rfl (.cons rfl .nil)
  refine wpAny_mono (run_fnSD (E := WE WF) (us := [.ref a, .ref b]) (vs := [.ref a, .ref b]) (Q := fun v H' => ∃ k, v = .bl k ∧ Q (.bl k) H') F hr hb .nil (passAt takes0 σ) I r2 h) (fun r s' q => ?_) fun _ _ z => z
  obtain ⟨z, H', I', rz, k, rfl, q⟩ := q
  cases rz
  exact ⟨.bl k, H', I', rfl, q⟩
theorem names_of {x : Str} {C : Addr} (h : GlobV X.mg x (.ref C)) (hg : Gl X x := by rfl) (hdb : (x == ("__debug__" : Str)) = false := by decide +kernel) : Names X x (.ref C) := by
  obtain ⟨u, hm, r⟩ := h.ex
  cases (show u = Value.ref C from r)
  exact ⟨hg, hdb, .inl hm⟩
end

/-! ### the clause of a try -/
theorem was_t {K : PySem.W.Frag} {c : Value} {i : Nat} {ts : Addr → Value → Option Addr → TS} {Wout : WX} {D : Ends} {cls : Value} {d : Option Addr} {σ : St} {H : Hp} (h : PySem.W.exmOne K cls c = some true)
    (q : ∀ a, H a = none → ts a cls d { nx := fun σ' H' => D.nx (σ'.set i none) H', rt := D.rt, bk := fun σ' H' => D.bk (σ'.set i none) H', ct := fun σ' H' => D.ct (σ'.set i none) H' } (σ.set i (some (.ref a))) H) : wAs K c i ts Wout D cls d σ H :=
  ⟨true, h, fun _ => q, (fun z => by cases z)⟩
theorem was_f {K : PySem.W.Frag} {c : Value} {i : Nat} {ts : Addr → Value → Option Addr → TS} {Wout : WX} {D : Ends} {cls : Value} {d : Option Addr} {σ : St} {H : Hp} (h : PySem.W.exmOne K cls c = some false)
    (q : Wout cls d σ H) : wAs K c i ts Wout D cls d σ H :=
  ⟨false, h, (fun z => by cases z), fun _ => q⟩

/-! ### heaps -/
/-- H' keeps what H has, but for F -/
def Kp (F : List Addr) (H H' : Hp) : Prop := ∀ q o, H q = some o → q ∉ F → H' q = some o
theorem Kp.rfl' {F : List Addr} {H : Hp} : Kp F H H := fun _ _ h _ => h
theorem Kp.trans {F : List Addr} {H H1 H2 : Hp} (a : Kp F H H1) (b : Kp F H1 H2) : Kp F H H2 := fun q o h n => b q o (a q o h n) n
theorem Kp.mono {F F' : List Addr} {H H' : Hp} (a : Kp F H H') (h : ∀ q ∈ F, q ∈ F') : Kp F' H H' := fun q o e n => a q o e fun z => n (h q z)
theorem Kp.nil {F : List Addr} {H H' : Hp} (a : Kp [] H H') : Kp F H H' := a.mono fun _ z => nomatch z
theorem Kp.new {F : List Addr} {H H1 : Hp} {p : Addr} {o : HO} (a : Kp F H H1) (h : H1 p = none) : Kp F H (upd H1 p o) := fun q o' e n => by
  have z := a q o' e n
  rw [upd_ne (ne_of_none z h)]; exact z
theorem Kp.at {F : List Addr} {H H1 : Hp} {p : Addr} {o : HO} (a : Kp F H H1) (h : p ∈ F) : Kp F H (upd H1 p o) := fun q o' e n => by
  have hne : q ≠ p := fun z => n (by rw [z]; exact h)
  rw [upd_ne hne]; exact a q o' e n
theorem Kp.own {F : List Addr} {H H1 : Hp} {p : Addr} {o : HO} (a : Kp F H H1) (h : H p = none) : Kp F H (upd H1 p o) := fun q o' e n => by
  rw [upd_ne (ne_of_none e h)]; exact a q o' e n
theorem upd_at {H : Hp} {p : Addr} {o : HO} : upd H p o p = some o := by unfold upd; rw [if_pos rfl]
theorem upd_fr {H : Hp} {p q : Addr} {o o' : HO} (h : H p = none) (hq : H q = some o) : upd H p o' q = some o := by rw [upd_ne (ne_of_none hq h)]; exact hq
theorem upd_off {H : Hp} {p q : Addr} {o o' : HO} (h : q ≠ p) (hq : H q = some o) : upd H p o' q = some o := by rw [upd_ne h]; exact hq
theorem upd_tw {H : Hp} {p : Addr} {o o' : HO} : upd (upd H p o) p o' = upd H p o' := by
  funext q; unfold upd; split <;> rfl
theorem mem1 {F : List Addr} {q : Addr} (h : ∀ x ∈ F, q ≠ x) : q ∉ F := fun z => h q z rfl
theorem ne_none {H : Hp} {p q : Addr} {o : HO} (h : H q = some o) (hp : H p = none) : q ≠ p := ne_of_none h hp
theorem ne_none' {H : Hp} {p q : Addr} {o : HO} (h : H q = some o) (hp : H p = none) : p ≠ q := (ne_of_none h hp).symm
theorem Kp.get {F : List Addr} {H H' : Hp} {q : Addr} {o : HO} (a : Kp F H H') (h : H q = some o) (n : q ∉ F) : H' q = some o := a q o h n
theorem Kp.get0 {H H' : Hp} {q : Addr} {o : HO} (a : Kp [] H H') (h : H q = some o) : H' q = some o := a q o h fun z => nomatch z
theorem Kp.get1 {p : Addr} {H H' : Hp} {q : Addr} {o : HO} (a : Kp [p] H H') (h : H q = some o) (n : q ≠ p) : H' q = some o := a q o h fun z => n (List.mem_singleton.mp z)
/-- a side goal, left to the end -/
structure Sd (p : Prop) : Prop where
  out : p
theorem sd_i {p : Prop} (h : p) : Sd p := by refine ⟨?_⟩; exact h
theorem sd_e {p : Prop} (h : Sd p) : p := by replace h := h.out; exact h
theorem cnd_d {c : Prop} [Decidable c] {p q : Prop} (h1 : c → p) (h2 : ¬ c → q) : cnd (decide c) p q := cnd_i (fun h => h1 (of_decide_eq_true h)) (fun h => h2 (of_decide_eq_false h))
theorem cnd_n {c : Bool} {p q : Prop} (h : cnd c q p) : cnd (!c) p q := by
  replace h := h.out; refine ⟨?_⟩
  cases c <;> exact h

/-! ### [c for c in text if test] -/
theorem filter_take {l : List Nat} {f : Nat → Bool} {k c : Nat} (h : l[k]? = some c) : (l.take (k + 1)).filter f = (l.take k).filter f ++ (if f c = true then [c] else []) := by
  rw [List.take_succ, h]
  simp [List.filter_append, List.filter_cons]
theorem lcp_g {n : Nat} {it : Itm} {st : Hp → Prop} {l : List Nat} {i : Nat} {tt : TT} {te : TE} {σ : St} {H1 : Hp} {Q : VK} {vs : List Nat} (hn : n = l.length) (hit : ∀ k H x H', it k H x H' → H' = H ∧ ∃ c, l[k]? = some c ∧ x = .str (S [c])) (hst : ∀ D xs, H1 D = none → st (upd H1 D (.lst xs)))
    (f : Nat → Bool) (hl : l.length < 1000000) (ht : ∀ c D H' Q', H1 D = none → c ∈ l → (∃ xs, H' = upd H1 D (.lst xs)) → Q' (f c) H' → tt ((wipe σ vs).set i (some (.str (S [c])))) H' Q')
    (he : ∀ c H' Q', Q' (.str (S [c])) H' → te ((wipe σ vs).set i (some (.str (S [c])))) H' Q')
    (hw : ∀ v, wipe ((wipe σ vs).set i v) vs = wipe σ vs) (q : ∀ D, H1 D = none → Q (.ref D) (upd H1 D (.lst (sgn (l.filter f))))) : lcp n it st (gName i) tt te vs σ H1 Q := by
  subst hn
  refine lcp_i (fun D k H => H = upd H1 D (.lst (sgn ((l.take k).filter f)))) (fun D hD => rfl) (fun D k H hD _ e => by rw [e]; exact hst D _ hD) ?_ ?_
  · rintro D k x H H' hD hk rfl hi
    obtain ⟨rfl, c, hc, rfl⟩ := hit _ _ _ _ hi
    refine ⟨hw _, ht c D _ _ hD (List.mem_of_getElem? hc) ⟨_, rfl⟩ ?_⟩
    cases e : f c with
    | true =>
      rw [if_pos rfl]
      refine he c _ _ ⟨_, upd_at, ?_, ?_⟩
      · unfold sgn
        rw [List.length_map, sizeLine_eq]
        have h1 := List.length_filter_le f (l.take k)
        rw [List.length_take] at h1
        omega
      · rw [upd_tw, filter_take hc, e, if_pos rfl]
        unfold sgn
        rw [List.map_append]
        rfl
    | false =>
      rw [if_neg (by simp), filter_take hc, e, if_neg (by simp), List.append_nil]
  · rintro D H hD rfl
    rw [List.take_length]
    exact q D hD
theorem lcp_f {l : List Nat} {i : Nat} {tt : TT} {te : TE} {σ : St} {H1 : Hp} {Q : VK} {vs : List Nat} (f : Nat → Bool) (hl : l.length < 1000000)
    (ht : ∀ c D H' Q', H1 D = none → c ∈ l → (∃ xs, H' = upd H1 D (.lst xs)) → Q' (f c) H' → tt ((wipe σ vs).set i (some (.str (S [c])))) H' Q')
    (he : ∀ c H' Q', Q' (.str (S [c])) H' → te ((wipe σ vs).set i (some (.str (S [c])))) H' Q')
    (hw : ∀ v, wipe ((wipe σ vs).set i v) vs = wipe σ vs) (q : ∀ D, H1 D = none → Q (.ref D) (upd H1 D (.lst (sgn (l.filter f))))) : lcp l.length (itS l) (fun _ => True) (gName i) tt te vs σ H1 Q :=
  lcp_g rfl (fun _ _ _ _ h => h) (fun _ _ _ => trivial) f hl ht he hw q
theorem lcp_l {l : List Nat} {p : Addr} {i : Nat} {tt : TT} {te : TE} {σ : St} {H1 : Hp} {Q : VK} {vs : List Nat} (hp : H1 p = some (.lst (sgn l))) (f : Nat → Bool) (hl : l.length < 1000000)
    (ht : ∀ c D H' Q', H1 D = none → c ∈ l → (∃ xs, H' = upd H1 D (.lst xs)) → Q' (f c) H' → tt ((wipe σ vs).set i (some (.str (S [c])))) H' Q')
    (he : ∀ c H' Q', Q' (.str (S [c])) H' → te ((wipe σ vs).set i (some (.str (S [c])))) H' Q')
    (hw : ∀ v, wipe ((wipe σ vs).set i v) vs = wipe σ vs) (q : ∀ D, H1 D = none → Q (.ref D) (upd H1 D (.lst (sgn (l.filter f))))) : lcp (sgn l).length (itL (sgn l)) (fun H' => H' p = some (.lst (sgn l))) (gName i) tt te vs σ H1 Q := by
  refine lcp_g (l := l) (by unfold sgn; rw [List.length_map]) (fun k H x H' h => ⟨h.1, ?_⟩) (fun D xs hD => upd_fr hD hp) f hl ht he hw q
  have h2 := h.2
  unfold sgn at h2
  rw [List.getElem?_map] at h2
  cases e : l[k]? with
  | none => rw [e] at h2; cases h2
  | some c => rw [e] at h2; exact ⟨c, rfl, (Option.some.inj h2).symm⟩
theorem upd_self {H : Hp} {p : Addr} {o : HO} (h : H p = some o) : upd H p o = H := by
  funext q; unfold upd; split
  · rename_i e; rw [e, h]
  · rfl

theorem joinL_one : ∀ l : List Nat, TL.joinL [] (l.map fun c => [c]) = l
  | [] => rfl
  | [a] => rfl
  | a :: b :: l => by
    have ih := joinL_one (b :: l)
    show [a] ++ [] ++ TL.joinL [] ((b :: l).map fun c => [c]) = _
    rw [ih]
    rfl
theorem sum_one (l : List Nat) : ((l.map fun c => [c]).map List.length).sum = l.length := by
  induction l with
  | nil => rfl
  | cons a l ih => simp only [List.map_cons, List.sum_cons, ih, List.length_cons, List.length_nil]; omega
theorem joi_i {l : List Nat} {k : List Nat → Prop} (h : l.length ≤ 1000000) (q : k l) : joi (sgn l) (tl (S [])) k := by
  refine ⟨?_⟩
  refine ⟨l.map fun c => [c], by unfold sgn; rw [List.map_map]; rfl, ?_, ?_⟩
  · rw [sum_one, List.length_map]
    show _ + _ * 0 ≤ _
    omega
  · show k (TL.joinL [] _)
    rw [joinL_one]; exact q
theorem sgn_len (l : List Nat) : (sgn l).length = l.length := by unfold sgn; rw [List.length_map]
theorem srt_len (l : List Nat) : (srt l).length = l.length := (srt_perm l).length_eq
theorem sgn_fe (l : List Nat) (f : Nat → Bool) : (sgn (l.filter f)).isEmpty = !l.any f := by
  induction l with
  | nil => rfl
  | cons a l ih =>
    rw [List.filter_cons, List.any_cons]
    cases f a with
    | true => rfl
    | false => exact ih

theorem itm_s {α : Type} {l : List α} {i : Int} {k : α → Prop} (h0 : 0 ≤ i) (h1 : i < (l.length : Int)) (q : ∀ (j : Nat) (hj : j < l.length), i = (j : Int) → k l[j]) : itm l i k := by
  obtain ⟨j, rfl⟩ := Int.eq_ofNat_of_zero_le h0
  have hj : j < l.length := by omega
  exact itm_n rfl (List.getElem?_eq_getElem hj) (q j hj rfl)
theorem perm_out {l r : List Nat} {j : Nat} (hj : j < r.length) : ((l ++ [r[j]]) ++ (r.take j ++ r.drop (j + 1))).Perm (l ++ r) := by
  have e : r = r.take j ++ r[j] :: r.drop (j + 1) := by
    rw [List.getElem_cons_drop, List.take_append_drop]
  have h1 : (r[j] :: (r.take j ++ r.drop (j + 1))).Perm r := by
    refine List.Perm.trans ?_ (List.Perm.of_eq e.symm)
    exact List.perm_middle.symm
  rw [List.append_assoc]
  exact h1.append_left l
theorem dn_nodup (l : List Nat) : dn l = l.length ↔ l.Nodup := by
  suffices h : ∀ m : List Nat, dn m.reverse = m.reverse.length ↔ m.reverse.Nodup by
    have z := h l.reverse
    rw [List.reverse_reverse] at z
    exact z
  intro m
  induction m with
  | nil => simp [dn]
  | cons x m ih =>
    rw [List.reverse_cons, dn_snoc, List.length_append, List.nodup_append]
    have hle := dn_le m.reverse
    have ea : (m.reverse.any fun y => y == x) = decide (x ∈ m.reverse) := by
      rw [Bool.eq_iff_iff]; simp
    rw [ea]
    by_cases hx : x ∈ m.reverse
    · rw [if_pos (decide_eq_true hx)]
      constructor
      · intro h; simp at h hle; omega
      · rintro ⟨_, _, h⟩
        exact absurd rfl (h x hx x (List.mem_singleton.mpr rfl))
    · rw [if_neg (by simpa using hx)]
      constructor
      · intro h
        refine ⟨ih.mp (by simp at h ⊢; omega), by simp, fun a ha b hb => ?_⟩
        rw [List.mem_singleton.mp hb]
        exact fun e => hx (e ▸ ha)
      · rintro ⟨h, _, _⟩
        rw [ih.mpr h]; rfl

theorem Kp.made {F : List Addr} {H H' : Hp} {x dx : Addr} {o1 o2 : HO} (hx : H x = none) (hdx : H dx = none) (k : Kp (x :: F) (upd (upd H dx o1) x o2) H') : Kp F H H' := fun q o e n => by
  have n1 : q ≠ x := ne_of_none e hx
  have n2 : q ≠ dx := ne_of_none e hdx
  refine k q o (by rw [upd_ne n1, upd_ne n2]; exact e) fun z => ?_
  rcases List.mem_cons.mp z with z | z
  · exact n1 z
  · exact n z

theorem upd_tw2 {H : Hp} {p : Addr} {o o1 o2 : HO} : upd (upd (upd H p o) p o1) p o2 = upd H p o2 := by rw [upd_tw, upd_tw]
theorem upd_tw3 {H : Hp} {p : Addr} {o o1 o2 o3 : HO} : upd (upd (upd (upd H p o) p o1) p o2) p o3 = upd H p o3 := by rw [upd_tw, upd_tw, upd_tw]
theorem upd_tw4 {H : Hp} {p : Addr} {o o1 o2 o3 o4 : HO} : upd (upd (upd (upd (upd H p o) p o1) p o2) p o3) p o4 = upd H p o4 := by rw [upd_tw, upd_tw, upd_tw, upd_tw]
/-- a loop that changes nothing but its own name -/
theorem loop_c {n k : Nat} {it : Itm} {st : Hp → Prop} {tb : TS} {D : Ends} {σ : St} {H : Hp} (h0 : st H) (hit : ∀ i H x H', it i H x H' → H' = H) (hk : ∃ v0, σ.set k v0 = σ)
    (hs : ∀ i x v, i < n → it i H x H → tb { D with nx := fun σ' H' => Sd (∃ v', σ' = σ.set k v' ∧ H' = H), ct := fun σ' H' => Sd (∃ v', σ' = σ.set k v' ∧ H' = H), bk := D.nx } ((σ.set k v).set k (some x)) H) (hd : ∀ v, D.nx (σ.set k v) H) : loop n it st (gName k) tb D σ H := by
  obtain ⟨v0, hv0⟩ := hk
  refine loop_i (fun _ σ' H' => Sd (∃ v', σ' = σ.set k v' ∧ H' = H)) (sd_i ⟨v0, hv0.symm, rfl⟩) ?_ ?_ ?_
  · intro i σ' H' _ h
    obtain ⟨v', _, rfl⟩ := sd_e h
    exact h0
  · intro i x σ' H' H'' hi h hI
    obtain ⟨v', rfl, rfl⟩ := sd_e h
    obtain rfl := hit _ _ _ _ hI
    exact hs i x v' hi hI
  · intro σ' H' h
    obtain ⟨v', rfl, rfl⟩ := sd_e h
    exact hd v'

theorem Kp.none {H H' : Hp} {q : Addr} (k : Kp [] H H') (h : H' q = none) : H q = none := by
  cases e : H q with
  | none => rfl
  | some o => rw [k.get0 e] at h; cases h
end Ta

set_option Elab.async false
set_option linter.all false
set_option maxRecDepth 100000
set_option maxHeartbeats 400000
namespace Ta
open PySem PySem.Spec PyProof.Rows L2

/-! ### locals at the code itself -/
def FT (X : Cx) (f : List (Str × Value)) (s : Shared) : Prop := ∃ m, s.heap.Ns X.env.locals m ∧ ∀ e ∈ f, m e.1 = some e.2
section
variable {X : Cx} {pins : List (Addr × Obj)} {σ : St} {H : Hp} {s s' : Shared} {ff : List (Str × Value)}
theorem FT.after {Q : VK} {u : Value} (h : FT X ff s) (I : Inv X pins σ H s) (c : CE X.stack X.prog X.w H s Q u s') : FT X ff s' := by
  obtain ⟨m, ⟨o, es, ep, ho, r⟩, hf⟩ := h
  obtain ⟨v, H', os, bare, un, hok, rr, q⟩ := c
  obtain ⟨sl, hL⟩ := un.any ho I.free (by simp)
  exact ⟨m, ⟨_, es, ep, hL, r⟩, hf⟩
theorem FT.nil (I : Inv X pins σ H s) : FT X [] s := by
  obtain ⟨m, hn, _⟩ := I.loc
  exact ⟨m, hn, fun _ z => nomatch z⟩
theorem run_fnF {CX : CXT} {k : Nat} {f : Addr} {fd : FuncData} {ps : List Str} {sp : Sp} {E : St → XK} {dvs : List V} {ds : List Value} {Q : VK} {us : List Value} {vs : List V} (F : FnOk X.prog X.w X.K X.mg X.base CX k f fd ps sp) (hr : Room k X.A) (hb : Binds X.K fd ps ds) (hd : Vals dvs ds) (hx : PassesAt CX X σ (E σ))
    (I : Inv X pins σ H s) (hF : FT X ff s) (r : Vals vs us) (h : sp (vs ++ dvs) H Q (E σ)) : wpAny (model X.prog X.w) X.A (call (.ref f) us) (fun u s' => EP X pins σ Q u s' ∧ FT X ff s') X.xe s := by
  have r2 : Vals (vs ++ dvs) (us ++ ds) := r.append hd
  have hl : (us ++ ds).length = ps.length := by rw [← r2.length]; exact F.len _ _ _ _ h
  refine wpAny_call (codeAny_mono (F.run X.A X.stack s H ⟨us, []⟩ (us ++ ds) (vs ++ dvs) Q (E σ) hr I.env0 (hb s us I.kIn hl) r2 h) fun r s' hq => ?_)
  cases r with
  | error e => exact hx pins H s e s' I hq
  | ok fl =>
    cases fl with
    | ret u => exact ⟨I.after hq, hF.after I hq⟩
    | next => exact False.elim hq
    | brk => exact False.elim hq
    | cont => exact False.elim hq
/-- s[take(box, len(s))] -/
def tPk (sp : Sp) (W : WX) (il ib : Nat) : TE := fun σ H Q => match σ[il]? with
  | some (some (.str z)) => (match σ[ib]? with
    | some (some bv) => Lim (tl z).length ∧ sp [bv, .int (tl z).length] H (fun v H' => match v with
      | .int i => itm (tl z) i fun c => Q (.str (S [c])) H'
      | _ => False) (fun c d H' => W c d σ H')
    | _ => False)
  | _ => False
theorem tPk_e {sp : Sp} {W : WX} {il ib : Nat} {Q : VK} (h : tPk sp W il ib σ H Q) : ∃ z bv, σ[il]? = some (some (.str z)) ∧ σ[ib]? = some (some bv) ∧ Lim (tl z).length ∧ sp [bv, .int (tl z).length] H (fun v H' => match v with
      | .int i => itm (tl z) i fun c => Q (.str (S [c])) H'
      | _ => False) (fun c d H' => W c d σ H') := by
  unfold tPk at h
  split at h
  · rename_i z e1
    split at h
    · rename_i bv e2
      exact ⟨z, bv, e1, e2, h⟩
    · exact h.elim
  · exact h.elim
theorem ev_pk {il ib lv : Nat} {l b tk : Str} {sp : Sp} {W : WX} {Q : VK} {p1 p2 p3 p4 p5 p6 p7 p8 : Pos} (F : Fn X.prog X.w X.K X.mg X.base tk lv [] sp) (hr : Room lv X.A) (tks : Takes X W) (hlen : X.mg "len" = none) (I : Inv X pins σ H s) (hF : FT X ff s) (h : tPk sp W il ib σ H Q)
    (hNl : X.N[il]? = some l) (hvl : Vis X.env.scope l) (hNb : X.N[ib]? = some b) (hvb : Vis X.env.scope b) (hg : Gl X tk) (hgl : Gl X "len") (hdt : (tk == ("__debug__" : Str)) = false) (hdl : (l == ("__debug__" : Str)) = false) (hcl : (l == ("__classdict__" : Str)) = false)
    (hdb : (b == ("__debug__" : Str)) = false) (hcb : (b == ("__classdict__" : Str)) = false)
    (hst : starEach [.Name b p3, .Call (.Name "len" p4) [.Name l p5] [] p6] X.env = [(false, eval (.Name b p3) X.env), (false, eval (.Call (.Name "len" p4) [.Name l p5] [] p6) X.env)])
    (hst1 : starEach [.Call (.Name "len" p4) [.Name l p5] [] p6] X.env = [(false, eval (.Call (.Name "len" p4) [.Name l p5] [] p6) X.env)])
    (hst2 : starEach [.Name l p5] X.env = [(false, eval (.Name l p5) X.env)])
    (hix : PlainIx (.Call (.Name tk p2) [.Name b p3, .Call (.Name "len" p4) [.Name l p5] [] p6] [] p7)) :
    wpAny (model X.prog X.w) X.A (eval (.Subscript (.Name l p1) (.Call (.Name tk p2) [.Name b p3, .Call (.Name "len" p4) [.Name l p5] [] p6] [] p7) p8) X.env)
      (fun u s' => ∃ (c : Nat) (t : Nat) (H' : Hp), u = .str (S [c]) t ∧ 1 ≤ t ∧ s.toks ≤ t ∧ t < s'.toks ∧ Inv X pins σ H' s' ∧ Q (.str (S [c])) H' ∧ FT X ff s') X.xe s := by
  obtain ⟨z, bv, e1, e2, hlim, h⟩ := tPk_e h
  obtain ⟨f, fd, ps, ds, F, hm, hk, hd, hb⟩ := F.ex
  cases hd
  refine Subscript_ (raw_name hNl hvl I e1 (fun v r => ?_) hdl hcl)
  obtain ⟨tz, rfl⟩ := r
  refine wpAny_Call_Name_kw (ld_glob I hg hm ?_ hdt)
  refine PySem.W.callWith_K (h₀ := X.base) I.ok.mod.kin hk ?_ (by rw [hst, hst1]) (by rw [hst1]; rfl)
  rw [hst]
  show wpAny _ _ (spliced ((false, eval (.Name b p3) X.env) :: backTo p7 [(false, eval (.Call (.Name "len" p4) [.Name l p5] [] p6) X.env)])) _ _ s
  refine Calls.spliced_cons (raw_name hNb hvb I e2 (fun ub rb => ?_) hdb hcb)
  show wpAny _ _ (spliced ((false, eval (.Call (.Name "len" p4) [.Name l p5] [] p6) X.env) :: backTo p7 [])) _ _ s
  refine Calls.spliced_cons ?_
  refine Call_ (ld_blt I hgl hlen boot_len ?_)
  refine PyProof.Rows.callWith_builtin1 (PyProof.Rows.args_cons (raw_name hNl hvl I e1 (fun v r => ?_) hdl hcl) (by rw [hst2]; rfl)) (by rw [hst2]; rfl) rfl
  obtain ⟨tz2, rfl⟩ := r
  refine PyProof.Rows.args_nil ?_
  have hn := line63
  have hz : z.length ≤ sizeLine := by rw [len_tl]; exact hlim
  refine len_str (by omega) ?_
  refine Calls.spliced_nil ⟨(I.tok _).kIn, ?_⟩
  have I1 : Inv X pins σ H { s with toks := s.toks + 1 + 1 } := I.tok _
  have rv : Vals [bv, .int (tl z).length] [ub, .int z.length (s.toks + 1)] := .cons rb (.cons ⟨_, by rw [len_tl]⟩ .nil)
  refine wpAny_mono (wpAny_toks_of (n := s.toks + 1 + 1) (Nat.le_refl _) (run_fnF (E := WE W) (ff := ff) (us := [ub, .int z.length (s.toks + 1)]) (vs := [bv, .int (tl z).length]) F hr hb .nil (passAt tks σ) I1 hF rv h)) (fun u s2 hq => ?_) fun _ _ z => z.2
  obtain ⟨hle, ⟨y, H2, I2, ry, q⟩, hF2⟩ := hq
  cases y with
  | int i =>
    obtain ⟨ti, rfl⟩ := ry
    obtain ⟨c, hat, q⟩ := itm_e q
    obtain ⟨j, h1, h2, h3, h4, h5⟩ := atI_get hat
    have hl : z.cps.toList.length = z.length := by simp [Str.length]
    rw [hl] at h1 h4 h5
    refine tail_any (typeIs_str s2 z tz) slot_str_getitem.lookup (getItem_str (c := c) (by
      have e1 : decide (i < -(2 ^ 63 : Int)) = false := decide_eq_false (by omega)
      have e2 : decide (i ≥ 2 ^ 63) = false := decide_eq_false (by omega)
      rw [e1, e2, Bool.or_false]) (by rw [h1]; simpa using h2) ?_) (hix _ _)
    exact ⟨c, s2.toks, H2, rfl, by omega, by omega, Nat.lt_succ_self _, I2.tok _, q, hF2⟩
  | _ => exact False.elim q
theorem store_F {M : Model} {A : Around} {E : Value → Shared → Prop} {i : Nat} {x : Str} {v : V} {u : Value} {Q : Unit → Shared → Prop} (I : Inv X pins σ H s) (hN : X.N.Nodup) (hi : X.N[i]? = some x) (hk : X.env.kindOf x = some .local) (r : RelV v u) (hF : FT X ff s) (hx : ∀ e ∈ ff, e.1 ≠ x)
    (h : ∀ s', Inv X pins (σ.set i (some v)) H s' → FT X ((x, u) :: ff) s' → s'.toks = s.toks + 1 → Q () s') : wpAny M A (storeName X.env x u) Q E s := by
  obtain ⟨m, hn, hl⟩ := id I.loc
  obtain ⟨m2, hn2, hf⟩ := hF
  have em : m2 = m := by
    obtain ⟨o, es, ep, ho, hd, _, r⟩ := hn
    obtain ⟨o2, es2, ep2, ho2, hd2, _, r2⟩ := hn2
    rw [ho] at ho2
    cases ho2
    rw [hd] at hd2
    cases hd2
    funext name
    rw [← r2 name, ← r name]
  subst em
  have hcls : (X.env.scope.kind == .class || (X.env.scope.kind == .module && X.env.locals != X.env.globals)) = false := by rw [I.ok.kind]; rfl
  have hiσ : i < σ.length := by rw [I.len]; exact (List.getElem?_eq_some_iff.mp hi).1
  have cne := I.cne
  have tracked : ∀ {a : Addr} {h' : Heap}, (∃ o, s.heap.get? a = some o ∧ H a = none) → Heap.SameBut a s.heap h' → HOk X.prog X.w H h' := fun {a h'} ha hs b ob e => by
    obtain ⟨_, _, hfree⟩ := ha
    refine (I.hok b ob e).stay (fun c w' hc q => (hs.2 c ?_).trans q) (fun _ q => q) fun _ _ q => q
    rintro rfl
    rcases hc with rfl | hc
    · rw [hfree] at e; cases e
    · rw [hfree] at hc; cases hc
  refine wpAny_storeName_local hk hn (fun h' hn' hs => ?_) hcls
  obtain ⟨oL, _, _, hoL, _⟩ := id hn
  refine h _ ⟨I.ok, I.os, I.bare, ⟨fun b o e n hb hx => ?_, fun b o e n hb hx => ?_, I.base.free, fun b o e hx => ?_, I.base.tups, I.base.frzs, I.base.tbls⟩, ⟨_, hn', fun j y v' e1 e2 e3 => ?_⟩, fun y c e => ?_, I.free, I.freeC, fun p hp => ?_, tracked ⟨oL, hoL, I.free⟩ hs, by simpa using I.len⟩ ⟨_, hn', fun e he => ?_⟩ rfl
  · exact (hs.2 b (Nat.ne_of_lt (Nat.lt_of_lt_of_le (Heap.lt_size e) I.ok.above))).trans (I.base.keep b o e n hb hx)
  · obtain ⟨sl, e1⟩ := I.base.slot b o e n hb hx
    exact ⟨sl, (hs.2 b (Nat.ne_of_lt (Nat.lt_of_lt_of_le (Heap.lt_size e) I.ok.above))).trans e1⟩
  · obtain ⟨o', e1⟩ := I.base.there b o e hx
    exact ⟨o', (hs.2 b (Nat.ne_of_lt (Nat.lt_of_lt_of_le (Heap.lt_size e) I.ok.above))).trans e1⟩
  · by_cases hj : j = i
    · subst hj
      rw [hi] at e1; cases e1
      rw [List.getElem?_set_self hiσ] at e2
      cases e2
      exact ⟨u, r, .inl ⟨hk, by simp⟩⟩
    · rw [List.getElem?_set_ne (Ne.symm hj)] at e2
      obtain ⟨u', r', q⟩ := hl j y v' e1 e2 e3
      refine ⟨u', r', ?_⟩
      rcases q with ⟨k, e⟩ | ⟨k, c, e, z⟩
      · refine .inl ⟨k, ?_⟩
        have : y ≠ x := fun e => hj (nodup_ix hN e1 (e ▸ hi))
        simp [this, e]
      · exact .inr ⟨k, c, e, z.sameBut hs (cne y c e)⟩
  · obtain ⟨w', z⟩ := I.cell y c e
    exact ⟨w', z.sameBut hs (cne y c e)⟩
  · obtain ⟨e, n, ne, nf, d⟩ := I.pin p hp
    exact ⟨(hs.2 p.1 ne).trans e, n, ne, nf, d⟩
  · rcases List.mem_cons.mp he with rfl | he
    · show (if x = x then some u else m2 x) = some u
      rw [if_pos rfl]
    · show (if e.1 = x then some u else m2 e.1) = some e.2
      rw [if_neg (hx e he)]
      exact hf e he
/-! ### texts in locals whose tokens are out and apart -/
def tokOf : Value → Nat
  | .str _ t => t
  | _ => 0
def TKs (X : Cx) (ns : List Str) (s : Shared) : Prop := ∃ ff : List (Str × Value), FT X ff s ∧ ff.map (·.1) = ns ∧ (∀ e ∈ ff, ∃ (x : Str) (t : Nat), e.2 = .str x t ∧ 1 ≤ t ∧ t < s.toks) ∧ (ff.map fun e => tokOf e.2).Nodup
structure PSsK (X : Cx) (ns : List Str) (st : List Stmt) (t : TS) : Prop where
  run : ∀ (pins : List (Addr × Obj)) (s : Shared) (σ : St) (H : Hp) (D : Ends), Inv X pins σ H s → TKs X ns s → t D σ H → wpAny (model X.prog X.w) X.A (execs st X.env) (SP X pins D) X.xe s
structure PEK (X : Cx) (ns : List Str) (e : Expr) (t : TE) : Prop where
  run : ∀ (pins : List (Addr × Obj)) (s : Shared) (σ : St) (H : Hp) (Q : VK), Inv X pins σ H s → TKs X ns s → t σ H Q → wpAny (model X.prog X.w) X.A (eval e X.env) (fun u s' => EP X pins σ Q u s' ∧ TKs X ns s') X.xe s
structure PAK (X : Cx) (ns : List Str) (es : List Expr) (t : TA) : Prop where
  run : ∀ (pos : Pos) (pins : List (Addr × Obj)) (s : Shared) (σ : St) (H : Hp) (Q : List V → Hp → Prop), Inv X pins σ H s → TKs X ns s → t σ H Q → wpAny (model X.prog X.w) X.A (spliced (backTo pos (starEach es X.env))) (fun us s' => AP X pins σ Q us s' ∧ TKs X ns s') X.xe s
theorem pssk0 {st : List Stmt} {t : TS} (h : PSsK X [] st t) : PSs X st t :=
  ⟨fun pins s σ H D I q => h.run pins s σ H D I ⟨[], FT.nil I, rfl, fun _ z => (nomatch z), .nil⟩ q⟩
theorem pak_nil {ns : List Str} : PAK X ns [] tNil := ⟨fun _ _ _ _ H Q I k h => Calls.spliced_nil ⟨⟨[], H, I, .nil, h⟩, k⟩⟩
theorem pak_cons {ns : List Str} {e : Expr} {es : List Expr} {te : TE} {t : TA} (ha : PEK X ns e te) (hr : PAK X ns es t) (hs : starEach (e :: es) X.env = (false, eval e X.env) :: starEach es X.env := by rfl) : PAK X ns (e :: es) (tCons te t) := by
  refine ⟨fun pos pins s σ H Q I k h => ?_⟩
  rw [hs]
  show wpAny _ _ (spliced ((false, eval e X.env) :: backTo pos (starEach es X.env))) _ _ s
  refine Calls.spliced_cons (thn (ha.run pins s σ H _ I k h) fun u s1 ⟨⟨x, H1, I1, r1, q1⟩, k1⟩ => ?_)
  exact thn (hr.run pos pins s1 σ H1 _ I1 k1 q1) fun us s2 ⟨⟨xs, H2, I2, r2, q2⟩, k2⟩ => ⟨⟨x :: xs, H2, I2, .cons r1 r2, q2⟩, k2⟩
/-- return (..), the items under known tokens -/
theorem pssk_rtup {ns : List Str} {es : List Expr} {x1} {t : TA} {pos pos' : Pos} (h : PAK X ns es t) : PSsK X ns [.Return (some (.Tuple es x1 pos)) pos'] (tRet (tTup t)) := by
  refine ⟨fun pins s σ H D I k q => ?_⟩
  refine wpAny_execs_cons (wpAny_Return_some ?_)
  refine wpAny_Tuple_spliced (thn (h.run pos pins s σ H _ I k q) fun us s1 ⟨⟨xs, H1, I1, r, z, q⟩, _⟩ => ⟨by rw [← r.length]; exact z, ?_⟩)
  have hf : H1 s1.heap.objs.size = none := I1.hok.fresh (Nat.le_refl _)
  refine ⟨.ref s1.heap.objs.size, σ, upd H1 s1.heap.objs.size (.tup xs), I1.laid (t' := s1.toks) (fun b u e => Heap.get?_push_of_some _ e) (Nat.le_refl _) ?_, rfl, q _ hf⟩
  exact ⟨z, us, r, ⟨_, Heap.get?_push_size _ rfl, rfl, _, rfl⟩⟩
theorem pssk_set {ns : List Str} {i : Nat} {x : Str} {e : Expr} {te : TE} {rest : List Stmt} {u : TS} {pos pos' : Pos} (hN : X.N.Nodup) (he : PEK X ns e te) (hrest : PSs X rest u) (hi : X.N[i]? = some x := by rfl) (hx : Loc X.env.scope x := by first | exact Or.inl rfl | exact Or.inr rfl)
    (hs : swapsWith e (some (.Name x pos')) pos.line X.env = pure false := by rfl) (hf : X.fn x = true ∨ X.env.scope.names.lookup x = some .local := by first | exact .inl rfl | exact .inr rfl) : PSsK X ns (.Assign [.Name x pos'] e pos :: rest) (tSeq (tAsg te (gName i)) u) := by
  refine ⟨fun pins s σ H D I k h => ?_⟩
  refine wpAny_execs_cons (wpAny_Assign_Name (thn (he.run pins s σ H _ I k h) fun v s1 ⟨⟨y, H1, I1, r1, q1⟩, _⟩ => ?_) hs)
  exact store_ok I1 hN hi hx r1 (fun s2 I2 => hrest.run pins s2 _ H1 D I2 q1) hf
theorem pssk_pk {ns : List Str} {ix il ib lv : Nat} {x l b tk : Str} {sp : Sp} {W : WX} {rest : List Stmt} {u : TS} {px pos p1 p2 p3 p4 p5 p6 p7 p8 : Pos} (hN : X.N.Nodup) (F : Fn X.prog X.w X.K X.mg X.base tk lv [] sp) (hr : Room lv X.A) (tks : Takes X W) (hlen : X.mg "len" = none) (hrest : PSsK X (x :: ns) rest u) (hxn : x ∉ ns := by decide +kernel)
    (hNx : X.N[ix]? = some x := by rfl) (hkx : X.env.kindOf x = some .local := by rfl)
    (hNl : X.N[il]? = some l := by rfl) (hvl : Vis X.env.scope l := by first | exact Or.inl rfl | exact Or.inr (Or.inl rfl) | exact Or.inr (Or.inr rfl)) (hNb : X.N[ib]? = some b := by rfl) (hvb : Vis X.env.scope b := by first | exact Or.inl rfl | exact Or.inr (Or.inl rfl) | exact Or.inr (Or.inr rfl)) (hg : Gl X tk := by rfl) (hgl : Gl X "len" := by rfl)
    (hdt : (tk == ("__debug__" : Str)) = false := by decide +kernel) (hdl : (l == ("__debug__" : Str)) = false := by decide +kernel) (hcl : (l == ("__classdict__" : Str)) = false := by decide +kernel)
    (hdb : (b == ("__debug__" : Str)) = false := by decide +kernel) (hcb : (b == ("__classdict__" : Str)) = false := by decide +kernel)
    (hst : starEach [.Name b p3, .Call (.Name "len" p4) [.Name l p5] [] p6] X.env = [(false, eval (.Name b p3) X.env), (false, eval (.Call (.Name "len" p4) [.Name l p5] [] p6) X.env)] := by rfl)
    (hst1 : starEach [.Call (.Name "len" p4) [.Name l p5] [] p6] X.env = [(false, eval (.Call (.Name "len" p4) [.Name l p5] [] p6) X.env)] := by rfl)
    (hst2 : starEach [.Name l p5] X.env = [(false, eval (.Name l p5) X.env)] := by rfl)
    (hix : PlainIx (.Call (.Name tk p2) [.Name b p3, .Call (.Name "len" p4) [.Name l p5] [] p6] [] p7) := by exact fun _ _ => rfl)
    (hs : swapsWith (.Subscript (.Name l p1) (.Call (.Name tk p2) [.Name b p3, .Call (.Name "len" p4) [.Name l p5] [] p6] [] p7) p8) (some (.Name x px)) pos.line X.env = pure false := by rfl) :
    PSsK X ns (.Assign [.Name x px] (.Subscript (.Name l p1) (.Call (.Name tk p2) [.Name b p3, .Call (.Name "len" p4) [.Name l p5] [] p6] [] p7) p8) pos :: rest) (tSeq (tAsg (tPk sp W il ib) (gName ix)) u) := by
  refine ⟨fun pins s σ H D I k h => ?_⟩
  obtain ⟨ff, hF, hns, htok, hnd⟩ := k
  have h : tPk sp W il ib σ H fun x H1 => u D (σ.set ix (some x)) H1 := h
  refine wpAny_execs_cons (wpAny_Assign_Name (thn (ev_pk F hr tks hlen I hF h hNl hvl hNb hvb hg hgl hdt hdl hcl hdb hcb hst hst1 hst2 hix) fun v s1 hv => ?_) hs)
  obtain ⟨c, t, H1, rfl, h1, h2, h3, I1, q, hF1⟩ := hv
  refine store_F (v := .str (S [c])) I1 hN hNx hkx ⟨t, rfl⟩ hF1 (fun e he z => hxn (by rw [← hns, ← z]; exact List.mem_map_of_mem he)) fun s2 I2 hF2 ht2 => ?_
  refine hrest.run pins s2 _ H1 D I2 ⟨_, hF2, by rw [List.map_cons, hns], fun e he => ?_, ?_⟩ q
  · rcases List.mem_cons.mp he with rfl | he
    · exact ⟨S [c], t, rfl, h1, by omega⟩
    · obtain ⟨x', t', e1, e2, e3⟩ := htok e he
      exact ⟨x', t', e1, e2, by omega⟩
  · rw [List.map_cons]
    refine List.nodup_cons.mpr ⟨fun hm => ?_, hnd⟩
    obtain ⟨e, he, ee⟩ := List.mem_map.mp hm
    obtain ⟨x', t', e1, e2, e3⟩ := htok e he
    rw [e1] at ee
    have ee : t' = t := ee
    omega
/-! ### x.replace(old, new) -/
def rp (c d : Nat) (l : List Nat) : List Nat := l.map fun a => if a = c then d else a
theorem replL_rp (c d : Nat) : ∀ l : List Nat, StrLaws.replL [c] [d] l = rp c d l
  | [] => StrLaws.replL_nil
  | a :: l => by
    by_cases h : a = c
    · subst h
      rw [StrLaws.replL_hit (by simp) (by simp)]
      show [d] ++ StrLaws.replL [a] [d] l = _
      rw [replL_rp a d l]
      simp [rp]
    · rw [StrLaws.replL_miss (by simp [h]), replL_rp c d l]
      simp [rp, h]
theorem repl_S (x : Str) (c d : Nat) : Txt.replace x (S [c]) (S [d]) = S (rp c d (tl x)) := by
  refine ext_tl ?_
  have e := StrLaws.replace_list (x := x) (y := S [c]) (z := S [d]) (by rw [len_tl]; exact Nat.le_refl 1)
  exact e.trans (replL_rp c d (tl x))
def tRp (ix io iw : Nat) : TE := fun σ H Q => match σ[ix]? with
  | some (some (.str x)) => (match σ[io]? with
    | some (some (.str y)) => (match σ[iw]? with
      | some (some (.str z)) => (match tl y with
        | [c] => (match tl z with
          | [d] => c ≠ d ∧ (tl x).length ≤ 1000000 ∧ Q (.str (S (rp c d (tl x)))) H
          | _ => False)
        | _ => False)
      | _ => False)
    | _ => False)
  | _ => False
theorem tRp_e {ix io iw : Nat} {Q : VK} (h : tRp ix io iw σ H Q) : ∃ x c d, σ[ix]? = some (some (.str x)) ∧ σ[io]? = some (some (.str (S [c]))) ∧ σ[iw]? = some (some (.str (S [d]))) ∧ c ≠ d ∧ (tl x).length ≤ 1000000 ∧ Q (.str (S (rp c d (tl x)))) H := by
  unfold tRp at h
  split at h
  · rename_i x e1
    split at h
    · rename_i y e2
      split at h
      · rename_i z e3
        split at h
        · rename_i c ey
          split at h
          · rename_i d ez
            exact ⟨x, c, d, e1, by rw [e2, ← S_tl y, ey], by rw [e3, ← S_tl z, ez], h⟩
          · exact h.elim
        · exact h.elim
      · exact h.elim
    · exact h.elim
  · exact h.elim
theorem ns_uniq {m m2 : Str → Option Value} {h : Heap} {a : Addr} (hn : h.Ns a m) (hn2 : h.Ns a m2) : m2 = m := by
  obtain ⟨o, es, ep, ho, hd, _, r⟩ := hn
  obtain ⟨o2, es2, ep2, ho2, hd2, _, r2⟩ := hn2
  rw [ho] at ho2
  cases ho2
  rw [hd] at hd2
  cases hd2
  funext name
  rw [← r2 name, ← r name]
/-- a local's text: its token is known -/
theorem tk_name {ns : List Str} {ff : List (Str × Value)} {i : Nat} {x : Str} {y : Str} {pos : Pos} {Q E : Value → Shared → Prop} (hF : FT X ff s) (hns : ff.map (·.1) = ns) (htok : ∀ e ∈ ff, ∃ (x : Str) (t : Nat), e.2 = .str x t ∧ 1 ≤ t ∧ t < s.toks) (hx : x ∈ ns)
    (hN : X.N[i]? = some x) (hk : X.env.kindOf x = some .local) (I : Inv X pins σ H s) (hσ : σ[i]? = some (some (.str y))) (fin : ∀ t : Nat, 1 ≤ t → t < s.toks → (x, Value.str y t) ∈ ff → Q (.str y t) s)
    (hd : (x == ("__debug__" : Str)) = false) : wpAny (model X.prog X.w) X.A (eval (.Name x pos) X.env) Q E s := by
  obtain ⟨m, hn, hl⟩ := I.loc
  obtain ⟨u, ⟨t0, rfl⟩, l⟩ := hl i x _ hN hσ (.inl hk)
  obtain ⟨m2, hn2, hf⟩ := hF
  obtain rfl := ns_uniq hn hn2
  rw [← hns] at hx
  obtain ⟨e, he, rfl⟩ := List.mem_map.mp hx
  obtain ⟨y', t, e1, e2, e3⟩ := htok e he
  rcases l with ⟨_, hm⟩ | ⟨hk', _⟩
  · have hm2 := hf e he
    rw [hm] at hm2
    have e4 : e.2 = .str y t0 := (Option.some.inj hm2).symm
    rw [e4] at e1
    cases e1
    exact wpAny_Name (wpAny_loadName_local I.ok.kind hk hn2 hm (fin t0 e2 e3 (by rw [← e4]; exact he))) hd
  · rw [hk] at hk'
    rcases hk' with z | z <;> cases z
theorem pek_repl {ns : List Str} {ix io iw : Nat} {x o w' : Str} {p1 p2 p3 apos pos : Pos} (hNx : X.N[ix]? = some x := by rfl) (hvx : Vis X.env.scope x := by first | exact Or.inl rfl | exact Or.inr (Or.inl rfl) | exact Or.inr (Or.inr rfl)) (hNo : X.N[io]? = some o := by rfl) (hko : X.env.kindOf o = some .local := by rfl) (hNw : X.N[iw]? = some w' := by rfl) (hkw : X.env.kindOf w' = some .local := by rfl)
    (ho : o ∈ ns := by decide +kernel) (hw : w' ∈ ns := by decide +kernel) (hne : o ≠ w' := by decide +kernel) (hdx : (x == ("__debug__" : Str)) = false := by decide +kernel) (hcx : (x == ("__classdict__" : Str)) = false := by decide +kernel) (hdo : (o == ("__debug__" : Str)) = false := by decide +kernel) (hdw : (w' == ("__debug__" : Str)) = false := by decide +kernel)
    (hst : starEach [.Name o p2, .Name w' p3] X.env = [(false, eval (.Name o p2) X.env), (false, eval (.Name w' p3) X.env)] := by rfl)
    (hbase : attributeBase (.Name x p1) "replace" X.env (eval (.Name x p1) X.env) = eval (.Name x p1) X.env := by rfl) (hline : (apos.endLine == pos.line) = true := by rfl) :
    PEK X ns (.Call (.Attribute (.Name x p1) "replace" apos) [.Name o p2, .Name w' p3] [] pos) (tRp ix io iw) := by
  refine ⟨fun pins s σ H Q I k h => ?_⟩
  obtain ⟨z, c, d, e1, e2, e3, hcd, hb, q⟩ := tRp_e h
  obtain ⟨ff, hF, hns, htok, hnd⟩ := k
  refine wpAny_mono (wpAny_toks (Q := fun u s' => EP X pins σ Q u s' ∧ ∃ k : Nat, s' = { s with toks := k }) (PySem.Call_method2 hbase hst hline (raw_name hNx hvx I e1 (fun v r => ?_) hdx hcx))) (fun u s' hq => ?_) fun _ _ z => z.2
  · obtain ⟨tx, rfl⟩ := r
    refine ⟨"str", _, F.plainAttrs_str, F.slot_str_replace, F.type_str_replace, typeIs_str _ _ _, (fun _ e => nomatch e), Calls.callWith_builtin rfl (Calls.evalArgs_plain (Calls.spliced_cons ?_))⟩
    refine tk_name hF hns htok ho hNo hko I e2 (fun t h1 h2 hm1 => ?_) hdo
    refine Calls.spliced_cons (tk_name hF hns htok hw hNw hkw I e3 (fun t2 h3 h4 hm2 => ?_) hdw)
    refine Calls.spliced_nil ?_
    have hneq : t ≠ t2 := fun et => by
      obtain ⟨i, hi, ei⟩ := List.mem_iff_getElem.mp hm1
      obtain ⟨j, hj, ej⟩ := List.mem_iff_getElem.mp hm2
      have eij : i = j := by
        have hi' : i < (ff.map fun e => tokOf e.2).length := by rw [List.length_map]; exact hi
        have hj' : j < (ff.map fun e => tokOf e.2).length := by rw [List.length_map]; exact hj
        refine (List.getElem_inj hnd (h₀ := hi') (h₁ := hj')).mp ?_
        rw [List.getElem_map, List.getElem_map, ei, ej]
        exact et
      subst eij
      rw [ei] at ej
      exact hne (congrArg Prod.fst ej)
    refine PySem.SC.replace (show t ≠ (0 : Nat) from by omega) (show t2 ≠ (0 : Nat) from by omega) hneq (by simp only [beq_eq_false_iff_ne]; exact fun z => hcd (S1_inj _ _ z)) (by
      have : (S [d]).length = 1 := by rw [len_tl]; rfl
      rw [this, len_tl]; omega) fun t' k => ⟨⟨.str (S (rp c d (tl z))), H, I.tok k, ⟨t', by rw [repl_S]⟩, q⟩, k, rfl⟩
  · obtain ⟨hle, he, k, rfl⟩ := hq
    exact ⟨he, ff, hF, hns, fun e he => (let ⟨x, t, a, b, c⟩ := htok e he; ⟨x, t, a, b, Nat.lt_of_lt_of_le c hle⟩), hnd⟩
end
end Ta

set_option Elab.async false
set_option linter.all false
set_option maxRecDepth 100000
set_option maxHeartbeats 1000000
namespace Ta
open PySem PySem.Spec PyProof.Rows L2 He

/-! ### facts of the written part as Bools -/
abbrev BF := PySem.W.Frag → Bool
def bFree (x : Str) : BF := fun K => (Fa.free x).ok K
def bGlo (x : Str) : BF := fun K => (Fa.glo x).ok K
def bVal (x : Str) (v : V) : BF := fun K => match PySem.W.nsIn K mainGlobals x with
  | some (some u) => relB v u
  | _ => false
def bCls (x : Str) : BF := fun K => (Fa.cls x).ok K
def bNo (x f : Str) : BF := fun K => (Fa.noat x f).ok K
def bMe (x m : Str) : BF := fun K => (Fa.meth x m).ok K
def bMk (x : Str) : BF := fun K => (Fa.mkr x).ok K
def bExm (x y : Str) (b : Bool) : BF := fun K => (Fa.exm x y b).ok K
def bExmT (x : Str) (y : String) (b : Bool) : BF := fun K => decide (PySem.W.exmOne K (.ref (ga K x)) (.type y) = some b)
def bKit (x y : Str) (b : Bool) : BF := fun K => decide (PySem.W.kitOne K (.ref (ga K x)) (.ref (ga K y)) = some b)
def bKitT (x : Str) (y : String) (b : Bool) : BF := fun K => decide (PySem.W.kitOne K (.ref (ga K x)) (.type y) = some b)
def bKitA (x : Str) (ys : List Str) (b : Bool) : BF := fun K => decide (PySem.W.kitAny K (.ref (ga K x)) (ys.map fun y => .ref (ga K y)) = some b)
def bTKit (x : String) (y : Str) (b : Bool) : BF := fun K => decide (PySem.W.kitOne K (.type x) (.ref (ga K y)) = some b)
def bIsc (x : Str) : BF := fun K => (Fa.cls x).ok K && (eqO (PySem.W.findIn K (.ref (ga K x)) "__class__") (some (some (.builtin "object.__class__"))) &&
  (eqO (PySem.W.specialIn K (.builtin "object.__class__") "__get__") (some (some (.builtin "getset_descriptor.__get__"))) && (decide (PySem.W.takesIn K (.builtin "object.__class__") = some true) && decide (PySem.W.mroIn K (ga K x) (.type "object") = some true))))
def bXc (x : Str) : BF := fun K => xfB K (ga K x) && (eqO (PySem.W.findIn K (.ref (ga K x)) "__class__") (some (some (.builtin "object.__class__"))) &&
  (eqO (PySem.W.specialIn K (.builtin "object.__class__") "__get__") (some (some (.builtin "getset_descriptor.__get__"))) && (decide (PySem.W.takesIn K (.builtin "object.__class__") = some true) && decide (PySem.W.mroIn K (ga K x) (.type "object") = some true))))
def bCC (x f : Str) (v : V) : BF := fun K => (Fa.glo x).ok K && (PySem.W.readsIn K (ga K x) (.type "type") && (eqO (PySem.W.specialIn K (.ref (ga K x)) "__getattribute__") (some (some (.builtin "type.__getattribute__"))) &&
  (match PySem.W.findCls K (.ref (ga K x)) (.type "type") f with
    | some (.val u) => relB v u
    | _ => false)))
def bCon (x f : Str) (v : V) : BF := fun K => !PySem.W.copiedNames.contains f && (match PySem.W.findIn K (.ref (ga K x)) f with
  | some (some u) => relB v u && eqO (PySem.W.specialIn K u "__get__") (some none)
  | _ => false)
/-- no list of the written part holds whole numbers alone -/
def bNoL : BF := fun K => K.all fun e => match e.2 with
  | ⟨.type t, _, .seq its _, _⟩ => !decide (t = "list") || its.toList.any fun v => match v with
    | .int _ _ => false
    | _ => true
  | _ => true
def oexB (K : PySem.W.Frag) (C : Addr) : Bool := match K.lookup C with
  | some ⟨.type t, _, .cls cd, sl⟩ => decide (t = "type") && (match cd.mro, sl.toList with
    | .ref c :: bm, [_, _, _, _, some (.builtin i), _] => decide (c = C) && (PySem.HandSPX.refsVE bm && (decide (i = "ValueError.__new__") && (cd.hasDict && !cd.hasDel)))
    | _, _ => false)
  | _ => false
def bOex (x : Str) : BF := fun K => oexB K (ga K x) && (eqO (PySem.W.findIn K (.ref (ga K x)) "__setattr__") (some (some (.builtin "object.__setattr__"))) && (decide (PySem.W.subIn K (.ref (ga K x)) (.type "BaseException") = some true) &&
  (decide (PySem.W.typeIn K (.ref (ga K x)) = some (.type "type")) && PySem.W.keepIn K (.ref (ga K x)))))
/-- class x, its __init__ of class y -/
def bSup (x y : Str) : BF := fun K => decide (PySem.W.mroIn K (ga K x) (.ref (ga K y)) = some true) && (eqO (PySem.W.ks_superIn K (ga K x) (ga K y) "__init__") (some (some (.builtin "ValueError.__init__"))) &&
  (decide (PySem.W.subIn K (.ref (ga K x)) (.type "ValueError") = some true) && (eqO (PySem.W.nsIn K cStatics "thirdparty.any") (some none) &&
  (eqO (PySem.W.findIn K (.ref (ga K x)) "__init__") (some (some (.ref (ma K (ga K y) "__init__")))) && decide (PySem.W.typeIn K (.ref (ma K (ga K y) "__init__")) = some (.type "function"))))))
section
variable {K : PySem.W.Frag} {h : Heap} {mg : Str → Option Value} {x y f : Str} {v : V}
theorem free_of (X : K.In h) (G : h.Ns mainGlobals mg) (c : bFree x K = true) : mg x = none := He.free_ok X G c
theorem glo_of (X : K.In h) (G : h.Ns mainGlobals mg) (c : bGlo x K = true) : mg x = some (.ref (ga K x)) := He.glo_ok X G c
theorem gv_of (X : K.In h) (G : h.Ns mainGlobals mg) (c : bGlo x K = true) : GlobV mg x (.ref (ga K x)) := ⟨_, glo_of X G c, rfl⟩
theorem val_of (X : K.In h) (G : h.Ns mainGlobals mg) (c : bVal x v K = true) : GlobV mg x v := by
  unfold bVal at c
  split at c
  · rename_i u e
    exact ⟨u, PySem.W.mg_of X G e, relB_ok c⟩
  · cases c
theorem cls_of (c : bCls x K = true) : Cls K (ga K x) := He.cls_ok c
theorem no_of (c : bNo x f K = true) : NoAttr K (ga K x) f := He.noat_ok c
theorem no_of' (c : bNo x f K = true) : PySem.W.findIn K (.ref (ga K x)) f = some none := He.noat_ok c
theorem me_of (c : bMe x f K = true) : Meth K (ga K x) f (ma K (ga K x) f) := He.meth_ok c
theorem mk_of (c : bMk x K = true) : Mk K (ga K x) (ma K (ga K x) "__init__") := He.mkr_ok c
theorem exm_of {b : Bool} (c : bExm x y b K = true) : PySem.W.exmOne K (.ref (ga K x)) (.ref (ga K y)) = some b := He.exm_ok c
theorem exmT_of {b : Bool} {y : String} (c : bExmT x y b K = true) : PySem.W.exmOne K (.ref (ga K x)) (.type y) = some b := of_decide_eq_true c
theorem kit_of {b : Bool} (c : bKit x y b K = true) : PySem.W.kitOne K (.ref (ga K x)) (.ref (ga K y)) = some b := of_decide_eq_true c
theorem kitT_of {b : Bool} {y : String} (c : bKitT x y b K = true) : PySem.W.kitOne K (.ref (ga K x)) (.type y) = some b := of_decide_eq_true c
theorem tkit_of {b : Bool} {x : String} (c : bTKit x y b K = true) : PySem.W.kitOne K (.type x) (.ref (ga K y)) = some b := of_decide_eq_true c
theorem kitA_of {b : Bool} {ys : List Str} (c : bKitA x ys b K = true) : PySem.W.kitAny K (.ref (ga K x)) (ys.map fun y => .ref (ga K y)) = some b := of_decide_eq_true c
theorem isc_of (c : bIsc x K = true) : IsC K (ga K x) := by
  obtain ⟨c1, c⟩ := He.ba c
  obtain ⟨c2, c⟩ := He.ba c
  obtain ⟨c3, c⟩ := He.ba c
  obtain ⟨c4, c5⟩ := He.ba c
  exact ⟨fun H a dx fs e => .ins e (cls_of c1) (eqO_ok c2) (eqO_ok c3) (of_decide_eq_true c4) (of_decide_eq_true c5)⟩
theorem xc_of (c : bXc x K = true) : XC K (ga K x) := by
  obtain ⟨c1, c⟩ := He.ba c
  obtain ⟨c2, c⟩ := He.ba c
  obtain ⟨c3, c⟩ := He.ba c
  obtain ⟨c4, c5⟩ := He.ba c
  have q := xfB_ok c1
  exact ⟨q, ⟨q.ga, q.gg, q.exC, q.hdC, eqO_ok c2, eqO_ok c3, of_decide_eq_true c4, of_decide_eq_true c5⟩⟩
theorem cc_of (X : K.In h) (G : h.Ns mainGlobals mg) (c : bCC x f v K = true) : ClsConst K mg x f v := by
  obtain ⟨c1, c⟩ := He.ba c
  obtain ⟨c2, c⟩ := He.ba c
  obtain ⟨c3, c⟩ := He.ba c
  split at c
  · rename_i u e
    exact ⟨_, _, u, He.glo_ok X G c1, ⟨c2, eqO_ok c3⟩, ⟨e, relB_ok c⟩⟩
  · cases c
theorem con_of (c : bCon x f v K = true) : ∃ u, Con K (ga K x) f v u := by
  obtain ⟨c1, c⟩ := He.ba c
  split at c
  · rename_i u e
    obtain ⟨c2, c3⟩ := He.ba c
    exact ⟨u, e, relB_ok c2, eqO_ok c3, by simpa using c1⟩
  · cases c
theorem oexB_ok {C : Addr} (c : oexB K C = true) : ∃ nm q N bs bm sn sub ab col dd k0 k1 k2 k3 k5, K.lookup C = some (excClassObj nm q C N bs bm true sn sub ab col dd k0 k1 k2 k3 k5 "ValueError.__new__") ∧ PySem.HandSPX.refsVE bm = true := by
  unfold oexB at c
  split at c
  · rename_i t dd cd sl e
    obtain ⟨c1, c⟩ := He.ba c
    have c1 := of_decide_eq_true c1
    subst c1
    split at c
    · rename_i cc bm k0 k1 k2 k3 i k5 e1 e2
      obtain ⟨_, c⟩ := He.ba c
      obtain ⟨c2, c⟩ := He.ba c
      obtain ⟨c3, c⟩ := He.ba c
      obtain ⟨c4, c⟩ := He.ba c
      obtain ⟨c5, c6⟩ := He.ba c
      have c2 := of_decide_eq_true c2
      have c4 := of_decide_eq_true c4
      subst c2 c4
      obtain ⟨m1, m2, m3, m4, m5, m6, m7, m8, m9, m10, m11⟩ := cd
      obtain ⟨sl⟩ := sl
      simp only at e1 e2 c5 c6
      simp only [Bool.not_eq_true'] at c6
      subst e1 e2 c5 c6
      exact ⟨_, _, _, _, bm, _, _, _, _, _, k0, k1, k2, k3, k5, e, c3⟩
    · cases c
  · cases c
theorem oex_of (c : bOex x K = true) : OexC K (ga K x) := by
  obtain ⟨c1, c⟩ := He.ba c
  obtain ⟨c2, c⟩ := He.ba c
  obtain ⟨c3, c⟩ := He.ba c
  obtain ⟨c4, c5⟩ := He.ba c
  exact ⟨oexB_ok c1, eqO_ok c2, of_decide_eq_true c3, of_decide_eq_true c4, c5⟩
theorem sup_of (o : bOex x K = true) (c : bSup x y K = true) : SupExc K (ga K x) (ga K y) ∧ PySem.W.findIn K (.ref (ga K x)) "__init__" = some (some (.ref (ma K (ga K y) "__init__"))) ∧ PySem.W.typeIn K (.ref (ma K (ga K y) "__init__")) = some (.type "function") := by
  obtain ⟨c1, c⟩ := He.ba c
  obtain ⟨c2, c⟩ := He.ba c
  obtain ⟨c3, c⟩ := He.ba c
  obtain ⟨c4, c⟩ := He.ba c
  obtain ⟨c5, c6⟩ := He.ba c
  exact ⟨⟨oex_of o, of_decide_eq_true c1, eqO_ok c2, of_decide_eq_true c3, eqO_ok c4⟩, eqO_ok c5, of_decide_eq_true c6⟩
theorem vals_int : ∀ {ns : List Int} {us : List Value}, Vals (ns.map V.int) us → (us.any fun v => match v with
      | .int _ _ => false
      | _ => true) = false
  | [], _, .nil => rfl
  | n :: ns, _, .cons r t => by
    obtain ⟨k, rfl⟩ := r
    rw [List.any_cons, vals_int t]
    rfl
theorem scr_of {H : Hp} {a : Addr} {ns : List Int} (c : bNoL K = true) (hO : Only H) (hS : SqL K H a (ns.map V.int)) : ∃ ob, H a = some (.frz ob (.lst (ns.map V.int))) := by
  rcases hS with (hS | ⟨ob, hS⟩) | ⟨o, its, n, lk, o1, o2, o3, o4, o5⟩
  · rcases hO a with z | ⟨ob, xs, z⟩
    · rw [hS] at z; cases z
    · rw [hS] at z; cases z
  · exact ⟨ob, hS⟩
  · exfalso
    obtain ⟨oc, od, dt, sl⟩ := o
    simp only at o1 o2 o3
    subst o1 o2 o3
    have hm : (a, (⟨.type "list", none, .seq its n, sl⟩ : Obj)) ∈ K := by
      clear c o5 o4
      induction K with
      | nil => cases lk
      | cons e K ih =>
        obtain ⟨b, u⟩ := e
        rw [List.lookup_cons] at lk
        split at lk
        · rename_i hb
          have hb := eq_of_beq hb
          cases lk
          subst hb
          exact List.mem_cons_self
        · exact List.mem_cons_of_mem _ (ih lk)
    have q := List.all_eq_true.mp c _ hm
    have q : (!decide ("list" = "list") || its.toList.any fun v => match v with
      | .int _ _ => false
      | _ => true) = true := q
    rw [vals_int o5, Bool.or_false] at q
    simp at q
end

/-! ### a def that says super(), the Hook -/
abbrev FnS : Type := Option (Str × Str × Arguments × FuncBody × Scope × Addr × List Str × Addr)
structure SupD where
  cls : Str
  name : Str
  qual : Str
  params : Arguments
  body : List Stmt
  scope : Scope
def SupD.at_ (K : PySem.W.Frag) (d : SupD) : Addr := ma K (ga K d.cls) d.name
def fnS (K : PySem.W.Frag) (f : Addr) : FnS := match K.lookup f with
  | some ⟨_, _, .func fd, _⟩ => some (fd.name, fd.qualname, fd.params, fd.body, fd.scope, fd.globals, fd.closure.map (·.1), fd.builtins)
  | _ => none
def SupD.val (d : SupD) : FnS := some (d.name, d.qual, d.params, .stmts d.body, d.scope, mainGlobals, ["__class__"], builtinsNs)
def SupD.ok (file : Str) (K : PySem.W.Frag) (d : SupD) : Bool := PySem.W.keepIn K (.ref (d.at_ K)) && (match K.lookup (d.at_ K) with
  | some ⟨_, _, .func fd, _⟩ => (match fd.closure with
    | [(_, cc)] => (match K.lookup cc with
      | some ⟨_, _, .cell (some (.ref D)), _⟩ => decide (D = ga K d.cls)
      | _ => false)
    | _ => false) && ((match fd.defaults with
      | .none => true
      | _ => false) && ((PySem.W.clsIn K (ga K d.cls)).isSome && (match fd.code with
    | .ref c => PySem.W.codeIn K (.ref c) d.qual && (match K.lookup c with
      | some ⟨_, _, .fields vs, _⟩ => (match (vs[2]? : Option Value) with
        | some (.str fl _) => (file == fl)
        | _ => false)
      | _ => false)
    | _ => false)))
  | _ => false)
theorem SupD.fn {P : Program} {K : PySem.W.Frag} {d : SupD} (e : fnS K (d.at_ K) = d.val) (c : d.ok P.main.file K = true) (top : (P.main.scope.names.lookup ("super" : Str)).isSome = false) :
    ∃ (F : NdefX.NF) (fd : FuncData), F.name = d.name ∧ F.qual = d.qual ∧ F.params = d.params ∧ F.body = d.body ∧ F.scope = d.scope ∧ SupFn P K (d.at_ K) F (ga K d.cls) [] fd := by
  obtain ⟨kp, c2⟩ := He.ba c
  unfold fnS at e
  cases q : K.lookup (d.at_ K) with
  | none => rw [q] at c2; cases c2
  | some o =>
    obtain ⟨oc, od, dt, osl⟩ := o
    rw [q] at c2 e
    cases dt with
    | func fd =>
      obtain ⟨n1, n2, n3, n4, n5, n6, n7, n8, n9, n10, n11, n12, n13, n14, n15⟩ := fd
      have e2 : (some (n1, n2, n3, n4, n5, n6, n7.map (·.1), n15) : FnS) = (some (d.name, d.qual, d.params, FuncBody.stmts d.body, d.scope, mainGlobals, ["__class__"], builtinsNs) : FnS) := e
      simp only [Option.some.injEq, Prod.mk.injEq] at e2
      obtain ⟨h1, h2, h3, h4, h5, h6, h7, h8⟩ := e2
      obtain ⟨k1, c3⟩ := He.ba c2
      obtain ⟨k2, c4⟩ := He.ba c3
      obtain ⟨k3, k4⟩ := He.ba c4
      clear c4 c3 c2 e c
      obtain _ | ⟨⟨xc, cc⟩, _ | ⟨b, r⟩⟩ := n7
      · cases h7
      · simp only [List.map_cons, List.map_nil, List.cons.injEq, and_true] at h7
        subst h7
        simp only at k1 k2 k4
        split at k1
        · rename_i c1 c2 D c3 hc
          have k1' := of_decide_eq_true k1
          clear k1
          split at k2
          · split at k4
            · rename_i c
              obtain ⟨k5, k6⟩ := He.ba k4
              clear k4 k2
              split at k6
              · rename_i a1 a2 vs a3 hcc
                split at k6
                · rename_i fl tf hvs
                  subst h1 h2 h3 h4 h5 h6 h8
                  obtain ⟨cdD, hcd⟩ := Option.isSome_iff_exists.mp k3
                  subst k1'
                  exact ⟨⟨d.name, d.qual, d.params, d.body, d.scope, [("__class__", cc)], _⟩, _, rfl, rfl, rfl, rfl, rfl, ⟨⟨cc, oc, od, _, _, _, _, _, _, osl, rfl, rfl, q, .inl ⟨rfl, rfl⟩, _, _, _, hc⟩, k5, ⟨_, _, vs, _, fl, tf, hcc, hvs, k6⟩, ⟨cdD, hcd⟩, top, kp⟩⟩
                · cases k6
              · cases k6
            · cases k4
          · cases k2
        · cases k1
      · cases h7
    | _ => cases c2
/-! ### a def, wherever it stands -/
structure XD where
  at_ : PySem.W.Frag → Addr
  name : Str
  qual : Str
  params : Arguments
  body : List Stmt
  scope : Scope
  dfl : List Dv := []
  kwd : List (Str × Dv) := []
def XD.val (d : XD) : FnS := some (d.name, d.qual, d.params, .stmts d.body, d.scope, mainGlobals, ([] : List Str), builtinsNs)
def XD.vs (K : PySem.W.Frag) (d : XD) : List V := d.dfl.map fun z => Dv.v K z
def XD.ks (K : PySem.W.Frag) (d : XD) : List (Str × V) := d.kwd.map fun z => (z.1, z.2.v K)
def XD.ok (K : PySem.W.Frag) (d : XD) : Bool := PySem.W.keepIn K (.ref (d.at_ K)) && (match K.lookup (d.at_ K) with
  | some ⟨_, _, .func fd, _⟩ => dflB K fd.defaults (d.vs K) && (kwdB K fd.kwdefaults (d.ks K) && PySem.W.codeIn K fd.code d.qual)
  | _ => false)
theorem XD.fn {K : PySem.W.Frag} {d : XD} (e : fnS K (d.at_ K) = d.val) (c : d.ok K = true) : ∃ fd, FunD K d.name d.qual d.params d.body d.scope (d.vs K) (d.ks K) (d.at_ K) fd := by
  obtain ⟨kp, c1⟩ := He.ba c
  unfold fnS at e
  cases lk : K.lookup (d.at_ K) with
  | none => rw [lk] at c1; cases c1
  | some o =>
    obtain ⟨o1, o2, dt, o4⟩ := o
    rw [lk] at c1 e
    cases dt with
    | func fd =>
      obtain ⟨m1, m2, m3, m4, m5, m6, m7, m8, m9, m10, m11, m12, m13, m14, m15⟩ := fd
      have e2 : (some (m1, m2, m3, m4, m5, m6, m7.map (·.1), m15) : FnS) = (some (d.name, d.qual, d.params, FuncBody.stmts d.body, d.scope, mainGlobals, ([] : List Str), builtinsNs) : FnS) := e
      simp only [Option.some.injEq, Prod.mk.injEq] at e2
      obtain ⟨z1, z2, z3, z4, z5, z6, z7, z8⟩ := e2
      obtain ⟨y1, y2⟩ := He.ba c1
      obtain ⟨y3, y4⟩ := He.ba y2
      have z7 : m7 = [] := List.map_eq_nil_iff.mp z7
      subst z1 z2 z3 z4 z5 z6 z7 z8
      exact ⟨_, ⟨o1, o2, m8, m9, m10, m11, m12, m13, m14, o4, rfl, lk, y4, dflB_ok y1, kwdB_ok y3⟩, kp⟩
    | _ => cases c1
/-- a property's getter -/
def prA (K : PySem.W.Frag) (C : Addr) (f : Str) : Addr := match PySem.W.recIn K (ma K C f) "property" with
  | some (.ref g :: _) => g
  | _ => 0
def bPrp (x f : Str) : BF := fun K => eqO (PySem.W.findIn K (.ref (ga K x)) f) (some (some (.ref (ma K (ga K x) f)))) && (eqO (PySem.W.specialIn K (.ref (ma K (ga K x) f)) "__get__") (some (some (.builtin "property.__get__"))) &&
  (decide (PySem.W.takesIn K (.ref (ma K (ga K x) f)) = some true) && (match PySem.W.recIn K (ma K (ga K x) f) "property" with
    | some (.ref _ :: _) => true
    | _ => false)))
theorem prp_of {K : PySem.W.Frag} {x f : Str} (c : bPrp x f K = true) : PropOf K (ga K x) f (ma K (ga K x) f) (prA K (ga K x) f) := by
  obtain ⟨c1, c⟩ := He.ba c
  obtain ⟨c2, c⟩ := He.ba c
  obtain ⟨c3, c4⟩ := He.ba c
  refine ⟨eqO_ok c1, eqO_ok c2, of_decide_eq_true c3, ?_⟩
  split at c4
  · rename_i g r e
    refine ⟨r, ?_⟩
    unfold prA
    rw [e]
  · cases c4
abbrev AlX : Type := Bool × List FnS × List FnS
def obsX (file : Str) (fa : List BF) (fn : List XD) (sn : List SupD) (K : PySem.W.Frag) : AlX := ((fa.all fun f => f K) && (fn.all (fun d => d.ok K) && sn.all fun d => d.ok file K), fn.map (fun d => fnS K (d.at_ K)), sn.map fun d => fnS K (d.at_ K))
def valX (fn : List XD) (sn : List SupD) : AlX := (true, fn.map XD.val, sn.map SupD.val)
def SaysX (file : Str) (fa : List BF) (fn : List XD) (sn : List SupD) (K : PySem.W.Frag) : Prop := obsX file fa fn sn K = valX fn sn
def asX (g : Addr → Option Obj) (n : Nat) : List Addr := asD g n ++ [cStatics]
def obsXG (n : Nat) (file : Str) (fa : List BF) (fn : List XD) (sn : List SupD) (g : Addr → Option Obj) : AlX := obsX file fa fn sn (frG g (asX g n))
def hookX (n : Nat) (file : Str) (fa : List BF) (fn : List XD) (sn : List SupD) : PySem.W.Hook where
  α := AlX
  obs := fun s => obsXG n file fa fn sn s.heap.get?
  val := fun _ => valX fn sn
  says := fun _ h => ∃ K : PySem.W.Frag, K.In h ∧ SaysX file fa fn sn K
  of := fun _ _ e => ⟨_, frG_in, e⟩
  keeps := fun _ _ _ ⟨K, hK, c⟩ k => ⟨K, PySem.W.Frag.In.keeps hK k, c⟩
theorem obsXG_eq {n : Nat} {file : Str} {fa : List BF} {fn : List XD} {sn : List SupD} {g : Addr → Option Obj} {s : Shared} (h : ∀ a, g a = s.heap.get? a) : obsXG n file fa fn sn g = (hookX n file fa fn sn).obs s := by
  have e : g = s.heap.get? := funext h
  rw [e] <;> rfl
section
variable {file : Str} {fa : List BF} {fn : List XD} {sn : List SupD} {K : PySem.W.Frag}
theorem SaysX.fact (c : SaysX file fa fn sn K) (i : Nat) {f : BF} (h : fa[i]? = some f := by rfl) : f K = true := by
  have c1 := (He.ba (show ((fa.all fun f => f K) && (fn.all (fun d => d.ok K) && sn.all fun d => d.ok file K)) = true from congrArg (fun z : AlX => z.1) c)).1
  exact List.all_eq_true.mp c1 f (List.mem_of_getElem? h)
theorem SaysX.def_ (c : SaysX file fa fn sn K) (i : Nat) {d : XD} (h : fn[i]? = some d := by rfl) : ∃ fd, FunD K d.name d.qual d.params d.body d.scope (d.vs K) (d.ks K) (d.at_ K) fd := by
  have c2 := (He.ba (He.ba (show ((fa.all fun f => f K) && (fn.all (fun d => d.ok K) && sn.all fun d => d.ok file K)) = true from congrArg (fun z : AlX => z.1) c)).2).1
  have e : fn.map (fun d => fnS K (d.at_ K)) = fn.map XD.val := congrArg (fun z : AlX => z.2.1) c
  have e2 : (fn.map fun d => fnS K (d.at_ K))[i]? = (fn.map XD.val)[i]? := by rw [e]
  rw [List.getElem?_map, List.getElem?_map, h] at e2
  exact XD.fn (Option.some.inj e2) (List.all_eq_true.mp c2 d (List.mem_of_getElem? h))
theorem SaysX.sup {P : Program} (c : SaysX P.main.file fa fn sn K) (i : Nat) (top : (P.main.scope.names.lookup ("super" : Str)).isSome = false) {d : SupD} (h : sn[i]? = some d := by rfl) :
    ∃ (F : NdefX.NF) (fd : FuncData), F.name = d.name ∧ F.qual = d.qual ∧ F.params = d.params ∧ F.body = d.body ∧ F.scope = d.scope ∧ SupFn P K (d.at_ K) F (ga K d.cls) [] fd := by
  have c2 := (He.ba (He.ba (show ((fa.all fun f => f K) && (fn.all (fun d => d.ok K) && sn.all fun d => d.ok P.main.file K)) = true from congrArg (fun z : AlX => z.1) c)).2).2
  have e : sn.map (fun d => fnS K (d.at_ K)) = sn.map SupD.val := congrArg (fun z : AlX => z.2.2) c
  have e2 : (sn.map fun d => fnS K (d.at_ K))[i]? = (sn.map SupD.val)[i]? := by rw [e]
  rw [List.getElem?_map, List.getElem?_map, h] at e2
  exact SupD.fn (Option.some.inj e2) (List.all_eq_true.mp c2 d (List.mem_of_getElem? h)) top
end
/-- a law's end -/
theorem walk_ofX {l : PySem.W.OpenLaw} {n k : Nat} {q : Program} {loose : List Str} {XP : (Str → Option Value) → Heap → Prop} {YP : World → Heap → Prop} {d : DefRec} {x : Str}
    (hn : l.most = some n) (hn2 : n ≤ sizeLine) (hdf : d.params.defaults = []) (hr : Room k callerA)
    (F : ∀ (w : World) (mg : Str → Option Value) (fa : Addr) (h : Heap), YP w h → h.Ns mainGlobals mg → mg d.name = some (.ref fa) →
      ∃ (K : PySem.W.Frag) (fd : FuncData) (sp : Sp), K.In h ∧ (∀ (s : Shared) (u : Value), BindsTo s fd ⟨[u], []⟩ [(x, u)]) ∧
        (∀ (H : Hp) (a : Addr) (ns : List Int), ns.length ≤ n → Only H → SqL K H a (ns.map V.int) → sp [.ref a] H (fun v _ => v = .bl true) fun _ _ _ => False) ∧
        ∀ base : Heap, K.In base → base.Ns mainGlobals mg → FnOk l.prog w K mg base (L2.CX l.prog w) k fa fd [x] sp) :
    PySem.W.WalkO q loose XP YP l.row.toRowW d [] (fun f vs => PySem.call f vs) := by
  refine Att.attach_call hn hdf fun w s₀ s₁ mg mb fa o pm cd doc a vs ns G Y ho hd hcd hmg hobj hints hlen hg => ?_
  obtain ⟨K, fd, sp, KX, hb, hsp, hF⟩ := F w mg fa _ Y G.T.g hmg
  exact law_call KX G.T.g G.T.b G.T.builtins G.T.nolimit hg hobj hints (Nat.le_trans hlen hn2) hr hF hb (fun H hO hS => hsp H a ns hlen hO hS) fun H e s' ⟨_, _, _, _, _, _, _, _, _, _, _, _, z⟩ => z
end Ta

set_option Elab.async false
set_option linter.all false
set_option maxRecDepth 100000
set_option maxHeartbeats 1000000
namespace Ta
open PySem PySem.Spec PyProof.Rows L2

/-! ### is, is not: None, truth values -/
def zIsB : R2 := fun x y H Q => match y with
  | .non => Q (.bl (decide (x = .non))) H
  | .bl b => (match x with
    | .bl a => Q (.bl (decide (a = b))) H
    | _ => False)
  | _ => False
def zIsnB : R2 := fun x y H Q => match y with
  | .non => Q (.bl (!decide (x = .non))) H
  | .bl b => (match x with
    | .bl a => Q (.bl (!decide (a = b))) H
    | _ => False)
  | _ => False
section
variable {X : Cx}
theorem opisb : OpR X (compareOp .Is) zIsB := by
  intro pins s σ H x y v u Q I rx ry h
  cases y with
  | non => exact op_isN pins s σ H _ _ v u Q I rx ry ⟨rfl, h⟩
  | bl b => cases x with
    | bl a => exact op_is_bl pins s σ H _ _ v u Q I rx ry ⟨a, b, rfl, rfl, h⟩
    | _ => exact False.elim h
  | _ => exact False.elim h
theorem opisnb : OpR X (compareOp .IsNot) zIsnB := by
  intro pins s σ H x y v u Q I rx ry h
  cases y with
  | non => exact op_notN pins s σ H _ _ v u Q I rx ry ⟨rfl, h⟩
  | bl b => cases x with
    | bl a => exact op_isnot_bl pins s σ H _ _ v u Q I rx ry ⟨a, b, rfl, rfl, h⟩
    | _ => exact False.elim h
  | _ => exact False.elim h
/-! ### o.f += e -/
def sAug (K : PySem.W.Frag) (ta tv : TE) (f : Str) (g : Int → Int → Int) : TS := fun D σ H => ta σ H fun x H1 => match x with
  | .ref a => look H1 a fun ob => (match ob with
    | some (.ins C dx fs) => Cls K C ∧ NoAttr K C f ∧ fld fs f fun v => match v with
      | .int i => tv σ H1 fun y H2 => (match y with
        | .int j => look H2 a fun ob' => (match ob' with
          | some (.ins C' dx' fs') => C' = C ∧ fs'.length < 1000 ∧ D.nx σ (upd H2 a (.ins C dx' (putF f (.int (g i j)) fs')))
          | _ => False)
        | _ => False)
      | _ => False
    | _ => False)
  | _ => False
theorem sAug_e {K : PySem.W.Frag} {tv : TE} {f : Str} {g : Int → Int → Int} {rd : V → V → Hp → VK → Prop} {D : Ends} {σ : St} {x : V} {H1 : Hp} (h : match x with
  | .ref a => look H1 a fun ob => (match ob with
    | some (.ins C dx fs) => Cls K C ∧ NoAttr K C f ∧ fld fs f fun v => match v with
      | .int i => tv σ H1 fun y H2 => (match y with
        | .int j => look H2 a fun ob' => (match ob' with
          | some (.ins C' dx' fs') => C' = C ∧ fs'.length < 1000 ∧ D.nx σ (upd H2 a (.ins C dx' (putF f (.int (g i j)) fs')))
          | _ => False)
        | _ => False)
      | _ => False
    | _ => False)
  | _ => False) (hrd : ∀ i j H Q, Q (.int (g i j)) H → rd (.int i) (.int j) H Q) (hm : ∀ σ H Q Q', (∀ v H, Q v H → Q' v H) → tv σ H Q → tv σ H Q') : ∃ a C dx fs v, x = .ref a ∧ H1 a = some (.ins C dx fs) ∧ Cls K C ∧ NoAttr K C f ∧ fs.lookup f = some v ∧
  tv σ H1 fun y H2 => rd v y H2 fun z H3 => ∃ dx' fs', H3 a = some (.ins C dx' fs') ∧ fs'.length < 1000 ∧ D.nx σ (upd H3 a (.ins C dx' (putF f z fs'))) := by
  cases x with
  | ref a =>
    have h := look_e h
    cases e : H1 a with
    | none => rw [e] at h; exact h.elim
    | some ob =>
      rw [e] at h
      cases ob with
      | ins C dx fs =>
        obtain ⟨h1, h2, h3⟩ := h
        obtain ⟨v, l, q⟩ := fld_e h3
        cases v with
        | int i =>
          refine ⟨a, C, dx, fs, _, rfl, e, h1, h2, l, hm _ _ _ _ (fun y H2 h => ?_) q⟩
          cases y with
          | int j =>
            have h := look_e h
            cases e2 : H2 a with
            | none => rw [e2] at h; exact h.elim
            | some ob2 =>
              rw [e2] at h
              cases ob2 with
              | ins C' dx' fs' =>
                obtain ⟨rfl, h5, h6⟩ := h
                exact hrd i j H2 _ ⟨dx', fs', e2, h5, h6⟩
              | _ => exact h.elim
          | _ => exact h.elim
        | _ => exact q.elim
      | _ => exact h.elim
  | _ => exact h.elim
theorem psaddC {o : Expr} {f : Str} {ta : TE} {n : Int} {j : Nat} {p1 tpos pos : Pos} (ha : PE X o ta) : PS X (.AugAssign (.Attribute o f tpos) .Add (.Constant (.int n) j p1) pos) (sAug X.K ta (tC (.int n)) f (· + ·)) := by
  refine ⟨fun pins s σ H D I h => ?_⟩
  refine wpAny_AugAssign_AttributeAny (thn (ha.run pins s σ H _ I h) fun ov s1 ⟨x, H1, I1, rx, q0⟩ => ?_)
  obtain ⟨a, C, dx, fs, v, ex, ea, c, n, l, q⟩ := sAug_e (rd := rAdd) (tv := tC (.int n)) (g := (· + ·)) q0 (fun i j H Q q => ⟨i, j, rfl, rfl, q⟩) (fun _ _ _ _ h q => h _ _ q)
  clear q0
  subst ex
  obtain rfl : ov = Value.ref a := rx
  refine getattr_ok I1 ea c n l fun u s2 I2 ru => thn (pe_int.run pins s2 σ H1 _ I2 q) fun w3 s3 ⟨y, H2, I3, ry, q3⟩ => thn (in_add pins s3 σ H2 v y u w3 _ I3 ru ry q3) fun w4 s4 ⟨z, H3, I4, rz, dx', fs', ea', l', q4⟩ => ?_
  exact setattr_ok I4 ea' c n l' rz fun s5 I5 => ⟨σ, _, I5, q4⟩
end
/-! ### a property -/
structure Pr (P : Program) (w : World) (K : PySem.W.Frag) (mg : Str → Option Value) (base : Heap) (C : Addr) (f : Str) (lv : Nat) (sp : Sp) : Prop where
  ex : ∃ (p g : Addr) (fd : FuncData) (ps : List Str), PropOf K C f p g ∧ FnOk P w K mg base (L2.CX P w) lv g fd ps sp ∧ Binds K fd ps []
  cl : Cls K C
def tPrp (C : Addr) (sp : Sp) (ta : TE) : TE := fun σ H Q => ta σ H fun x H1 => match x with
  | .ref a => look H1 a fun ob => (match ob with
    | some (.ins C' dx fs) => C' = C ∧ sp [.ref a] H1 Q fun _ _ _ => False
    | _ => False)
  | _ => False
section
variable {X : Cx} {e : Expr} {ta : TE} {C : Addr} {f : Str} {lv : Nat} {sp : Sp} {pos : Pos}
theorem pprp (F : Pr X.prog X.w X.K X.mg X.base C f lv sp) (hr : Room (lv + 1) X.A) (he : PE X e ta) (hab : attributeBase e f X.env (eval e X.env) = eval e X.env := by rfl) : PE X (.Attribute e f pos) (tPrp C sp ta) := by
  obtain ⟨p, g, fd, ps, hp, F1, hb⟩ := F.ex
  refine ⟨fun pins s σ H Q I h => ?_⟩
  refine attr_of hab (thn (he.run pins s σ H _ I h) fun u s1 ⟨x, H1, I1, rx, q⟩ => ?_)
  cases x with
  | ref a =>
    have q1 := look_e q
    clear q
    cases ea : H1 a with
    | none => rw [ea] at q1; exact q1.elim
    | some ob =>
      rw [ea] at q1
      cases ob with
      | ins C' dx fs =>
        obtain ⟨e2, q2⟩ := q1
        subst e2
        obtain rfl : u = Value.ref a := rx
        exact getprop_ok (E := fun _ _ _ => False) I1 ea F.cl hp F1 hr hb .nil (fun _ _ _ _ _ _ _ z => False.elim (let ⟨_, _, _, _, _, _, _, _, _, _, _, _, z⟩ := z; z)) q2
      | _ => exact q1.elim
  | _ => exact q.elim
end
/-! ### x = l[e], then known -/
section
variable {X : Cx} {pins : List (Addr × Obj)} {σ : St} {H : Hp} {s s' : Shared} {ff : List (Str × Value)}
/-- .. and a token is out -/
structure PEn (X : Cx) (e : Expr) (t : TE) : Prop where
  run : ∀ (pins : List (Addr × Obj)) (s : Shared) (σ : St) (H : Hp) (Q : VK), Inv X pins σ H s → t σ H Q → wpAny (model X.prog X.w) X.A (eval e X.env) (fun u s' => EP X pins σ Q u s' ∧ 1 ≤ s'.toks) X.xe s
structure PAn (X : Cx) (es : List Expr) (t : TA) : Prop where
  run : ∀ (pos : Pos) (pins : List (Addr × Obj)) (s : Shared) (σ : St) (H : Hp) (Q : List V → Hp → Prop), Inv X pins σ H s → t σ H Q → wpAny (model X.prog X.w) X.A (spliced (backTo pos (starEach es X.env))) (fun us s' => AP X pins σ Q us s' ∧ 1 ≤ s'.toks) X.xe s
theorem toks1 {α : Type} {t : Sem α} {Q : α → Shared → Prop} {E : Value → Shared → Prop} {M : Model} {A : Around} {s : Shared} (h1 : 1 ≤ s.toks) (h : wpAny M A t Q E s) : wpAny M A t (fun a s' => Q a s' ∧ 1 ≤ s'.toks) E s :=
  wpAny_mono (PySem.wpAny_toks_of h1 h) (fun _ _ z => ⟨z.2, z.1⟩) fun _ _ z => z.2
theorem pen_int {i : Int} {j : Nat} {pos : Pos} : PEn X (.Constant (.int i) j pos) (tC (.int i)) :=
  ⟨fun _ s _ H _ I h => wpAny_Constant_int ⟨⟨.int i, H, I.tok _, ⟨_, rfl⟩, h⟩, Nat.le_add_left 1 s.toks⟩⟩
theorem pen_op {op : Operator} {r : R2} {a b : Expr} {ta tb : TE} {pos : Pos} (ho : OpR X (binaryOp op) r) (ha : PEn X a ta) (hb : PE X b tb) : PEn X (.BinOp a op b pos) (tOp r ta tb) := by
  refine ⟨fun pins s σ H Q I h => wpAny_BinOp ?_⟩
  refine thn (ha.run pins s σ H _ I h) fun v s1 ⟨⟨x, H1, I1, r1, q1⟩, h1⟩ => ?_
  refine thn (toks1 h1 (hb.run pins s1 σ H1 _ I1 q1)) fun u s2 ⟨⟨y, H2, I2, r2, q2⟩, h2⟩ => ?_
  exact toks1 h2 (ho pins s2 σ H2 x y v u Q I2 r1 r2 q2)
theorem pan_hd {e : Expr} {es : List Expr} {te : TE} {t : TA} (ha : PEn X e te) (hr : PA X es t) (hs : starEach (e :: es) X.env = (false, eval e X.env) :: starEach es X.env := by rfl) : PAn X (e :: es) (tCons te t) := by
  refine ⟨fun pos pins s σ H Q I h => ?_⟩
  rw [hs]
  show wpAny _ _ (spliced ((false, eval e X.env) :: backTo pos (starEach es X.env))) _ _ s
  refine Calls.spliced_cons (thn (ha.run pins s σ H _ I h) fun u s1 ⟨⟨x, H1, I1, r1, q1⟩, h1⟩ => ?_)
  exact thn (toks1 h1 (hr.run pos pins s1 σ H1 _ I1 q1)) fun us s2 ⟨⟨xs, H2, I2, r2, q2⟩, h2⟩ => ⟨⟨x :: xs, H2, I2, .cons r1 r2, q2⟩, h2⟩
theorem pan_tl {e : Expr} {es : List Expr} {te : TE} {t : TA} (ha : PE X e te) (hr : PAn X es t) (hs : starEach (e :: es) X.env = (false, eval e X.env) :: starEach es X.env := by rfl) : PAn X (e :: es) (tCons te t) := by
  refine ⟨fun pos pins s σ H Q I h => ?_⟩
  rw [hs]
  show wpAny _ _ (spliced ((false, eval e X.env) :: backTo pos (starEach es X.env))) _ _ s
  refine Calls.spliced_cons (thn (ha.run pins s σ H _ I h) fun u s1 ⟨x, H1, I1, r1, q1⟩ => ?_)
  exact thn (hr.run pos pins s1 σ H1 _ I1 q1) fun us s2 ⟨⟨xs, H2, I2, r2, q2⟩, h2⟩ => ⟨⟨x :: xs, H2, I2, .cons r1 r2, q2⟩, h2⟩
theorem pen_lst {es : List Expr} {t : TA} {pos : Pos} (h : PAn X es t) : PEn X (.List es pos) (tLst t) := by
  refine ⟨fun pins s σ H Q I hq => ?_⟩
  refine wpAny_List_spliced (thn (h.run pos pins s σ H _ I hq) fun us s1 ⟨⟨xs, H1, I1, r, z, q⟩, h1⟩ => ⟨by rw [← r.length]; exact z, ?_⟩)
  have hf : H1 s1.heap.objs.size = none := I1.hok.fresh (Nat.le_refl _)
  refine ⟨⟨.ref s1.heap.objs.size, upd H1 s1.heap.objs.size (.lst xs), I1.laid (t' := s1.toks) (fun b u e => Heap.get?_push_of_some _ e) (Nat.le_refl _) ?_, rfl, q _ hf⟩, h1⟩
  exact ⟨z, us, 0, r, Heap.get?_push_size _ rfl⟩
theorem pen_ix {a b : Expr} {ta tb : TE} {pos : Pos} (ha : PEn X a ta) (hb : PE X b tb) (hs : PlainIx b := by exact fun _ _ => rfl) : PEn X (.Subscript a b pos) (tOp (zIxP X.K) ta tb) := by
  refine ⟨fun pins s σ H Q I h => Subscript_ ?_⟩
  refine thn (ha.run pins s σ H _ I h) fun v s1 ⟨⟨x, H1, I1, r1, q1⟩, h1⟩ => ?_
  refine thn (toks1 h1 (hb.run pins s1 σ H1 _ I1 q1)) fun u s2 ⟨⟨y, H2, I2, r2, q2⟩, h2⟩ => ?_
  exact toks1 h2 (ixp a b pins s2 σ H2 x y v u Q I2 r1 r2 q2 (hs _ _))
theorem pen_call {x : Str} {p pos : Pos} {e : Expr} {es : List Expr} {t : TA} {lv : Nat} {dvs : List V} {sp : Sp} {W : WX} (F : Fn X.prog X.w X.K X.mg X.base x lv dvs sp) (hr : Room lv X.A) (tk : Takes X W) (ha : PAn X (e :: es) t) (hg : Gl X x := by rfl) (hdb : (x == ("__debug__" : Str)) = false := by decide +kernel)
    (he : starEach (e :: es) X.env = (false, eval e X.env) :: starEach es X.env := by rfl) (hpl : (backTo pos (starEach es X.env)).any (·.1) = false := by rfl) :
    PEn X (.Call (.Name x p) (e :: es) [] pos) (tCal sp dvs W t) := by
  obtain ⟨f, fd, ps, ds, F, hm, hk, hd, hb⟩ := F.ex
  refine ⟨fun pins s σ H Q I h => ?_⟩
  refine wpAny_Call_Name_kw (ld_glob I hg hm ?_ hdb)
  refine PySem.W.callWith_K (h₀ := X.base) I.ok.mod.kin hk (thn (ha.run pos pins s σ H _ I h) fun us s1 ⟨⟨vs, H1, I1, r, q⟩, h1⟩ => ⟨I1.kIn, ?_⟩) he hpl
  exact toks1 h1 (run_fnSD (E := WE W) F hr hb hd (passAt tk σ) I1 r q)
def tIx (il : Nat) (te : TE) : TE := fun σ H Q => match σ[il]? with
  | some (some (.str z)) => Lim (tl z).length ∧ te σ H fun v H' => match v with
      | .int i => itm (tl z) i fun c => Q (.str (S [c])) H'
      | _ => False
  | _ => False
theorem pssk_ix {ix il : Nat} {x l : Str} {e : Expr} {te : TE} {rest : List Stmt} {u : TS} {px pos p1 p8 : Pos} (hN : X.N.Nodup) (he : PEn X e te) (hrest : PSsK X [x] rest u)
    (hNx : X.N[ix]? = some x := by rfl) (hkx : X.env.kindOf x = some .local := by rfl)
    (hNl : X.N[il]? = some l := by rfl) (hvl : Vis X.env.scope l := by first | exact Or.inl rfl | exact Or.inr (Or.inl rfl) | exact Or.inr (Or.inr rfl))
    (hdl : (l == ("__debug__" : Str)) = false := by decide +kernel) (hcl : (l == ("__classdict__" : Str)) = false := by decide +kernel)
    (hix : PlainIx e := by exact fun _ _ => rfl)
    (hs : swapsWith (.Subscript (.Name l p1) e p8) (some (.Name x px)) pos.line X.env = pure false := by rfl) :
    PSs X (.Assign [.Name x px] (.Subscript (.Name l p1) e p8) pos :: rest) (tSeq (tAsg (tIx il te) (gName ix)) u) := by
  refine ⟨fun pins s σ H D I h => ?_⟩
  have h : tIx il te σ H fun x H1 => u D (σ.set ix (some x)) H1 := h
  unfold tIx at h
  split at h
  · rename_i z e1
    obtain ⟨hlim, h⟩ := h
    refine wpAny_execs_cons (wpAny_Assign_Name (Subscript_ (raw_name hNl hvl I e1 (fun v r => ?_) hdl hcl)) hs)
    obtain ⟨tz, rfl⟩ := r
    refine thn (he.run pins s σ H _ I h) fun w s2 hq => ?_
    obtain ⟨⟨y, H2, I2, ry, q⟩, h1t⟩ := hq
    cases y with
    | int i =>
      obtain ⟨ti, rfl⟩ := ry
      obtain ⟨c, hat, q⟩ := itm_e q
      obtain ⟨j, h1, h2, h3, h4, h5⟩ := atI_get hat
      have hl : z.cps.toList.length = z.length := by simp [Str.length]
      have hn := line63
      have hz : z.length ≤ sizeLine := by rw [len_tl]; exact hlim
      rw [hl] at h1 h4 h5
      refine tail_any (typeIs_str s2 z tz) slot_str_getitem.lookup (getItem_str (c := c) (by
        have e1 : decide (i < -(2 ^ 63 : Int)) = false := decide_eq_false (by omega)
        have e2 : decide (i ≥ 2 ^ 63) = false := decide_eq_false (by omega)
        rw [e1, e2, Bool.or_false]) (by rw [h1]; simpa using h2) ?_) (hix _ _)
      have I3 := I2.tok (s2.toks + 1)
      refine store_F (v := .str (S [c])) (ff := []) I3 hN hNx hkx ⟨s2.toks, rfl⟩ (FT.nil I3) (fun e he => nomatch he) fun s3 I4 hF2 ht2 => ?_
      refine hrest.run pins s3 _ H2 D I4 ⟨_, hF2, rfl, fun e he => ?_, by simp⟩ q
      obtain rfl := List.mem_singleton.mp he
      exact ⟨S [c], s2.toks, rfl, h1t, by rw [ht2]; exact Nat.lt_succ_of_lt (Nat.lt_succ_self _)⟩
    | _ => exact False.elim q
  · exact h.elim
/-! ### x.replace(o, '') -/
def rpE (c : Nat) (l : List Nat) : List Nat := l.filter fun a => !decide (a = c)
theorem replL_rpE (c : Nat) : ∀ l : List Nat, StrLaws.replL [c] [] l = rpE c l
  | [] => StrLaws.replL_nil
  | a :: l => by
    by_cases h : a = c
    · subst h
      rw [StrLaws.replL_hit (by simp) (by simp)]
      show [] ++ StrLaws.replL [a] [] l = _
      rw [replL_rpE a l]
      simp [rpE]
    · rw [StrLaws.replL_miss (by simp [h]), replL_rpE c l]
      simp [rpE, h]
theorem repl_SE (x : Str) (c : Nat) : Txt.replace x (S [c]) (S []) = S (rpE c (tl x)) := by
  refine ext_tl ?_
  have e := StrLaws.replace_list (x := x) (y := S [c]) (z := S []) (by rw [len_tl]; exact Nat.le_refl 1)
  exact e.trans (replL_rpE c (tl x))
def tRpE (ix io : Nat) : TE := fun σ H Q => match σ[ix]? with
  | some (some (.str x)) => (match σ[io]? with
    | some (some (.str y)) => (match tl y with
      | [c] => (tl x).length ≤ 1000000 ∧ Q (.str (S (rpE c (tl x)))) H
      | _ => False)
    | _ => False)
  | _ => False
theorem tRpE_e {ix io : Nat} {Q : VK} (h : tRpE ix io σ H Q) : ∃ x c, σ[ix]? = some (some (.str x)) ∧ σ[io]? = some (some (.str (S [c]))) ∧ (tl x).length ≤ 1000000 ∧ Q (.str (S (rpE c (tl x)))) H := by
  unfold tRpE at h
  split at h
  · rename_i x e1
    split at h
    · rename_i y e2
      split at h
      · rename_i c ey
        exact ⟨x, c, e1, by rw [e2, ← S_tl y, ey], h⟩
      · exact h.elim
    · exact h.elim
  · exact h.elim
theorem pek_replE {ns : List Str} {ix io : Nat} {x o : Str} {j : Nat} {p1 p2 p3 apos pos : Pos} (hNx : X.N[ix]? = some x := by rfl) (hvx : Vis X.env.scope x := by first | exact Or.inl rfl | exact Or.inr (Or.inl rfl) | exact Or.inr (Or.inr rfl)) (hNo : X.N[io]? = some o := by rfl) (hko : X.env.kindOf o = some .local := by rfl)
    (ho : o ∈ ns := by decide +kernel) (hdx : (x == ("__debug__" : Str)) = false := by decide +kernel) (hcx : (x == ("__classdict__" : Str)) = false := by decide +kernel) (hdo : (o == ("__debug__" : Str)) = false := by decide +kernel)
    (hst : starEach [.Name o p2, .Constant (.str (S [])) j p3] X.env = [(false, eval (.Name o p2) X.env), (false, eval (.Constant (.str (S [])) j p3) X.env)] := by rfl)
    (hbase : attributeBase (.Name x p1) "replace" X.env (eval (.Name x p1) X.env) = eval (.Name x p1) X.env := by rfl) (hline : (apos.endLine == pos.line) = true := by rfl) :
    PEK X ns (.Call (.Attribute (.Name x p1) "replace" apos) [.Name o p2, .Constant (.str (S [])) j p3] [] pos) (tRpE ix io) := by
  refine ⟨fun pins s σ H Q I k h => ?_⟩
  obtain ⟨z, c, e1, e2, hb, q⟩ := tRpE_e h
  obtain ⟨ff, hF, hns, htok, hnd⟩ := k
  refine wpAny_mono (wpAny_toks (Q := fun u s' => EP X pins σ Q u s' ∧ ∃ k : Nat, s' = { s with toks := k }) (PySem.Call_method2 hbase hst hline (raw_name hNx hvx I e1 (fun v r => ?_) hdx hcx))) (fun u s' hq => ?_) fun _ _ z => z.2
  · obtain ⟨tx, rfl⟩ := r
    refine ⟨"str", _, F.plainAttrs_str, F.slot_str_replace, F.type_str_replace, typeIs_str _ _ _, (fun _ e => nomatch e), Calls.callWith_builtin rfl (Calls.evalArgs_plain (Calls.spliced_cons ?_))⟩
    refine tk_name hF hns htok ho hNo hko I e2 (fun t h1 h2 hm1 => ?_) hdo
    refine Calls.spliced_cons (Calls.Constant_str ?_)
    refine Calls.spliced_nil ?_
    refine PySem.SC.replace (show t ≠ (0 : Nat) from by omega) (show s.toks ≠ (0 : Nat) from by omega) (show t ≠ s.toks from by omega) (by simp only [beq_eq_false_iff_ne]; exact fun z => absurd (congrArg (fun y : Str => (tl y).length) z) (show ¬ (1 = 0) by decide)) (by
      have : (S []).length = 0 := by rw [len_tl]; rfl
      rw [this, len_tl]; omega) fun t' k => ⟨⟨.str (S (rpE c (tl z))), H, I.tok k, ⟨t', by rw [repl_SE]⟩, q⟩, k, rfl⟩
  · obtain ⟨hle, he, k, rfl⟩ := hq
    exact ⟨he, ff, hF, hns, fun e he => (let ⟨x, t, a, b, c⟩ := htok e he; ⟨x, t, a, b, Nat.lt_of_lt_of_le c hle⟩), hnd⟩
end
end Ta

set_option Elab.async false
set_option linter.all false
set_option maxRecDepth 100000
set_option maxHeartbeats 1000000
namespace Ta
open PySem PySem.Spec PyProof.Rows L2

/-! ### the part ahead of a sign -/
def bef (c : Nat) (l : List Nat) : List Nat := l.takeWhile fun a => !decide (a = c)
def fnd (c : Nat) (l : List Nat) : Int := if c ∈ l then ((bef c l).length : Int) else -1
theorem bef_at {c : Nat} : ∀ {l : List Nat} {i : Nat}, l[i]? = some c → (∀ k, k < i → ¬ l[k]? = some c) → (bef c l).length = i ∧ l.take i = bef c l
  | [], i, h, _ => by simp at h
  | a :: l, 0, h, _ => by
    have e : a = c := by simpa using h
    subst e
    simp [bef]
  | a :: l, i + 1, h, hk => by
    have e : ¬ a = c := fun z => hk 0 (Nat.succ_pos _) (by simp [z])
    obtain ⟨h1, h2⟩ := bef_at (l := l) (i := i) (by simpa using h) fun k hk' => by
      have := hk (k + 1) (by omega)
      simpa using this
    have e2 : bef c (a :: l) = a :: bef c l := by simp [bef, e]
    rw [e2]
    exact ⟨by simp [h1], by simp [h2]⟩
theorem bef_no {c : Nat} : ∀ {l : List Nat}, ¬ c ∈ l → bef c l = l
  | [], _ => rfl
  | a :: l, h => by
    have e : ¬ a = c := fun z => h (by simp [z])
    have e2 : bef c (a :: l) = a :: bef c l := by simp [bef, e]
    rw [e2, bef_no fun z => h (List.mem_cons_of_mem _ z)]
theorem bef_le (c : Nat) (l : List Nat) : (bef c l).length ≤ l.length := (List.takeWhile_sublist _).length_le
theorem at_one (l : List Nat) (c i : Nat) : StrLaws.At (S l) (S [c]) (S l).length i ↔ l[i]? = some c := StrLaws.subAt_one (S l) c i
theorem find_one (l : List Nat) (c : Nat) : Txt.find (S l) (S [c]) = fnd c l := by
  unfold fnd
  rcases find_whole (S l) (S [c]) with ⟨h1, h2⟩ | ⟨i, h1, h2, h3⟩
  · rw [h1, if_neg]
    intro hm
    obtain ⟨i, hi⟩ := List.mem_iff_getElem?.mp hm
    exact h2 i ((at_one l c i).mpr hi)
  · have hi := (at_one l c i).mp h2
    rw [h1, if_pos (List.mem_iff_getElem?.mpr ⟨i, hi⟩), (bef_at hi fun k hk z => h3 k hk ((at_one l c k).mpr z)).1]
theorem part_one (l : List Nat) (c : Nat) : (Txt.partition (S l) (S [c])).1 = S (bef c l) := by
  have hf := find_one l c
  unfold Txt.find at hf
  unfold Txt.partition
  revert hf
  cases e : Builtin.Str.occurrences (S l) (S [c]) 0 (S l).length 1 with
  | nil =>
    intro hf
    have hn : ¬ c ∈ l := fun z => by
      unfold fnd at hf
      rw [if_pos z] at hf
      have hf : (-1 : Int) = ((bef c l).length : Int) := hf
      omega
    rw [bef_no hn]
  | cons i r =>
    intro hf
    have hf : (i : Int) = fnd c l := hf
    unfold fnd at hf
    by_cases hm : c ∈ l
    · rw [if_pos hm] at hf
      have e2 : i = (bef c l).length := by omega
      refine ext_tl ?_
      have e3 : bef c l = l.take (bef c l).length := List.prefix_iff_eq_take.mp (List.takeWhile_prefix _)
      show ((S l).cps.extract 0 i).toList = bef c l
      rw [Array.toList_extract, e2]
      simp
      exact e3.symm
    · rw [if_neg hm] at hf; omega
section
variable {X : Cx}
def zFind : V → List V → Hp → VK → Prop := fun x xs H Q => match x with
  | .str a => one xs fun y => (match y with
    | .str b => (match tl b with
      | [c] => Q (.int (fnd c (tl a))) H
      | _ => False)
    | _ => False)
  | _ => False
theorem mtfind : MtR X "str.find" zFind := mt_imp mt_find fun x xs H Q h => by
  cases x with
  | str a =>
    obtain ⟨y, rfl, h⟩ := one_e h
    cases y with
    | str b =>
      have h : (match tl b with
        | [c] => Q (.int (fnd c (tl a))) H
        | _ => False) := h
      split at h
      · rename_i c e
        refine ⟨a, b, rfl, rfl, ?_⟩
        have := find_one (tl a) c
        rw [S_tl, ← e, S_tl] at this
        rw [this]; exact h
      · exact h.elim
    | _ => exact h.elim
  | _ => exact h.elim
/-- of its parts the first one is told -/
def zPartition : V → List V → Hp → VK → Prop := fun x xs H Q => match x with
  | .str a => one xs fun y => (match y with
    | .str b => (match tl b with
      | [c] => Lim (tl a).length ∧ ∀ p y1 y2, H p = none → Q (.ref p) (upd H p (.tup [.str (S (bef c (tl a))), .str y1, .str y2]))
      | _ => False)
    | _ => False)
  | _ => False
theorem mtpart : MtR X "str.partition" zPartition := mt_imp mt_partition fun x xs H Q h => by
  cases x with
  | str a =>
    obtain ⟨y, rfl, h⟩ := one_e h
    cases y with
    | str b =>
      have h : (match tl b with
        | [c] => Lim (tl a).length ∧ ∀ p y1 y2, H p = none → Q (.ref p) (upd H p (.tup [.str (S (bef c (tl a))), .str y1, .str y2]))
        | _ => False) := h
      split at h
      · rename_i c e
        refine ⟨a, b, rfl, rfl, by rw [len_tl, e]; rfl, by rw [len_tl]; exact h.1, fun p hp => ?_⟩
        have := part_one (tl a) c
        rw [S_tl, ← e, S_tl] at this
        rw [this]; exact h.2 p _ _ hp
      · exact h.elim
    | _ => exact h.elim
  | _ => exact h.elim
/-- list(x) -/
def zList (K : PySem.W.Frag) : List V → Hp → VK → Prop := fun xs H Q => one xs fun x => match x with
  | .ref p => look H p fun o => (match o with
    | some (.lst ys) => ∀ l, H l = none → Q (.ref l) (upd H l (.lst ys))
    | some (.tup ys) => ∀ l, H l = none → Q (.ref l) (upd H l (.lst ys))
    | some (.frz _ (.lst ys)) => ∀ l, H l = none → Q (.ref l) (upd H l (.lst ys))
    | _ => False)
  | _ => False
theorem crlist : CallR X (.type "list") (zList X.K) := cr_imp call_list_of fun xs H Q h => by
  obtain ⟨x, rfl, h⟩ := one_e h
  cases x with
  | ref p =>
    have h := look_e h
    cases e : H p with
    | none => rw [e] at h; exact h.elim
    | some o =>
      rw [e] at h
      cases o with
      | lst ys => exact ⟨p, ys, rfl, .inl (SqL.of e), h⟩
      | tup ys => exact ⟨p, ys, rfl, .inr (SqT.of e), h⟩
      | frz ob u =>
        cases u with
        | lst ys => exact ⟨p, ys, rfl, .inl (.inl (.inr ⟨_, e⟩)), h⟩
        | _ => exact h.elim
      | _ => exact h.elim
  | _ => exact h.elim
end
end Ta

set_option Elab.async false
set_option linter.all false
set_option maxRecDepth 100000
set_option maxHeartbeats 1000000
namespace Ta
open PySem PySem.Spec PyProof.Rows L2

/-! ### methods of lists -/
section
variable {X : Cx} {o e : Expr} {es : List Expr} {to : TE} {t : TA} {name : Str} {apos cpos : Pos} {T id : String}
abbrev RM := Addr → List V → Hp → VK → Prop
def lstAt (x : V) (H : Hp) (k : Addr → List V → Prop) : Prop := match x with
  | .ref p => look H p fun ob => (match ob with
    | some (.lst xs) => k p xs
    | _ => False)
  | _ => False
theorem lstAt_e {x : V} {H : Hp} {k : Addr → List V → Prop} (h : lstAt x H k) : ∃ p xs, x = .ref p ∧ H p = some (.lst xs) ∧ k p xs := by
  cases x with
  | ref p =>
    have h := look_e h
    cases e : H p with
    | none => rw [e] at h; exact h.elim
    | some ob =>
      rw [e] at h
      cases ob with
      | lst xs => exact ⟨p, xs, rfl, e, h⟩
      | _ => exact h.elim
  | _ => exact h.elim
def tLM (r : RM) (to : TE) (t : TA) : TE := fun σ H Q => to σ H fun x H1 => lstAt x H1 fun p _ => t σ H1 fun xs H2 => r p xs H2 Q
def tLM0 (r : RM) (to : TE) : TE := fun σ H Q => to σ H fun x H1 => lstAt x H1 fun p _ => r p [] H1 Q
def rOf (r : RM) : V → List V → Hp → VK → Prop := fun x vs H Q => ∃ p, x = .ref p ∧ r p vs H Q
theorem plm {r : RM} (slot : Slot "list" name id) (hty : typeOf (.builtin id) = pure (.type "method_descriptor")) (hm : MtR X id (rOf r)) (ho : PE X o to) (ha : PA X (e :: es) t)
    (hbase : attributeBase o name X.env (eval o X.env) = eval o X.env := by rfl)
    (hfew : ((backTo cpos (starEach (e :: es) X.env)).all (fun x => !x.1) && (backToKw cpos (keywordEach [] X.env)).all (fun x => x.1.isSome)
      && decide ((e :: es).length + ([] : List Keyword).length + (if ([] : List Keyword).isEmpty then 0 else 1) < 30)) = true := by rfl)
    (hline : (apos.endLine == cpos.line) = true := by rfl) (hs : starEach (e :: es) X.env = (false, eval e X.env) :: starEach es X.env := by rfl) (hplain : (backTo cpos (starEach es X.env)).any (·.1) = false := by rfl) :
    PE X (.Call (.Attribute o name apos) (e :: es) [] cpos) (tLM r to t) := by
  refine ⟨fun pins s σ H Q I h => ?_⟩
  refine wpAny_Call_method_late hbase hfew hline rfl (thn (ho.run pins s σ H _ I h) fun v s1 ⟨x, H1, I1, r1, q0⟩ => ?_)
  obtain ⟨p, xs, rfl, hp, q1⟩ := lstAt_e q0
  obtain ⟨h1, h2⟩ := tyV_is (T := "list") I1 r1 (.inl ⟨rfl, xs, SqL.of hp⟩)
  refine ⟨"list", id, PySem.F.plainAttrs_list, slot, hty, h1, h2, ?_⟩
  have hA := ha.run cpos pins s1 σ H1 _ I1 q1
  rw [hs] at hA ⊢
  refine Calls.callWith_builtin (by show (false || (backTo cpos (starEach es X.env)).any (·.1)) = false; rw [hplain] <;> rfl) (Calls.evalArgs_plain ?_)
  exact thn hA fun us s2 ⟨vs, H2, I2, r2, q2⟩ => hm pins s2 σ H2 _ vs v us Q I2 r1 r2 ⟨p, rfl, q2⟩
theorem plm0 {r : RM} (slot : Slot "list" name id) (hty : typeOf (.builtin id) = pure (.type "method_descriptor")) (hm : MtR X id (rOf r)) (ho : PE X o to)
    (hbase : attributeBase o name X.env (eval o X.env) = eval o X.env := by rfl) (hline : (apos.endLine == cpos.line) = true := by rfl) : PE X (.Call (.Attribute o name apos) [] [] cpos) (tLM0 r to) := by
  refine ⟨fun pins s σ H Q I h => ?_⟩
  refine wpAny_Call_method0_late hbase hline (thn (ho.run pins s σ H _ I h) fun v s1 ⟨x, H1, I1, r1, q0⟩ => ?_)
  obtain ⟨p, xs, rfl, hp, q1⟩ := lstAt_e q0
  obtain ⟨h1, h2⟩ := tyV_is (T := "list") I1 r1 (.inl ⟨rfl, xs, SqL.of hp⟩)
  exact ⟨"list", id, PySem.F.plainAttrs_list, slot, hty, h1, h2, Calls.callWith_builtin rfl (PySem.evalArgs_none (hm pins s1 σ H1 _ [] v [] Q I1 r1 .nil ⟨p, rfl, q1⟩))⟩
def lkl (H : Hp) (l : Addr) (k : List V → Prop) : Prop := look H l fun ob => match ob with
  | some (.lst xs) => k xs
  | _ => False
theorem lkl_e {H : Hp} {l : Addr} {k : List V → Prop} (h : lkl H l k) : ∃ xs, H l = some (.lst xs) ∧ k xs := by
  have h := look_e h
  cases e : H l with
  | none => rw [e] at h; exact h.elim
  | some ob =>
    rw [e] at h
    cases ob with
    | lst xs => exact ⟨xs, rfl, h⟩
    | _ => exact h.elim
def zAppP : RM := fun l vs H Q => one vs fun y => lkl H l fun xs => Lim (xs.length + 1) ∧ Q .non (upd H l (.lst (xs ++ [y])))
theorem mtapp : MtR X "list.append" (rOf zAppP) := mt_imp mt_append fun x vs H Q h => by
  obtain ⟨l, rfl, h⟩ := h
  obtain ⟨y, rfl, h⟩ := one_e h
  obtain ⟨xs, hl, h1, h2⟩ := lkl_e h
  exact ⟨l, xs, y, rfl, rfl, hl, h1, h2⟩
def zExtP : RM := fun l vs H Q => one vs fun y => match y with
  | .ref b => lkl H l fun xs => lkl H b fun zs => Lim (xs.length + zs.length) ∧ Q .non (upd H l (.lst (xs ++ zs)))
  | _ => False
theorem mtext : MtR X "list.extend" (rOf zExtP) := mt_imp mt_extend fun x vs H Q h => by
  obtain ⟨l, rfl, h⟩ := h
  obtain ⟨y, rfl, h⟩ := one_e h
  cases y with
  | ref b =>
    obtain ⟨xs, hl, h⟩ := lkl_e h
    obtain ⟨zs, hb, h1, h2⟩ := lkl_e h
    exact ⟨l, b, xs, zs, rfl, rfl, hl, hb, h1, h2⟩
  | _ => exact h.elim
def zPopP : RM := fun l vs H Q => match vs with
  | [] => lkl H l fun xs => itm xs ((xs.length : Int) - 1) fun y => Q y (upd H l (.lst xs.dropLast))
  | _ => False
theorem mtpop : MtR X "list.pop" (rOf zPopP) := mt_imp mt_pop fun x vs H Q h => by
  obtain ⟨l, rfl, h⟩ := h
  cases vs with
  | nil =>
    obtain ⟨xs, hl, h⟩ := lkl_e h
    obtain ⟨y, e, q⟩ := itm_e h
    obtain ⟨j, h1, h2, h3, h4, h5⟩ := atI_get e
    refine ⟨l, xs, y, rfl, rfl, hl, ?_, q⟩
    have : seqIndex? ((xs.length : Int) - 1) xs.length = some (xs.length - 1) := by
      have e : ((xs.length : Int) - 1) = ((xs.length - 1 : Nat) : Int) := by omega
      rw [e, PySem.StrLaws.seqIndex_nonneg (by omega) (by omega)]
      simp
    rw [this] at h1
    cases h1
    exact h2
  | cons a b => exact h.elim
def zPopAtP : RM := fun l vs H Q => one vs fun y => match y with
  | .int i => lkl H l fun xs => ∃ j, ixN xs.length i = some j ∧ Lim xs.length ∧ itm xs i fun y => Q y (upd H l (.lst (xs.eraseIdx j)))
  | _ => False
theorem mtpopat : MtR X "list.pop" (rOf zPopAtP) := mt_imp mt_popAt fun x vs H Q h => by
  obtain ⟨l, rfl, h⟩ := h
  obtain ⟨y, rfl, h⟩ := one_e h
  cases y with
  | int i =>
    obtain ⟨xs, hl, j, hj, hlim, h⟩ := lkl_e h
    obtain ⟨y, e, q⟩ := itm_e h
    obtain ⟨j', h1, h2, h3, h4, h5⟩ := atI_get e
    obtain ⟨h6, h7, h8, h9⟩ := ixN_seq hj
    rw [h6] at h1
    cases h1
    have hn := line63
    have hlim : xs.length ≤ sizeLine := hlim
    exact ⟨l, xs, i, j, y, rfl, rfl, hl, by omega, by omega, h6, h2, q⟩
  | _ => exact h.elim
def zRevP : RM := fun l vs H Q => match vs with
  | [] => lkl H l fun xs => Q .non (upd H l (.lst xs.reverse))
  | _ => False
theorem mtrev : MtR X "list.reverse" (rOf zRevP) := mt_imp mt_reverse fun x vs H Q h => by
  obtain ⟨l, rfl, h⟩ := h
  cases vs with
  | nil =>
    obtain ⟨xs, hl, h⟩ := lkl_e h
    exact ⟨l, xs, rfl, rfl, hl, h⟩
  | cons a b => exact h.elim
def zInsP : RM := fun l vs H Q => two vs fun x y => match x with
  | .int i => lkl H l fun xs => Lim (xs.length + 1) ∧ (0 ≤ i ∧ i < 1073741824) ∧ Q .non (upd H l (.lst (xs.take i.toNat ++ [y] ++ xs.drop i.toNat)))
  | _ => False
theorem mtins : MtR X "list.insert" (rOf zInsP) := mt_imp mt_insert fun x vs H Q h => by
  obtain ⟨l, rfl, h⟩ := h
  obtain ⟨x, y, rfl, h⟩ := two_e h
  cases x with
  | int i =>
    obtain ⟨xs, hl, h1, ⟨h2, h3⟩, q⟩ := lkl_e h
    exact ⟨l, xs, i, y, rfl, rfl, hl, h1, h2, by omega, q⟩
  | _ => exact h.elim
end
end Ta

set_option Elab.async false
set_option linter.all false
set_option maxRecDepth 100000
set_option maxHeartbeats 1000000
namespace Ta
open PySem PySem.Spec PyProof.Rows L2

theorem iteT {p q : Prop} (h : p) : if true = true then p else q := by rw [if_pos rfl]; exact h
theorem q_bl {Q : VK} {b c : Bool} {H : Hp} (e : b = c) (q : Q (.bl c) H) : Q (.bl b) H := by rw [e]; exact q
theorem q_v {Q : VK} {b c : V} {H : Hp} (e : b = c) (q : Q c H) : Q b H := by rw [e]; exact q
theorem q_H {Q : VK} {v : V} {H H' : Hp} (e : H = H') (q : Q v H') : Q v H := by rw [e]; exact q
theorem q_vH {Q : VK} {b c : V} {H H' : Hp} (e' : b = c) (e : H = H') (q : Q c H') : Q b H := by rw [e, e']; exact q
theorem Kp.get2 {p r : Addr} {H H' : Hp} {q : Addr} {o : HO} (a : Kp [p, r] H H') (h : H q = some o) (n : q ≠ p) (n2 : q ≠ r) : H' q = some o := a q o h fun z => by
  rcases List.mem_cons.mp z with z | z
  · exact n z
  · exact n2 (List.mem_singleton.mp z)
theorem ne_ho {H : Hp} {p q : Addr} {o o' : HO} (h : H p = some o) (h' : H q = some o') (n : o ≠ o') : p ≠ q := fun e => by
  subst e; rw [h] at h'; exact n (Option.some.inj h')
theorem cut_map {α β : Type} (f : α → β) (xs : List α) (lo hi : Option Int) : cut (xs.map f) lo hi = (cut xs lo hi).map f := by
  rw [← cut_eq0, ← cut_eq0]; unfold cut0; rw [List.length_map, ← List.map_drop, ← List.map_take]
theorem cut_one {α : Type} (xs : List α) (c : Nat) : cut xs (some (c : Int)) (some ((c : Int) + 1)) = (xs.drop c).take 1 := by
  have e : ((c : Int) + 1) = ((c + 1 : Nat) : Int) := by omega
  rw [e, cut_both, List.drop_take]
  congr 1; omega
theorem cut_fr1 {α : Type} (xs : List α) (c : Nat) : cut xs (some ((c : Int) + 1)) none = xs.drop (c + 1) := by
  have e : ((c : Int) + 1) = ((c + 1 : Nat) : Int) := by omega
  rw [e, cut_from]
theorem cut_t1 {α : Type} (xs : List α) : cut xs none (some (1 : Int)) = xs.take 1 := cut_to xs 1
/-- [e for x in xs], e pure -/
theorem lcp_M {n : Nat} {it : Itm} {st : Hp → Prop} {xs : List V} {i : Nat} {te : TE} {σ : St} {H1 : Hp} {Q : VK} {vs : List Nat} (hn : n = xs.length) (hit : ∀ k H x H', it k H x H' → H' = H ∧ xs[k]? = some x) (hst : ∀ D xs, H1 D = none → st (upd H1 D (.lst xs)))
    (f : V → V) (hl : xs.length < 1000000) (he : ∀ x D H' Q', H1 D = none → x ∈ xs → (∃ ys, H' = upd H1 D (.lst ys)) → Q' (f x) H' → te ((wipe σ vs).set i (some x)) H' Q')
    (hw : ∀ v, wipe ((wipe σ vs).set i v) vs = wipe σ vs) (q : ∀ D, H1 D = none → Q (.ref D) (upd H1 D (.lst (xs.map f)))) : lcp n it st (gName i) tYes te vs σ H1 Q := by
  subst hn
  refine lcp_i (fun D k H => H = upd H1 D (.lst ((xs.take k).map f))) (fun D hD => rfl) (fun D k H hD _ e => by rw [e]; exact hst D _ hD) ?_ ?_
  · rintro D k x H H' hD hk rfl hi
    obtain ⟨rfl, hc⟩ := hit _ _ _ _ hi
    refine ⟨hw _, ?_⟩
    unfold tYes; dsimp only
    rw [if_pos rfl]
    refine he x D _ _ hD (List.mem_of_getElem? hc) ⟨_, rfl⟩ ⟨_, upd_at, ?_, ?_⟩
    · rw [List.length_map, List.length_take, sizeLine_eq]; omega
    · rw [upd_tw, List.take_succ, hc]
      simp
  · rintro D H hD rfl
    rw [List.take_length]
    exact q D hD
/-- .. over a list that stands -/
theorem lcp_ML {xs : List V} {p : Addr} {i : Nat} {te : TE} {σ : St} {H1 : Hp} {Q : VK} {vs : List Nat} (hp : H1 p = some (.lst xs))
    (f : V → V) (hl : xs.length < 1000000) (he : ∀ x D H' Q', H1 D = none → x ∈ xs → (∃ ys, H' = upd H1 D (.lst ys)) → Q' (f x) H' → te ((wipe σ vs).set i (some x)) H' Q')
    (hw : ∀ v, wipe ((wipe σ vs).set i v) vs = wipe σ vs) (q : ∀ D, H1 D = none → Q (.ref D) (upd H1 D (.lst (xs.map f)))) : lcp xs.length (itL xs) (fun H' => H' p = some (.lst xs)) (gName i) tYes te vs σ H1 Q :=
  lcp_M rfl (fun k H x H' h => h) (fun D ys hD => upd_fr hD hp) f hl he hw q
/-- .. of a box that is drawn from: after k turns the box b(k) and the items -/
theorem lcp_B {n : Nat} {it : Itm} {st : Hp → Prop} {i : Nat} {te : TE} {σ : St} {H1 : Hp} {Q : VK} {vs : List Nat} (p : Addr) (hp : ∃ o, H1 p = some o) (Bx : HO → Prop) (P : V → Prop) (hb : ∀ o, H1 p = some o → Bx o) (hn : n < 1000000)
    (hit : ∀ k H x H', k < n → it k H x H' → H' = H) (hst : ∀ D xs o, H1 D = none → st (upd (upd H1 p o) D (.lst xs)))
    (he : ∀ k x D o ys Q', k < n → H1 D = none → D ≠ p → it k (upd (upd H1 p o) D (.lst ys)) x (upd (upd H1 p o) D (.lst ys)) → Bx o → (∀ v o', P v → Bx o' → Q' v (upd (upd (upd H1 p o) D (.lst ys)) p o')) → te ((wipe σ vs).set i (some x)) (upd (upd H1 p o) D (.lst ys)) Q')
    (hw : ∀ v, wipe ((wipe σ vs).set i v) vs = wipe σ vs) (q : ∀ D xs o, H1 D = none → D ≠ p → xs.length = n → (∀ v ∈ xs, P v) → Bx o → Q (.ref D) (upd (upd H1 p o) D (.lst xs))) : lcp n it st (gName i) tYes te vs σ H1 Q := by
  obtain ⟨o0, hp⟩ := hp
  refine lcp_i (fun D k H => ∃ xs o, xs.length = k ∧ (∀ v ∈ xs, P v) ∧ Bx o ∧ H = upd (upd H1 p o) D (.lst xs)) (fun D hD => ⟨[], o0, rfl, (fun _ z => nomatch z), hb _ hp, by rw [upd_self hp]⟩) (fun D k H hD _ e => by obtain ⟨xs, o, _, _, _, rfl⟩ := e; exact hst D _ _ hD) ?_ ?_
  · rintro D k x H H' hD hk ⟨xs, o, hl, hP, hB, rfl⟩ hi
    have e := hit _ _ _ _ hk hi
    subst e
    have hne : D ≠ p := fun e => by rw [e, hp] at hD; cases hD
    refine ⟨hw _, ?_⟩
    unfold tYes; dsimp only
    rw [if_pos rfl]
    refine he k x D o xs _ hk hD hne hi hB fun v o' hv hB' => ⟨xs, ?_, ?_, xs ++ [v], o', ?_, ?_, hB', ?_⟩
    · rw [upd_ne hne]; exact upd_at
    · rw [hl, sizeLine_eq]; omega
    · rw [List.length_append, hl]; rfl
    · intro w hw
      rcases List.mem_append.mp hw with h | h
      · exact hP w h
      · rw [List.mem_singleton.mp h]; exact hv
    · funext c
      unfold upd
      by_cases h1 : c = D
      · simp [h1, hne]
      · by_cases h2 : c = p
        · simp [h1, h2]
        · simp [h1, h2]
  · rintro D H hD ⟨xs, o, hl, hP, hB, rfl⟩
    have hne : D ≠ p := fun e => by rw [e, hp] at hD; cases hD
    exact q D xs o hD hne hl hP hB
theorem inV_str (a : Str) (l : List Str) : inV (.str a) (l.map V.str) = decide (a ∈ l) := by
  unfold inV
  induction l with
  | nil => rfl
  | cons b l ih =>
    rw [List.map_cons, List.any_cons, ih]
    show ((b == a) || decide (a ∈ l)) = _
    by_cases h : b = a
    · subst h; simp
    · have h2 : ¬ a = b := fun e => h e.symm
      simp [h, h2]
theorem inV2 (a b c : List Nat) : inV (.str (S a)) [.str (S b), .str (S c)] = (decide (a = b) || decide (a = c)) := by
  show inV (.str (S a)) ([S b, S c].map V.str) = _
  rw [inV_str]
  have e : ∀ x y : List Nat, (S x = S y) ↔ x = y := fun x y => ⟨fun h => congrArg tl h, fun h => by rw [h]⟩
  rw [← Bool.decide_or, decide_eq_decide]
  simp [e]
theorem loop_r {n : Nat} {lo : Int} {g : Nat} {tb : TS} {D : Ends} {σ : St} {H : Hp} (Pv : Nat → St → Hp → Prop) (h0 : Pv 0 σ H)
    (hs : ∀ i σ H, i < n → Pv i σ H → tb { D with nx := Pv (i + 1), ct := Pv (i + 1), bk := D.nx } (σ.set g (some (.int (lo + i)))) H) (hd : ∀ σ H, Pv n σ H → D.nx σ H) : loop n (itR lo) (fun _ => True) (gName g) tb D σ H := by
  refine loop_i Pv h0 (fun _ _ _ _ _ => trivial) ?_ hd
  rintro i x σ H H' hi hP ⟨rfl, rfl⟩
  exact hs i σ H' hi hP
theorem loop_s {l : List Nat} {g : Nat} {tb : TS} {D : Ends} {σ : St} {H : Hp} (Pv : Nat → St → Hp → Prop) (h0 : Pv 0 σ H)
    (hs : ∀ i (hi : i < l.length) σ H, Pv i σ H → tb { D with nx := Pv (i + 1), ct := Pv (i + 1), bk := D.nx } (σ.set g (some (.str (S [l[i]])))) H) (hd : ∀ σ H, Pv l.length σ H → D.nx σ H) : loop l.length (itS l) (fun _ => True) (gName g) tb D σ H := by
  refine loop_i Pv h0 (fun _ _ _ _ _ => trivial) ?_ hd
  rintro i x σ H H' hi hP ⟨rfl, c, hc, rfl⟩
  have e : c = l[i] := by rw [List.getElem?_eq_getElem hi] at hc; exact (Option.some.inj hc).symm
  subst e
  exact hs i hi σ H' hP
end Ta

set_option Elab.async false
set_option linter.all false
set_option maxRecDepth 100000
set_option maxHeartbeats 1000000
namespace Ta
open PySem PySem.Spec PyProof.Rows L2

/-- [e for x in cells], e a whole number by x -/
theorem lcp_I {cs : List Int} {p : Addr} {i : Nat} {te : TE} {σ : St} {H1 : Hp} {Q : VK} {vs : List Nat} (hp : H1 p = some (.lst (cs.map V.int)))
    (g : Int → Int) (hl : cs.length < 1000000) (he : ∀ c D H' Q', H1 D = none → c ∈ cs → (∃ ys, H' = upd H1 D (.lst ys)) → Q' (.int (g c)) H' → te ((wipe σ vs).set i (some (.int c))) H' Q')
    (hw : ∀ v, wipe ((wipe σ vs).set i v) vs = wipe σ vs) (q : ∀ D, H1 D = none → Q (.ref D) (upd H1 D (.lst ((cs.map g).map V.int)))) : lcp (cs.map V.int).length (itL (cs.map V.int)) (fun H' => H' p = some (.lst (cs.map V.int))) (gName i) tYes te vs σ H1 Q := by
  refine lcp_ML hp (fun v => match v with
    | .int c => .int (g c)
    | v => v) (by rw [List.length_map]; exact hl) ?_ hw ?_
  · rintro x D H' Q' hD hx hH hQ
    obtain ⟨c, hc, rfl⟩ := List.mem_map.mp hx
    exact he c D H' Q' hD hc hH hQ
  · intro D hD
    have e : (cs.map V.int).map (fun v => match v with
      | .int c => V.int (g c)
      | v => v) = (cs.map g).map V.int := by rw [List.map_map, List.map_map]; rfl
    rw [e]
    exact q D hD
/-- for x in a list that stands -/
theorem loop_l {xs : List V} {p : Addr} {g : Nat} {tb : TS} {D : Ends} {σ : St} {H : Hp} (Pv : Nat → St → Hp → Prop) (h0 : Pv 0 σ H) (hst : ∀ i σ H, i ≤ xs.length → Pv i σ H → H p = some (.lst xs))
    (hs : ∀ i (hi : i < xs.length) σ H, Pv i σ H → tb { D with nx := Pv (i + 1), ct := Pv (i + 1), bk := D.nx } (σ.set g (some xs[i])) H) (hd : ∀ σ H, Pv xs.length σ H → D.nx σ H) :
    loop xs.length (itL xs) (fun H' => H' p = some (.lst xs)) (gName g) tb D σ H := by
  refine loop_i Pv h0 hst ?_ hd
  rintro i x σ H H' hi hP ⟨rfl, hx⟩
  rw [List.getElem?_eq_getElem hi] at hx
  cases hx
  exact hs i hi σ H' hP
theorem Kp.fr {F : List Addr} {H H1 H2 : Hp} (a : Kp [] H H1) (b : Kp F H1 H2) (hF : ∀ z ∈ F, H z = Option.none) : Kp [] H H2 := fun z u hz _ => b z u (a z u hz (fun h => nomatch h)) (fun hm => by rw [hF z hm] at hz; cases hz)
theorem Kp.fu {H H1 : Hp} {p : Addr} {o : HO} (a : Kp [] H H1) (hp : H p = Option.none) : Kp [] H (upd H1 p o) := Kp.own a hp
theorem Kp.get3 {p r t : Addr} {H H' : Hp} {q : Addr} {o : HO} (a : Kp [p, r, t] H H') (h : H q = some o) (n : q ≠ p) (n2 : q ≠ r) (n3 : q ≠ t) : H' q = some o := a q o h (by simp [n, n2, n3])
theorem ne_x {H : Hp} {p q : Addr} (hp : H p = none) (h : ∃ o, H q = some o) : p ≠ q := by
  obtain ⟨o, h⟩ := h
  exact ne_none' h hp
theorem ne_y {H : Hp} {p q : Addr} (hp : H p = none) (h : ∃ o, H q = some o) : q ≠ p := (ne_x hp h).symm
theorem itm_z0 {α : Type} {x : α} {xs : List α} {i : Int} {k : α → Prop} (e : i = 0) (q : k x) : itm (x :: xs) i k := itm_n (j := 0) e rfl q
theorem itm_z1 {α : Type} {x y : α} {xs : List α} {i : Int} {k : α → Prop} (e : i = 1) (q : k y) : itm (x :: y :: xs) i k := itm_n (j := 1) e rfl q
theorem itm_2 {α : Type} {x y : α} {i : Int} {k : α → Prop} (h0 : 0 ≤ i) (h1 : i < 2) (q0 : i = 0 → k x) (q1 : i = 1 → k y) : itm [x, y] i k := by
  have : i = 0 ∨ i = 1 := by omega
  rcases this with e | e
  · exact itm_z0 e (q0 e)
  · exact itm_z1 e (q1 e)
theorem itm_3 {α : Type} {x y z : α} {i : Int} {k : α → Prop} (h0 : 0 ≤ i) (h1 : i < 3) (q0 : i = 0 → k x) (q1 : i = 1 → k y) (q2 : i = 2 → k z) : itm [x, y, z] i k := by
  have : i = 0 ∨ i = 1 ∨ i = 2 := by omega
  rcases this with e | e | e
  · exact itm_z0 e (q0 e)
  · exact itm_z1 e (q1 e)
  · exact itm_n (j := 2) e rfl (q2 e)
theorem loop_r2 {lo : Int} {g : Nat} {tb : TS} {D : Ends} {σ : St} {H : Hp}
    (h : tb { D with nx := fun σ' H' => tb { D with nx := D.nx, ct := D.nx, bk := D.nx } (σ'.set g (some (.int (lo + 1)))) H', ct := fun σ' H' => tb { D with nx := D.nx, ct := D.nx, bk := D.nx } (σ'.set g (some (.int (lo + 1)))) H', bk := D.nx } (σ.set g (some (.int lo))) H) :
    loop 2 (itR lo) (fun _ => True) (gName g) tb D σ H := by
  refine loop_r (fun i σ' H' => match i with
    | 0 => σ' = σ ∧ H' = H
    | 1 => tb { D with nx := D.nx, ct := D.nx, bk := D.nx } (σ'.set g (some (.int (lo + 1)))) H'
    | _ => D.nx σ' H') ⟨rfl, rfl⟩ ?_ ?_
  · rintro i σ' H' hi hP
    match i, hi, hP with
    | 0, _, hP =>
      obtain ⟨rfl, rfl⟩ := hP
      have e : lo + ((0 : Nat) : Int) = lo := by omega
      rw [e]
      exact h
    | 1, _, hP => exact hP
  · exact fun σ' H' h => h
theorem itm_0 {α : Type} {x : α} {xs : List α} {k : α → Prop} (q : k x) : itm (x :: xs) 0 k := itm_n (j := 0) rfl rfl q
theorem itm_1 {α : Type} {x y : α} {xs : List α} {k : α → Prop} (q : k y) : itm (x :: y :: xs) 1 k := itm_n (j := 1) rfl rfl q
end Ta

set_option Elab.async false
set_option linter.all false
set_option maxRecDepth 100000
set_option maxHeartbeats 1000000
namespace Ta
open PySem PySem.Spec PyProof.Rows L2

section
variable {X : Cx}
/-! ### list(x), x a text too -/
def zListX (K : PySem.W.Frag) : List V → Hp → VK → Prop := fun xs H Q => one xs fun x => match x with
  | .str z => (tl z).length ≤ 1000000 ∧ ∀ l, H l = none → Q (.ref l) (upd H l (.lst (sgn (tl z))))
  | .ref p => look H p fun o => (match o with
    | some (.lst ys) => ∀ l, H l = none → Q (.ref l) (upd H l (.lst ys))
    | some (.tup ys) => ∀ l, H l = none → Q (.ref l) (upd H l (.lst ys))
    | some (.frz _ (.lst ys)) => ∀ l, H l = none → Q (.ref l) (upd H l (.lst ys))
    | _ => False)
  | _ => False
theorem crlistX (hcalm : X.calm = true) : CallR X (.type "list") (zListX X.K) := by
  intro pins s σ H xs us Q I r q
  obtain ⟨x, rfl, q1⟩ := one_e q
  cases x with
  | str z =>
    obtain ⟨h1, q1⟩ := q1
    obtain ⟨u, eu, rx⟩ := vals1 r
    subst eu
    obtain ⟨t, rfl⟩ := rx
    have hsz : z.cps.size = (tl z).length := by simp [tl]
    refine PySem.call_list_str (I.ok.hd hcalm) z t (fun h' tk acc' c' hk hS hacc => ?_) (by rw [hsz, sizeLine_eq]; omega)
    have hal : acc'.toList.length = (one1 (tl z)).length := by rw [Array.length_toList, hacc.1, hsz]; simp [one1]
    have hSt : StrsAre acc'.toList (one1 (tl z)) := L2.strs_at hal fun j v e => by
      obtain ⟨c, u, e1, e2⟩ := hacc.2 j v (by rw [← Array.getElem?_toList]; exact e)
      exact ⟨S [c], u, by simp [one1, tl, e1], e2⟩
    have ev : (one1 (tl z)).map V.str = sgn (tl z) := by unfold sgn one1; rw [List.map_map]; rfl
    have hlen : (sgn (tl z)).length ≤ sizeLine := by unfold sgn; rw [List.length_map, sizeLine_eq]; omega
    exact ⟨.ref s.heap.objs.size, _, I.laid (t' := tk) hk (Nat.le_refl _) (show ObjOk X.prog X.w _ h' _ (.lst (sgn (tl z))) from ⟨hlen, acc'.toList, c', by rw [← ev]; exact vals_of_strs hSt, hS⟩), rfl, q1 _ (I.hok.fresh (Nat.le_refl _))⟩
  | ref p => exact crlist pins s σ H [.ref p] us Q I r q
  | _ => exact False.elim q1
/-! ### list(range(n)) -/
variable {a b : Expr} {ta tb : TE}
abbrev TRg := St → Hp → (Int → Int → Hp → Prop) → Prop
def tRa (ta : TE) : TRg := fun σ H Q => ta σ H fun x H1 => match x with
  | .int n => Q 0 n H1
  | _ => False
def tRb (ta tb : TE) : TRg := fun σ H Q => ta σ H fun x H1 => tb σ H1 fun y H2 => match x with
  | .int n => (match y with
    | .int m => Q n m H2
    | _ => False)
  | _ => False
theorem prga {p pos : Pos} (hm : X.mg "range" = none) (ha : PE X a ta) (hg : Gl X "range" := by rfl) (na : starEach [a] X.env = (false, eval a X.env) :: starEach [] X.env := by rfl) : PRg X (.Call (.Name "range" p) [a] [] pos) (tRa ta) := by
  intro pins s σ H Q I h
  refine Call_ (ld_blt I hg hm boot_range (PyProof.Rows.callWith_type1 (one_arg ha I h (fun v s2 x H2 I2 r q => ?_) na) na))
  cases x with
  | int n =>
    obtain ⟨t, rfl⟩ := r
    exact call_range_1 ⟨_, 0, n, _, _, _, H2, rfl, IsRange.new _ _ _ _ _ _ _, I2.kept fun b u e => Heap.get?_push_of_some _ e, q⟩
  | _ => exact False.elim q
theorem prgb {p pos : Pos} (hm : X.mg "range" = none) (ha : PE X a ta) (hb : PE X b tb) (hg : Gl X "range" := by rfl) (na : starEach [a, b] X.env = (false, eval a X.env) :: starEach [b] X.env := by rfl)
    (nb : starEach [b] X.env = (false, eval b X.env) :: starEach [] X.env := by rfl) (hp : ∀ pos, (backTo pos (starEach [b] X.env)).any (·.1) = false := by exact fun _ => rfl) : PRg X (.Call (.Name "range" p) [a, b] [] pos) (tRb ta tb) := by
  intro pins s σ H Q I h
  refine Call_ (ld_blt I hg hm boot_range (PyProof.Rows.callWith_type1 (args_cons (thn (ha.run pins s σ H _ I h) fun v s1 ⟨x, H1, I1, r1, q1⟩ => one_arg hb I1 q1 (fun u s2 y H2 I2 r2 q => ?_) nb) na) na (hp _)))
  cases x with
  | int i =>
    cases y with
    | int j =>
      obtain ⟨t, rfl⟩ := r1
      obtain ⟨t', rfl⟩ := r2
      exact call_range_2 ⟨_, i, j, _, _, _, H2, rfl, IsRange.new _ _ _ _ _ _ _, I2.kept fun b u e => Heap.get?_push_of_some _ e, q⟩
    | _ => exact False.elim q
  | _ => exact False.elim q
theorem plrg {e : Expr} {te : TRg} {p pos : Pos} (hc : X.calm = true) (hm : X.mg "list" = none) (he : PRg X e te) (hg : Gl X "list" := by rfl) (na : starEach [e] X.env = (false, eval e X.env) :: starEach [] X.env := by rfl) : PE X (.Call (.Name "list" p) [e] [] pos) (tLstRg te) := pe_listRg hc hg hm he na
theorem rg_ok {a b : Int} (h0 : 0 ≤ a) (h1 : b ≤ 1000000) (h2 : a ≤ 1000000) (h3 : 0 ≤ b) : RgOk a b := RgOk.of_le h0 (by omega) (by omega) h3
end
end Ta

set_option Elab.async false
set_option linter.all false
set_option maxRecDepth 100000
set_option maxHeartbeats 1000000
namespace Ta
open PySem PySem.Spec PyProof.Rows L2

section
variable {X : Cx}
/-! ### match e: texts, then anything -/
abbrev TM := V → TS
structure PMs (X : Cx) (cs : List MatchCase) (t : TM) : Prop where
  run : ∀ (first : Bool) (pins : List (Addr × Obj)) (s : Shared) (σ : St) (H : Hp) (D : Ends) (x : V) (v : Value), Inv X pins σ H s → RelV x v → t x D σ H → wpAny (model X.prog X.w) X.A (matchCases cs X.env v first) (SP X pins D) X.xe s
def mWild (t : TS) : TM := fun _ => t
def mVal (l : List Nat) (t : TS) (r : TM) : TM := fun x D σ H => match x with
  | .str a => cnd (decide (tl a = l)) (t D σ H) (r x D σ H)
  | _ => False
def tMat (te : TE) (tm : TM) : TS := fun D σ H => te σ H fun x H1 => tm x D σ H1
variable {body : List Stmt} {t : TS} {r tm : TM} {rest cs : List MatchCase} {p1 p2 pos : Pos} {e : Expr} {te : TE}
theorem pms_wild (h : PSs X body t) : PMs X [⟨.MatchAs none none p1, none, body⟩] (mWild t) := by
  refine ⟨fun first pins s σ H D x v I rx q => ?_⟩
  unfold matchCases
  refine wpAny_bind (wpAny_holding ?_)
  unfold matchPattern
  refine wpAny_pure ?_
  refine wpAny_bind (wpAny_holding ?_)
  refine wpAny_pure ?_
  exact h.run pins s σ H D I q
theorem pms_val (l : List Nat) {y : Str} {j : Nat} (hb : PSs X body t) (hr : PMs X rest r) (hy : y = S l := by decide +kernel) : PMs X (⟨.MatchValue (.Constant (.str y) j p1) p2, none, body⟩ :: rest) (mVal l t r) := by
  subst hy
  refine ⟨fun first pins s σ H D x v I rx q => ?_⟩
  cases x with
  | str a =>
    unfold matchCases
    refine wpAny_bind (wpAny_holding ?_)
    unfold matchPattern
    refine wpAny_bind (thn ((pe_str (X := X) (x := S l) (j := j) (pos := p1)).run pins s σ H (fun z H' => z = .str (S l) ∧ H' = H) I ⟨rfl, rfl⟩) fun u s1 hu => ?_)
    obtain ⟨z, H1, I1, rz, e1, e2⟩ := hu
    subst e1
    subst e2
    refine wpAny_bind (wpAny_standAt ?_)
    have hs : rEq (.str a) (.str (S l)) H1 fun z H' => z = .bl (decide (tl a = l)) ∧ H' = H1 := by
      refine ⟨rfl, ?_, rfl⟩
      have : decide (V.str a = V.str (S l)) = decide (tl a = l) := decide_eq_decide.mpr ⟨fun z => by injection z with z; rw [z], fun z => by rw [← z, S_tl]⟩
      rw [this]
    refine wpAny_bind (thn (op_eq pins s1 σ H1 (.str a) (.str (S l)) v u _ I1 rx rz hs) fun c s2 hc => ?_)
    obtain ⟨z2, H2, I2, rz2, e3, e4⟩ := hc
    subst e3
    subst e4
    cases rz2
    refine wpAny_bind (wpAny_truthy_bool ?_)
    have q := cnd_e q
    by_cases hk : tl a = l
    · rw [decide_eq_true hk] at q ⊢
      refine wpAny_pure ?_
      refine wpAny_bind (wpAny_holding ?_)
      refine wpAny_pure ?_
      exact hb.run pins s2 σ H2 D I2 q
    · rw [decide_eq_false hk] at q ⊢
      refine wpAny_pure ?_
      exact hr.run false pins s2 σ H2 D (.str a) v I2 rx q
  | _ => exact False.elim q
theorem psmat (he : PE X e te) (h : PMs X cs tm) : PS X (.Match e cs pos) (tMat te tm) := by
  refine ⟨fun pins s σ H D I q => ?_⟩
  show wpAny _ _ (standAt pos >>= fun _ => eval e X.env >>= fun v => matchCases cs X.env v true) _ _ _
  refine wpAny_bind (wpAny_standAt ?_)
  refine wpAny_bind (thn (he.run pins s σ H _ I q) fun v s1 hv => ?_)
  obtain ⟨x, H1, I1, rx, q1⟩ := hv
  exact h.run true pins s1 σ H1 D x v I1 rx q1
end
end Ta

set_option Elab.async false
set_option linter.all false
set_option maxRecDepth 100000
set_option maxHeartbeats 3200000
namespace Ta
open PySem PySem.Spec PyProof.Rows L2

/-! ### sets of texts whose table rises -/
def txOf (z : Int × Value) : Str := match z.2 with | .str y _ => y | _ => Str.empty
def GoodT (P : Program) (w : World) (z : Int × Value) : Prop := ∃ y u, z.2 = Value.str y u ∧ z.1 = (strKind P w).hash y
/-- the set of texts at p: T its members, m their number -/
def SetT (P : Program) (w : World) (hp : Heap) (p : Addr) (T : Str → Bool) (m : Nat) : Prop :=
  ∃ ob xs n tb, hp.get? p = some ob ∧ ob.ExactSet ∧ ob.data = .set xs n tb ∧ ((∀ z ∈ xs.toList, GoodT P w z) ∧ (xs.toList.map txOf).Nodup ∧ ∀ y, T y = true ↔ y ∈ xs.toList.map txOf) ∧
    (xs.size < scanBound ∧ tb.fits xs.size = true ∧ xs.size = m) ∧ Ris tb.place.toList ∧ (w.params.followText "set-order" = true ∨ tb.led = true)
section
variable {P : Program} {w : World} {hp hp' : Heap} {p : Addr} {T : Str → Bool} {m : Nat}
theorem goodT_el {l : List (Int × Value)} (g : ∀ z ∈ l, GoodT P w z) : ElemsOf (strKind P w) l := fun z hz => by
  obtain ⟨y, u, e1, e2⟩ := g z hz
  exact ⟨⟨y, by rw [e1]; exact strKind_is P w y u, e2⟩, by rw [e1] <;> rfl⟩
theorem goodT_is {z : Int × Value} (g : GoodT P w z) (y : Str) : (strKind P w).is y z.2 = true ↔ txOf z = y := by
  obtain ⟨x, u, e1, _⟩ := g
  unfold txOf
  rw [e1]
  show ((x == y) = true) ↔ x = y
  exact beq_iff_eq
theorem goodT_mem {l : List (Int × Value)} (g : ∀ z ∈ l, GoodT P w z) (y : Str) : y ∈ l.map txOf ↔ ∃ z ∈ l, (strKind P w).is y z.2 = true := by
  rw [List.mem_map]
  exact ⟨fun ⟨z, hz, q⟩ => ⟨z, hz, (goodT_is (g z hz) y).2 q⟩, fun ⟨z, hz, q⟩ => ⟨z, hz, (goodT_is (g z hz) y).1 q⟩⟩
theorem SetT.kept (R : SetT P w hp p T m) (k : ∀ ob, hp.get? p = some ob → hp'.get? p = some ob) : SetT P w hp' p T m := by
  obtain ⟨ob, xs, n, tb, h1, r⟩ := R
  exact ⟨ob, xs, n, tb, k ob h1, r⟩
theorem SetT.same {T' : Str → Bool} {m' : Nat} (R : SetT P w hp p T m) (e : ∀ y, T' y = T y) (em : m = m') : SetT P w hp p T' m' := by
  have : T' = T := funext e
  rw [this, ← em]; exact R
end
section
variable {P : Program} {w : World} {A : Around} {E : Value → Shared → Prop} {s : Shared} {p : Addr} {T : Str → Bool} {m : Nat}
theorem setT_tail {g : Bool → Sem Unit} (hg : ∀ (b : Bool) (s1 : Shared) (Q1 : Unit → Shared → Prop), Q1 () s1 → wpAny (model P w) A (g b) Q1 E s1)
    {ob : Obj} {xs ys : Array (Int × Value)} {n : Nat} {tb tc : SetTable} (h1 : s.heap.get? p = some ob) (h2 : ob.ExactSet) (h3 : ob.data = .set xs n tb)
    {U : Str → Bool} (gd : (∀ z ∈ ys.toList, GoodT P w z) ∧ (ys.toList.map txOf).Nodup ∧ ∀ y, U y = true ↔ y ∈ ys.toList.map txOf) (sz : ys.size < scanBound) (ft : tc.fits ys.size = true) (ri : Ris tc.place.toList)
    (ld : w.params.followText "set-order" = true ∨ tc.led = true) {dum : Bool} {R : Option Bool → Shared → Prop} (hR : ∀ h', Heap.SameBut p s.heap h' → SetT P w h' p U ys.size → R (some true) { s with heap := h' }) :
    wpAny (model P w) A (do
        storeSet p ys tc
        if (!dum && tc.tooFull) = true then do
            g (relayAll tc ys (SetTable.grown ys.size)).2.2
            storeSet p (relayAll tc ys (SetTable.grown ys.size)).1 (relayAll tc ys (SetTable.grown ys.size)).2.1
            pure (some true)
          else pure (some true)) R E s := by
  obtain ⟨gd1, gd2, gd3⟩ := gd
  refine wpAny_bind (wpAny_storeSet_of h1 h3 ?_ (fits_of_scanBound sz))
  have k1 := store_at (es' := ys) (t' := tc) h1 h3
  have b1 := Heap.SameBut.update s.heap p (Obj.putSet ys tc)
  split
  · have v1 := relayAll_perm tc ys (SetTable.grown ys.size)
    have v2 := relayAll_fits tc ys (SetTable.grown ys.size)
    have v3 := relayAll_ris tc ys (SetTable.grown ys.size)
    have v4 := relayAll_led tc ys (SetTable.grown ys.size)
    generalize relayAll tc ys (SetTable.grown ys.size) = Y at v1 v2 v3 v4 ⊢
    obtain ⟨zs, td, gave⟩ := Y
    dsimp only at v1 v2 v3 v4 ⊢
    have sz2 : zs.size = ys.size := by rw [← Array.length_toList, v1.length_eq, Array.length_toList]
    have sz3 : zs.size < scanBound := by rw [sz2]; exact sz
    refine wpAny_bind (hg _ _ _ ?_)
    refine wpAny_bind (wpAny_storeSet_of k1 rfl ?_ (fits_of_scanBound sz3))
    have k2 := store_at (es' := zs) (t' := td) k1 rfl
    refine wpAny_pure (hR _ (b1.trans (Heap.SameBut.update _ p _)) ⟨_, zs, _, td, k2, h2, rfl, ⟨fun z hz => gd1 z (v1.mem_iff.mp hz), (v1.map txOf).nodup_iff.mpr gd2, fun y => (gd3 y).trans (v1.map txOf).mem_iff.symm⟩, ⟨sz3, v2, sz2⟩, v3, ld.imp id fun z => by rw [v4]; exact z⟩)
  · exact wpAny_pure (hR _ b1 ⟨_, ys, _, tc, k1, h2, rfl, ⟨gd1, gd2, gd3⟩, ⟨sz, ft, rfl⟩, ri, ld⟩)
theorem setT_add {y : Str} {u : Tok} {Q : Bool → Shared → Prop} (R : SetT P w s.heap p T m) (room : m + 1 < scanBound)
    (hQ : ∀ h', Heap.SameBut p s.heap h' → SetT P w h' p (fun x => T x || decide (x = y)) (if T y = true then m else m + 1) → Q (!T y) { s with heap := h' }) :
    wpAny (model P w) A (setAddHashed p (.str y u) ((strKind P w).hash y)) Q E s := by
  obtain ⟨ob, xs, n, tb, h1, h2, h3, ⟨g1, g2, g3⟩, ⟨c1, c2, c3⟩, ri, ld⟩ := R
  have hkey : (strKind P w).is y (.str y u) = true := strKind_is P w y u
  have hsc : (Value.str y u).scannable = true := rfl
  have hel : ElemsOf (strKind P w) xs.toList := goodT_el g1
  unfold setAddHashed setAddHashedIn
  refine wpAny_holding (wpAny_bind (wpAny_setState_of h1 h3 c2 ?_))
  dsimp only
  rw [byScan_of hsc c1 hel]
  simp only [↓reduceIte]
  unfold setAddByScan
  refine wpAny_bind ?_
  refine wpAny_bind (wpAny_rule ?_)
  refine wpAny_bind (wpAny_setScan_of hkey h1 h3 c2 hel ?_)
  cases hfi : List.findIdx? (fun z => (strKind P w).is y z.2) xs.toList with
  | some j =>
    dsimp only
    obtain ⟨hj, pj, _⟩ := List.findIdx?_eq_some_iff_getElem.mp hfi
    have hT : T y = true := (g3 y).2 ((goodT_mem (P := P) (w := w) g1 y).2 ⟨xs.toList[j], List.getElem_mem hj, pj⟩)
    refine wpAny_pure (wpAny_pure ?_)
    have q := hQ s.heap (Heap.SameBut.refl p s.heap) ⟨ob, xs, n, tb, h1, h2, h3, ⟨g1, g2, fun i => by
      rw [Bool.or_eq_true, decide_eq_true_eq, ← g3 i]
      exact ⟨fun z => z.elim id (fun e => e ▸ hT), .inl⟩⟩, ⟨c1, c2, by rw [if_pos hT]; exact c3⟩, ri, ld⟩
    rw [hT] at q
    exact q
  | none =>
    dsimp only
    have hny : y ∉ xs.toList.map txOf := fun z => by
      obtain ⟨e, he, q⟩ := (goodT_mem (P := P) (w := w) g1 y).1 z
      have c := List.findIdx?_eq_none_iff.mp hfi e he
      rw [q] at c
      cases c
    have hT : T y = false := by
      cases q : T y with
      | false => rfl
      | true => exact absurd ((g3 y).1 q) hny
    have hgw : ∀ (b : Bool) {s1 : Shared} {Q1 : Unit → Shared → Prop}, Q1 () s1 → wpAny (model P w) A (match b with | true => rule "set.scan.the-table-gave-way" | false => pure ()) Q1 E s1 := by
      intro b s1 Q1 q
      cases b
      · exact wpAny_pure q
      · exact wpAny_rule q
    have v1 := layNew_perm tb xs ((strKind P w).hash y) (.str y u)
    have v2 := layNew_fits tb xs ((strKind P w).hash y) (.str y u)
    have v3 := layNew_ris tb xs ((strKind P w).hash y) (.str y u) ri
    have v4 := layNew_led tb xs ((strKind P w).hash y) (.str y u)
    generalize layNew tb xs ((strKind P w).hash y) (.str y u) = Y at v1 v2 v3 v4 ⊢
    obtain ⟨ys, tc, dum, gave⟩ := Y
    dsimp only at v1 v2 v3 v4 ⊢
    rw [Array.toList_push] at v1
    have pc : ys.toList.Perm (((strKind P w).hash y, Value.str y u) :: xs.toList) := v1.trans (List.perm_append_singleton _ _)
    have pk : (ys.toList.map txOf).Perm (y :: xs.toList.map txOf) := pc.map txOf
    have gd : (∀ z ∈ ys.toList, GoodT P w z) ∧ (ys.toList.map txOf).Nodup ∧ ∀ i, (T i || decide (i = y)) = true ↔ i ∈ ys.toList.map txOf := by
      refine ⟨fun e he => ?_, pk.nodup_iff.mpr (List.nodup_cons.mpr ⟨hny, g2⟩), fun i => ?_⟩
      · rcases List.mem_cons.mp (pc.mem_iff.mp he) with z | z
        · rw [z]; exact ⟨y, u, rfl, rfl⟩
        · exact g1 e z
      · rw [Bool.or_eq_true, decide_eq_true_eq, g3 i, pk.mem_iff, List.mem_cons]
        exact Or.comm
    have hsz : ys.size = m + 1 := by rw [← Array.length_toList, pc.length_eq, List.length_cons, Array.length_toList, c3]
    have sz : ys.size < scanBound := by rw [hsz]; exact room
    have ld1 : w.params.followText "set-order" = true ∨ tc.led = true := ld.imp id fun z => by rw [v4]; exact z
    have fin : ∀ h', Heap.SameBut p s.heap h' → SetT P w h' p (fun x => T x || decide (x = y)) ys.size → Q true { s with heap := h' } := fun h' sb r => by
      have q := hQ h' sb
      rw [hT] at q
      rw [hsz] at r
      exact q r
    refine wpAny_bind (hgw _ ?_)
    have hgv : ∀ (b : Bool) (s1 : Shared) (Q1 : Unit → Shared → Prop), Q1 () s1 → wpAny (model P w) A (match b with | true => rule "set.scan.the-table-gave-way" | false => pure ()) Q1 E s1 := fun b s1 Q1 q => hgw b q
    split
    · refine wpAny_bind ?_
      rw [hashByValue_scannable 8 hsc]
      refine wpAny_pure ?_
      refine setT_tail ?_ h1 h2 h3 gd sz ?_ ?_ ?_ fun h' sb r => ?_
      · intro b s1 Q1 q; cases b <;> first | exact wpAny_pure q | exact wpAny_rule q
      · first | (split <;> first | exact v2 | exact SetTable.fits_plain_off v2) | exact v2
      · first | (split <;> exact v3) | exact v3
      · first | (split <;> exact ld1) | exact ld1
      · dsimp only; exact wpAny_pure (fin h' sb r)
    · refine wpAny_bind (wpAny_pure ?_)
      simp only [↓reduceIte]
      refine setT_tail ?_ h1 h2 h3 gd sz v2 v3 ld1 fun h' sb r => ?_
      · intro b s1 Q1 q; cases b <;> first | exact wpAny_pure q | exact wpAny_rule q
      · dsimp only; exact wpAny_pure (fin h' sb r)
end
end Ta

set_option Elab.async false
set_option linter.all false
set_option maxRecDepth 100000
set_option maxHeartbeats 3200000
namespace Ta
open PySem PySem.Spec PyProof.Rows L2

section
variable {prog : Program} {w : World} {A : Around} {R : Result → Shared → Prop} {I : Addr} {fp wr : List Addr} {G : Array GenState → Array GenState → Prop} {n : Nat} {P : Nat → Value → Prop} {St : Nat → Shared → Prop}
abbrev tin (xs : List Str) : Str → Bool := fun y => xs.any (· == y)
abbrev led0 (w : World) : Bool := !w.params.followText "set-order"
abbrev set0 (w : World) : Obj := { cls := .type "set", dict := none, data := .set #[] 0 (.fresh 0 0 (led0 w)) }
theorem setT_fresh {hp : Heap} {p : Addr} (h : hp.get? p = some (set0 w)) : SetT prog w hp p (tin []) 0 := by
  refine ⟨_, #[], 0, _, h, ⟨rfl, rfl, rfl⟩, rfl, ⟨fun z hz => (by cases hz), .nil, fun y => ?_⟩, ⟨by unfold scanBound; decide, rfl, rfl⟩, .nil, ?_⟩
  · simp [tin]
  · cases e : w.params.followText "set-order" with
    | true => exact .inl rfl
    | false => exact .inr (by show led0 w = true; unfold led0; rw [e]; rfl)
theorem loopT (W : WalksS prog w A.in1 I fp wr G n P St) (D : Addr) (hDf : D ∉ fp) (xs : List Str) (hsz : xs.length = n) (hn1 : n + 1 < scanBound)
    (hval : ∀ i v, P i v → ∃ t, v = .str (xs.getD i Str.empty) t) :
    ∀ (k i : Nat) (s : Shared), n - i = k → i ≤ n → St i s → SetT prog w s.heap D (tin (xs.take i)) (dn (xs.take i)) →
      (∀ s', Moved (D :: wr) G s s' → SetT prog w s'.heap D (tin xs) (dn xs) → R (.ok (.ret .none)) s') →
      codeAny (model prog w) A (.builtin "set.update.loop" ⟨[.ref D, .ref I], []⟩) R s := by
  have hDw : D ∉ wr := fun h => hDf (W.sub _ h)
  have hsub : ∀ b ∈ wr, b ∈ D :: wr := fun b hb => List.mem_cons_of_mem _ hb
  intro k
  induction k with
  | zero =>
    intro i s hk hi hst hS hR
    have hin : i = n := by omega
    subst hin
    refine codeAny_builtin PyProof.Rows.F.entry_set_update_loop ?_
    rw [Around.under_plainId PyProof.Rows.F.plain_set_update_loop _]
    show wpAny _ A.in1 (pyNext (.ref I) >>= _) _ _ s
    refine wpAny_bind (W.done s _ _ hst fun s' hm => ?_)
    show wpAny _ A.in1 (ret Value.none) _ _ s'
    rw [List.take_of_length_le (Nat.le_of_eq hsz)] at hS
    exact wpAny_pure (hR s' (hm.mono hsub) (hS.kept fun o e => hm.heap D o hDw e))
  | succ k ih =>
    intro i s hk hi hst hS hR
    have hlt : i < n := by omega
    have hlx : i < xs.length := by omega
    refine codeAny_builtin PyProof.Rows.F.entry_set_update_loop ?_
    rw [Around.under_plainId PyProof.Rows.F.plain_set_update_loop _]
    show wpAny _ A.in1 (pyNext (.ref I) >>= _) _ _ s
    refine wpAny_bind (W.item i s _ _ hlt hst fun v s' hP hst' hm => ?_)
    obtain ⟨t, rfl⟩ := hval i v hP
    have hS' : SetT prog w s'.heap D (tin (xs.take i)) (dn (xs.take i)) := hS.kept fun o e => hm.heap D o hDw e
    show wpAny _ A.in1 (holding [Value.str (xs.getD i Str.empty) t] (setAdd D (.str (xs.getD i Str.empty) t)) >>= _) _ _ s'
    refine wpAny_bind (wpAny_holding ?_)
    unfold setAdd
    refine wpAny_holding ?_
    refine wpAny_bind ((PySem.strKind prog w).pyHash (k := xs.getD i Str.empty) (strKind_is _ _ _ _) ?_)
    have hdn := dn_le (xs.take i)
    have htk : (xs.take i).length ≤ i := by rw [List.length_take]; omega
    refine setT_add (s := { s' with toks := s'.toks + 1 }) hS' (by unfold scanBound at hn1 ⊢; omega) fun h' hsb hS2 => ?_
    have ex : xs.getD i Str.empty = xs[i] := by simp [List.getD, hlx]
    have et : xs.take (i + 1) = xs.take i ++ [xs[i]] := by rw [List.take_succ_eq_append_getElem hlx]
    have hSi : SetT prog w h' D (tin (xs.take (i + 1))) (dn (xs.take (i + 1))) := by
      refine hS2.same (fun y => ?_) ?_
      · show (xs.take (i + 1)).any (· == y) = ((xs.take i).any (· == y) || decide (y = xs.getD i Str.empty))
        rw [et, ex, List.any_append]
        congr 1
        by_cases e : y = xs[i]
        · subst e; simp
        · have hb : (xs[i] == y) = false := by simpa [beq_iff_eq] using (fun h' : xs[i] = y => e h'.symm)
          simp [hb, e]
      · rw [et, dn_snoc, ex]
    refine wpAny_pure ⟨plainId_quiet PyProof.Rows.F.plain_set_update_loop _, ih (i + 1) _ (by omega) hlt (W.frame _ s' _ _ hst' (Nat.le_succ _) fun b hb o e => ?_) hSi fun s'' hm'' hS'' => ?_⟩
    · rw [hsb.2 b (fun h : b = D => hDf (by rw [← h]; exact hb))]; exact e
    · refine hR s'' (Moved.trans W.gtrans ((hm.mono hsub).then_heap (Nat.le_succ _) fun b o hb e => ?_) hm'') hS''
      rw [hsb.2 b (fun h : b = D => hb (by rw [h]; exact List.mem_cons_self))]; exact e
end
section
variable {prog : Program} {w : World} {A : Around} {E : Value → Shared → Prop} {s : Shared}
abbrev GotT (prog : Program) (w : World) (s : Shared) (xs : List Str) (Q : Value → Shared → Prop) : Prop :=
  ∀ (h' : Heap) (tk : Nat), SetT prog w h' s.heap.objs.size (tin xs) (dn xs) → (∀ b o, b < s.heap.objs.size → s.heap.get? b = some o → h'.get? b = some o) → Q (.ref s.heap.objs.size) { s with heap := h', toks := tk }
theorem strs_get : ∀ {us : List Value} {xs : List Str}, StrsAre us xs → ∀ (i : Nat) (v : Value), us[i]? = some v → ∃ t, v = .str (xs.getD i Str.empty) t
  | _, _, .nil, i, v, h => by cases h
  | _, _, .cons _ t r, 0, v, h => ⟨t, (Option.some.inj h).symm⟩
  | _, _, .cons _ t r, i + 1, v, h => strs_get r i v h
theorem call_setT_text {x : Str} {t : Tok} {Q : Value → Shared → Prop} (hh : A.handled = none) (hn : (tl x).length + 1 < scanBound) (h : GotT prog w s (one1 (tl x)) Q) :
    wpAny (model prog w) A (call (.type "set") [.str x t]) Q E s := by
  obtain ⟨c, tl', hmro⟩ := PySem.F.called_set.mro
  have hmade := PySem.F.called_set.made
  have hsub := PySem.F.called_set.sub
  refine wpAny_call (codeAny_of_tree ?_)
  show wpAny _ _ (callAny (.type "set") _) _ _ _
  refine wpAny_pure ⟨Code.quiet_builtin _ (by decide +kernel), codeAny_builtin PySem.F.entry_type_call ?_⟩
  rw [Around.under_plain (weight_type_call_type "set" [.str x t] []) rfl]
  have h1 := PySem.F.called_set.notType
  have h2 := PySem.F.called_set.canCreate
  have hct := PySem.F.typeCall_set_1 (.str x t)
  repeat (any_goals (first | assumption | wp_step))
  refine codeAny_mono (code_set_led1 (.str x t) (E := E) (Q₁ := fun obj s₁ => obj = .ref s.heap.objs.size ∧ s₁ = { s with heap := s.heap.push (set0 w) }) ⟨rfl, rfl⟩) fun r s₁ hr => ?_
  cases r with
  | error e => exact hr
  | ok fl =>
    cases fl with
    | ret obj =>
      obtain ⟨rfl, rfl⟩ := hr
      have hS : (s.heap.push (set0 w)).get? s.heap.objs.size = some (set0 w) := Heap.get?_push_size _ rfl
      have hT : Shared.TypeIs { s with heap := s.heap.push (set0 w) } (.ref s.heap.objs.size) "set" := ⟨_, hS, rfl⟩
      have hli := PySem.F.called_set.init.lookup
      have hbi := PySem.F.called_set.init.bind (.ref s.heap.objs.size)
      repeat (any_goals (first | assumption | wp_step))
      refine codeAny_mono (codeAny_call_builtin (R := wants (fun r s₂ => r = .none ∧ ∃ h' tk, s₂ = { s with heap := h', toks := tk } ∧
          SetT prog w h' s.heap.objs.size (tin (one1 (tl x))) (dn (one1 (tl x))) ∧
          (∀ b o, b < s.heap.objs.size → s.heap.get? b = some o → h'.get? b = some o)) E) PySem.F.called_set.init.plain PySem.F.entry_set_init (check_set_init_1 hT ?_)) fun r₂ s₂ hr₂ => ?_
      · have hsls := PySem.F.sub_str_set
        have hslf := PySem.F.sub_str_frozenset
        have hne : (Value.type "str" == Value.type "dict") = false := by decide
        unfold Builtin.«set.__init__» noKeywords Builtin.Frozenset.updateFrom
        generalize hPI : pyIter = PI
        wp_walk
        subst hPI
        refine wpAny_pyIter_str fun o St W hst => ?_
        refine wpAny_bind (wpAny_runValue ?_)
        have hh3 : A.in1.in1.in1.handled = none := by simp [hh]
        have hSf : s.heap.objs.size ∉ [(s.heap.push (set0 w)).objs.size] := by
          rw [Heap.size_push]; simp only [List.mem_singleton]
          exact Nat.ne_of_lt (Nat.lt_succ_self _)
        have hsz : (one1 (tl x)).length = x.cps.size := by simp [one1, tl]
        have hszn : x.cps.size = (tl x).length := by simp [tl]
        refine loopT ((W _ hh3).toS) s.heap.objs.size
          hSf (one1 (tl x)) hsz (by rw [hszn]; exact hn) (fun i v h => sign_one h) (x.cps.size - 0) 0 _ (by omega) (Nat.zero_le _)
          hst ?hS0 ?hR
        case hS0 => exact setT_fresh (Heap.get?_push_of_some _ hS)
        case hR =>
          intro s' hm hS'
          obtain ⟨h', g', d', tk', os'⟩ := s'
          have eg : g' = s.gens := hm.gens
          have ed : d' = s.drawn := hm.drawn
          have eo : os' = s.os := hm.os
          subst eg; subst ed; subst eo
          show wpAny _ _ _ _ _ _
          refine wpAny_pure ?_
          show wpAny _ _ (ret Value.none) _ _ _
          refine wpAny_pure ⟨rfl, h', tk', rfl, hS', fun b o hb e => ?_⟩
          have hb1 : b ≠ s.heap.objs.size := Nat.ne_of_lt hb
          have hb2 : b ≠ (s.heap.push (set0 w)).objs.size := by
            rw [Heap.size_push]; exact Nat.ne_of_lt (Nat.lt_succ_of_lt hb)
          exact hm.heap b o (by simp only [List.mem_cons, List.mem_singleton, List.not_mem_nil, or_false, not_or]; exact ⟨hb1, hb2⟩) (Heap.get?_push_of_some _ (Heap.get?_push_of_some _ e))
      · cases r₂ with
        | error e => exact hr₂
        | ok fl₂ =>
          cases fl₂ with
          | ret r =>
            obtain ⟨rfl, h', tk, rfl, hS', hk'⟩ := hr₂
            repeat (any_goals (first | assumption | wp_step))
            exact h _ _ hS' hk'
          | _ => exact hr₂.elim
    | _ => exact hr.elim
theorem call_setT_list {l : Addr} {items : Array Value} {xs : List Str} {Q : Value → Shared → Prop} (hh : A.handled = none) (hl : s.heap.IsList l items) (hxs : StrsAre items.toList xs) (hn : xs.length + 1 < scanBound) (h : GotT prog w s xs Q) :
    wpAny (model prog w) A (call (.type "set") [.ref l]) Q E s := by
  have hisz : xs.length = items.size := by
    have q := L2.vals_of_strs hxs
    have := q.length
    rw [List.length_map, Array.length_toList] at this
    exact this
  have hval : ∀ (i : Nat) (v : Value), items[i]? = some v → ∃ t, v = .str (xs.getD i Str.empty) t := fun i v hv => strs_get hxs i v (by rw [Array.getElem?_toList]; exact hv)
  obtain ⟨c, tl', hmro⟩ := PySem.F.called_set.mro
  have hmade := PySem.F.called_set.made
  have hsub := PySem.F.called_set.sub
  refine wpAny_call (codeAny_of_tree ?_)
  show wpAny _ _ (callAny (.type "set") _) _ _ _
  refine wpAny_pure ⟨Code.quiet_builtin _ (by decide +kernel), codeAny_builtin PySem.F.entry_type_call ?_⟩
  rw [Around.under_plain (weight_type_call_type "set" [.ref l] []) rfl]
  have h1 := PySem.F.called_set.notType
  have h2 := PySem.F.called_set.canCreate
  have hct := PySem.F.typeCall_set_1 (.ref l)
  repeat (any_goals (first | assumption | wp_step))
  refine codeAny_mono (code_set_led1 (.ref l) (E := E) (Q₁ := fun obj s₁ => obj = .ref s.heap.objs.size ∧ s₁ = { s with heap := s.heap.push (set0 w) }) ⟨rfl, rfl⟩) fun r s₁ hr => ?_
  cases r with
  | error e => exact hr
  | ok fl =>
    cases fl with
    | ret obj =>
      obtain ⟨rfl, rfl⟩ := hr
      have hS : (s.heap.push (set0 w)).get? s.heap.objs.size = some (set0 w) := Heap.get?_push_size _ rfl
      have hT : Shared.TypeIs { s with heap := s.heap.push (set0 w) } (.ref s.heap.objs.size) "set" := ⟨_, hS, rfl⟩
      have hli := PySem.F.called_set.init.lookup
      have hbi := PySem.F.called_set.init.bind (.ref s.heap.objs.size)
      repeat (any_goals (first | assumption | wp_step))
      refine codeAny_mono (codeAny_call_builtin (R := wants (fun r s₂ => r = .none ∧ ∃ h' tk, s₂ = { s with heap := h', toks := tk } ∧ SetT prog w h' s.heap.objs.size (tin xs) (dn xs) ∧
          (∀ b o, b < s.heap.objs.size → s.heap.get? b = some o → h'.get? b = some o)) E) PySem.F.called_set.init.plain PySem.F.entry_set_init (check_set_init_1 hT ?_)) fun r₂ s₂ hr₂ => ?_
      · obtain ⟨ol, hol, hcl, nl, hdl⟩ := hl
        obtain ⟨ocls, odict, odata, oslots⟩ := ol
        simp only at hcl hdl
        subst hcl; subst hdl
        have hol' : (s.heap.push (set0 w)).get? l = some { cls := .type "list", dict := odict, data := .seq items nl, slots := oslots } := Heap.get?_push_of_some _ hol
        have hsls := PySem.F.sub_list_set
        have hslf := PySem.F.sub_list_frozenset
        have hne : (Value.type "list" == Value.type "dict") = false := by decide
        have hl1 : (s.heap.push (set0 w)).IsList l items := ⟨_, hol', rfl, nl, rfl⟩
        unfold Builtin.«set.__init__» noKeywords Builtin.Frozenset.updateFrom
        generalize hPI : pyIter = PI
        wp_walk
        subst hPI
        refine wpAny_pyIter_list hl1 ?_
        refine wpAny_bind (wpAny_runValue ?_)
        have hlS : l < s.heap.objs.size := Heap.lt_size hol
        have hh3 : A.in1.in1.in1.handled = none := by simp [hh]
        have hneI : l ≠ (s.heap.push (set0 w)).objs.size := by rw [Heap.size_push]; exact Nat.ne_of_lt (Nat.lt_succ_of_lt hlS)
        have hSf : s.heap.objs.size ∉ [(s.heap.push (set0 w)).objs.size, l] := by
          rw [Heap.size_push]; simp only [List.mem_cons, List.mem_singleton, List.not_mem_nil, or_false, not_or]
          exact ⟨Nat.ne_of_lt (Nat.lt_succ_self _), Nat.ne_of_gt hlS⟩
        refine loopT ((Walks.list hh3 _ l hneI items).toS) s.heap.objs.size hSf xs hisz (by rw [← hisz]; exact hn) hval (items.size - 0) 0 _ (by omega) (Nat.zero_le _)
          ⟨⟨_, Heap.get?_push_size _ rfl, rfl, rfl⟩, (hl1.push _)⟩ ?hS0 ?hR
        case hS0 => exact setT_fresh (Heap.get?_push_of_some _ hS)
        case hR =>
          intro s' hm hS'
          obtain ⟨h', g', d', tk', os'⟩ := s'
          have eg : g' = s.gens := hm.gens
          have ed : d' = s.drawn := hm.drawn
          have eo : os' = s.os := hm.os
          subst eg; subst ed; subst eo
          show wpAny _ _ _ _ _ _
          refine wpAny_pure ?_
          show wpAny _ _ (ret Value.none) _ _ _
          refine wpAny_pure ⟨rfl, h', tk', rfl, hS', fun b o hb e => ?_⟩
          have hb1 : b ≠ s.heap.objs.size := Nat.ne_of_lt hb
          have hb2 : b ≠ (s.heap.push (set0 w)).objs.size := by rw [Heap.size_push]; exact Nat.ne_of_lt (Nat.lt_succ_of_lt hb)
          exact hm.heap b o (by simp only [List.mem_cons, List.mem_singleton, List.not_mem_nil, or_false, not_or]; exact ⟨hb1, hb2⟩) (Heap.get?_push_of_some _ (Heap.get?_push_of_some _ e))
      · cases r₂ with
        | error e => exact hr₂
        | ok fl₂ =>
          cases fl₂ with
          | ret r =>
            obtain ⟨rfl, h', tk, rfl, hS', hk'⟩ := hr₂
            repeat (any_goals (first | assumption | wp_step))
            exact h _ _ hS' hk'
          | _ => exact hr₂.elim
    | _ => exact hr.elim
end
end Ta

set_option Elab.async false
set_option linter.all false
set_option maxRecDepth 100000
set_option maxHeartbeats 3200000
namespace Ta
open PySem PySem.Spec PyProof.Rows L2

/-! ### sorted(set(x)) -/
section
variable {prog : Program} {w : World} {A : Around} {E : Value → Shared → Prop} {s : Shared}
theorem strs_of : ∀ {us : List Value}, (∀ v ∈ us, ∃ y t, v = Value.str y t) → ∃ xs, StrsAre us xs
  | [], _ => ⟨[], .nil⟩
  | v :: us, h => by
    obtain ⟨y, t, rfl⟩ := h v List.mem_cons_self
    obtain ⟨xs, r⟩ := strs_of (us := us) fun v hv => h v (List.mem_cons_of_mem _ hv)
    exact ⟨y :: xs, .cons y t r⟩
def vtx (v : Value) : Str := match v with | .str y _ => y | _ => Str.empty
theorem strs_map : ∀ {us : List Value} {xs : List Str}, StrsAre us xs → us.map vtx = xs
  | _, _, .nil => rfl
  | _, _, .cons y t r => by rw [List.map_cons, strs_map r]; rfl
theorem sorted_setT {p : Addr} {T : Str → Bool} {m : Nat} {Q : Value → Shared → Prop} (R : SetT prog w s.heap p T m) (hh : A.handled = none) (h64 : m < 64)
    (hQ : ∀ s' q (out : Array Value) (c : Nat) (ys : List Str), (∀ b o, s.heap.get? b = some o → s'.heap.get? b = some o) → s'.gens = s.gens → s'.os = s.os → s.heap.objs.size ≤ q →
      s'.heap.get? q = some (seqObj "list" out c) → StrsAre out.toList ys → sortedS ys = true → ys.Nodup → (∀ y, y ∈ ys ↔ T y = true) → ys.length = m → Q (.ref q) s') :
    wpAny (model prog w) A (call (.builtin "sorted") [.ref p]) Q E s := by
  obtain ⟨ob, xs, n, tb, h1, h2, h3, ⟨g1, g2, g3⟩, ⟨c1, c2, c3⟩, ri, ld⟩ := R
  refine Calls.call_function_entry PyProof.Rows.kind_sorted PyProof.Rows.plain_sorted PyProof.Rows.entry_sorted (PyProof.Rows.args_sorted1 _) ?_
  unfold Builtin.«sorted»
  refine wpAny_bind (m := checkCount "sorted" 1 1 _) (wpAny_pure ?_)
  refine wpAny_bind (collect_set (A := A.in1) hh ⟨ob, h1, h2.1, h3⟩ c2 c1 ri ld fun s1 vs k1 hz e1 e2 pm => ?_)
  have hvl : vs.length = m := by rw [pm.length_eq, List.length_map, Array.length_toList]; exact c3
  obtain ⟨zs, hS⟩ := strs_of (us := vs) fun v hv => by
    obtain ⟨e, he, q⟩ := List.mem_map.mp (pm.mem_iff.mp hv)
    obtain ⟨y, t, q1, _⟩ := g1 e he
    exact ⟨y, t, by rw [← q]; exact q1⟩
  have pz : zs.Perm (xs.toList.map txOf) := by
    have q := pm.map vtx
    rw [strs_map hS, List.map_map] at q
    exact q
  refine wpAny_bind (wpAny_newList ?_ (by rw [hvl, sizeLine_eq]; omega))
  have hoL : (s1.heap.push (seqObj "list" vs.toArray 0)).get? s1.heap.objs.size = some (seqObj "list" vs.toArray 0) := Heap.get?_push_size _ rfl
  refine wpAny_bind (wpAny_holding (wpAny_call_entry PyProof.Rows.slot_list_sort ⟨_, hoL, rfl⟩ PyProof.Rows.entry_list_sort
    (list_sort_treeK strKind_oneLt (s := { s1 with heap := s1.heap.push (seqObj "list" vs.toArray 0) }) hoL hS.keysOf (fun v₁ v₂ rest e => keyKind_strs (by rw [← e]; exact hS)) (by rw [hvl]; exact h64) fun st' hp hs => ⟨_, rfl, ?_⟩)
    (PyProof.Rows.args_list_sort _)))
  obtain ⟨ys, u1, u2, u3⟩ := sorted_out_str hS hp hs
  obtain ⟨c, hc⟩ := PyProof.Rows.sortedHeap_at (vs := vs) (out := (arrOf st').map (·.2)) hoL
  have pn : ys.Perm (xs.toList.map txOf) := u2.trans pz
  refine wpAny_pure ⟨_, rfl, hQ _ s1.heap.objs.size _ c ys (fun b u e => ?_) e1 e2 hz hc u1 u3 (pn.nodup_iff.mpr g2) (fun y => by rw [pn.mem_iff, ← g3 y]) ?_⟩
  · have q := k1 b u e
    have hlt := Heap.lt_size q
    show (PyProof.Rows.sortedHeap (s1.heap.push (seqObj "list" vs.toArray 0)) s1.heap.objs.size vs ((arrOf st').map (·.2))).get? b = some u
    rw [PyProof.Rows.sortedHeap_old (Nat.ne_of_lt hlt) (by rw [size_push']; exact Nat.lt_succ_of_lt hlt)]
    exact Heap.get?_push_of_some _ q
  · rw [pn.length_eq, List.length_map, Array.length_toList]; exact c3
end
/-- a list of texts -/
structure txs (vs : List V) (k : List Str → Prop) : Prop where
  out : ∃ xs : List Str, vs = xs.map V.str ∧ k xs
theorem txs_i {xs : List Str} {k : List Str → Prop} (q : k xs) : txs (xs.map V.str) k := by refine ⟨?_⟩; exact ⟨xs, rfl, q⟩
theorem txs_l {ks : List (List Nat)} {k : List Str → Prop} (q : k (ks.map S)) : txs (ks.map fun l => V.str (S l)) k := by
  refine ⟨?_⟩; exact ⟨ks.map S, by rw [List.map_map]; rfl, q⟩
theorem txs_e {vs : List V} {k : List Str → Prop} (h : txs vs k) : ∃ xs : List Str, vs = xs.map V.str ∧ k xs := by replace h := h.out; exact h
def zSS (x : V) (H : Hp) (Q : VK) : Prop := match x with
  | .str z => (tl z).length < 64 ∧ ∀ p, H p = none → Q (.ref p) (upd H p (.lst (sgn (srt (tl z).eraseDups))))
  | .ref l => look H l fun o => (match o with
    | some (.lst vs) => txs vs fun xs => xs.length < 64 ∧ ∀ ys p, sortedS ys = true → ys.Nodup → (∀ y, y ∈ ys ↔ y ∈ xs) → H p = none → Q (.ref p) (upd H p (.lst (ys.map V.str)))
    | _ => False)
  | _ => False
def tSS (ta : TE) : TE := fun σ H Q => ta σ H fun x H1 => zSS x H1 Q
section
variable {X : Cx} {a : Expr} {ta : TE} {p p2 q pos : Pos}
theorem tin_mem (xs : List Str) (y : Str) : tin xs y = true ↔ y ∈ xs := by
  unfold tin
  rw [List.any_eq_true]
  exact ⟨fun ⟨z, h1, h2⟩ => by rw [← eq_of_beq h2]; exact h1, fun h => ⟨y, h, by simp⟩⟩
theorem nd_dups {α : Type} [BEq α] [LawfulBEq α] (l : List α) : l.eraseDups.Nodup := by
  suffices h : ∀ (n : Nat) (l : List α), l.length ≤ n → l.eraseDups.Nodup from h _ l (Nat.le_refl _)
  intro n
  induction n with
  | zero => intro l h; rw [List.length_eq_zero_iff.mp (Nat.le_zero.mp h)]; exact .nil
  | succ n ih =>
    intro l h
    cases l with
    | nil => exact .nil
    | cons a l =>
      rw [List.eraseDups_cons]
      refine List.nodup_cons.mpr ⟨fun hm => ?_, ih _ (Nat.le_trans (List.length_filter_le _ _) (by simpa using h))⟩
      rw [List.mem_eraseDups, List.mem_filter] at hm
      simp at hm
theorem one1_mem (l : List Nat) (c : Nat) : S [c] ∈ one1 l ↔ c ∈ l := by
  unfold one1
  rw [List.mem_map]
  exact ⟨fun ⟨d, h1, h2⟩ => by rw [← S1_inj _ _ h2]; exact h1, fun h => ⟨c, h, rfl⟩⟩
theorem end_SS {pins : List (Addr × Obj)} {σ : St} {H : Hp} {s : Shared} {Q : VK} {p : Addr} {T : Str → Bool} {m : Nat} (I : Inv X pins σ H s) (hc : X.calm = true) (R : SetT X.prog X.w s.heap p T m) (h64 : m < 64)
    (h : ∀ ys q, sortedS ys = true → ys.Nodup → (∀ y, y ∈ ys ↔ T y = true) → H q = none → Q (.ref q) (upd H q (.lst (ys.map V.str)))) :
    wpAny (model X.prog X.w) X.A (call (.builtin "sorted") [.ref p]) (EP X pins σ Q) X.xe s := by
  refine sorted_setT R (I.ok.hd hc) h64 fun s' q out c ys k g o hq hg hs h1 h2 h3 hl => ?_
  have hlen : (ys.map V.str).length ≤ sizeLine := by rw [List.length_map, hl, sizeLine_eq]; omega
  have hn : H q = none := I.hok.fresh hq
  have J : Inv X pins σ (upd H q (.lst (ys.map V.str))) { s with heap := s'.heap, gens := s'.gens, drawn := s'.drawn, toks := s'.toks } :=
    I.call (ch := []) (Un.laid k hq hn) (I.hok.laid k hq ⟨hlen, out.toList, c, vals_of_strs hs, hg⟩) (by rw [g]; exact I.bare) (fun _ z => nomatch z)
  have e : s' = { s with heap := s'.heap, gens := s'.gens, drawn := s'.drawn, toks := s'.toks } := by
    cases s'; cases s; cases o; rfl
  rw [e]
  exact ⟨.ref q, _, J, rfl, h ys q h1 h2 h3 hn⟩
theorem pss_set (hc : X.calm = true) (hm : X.mg "sorted" = none) (hm2 : X.mg "set" = none) (ha : PE X a ta) (hg : Gl X "sorted" := by rfl) (hg2 : Gl X "set" := by rfl)
    (na : starEach [a] X.env = (false, eval a X.env) :: starEach [] X.env := by rfl) : PE X (.Call (.Name "sorted" p) [.Call (.Name "set" p2) [a] [] q] [] pos) (tSS ta) := by
  refine ⟨fun pins s σ H Q I h => ?_⟩
  refine Call_ (ld_blt I hg hm boot_sorted ?_)
  refine PyProof.Rows.callWith_builtin1 (PyProof.Rows.args_cons ?_ rfl) rfl rfl
  refine Call_ (ld_blt I hg2 hm2 boot_set ?_)
  refine PyProof.Rows.callWith_type1 (PyProof.Rows.args_cons (thn (ha.run pins s σ H _ I h) fun v s1 hv => PyProof.Rows.args_nil ?_) na) na rfl
  obtain ⟨x, H1, I1, r1, q1⟩ := hv
  cases x with
  | str z =>
    obtain ⟨h1, q1⟩ := q1
    obtain ⟨t, rfl⟩ := r1
    refine call_setT_text (I1.ok.hd hc) (by unfold scanBound; omega) fun h' tk hS hk => ?_
    refine PyProof.Rows.args_nil ?_
    have hdn := dn_le (one1 (tl z))
    have hol : (one1 (tl z)).length = (tl z).length := by simp [one1]
    have I2 : Inv X pins σ H1 { s1 with heap := h', toks := tk } := I1.kept fun b o e => hk b o (Heap.lt_size e) e
    refine end_SS I2 hc hS (by omega) fun ys q g1 g2 g3 g4 => ?_
    have pm : ys.Perm ((tl z).eraseDups.map fun c => S [c]) := by
      refine (List.perm_ext_iff_of_nodup g2 ?_).mpr fun y => ?_
      · exact List.Pairwise.map _ (fun a b hn e => hn (S1_inj _ _ e)) (nd_dups _)
      · rw [g3 y, tin_mem]
        unfold one1
        simp only [List.mem_map, List.mem_eraseDups]
    obtain ⟨l', rfl, pl⟩ := perm_map_inv pm
    have el : l' = srt (tl z).eraseDups := srt_uniq pl (sorted_one l' g1)
    subst el
    have ev : ((srt (tl z).eraseDups).map fun c => S [c]).map V.str = sgn (srt (tl z).eraseDups) := by unfold sgn; rw [List.map_map]; rfl
    rw [ev]
    exact q1 q g4
  | ref l =>
    have q1 := look_e q1
    cases ea : H1 l with
    | none => rw [ea] at q1; exact q1.elim
    | some ob =>
      rw [ea] at q1
      cases ob with
      | lst vs =>
        obtain ⟨xs, rfl, h1, q2⟩ := txs_e q1
        obtain rfl : v = Value.ref l := r1
        obtain ⟨its, rv, pl, hz⟩ := I1.list (SqL.of ea)
        have hxs : StrsAre its xs := strs_of_vals rv
        refine call_setT_list (I1.ok.hd hc) pl.isList hxs (by unfold scanBound; omega) fun h' tk hS hk => ?_
        refine PyProof.Rows.args_nil ?_
        have hdn := dn_le xs
        have I2 : Inv X pins σ H1 { s1 with heap := h', toks := tk } := I1.kept fun b o e => hk b o (Heap.lt_size e) e
        exact end_SS I2 hc hS (by omega) fun ys q g1 g2 g3 g4 => q2 ys q g1 g2 (fun y => by rw [g3 y, tin_mem]) g4
      | _ => exact q1.elim
  | _ => exact False.elim q1
end
end Ta

set_option Elab.async false
set_option linter.all false
set_option maxRecDepth 100000
set_option maxHeartbeats 3200000
namespace Ta
open PySem PySem.Spec PyProof.Rows L2 PySem.W

/-! ### sorted(x, key=len) -/
def slen (xs : List Str) : List Str := xs.mergeSort fun a b => decide (a.length ≤ b.length)
abbrev kLen (x : Str) : PyData := .int x.length
theorem dataLe_len (a b : Str) : PySem.W.dataLe false kLen a b = decide (a.length ≤ b.length) := by
  unfold PySem.W.dataLe PySem.W.sortLe
  show (!lexLt itemOrd (keyToks (kLen b)) (keyToks (kLen a))) = _
  have e : ∀ z : Str, keyToks (kLen z) = [.inl (z.length : Int)] := fun z => by show keyToks (.int z.length) = _; rw [keyToks]
  rw [e, e]
  have e2 : lexLt itemOrd [.inl (b.length : Int)] [.inl (a.length : Int)] = decide ((b.length : Int) < a.length) := by
    unfold PyProof.Rows.lexLt
    simp [itemLt, PyProof.Rows.lexLt]
  rw [e2]
  by_cases h : a.length ≤ b.length
  · rw [decide_eq_true h, decide_eq_false (by omega)]; rfl
  · rw [decide_eq_false h, decide_eq_true (by omega)]; rfl
theorem slen_eq (xs : List Str) : xs.mergeSort (PySem.W.dataLe false kLen) = slen xs := by
  unfold slen
  congr 1
  funext a b
  exact dataLe_len a b
def zSL (x : V) (H : Hp) (Q : VK) : Prop := match x with
  | .ref l => look H l fun o => (match o with
    | some (.lst vs) => txs vs fun xs => xs.length < 1000000 ∧ (∀ y ∈ xs, y.length < 1000000) ∧ ∀ p, H p = none → Q (.ref p) (upd H p (.lst ((slen xs).map V.str)))
    | _ => False)
  | _ => False
def tSL (t : TA) : TE := fun σ H Q => t σ H fun vs H1 => one vs fun x => zSL x H1 Q
section
variable {X : Cx} {a : Expr} {t : TA} {p p2 kp pos : Pos}
theorem each_strs : ∀ {us : List Value} {xs : List Str}, StrsAre us xs → EachIs (fun v x => ∃ t, v = Value.str x t) us xs
  | _, _, .nil => .nil
  | _, _, .cons y t r => .cons ⟨t, rfl⟩ (each_strs r)
theorem strs_each : ∀ {us : List Value} {xs : List Str}, EachIs (fun v x => ∃ t, v = Value.str x t) us xs → StrsAre us xs
  | _, _, .nil => .nil
  | _, _, .cons ⟨t, e⟩ r => by subst e; exact .cons _ t (strs_each r)
theorem ps_len {lv : Nat} (hr : Room lv X.A) (hm : X.mg "sorted" = none) (hm2 : X.mg "len" = none) (ha : PA X [a] t) (hg : Gl X "sorted" := by rfl) (hg2 : Gl X "len" := by rfl)
    (na : ∀ pos, backTo pos (starEach [a] X.env) = (false, eval a X.env) :: backTo pos (starEach [] X.env) := by exact fun _ => rfl) (hpl : ∀ pos, (backTo pos (starEach [a] X.env)).any (·.1) = false := by exact fun _ => rfl) :
    PE X (.Call (.Name "sorted" p) [a] [⟨some "key", .Name "len" p2, kp⟩] pos) (tSL t) := by
  refine ⟨fun pins s σ H Q I h => ?_⟩
  refine wpAny_Call_Name_kw (ld_blt I hg hm boot_sorted ?_)
  refine PyProof.Rows.callWith_kw (thn (ha.run pos pins s σ H _ I h) fun us s1 hv => ?_) (na pos) (hpl pos) rfl rfl
  obtain ⟨vs, H1, I1, r1, q1⟩ := hv
  obtain ⟨x, rfl, q1⟩ := one_e q1
  obtain ⟨u, rfl, rx⟩ := vals1 r1
  refine wpAny_evalAll_cons (wpAny_bind (ld_blt I1 hg2 hm2 boot_len (wpAny_bind (wpAny_standAt (wpAny_pure (wpAny_evalAll_nil ?_))))))
  have I2 := I1
  cases x with
  | ref l =>
    have q1 := look_e q1
    cases ea : H1 l with
    | none => rw [ea] at q1; exact q1.elim
    | some ob =>
      rw [ea] at q1
      cases ob with
      | lst vs =>
        obtain ⟨xs, rfl, h1, h2, q2⟩ := txs_e q1
        obtain rfl : u = Value.ref l := rx
        obtain ⟨its, rv, pl, hz⟩ := I1.list (SqL.of ea)
        have hxs : StrsAre its xs := strs_of_vals rv
        have hkd : ∀ x ∈ xs, X.A.units + 2 + (kLen x).depth < cLine := by
          intro x hx
          have := hr.un
          show X.A.units + 2 + PyData.depth (.int x.length) < cLine
          rw [PyData.depth]
          omega
        refine PySem.W.sorted_key_data (k := kLen) (R := fun v x => ∃ t, v = Value.str x t) (b := false) pl.isList (each_strs hxs) ?_ ?_ (by rw [sizeLine_eq]; omega) hkd (PyProof.Rows.ksk_s1 _ _) (fun _ => PyProof.Rows.ksk_l1 _ _) (PyProof.Rows.ksk_t4 "len") ?_ ?_
        · intro d hd d' hd'
          obtain ⟨x, _, rfl⟩ := List.mem_map.mp hd
          obtain ⟨y, _, rfl⟩ := List.mem_map.mp hd'
          show alike (.int x.length) (.int y.length) = true
          rw [alike]
        · refine .inr fun d hd => ?_
          obtain ⟨x, _, rfl⟩ := List.mem_map.mp hd
          exact ⟨fun z => (by cases z), fun ys z => (by cases z)⟩
        · rintro v x ⟨t, rfl⟩ hx h tk _
          have hn := line63
          have hx2 := h2 x hx
          have hx3 : x.length < 2 ^ 63 := by omega
          refine len_str (s := { s1 with heap := h, toks := tk }) (by omega) ?_
          exact ⟨h, _, rfl, fun b o e => e, Reads.int _ _⟩
        · intro out c h' tk hk hf hg3 hl hE
          rw [slen_eq] at hE
          have hs := strs_each hE
          have hlen : ((slen xs).map V.str).length ≤ sizeLine := by unfold slen; rw [List.length_map, List.length_mergeSort, sizeLine_eq]; omega
          exact ⟨.ref _, _, I2.laid (t' := tk) hk (Nat.le_succ _) (show ObjOk X.prog X.w _ h' _ (.lst ((slen xs).map V.str)) from ⟨hlen, out, c, vals_of_strs hs, hg3⟩), rfl, q2 _ (I2.hok.fresh (Nat.le_succ _))⟩
      | _ => exact q1.elim
  | _ => exact False.elim q1
end
end Ta

set_option Elab.async false
set_option linter.all false
set_option maxRecDepth 100000
set_option maxHeartbeats 1000000
namespace Ta
open PySem PySem.Spec PyProof.Rows L2

/-- a list of truth values -/
structure bls (vs : List V) (k : List Bool → Prop) : Prop where
  out : ∃ bs : List Bool, vs = bs.map V.bl ∧ k bs
theorem bls_i {bs : List Bool} {k : List Bool → Prop} (q : k bs) : bls (bs.map V.bl) k := by refine ⟨?_⟩; exact ⟨bs, rfl, q⟩
theorem bls_f {α : Type} {l : List α} {f : α → Bool} {k : List Bool → Prop} (q : k (l.map f)) : bls (l.map fun c => V.bl (f c)) k := by refine ⟨?_⟩; exact ⟨l.map f, by rw [List.map_map]; rfl, q⟩
theorem bls_e {vs : List V} {k : List Bool → Prop} (h : bls vs k) : ∃ bs : List Bool, vs = bs.map V.bl ∧ k bs := by replace h := h.out; exact h
def zAllP (K : PySem.W.Frag) : List V → Hp → VK → Prop := fun xs H Q => one xs fun x => match x with
  | .ref p => look H p fun o => (match o with
    | some (.lst vs) => bls vs fun bs => Q (.bl (bs.all id)) H
    | _ => False)
  | _ => False
def zAnyP (K : PySem.W.Frag) : List V → Hp → VK → Prop := fun xs H Q => one xs fun x => match x with
  | .ref p => look H p fun o => (match o with
    | some (.lst vs) => bls vs fun bs => Q (.bl (bs.any id)) H
    | _ => False)
  | _ => False
section
variable {X : Cx}
theorem crall (hc : X.calm = true) : CallR X (.builtin "all") (zAllP X.K) := cr_imp (cr_all hc) fun xs H Q h => by
  obtain ⟨x, rfl, h⟩ := one_e h
  cases x with
  | ref p =>
    have h := look_e h
    cases e : H p with
    | none => rw [e] at h; exact h.elim
    | some o =>
      rw [e] at h
      cases o with
      | lst vs =>
        obtain ⟨bs, rfl, q⟩ := bls_e h
        exact ⟨p, bs, rfl, SqL.of e, q⟩
      | _ => exact h.elim
  | _ => exact h.elim
theorem crany (hc : X.calm = true) : CallR X (.builtin "any") (zAnyP X.K) := cr_imp (cr_any hc) fun xs H Q h => by
  obtain ⟨x, rfl, h⟩ := one_e h
  cases x with
  | ref p =>
    have h := look_e h
    cases e : H p with
    | none => rw [e] at h; exact h.elim
    | some o =>
      rw [e] at h
      cases o with
      | lst vs =>
        obtain ⟨bs, rfl, q⟩ := bls_e h
        exact ⟨p, bs, rfl, SqL.of e, q⟩
      | _ => exact h.elim
  | _ => exact h.elim
end
/-- [e for c in text], e pure -/
theorem lcp_T {l : List Nat} {i : Nat} {te : TE} {σ : St} {H1 : Hp} {Q : VK} {vs : List Nat} (f : Nat → V) (hl : l.length < 1000000)
    (he : ∀ c D H' Q', H1 D = none → c ∈ l → (∃ ys, H' = upd H1 D (.lst ys)) → Q' (f c) H' → te ((wipe σ vs).set i (some (.str (S [c])))) H' Q')
    (hw : ∀ v, wipe ((wipe σ vs).set i v) vs = wipe σ vs) (q : ∀ D, H1 D = none → Q (.ref D) (upd H1 D (.lst (l.map f)))) : lcp l.length (itS l) (fun _ => True) (gName i) tYes te vs σ H1 Q := by
  refine lcp_i (fun D k H => H = upd H1 D (.lst ((l.take k).map f))) (fun D hD => rfl) (fun D k H hD _ e => trivial) ?_ ?_
  · rintro D k x H H' hD hk rfl hi
    obtain ⟨rfl, c, hc, rfl⟩ := hi
    refine ⟨hw _, ?_⟩
    unfold tYes; dsimp only
    rw [if_pos rfl]
    refine he c D _ _ hD (List.mem_of_getElem? hc) ⟨_, rfl⟩ ⟨_, upd_at, ?_, ?_⟩
    · rw [List.length_map, List.length_take, sizeLine_eq]; omega
    · rw [upd_tw, List.take_succ, hc]
      simp
  · rintro D H hD rfl
    rw [List.take_length]
    exact q D hD
/-- .. over a list of texts that stands -/
theorem lcp_TL {ks : List (List Nat)} {p : Addr} {i : Nat} {te : TE} {σ : St} {H1 : Hp} {Q : VK} {vs : List Nat} (hp : H1 p = some (.lst (ks.map fun k => V.str (S k))))
    (f : List Nat → V) (hl : ks.length < 1000000) (he : ∀ c D H' Q', H1 D = none → c ∈ ks → (∃ ys, H' = upd H1 D (.lst ys)) → Q' (f c) H' → te ((wipe σ vs).set i (some (.str (S c)))) H' Q')
    (hw : ∀ v, wipe ((wipe σ vs).set i v) vs = wipe σ vs) (q : ∀ D, H1 D = none → Q (.ref D) (upd H1 D (.lst (ks.map f)))) : lcp (ks.map fun k => V.str (S k)).length (itL (ks.map fun k => V.str (S k))) (fun H' => H' p = some (.lst (ks.map fun k => V.str (S k)))) (gName i) tYes te vs σ H1 Q := by
  refine lcp_ML hp (fun v => match v with
    | .str c => f (tl c)
    | v => v) (by rw [List.length_map]; exact hl) ?_ hw ?_
  · rintro x D H' Q' hD hx hH hQ
    obtain ⟨c, hc, rfl⟩ := List.mem_map.mp hx
    exact he c D H' Q' hD hc hH hQ
  · intro D hD
    have e : (ks.map fun k => V.str (S k)).map (fun v => match v with
      | .str c => f (tl c)
      | v => v) = ks.map f := by rw [List.map_map]; rfl
    rw [e]
    exact q D hD
/-! ### == of tuples and lists of texts, numbers, truth values, None -/
def flt (v : V) : Option PyData := match v with
  | .non => some .none
  | .bl b => some (.bool b)
  | .int i => some (.int i)
  | .str x => if x.cps.all (· < 0x110000) then some (.str x) else none
  | _ => none
theorem ascii_ok {l : List Nat} (h : ∀ c ∈ l, c < 128) : (S l).cps.all (· < 0x110000) = true := by
  rw [Array.all_eq_true]
  intro i hi
  have : l[i]'hi ∈ l := List.getElem_mem hi
  exact decide_eq_true (Nat.lt_trans (h _ this) (by decide))
theorem flt_s {l : List Nat} (h : ∀ c ∈ l, c < 128) : flt (.str (S l)) = some (.str (S l)) := by
  show (if (S l).cps.all (· < 0x110000) then some (PyData.str (S l)) else none) = _
  rw [if_pos (ascii_ok h)]
theorem flt_str {x : Str} {d : PyData} (h : flt (.str x) = some d) : x.cps.all (· < 0x110000) = true ∧ d = .str x := by
  replace h : (if x.cps.all (· < 0x110000) then some (PyData.str x) else none) = some d := h
  by_cases e : x.cps.all (· < 0x110000) = true
  · rw [if_pos e] at h; exact ⟨e, (Option.some.inj h).symm⟩
  · rw [if_neg e] at h; cases h
theorem flt_dp {K : PySem.W.Frag} {H : Hp} {v : V} {d : PyData} (h : flt v = some d) : Dp K H v d ∧ d.canLay0 = true ∧ d.depth = 0 := by
  cases v with
  | non => cases h; exact ⟨.non, by rw [PyData.canLay0], by rw [PyData.depth]⟩
  | bl b => cases h; exact ⟨.bl b, by rw [PyData.canLay0], by rw [PyData.depth]⟩
  | int i => cases h; exact ⟨.int i, by rw [PyData.canLay0], by rw [PyData.depth]⟩
  | str x =>
    obtain ⟨e, rfl⟩ := flt_str h
    exact ⟨.str x, by rw [PyData.canLay0]; exact e, by rw [PyData.depth]⟩
  | _ => cases h
def flts : List V → Option (List PyData)
  | [] => some []
  | v :: vs => (flt v).bind fun d => (flts vs).map (d :: ·)
theorem flts_dp {K : PySem.W.Frag} {H : Hp} : ∀ {vs : List V} {ds : List PyData}, flts vs = some ds → DpAll K H vs ds ∧ PyData.canLayAll0 ds = true ∧ PyData.depthAll ds = 0
  | [], _, h => by cases h; exact ⟨.nil, by rw [PyData.canLayAll0], by rw [PyData.depthAll]⟩
  | v :: vs, _, h => by
    unfold flts at h
    cases e : flt v with
    | none => rw [e] at h; cases h
    | some d =>
      rw [e] at h
      cases e2 : flts vs with
      | none => rw [e2] at h; cases h
      | some ds =>
        rw [e2] at h
        cases h
        obtain ⟨a1, a2, a3⟩ := flt_dp (K := K) (H := H) e
        obtain ⟨b1, b2, b3⟩ := flts_dp (K := K) (H := H) e2
        exact ⟨.cons a1 b1, by rw [PyData.canLayAll0, a2, b2]; rfl, by rw [PyData.depthAll, a3, b3]; rfl⟩
theorem eqv_refl0 : ∀ {vs : List V} {ds : List PyData}, flts vs = some ds → PyData.eqvAll ds ds = true
  | [], _, h => by cases h; rw [PyData.eqvAll]
  | v :: vs, _, h => by
    unfold flts at h
    cases e : flt v with
    | none => rw [e] at h; cases h
    | some d =>
      rw [e] at h
      cases e2 : flts vs with
      | none => rw [e2] at h; cases h
      | some ds =>
        rw [e2] at h
        cases h
        have h2 := eqv_refl0 e2
        have h1 : PyData.eqv d d = true := by
          cases v with
          | non => cases e; rw [PyData.eqv]
          | bl b => cases e; rw [PyData.eqv]; simp
          | int i => cases e; rw [PyData.eqv]; simp
          | str x =>
            obtain ⟨_, rfl⟩ := flt_str e
            rw [PyData.eqv]; simp
          | _ => cases e
        show PyData.eqvAll (d :: ds) (d :: ds) = true
        rw [PyData.eqvAll, h1, h2]; rfl
/-- two equal tuples -/
theorem eq_tup {K : PySem.W.Frag} {H : Hp} {p r : Addr} {vs : List V} {ds : List PyData} {k : Bool → Prop} (h1 : H p = some (.tup vs)) (h2 : H r = some (.tup vs)) (e : flts vs = some ds) (q : k true) : dpq K (.ref p) (.ref r) H k := by
  obtain ⟨a1, a2, a3⟩ := flts_dp (K := K) (H := H) e
  have sh : SeqAt.shaped (.tuple ds) = true := by
    unfold SeqAt.shaped
    rw [PyData.canLay0, a2, PyData.depth, a3]
    decide
  refine dpq_i (.tup (SqT.of h1) a1) (.tup (SqT.of h2) a1) sh sh ?_
  rw [PyData.eqv, eqv_refl0 e]; exact q
theorem eq_lst {K : PySem.W.Frag} {H : Hp} {p r : Addr} {vs : List V} {ds : List PyData} {k : Bool → Prop} (h1 : H p = some (.lst vs)) (h2 : H r = some (.lst vs)) (e : flts vs = some ds) (q : k true) : dpq K (.ref p) (.ref r) H k := by
  obtain ⟨a1, a2, a3⟩ := flts_dp (K := K) (H := H) e
  have sh : SeqAt.shaped (.list ds) = true := by
    unfold SeqAt.shaped
    rw [PyData.canLay0, a2, PyData.depth, a3]
    decide
  refine dpq_i (.lst (SqL.of h1) a1) (.lst (SqL.of h2) a1) sh sh ?_
  rw [PyData.eqv, eqv_refl0 e]; exact q
theorem flts_s : ∀ {ks : List (List Nat)}, (∀ k ∈ ks, ∀ c ∈ k, c < 128) → flts (ks.map fun k => V.str (S k)) = some (ks.map fun k => PyData.str (S k))
  | [], _ => rfl
  | k :: ks, h => by
    rw [List.map_cons, List.map_cons]
    unfold flts
    rw [flt_s (h k List.mem_cons_self), flts_s fun x hx => h x (List.mem_cons_of_mem _ hx)]
    rfl
end Ta

set_option Elab.async false
set_option linter.all false
set_option maxRecDepth 100000
set_option maxHeartbeats 1000000
namespace Ta
open PySem PySem.Spec PyProof.Rows L2

/-! ### shortlex -/
def bfr (a b : List Nat) : Bool := decide (a.length < b.length) || (decide (a.length = b.length) && decide (a < b))
theorem rising_pw : ∀ (l : List Str) (a : Str), risingS a l = true → (l.Pairwise fun x y => tl x ≤ tl y) ∧ ∀ b ∈ l, tl a ≤ tl b
  | [], a, _ => ⟨.nil, fun _ h => nomatch h⟩
  | b :: l, a, h => by
    simp only [risingS, Bool.and_eq_true] at h
    obtain ⟨h1, h2⟩ := h
    obtain ⟨i1, i2⟩ := rising_pw l b h2
    have hab : tl a ≤ tl b := by
      have z : ltCps (tl b) (tl a) = false := by simpa using h1
      rw [ltCps_eq] at z
      exact List.not_lt.mp (of_decide_eq_false z)
    refine ⟨.cons i2 i1, fun c hc => ?_⟩
    rcases List.mem_cons.mp hc with rfl | hc
    · exact hab
    · exact List.le_trans hab (i2 c hc)
theorem sorted_pw {l : List Str} (h : sortedS l = true) (hn : l.Nodup) : l.Pairwise fun x y => tl x < tl y := by
  have h1 : l.Pairwise fun x y => tl x ≤ tl y := by
    cases l with
    | nil => exact .nil
    | cons a l => exact .cons (rising_pw l a h).2 (rising_pw l a h).1
  exact (List.Pairwise.and h1 hn).imp fun {x y} z => by
    refine Decidable.byContradiction fun hc => z.2 (ext_tl (List.le_antisymm z.1 (List.not_lt.mp hc)))
theorem sub_cons2 {α : Type} {a b x : α} {l : List α} (h : [a, b].Sublist (x :: l)) : [a, b].Sublist l ∨ (a = x ∧ b ∈ l) := by
  cases h with
  | cons _ h => exact .inl h
  | cons_cons _ h => exact .inr ⟨rfl, List.singleton_sublist.mp h⟩
theorem sub_anti {α : Type} {a b : α} : ∀ {l : List α}, l.Nodup → [a, b].Sublist l → [b, a].Sublist l → False
  | [], _, h, _ => by cases h
  | x :: l, hn, h, h' => by
    obtain ⟨n1, n2⟩ := List.nodup_cons.mp hn
    rcases sub_cons2 h with h | ⟨rfl, hb⟩
    · rcases sub_cons2 h' with h' | ⟨e, ha⟩
      · exact sub_anti n2 h h'
      · exact n1 (e ▸ h.subset (List.mem_cons_of_mem _ List.mem_cons_self))
    · rcases sub_cons2 h' with h' | ⟨e, ha⟩
      · exact n1 (h'.subset (List.mem_cons_of_mem _ List.mem_cons_self))
      · exact n1 ha
theorem sub_or {α : Type} {a b : α} : ∀ {l : List α}, a ∈ l → b ∈ l → a ≠ b → [a, b].Sublist l ∨ [b, a].Sublist l
  | x :: l, ha, hb, hne => by
    rcases List.mem_cons.mp ha with e1 | ha2
    · rcases List.mem_cons.mp hb with e2 | hb2
      · exact absurd (e1.trans e2.symm) hne
      · exact .inl (e1 ▸ .cons_cons _ (List.singleton_sublist.mpr hb2))
    · rcases List.mem_cons.mp hb with e2 | hb2
      · exact .inr (e2 ▸ .cons_cons _ (List.singleton_sublist.mpr ha2))
      · exact (sub_or ha2 hb2 hne).imp (.cons _) (.cons _)
theorem slen_perm (l : List Str) : (slen l).Perm l := List.mergeSort_perm _ _
theorem len_tr (a b c : Str) (h1 : decide (a.length ≤ b.length) = true) (h2 : decide (b.length ≤ c.length) = true) : decide (a.length ≤ c.length) = true := by
  simp at *; omega
theorem len_tt (a b : Str) : (decide (a.length ≤ b.length) || decide (b.length ≤ a.length)) = true := by
  simp; omega
theorem slen_ord {l : List Str} (h : sortedS l = true) (hn : l.Nodup) : (slen l).Pairwise fun x y => bfr (tl x) (tl y) = true := by
  have hp := slen_perm l
  have hn2 : (slen l).Nodup := hp.nodup_iff.mpr hn
  have h1 := sorted_pw h hn
  have h2 : (slen l).Pairwise fun a b => decide (a.length ≤ b.length) = true := List.pairwise_mergeSort len_tr len_tt l
  rw [List.pairwise_iff_forall_sublist] at h1 h2 ⊢
  intro a b hs
  have hle := of_decide_eq_true (h2 hs)
  rw [len_tl, len_tl] at hle
  unfold bfr
  by_cases hlt : (tl a).length < (tl b).length
  · rw [decide_eq_true hlt]; rfl
  · have he : (tl a).length = (tl b).length := by omega
    rw [decide_eq_false hlt, decide_eq_true he]
    have hne : a ≠ b := fun e => by
      subst e
      exact sub_anti hn2 hs hs
    have ha : a ∈ l := hp.mem_iff.mp (hs.subset (by simp))
    have hb : b ∈ l := hp.mem_iff.mp (hs.subset (by simp))
    rcases sub_or ha hb hne with z | z
    · rw [decide_eq_true (h1 z)]; rfl
    · exfalso
      have : [b, a].Sublist (slen l) := List.pair_sublist_mergeSort len_tr len_tt (decide_eq_true (by rw [len_tl, len_tl]; omega)) z
      exact sub_anti hn2 hs this
theorem pf_len {α : Type} {l m : List α} (hn : l.Nodup) (hs : ∀ c ∈ l, c ∈ m) : l.length ≤ m.length := by
  classical
  induction l generalizing m with
  | nil => exact Nat.zero_le _
  | cons a l ih =>
    obtain ⟨h1, h2⟩ := List.nodup_cons.mp hn
    have ha := hs a List.mem_cons_self
    obtain ⟨s, t, rfl⟩ := List.append_of_mem ha
    have := ih (m := s ++ t) h2 fun c hc => by
      have := hs c (List.mem_cons_of_mem _ hc)
      simp only [List.mem_append, List.mem_cons] at this ⊢
      rcases this with z | z | z
      · exact .inl z
      · exact absurd (z ▸ hc) h1
      · exact .inr z
    simp only [List.length_append, List.length_cons] at this ⊢
    omega
structure slx (us zs : List (List Nat)) : Prop where
  sub : ∀ z ∈ zs, z ∈ us
  all : ∀ u ∈ us, u ∈ zs
  ord : zs.Pairwise fun a b => bfr a b = true
  nd : zs.length ≤ us.length
theorem slx_of {us : List (List Nat)} {ys : List Str} (h : sortedS ys = true) (hn : ys.Nodup) (hm : ∀ y, y ∈ ys ↔ y ∈ us.map S) : slx us ((slen ys).map tl) := by
  have hp := slen_perm ys
  refine ⟨fun z hz => ?_, fun u hu => ?_, ?_, ?_⟩
  · obtain ⟨y, hy, rfl⟩ := List.mem_map.mp hz
    obtain ⟨u, hu, e⟩ := List.mem_map.mp ((hm y).mp (hp.mem_iff.mp hy))
    rw [← e]; exact hu
  · exact List.mem_map.mpr ⟨S u, hp.mem_iff.mpr ((hm _).mpr (List.mem_map.mpr ⟨u, hu, rfl⟩)), rfl⟩
  · exact List.Pairwise.map _ (fun a b h => h) (slen_ord h hn)
  · rw [List.length_map, hp.length_eq]
    have := pf_len hn fun y hy => (hm y).mp hy
    rwa [List.length_map] at this
theorem ksl_slen (ys : List Str) : (slen ys).map V.str = ((slen ys).map tl).map fun k => V.str (S k) := by
  rw [List.map_map]; congr 1
/-! ### the first places of signs in order -/
theorem fnd_lt : ∀ {sg : List Nat}, sg.Pairwise (· < ·) → ∀ {c d : Nat}, c ∈ sg → d ∈ sg → (fnd c sg < fnd d sg ↔ c < d)
  | sg, hp, c, d, hc, hd => by
    have key : ∀ {sg : List Nat}, sg.Pairwise (· < ·) → ∀ {c d : Nat}, c ∈ sg → d ∈ sg → c < d → (bef c sg).length < (bef d sg).length := by
      intro sg
      induction sg with
      | nil => intro _ c d hc; cases hc
      | cons a sg ih =>
        intro hp c d hc hd hlt
        obtain ⟨h1, h2⟩ := List.pairwise_cons.mp hp
        rcases List.mem_cons.mp hc with e | hc2
        · subst e
          have : ¬ c = d := by omega
          simp [bef, this]
        · rcases List.mem_cons.mp hd with e | hd2
          · have := h1 c hc2; omega
          · have e1 := h1 c hc2
            have e2 := h1 d hd2
            have n1 : ¬ a = c := by omega
            have n2 : ¬ a = d := by omega
            have := ih h2 hc2 hd2 hlt
            simp only [bef] at this ⊢
            simp [n1, n2]
            simpa using this
    have e1 : fnd c sg = ((bef c sg).length : Int) := if_pos hc
    have e2 : fnd d sg = ((bef d sg).length : Int) := if_pos hd
    rw [e1, e2]
    constructor
    · intro h
      refine Decidable.byContradiction fun hn => ?_
      rcases Nat.lt_or_eq_of_le (Nat.le_of_not_lt hn) with z | z
      · have := key hp hd hc z; omega
      · subst z; omega
    · intro h
      have := key hp hc hd h; omega
theorem fnd_ge {c : Nat} {sg : List Nat} (h : c ∈ sg) : 0 ≤ fnd c sg := by
  have e1 : fnd c sg = ((bef c sg).length : Int) := if_pos h
  rw [e1]; omega
theorem fnd_in {c : Nat} {sg : List Nat} (h : 0 ≤ fnd c sg) : c ∈ sg := by
  refine Decidable.byContradiction fun hn => ?_
  have e1 : fnd c sg = -1 := if_neg hn
  rw [e1] at h; omega
theorem fnd_m1 (c : Nat) (sg : List Nat) : -1 ≤ fnd c sg := by
  unfold fnd; split <;> omega
/-! ### texts in ascending order -/
theorem dd_id {l : List Nat} : l.Pairwise (· < ·) → l.eraseDups = l := by
  induction l with
  | nil => intro _; rfl
  | cons a l ih =>
    intro h
    obtain ⟨h1, h2⟩ := List.pairwise_cons.mp h
    rw [List.eraseDups_cons]
    have e : l.filter (fun b => !b == a) = l := by
      rw [List.filter_eq_self]
      intro b hb
      have := h1 b hb
      have : b ≠ a := by omega
      simp [this]
    rw [e, ih h2]
theorem pw_srt {l : List Nat} : srt l.eraseDups = l ↔ l.Pairwise (· < ·) := by
  constructor
  · intro h
    have hp := srt_pw l.eraseDups
    have hn : (srt l.eraseDups).Nodup := (srt_perm _).nodup_iff.mpr (nd_dups l)
    rw [h] at hp hn
    exact (List.Pairwise.and hp hn).imp fun {x y} z => by omega
  · intro h
    rw [dd_id h]
    exact (srt_uniq (List.Perm.refl l) (h.imp fun z => Nat.le_of_lt z)).symm
theorem srt_lt {l : List Nat} (h : l.Nodup) : (srt l).Pairwise (· < ·) :=
  (List.Pairwise.and (srt_pw l) ((srt_perm l).nodup_iff.mpr h)).imp fun {x y} z => by omega
theorem srt_flt {l v : List Nat} (hl : l.Nodup) (hv : v.Nodup) (hs : ∀ c ∈ v, c ∈ l) : (srt l).filter (fun c => decide (c ∈ v)) = srt v := by
  refine srt_uniq ?_ ((srt_pw l).filter _)
  refine (List.perm_ext_iff_of_nodup (List.Pairwise.filter _ ((srt_perm l).nodup_iff.mpr hl)) hv).mpr fun c => ?_
  rw [List.mem_filter, (srt_perm l).mem_iff, decide_eq_true_eq]
  exact ⟨fun h => h.2, fun h => ⟨hs c h, h⟩⟩
theorem itm_all {α : Type} {xs : List α} {i : Int} {k : α → Prop} (P : α → Prop) (h0 : 0 ≤ i) (h1 : i < (xs.length : Int)) (hP : ∀ x ∈ xs, P x) (q : ∀ x, P x → k x) : itm xs i k :=
  itm_s h0 h1 fun j hj _ => q _ (hP _ (List.getElem_mem hj))
theorem itm_k {ks : List (List Nat)} {i : Int} {k : V → Prop} (h0 : 0 ≤ i) (h1 : i < (ks.length : Int)) (q : ∀ (j : Nat) (hj : j < ks.length), i = (j : Int) → k (.str (S ks[j]))) : itm (ks.map fun k => V.str (S k)) i k := by
  refine itm_s h0 (by rw [List.length_map]; exact h1) fun j hj e => ?_
  rw [List.length_map] at hj
  rw [List.getElem_map]
  exact q j hj e
theorem flat_k : ∀ ks : List (List Nat), (ks.map fun k => V.str (S k)).all flatV = true
  | [] => rfl
  | k :: ks => by rw [List.map_cons, List.all_cons, flat_k ks]; rfl
theorem inV_k (a : List Nat) (ks : List (List Nat)) : inV (.str (S a)) (ks.map fun k => V.str (S k)) = decide (a ∈ ks) := by
  have h := inV_str (S a) (ks.map S)
  rw [List.map_map] at h
  refine h.trans (decide_eq_decide.mpr ?_)
  rw [List.mem_map]
  exact ⟨fun ⟨b, hb, e⟩ => by have : b = a := congrArg tl e; exact this ▸ hb, fun h => ⟨a, h, rfl⟩⟩
theorem lt_app {x y : Nat} {s t : List Nat} (h : x ≠ y) : ∀ p : List Nat, (p ++ x :: s < p ++ y :: t ↔ x < y)
  | [] => by
    rw [List.nil_append, List.nil_append, List.cons_lt_cons_iff]
    exact ⟨fun z => z.resolve_right fun w => h w.1, .inl⟩
  | c :: p => by
    rw [List.cons_append, List.cons_append, List.cons_lt_cons_iff, lt_app h p]
    exact ⟨fun z => z.elim (fun w => absurd w (Nat.lt_irrefl _)) (·.2), fun z => .inr ⟨rfl, z⟩⟩
theorem cut_at {l : List Nat} {i : Nat} (h : i < l.length) : l = l.take i ++ l[i] :: l.drop (i + 1) := by
  rw [← List.drop_eq_getElem_cons h, List.take_append_drop]
theorem pw_at {l : List Nat} {i c : Nat} (hp : l.Pairwise (· < ·)) (h : i < l.length) (hc : c ∈ l.take i) : c < l[i] := by
  rw [cut_at h, List.pairwise_append] at hp
  exact hp.2.2 c hc _ List.mem_cons_self
end Ta

set_option Elab.async false
set_option linter.all false
set_option maxRecDepth 100000
set_option maxHeartbeats 1000000
namespace Ta
open PySem PySem.Spec PyProof.Rows L2 ClX

/-! ### at a def's code: super().m(..) of an own class -/
structure PAt (X : Cx) (body sts : List Stmt) (t : TS) : Prop where
  run : ∀ (pins : List (Addr × Obj)) (s : Shared) (σ : St) (H : Hp) (D : Ends), Inv X pins σ H s → t D σ H → PySem.wpAt (model X.prog X.w) X.A (.func body X.env) (execs sts X.env) (SP X pins D) X.xe s
structure PAs (X : Cx) (body : List Stmt) (st : Stmt) (t : TS) : Prop where
  run : ∀ (pins : List (Addr × Obj)) (s : Shared) (σ : St) (H : Hp) (D : Ends), Inv X pins σ H s → t D σ H → PySem.wpAt (model X.prog X.w) X.A (.func body X.env) (exec st X.env) (SP X pins D) X.xe s
structure PAe (X : Cx) (body : List Stmt) (e : Expr) (t : TE) : Prop where
  run : ∀ (pins : List (Addr × Obj)) (s : Shared) (σ : St) (H : Hp) (Q : VK), Inv X pins σ H s → t σ H Q → PySem.wpAt (model X.prog X.w) X.A (.func body X.env) (eval e X.env) (EP X pins σ Q) X.xe s
section
variable {X : Cx} {body sts rest : List Stmt} {st : Stmt} {t u : TS} {e : Expr} {te : TE} {pos : Pos}
theorem pat_of (h : PSs X sts t) : PAt X body sts t := ⟨fun pins s σ H D I q => PySem.wpAt_of_wpAny (h.run pins s σ H D I q)⟩
theorem pas_of (h : PS X st t) : PAs X body st t := ⟨fun pins s σ H D I q => PySem.wpAt_of_wpAny (h.run pins s σ H D I q)⟩
theorem pat_cons (h : PAs X body st t) (hr : PAt X body rest u) : PAt X body (st :: rest) (tSeq t u) := by
  refine ⟨fun pins s σ H D I q => ?_⟩
  refine PySem.ks_wpAt_execs_cons (PySem.ks_wpAt_mono (h.run pins s σ H _ I q) (fun f s1 h1 => ?_) fun _ _ z => z)
  cases f with
  | next =>
    obtain ⟨σ1, H1, I1, q1⟩ := h1
    exact hr.run pins s1 σ1 H1 D I1 q1
  | ret v => exact h1
  | brk => exact h1
  | cont => exact h1
theorem pat_imp {t' : TS} (h : PAt X body sts t) (i : ∀ D σ H, t' D σ H → t D σ H) : PAt X body sts t' := ⟨fun pins s σ H D I q => h.run pins s σ H D I (i D σ H q)⟩
theorem pas_expr (h : PAe X body e te) (hi : interactive X.env = false := by rfl) (hs : swapsWith e none pos.line X.env = pure false := by rfl) : PAs X body (.Expr e pos) (tDrop te) := by
  refine ⟨fun pins s σ H D I q => ?_⟩
  refine PySem.ks_wpAt_Expr_any (PySem.ks_wpAt_mono (h.run pins s σ H _ I q) (fun v s1 h1 => ?_) fun _ _ z => z) hi hs
  obtain ⟨x, H1, I1, r1, q1⟩ := h1
  exact ⟨σ, H1, I1, q1⟩
/-- what super().m is for an object of class C, said in a def of class D -/
structure Su (P : Program) (w : World) (K : PySem.W.Frag) (mg : Str → Option Value) (base : Heap) (D C : Addr) (m : Str) (lv : Nat) (dvs : List V) (sp : Sp) : Prop where
  ex : ∃ (f : Addr) (fd : FuncData) (ps : List Str) (ds : List Value), FnOk P w K mg base (L2.CX P w) lv f fd ps sp ∧ PySem.W.ks_superIn K C D m = some (some (.ref f)) ∧ PySem.W.typeIn K (.ref f) = some (.type "function") ∧ PySem.W.fnIn K f = true ∧ Vals dvs ds ∧ Binds K fd ps ds
  sub : PySem.W.mroIn K C (.ref D) = some true
  third : PySem.W.nsIn K cStatics "thirdparty.any" = some none
theorem nocls_of {h : Heap} {x C : Addr} {ox : Obj} {od : Option Obj} (J : PySem.W.InstAt h x ox C od) : ∀ c, ox.data ≠ .cls c := fun c z => by
  have := J.no
  unfold PySem.W.notCls at this
  rw [z] at this
  cases this
theorem psup {f D : Addr} {F : NdefX.NF} {dvs : List V} {fd : FuncData} {ms : MS} {m : Str} {lv i : Nat} {W : WX} {t : TA} {p0 p1 p2 p3 : Pos} {es : List Expr} {ar : Arg} {pl : Sem Bool} (SF : SupFn X.prog X.K f F D dvs fd) (hE : X.env = NdefX.envF F f X.env.locals)
    (hsup : X.mg "super" = none) (hp : (F.params.posonlyargs ++ F.params.args).head? = some ar) (hN : X.N[i]? = some ar.arg) (hka : F.scope.names.lookup ar.arg = some .local)
    (hks : F.scope.names.lookup ("super" : Str) = some .globalImplicit) (hkc : F.scope.names.lookup ("__class__" : Str) = some .free) (hk : F.scope.kind = .function) (hmc : (m == ("__class__" : Str)) = false)
    (hms : ∀ e ∈ ms, Su X.prog X.w X.K X.mg X.base D e.1 m lv e.2.1 e.2.2) (hr : Room lv X.A) (tk : Takes X W) (ha : PA X (e :: es) t)
    (hst : starEach (e :: es) X.env = (false, eval e X.env) :: starEach es X.env := by rfl) (hpl : (backTo p3 (starEach es X.env)).any (·.1) = false := by rfl)
    (he : eval (.Call (.Attribute (.Call (.Name "super" p0) [] [] p1) m p2) (e :: es) [] p3) X.env = (do
      let ov ← attributeBase (.Call (.Name "super" p0) [] [] p1) m X.env (eval (.Call (.Name "super" p0) [] [] p1) X.env)
      standAt p2.atName
      let (f, first) ← holding [ov] (getMethod ov m pl)
      callWith p3 f first (backTo p3 (starEach (e :: es) X.env)) []) := by rfl) :
    PAe X F.body (.Call (.Attribute (.Call (.Name "super" p0) [] [] p1) m p2) (e :: es) [] p3) (tMe ms m W (tV i) t) := by
  refine ⟨fun pins s σ H Q I h => ?_⟩
  have hV : ∃ x, σ[i]? = some (some x) ∧ (fun x H1 => match x with
      | .ref a => look H1 a fun o => (match o with
        | some (.ins C dx fs) => pick ms C fun dvs sp => fs.lookup m = none ∧ t σ H1 fun vs H2 => sp (.ref a :: (vs ++ dvs)) H2 Q fun c d H' => W c d σ H'
        | _ => False)
      | _ => False) x H := by
    obtain ⟨x, e1, e2⟩ := tV_e h
    exact ⟨x, e1, e2⟩
  obtain ⟨x, hσ, q⟩ := hV
  cases x with
  | ref a =>
    obtain ⟨C, dx, fs, ea, en, hen, eC, l, q⟩ := tMe_e (k := fun dvs sp fs => fs.lookup m = none ∧ t σ H fun vs H2 => sp (.ref a :: (vs ++ dvs)) H2 Q fun c d H' => W c d σ H') q
    obtain ⟨⟨g, gd, ps, ds, FO, hsi, hty, hfn, hvd, hb⟩, hsub, h3⟩ := hms en hen
    subst eC
    obtain ⟨mA, O, _⟩ := ins_get I.hok ea
    obtain ⟨od, J, _⟩ := O.look
    have hnc := nocls_of J
    refine PySem.ks_wpAt_MethodCall (pl := pl) (sup_base SF hE I hsup hp i hN hσ hka J.at_ J.cls hnc hsub hks hkc hk hmc fun so s1 hso kp I1 => ?_) he
    have KX1 : X.K.In s1.heap := I1.kIn
    unfold PySem.W.ks_superIn at hsi
    cases hcl : PySem.W.clsIn X.K en.1 with
    | none => rw [hcl] at hsi; cases hsi
    | some cd =>
      rw [hcl] at hsi
      obtain ⟨of, hof, hofc⟩ : ∃ of, s1.heap.get? g = some of ∧ of.cls = .type "function" := by
        have ht : (X.K.lookup g).map (·.cls) = some (.type "function") := hty
        cases z : X.K.lookup g with
        | none => rw [z] at ht; cases ht
        | some of => rw [z] at ht; exact ⟨of, KX1 _ _ z, Option.some.inj ht⟩
      have hxC : a ≠ en.1 := PySem.W.ks_ne I.kIn J hcl
      obtain ⟨h1, g1, d1, t1', os1⟩ := s1
      refine PySem.ks_wpAny_getMethod_super hso (PySem.W.looks_opaque KX1 h3) (l₀ := cd.mro) ?_ rfl KX1 hsi hof hofc hxC hmc ?_
      · exact fun A Q E s k q => wpAny_bind ((PySem.W.looks_clsIn KX1 hcl) A _ E s k (wpAny_pure q))
      · have I2 : Inv X ((h1.objs.size, PySem.W.methodObj (.ref g) (.ref a)) :: pins) σ H ⟨h1.push (PySem.W.methodObj (.ref g) (.ref a)), g1, d1, t1' + 1, os1⟩ :=
          pin_new I1 (fun _ _ z => Heap.get?_push_of_some _ z) (Nat.le_refl _) (Heap.get?_push_size h1 rfl) (fun v z => nomatch z)
        have hq := pin_at I2
        have hb0 : X.base.get? h1.objs.size = none := base_none I1 (Nat.le_refl _)
        have hL : h1.objs.size ≠ X.env.locals := (I2.pin (h1.objs.size, PySem.W.methodObj (.ref g) (.ref a)) (List.mem_append_right _ List.mem_cons_self)).2.2.1
        refine PySem.W.callWith_M (K := X.K) (h₀ := X.base) (first := []) I.ok.mod.kin (news_at hL hb0 hq) List.mem_cons_self hfn (thn (ha.run p3 _ _ σ H _ I2 q) fun us s2 hv => ?_) hst hpl
        obtain ⟨vs, H2, I3, r, q2⟩ := hv
        refine ⟨⟨pin_at I3, I3.kIn⟩, ?_⟩
        have r2 : Vals ((.ref a :: vs) ++ en.2.1) ((.ref a :: us) ++ ds) := L2.Vals.append (Paired.cons rfl r) hvd
        have hl : ((.ref a :: us) ++ ds).length = ps.length := by rw [← r2.length]; exact FO.len _ _ _ _ q2
        have z : wpAny (model X.prog X.w) X.A (call (.ref h1.objs.size) us) (EP X ((h1.objs.size, PySem.W.methodObj (.ref g) (.ref a)) :: pins) σ Q) X.xe s2 := by
          refine wpAny_call (PySem.W.method_call (pin_at I3) (codeAny_mono (FO.run X.A X.stack s2 H2 ⟨.ref a :: us, []⟩ ((.ref a :: us) ++ ds) ((.ref a :: vs) ++ en.2.1) Q (WE W σ) hr I3.env0 (hb s2 (.ref a :: us) I3.kIn hl) r2 q2) fun r s' hq => ?_))
          cases r with
          | error er => exact passAt tk σ _ _ _ er s' I3 hq
          | ok fl =>
            cases fl with
            | ret u => exact I3.after hq
            | next => exact False.elim hq
            | brk => exact False.elim hq
            | cont => exact False.elim hq
        exact thn z fun _ _ y => unpinE y
  | _ => exact False.elim q
end
section
variable {P : Program} {w : World} {K : PySem.W.Frag} {mg : Str → Option Value} {base : Heap}
theorem fn_supA {f D : Addr} {F : NdefX.NF} {fd : FuncData} {N ps : List Str} {sp : Sp} {k : Nat} {dvs : List V} (SF : SupFn P K f F D dvs fd) (S : NdefX.NScope N ps ["__class__"] F.scope)
    (len : ∀ vs H Q E, sp vs H Q E → vs.length = ps.length)
    (t : WX → TS) (term : ∀ (A : Around) (outer : List Env) (s : Shared) (H : Hp) (E : XK), Room k (A.deeper (NdefX.envF F f s.heap.objs.size)) → PAt (NdefX.ncx (L2.CX P w) P w K mg base N F f A outer s H E) F.body F.body (t (WD E)))
    (rd : ∀ vs H Q E, sp vs H Q E → t (WD E) (EndD Q) (NdefX.startF N vs [some (.ref D)]) H) :
    FnOk P w K mg base (L2.CX P w) (k + 1) f fd ps sp := by
  obtain ⟨cc, oc, od, an, dV, kV, doc, pm, ct, osl, hcl, rfl, lk, hD, cl, cld, csl, hcell⟩ := SF.ex
  refine ⟨len, fun A outer s H args us vs Q E hr e0 hb r hsp => ?_⟩
  have hl := len _ _ _ _ hsp
  have KX : K.In s.heap := e0.mod.kin.keeps fun b o e => (e0.bs b o e).1
  have lim : s.heap.NoLimit := e0.mod.nolimit.keeps fun b o e => (e0.bs b o e).1
  have C : NdefX.CellsAt F.cl ["__class__"] [some (.ref D)] s.heap H := by
    rw [hcl]
    have hK : ∀ y c, ([("__class__", cc)] : List (Str × Addr)).lookup y = some c → y = "__class__" ∧ c = cc := fun y c e => by
      simp only [List.lookup] at e
      split at e
      · rename_i hb; cases e; exact ⟨eq_of_beq hb, rfl⟩
      · cases e
    refine ⟨rfl, fun y c e => ?_, fun x y c e1 e2 => (hK x c e1).1.trans (hK y c e2).1.symm, fun i y e => ?_⟩
    · obtain ⟨_, rfl⟩ := hK y c e
      exact ⟨(e0.bs _ _ (e0.mod.kin _ _ hcell)).2, _, _, KX _ _ hcell, rfl⟩
    · cases i with
      | zero =>
        have e' : y = "__class__" := by simpa using e.symm
        subst e'
        refine ⟨cc, by simp [List.lookup], fun v hv => ?_⟩
        have hv' : V.ref D = v := by simpa using hv
        subst hv'
        exact ⟨.ref D, rfl, _, KX _ _ hcell, rfl⟩
      | succ i => simp at e
  refine PySem.ks_codeAny_call_defAt hr.depth (KX _ _ lk) rfl lim (PySem.W.codeRec_of KX SF.cd) (body := F.body) rfl hb S.nocell (fun ⟨n, v⟩ hy => S.par n (List.of_mem_zip hy).1) (fun h₁ hns kp => ?_) S.co S.gen S.kind
  have ht := term A outer s H E (hr.deeper _)
  have hq := rd _ _ _ _ hsp
  have I : Inv (NdefX.ncx (L2.CX P w) P w K mg base N F f A outer s H E) [] (NdefX.startF N vs [some (.ref D)]) H { s with heap := h₁, toks := s.toks + (ps.zip us).length } := NdefX.inv_startN S hr.hd e0 hl r C hns kp
  have fin : ∀ {s' : Shared} {σ' : L2.St} {H' : Hp} {v : V} {u : Value}, Inv (NdefX.ncx (L2.CX P w) P w K mg base N F f A outer s H E) [] σ' H' s' → RelV v u → Q v H' → CE outer P w H s Q u s' :=
    fun {s' σ' H' v u} J rv q => ⟨v, H', J.os, J.bare, J.base, J.hok, rv, q⟩
  have key : PySem.wpAt (model P w) (A.deeper (NdefX.envF F f s.heap.objs.size)) (.func F.body (NdefX.envF F f s.heap.objs.size)) (execs F.body (NdefX.envF F f s.heap.objs.size))
      (fun fl s' => CR (L2.CX P w) outer P w H s Q E (.ok (.ret (match fl with | .ret v => v | _ => .none))) s') (NdefX.ncx (L2.CX P w) P w K mg base N F f A outer s H E).xe { s with heap := h₁, toks := s.toks + (ps.zip us).length } := by
    refine PySem.ks_wpAt_mono (ht.run [] _ _ H _ I hq) (fun fl s2 h2 => ?_) fun _ _ z => z
    cases fl with
    | ret u =>
      obtain ⟨v, σ', H', J, rv, q⟩ := h2
      exact fin J rv q
    | next =>
      obtain ⟨σ', H', J, q⟩ := h2
      exact fin (v := V.non) (u := Value.none) J rfl q
    | brk =>
      obtain ⟨_, _, _, q⟩ := h2
      exact False.elim q
    | cont =>
      obtain ⟨_, _, _, q⟩ := h2
      exact False.elim q
  exact key
theorem takesN {N : List Str} {F : NdefX.NF} {f : Addr} {A : Around} {outer : List Env} {s : Shared} {H : Hp} {E : XK} :
    Takes (NdefX.ncx (L2.CX P w) P w K mg base N F f A outer s H E) (WD E) := takes_of rfl rfl rfl rfl
theorem ownN {N : List Str} {F : NdefX.NF} {f : Addr} {A : Around} {outer : List Env} {s : Shared} {H : Hp} {E : XK} :
    PassesOwn (model P w) (NdefX.ncx (L2.CX P w) P w K mg base N F f A outer s H E).A (NdefX.ncx (L2.CX P w) P w K mg base N F f A outer s H E).env (NdefX.ncx (L2.CX P w) P w K mg base N F f A outer s H E).xe := PassesOwn.leaving
end
end Ta

set_option Elab.async false
set_option linter.all false
set_option maxRecDepth 100000
set_option maxHeartbeats 1000000
namespace Ta
open PySem PySem.Spec PyProof.Rows L2

/-! ### x[::-1] -/
section
variable {X : Cx} {e : Expr} {te : TE}
theorem rev_made (x : Str) (t u : Tok) : sliceMade x t none none (some (-1, u)) = .str (S (tl x).reverse) := by
  have e : slicePicked x none none (some (-1, u)) = (List.range x.length).reverse := by
    show Builtin.Str.strSliceIndices none none (-1) x.length = _
    show sliceRange ((x.length : Int) - 1) (-1) (-1) = _
    rw [PySem.W.krv_sliceRange, PySem.W.krv_range]
  unfold sliceMade
  rw [if_neg (by simp)]
  rw [e, List.filterMap_reverse]
  have h : (List.range x.length).filterMap (x.cps[·]?) = tl x := PySem.W.krv_all x.cps
  rw [h]
def tRev (te : TE) : TE := fun σ H Q => te σ H fun x H1 => match x with
  | .str z => (tl z).length ≤ 1000000 ∧ Q (.str (S (tl z).reverse)) H1
  | .ref a => look H1 a fun o => (match o with
    | some (.lst xs) => ∀ p, H1 p = none → Q (.ref p) (upd H1 p (.lst xs.reverse))
    | _ => False)
  | _ => False
theorem prev {k : Nat} {p1 p2 p3 pos : Pos} (he : PE X e te) : PE X (.Subscript e (.Slice none none (some (.UnaryOp .USub (.Constant (.int 1) k p1) p2)) p3) pos) (tRev te) := by
  refine ⟨fun pins s σ H Q I h => ?_⟩
  refine Subscript_ (thn (he.run pins s σ H _ I h) fun v s1 hv => ?_)
  obtain ⟨x, H1, I1, r1, q1⟩ := hv
  have hneg : PO X (some (.UnaryOp .USub (.Constant (.int 1) k p1) p2)) (tPart (tUn (rU fun i => .int (-i)) (tC (.int 1)))) := po_some (pe_un un_neg pe_int)
  refine wpAny_Slice (thn (po_none.run pins s1 σ H1 (fun o H2 => o = none ∧ H2 = H1) I1 ⟨rfl, rfl⟩) fun lo s2 h2 => ?_)
  obtain ⟨l, H2, I2, pl, el, e2⟩ := h2
  subst el e2
  refine thn (po_none.run pins s2 σ H2 (fun o H3 => o = none ∧ H3 = H2) I2 ⟨rfl, rfl⟩) fun hi s3 h3 => ?_
  obtain ⟨u, H3, I3, pu, eu, e3⟩ := h3
  subst eu e3
  refine thn (hneg.run pins s3 σ H3 (fun o H4 => o = some (-1) ∧ H4 = H3) I3 ⟨1, rfl, -1, rfl, rfl, rfl⟩) fun vs s4 h4 => ?_
  obtain ⟨o, H4, I4, ps, eo, e4⟩ := h4
  subst eo e4
  have I5 : Inv X pins σ H4 { s4 with heap := s4.heap.push { cls := .type "slice", data := .fields #[lo, hi, vs] } } := I4.kept (t' := s4.toks) fun b oo q => Heap.get?_push_of_some _ q
  cases x with
  | str z =>
    obtain ⟨hzz, q⟩ := q1
    obtain ⟨t, rfl⟩ := r1
    obtain ⟨u, rfl⟩ : ∃ u, vs = Value.int (-1) u := by
      cases ps with
      | int i u => exact ⟨u, rfl⟩
    cases pl
    cases pu
    show wpAny (model X.prog X.w) X.A (subscriptTail e (.Slice none none (some (.UnaryOp .USub (.Constant (.int 1) k p1) p2)) p3) (.str z t) (.ref s4.heap.objs.size)) (EP X pins σ Q) X.xe { s4 with heap := s4.heap.push { cls := .type "slice", data := .fields #[.none, .none, .int (-1) u] } }
    refine tail_any (ops := [.str z t, .ref s4.heap.objs.size]) (typeIs_str _ z t) (PySem.F.slot_str_getitem.lookup) ?_ (by with_unfolding_all rfl)
    refine wpAny_getItem_str_slice (l := none) (u := none) (st := some (-1, u)) ⟨_, Heap.get?_push_size _ rfl, rfl, rfl⟩ rfl ?_
    rw [rev_made]
    exact ⟨by rw [len_tl]; show (tl z).reverse.length ≤ _; rw [List.length_reverse, sizeLine_eq]; omega, .str (S (tl z).reverse), H4, I5.tok _, ⟨_, rfl⟩, q⟩
  | ref a =>
    have q1 := look_e q1
    cases ea : H4 a with
    | none => rw [ea] at q1; exact q1.elim
    | some oo =>
      rw [ea] at q1
      cases oo with
      | lst xs =>
        cases r1
        have hx : SqL X.K H4 a xs := SqL.of ea
        obtain ⟨us, rr, hus, hzz⟩ := I5.list hx
        have hul := rr.length
        show wpAny (model X.prog X.w) X.A (subscriptTail e (.Slice none none (some (.UnaryOp .USub (.Constant (.int 1) k p1) p2)) p3) (.ref a) (.ref s4.heap.objs.size)) (EP X pins σ Q) X.xe { s4 with heap := s4.heap.push { cls := .type "slice", data := .fields #[lo, hi, vs] } }
        refine tail_any (ops := [.ref a, .ref s4.heap.objs.size]) hus.isList.typeIs (PySem.slot_list_getitem.lookup) ?_ (by with_unfolding_all rfl)
        refine wpAny_getItem_list_slice hus.isList (Heap.IsSliceOf.new _ lo hi vs) pl pu ps (by decide) ?_ (by rw [List.size_toArray]; omega)
        rw [PySem.W.krv_pick]
        refine ⟨.ref _, _, I5.laid (t' := s4.toks) (o := .lst xs.reverse) (fun b oo q => Heap.get?_push_of_some _ q) (Nat.le_refl _) ?_, rfl, q1 _ (I5.hok.fresh (Nat.le_refl _))⟩
        exact ⟨by rw [List.length_reverse]; exact hzz, _, 0, rr.reverse, Heap.get?_push_size _ rfl⟩
      | _ => exact q1.elim
  | _ => exact False.elim q1
end
end Ta

set_option Elab.async false
set_option linter.all false
set_option maxRecDepth 100000
set_option maxHeartbeats 1000000
namespace Ta
open PySem PySem.Spec PyProof.Rows L2

/-! ### x[i] += e (x a list) and name += e -/
section
variable {X : Cx}
def zGetL : V → V → Hp → VK → Prop := fun o i H Q => match o with
  | .ref p => (match i with
    | .int k => look H p fun ob => (match ob with
      | some (.lst xs) => itm xs k fun v => Q v H
      | _ => False)
    | _ => False)
  | _ => False
theorem getp : PGet X zGetL := by
  intro pins s σ H o i ov iv Q I ro ri h
  cases o with
  | ref p =>
    cases i with
    | int k =>
      have h := look_e h
      revert h
      cases e : H p with
      | none => exact fun h => h.elim
      | some ob =>
        cases ob with
        | lst xs =>
          intro h
          obtain ⟨z, he, q⟩ := itm_e h
          cases ro
          obtain ⟨t, rfl⟩ := ri
          obtain ⟨its, r, pl, hz⟩ := I.list (SqL.of (K := X.K) e)
          obtain ⟨j, h1, h2, h3, h4, h5⟩ := atI_get he
          obtain ⟨w, ew, rw'⟩ := r.get h2
          have hl := r.length
          have hn := line63
          have fin : EP X pins σ Q w s := ⟨z, H, I, rw', q⟩
          by_cases h0 : 0 ≤ k
          · have hj : k.toNat = j := by
              rw [seqIndex_of h0 h5] at h1
              exact Option.some.inj h1
            exact wpAny_getItem_list pl.isList h0 (by omega) (by rw [hj]; simpa using ew) fin
          · have hj : (k + (its.toArray.size : Int)).toNat = j := by
              rw [seqIndex_neg (by omega) h4] at h1
              rw [List.size_toArray, ← hl]
              exact Option.some.inj h1
            exact wpAny_getItem_list_neg pl.isList (by omega) (by rw [List.size_toArray] <;> omega) (by omega) (by rw [hj]; simpa using ew) fin
        | _ => exact fun h => h.elim
    | _ => exact h.elim
  | _ => exact h.elim
/-- ints, added in place -/
def zIadd : TIp := fun x y H Q => match x with
  | .int i => (match y with
    | .int j => Q (.int (i + j)) H
    | _ => False)
  | _ => False
theorem ipadd : PIp X .Add zIadd := by
  intro pins s σ H x y v u Q I r1 r2 h
  cases x with
  | int i => cases y with
    | int j => exact ip_add pins s σ H (.int i) (.int j) v u Q I r1 r2 ⟨i, j, rfl, rfl, h⟩
    | _ => exact h.elim
  | _ => exact h.elim
variable {o i e : Expr} {to ti te : TE} {tpos pos : Pos}
def tAugI (to ti te : TE) : TS := fun D σ H => to σ H fun o H1 => ti σ H1 fun i H2 => zGetL o i H2 fun x H3 => te σ H3 fun y H4 => zIadd x y H4 fun z H5 => zSetP o i z H5 fun H6 => D.nx σ H6
theorem psaugi (ho : PE X o to) (hi : PE X i ti) (he : PE X e te)
    (ha : ∀ ov iv new, augStore i ov iv new = (do holding [new, ov, iv] (setItem ov iv new); release [new, ov, iv] []; pure .next) := by intros; rfl) : PS X (.AugAssign (.Subscript o i tpos) .Add e pos) (tAugI to ti te) :=
  ps_augS ho hi getp he ipadd setp ha
def tAugN (i : Nat) (te : TE) : TS := fun D σ H => match σ[i]? with
  | some (some x) => te σ H fun y H1 => zIadd x y H1 fun z H2 => D.nx (σ.set i (some z)) H2
  | _ => False
theorem psaugn {i : Nat} {x : Str} {pos' : Pos} (hN : X.N.Nodup) (he : PE X e te) (hi : X.N[i]? = some x := by rfl) (hx : Loc X.env.scope x := by first | exact Or.inl rfl | exact Or.inr rfl) (hf : X.fn x = true ∨ X.env.scope.names.lookup x = some .local := by first | exact .inl rfl | exact .inr rfl | assumption) :
    PS X (.AugAssign (.Name x pos') .Add e pos) (tAugN i te) := by
  refine ⟨fun pins s σ H D I h => ?_⟩
  cases ex : σ[i]? with
  | none => unfold tAugN at h; rw [ex] at h; exact h.elim
  | some ov =>
    cases ov with
    | none => unfold tAugN at h; rw [ex] at h; exact h.elim
    | some v =>
      unfold tAugN at h; rw [ex] at h
      exact (ps_aug (pos := pos) hN hi hx he ipadd hf).run pins s σ H D I ⟨v, ex, h⟩
end
end Ta

set_option Elab.async false
set_option linter.all false
set_option maxRecDepth 100000
set_option maxHeartbeats 1000000
namespace Ta
open PySem PySem.Spec PyProof.Rows L2

/-! ### len of an instance of an own class -/
def zLenO (C : Addr) (sp : Sp) : List V → Hp → VK → Prop := fun xs H Q => one xs fun x => match x with
  | .ref a => look H a fun o => (match o with
    | some (.ins C1 dx fs) => C1 = C ∧ sp [.ref a] H (fun v H' => match v with
      | .int i => 0 ≤ i ∧ i < 4611686018427387904 ∧ Q (.int i) H'
      | _ => False) fun _ _ _ => False
    | _ => False)
  | _ => False
section
variable {X : Cx}
/-- a call from within a builtin -/
theorem run_in1 {k : Nat} {f : Addr} {fd : FuncData} {ps : List Str} {sp : Sp} {ds : List Value} {dvs : List V} {E : St → XK} {CX : CXT} {pins : List (Addr × Obj)} {σ : St} {H : Hp} {s : Shared} {Q : VK} {us : List Value} {vs : List V} (F : FnOk X.prog X.w X.K X.mg X.base CX k f fd ps sp) (hr : Room (k + 1) X.A) (hb : Binds X.K fd ps ds) (hd : Vals dvs ds) (hx : PassesAt CX X σ (E σ))
    (I : Inv X pins σ H s) (r : Vals vs us) (h : sp (vs ++ dvs) H Q (E σ)) : wpAny (model X.prog X.w) X.A.in1 (call (.ref f) us) (EP X pins σ Q) X.xe s := by
  have r2 : Vals (vs ++ dvs) (us ++ ds) := r.append hd
  have hl : (us ++ ds).length = ps.length := by rw [← r2.length]; exact F.len _ _ _ _ h
  refine wpAny_call (codeAny_mono (F.run X.A.in1 X.stack s H ⟨us, []⟩ (us ++ ds) (vs ++ dvs) Q (E σ) hr.in1 I.env0.in1 (hb s us I.kIn hl) r2 h) fun r s' hq => ?_)
  cases r with
  | error e => exact hx pins H s e s' I hq
  | ok fl =>
    cases fl with
    | ret u => exact I.after hq
    | next => exact False.elim hq
    | brk => exact False.elim hq
    | cont => exact False.elim hq
theorem crlenO {C : Addr} {lv : Nat} {sp : Sp} (M : Me X.prog X.w X.K X.mg X.base C "__len__" lv [] sp) (hr : Room (lv + 1) X.A) : CallR X (.builtin "len") (zLenO C sp) := by
  intro pins s σ H xs us Q I r h
  obtain ⟨x, rfl, h⟩ := one_e h
  obtain ⟨u, rfl, rx⟩ := vals1 r
  cases x with
  | ref a =>
    have h := look_e h
    cases ea : H a with
    | none => rw [ea] at h; exact h.elim
    | some o =>
      rw [ea] at h
      cases o with
      | ins C1 dx fs =>
        obtain ⟨e1, h3⟩ := h
        subst e1
        cases rx
        obtain ⟨⟨f, fd, ps, ds, F, hm, hd, hb⟩, cl⟩ := M
        cases hd
        obtain ⟨mA, J, _⟩ := ins_get I.hok ea
        obtain ⟨od, J, _⟩ := J.look
        refine Calls.call_function_entry kind_len plain_len entry_len (args_len1 _) ?_
        unfold Builtin.«len»
        refine wpAny_bind (m := oneArg "len" _) (wpAny_pure ?_)
        refine wpAny_bind (m := callSpecial? (.ref a) (Str.ofString "__len__")) (PySem.W.special_fn I.kIn J hm.at_ (beq_iff_eq.mp hm.fn) ?_)
        refine wpAny_mono (run_in1 (E := WE WF) (us := [.ref a]) (vs := [.ref a]) F hr hb .nil (passAt takes0 σ) I (.cons rfl .nil) h3) (fun r s' q => ?_) fun _ _ z => z
        obtain ⟨z, H', I', rz, q⟩ := q
        cases z with
        | int i =>
          obtain ⟨t, rfl⟩ := rz
          obtain ⟨h0, h1, q⟩ := q
          show wpAny _ _ _ _ _ _
          refine wpAny_bind (wpAny_holding (wpAny_pure ?_))
          refine wpAny_bind (wpAny_letGo ?_)
          show wpAny _ _ (if i < 0 then _ else _) _ _ _
          rw [if_neg (by omega)]
          show wpAny _ _ (if i ≥ 2 ^ 63 then _ else _) _ _ _
          rw [if_neg (by omega)]
          exact wpAny_bind (wpAny_mkInt (wpAny_pure ⟨_, rfl, .int i, H', I'.tok _, ⟨_, rfl⟩, q⟩))
        | _ => exact q.elim
      | _ => exact h.elim
  | _ => exact h.elim
end
end Ta

set_option Elab.async false
set_option linter.all false
set_option maxRecDepth 100000
set_option maxHeartbeats 1000000
namespace Ta
open PySem PySem.Spec PyProof.Rows L2

/-! ### sorted(x), x a text or a list of signs -/
structure sgl (vs : List V) (k : List Nat → Prop) : Prop where
  out : ∃ l : List Nat, vs = sgn l ∧ k l
theorem sgl_i {l : List Nat} {k : List Nat → Prop} (q : k l) : sgl (sgn l) k := by refine ⟨?_⟩; exact ⟨l, rfl, q⟩
theorem sgl_e {vs : List V} {k : List Nat → Prop} (h : sgl vs k) : ∃ l : List Nat, vs = sgn l ∧ k l := by replace h := h.out; exact h
def zSrt2 (x : V) (H : Hp) (Q : VK) : Prop := match x with
  | .str z => (tl z).length < 64 ∧ ∀ p, H p = none → Q (.ref p) (upd H p (.lst (sgn (srt (tl z)))))
  | .ref a => look H a fun o => (match o with
    | some (.lst vs) => sgl vs fun l => l.length < 64 ∧ ∀ p, H p = none → Q (.ref p) (upd H p (.lst (sgn (srt l))))
    | _ => False)
  | _ => False
def zSort2 : List V → Hp → VK → Prop := fun xs H Q => one xs fun x => zSrt2 x H Q
section
variable {X : Cx}
theorem crsort2 (hcalm : X.calm = true) : CallR X (.builtin "sorted") zSort2 := by
  intro pins s σ H xs us Q I r q
  obtain ⟨x, rfl, q⟩ := one_e q
  cases x with
  | str z => exact crsort hcalm pins s σ H _ us Q I r q
  | ref a =>
    have q := look_e q
    cases ea : H a with
    | none => rw [ea] at q; exact q.elim
    | some o =>
      rw [ea] at q
      cases o with
      | lst vs =>
        obtain ⟨l, rfl, h64, q⟩ := sgl_e q
        have ev : ∀ l : List Nat, (l.map fun c => S [c]).map V.str = sgn l := fun l => by unfold sgn; rw [List.map_map]; rfl
        refine cr_sortedS pins s σ H _ us Q I r ⟨a, l.map fun c => S [c], rfl, .inl (.inl ?_), by rw [List.length_map]; exact h64, fun ys p g2 g3 hp => ?_⟩
        · rw [ev]; exact ea
        · obtain ⟨l', rfl, pl⟩ := perm_map_inv g2
          have el : l' = srt l := srt_uniq pl (sorted_one l' g3)
          subst el
          rw [ev]; exact q p hp
      | _ => exact q.elim
  | _ => exact q.elim
end
/-- over a list, any target -/
theorem loop_lg {xs : List V} {p : Addr} {g : TG} {tb : TS} {D : Ends} {σ : St} {H : Hp} (Pv : Nat → St → Hp → Prop) (h0 : Pv 0 σ H) (hst : ∀ i σ H, i ≤ xs.length → Pv i σ H → H p = some (.lst xs))
    (hs : ∀ i (hi : i < xs.length) σ H, Pv i σ H → g xs[i] σ H fun σ2 H2 => tb { D with nx := Pv (i + 1), ct := Pv (i + 1), bk := D.nx } σ2 H2) (hd : ∀ σ H, Pv xs.length σ H → D.nx σ H) :
    loop xs.length (itL xs) (fun H' => H' p = some (.lst xs)) g tb D σ H := by
  refine loop_i Pv h0 hst ?_ hd
  rintro i x σ H H' hi hP ⟨rfl, hx⟩
  rw [List.getElem?_eq_getElem hi] at hx
  cases hx
  exact hs i hi σ H' hP
end Ta

set_option Elab.async false
set_option linter.all false
set_option maxRecDepth 100000
set_option maxHeartbeats 1000000
namespace Ta
open PySem PySem.Spec PyProof.Rows L2

/-! ### // by a great number -/
def zDivW : R2 := zI2 CDivW fun i j => .int (i / j)
section
variable {X : Cx}
theorem opdivW : OpR X (binaryOp .FloorDiv) zDivW := op_imp op_fdivW fun _ _ _ _ h => zI2_e h
end
theorem divW {i j : Int} (h : 0 < j) (h2 : j < 1267650600228229401496703205376) : CDivW i j := wide_div (b := 100) h (by
  have e : (2 : Nat) ^ 100 = 1267650600228229401496703205376 := by decide
  rw [e]; omega) (by decide) (by decide)
/-- '' is in each text -/
theorem occ0 (b : List Nat) : occ [] b = true := (PySem.StrLaws.found_iff (S b) (S [])).mpr ⟨0, by show 0 + 0 ≤ _; omega, by simp [Builtin.Str.subAt, Str.length, S]⟩
end Ta

set_option Elab.async false
set_option linter.all false
set_option maxRecDepth 100000
set_option maxHeartbeats 1000000
namespace Ta
open PySem PySem.Spec PyProof.Rows L2
/-- a store at an index -/
theorem ixs_i {n : Nat} {r : Int} {k : Nat → Prop} (h0 : 0 ≤ r) (h1 : r < (n : Int)) (q : ∀ j : Nat, j < n → r = (j : Int) → k j) : ∃ j, ixN n r = some j ∧ k j := by
  obtain ⟨j, rfl⟩ := Int.eq_ofNat_of_zero_le h0
  have hj : j < n := by omega
  refine ⟨j, ?_, q j hj rfl⟩
  unfold ixN
  rw [if_pos (by omega), if_pos (by omega)]
  congr 1
/-! the goal's head, told by a step that leaves it -/
theorem look_id {H : Hp} {p : Addr} {k : Option HO → Prop} (h : look H p k) : look H p k := h
theorem itm_id {α : Type} {xs : List α} {i : Int} {k : α → Prop} (h : itm xs i k) : itm xs i k := h
theorem fld_id {fs : List (Str × V)} {f : Str} {k : V → Prop} (h : fld fs f k) : fld fs f k := h
theorem cnd_id {c : Bool} {p q : Prop} (h : cnd c p q) : cnd c p q := h
theorem isa_id {K : PySem.W.Frag} {t : Value} {c : V} {H : Hp} {Q : Bool → Prop} (h : isaP K t c H Q) : isaP K t c H Q := h
theorem joi_id {xs : List V} {s : List Nat} {k : List Nat → Prop} (h : joi xs s k) : joi xs s k := h
theorem and_id {p q : Prop} (h : p ∧ q) : p ∧ q := h
theorem ex_id {α : Type} {p : α → Prop} (h : ∃ x, p x) : ∃ x, p x := h
end Ta

set_option Elab.async false
set_option linter.all false
set_option maxRecDepth 100000
set_option maxHeartbeats 3200000
namespace Ta
open PySem PySem.Spec PyProof.Rows L2

/-! ### several except clauses, each with a name or without -/
inductive Hk where
  | na (c : Value) (ts : Addr → Value → Option Addr → TS)
  | as (i : Nat) (c : Value) (ts : Addr → Value → Option Addr → TS)
def wHk (K : PySem.W.Frag) (Wout : WX) (D : Ends) : List Hk → WX
  | [] => Wout
  | .na c ts :: r => fun cls d σ H => ∃ b, PySem.W.exmOne K cls c = some b ∧ (b = true → ∀ a, H a = none → ts a cls d D σ H) ∧ (b = false → wHk K Wout D r cls d σ H)
  | .as i c ts :: r => fun cls d σ H => ∃ b, PySem.W.exmOne K cls c = some b ∧ (b = true → ∀ a, H a = none → ts a cls d { nx := fun σ' H' => D.nx (σ'.set i none) H', rt := D.rt, bk := fun σ' H' => D.bk (σ'.set i none) H', ct := fun σ' H' => D.ct (σ'.set i none) H' } (σ.set i (some (.ref a))) H) ∧
      (b = false → wHk K Wout D r cls d σ H)
theorem whk_t {K : PySem.W.Frag} {c : Value} {ts : Addr → Value → Option Addr → TS} {Wout : WX} {D : Ends} {cls : Value} {d : Option Addr} {σ : St} {H : Hp} {r : List Hk} (h : PySem.W.exmOne K cls c = some true) (q : ∀ a, H a = none → ts a cls d D σ H) : wHk K Wout D (.na c ts :: r) cls d σ H :=
  ⟨true, h, fun _ => q, fun z => by cases z⟩
theorem whk_f {K : PySem.W.Frag} {c : Value} {ts : Addr → Value → Option Addr → TS} {Wout : WX} {D : Ends} {cls : Value} {d : Option Addr} {σ : St} {H : Hp} {r : List Hk} (h : PySem.W.exmOne K cls c = some false) (q : wHk K Wout D r cls d σ H) : wHk K Wout D (.na c ts :: r) cls d σ H :=
  ⟨false, h, (fun z => by cases z), fun _ => q⟩
theorem whk_at {K : PySem.W.Frag} {c : Value} {i : Nat} {ts : Addr → Value → Option Addr → TS} {Wout : WX} {D : Ends} {cls : Value} {d : Option Addr} {σ : St} {H : Hp} {r : List Hk} (h : PySem.W.exmOne K cls c = some true)
    (q : ∀ a, H a = none → ts a cls d { nx := fun σ' H' => D.nx (σ'.set i none) H', rt := D.rt, bk := fun σ' H' => D.bk (σ'.set i none) H', ct := fun σ' H' => D.ct (σ'.set i none) H' } (σ.set i (some (.ref a))) H) : wHk K Wout D (.as i c ts :: r) cls d σ H :=
  ⟨true, h, fun _ => q, fun z => by cases z⟩
theorem whk_af {K : PySem.W.Frag} {c : Value} {i : Nat} {ts : Addr → Value → Option Addr → TS} {Wout : WX} {D : Ends} {cls : Value} {d : Option Addr} {σ : St} {H : Hp} {r : List Hk} (h : PySem.W.exmOne K cls c = some false) (q : wHk K Wout D r cls d σ H) : wHk K Wout D (.as i c ts :: r) cls d σ H :=
  ⟨false, h, (fun z => by cases z), fun _ => q⟩
inductive HdsX (X : Cx) : List ExceptHandler → List Hk → Prop
  | nil : HdsX X [] []
  | na {x : Str} {c : Value} {ts : Addr → Value → Option Addr → TS} {b₀ : Stmt} {suite : List Stmt} {np pos' : Pos} {hds : List ExceptHandler} {l : List Hk} (hc : Names X x c)
      (hsu : ∀ (a : Addr) (oe : Obj) (cls : Value) (d : Option Addr) (pn : List (Addr × Obj)), Zc cls d oe → (∃ vs, oe.data = .fields vs) → PSs (X.suite a ((a, oe) :: pn)) (b₀ :: suite) (ts a cls d)) (r : HdsX X hds l) :
      HdsX X (.ExceptHandler (some (.Name x np)) none (b₀ :: suite) pos' :: hds) (.na c ts :: l)
  | as {i : Nat} {x n : Str} {c : Value} {ts : Addr → Value → Option Addr → TS} {b₀ : Stmt} {suite : List Stmt} {np pos' : Pos} {hds : List ExceptHandler} {l : List Hk} (hi : X.N[i]? = some n) (hln : X.env.kindOf n = some .local) (hc : Names X x c)
      (hsu : ∀ (a : Addr) (oe : Obj) (cls : Value) (d : Option Addr) (pn : List (Addr × Obj)), Zc cls d oe → (∃ vs, oe.data = .fields vs) → PSs (X.suite a ((a, oe) :: pn)) (b₀ :: suite) (ts a cls d)) (r : HdsX X hds l) :
      HdsX X (.ExceptHandler (some (.Name x np)) (some n) (b₀ :: suite) pos' :: hds) (.as i c ts :: l)
section
variable {X : Cx} {body : List Stmt} {h₀ : ExceptHandler} {hds : List ExceptHandler} {l : List Hk} {pos : Pos} {tb : WX → TS} {Wout : WX}
theorem ps_try_x (hs : X.stack = X.env :: X.outer) (hf : X.env.frame = some X.env.locals) (hN : X.N.Nodup) (tk : Takes X Wout)
    (hb : ∀ (W : WX) (pn : List (Addr × Obj)) (xe : Value → Shared → Prop), Takes (X.tr pn xe) W → PassesOwn (model X.prog X.w) X.A X.env xe → PSs (X.tr pn xe) body (tb W))
    (hh : HdsX X (h₀ :: hds) l) : PS X (.Try body (h₀ :: hds) [] [] pos) (fun D σ H => tb (wHk X.K Wout D l) D σ H) := by
  refine ⟨fun pins s σ H D I h => ?_⟩
  have ok := I.ok
  have hfr : X.A.frames = some (X.env :: X.outer) := by rw [ok.frames, hs]
  refine wpAny_Try_except ?_
  refine wpAny_mono ((hb (wHk X.K Wout D l) (X.pn ++ pins) (fun e s₁ => wpAny (model X.prog X.w) X.A (noteFrame e X.env) (fun _ s₂ => wpAny (model X.prog X.w) X.A (setFlight e none) (fun _ s₃ =>
    wpAny (model X.prog X.w) X.A (handleBy e X.env (h₀ :: hds)) (SP X pins D) X.xe s₃) X.xe s₂) X.xe s₁) (fun u s' xx => ?_) PassesOwn.looking).run [] s σ H D (I.toTry _) h) (fun f s1 hsp => ?_) (fun e s1 he => he)
  · -- the catch
    obtain ⟨a, B, sI, pins', σ', H', cls, d, rfl, J', nb, up, sky, na, os, ag, w⟩ := xx
    have J : Inv X pins σ' H' sI := J'.ofTry ok
    have sky' : Sky B (X.env :: X.outer) a (Zc cls d) X.env.locals s'.heap := by rw [← hs]; exact sky
    show wpAny (model X.prog X.w) X.A (noteFrame (.ref a) X.env) _ _ _
    refine Sky.land Zc.steady hfr hf sky' fun h3 fl3 up3 => ?_
    have J3 : Inv X pins σ' H' { s' with heap := h3 } := J.landed nb fl3.1 (up.trans up3) os ag
    obtain ⟨oe3, vs3, he3, hz3, hd3⟩ := fl3.there
    have notFr : ∀ {h : Heap} {o : Obj} {vs : Array Value}, h.FunFrames B (X.env :: X.outer) → h.get? a = some o → o.data = .fields vs → a ∉ frs (X.env :: X.outer) := fun {h o vs} ff e dd hm => by
      obtain ⟨_, o', e', hnf⟩ := ff.mem hm
      rw [e] at e'; cases e'
      exact hnf _ dd
    have nfr := notFr fl3.2.2.1 he3 hd3
    have nL : a ≠ X.env.locals := fun z => nfr (List.mem_filterMap.mpr ⟨X.env, List.mem_cons_self, by rw [hf, z]⟩)
    have nF : a ∉ X.fs := fun hm => by
      obtain ⟨e, he, q⟩ := List.mem_filterMap.mp hm
      exact nfr (List.mem_filterMap.mpr ⟨e, List.mem_cons_of_mem _ he, q⟩)
    have S3 := J3.suite he3 hd3 na nL nF
    have LT : PySem.W.Looks (model X.prog X.w) h3 (typeOf (.ref a)) cls := fun A Q E s k q => wpAny_typeOf_ref (k _ _ he3) (by rw [hz3.1]; exact q)
    have tst : ∀ {x : Str} {c : Value} {np : Pos} (hc : Names X x c) {Q : Value → Shared → Prop} {E : Value → Shared → Prop}, Q c { s' with heap := h3 } → wpAny (model X.prog X.w) (X.A.mark (some (.ref a))) (eval (.Name x np) X.env) Q E { s' with heap := h3 } := fun {x c np} hc {Q E} q => by
      obtain ⟨hg, hdbg, hm | ⟨hm, hv, hnn⟩⟩ := hc
      · exact ld_glob (X := X.suite a ((a, oe3) :: (X.pn ++ pins))) S3 hg hm q hdbg
      · exact ld_blt (X := X.suite a ((a, oe3) :: (X.pn ++ pins))) S3 hg hm hv q hnn hdbg
    have go : ∀ {hds' : List ExceptHandler} {l' : List Hk}, HdsX X hds' l' → wHk X.K Wout D l' cls d σ' H' →
        wpAny (model X.prog X.w) X.A (handleBy (.ref a) X.env hds') (SP X pins D) X.xe { s' with heap := h3 } := by
      intro hds' l' hk
      induction hk with
      | nil =>
        intro w
        refine wpAny_handleBy_nil ?_
        obtain ⟨k1, k2, k3, oe, vs, T, oT, ts', he, hz, hd, h1, hr⟩ := id fl3
        unfold PySem.passOn
        refine wpAny_bind (wpAny_field he hd h1 ?_)
        rw [if_neg (show ¬ ((Value.ref T == Value.none) = true) from by simp)]
        have fin : wpAny (model X.prog X.w) X.A (setFlight (.ref a) X.env.frame) (fun _ s4 => wpAny (model X.prog X.w) X.A (throw (.ref a) : Sem Flow) (SP X pins D) X.xe s4) X.xe { s' with heap := h3 } := by
          rw [hf]
          refine HandSPX.setFlight_upZ fl3 fun h4 hh4 up4 => wpAny_throw (tk _ _ ?_)
          exact ⟨a, B, sI, pins, σ', H', cls, d, rfl, J, nb, (up.trans up3).trans up4, .inr (.inr (by rw [hs]; exact hh4)), na, os, ag, w⟩
        first
          | exact wpAny_bind (wpAny_pure (wpAny_bind fin))
          | exact wpAny_bind fin
      | @na x c ts b₀ suite np pos' hds2 l2 hc hsu r ih =>
        intro w
        obtain ⟨b, hb1, hyes, hno⟩ := w
        refine wpAny_handleBy_cons (codeAny_handlers_test ?_) (by intro q; cases q)
        have LM := PySem.W.exm_one (M := model X.prog X.w) (J3.kIn) LT hb1
        refine tst hc (LM.here ?_)
        cases b with
        | true =>
          refine codeAny_handlers_suite ?_
          refine HandSPX.lands_againZ fl3 fun h4 fl4 up4 => ?_
          have J4 : Inv X pins σ' H' { s' with heap := h4 } := J.landed nb fl4.1 ((up.trans up3).trans up4) os ag
          obtain ⟨oe4, vs4, he4, hz4, hd4⟩ := fl4.there
          have S4 := J4.suite he4 hd4 na nL nF
          refine wpAny_mono ((hsu a oe4 cls d (X.pn ++ pins) hz4 ⟨_, hd4⟩).run [] _ _ H' _ S4 (hyes rfl a na)) (fun f s6 hsp => ?_) (fun _ _ z => False.elim z)
          cases f with
          | next =>
            obtain ⟨σ6, H6, S6, q6⟩ := hsp
            exact ⟨_, _, S6.unsuite ok, q6⟩
          | brk =>
            obtain ⟨σ6, H6, S6, q6⟩ := hsp
            exact ⟨_, _, S6.unsuite ok, q6⟩
          | cont =>
            obtain ⟨σ6, H6, S6, q6⟩ := hsp
            exact ⟨_, _, S6.unsuite ok, q6⟩
          | ret u =>
            obtain ⟨v6, σ6, H6, S6, r6, q6⟩ := hsp
            exact ⟨_, _, _, S6.unsuite ok, r6, q6⟩
        | false =>
          show wpAny _ X.A (handleBy (.ref a) X.env hds2) _ _ _
          exact ih (hno rfl)
      | @as i x n c ts b₀ suite np pos' hds2 l2 hi hln hc hsu r ih =>
        intro w
        obtain ⟨b, hb1, hyes, hno⟩ := w
        have hloc : Loc X.env.scope n := .inl hln
        refine wpAny_handleBy_cons (codeAny_handlers_test ?_) (by intro q; cases q)
        have LM := PySem.W.exm_one (M := model X.prog X.w) (J3.kIn) LT hb1
        refine tst hc (LM.here ?_)
        cases b with
        | true =>
          refine codeAny_handlers_suite_as ?_
          refine HandSPX.lands_againZ fl3 fun h4 fl4 up4 => ?_
          have J4 : Inv X pins σ' H' { s' with heap := h4 } := J.landed nb fl4.1 ((up.trans up3).trans up4) os ag
          obtain ⟨oe4, vs4, he4, hz4, hd4⟩ := fl4.there
          have S4 := J4.suite he4 hd4 na nL nF
          refine store_ok (X := X.suite a ((a, oe4) :: (X.pn ++ pins))) (v := .ref a) S4 hN hi hloc rfl (fun s5 S5 => ?_) (.inr hln)
          refine wpAny_mono ((hsu a oe4 cls d (X.pn ++ pins) hz4 ⟨_, hd4⟩).run [] s5 _ H' _ S5 (hyes rfl a na)) (fun f s6 hsp => ?_) (fun _ _ z => False.elim z)
          have end_ : ∀ {σ6 : St} {H6 : Hp} {Q : Shared → Prop}, Inv (X.suite a ((a, oe4) :: (X.pn ++ pins))) [] σ6 H6 s6 → (∀ s7, Inv X pins (σ6.set i none) H6 s7 → Q s7) →
              wpAny (model X.prog X.w) X.A (do bindName X.env n .none; unbindBehindTheSuite X.env n pos') (fun _ s7 => Q s7) X.xe s6 := fun {σ6 H6 Q} S6 hq => gone_ok (S6.unsuite ok) hN hi hln hq
          cases f with
          | next =>
            obtain ⟨σ6, H6, S6, q6⟩ := hsp
            exact end_ S6 fun s7 J7 => ⟨_, _, J7, q6⟩
          | brk =>
            obtain ⟨σ6, H6, S6, q6⟩ := hsp
            exact end_ S6 fun s7 J7 => ⟨_, _, J7, q6⟩
          | cont =>
            obtain ⟨σ6, H6, S6, q6⟩ := hsp
            exact end_ S6 fun s7 J7 => ⟨_, _, J7, q6⟩
          | ret u =>
            obtain ⟨v6, σ6, H6, S6, r6, q6⟩ := hsp
            exact end_ S6 fun s7 J7 => ⟨_, _, _, J7, r6, q6⟩
        | false =>
          show wpAny _ X.A (handleBy (.ref a) X.env hds2) _ _ _
          exact ih (hno rfl)
    exact go hh w
  · cases f with
    | next =>
      obtain ⟨σ', H', J', q⟩ := hsp
      exact wpAny_execs_nil ⟨σ', H', J'.ofTry ok, q⟩
    | brk =>
      obtain ⟨σ', H', J', q⟩ := hsp
      exact ⟨σ', H', J'.ofTry ok, q⟩
    | cont =>
      obtain ⟨σ', H', J', q⟩ := hsp
      exact ⟨σ', H', J'.ofTry ok, q⟩
    | ret u =>
      obtain ⟨v, σ', H', J', r, q⟩ := hsp
      exact ⟨v, σ', H', J'.ofTry ok, r, q⟩
end

/-! ### own operators between two instances of one class, which may raise -/
def SelfF (K : PySem.W.Frag) (C : Addr) : Prop := PySem.W.selfFirst K C = true
def bSelf (x : Str) : BF := fun K => PySem.W.selfFirst K (He.ga K x)
theorem self_of {K : PySem.W.Frag} {x : Str} (c : bSelf x K = true) : SelfF K (He.ga K x) := c
def isIns (C : Addr) (x : V) (H : Hp) (k : Addr → Prop) : Prop := match x with
  | .ref a => look H a fun o => (match o with
    | some (.ins C1 dx fs) => C1 = C ∧ k a
    | _ => False)
  | _ => False
theorem isIns_e {C : Addr} {x : V} {H : Hp} {k : Addr → Prop} (h : isIns C x H k) : ∃ a dx fs, x = .ref a ∧ H a = some (.ins C dx fs) ∧ k a := by
  cases x with
  | ref a =>
    have h := look_e h
    cases ea : H a with
    | none => rw [ea] at h; exact h.elim
    | some o =>
      rw [ea] at h
      cases o with
      | ins C1 dx fs =>
        obtain ⟨e1, h2⟩ := h
        subst e1
        exact ⟨a, dx, fs, rfl, ea, h2⟩
      | _ => exact h.elim
  | _ => exact h.elim
/-- the answer is no NotImplemented -/
def someV (v : V) (p : Prop) : Prop := match v with
  | .ref _ => p
  | .int _ => p
  | .bl _ => p
  | .str _ => p
  | .non => p
  | _ => False
theorem someV_e {v : V} {u : Value} {p : Prop} (r : RelV v u) (h : someV v p) : p ∧ u ≠ .notImplemented := by
  cases v with
  | ref a => obtain rfl : u = Value.ref a := r; exact ⟨h, by intro z; cases z⟩
  | int a => obtain ⟨t, rfl⟩ : ∃ t, u = Value.int a t := r; exact ⟨h, by intro z; cases z⟩
  | bl a => obtain rfl : u = Value.bool a := r; exact ⟨h, by intro z; cases z⟩
  | str a => obtain ⟨t, rfl⟩ : ∃ t, u = Value.str a t := r; exact ⟨h, by intro z; cases z⟩
  | non => obtain rfl : u = Value.none := r; exact ⟨h, by intro z; cases z⟩
  | _ => exact h.elim
def tBinO (C : Addr) (sp : Sp) (W : WX) (ta tb : TE) : TE := fun σ H Q => ta σ H fun x H1 => tb σ H1 fun y H2 => isIns C x H2 fun a => isIns C y H2 fun b => sp [.ref a, .ref b] H2 (fun v H' => someV v (Q v H')) fun c d H' => W c d σ H'
section
variable {X : Cx} {a b : Expr} {ta tb : TE} {pos : Pos} {lv : Nat} {sp : Sp} {W : WX} {C : Addr}
theorem pe_binO {op : Operator} {m : Str} (M : Me X.prog X.w X.K X.mg X.base C m lv [] sp) (sf : SelfF X.K C) (hr : Room lv X.A) (tk : Takes X W) (ha : PE X a ta) (hb : PE X b tb) (hm' : PySem.dunder op.info.2 = m := by decide +kernel) : PE X (.BinOp a op b pos) (tBinO C sp W ta tb) := by
  subst hm'
  refine ⟨fun pins s σ H Q I h => ?_⟩
  refine wpAny_BinOp (binT ha hb I h fun v u s2 x y H2 I2 rx ry q => ?_)
  obtain ⟨p, dx, fs, rfl, hp, q⟩ := isIns_e q
  obtain ⟨p', dx', fs', rfl, hp', q⟩ := isIns_e q
  cases rx
  cases ry
  obtain ⟨⟨f, fd, ps, ds, F, hm, hd, hb⟩, cl⟩ := M
  cases hd
  obtain ⟨mA, J, _⟩ := ins_get I2.hok hp
  obtain ⟨mB, J', _⟩ := ins_get I2.hok hp'
  obtain ⟨od, J, _⟩ := J.look
  obtain ⟨od', J', _⟩ := J'.look
  obtain ⟨m, hF⟩ := I2.fr
  refine PySem.W.binop_K hF I2.ok.mod.kin J J'.type sf hm.at_ hm.fn ?_
  have r2 : Vals [V.ref p, V.ref p'] [Value.ref p, Value.ref p'] := .cons rfl (.cons rfl .nil)
  refine wpAny_mono (run_fnSD (E := WE W) (us := [.ref p, .ref p']) (vs := [.ref p, .ref p']) (Q := fun v H' => someV v (Q v H')) F hr hb .nil (passAt tk σ) I2 r2 q) (fun r s' q => ?_) fun _ _ z => z
  obtain ⟨z, H', I', rz, q⟩ := q
  obtain ⟨q, hn⟩ := someV_e rz q
  cases r with
  | notImplemented => exact absurd rfl hn
  | _ => exact ⟨z, H', I', rz, q⟩
end
/-! ### str of an instance -/
def zStrO (C : Addr) (sp : Sp) : List V → Hp → VK → Prop := fun xs H Q => one xs fun x => isIns C x H fun a => sp [.ref a] H (fun v H' => match v with
  | .str y => Q (.str y) H'
  | _ => False) fun _ _ _ => False
section
variable {X : Cx}
theorem crstrO {C : Addr} {lv : Nat} {sp : Sp} (M : Me X.prog X.w X.K X.mg X.base C "__str__" lv [] sp) (hr : Room (lv + 2) X.A) : CallR X (.type "str") (zStrO C sp) := by
  intro pins s σ H xs us Q I r h
  obtain ⟨x, rfl, h⟩ := one_e h
  obtain ⟨u, rfl, rx⟩ := vals1 r
  obtain ⟨a, dx, fs, rfl, ea, h3⟩ := isIns_e h
  cases rx
  obtain ⟨⟨f, fd, ps, ds, F, hm, hd, hb⟩, cl⟩ := M
  cases hd
  obtain ⟨mA, J, _⟩ := ins_get I.hok ea
  obtain ⟨od, J, _⟩ := J.look
  have hr2 : Room lv X.A.in1.in1 := (hr.in1 (k := lv + 1)).in1
  refine PySem.W.kso_call hr2.units0 I.kIn J hm.at_ hm.fn ?_
  have r2 : Vals ([V.ref a] ++ []) ([Value.ref a] ++ []) := .cons rfl .nil
  have hl : ([Value.ref a] ++ []).length = ps.length := by rw [← r2.length]; exact F.len _ _ _ _ h3
  refine wpAny_call (codeAny_mono (F.run X.A.in1.in1 X.stack s H ⟨[.ref a], []⟩ [.ref a] [.ref a] _ (WE WF σ) hr2 I.env0.in1.in1 (hb s [.ref a] I.kIn hl) r2 h3) fun r s' hq => ?_)
  cases r with
  | error e => exact passAt takes0 σ pins H s e s' I hq
  | ok fl =>
    cases fl with
    | ret u =>
      have q0 := I.after hq
      obtain ⟨z, H', I', rz, q⟩ := q0
      cases z with
      | str y =>
        obtain ⟨t, rfl⟩ : ∃ t, u = Value.str y t := rz
        exact ⟨.str y, H', I', ⟨t, rfl⟩, q⟩
      | _ => exact q.elim
    | next => exact False.elim hq
    | brk => exact False.elim hq
    | cont => exact False.elim hq
end
end Ta

set_option Elab.async false
set_option linter.all false
set_option maxRecDepth 100000
set_option maxHeartbeats 3200000
namespace Ta
open PySem PySem.Spec PyProof.Rows L2

/-! ### an own exception without fields -/
section
variable {X : Cx}
theorem mk_endN {pins : List (Addr × Obj)} {σ : St} {H1 H2 : Hp} {Q : XK} {hp hp2 h2 : Heap} {g1 g2 : Array GenState} {d1 d2 : Drawn} {t1 t2 : Nat} {os1 os2 : OsState} {a C : Addr} (T : Raises X (.ref C)) (I1 : Inv X pins σ H1 ⟨hp, g1, d1, t1, os1⟩)
    (ha : hp.objs.size ≤ a) (k : ∀ b o, hp.get? b = some o → hp2.get? b = some o) (un : Un (frs X.stack) [] (upd H1 a (exo a C none)) H2 hp2 h2) (hok : HOk X.prog X.w H2 h2) (ho : os2 = os1) (hb : AllBare g2)
    (ea : H2 a = some (exo a C none)) (q : Q (.ref C) none (del H2 a)) : MkP X pins σ Q (.ref a) ⟨h2, g2, d2, t2, os2⟩ := by
  obtain ⟨t0, hoe⟩ := exo_at hok ea
  have hn : H1 a = none := I1.hok.fresh ha
  obtain ⟨G, g1', g2'⟩ := restrict h2 fun b => decide (b ≠ a)
  have gk : ∀ b, b ≠ a → G.get? b = h2.get? b := fun b hb => g1' b (decide_eq_true hb)
  have ge : G.get? a = none := g2' a (by simp)
  have nha : ∀ {b : Addr} {o : Obj}, hp.get? b = some o → b ≠ a := fun {b o} z => Nat.ne_of_lt (Nat.lt_of_lt_of_le (Heap.lt_size z) ha)
  have up : ∀ {b : Addr}, b ≠ a → H1 b = none → upd H1 a (exo a C none) b = none := fun {b} hb n => by rw [upd_ne hb]; exact n
  have U : Un (frs X.stack) [] H1 (del H2 a) hp G := {
    keep := fun b o z n hf hx => by
      rw [gk b (nha z)]
      exact un.keep b o (k b o z) (up (nha z) n) hf hx
    slot := fun b o z n hf hx => by
      rw [gk b (nha z)]
      exact un.slot b o (k b o z) (up (nha z) n) hf hx
    free := fun b o z n hx => by
      rw [del_ne (nha z)]
      exact un.free b o (k b o z) (up (nha z) n) hx
    there := fun b o z hx => by
      rw [gk b (nha z)]
      exact un.there b o (k b o z) hx
    tups := fun b xs z => by
      rw [del_ne (ne_of_none z hn)]
      exact un.tups b xs (by rw [upd_ne (ne_of_none z hn)]; exact z)
    frzs := fun b o v z => by
      rw [del_ne (ne_of_none z hn)]
      exact un.frzs b o v (by rw [upd_ne (ne_of_none z hn)]; exact z)
    tbls := fun b ps z => by
      rw [del_ne (ne_of_none z hn)]
      exact un.tbls b ps (by rw [upd_ne (ne_of_none z hn)]; exact z) }
  have hok3 : HOk X.prog X.w (del H2 a) G := fun b o z => by
    have hba : b ≠ a := fun e => by
      rw [e, del_same] at z
      cases z
    rw [del_ne hba] at z
    have noa : ∀ {c : Addr}, H2 c = some (.own b) → c ≠ a := fun {c} hc => at_ne ea hc exo_own
    exact (hok b o z).stay (fun c v hc y => by
        have hca : c ≠ a := by
          rcases hc with hc | hc
          · rw [hc]
            exact hba
          · exact noa hc
        rw [gk c hca]
        exact y)
      (fun c hc => by rw [del_ne (noa hc)]; exact hc) (fun c xs hc => by rw [del_ne (at_ne ea hc exo_tup)]; exact hc)
  have J : Inv X pins σ (del H2 a) ⟨G, g2, d2, t2, os2⟩ := I1.call' (ch := []) ho U hok3 hb (fun b z => absurd z (by simp))
  refine ⟨a, _, _, ⟨G, g2, d2, t2, os2⟩, _, .ref C, none, rfl, J, fun b o z => ?_, ge, hoe, ⟨rfl, rfl⟩, rfl, rfl, del_same, rfl, hb, T, q⟩
  by_cases hba : b = a
  · rw [hba, ge] at z
    cases z
  · exact (gk b hba).symm.trans z
theorem del_upd {H : Hp} {a : Addr} {o : HO} (h : H a = none) : del (upd H a o) a = H := by
  funext c
  unfold upd del
  by_cases h2 : c = a
  · subst h2; simp [h]
  · simp [h2]
variable {x : Str} {p pos : Pos} {W : WX} {C : Addr}
def tRs0 (C : Addr) (W : WX) : TS := fun _ σ H => W (.ref C) none σ H
theorem pmkE0 (G : Ex X.prog X.w X.K X.mg X.base x C []) (hr : Room 2 X.A) (tk : Takes X W) (hg : Gl X x) (hdb : (x == ("__debug__" : Str)) = false) :
    PMk X (.Call (.Name x p) [] [] pos) (fun σ H Q => Q (.ref C) none H) := by
  obtain ⟨fI, fd, ps, F1, iC, tI, hb, hm⟩ := G.ex
  have T := G.oex
  intro pins s σ H Q I q1
  obtain ⟨nm, q, N, bs, bm, sn, sub, ab, col, dd, k0, k1, k2, k3, k5, hC, hbm⟩ := T.cls
  refine wpAny_Call_Name_kw (ld_glob I hg hm ?_ hdb)
  refine PySem.W.callWith_K0 I.kIn T.kC ?_
  show wpAny _ _ (call (.ref C) []) _ _ _
  obtain ⟨hp, g, dr, tok, os⟩ := s
  have hsz : hp.objs.size ≤ hp.objs.size + 1 := Nat.le_succ _
  have hn : H (hp.objs.size + 1) = none := I.hok.fresh hsz
  have hq : spE C [] [.ref (hp.objs.size + 1)] (upd H (hp.objs.size + 1) (exo (hp.objs.size + 1) C none))
      (fun v H2 => v = .non ∧ H2 (hp.objs.size + 1) = some (exo (hp.objs.size + 1) C none) ∧ Q (.ref C) none (del H2 (hp.objs.size + 1))) (fun _ _ _ => False) := by
    refine ⟨_, [], rfl, rfl, upd_same, fun _ => ⟨rfl, upd_same, ?_⟩, fun e0 => absurd rfl e0⟩
    rw [del_upd hn]; exact q1
  have kk : ∀ b o, hp.get? b = some o → ((hp.push (PySem.W.kdv_tup [])).push (PySem.HandSPX.excO C hp.objs.size)).get? b = some o := fun b o e => Heap.get?_push_of_some _ (Heap.get?_push_of_some _ e)
  have hget : ((hp.push (PySem.W.kdv_tup [])).push (PySem.HandSPX.excO C hp.objs.size)).get? (hp.objs.size + 1) = some (PySem.HandSPX.excO C hp.objs.size) := by heap_get
  have I2 : Inv X pins σ (upd H (hp.objs.size + 1) (exo (hp.objs.size + 1) C none)) ⟨(hp.push (PySem.W.kdv_tup [])).push (PySem.HandSPX.excO C hp.objs.size), g, dr, tok, os⟩ :=
    I.laid (t' := tok) (a := hp.objs.size + 1) (o := exo (hp.objs.size + 1) C none) (h' := (hp.push (PySem.W.kdv_tup [])).push (PySem.HandSPX.excO C hp.objs.size)) kk hsz (exo_ok hget)
  have r2 : Vals [V.ref (hp.objs.size + 1)] [Value.ref (hp.objs.size + 1)] := .cons rfl .nil
  have hl : ([Value.ref (hp.objs.size + 1)] ++ []).length = ps.length := by
    have e := r2.length
    rw [F1.len _ _ _ _ hq] at e
    exact e.symm
  have hbi := hb ⟨(hp.push (PySem.W.kdv_tup [])).push (PySem.HandSPX.excO C hp.objs.size), g, dr, tok, os⟩ [Value.ref (hp.objs.size + 1)] I2.kIn hl
  rw [List.append_nil] at hbi
  refine wpAny_call (PySem.HandSPX.call_own PySem.F.excBase_ValueError (fun Y => PySem.HandSPX.refsVE_contains Y bm hbm) (I.kIn _ _ hC) (PySem.W.looks_findIn I.kIn iC) (fun self => PySem.W.bind_fn I.kIn self tI) (Nat.zero_le _)
    (codeAny_mono (F1.run _ X.stack _ _ ⟨[Value.ref (hp.objs.size + 1)], []⟩ [Value.ref (hp.objs.size + 1)] _ _ (fun _ _ _ => False) (hr.make C [] []) (I2.env0.make C [] []) hbi r2 hq) fun r s' hq' => ?_))
  cases r with
  | error er => exact tk er s' (XE.of_call I2 (fun _ _ _ z => z.elim) hq')
  | ok fl =>
    cases fl with
    | ret u =>
      obtain ⟨v, H2, os2, bare2, un2, hok2, rv, ev, ea, q2⟩ := hq'
      subst ev
      obtain ⟨h2, g2, d2, t2, os'⟩ := s'
      exact ⟨rv, mk_endN (raises_own T.exC T.tyC) I hsz kk un2 hok2 os2 bare2 ea q2⟩
    | next => exact False.elim hq'
    | brk => exact False.elim hq'
    | cont => exact False.elim hq'
theorem praise0 (G : Ex X.prog X.w X.K X.mg X.base x C []) (hr : Room 2 X.A) (tk : Takes X W) {pos' : Pos} (hc : X.calm = true := by rfl) (hg : Gl X x := by rfl) (hdb : (x == ("__debug__" : Str)) = false := by decide +kernel) :
    PS X (.Raise (some (.Call (.Name x p) [] [] pos)) none pos') (tRs0 C W) :=
  ps_raise hc tk (pmkE0 G hr tk hg hdb)
end
end Ta

set_option Elab.async false
set_option linter.all false
set_option maxRecDepth 100000
set_option maxHeartbeats 3200000
/-! != of two instances of a class with its own __eq__ -/
namespace PySem.W
open PySem PySem.Calls PyProof.Rows Builtin
section
variable {prog : Program} {w : World} {A : Around} {E : Value → Shared → Prop} {s : Shared} {K : Frag} {x C L f : Addr} {h₀ : Heap} {m : Str → Option Value} {ox : Obj} {od : Option Obj} {b : Value}
theorem ifBound_B {M : Model} {args : List Value} {name : Str} {i : String} {Q : Option Value → Shared → Prop} (X : K.In s.heap) (I : InstAt s.heap x ox C od) (hs : findIn K (.ref C) name = some (some (.builtin i))) (hb : bindSpecial (.builtin i) (.ref x) = pure (.builtin i, [.ref x]))
    (h : wpAny M A (call (.builtin i) (.ref x :: args)) (fun v => Q (some v)) E s) : wpAny M A (callSpecialIfBound? (.ref x) name args) Q E s := by
  simp only [callSpecialIfBound?, bindSpecialIfBound?]
  refine wpAny_holding (wpAny_bind (wpAny_bind (wpAny_bind (I.type.here ((looks_findIn X hs).here ?_)))))
  refine wpAny_bind (wpAny_askSetting (wpAny_ite ?_))
  have fin : wpAny M A (call (.builtin i) ([.ref x] ++ args) >>= fun v => pure (some v)) Q E s := wpAny_bind (wpAny_mono h (fun v s' h' => wpAny_pure h') fun _ _ h' => h')
  split
  · exact wpAny_bind ((Looks.of_pure hb).here (wpAny_pure (by exact fin)))
  · exact wpAny_tryCatch (wpAny_bind ((Looks.of_pure hb).here (wpAny_pure (by exact fin))))
theorem objNe_K (hu : A.units < cLine) (X : K.In s.heap) (I : InstAt s.heap x ox C od) (hs : findIn K (.ref C) "__eq__" = some (some (.ref f))) (hf : isFn K (.ref f) = true) {Q : Fin → Shared → Prop}
    (hcall : wpAny (model prog w) A (call (.ref f) [.ref x, b]) (fun v s' => ∃ k, v = .bool k ∧ Q (.done (.ret (.bool (!k)))) s') E s) :
    wpAny (model prog w) A (Builtin.«object.__ne__» ⟨[.ref x, b], []⟩) Q E s := by
  unfold Builtin.«object.__ne__»
  repeat (first
    | with_reducible refine wpAny_cRoomFor hu ?_
    | (refine wpAny_bind (m := callSpecialIfBound? (.ref x) (Str.ofString "__eq__") [b])
        (ifBound_K X I hs hf (wpAny_mono hcall (fun r s' hr => by
          obtain ⟨k, rfl, hq⟩ := hr
          repeat (first | exact hq | exact wpAny_pure hq | exact wpAny_truthy_bool hq | (refine wpAny_bind (m := truthy (.bool _)) (wpAny_truthy_bool ?_)) | wp_step)) fun _ _ e => e)))
    | wp_step)
theorem ne_K {Q : Value → Shared → Prop} (hu : A.units + 1 < cLine) (Fm : Fr h₀ L s.heap m) (X₀ : K.In h₀) (I : InstAt s.heap x ox C od) (hb : Looks (model prog w) s.heap (typeOf b) (.ref C))
    (hn : findIn K (.ref C) "__ne__" = some (some (.builtin "object.__ne__"))) (ho : subIn K (.ref C) (.type "object") = some true)
    (hs : findIn K (.ref C) "__eq__" = some (some (.ref f))) (hf : isFn K (.ref f) = true)
    (h : wpAny (model prog w) A.in1 (call (.ref f) [.ref x, b]) (fun v s' => ∃ k, v = .bool k ∧ Q (.bool (!k)) s') E s) : wpAny (model prog w) A (richCompare .NotEq (.ref x) b) Q E s := by
  have X := X₀.keeps Fm.keep
  have LI : Looks (model prog w) s.heap (isInstance (.ref x) (.type "object")) true := I.type.andThen (looks_subIn X ho)
  have one : wpAny (model prog w) A (tryCompare (.ref x) "__ne__" b) (fun r s' => ∃ v, r = some v ∧ Q v s') E s := by
    unfold tryCompare
    refine wpAny_bind (ifBound_B X I hn rfl ?_)
    refine wpAny_call (codeAny_call_builtin PySem.F.cmp_object.ne.plain PySem.F.cmpEntry_ne (check_slot PySem.F.cmpKind_ne PySem.F.cmpSplit_ne LI (PySem.F.cmpArgs_ne _ _) (objNe_K (A := A.in1) hu X I hs hf (wpAny_mono h (fun v s' hv => ?_) fun _ _ e => e))))
    obtain ⟨k, rfl, hq⟩ := hv
    first | exact ⟨k, rfl, wpAny_pure ⟨_, rfl, hq⟩⟩ | exact ⟨k, rfl, ⟨_, rfl, hq⟩⟩
  unfold richCompare
  simp only [oneThing_ref]
  refine wpAny_holding (wpAny_bind (wpAny_cRoomFor (Nat.lt_of_succ_lt hu) ?_))
  refine wpAny_bind (I.type.here (wpAny_bind (hb.here ?_)))
  split
  · rename_i q
    simp at q
  · refine wpAny_bind (wpAny_pure ?_)
    simp only [Bool.false_eq_true, if_false]
    refine wpAny_bind (wpAny_mono one (fun r s' z => ?_) fun _ _ e => e)
    obtain ⟨v, rfl, hq⟩ := z
    exact wpAny_pure hq
end
end PySem.W
namespace Ta
open PySem PySem.Spec PyProof.Rows L2
structure NeF (K : PySem.W.Frag) (C : Addr) : Prop where
  ne : PySem.W.findIn K (.ref C) "__ne__" = some (some (.builtin "object.__ne__"))
  ob : PySem.W.subIn K (.ref C) (.type "object") = some true
def bNe (x : Str) : BF := fun K => He.eqO (PySem.W.findIn K (.ref (He.ga K x)) "__ne__") (some (some (.builtin "object.__ne__"))) && decide (PySem.W.subIn K (.ref (He.ga K x)) (.type "object") = some true)
theorem ne_of {K : PySem.W.Frag} {x : Str} (c : bNe x K = true) : NeF K (He.ga K x) := by
  obtain ⟨c1, c2⟩ := Bool.and_eq_true_iff.mp c
  exact ⟨He.eqO_ok c1, of_decide_eq_true c2⟩
/-- a != b by the own == -/
def zOwnN (C : Addr) (sp : Sp) : R2 := fun x y H Q => zOwn C sp x y H fun v H' => match v with
  | .bl k => Q (.bl (!k)) H'
  | _ => False
section
variable {X : Cx}
theorem opownN {C : Addr} {lv : Nat} {sp : Sp} (M : Me X.prog X.w X.K X.mg X.base C "__eq__" lv [] sp) (nf : NeF X.K C) (hr : Room (lv + 1) X.A) : OpR X (compareOp .NotEq) (zOwnN C sp) := by
  intro pins s σ H x y v u Q I rx ry h
  obtain ⟨a, b, dx, fs, dy, gs, rfl, rfl, ha, hb', h⟩ := zOwn_e h
  cases rx
  cases ry
  obtain ⟨⟨f, fd, ps, ds, F, hm, hd, hb⟩, cl⟩ := M
  cases hd
  obtain ⟨mA, J, _⟩ := ins_get I.hok ha
  obtain ⟨mB, J', _⟩ := ins_get I.hok hb'
  obtain ⟨od, J, _⟩ := J.look
  obtain ⟨od', J', _⟩ := J'.look
  obtain ⟨m, hF⟩ := I.fr
  show wpAny (model X.prog X.w) X.A (richCompare .NotEq (.ref a) (.ref b)) (EP X pins σ Q) X.xe s
  refine PySem.W.ne_K (by have := hr.units; omega) hF I.ok.mod.kin J J'.type nf.ne nf.ob hm.at_ hm.fn ?_
  have r2 : Vals [V.ref a, V.ref b] [Value.ref a, Value.ref b] := .cons rfl (.cons rfl .nil)
  refine wpAny_mono (run_in1 (E := WE WF) (us := [.ref a, .ref b]) (vs := [.ref a, .ref b]) F hr hb .nil (passAt takes0 σ) I r2 h) (fun r s' q => ?_) fun _ _ z => z
  obtain ⟨z, H', I', rz, k, rfl, q⟩ := q
  cases rz
  exact ⟨k, rfl, .bl (!k), H', I', rfl, q⟩
end
end Ta

set_option Elab.async false
set_option linter.all false
set_option maxRecDepth 100000
set_option maxHeartbeats 3200000
namespace Ta
open PySem PySem.Spec PyProof.Rows L2
/-! ### x.endswith(c) -/
theorem ends_one (l : List Nat) (c : Nat) : Txt.endswith (S l) (S [c]) = decide (l.getLast? = some c) := by
  have h := StrLaws.subAt_one (S l) c ((S l).length - 1)
  have e : (S l).length = l.length := TL.len_tl (S l)
  have e1 : (S [c] : Str).length = 1 := rfl
  rw [Bool.eq_iff_iff, decide_eq_true_iff]
  unfold Txt.endswith
  rw [Bool.and_eq_true, decide_eq_true_iff, e1, List.getLast?_eq_getElem?]
  constructor
  · rintro ⟨h1, h2⟩
    have := h.mp ⟨by show (S l).length - 1 + 1 ≤ _; omega, h2⟩
    rw [e] at this
    exact this
  · intro z
    have z2 : (S l).cps.toList[(S l).length - 1]? = some c := by rw [e]; exact z
    obtain ⟨h1, h2⟩ := h.mpr z2
    have h1 : (S l).length - 1 + 1 ≤ (S l).length := h1
    obtain ⟨hlt, _⟩ := List.getElem?_eq_some_iff.mp z
    exact ⟨by omega, h2⟩
def zEnds : V → List V → Hp → VK → Prop := fun x xs H Q => match x with
  | .str a => one xs fun y => (match y with
    | .str b => (match tl b with
      | [c] => Q (.bl (decide ((tl a).getLast? = some c))) H
      | _ => False)
    | _ => False)
  | _ => False
theorem mtends : MtR X "str.endswith" zEnds := mt_imp mt_endswith fun x xs H Q h => by
  cases x with
  | str a =>
    obtain ⟨y, rfl, h⟩ := one_e h
    cases y with
    | str b =>
      have h : (match tl b with
        | [c] => Q (.bl (decide ((tl a).getLast? = some c))) H
        | _ => False) := h
      split at h
      · rename_i c e
        refine ⟨a, b, rfl, rfl, ?_⟩
        have := ends_one (tl a) c
        rw [S_tl, ← e, S_tl] at this
        rw [this]; exact h
      · exact h.elim
    | _ => exact h.elim
  | _ => exact h.elim
/-! ### str of a text, of a number -/
def zStr (K : PySem.W.Frag) : List V → Hp → VK → Prop := fun xs H Q => one xs fun x => match x with
  | .str a => Q (.str a) H
  | .int i => i.natAbs.log2 < 1920 ∧ Q (.str (toString i)) H
  | _ => False
theorem crstr {X : Cx} : CallR X (.type "str") (zStr X.K) := fun pins s σ H xs us Q I r h => by
  obtain ⟨x, rfl, h⟩ := one_e h
  cases x with
  | str a => exact SkE.call_str_str pins s σ H _ us Q I r ⟨a, rfl, h⟩
  | int i => exact call_str_int pins s σ H _ us Q I r ⟨i, rfl, h.1, h.2⟩
  | _ => exact h.elim
def zBool (K : PySem.W.Frag) : List V → Hp → VK → Prop := fun xs H Q => one xs fun x => match x with
  | .int i => Q (.bl (!decide (i = 0))) H
  | .bl k => Q (.bl k) H
  | _ => False
theorem crbool {X : Cx} : CallR X (.type "bool") (zBool X.K) := fun pins s σ H xs us Q I r h => by
  obtain ⟨x, rfl, h⟩ := one_e h
  cases x with
  | int i => exact call_bool1 pins s σ H _ us Q I r (.inl ⟨i, rfl, by
      have e : (i != 0) = !decide (i = 0) := by simp only [bne]; congr 1
      rw [e]; exact h⟩)
  | bl k => exact call_bool1 pins s σ H _ us Q I r (.inr ⟨k, rfl, h⟩)
  | _ => exact h.elim
/-! ### indexes from the end -/
theorem itm_m1 {α : Type} {l : List α} {k : α → Prop} (h : 0 < l.length) (q : ∀ (j : Nat) (hj : j < l.length), j = l.length - 1 → k l[j]) : itm l (-1) k := by
  refine itm_i (v := l[l.length - 1]) ?_ (q _ (by omega) rfl)
  have e : ixN l.length (-1) = some (l.length - 1) := by
    unfold ixN
    rw [if_neg (by omega), if_pos (by omega)]
    congr 1
    omega
  unfold atI
  rw [e]
  exact List.getElem?_eq_getElem (by omega)
theorem itm_last {α : Type} {l : List α} {x : α} {k : α → Prop} (q : k x) : itm (l ++ [x]) (-1) k := by
  refine itm_m1 (by simp) fun j hj e => ?_
  have : j = l.length := by rw [e]; simp
  subst this
  simpa using q
/-! ### while, by a measure -/
structure wn (W : Nat → St → Hp → Prop) (m : Nat) (k : (St → Hp → Prop) → Prop) : Prop where
  out : ∃ N : St → Hp → Prop, (∀ σ' H', N σ' H' → ∃ m', m' < m ∧ W m' σ' H') ∧ k N
theorem wn_i {W : Nat → St → Hp → Prop} {m : Nat} {k : (St → Hp → Prop) → Prop} (q : k fun σ' H' => Sd (∃ m', m' < m ∧ W m' σ' H')) : wn W m k := by
  refine ⟨?_⟩; exact ⟨_, fun _ _ h => sd_e h, q⟩
theorem whl_s {c : TT} {tb : TS} {D : Ends} {σ : St} {H : Hp} (W : Nat → St → Hp → Prop) (m : Nat) (h0 : W m σ H)
    (hs : ∀ m σ H, W m σ H → c σ H fun b H1 => cnd b (wn W m fun N => tb { D with nx := N, ct := N, bk := D.nx } σ H1) (D.nx σ H1)) : whl c tb D σ H := by
  refine whl_i W m h0 fun m σ H hW => ?_
  have h := hs m σ H hW
  have e : (fun (b : Bool) (H1 : Hp) => cnd b (wn W m fun N => tb { D with nx := N, ct := N, bk := D.nx } σ H1) (D.nx σ H1)) =
      fun b H1 => if b = true then ∃ N : St → Hp → Prop, (∀ σ' H', N σ' H' → ∃ m', m' < m ∧ W m' σ' H') ∧ tb { D with nx := N, ct := N, bk := D.nx } σ H1 else D.nx σ H1 := by
    funext b H1
    refine propext ⟨fun z => ?_, fun z => cnd_i (fun e => ?_) fun e => ?_⟩
    · have z := cnd_e z
      cases b with
      | true => have y := z.out; exact y
      | false => exact z
    · rw [if_pos e] at z; exact ⟨z⟩
    · rw [if_neg (by rw [e]; decide)] at z; exact z
  rw [e] at h
  exact h
end Ta

set_option Elab.async false
set_option linter.all false
set_option maxRecDepth 100000
set_option maxHeartbeats 3200000
namespace Ta
open PySem PySem.Spec PyProof.Rows L2
/-! ### comprehensions over a list whose items stand for α -/
theorem filter_takeA {α : Type} {l : List α} {f : α → Bool} {k : Nat} {c : α} (h : l[k]? = some c) : (l.take (k + 1)).filter f = (l.take k).filter f ++ (if f c = true then [c] else []) := by
  rw [List.take_succ, h]
  simp [List.filter_append, List.filter_cons]
theorem lcp_A0 {α : Type} {n : Nat} {it : Itm} {st : Hp → Prop} {l : List α} {r : α → V} {i : Nat} {tt : TT} {te : TE} {σ : St} {H1 : Hp} {Q : VK} {vs : List Nat} (hn : n = l.length) (hit : ∀ k H x H', it k H x H' → H' = H ∧ ∃ c, l[k]? = some c ∧ x = r c) (hst : ∀ D xs, H1 D = none → st (upd H1 D (.lst xs)))
    (f : α → Bool) (h : α → V) (hl : l.length < 1000000) (ht : ∀ c D H' Q', H1 D = none → c ∈ l → (∃ xs, H' = upd H1 D (.lst xs)) → Q' (f c) H' → tt ((wipe σ vs).set i (some (r c))) H' Q')
    (he : ∀ c D H' Q', H1 D = none → c ∈ l → f c = true → (∃ xs, H' = upd H1 D (.lst xs)) → Q' (h c) H' → te ((wipe σ vs).set i (some (r c))) H' Q')
    (hw : ∀ v, wipe ((wipe σ vs).set i v) vs = wipe σ vs) (q : ∀ D, H1 D = none → Q (.ref D) (upd H1 D (.lst ((l.filter f).map h)))) : lcp n it st (gName i) tt te vs σ H1 Q := by
  subst hn
  refine lcp_i (fun D k H => H = upd H1 D (.lst (((l.take k).filter f).map h))) (fun D hD => rfl) (fun D k H hD _ e => by rw [e]; exact hst D _ hD) ?_ ?_
  · rintro D k x H H' hD hk rfl hi
    obtain ⟨rfl, c, hc, rfl⟩ := hit _ _ _ _ hi
    have hm := List.mem_of_getElem? hc
    refine ⟨hw _, ht c D _ _ hD hm ⟨_, rfl⟩ ?_⟩
    cases e : f c with
    | true =>
      rw [if_pos rfl]
      refine he c D _ _ hD hm e ⟨_, rfl⟩ ⟨_, upd_at, ?_, ?_⟩
      · rw [List.length_map, sizeLine_eq]
        have h1 := List.length_filter_le f (l.take k)
        rw [List.length_take] at h1
        omega
      · rw [upd_tw, filter_takeA hc, e, if_pos rfl, List.map_append]
        rfl
    | false =>
      rw [if_neg (by simp), filter_takeA hc, e, if_neg (by simp), List.append_nil]
  · rintro D H hD rfl
    rw [List.take_length]
    exact q D hD
/-- over a list that stands -/
theorem lcp_A {α : Type} {l : List α} {r : α → V} {p : Addr} {i : Nat} {tt : TT} {te : TE} {σ : St} {H1 : Hp} {Q : VK} {vs : List Nat} (hp : H1 p = some (.lst (l.map r)))
    (f : α → Bool) (h : α → V) (hl : l.length < 1000000) (ht : ∀ c D H' Q', H1 D = none → c ∈ l → (∃ xs, H' = upd H1 D (.lst xs)) → Q' (f c) H' → tt ((wipe σ vs).set i (some (r c))) H' Q')
    (he : ∀ c D H' Q', H1 D = none → c ∈ l → f c = true → (∃ xs, H' = upd H1 D (.lst xs)) → Q' (h c) H' → te ((wipe σ vs).set i (some (r c))) H' Q')
    (hw : ∀ v, wipe ((wipe σ vs).set i v) vs = wipe σ vs) (q : ∀ D, H1 D = none → Q (.ref D) (upd H1 D (.lst ((l.filter f).map h)))) : lcp (l.map r).length (itL (l.map r)) (fun H' => H' p = some (.lst (l.map r))) (gName i) tt te vs σ H1 Q := by
  refine lcp_A0 (l := l) (r := r) (by rw [List.length_map]) (fun k H x H' z => ⟨z.1, ?_⟩) (fun D xs hD => upd_fr hD hp) f h hl ht he hw q
  have h2 := z.2
  rw [List.getElem?_map] at h2
  cases e : l[k]? with
  | none => rw [e] at h2; cases h2
  | some c => rw [e] at h2; exact ⟨c, rfl, (Option.some.inj h2).symm⟩
/-- over range(lo, lo + n) -/
theorem lcp_R {n : Nat} {lo : Int} {i : Nat} {tt : TT} {te : TE} {σ : St} {H1 : Hp} {Q : VK} {vs : List Nat}
    (f : Nat → Bool) (h : Nat → V) (hl : n < 1000000) (ht : ∀ c D H' Q', H1 D = none → c < n → (∃ xs, H' = upd H1 D (.lst xs)) → Q' (f c) H' → tt ((wipe σ vs).set i (some (.int (lo + c)))) H' Q')
    (he : ∀ c D H' Q', H1 D = none → c < n → f c = true → (∃ xs, H' = upd H1 D (.lst xs)) → Q' (h c) H' → te ((wipe σ vs).set i (some (.int (lo + c)))) H' Q')
    (hw : ∀ v, wipe ((wipe σ vs).set i v) vs = wipe σ vs) (q : ∀ D, H1 D = none → Q (.ref D) (upd H1 D (.lst (((List.range n).filter f).map h)))) : lcp n (itR lo) (fun _ => True) (gName i) tt te vs σ H1 Q := by
  have hr : (List.range n).length = n := List.length_range
  have hm : ∀ {c : Nat} {C : Prop}, c < n ∨ C → c < n ∨ C := fun h => h
  refine lcp_i (fun D k H => H = upd H1 D (.lst ((((List.range n).take k).filter f).map h))) (fun D hD => rfl) (fun _ _ _ _ _ _ => trivial) ?_ ?_
  · rintro D k x H H' hD hk rfl ⟨rfl, rfl⟩
    have hc : (List.range n)[k]? = some k := by rw [List.getElem?_range hk]
    refine ⟨hw _, ht k D _ _ hD hk ⟨_, rfl⟩ ?_⟩
    cases e : f k with
    | true =>
      rw [if_pos rfl]
      refine he k D _ _ hD hk e ⟨_, rfl⟩ ⟨_, upd_at, ?_, ?_⟩
      · rw [List.length_map, sizeLine_eq]
        have h1 := List.length_filter_le f ((List.range n).take k)
        rw [List.length_take] at h1
        omega
      · rw [upd_tw, filter_takeA hc, e, if_pos rfl, List.map_append]
        rfl
    | false =>
      rw [if_neg (by simp), filter_takeA hc, e, if_neg (by simp), List.append_nil]
  · rintro D H hD rfl
    rw [List.take_of_length_le (by rw [hr]; exact Nat.le_refl _)]
    exact q D hD
end Ta

set_option Elab.async false
set_option linter.all false
set_option maxRecDepth 100000
set_option maxHeartbeats 3200000
namespace Ta
open PySem PySem.Spec PyProof.Rows L2
/-- a comprehension whose test and element may lay objects -/
theorem lcp_K0 {α : Type} {n : Nat} {it : Itm} {st : Hp → Prop} {l : List α} {r : α → V} {i : Nat} {tt : TT} {te : TE} {σ : St} {H1 : Hp} {Q : VK} {vs : List Nat} (hn : n = l.length) (hit : ∀ k H x H', it k H x H' → H' = H ∧ ∃ c, l[k]? = some c ∧ x = r c) (hst : ∀ H', Kp [] H1 H' → st H')
    (f : α → Bool) (h : α → V) (hl : l.length < 1000000) (ht : ∀ c H' Q', c ∈ l → Kp [] H1 H' → (∀ H2, Kp [] H' H2 → Q' (f c) H2) → tt ((wipe σ vs).set i (some (r c))) H' Q')
    (he : ∀ c H' Q', c ∈ l → f c = true → Kp [] H1 H' → (∀ H2, Kp [] H' H2 → Q' (h c) H2) → te ((wipe σ vs).set i (some (r c))) H' Q')
    (hw : ∀ v, wipe ((wipe σ vs).set i v) vs = wipe σ vs) (q : ∀ D H', H1 D = none → Kp [] H1 H' → H' D = some (.lst ((l.filter f).map h)) → Q (.ref D) H') : lcp n it st (gName i) tt te vs σ H1 Q := by
  subst hn
  refine lcp_i (fun D k H => Kp [] H1 H ∧ H D = some (.lst (((l.take k).filter f).map h))) (fun D hD => ⟨Kp.rfl'.new hD, upd_at⟩) (fun D k H hD _ e => hst H e.1) ?_ ?_
  · rintro D k x H H' hD hk ⟨kk, hDD⟩ hi
    obtain ⟨rfl, c, hc, rfl⟩ := hit _ _ _ _ hi
    have hm := List.mem_of_getElem? hc
    refine ⟨hw _, ht c _ _ hm kk fun H2 k2 => ?_⟩
    cases e : f c with
    | true =>
      rw [if_pos rfl]
      refine he c _ _ hm e (kk.trans k2) fun H3 k3 => ⟨_, k3.get0 (k2.get0 hDD), ?_, ((kk.trans k2).trans k3).own hD, ?_⟩
      · rw [List.length_map, sizeLine_eq]
        have h1 := List.length_filter_le f (l.take k)
        rw [List.length_take] at h1
        omega
      · rw [filter_takeA hc, e, if_pos rfl, List.map_append]
        exact upd_at
    | false =>
      rw [if_neg (by simp)]
      refine ⟨kk.trans k2, ?_⟩
      rw [filter_takeA hc, e, if_neg (by simp), List.append_nil]
      exact k2.get0 hDD
  · rintro D H hD ⟨kk, hDD⟩
    rw [List.take_length] at hDD
    exact q D H hD kk hDD
theorem lcp_K {α : Type} {l : List α} {r : α → V} {p : Addr} {i : Nat} {tt : TT} {te : TE} {σ : St} {H1 : Hp} {Q : VK} {vs : List Nat} (hp : H1 p = some (.lst (l.map r)))
    (f : α → Bool) (h : α → V) (hl : l.length < 1000000) (ht : ∀ c H' Q', c ∈ l → Kp [] H1 H' → (∀ H2, Kp [] H' H2 → Q' (f c) H2) → tt ((wipe σ vs).set i (some (r c))) H' Q')
    (he : ∀ c H' Q', c ∈ l → f c = true → Kp [] H1 H' → (∀ H2, Kp [] H' H2 → Q' (h c) H2) → te ((wipe σ vs).set i (some (r c))) H' Q')
    (hw : ∀ v, wipe ((wipe σ vs).set i v) vs = wipe σ vs) (q : ∀ D H', H1 D = none → Kp [] H1 H' → H' D = some (.lst ((l.filter f).map h)) → Q (.ref D) H') : lcp (l.map r).length (itL (l.map r)) (fun H' => H' p = some (.lst (l.map r))) (gName i) tt te vs σ H1 Q := by
  refine lcp_K0 (l := l) (r := r) (by rw [List.length_map]) (fun k H x H' z => ⟨z.1, ?_⟩) (fun H' kk => kk.get0 hp) f h hl ht he hw q
  have h2 := z.2
  rw [List.getElem?_map] at h2
  cases e : l[k]? with
  | none => rw [e] at h2; cases h2
  | some c => rw [e] at h2; exact ⟨c, rfl, (Option.some.inj h2).symm⟩
end Ta

set_option Elab.async false
set_option linter.all false
set_option maxRecDepth 100000
set_option maxHeartbeats 2000000
namespace Ta
open PySem PySem.Spec PyProof.Rows L2
open L2H (RoomH PinOk cxH inv_startH roomH_of)

/-! ### calls of quiet defs (no loop, nothing raised) within an except suite -/
theorem _root_.L2H.RoomH.units {k : Nat} {A : Around} (r : RoomH k A) : A.units + 64 < cLine := by
  have := r.un
  omega
/-- what a quiet def promises, whatever is handled -/
structure FnQuO (P : Program) (w : World) (K : PySem.W.Frag) (mg : Str → Option Value) (base : Heap) (k : Nat) (f : Addr) (fd : FuncData) (ps : List Str) (sp : Sp) : Prop where
  qlen : ∀ vs H Q E, sp vs H Q E → vs.length = ps.length
  qrun : ∀ (A : Around) (outer : List Env) (s : Shared) (H : Hp) (args : Args) (us : List Value) (vs : List V) (Q : VK) (E : XK) (p : Addr × Obj),
    RoomH k A → PinOk outer H s p → Env0 P w K mg base A outer s H → BindsTo s fd args (ps.zip us) → Vals vs us → sp vs H Q E →
      codeAny (model P w) A (.call (.ref f) args) (CR (L2.CX P w) outer P w H s Q E) s
section
variable {P : Program} {w : World} {K : PySem.W.Frag} {mg : Str → Option Value} {base : Heap} {x qual : Str} {params : Arguments} {body : List Stmt} {scope : Scope} {dvs : List V} {kws : List (Str × V)} {f : Addr} {fd : FuncData}
theorem def_okQ {N ps : List Str} {k : Nat} {sp : Sp} (F : FunD K x qual params body scope dvs kws f fd) (S : FnScope N ps scope)
    (len : ∀ vs H Q E, sp vs H Q E → vs.length = ps.length) (t : WX → TS)
    (term : ∀ (cdv : Value) (A : Around) (outer : List Env) (s : Shared) (H : Hp) (E : XK) (p : Addr × Obj),
      RoomH k (A.deeper (envOfC qual scope s.heap.objs.size f cdv)) →
        PSs (cxH (L2.CX P w) P w K mg base N qual scope f cdv A outer s H E p) body (t (WD E)))
    (rd : ∀ vs H Q E, sp vs H Q E → t (WD E) (EndD Q) (start N vs) H) : FnQuO P w K mg base (k + 1) f fd ps sp := by
  obtain ⟨oc, od, dV, kV, doc, pm, an, cdv, ct, osl, rfl, fnd, cdi, _, _⟩ := F.ex
  refine ⟨len, fun A outer s H args us vs Q E p rm pin env0 bnd vals spc => ?_⟩
  have len1 := len _ _ _ _ spc
  have kIn := env0.mod.kin.keeps fun b o e => (env0.bs b o e).1
  have noLim := env0.mod.nolimit.keeps fun b o e => (env0.bs b o e).1
  have kinds : ∀ y ∈ ps.zip us, scope.names.lookup y.1 = some .local ∨
      (scope.names.lookup y.1 = some .cell ∧ ((cellsFrom (s.heap.objs.size + 1) scope.names []).lookup y.1).isSome = true) := by
    rintro ⟨n, v⟩ hy
    rcases S.par n (List.of_mem_zip hy).1 with z | z
    · exact Or.inl z
    · exact Or.inr ⟨z, PySem.W.cellsFrom_some _ _ _ (Or.inl z)⟩
  refine codeAny_call_function rm.depth (kIn _ _ fnd) rfl S.co S.gen rfl (PySem.W.codeRec_of kIn cdi) (bnd _ _ _ _ ?_)
  refine wpAny_newFunctionEnv_cells S.kind kinds fun env1 eenv s2 stt => ?_
  subst eenv
  refine ⟨noLim.keeps stt.toInCall.keep, codeAny_func ?_⟩
  have inv := inv_startH (CX := L2.CX P w) (E := E) S pin env0 len1 vals stt
  refine wpAny_mono ((term cdv A outer s H E p (rm.deeper _)).run [] s2 (start N vs) H _ inv (rd vs H Q E spc)) ?_ (fun _ _ z => z)
  intro flow s3 res
  match flow, res with
  | .ret u, res =>
    obtain ⟨v, _, H3, inv3, rel, q⟩ := res
    exact ⟨v, H3, inv3.os, inv3.bare, inv3.base, inv3.hok, rel, q⟩
  | .next, res =>
    obtain ⟨_, H3, inv3, q⟩ := res
    exact ⟨.non, H3, inv3.os, inv3.bare, inv3.base, inv3.hok, rfl, q⟩
  | .brk, res => exact (match res with | ⟨_, _, _, z⟩ => z.elim)
  | .cont, res => exact (match res with | ⟨_, _, _, z⟩ => z.elim)
variable (P w K mg base) in
structure FnQu (x : Str) (lv : Nat) (sp : Sp) : Prop where
  qex : ∃ (f : Addr) (fd : FuncData) (ps : List Str), FnQuO P w K mg base lv f fd ps sp ∧ mg x = some (.ref f) ∧ PySem.W.keepIn K (.ref f) = true ∧ Binds K fd ps []
end
section
variable {X : Cx} {x : Str} {p pos : Pos} {e : Expr} {es : List Expr} {t : TA} {lv k : Nat} {sp : Sp} {W : WX} {A0 : Around}
theorem pcallQ (F : FnQu X.prog X.w X.K X.mg X.base x lv sp) (rm : RoomH lv X.A) (pn : ∃ z : Addr × Obj, z ∈ X.pn) (tk : Takes X W) (args : PA X (e :: es) t) (hg : Gl X x := by rfl)
    (hdb : (x == ("__debug__" : Str)) = false := by decide +kernel)
    (he : starEach (e :: es) X.env = (false, eval e X.env) :: starEach es X.env := by rfl)
    (hpl : (backTo pos (starEach es X.env)).any (·.1) = false := by rfl) :
    PE X (.Call (.Name x p) (e :: es) [] pos) (tCal sp [] W t) := by
  obtain ⟨f, fd, ps, F, glo, kp, bnds⟩ := F.qex
  refine ⟨fun pins s σ H Q I h => wpAny_Call_Name_kw (ld_glob I hg glo ?_ hdb)⟩
  refine PySem.W.callWith_K (h₀ := X.base) I.ok.mod.kin kp (thn (args.run pos pins s σ H _ I h) fun us s1 ⟨vs, H1, I1, vals, q⟩ => ⟨I1.kIn, ?_⟩) he hpl
  dsimp only at q
  rw [List.append_nil] at q
  obtain ⟨z, hz⟩ := pn
  have lenU : us.length = ps.length := by
    rw [← vals.length]
    exact F.qlen _ _ _ _ q
  have bn := bnds s1 us I1.kIn (by rw [List.append_nil]; exact lenU)
  rw [List.append_nil] at bn
  obtain ⟨z1, z2, z3, z4, z5⟩ := I1.pin z (List.mem_append_left _ hz)
  have pinOk : PinOk X.stack H1 s1 z := ⟨z1, z2, fun hm => (List.mem_cons.mp (I1.stkSub z.1 hm)).elim z3 z4, z5⟩
  refine wpAny_call (codeAny_mono (F.qrun X.A X.stack s1 H1 ⟨us, []⟩ us vs Q (WE W σ) z rm pinOk I1.env0 bn vals q) ?_)
  intro r s' hr
  match r, hr with
  | .error e, hr => exact passAt tk σ pins H1 s1 e s' I1 hr
  | .ok (.ret u), hr => exact I1.after hr
  | .ok .next, hr => exact hr.elim
  | .ok .brk, hr => exact hr.elim
  | .ok .cont, hr => exact hr.elim
theorem roomQ {a : Option Value} (r : Room k A0) (h : lv ≤ k) : RoomH lv (A0.mark a) := by
  have r := roomH_of (r.mono h)
  exact ⟨r.dp, r.un⟩
/-- the wish of such a def's context -/
theorem takesQ {P : Program} {w : World} {K : PySem.W.Frag} {mg : Str → Option Value} {base : Heap} {N : List Str} {qual : Str} {scope : Scope} {f : Addr} {cdv : Value} {A : Around} {outer : List Env} {s : Shared} {H : Hp} {E : XK} {z : Addr × Obj} :
    Takes (cxH (L2.CX P w) P w K mg base N qual scope f cdv A outer s H E z) (WD E) := takes_of rfl rfl rfl rfl
end
end Ta

set_option Elab.async false
set_option linter.all false
set_option maxRecDepth 100000
set_option maxHeartbeats 4000000
namespace Lw
open PySem PySem.Spec PyProof.Rows L2 Ta
def top (i : Nat) : Stmt := PySem.Challenge.pw_talepost_k43_recordings.main.body.getD i (.Pass ⟨0, 0, 0, 0⟩)
structure Tx (K : PySem.W.Frag) (mg : Str → Option Value) : Prop where
  f_ValueError : mg "ValueError" = none
  f_abs : mg "abs" = none
  f_bool : mg "bool" = none
  f_int : mg "int" = none
  f_isinstance : mg "isinstance" = none
  f_len : mg "len" = none
  f_list : mg "list" = none
  f_max : mg "max" = none
  f_min : mg "min" = none
  f_range : mg "range" = none
  f_set : mg "set" = none
  f_sorted : mg "sorted" = none
  f_str : mg "str" = none
  v_Alphabet : GlobV mg "Alphabet" (.ref (He.ga K "Alphabet"))
  v_BRACKETS : GlobV mg "BRACKETS" (.str (S [40, 91, 124, 93, 41]))
  v_BadRecording : GlobV mg "BadRecording" (.ref (He.ga K "BadRecording"))
  v_MOST_DEPTH : GlobV mg "MOST_DEPTH" (.int 4)
  v_MOST_KEYS : GlobV mg "MOST_KEYS" (.int 24)
  v_Mixed : GlobV mg "Mixed" (.ref (He.ga K "Mixed"))
  v_OPENING : GlobV mg "OPENING" (.str (S [40, 91]))
  v_PLAIN_KEYS : GlobV mg "PLAIN_KEYS" (.str (S [62, 120, 119, 94, 109, 107, 99, 112]))
  v_Recording : GlobV mg "Recording" (.ref (He.ga K "Recording"))
  v_SIGN_KEYS : GlobV mg "SIGN_KEYS" (.str (S [39, 61, 47]))
  v_SMALL : GlobV mg "SMALL" (.str (S [97, 98, 99, 100, 101, 102, 103, 104, 105, 106, 107, 108, 109, 110, 111, 112, 113, 114, 115, 116, 117, 118, 119, 120, 121, 122]))
  v_TaleError : GlobV mg "TaleError" (.ref (He.ga K "TaleError"))
  v_TooMany : GlobV mg "TooMany" (.ref (He.ga K "TooMany"))
  cc_Alphabet_JOINT : ClsConst K mg "Alphabet" "JOINT" (.str (S [45]))
  cc_Alphabet_MOST : ClsConst K mg "Alphabet" "MOST" (.int 4)
  cc_Recording_MOST_DEPTH : ClsConst K mg "Recording" "MOST_DEPTH" (.int 4)
  cc_Recording_MOST_KEYS : ClsConst K mg "Recording" "MOST_KEYS" (.int 24)
  k_Alphabet : Cls K (He.ga K "Alphabet")
  k_Recording : Cls K (He.ga K "Recording")
  i_Alphabet : IsC K (He.ga K "Alphabet")
  n_Alphabet_letters : NoAttr K (He.ga K "Alphabet") "letters"
  n_Alphabet_vowels : NoAttr K (He.ga K "Alphabet") "vowels"
  n_Alphabet_consonants : NoAttr K (He.ga K "Alphabet") "consonants"
  n_Alphabet_signs : NoAttr K (He.ga K "Alphabet") "signs"
  i_Recording : IsC K (He.ga K "Recording")
  o_Recording_Recording : PySem.W.kitOne K (.ref (He.ga K "Recording")) (.ref (He.ga K "Recording")) = some true
  o_Alphabet_Alphabet : PySem.W.kitOne K (.ref (He.ga K "Alphabet")) (.ref (He.ga K "Alphabet")) = some true
  n_Recording_key_list : NoAttr K (He.ga K "Recording") "key_list"
  n_Recording_spelling : NoAttr K (He.ga K "Recording") "spelling"
  n_Recording_alphabet : NoAttr K (He.ga K "Recording") "alphabet"
  x_BadRecording : XC K (He.ga K "BadRecording")
  nx_BadRecording_place : PySem.W.findIn K (.ref (He.ga K "BadRecording")) "place" = some none
  x_TooMany : XC K (He.ga K "TooMany")
  nx_TooMany_most : PySem.W.findIn K (.ref (He.ga K "TooMany")) "most" = some none
  o_BadRecording_TaleError : PySem.W.kitOne K (.ref (He.ga K "BadRecording")) (.ref (He.ga K "TaleError")) = some true
  o_BadRecording_ValueError : PySem.W.kitOne K (.ref (He.ga K "BadRecording")) (.type "ValueError") = some true
  o_TooMany_TaleError : PySem.W.kitOne K (.ref (He.ga K "TooMany")) (.ref (He.ga K "TaleError")) = some true
  o_TooMany_ValueError : PySem.W.kitOne K (.ref (He.ga K "TooMany")) (.type "ValueError") = some true
  e_BadRecording_BadRecording : PySem.W.exmOne K (.ref (He.ga K "BadRecording")) (.ref (He.ga K "BadRecording")) = some true
  e_TooMany_BadRecording : PySem.W.exmOne K (.ref (He.ga K "TooMany")) (.ref (He.ga K "BadRecording")) = some false
  e_TooMany_TooMany : PySem.W.exmOne K (.ref (He.ga K "TooMany")) (.ref (He.ga K "TooMany")) = some true
  e_Mixed_Mixed : PySem.W.exmOne K (.ref (He.ga K "Mixed")) (.ref (He.ga K "Mixed")) = some true
  s_Recording : SelfF K (He.ga K "Recording")
  ne_Alphabet : NeF K (He.ga K "Alphabet")
abbrev pr (a b : Int) : HO := .lst [.int a, .int b]
abbrev scr (ob : Obj) (ns : List Int) : HO := .frz ob (.lst (ns.map V.int))
abbrev AZ : List Nat := [97, 98, 99, 100, 101, 102, 103, 104, 105, 106, 107, 108, 109, 110, 111, 112, 113, 114, 115, 116, 117, 118, 119, 120, 121, 122]
def dif (l : List Nat) : Bool := decide ((dn l : Int) = (l.length : Int))
def badL (l : List Nat) : Bool := l.any (fun c => !decide (c ∈ AZ)) || !(decide (1 ≤ l.length ∧ l.length ≤ 4)) || !dif l
def badV (l v : List Nat) : Bool := v.any (fun c => !decide (c ∈ l)) || !dif v
abbrev tLet : List Nat := [108, 101, 116, 116, 101, 114, 115]
abbrev tVow : List Nat := [118, 111, 119, 101, 108, 115]
def alf (l v : List Nat) : List (Str × V) := [("letters", .str (S (srt l))), ("vowels", .str (S (srt v))), ("consonants", .str (S ((srt l).filter fun c => !decide (c ∈ v)))), ("signs", .str (S (45 :: srt l)))]
theorem badL1 {l : List Nat} (h : (sgn (l.filter fun c => !decide (c ∈ AZ))).isEmpty = false) : badL l = true := by
  rw [sgn_fe] at h
  unfold badL
  simp only [Bool.not_eq_false'] at h
  rw [h, Bool.true_or, Bool.true_or]
theorem badL2 {l : List Nat} (h : ¬ (1 : Int) ≤ (l.length : Int)) : badL l = true := by
  unfold badL
  rw [decide_eq_false (by omega : ¬ (1 ≤ l.length ∧ l.length ≤ 4)), Bool.not_false, Bool.or_true, Bool.true_or]
theorem badL3 {l : List Nat} (h : ¬ (l.length : Int) ≤ 4) : badL l = true := by
  unfold badL
  rw [decide_eq_false (by omega : ¬ (1 ≤ l.length ∧ l.length ≤ 4)), Bool.not_false, Bool.or_true, Bool.true_or]
theorem badL4 {l : List Nat} (h : ¬ (dn l : Int) = (l.length : Int)) : badL l = true := by
  unfold badL dif
  rw [decide_eq_false h, Bool.not_false, Bool.or_true]
theorem badL0 {l : List Nat} (h : (sgn (l.filter fun c => !decide (c ∈ AZ))).isEmpty = true) (h1 : (1 : Int) ≤ (l.length : Int)) (h2 : (l.length : Int) ≤ 4) (h3 : (dn l : Int) = (l.length : Int)) : badL l = false := by
  rw [sgn_fe] at h
  unfold badL dif
  simp only [Bool.not_eq_true'] at h
  rw [h, decide_eq_true (by omega : 1 ≤ l.length ∧ l.length ≤ 4), decide_eq_true h3]; rfl
theorem badV1 {l v : List Nat} (h : (sgn (v.filter fun c => !decide (c ∈ l))).isEmpty = false) : badV l v = true := by
  rw [sgn_fe] at h
  unfold badV
  simp only [Bool.not_eq_false'] at h
  rw [h, Bool.true_or]
theorem badV2 {l v : List Nat} (h : ¬ (dn v : Int) = (v.length : Int)) : badV l v = true := by
  unfold badV dif
  rw [decide_eq_false h, Bool.not_false, Bool.or_true]
theorem badV0 {l v : List Nat} (h : (sgn (v.filter fun c => !decide (c ∈ l))).isEmpty = true) (h3 : (dn v : Int) = (v.length : Int)) : badV l v = false := by
  rw [sgn_fe] at h
  unfold badV dif
  simp only [Bool.not_eq_true'] at h
  rw [h, decide_eq_true h3]; rfl
theorem dif_nd (l : List Nat) : dif l = true ↔ l.Nodup := by
  unfold dif
  rw [decide_eq_true_iff, ← dn_nodup]
  omega
theorem badL_any {l : List Nat} {c : Nat} (h : c ∈ l) (hc : ¬ c ∈ AZ) : badL l = true := by
  unfold badL
  have z : (l.any fun c => !decide (c ∈ AZ)) = true := List.any_eq_true.mpr ⟨c, h, by rw [decide_eq_false hc]; rfl⟩
  rw [z, Bool.true_or, Bool.true_or]
theorem badL_nd {l : List Nat} (h : ¬ l.Nodup) : badL l = true := by
  unfold badL
  have z : dif l = false := by
    cases e : dif l with
    | false => rfl
    | true => exact absurd ((dif_nd l).mp e) h
  rw [z, Bool.not_false, Bool.or_true]
theorem badV_any {l v : List Nat} {c : Nat} (h : c ∈ v) (hc : ¬ c ∈ l) : badV l v = true := by
  unfold badV
  have z : (v.any fun c => !decide (c ∈ l)) = true := List.any_eq_true.mpr ⟨c, h, by rw [decide_eq_false hc]; rfl⟩
  rw [z, Bool.true_or]
theorem badV_nd {l v : List Nat} (h : ¬ v.Nodup) : badV l v = true := by
  unfold badV
  have z : dif v = false := by
    cases e : dif v with
    | false => rfl
    | true => exact absurd ((dif_nd v).mp e) h
  rw [z, Bool.not_false, Bool.or_true]
theorem badL_ok {l : List Nat} (h1 : 1 ≤ l.length) (h2 : l.length ≤ 4) (h3 : l.Nodup) (h4 : ∀ c ∈ l, c ∈ AZ) : badL l = false := by
  unfold badL
  have z : (l.any fun c => !decide (c ∈ AZ)) = false := List.any_eq_false.mpr fun c hc => by rw [decide_eq_true (h4 c hc)]; decide
  rw [z, (dif_nd l).mpr h3, decide_eq_true ⟨h1, h2⟩]; rfl
theorem badV_ok {l v : List Nat} (h3 : v.Nodup) (h4 : ∀ c ∈ v, c ∈ l) : badV l v = false := by
  unfold badV
  have z : (v.any fun c => !decide (c ∈ l)) = false := List.any_eq_false.mpr fun c hc => by rw [decide_eq_true (h4 c hc)]; decide
  rw [z, (dif_nd v).mpr h3]; rfl
theorem nd_at {l : List Nat} {j : Nat} (hj : j < l.length) (h : l[j] ∈ l.take j) : ¬ l.Nodup := fun nd => by
  obtain ⟨i, hi, e⟩ := List.mem_iff_getElem.mp h
  have hi2 : i < j := by rw [List.length_take] at hi; omega
  rw [List.getElem_take] at e
  exact absurd ((List.getElem_inj nd).mp e) (by omega)
theorem nd_take {l : List Nat} {j : Nat} (hj : j < l.length) (h : ¬ l[j] ∈ l.take j) (nd : (l.take j).Nodup) : (l.take (j + 1)).Nodup := by
  rw [List.take_succ_eq_append_getElem hj]
  refine List.nodup_append.mpr ⟨nd, by simp, fun a ha b hb => ?_⟩
  rw [List.mem_singleton.mp hb]
  exact fun e => h (e ▸ ha)
theorem al_take {l m : List Nat} {j : Nat} (hj : j < l.length) (h : l[j] ∈ m) (al : ∀ c ∈ l.take j, c ∈ m) : ∀ c ∈ l.take (j + 1), c ∈ m := fun c hc => by
  rw [List.take_succ_eq_append_getElem hj] at hc
  rcases List.mem_append.mp hc with z | z
  · exact al c z
  · rw [List.mem_singleton.mp z]; exact h
/-- letters and vowels that an alphabet takes -/
def good (l v : List Nat) : Prop := badL l = false ∧ badV l v = false
/-- a box: a great number or 0, a count, the cells -/
abbrev bx (a b : Int) (q : Addr) : HO := .lst [.int a, .int b, .ref q]
abbrev cel (cs : List Int) : HO := .lst (cs.map V.int)
def okc (cs : List Int) : Prop := cs ≠ [] ∧ cs.length < 1000 ∧ ∀ c ∈ cs, 0 ≤ c ∧ c < 2305843009213693951
theorem bxq {H : Hp} {p q : Addr} {a b : Int} {cs : List Int} (hp : H p = some (bx a b q)) (hq : H q = some (cel cs)) : q ≠ p := fun e => by
  rw [e, hp] at hq
  have h := Option.some.inj hq
  injection h with h
  match cs, h with
  | [], h => cases h
  | [_], h => cases h
  | [_, _], h => cases h
  | _ :: _ :: c :: cs, h => cases h
theorem rpE_mem {c a : Nat} {l : List Nat} : a ∈ rpE c l ↔ a ∈ l ∧ a ≠ c := by
  unfold rpE; rw [List.mem_filter]; simp
theorem rpE_len {c : Nat} : ∀ {l : List Nat}, l.Nodup → c ∈ l → (rpE c l).length + 1 = l.length
  | [], _, h => (nomatch h)
  | a :: l, hn, h => by
    obtain ⟨h1, h2⟩ := List.nodup_cons.mp hn
    by_cases e : a = c
    · subst e
      have e2 : rpE a (a :: l) = l := by
        unfold rpE
        rw [List.filter_cons]
        simp
        exact fun b hb z => h1 (z ▸ hb)
      rw [e2]; rfl
    · have e2 : rpE c (a :: l) = a :: rpE c l := by unfold rpE; rw [List.filter_cons]; simp [e]
      have hm : c ∈ l := by
        rcases List.mem_cons.mp h with z | z
        · exact absurd z.symm e
        · exact z
      rw [e2, List.length_cons, rpE_len h2 hm, List.length_cons]
theorem rpE_nd {c : Nat} {l : List Nat} (h : l.Nodup) : (rpE c l).Nodup := List.Pairwise.filter _ h
theorem all_sgn {g : List Nat} : ∀ {xs : List V}, (∀ v ∈ xs, ∃ c ∈ g, v = .str (S [c])) → ∃ t : List Nat, xs = sgn t ∧ t.length = xs.length ∧ ∀ c ∈ t, c ∈ g
  | [], _ => ⟨[], rfl, rfl, fun _ z => (nomatch z)⟩
  | v :: xs, h => by
    obtain ⟨t, h1, h2, h3⟩ := all_sgn (xs := xs) fun w hw => h w (List.mem_cons_of_mem _ hw)
    obtain ⟨c, hc, rfl⟩ := h v List.mem_cons_self
    refine ⟨c :: t, by rw [h1]; rfl, by simp [h2], fun d hd => ?_⟩
    rcases List.mem_cons.mp hd with rfl | hd
    · exact hc
    · exact h3 d hd
abbrev alo (K : PySem.W.Frag) (dA : Addr) (l v : List Nat) : HO := .ins (He.ga K "Alphabet") dA (alf l v)
abbrev SK : List Nat := [39, 61, 47]
abbrev PK : List Nat := [62, 120, 119, 94, 109, 107, 99, 112]
abbrev BK : List Nat := [40, 91, 124, 93, 41]
abbrev OB : List Nat := [40, 91]
abbrev tks (ks : List (List Nat)) : HO := .lst (ks.map fun k => V.str (S k))
/-- the groups behind a bracket -/
def ga (g : List Nat) (c : Nat) (f : Bool) : Option (List Nat) :=
  if c ∈ OB then (if g.length < 4 then some (g ++ [c]) else none)
  else if c = 41 then (if g.getLast? = some 40 ∧ f = false then some g.dropLast else none)
  else if c = 124 then (if g.getLast? = some 91 ∧ f = false then some (g.dropLast ++ [124]) else none)
  else (if g.getLast? = some 124 then some g.dropLast else none)
/-- a bracket as a mark -/
def isb (m : List Nat) : Bool := match m with
  | [c] => decide (c ∈ BK)
  | _ => false
/-- the last mark opens a group -/
def fr (ms : List (List Nat)) : Bool := match ms.getLast? with
  | some [c] => decide (c ∈ OB)
  | _ => false
/-- what the marks of a notation are: -1 and all of them, or the place that cannot stand -/
def scn (sg : List Nat) : Nat → List Nat → Nat → List Nat → List (List Nat) → Int × List (List Nat)
  | 0, _, i, _, ms => ((i : Int), ms)
  | _ + 1, [], i, g, ms => if g = [] then (-1, ms) else ((i : Int), ms)
  | f + 1, c :: r, i, g, ms =>
    if c ∈ SK then (match r with
      | [] => (((i + 1 : Nat) : Int), ms)
      | d :: r' => if d ∈ sg then scn sg f r' (i + 2) g (ms ++ [[c, d]]) else (((i + 1 : Nat) : Int), ms))
    else if c ∈ BK then (match ga g c (fr ms) with
      | none => ((i : Int), ms)
      | some g' => scn sg f r (i + 1) g' (ms ++ [[c]]))
    else if c ∈ PK then scn sg f r (i + 1) g (ms ++ [[c]])
    else ((i : Int), ms)
abbrev scan (sg n : List Nat) : Int × List (List Nat) := scn sg (n.length + 1) n 0 [] []
abbrev kof (ms : List (List Nat)) : List (List Nat) := ms.filter fun m => !isb m
/-- a mark's form -/
def okm (sg : List Nat) (m : List Nat) : Prop := (∃ c, m = [c] ∧ (c ∈ BK ∨ c ∈ PK)) ∨ ∃ c d, m = [c, d] ∧ c ∈ SK ∧ d ∈ sg
/-- a number told, or an error with a place -/
structure recK (K : PySem.W.Frag) (r : Int × List (List Nat)) (H : Hp) (E : XK) (q : Prop) : Prop where
  out : if r.1 = -1 then q else ∀ H' d, Kp [] H H' → H' d = none → E (.ref (He.ga K "BadRecording")) (some d) (upd H' d (.xd [("place", .int r.1)]))
theorem recK_e {K : PySem.W.Frag} {r : Int × List (List Nat)} {H H' : Hp} {E : XK} {q : Prop} {d : Addr} {k : Int} (h : recK K r H E q) (e : r.1 = k) (hk : 0 ≤ k) (kp : Kp [] H H') (hd : H' d = none) : E (.ref (He.ga K "BadRecording")) (some d) (upd H' d (.xd [("place", .int k)])) := by
  have h := h.out
  rw [if_neg (by omega), e] at h
  exact h H' d kp hd
theorem recK_q {K : PySem.W.Frag} {r : Int × List (List Nat)} {H : Hp} {E : XK} {q : Prop} (h : recK K r H E q) (e : r.1 = -1) : q := by
  have h := h.out
  rw [if_pos e] at h; exact h
abbrev recO (K : PySem.W.Frag) (d A p : Addr) (n : List Nat) : HO := .ins (He.ga K "Recording") d [("key_list", .ref p), ("spelling", .str (S n)), ("alphabet", .ref A)]
theorem cut_m1 {α : Type} (xs : List α) : cut xs none (some (-1)) = xs.dropLast := by
  rw [← cut_eq0]
  unfold cut0
  rw [List.dropLast_eq_take]
  have e0 : HT.sIx xs.length 0 none = 0 := rfl
  have e1 : HT.sIx xs.length xs.length (some (-1)) = xs.length - 1 := by
    rw [sIx_ixS]
    show min (ixS xs.length (-1)) xs.length = _
    have : ixS xs.length (-1) = xs.length - 1 := rfl
    rw [this]; omega
  rw [e0, e1, List.drop_zero, Nat.sub_zero]
def low (l : List Nat) : Prop := ∀ c ∈ l, c < 128
def lows (ks : List (List Nat)) : Prop := ∀ k ∈ ks, low k ∧ k.length ≤ 2
theorem low_at {l : List Nat} (h : low l) {j : Nat} (hj : j < l.length) : low [l[j]] := fun c hc => by rw [List.mem_singleton.mp hc]; exact h _ (List.getElem_mem hj)
theorem low_app {l m : List Nat} (h : low l) (h2 : low m) : low (l ++ m) := fun c hc => by
  rcases List.mem_append.mp hc with hc | hc
  · exact h c hc
  · exact h2 c hc
theorem low_take {l : List Nat} (h : low l) (i : Nat) : low (l.take i) := fun c hc => h c (List.mem_of_mem_take hc)
theorem low_drop {l : List Nat} (h : low l) (i : Nat) : low (l.drop i) := fun c hc => h c (List.mem_of_mem_drop hc)
theorem lows_of {ks : List (List Nat)} (h : (ks.all fun k => (k.all fun c => decide (c < 128)) && decide (k.length ≤ 2)) = true) : lows ks := fun k hk => by
  have := List.all_eq_true.mp h k hk
  simp only [Bool.and_eq_true, decide_eq_true_eq, List.all_eq_true] at this
  exact this
theorem low_cut {l : List Nat} (h : low l) (a b : Option Int) : low (cut l a b) := fun c hc => by
  rw [← cut_eq0] at hc
  exact h c (List.mem_of_mem_drop (List.mem_of_mem_take hc))
theorem lows_app {k m : List (List Nat)} (h : lows k) (h2 : lows m) : lows (k ++ m) := fun c hc => by
  rcases List.mem_append.mp hc with hc | hc
  · exact h c hc
  · exact h2 c hc
theorem lows_1 {m : List Nat} (h : low m) (h2 : m.length ≤ 2) : lows [m] := fun c hc => by rw [List.mem_singleton.mp hc]; exact ⟨h, h2⟩

/-! _law_whole -/
abbrev s_l_whole : Stmt := top 28
theorem sc_l_whole : FnScope ["_law_told", "_law_due"] ["_law_told", "_law_due"] (defScope s_l_whole) := ⟨rfl, rfl, rfl, by decide +kernel, rfl, by decide +kernel, by decide +kernel⟩
structure sp_l_whole (K : PySem.W.Frag) (vs : List V) (H : Hp) (Q : VK) (E : XK) : Prop where
  out : ∃ a : Int, vs = [.int a, .int a] ∧ Q (.bl true) H
theorem i_l_whole {K : PySem.W.Frag} {a b : Int} {H : Hp} {Q : VK} {E : XK} (h : a = b) (q : Q (.bl true) H) : sp_l_whole K [.int a, .int b] H Q E := by
  subst h; exact ⟨⟨a, rfl, q⟩⟩

def t_l_whole (K : PySem.W.Frag) (W : WX) : TS :=
  (tRet (tAndE K (tCB (zIsa K) (tCons (tV 0) (tCons (tC (.ty "int")) tNil))) (tAndE K (tNotE K (tCB (zIsa K) (tCons (tV 0) (tCons (tC (.ty "bool")) tNil)))) (tOp (zEqP K) (tV 0) (tV 1)))))
theorem tm_l_whole {P : Program} {w : World} {K : PySem.W.Frag} {mg : Str → Option Value} {base : Heap} {f : Addr} {cdv : Value} {A : Around} {outer : List Env} {s : Shared} {H : Hp} {E : XK} (T : Tx K mg) (hr : Room 4 (A.deeper (envOfC "_law_whole" (defScope s_l_whole) s.heap.objs.size f cdv))) :
    PSs (cxOf (L2.CX P w) P w K mg base ["_law_told", "_law_due"] "_law_whole" (defScope s_l_whole) f cdv A outer s H E) (defBody s_l_whole) (t_l_whole K (WD E)) :=
  (pss_one (ps_ret (peand (pcb (crisa) T.f_isinstance (pa_cons (Ta.pv 0) (pa_cons (pbty T.f_int) pa_nil))) (peand (penot (pcb (crisa) T.f_isinstance (pa_cons (Ta.pv 0) (pa_cons (pbty T.f_bool) pa_nil)))) (pe_one (pe_cmpR (opeq hr.units) (Ta.pv 0) (Ta.pv 1) rfl))))))
theorem tmq_l_whole {P : Program} {w : World} {K : PySem.W.Frag} {mg : Str → Option Value} {base : Heap} {f : Addr} {cdv : Value} {A : Around} {outer : List Env} {s : Shared} {H : Hp} {E : XK} {z : Addr × Obj} (T : Tx K mg) (hr : L2H.RoomH 4 (A.deeper (envOfC "_law_whole" (defScope s_l_whole) s.heap.objs.size f cdv))) :
    PSs (L2H.cxH (L2.CX P w) P w K mg base ["_law_told", "_law_due"] "_law_whole" (defScope s_l_whole) f cdv A outer s H E z) (defBody s_l_whole) (t_l_whole K (WD E)) :=
  (pss_one (ps_ret (peand (pcb (crisa) T.f_isinstance (pa_cons (Ta.pv 0) (pa_cons (pbty T.f_int) pa_nil))) (peand (penot (pcb (crisa) T.f_isinstance (pa_cons (Ta.pv 0) (pa_cons (pbty T.f_bool) pa_nil)))) (pe_one (pe_cmpR (opeq hr.units) (Ta.pv 0) (Ta.pv 1) rfl))))))
/-! all_different -/
abbrev s_all_different : Stmt := top 9
theorem sc_all_different : FnScope ["string"] ["string"] (defScope s_all_different) := ⟨rfl, rfl, rfl, by decide +kernel, rfl, by decide +kernel, by decide +kernel⟩
structure sp_all_different (K : PySem.W.Frag) (vs : List V) (H : Hp) (Q : VK) (E : XK) : Prop where
  out : ∃ (l : List Nat), vs = [.str (S l)] ∧ l.length < 4000 ∧ Q (.bl (dif l)) H
theorem i_all_different {K : PySem.W.Frag} {l : List Nat} {H : Hp} {Q : VK} {E : XK} (h : l.length < 4000) (q : Q (.bl (dif l)) H) : sp_all_different K [.str (S l)] H Q E := by
  exact ⟨⟨l, rfl, h, q⟩⟩

def t_all_different (K : PySem.W.Frag) (W : WX) : TS :=
  (tRet (tOp (zEqP K) (tLset (tV 0)) (tCB (zLen K) (tCons (tV 0) tNil))))
theorem tm_all_different {P : Program} {w : World} {K : PySem.W.Frag} {mg : Str → Option Value} {base : Heap} {f : Addr} {cdv : Value} {A : Around} {outer : List Env} {s : Shared} {H : Hp} {E : XK} (T : Tx K mg) (hr : Room 4 (A.deeper (envOfC "all_different" (defScope s_all_different) s.heap.objs.size f cdv))) :
    PSs (cxOf (L2.CX P w) P w K mg base ["string"] "all_different" (defScope s_all_different) f cdv A outer s H E) (defBody s_all_different) (t_all_different K (WD E)) :=
  (pss_one (ps_ret (pe_cmpR (opeq hr.units) (plset rfl T.f_len T.f_set (Ta.pv 0)) (pcb (crlen) T.f_len (pa_cons (Ta.pv 0) pa_nil)) rfl)))
/-! Alphabet___init__ -/
abbrev s_Alphabet_init : Stmt := inClass (top 10) 2
theorem sc_Alphabet_init : FnScope ["self", "letters", "vowels", "foreign", "sign"] ["self", "letters", "vowels"] (defScope s_Alphabet_init) := ⟨rfl, rfl, rfl, by decide +kernel, rfl, by decide +kernel, by decide +kernel⟩
structure sp_Alphabet_init (K : PySem.W.Frag) (vs : List V) (H : Hp) (Q : VK) (E : XK) : Prop where
  out : ∃ (a dx : Addr) (l v : List Nat), vs = [.ref a, .str (S l), .str (S v)] ∧ H a = some (.ins (He.ga K "Alphabet") dx []) ∧ l.length < 64 ∧ v.length < 64 ∧
  (badL l = true → ∀ H' d, Kp [] H H' → H' d = none → E (.ref (He.ga K "BadAlphabet")) (some d) (upd H' d (.xd [("part", .str (S tLet))]))) ∧
  (badL l = false → badV l v = true → ∀ H' d, Kp [] H H' → H' d = none → E (.ref (He.ga K "BadAlphabet")) (some d) (upd H' d (.xd [("part", .str (S tVow))]))) ∧
  (badL l = false → badV l v = false → ∀ H', Kp [a] H H' → H' a = some (.ins (He.ga K "Alphabet") dx (alf l v)) → Q .non H')
theorem i_Alphabet_init {K : PySem.W.Frag} {a dx : Addr} {l v : List Nat} {H : Hp} {Q : VK} {E : XK} (ha : H a = some (.ins (He.ga K "Alphabet") dx [])) (h1 : l.length < 64) (h2 : v.length < 64)
  (q1 : badL l = true → ∀ H' d, Kp [] H H' → H' d = none → E (.ref (He.ga K "BadAlphabet")) (some d) (upd H' d (.xd [("part", .str (S tLet))])))
  (q2 : badL l = false → badV l v = true → ∀ H' d, Kp [] H H' → H' d = none → E (.ref (He.ga K "BadAlphabet")) (some d) (upd H' d (.xd [("part", .str (S tVow))])))
  (q3 : badL l = false → badV l v = false → ∀ H', Kp [a] H H' → H' a = some (.ins (He.ga K "Alphabet") dx (alf l v)) → Q .non H') : sp_Alphabet_init K [.ref a, .str (S l), .str (S v)] H Q E := by
  exact ⟨⟨a, dx, l, v, rfl, ha, h1, h2, q1, q2, q3⟩⟩
/-- good letters and vowels -/
theorem g_Alphabet_init {K : PySem.W.Frag} {a dx : Addr} {l v : List Nat} {H : Hp} {Q : VK} {E : XK} (ha : H a = some (.ins (He.ga K "Alphabet") dx [])) (h1 : l.length < 64) (h2 : v.length < 64) (e1 : badL l = false) (e2 : badV l v = false)
  (q3 : ∀ H', Kp [a] H H' → H' a = some (.ins (He.ga K "Alphabet") dx (alf l v)) → Q .non H') : sp_Alphabet_init K [.ref a, .str (S l), .str (S v)] H Q E := by
  refine i_Alphabet_init ha h1 h2 (fun z => ?_) (fun _ z => ?_) fun _ _ => q3
  · rw [e1] at z; cases z
  · rw [e2] at z; cases z

def t_Alphabet_init (K : PySem.W.Frag) (W : WX) : TS :=
  (tSeq (tAsg (tLcP (jA K (tV 1)) (gName 4) (tTst (tOp (zNinP K) (tV 4) (tC (.str (S [97, 98, 99, 100, 101, 102, 103, 104, 105, 106, 107, 108, 109, 110, 111, 112, 113, 114, 115, 116, 117, 118, 119, 120, 121, 122]))))) (tV 4) [4]) (gName 3))
  (tSeq (tIfP (tOrP (tTru K (tV 3)) (tOrP (tNot (tTst (tChn zLe zLe (tC (.int 1)) (tCB (zLen K) (tCons (tV 1) tNil)) (tC (.int 4))))) (tNot (tTru K (tCal (sp_all_different K) [] W (tCons (tV 1) tNil)))))) (tRs (He.ga K "BadAlphabet") ["part"] W (tCons (tC (.str (S [108, 101, 116, 116, 101, 114, 115]))) tNil)) tNext)
  (tSeq (tIfP (tOrP (tTru K (tLcP (jA K (tV 2)) (gName 4) (tTst (tOp (zNinP K) (tV 4) (tV 1))) (tV 4) [4])) (tNot (tTru K (tCal (sp_all_different K) [] W (tCons (tV 2) tNil))))) (tRs (He.ga K "BadAlphabet") ["part"] W (tCons (tC (.str (S [118, 111, 119, 101, 108, 115]))) tNil)) tNext)
  (tSeq (sAt K (tV 0) (tSM (zJoin K) (tC (.str (S []))) (tCons (tCB (zSort1) (tCons (tV 1) tNil)) tNil)) "letters")
  (tSeq (sAt K (tV 0) (tSM (zJoin K) (tC (.str (S []))) (tCons (tCB (zSort1) (tCons (tV 2) tNil)) tNil)) "vowels")
  (tSeq (sAt K (tV 0) (tSM (zJoin K) (tC (.str (S []))) (tCons (tLcP (jA K (tCB (zSort1) (tCons (tV 1) tNil))) (gName 4) (tTst (tOp (zNinP K) (tV 4) (tV 2))) (tV 4) [4]) tNil)) "consonants")
  (sAt K (tV 0) (tOp zAdd (tC (.str (S [45]))) (tAt K (tV 0) "letters")) "signs")))))))
theorem tm_Alphabet_init {P : Program} {w : World} {K : PySem.W.Frag} {mg : Str → Option Value} {base : Heap} {f : Addr} {cdv : Value} {A : Around} {outer : List Env} {s : Shared} {H : Hp} {E : XK} (T : Tx K mg) (G_all_different : Fn P w K mg base "all_different" 5 [] (sp_all_different K)) (X_BadAlphabet : Ex P w K mg base "BadAlphabet" (He.ga K "BadAlphabet") ["part"]) (hr : Room 6 (A.deeper (envOfC "Alphabet.__init__" (defScope s_Alphabet_init) s.heap.objs.size f cdv))) :
    PSs (cxOf (L2.CX P w) P w K mg base ["self", "letters", "vowels", "foreign", "sign"] "Alphabet.__init__" (defScope s_Alphabet_init) f cdv A outer s H E) (defBody s_Alphabet_init) (t_Alphabet_init K (WD E)) :=
  (pss_cons (pslc (i := 3) [("sign", 4)] rfl sc_Alphabet_init.nd rfl rfl (sw_true rfl rfl rfl (by decide +kernel)) (pja (Ta.pv 1)) (by kernel_rfl) (fun _ _ _ _ _ => (pgn 4 sc_Alphabet_init.nd)) (fun _ _ _ _ _ => (pts_one (ptcmp opnin (Ta.pv 4) (pglo T.v_SMALL)))) (fun _ _ _ _ _ => (Ta.pv 4)))
  (pss_cons (psif (PW.pt (pwor (ptru (Ta.pv 3)) (pwor (pt_not (ptchn ople ople pe_int (pcb (crlen) T.f_len (pa_cons (Ta.pv 1) pa_nil)) (pclv T.cc_Alphabet_MOST))) (pw_or1 (pt_not (ptru (pcall G_all_different (hr.mono (by decide)) takesD (pa_cons (Ta.pv 1) pa_nil)))))))) (pss_one (praise X_BadAlphabet (hr.mono (by decide)) takesD (pa_cons (pstr [108, 101, 116, 116, 101, 114, 115]) pa_nil))) pss_nil)
  (pss_cons (psif (PW.pt (pwor (ptru (plc [("sign", 4)] rfl sc_Alphabet_init.nd (pja (Ta.pv 2)) (by kernel_rfl) (fun _ _ _ _ _ => (pgn 4 sc_Alphabet_init.nd)) (fun _ _ _ _ _ => (pts_one (ptcmp opnin (Ta.pv 4) (Ta.pv 1)))) (fun _ _ _ _ _ => (Ta.pv 4)))) (pw_or1 (pt_not (ptru (pcall G_all_different (hr.mono (by decide)) takesD (pa_cons (Ta.pv 2) pa_nil))))))) (pss_one (praise X_BadAlphabet (hr.mono (by decide)) takesD (pa_cons (pstr [118, 111, 119, 101, 108, 115]) pa_nil))) pss_nil)
  (pss_cons (psat (Ta.pv 0) (psm PySem.F.slot_str_join PySem.F.type_str_join mtjoin (pstr []) (pa_cons (pcb (crsort rfl) T.f_sorted (pa_cons (Ta.pv 1) pa_nil)) pa_nil)))
  (pss_cons (psat (Ta.pv 0) (psm PySem.F.slot_str_join PySem.F.type_str_join mtjoin (pstr []) (pa_cons (pcb (crsort rfl) T.f_sorted (pa_cons (Ta.pv 2) pa_nil)) pa_nil)))
  (pss_cons (psat (Ta.pv 0) (psm PySem.F.slot_str_join PySem.F.type_str_join mtjoin (pstr []) (pa_cons (plc [("sign", 4)] rfl sc_Alphabet_init.nd (pja (pcb (crsort rfl) T.f_sorted (pa_cons (Ta.pv 1) pa_nil))) (by kernel_rfl) (fun _ _ _ _ _ => (pgn 4 sc_Alphabet_init.nd)) (fun _ _ _ _ _ => (pts_one (ptcmp opnin (Ta.pv 4) (Ta.pv 2)))) (fun _ _ _ _ _ => (Ta.pv 4))) pa_nil)))
  (pss_one (psat (Ta.pv 0) (pe_op opadd (pclv T.cc_Alphabet_JOINT) (patt (Ta.pv 0)))))))))))
/-! Alphabet___eq__ -/
abbrev s_Alphabet_eq : Stmt := inClass (top 10) 3
theorem sc_Alphabet_eq : FnScope ["self", "other"] ["self", "other"] (defScope s_Alphabet_eq) := ⟨rfl, rfl, rfl, by decide +kernel, rfl, by decide +kernel, by decide +kernel⟩
structure sp_Alphabet_eq (K : PySem.W.Frag) (vs : List V) (H : Hp) (Q : VK) (E : XK) : Prop where
  out : ∃ a b dx dy l v m u, vs = [.ref a, .ref b] ∧ H a = some (.ins (He.ga K "Alphabet") dx (alf l v)) ∧ H b = some (.ins (He.ga K "Alphabet") dy (alf m u)) ∧ Q (.bl (decide (srt l = srt m) && decide (srt v = srt u))) H
theorem i_Alphabet_eq {K : PySem.W.Frag} {a b dx dy : Addr} {l v m u : List Nat} {H : Hp} {Q : VK} {E : XK} (ha : H a = some (.ins (He.ga K "Alphabet") dx (alf l v))) (hb : H b = some (.ins (He.ga K "Alphabet") dy (alf m u))) (q : Q (.bl (decide (srt l = srt m) && decide (srt v = srt u))) H) : sp_Alphabet_eq K [.ref a, .ref b] H Q E := by
  exact ⟨⟨a, b, dx, dy, l, v, m, u, rfl, ha, hb, q⟩⟩
theorem i_Alphabet_eqS {K : PySem.W.Frag} {a dx : Addr} {l v : List Nat} {H : Hp} {Q : VK} {E : XK} (ha : H a = some (.ins (He.ga K "Alphabet") dx (alf l v))) (q : Q (.bl true) H) : sp_Alphabet_eq K [.ref a, .ref a] H Q E :=
  i_Alphabet_eq ha ha (by rw [decide_eq_true rfl, decide_eq_true rfl]; exact q)

def t_Alphabet_eq (K : PySem.W.Frag) (W : WX) : TS :=
  (tRet (tAndE K (tCB (zIsa K) (tCons (tV 1) (tCons (tC (.ref (He.ga K "Alphabet"))) tNil))) (tAndE K (tOp (zEqP K) (tAt K (tV 0) "letters") (tAt K (tV 1) "letters")) (tOp (zEqP K) (tAt K (tV 0) "vowels") (tAt K (tV 1) "vowels")))))
theorem tm_Alphabet_eq {P : Program} {w : World} {K : PySem.W.Frag} {mg : Str → Option Value} {base : Heap} {f : Addr} {cdv : Value} {A : Around} {outer : List Env} {s : Shared} {H : Hp} {E : XK} (T : Tx K mg) (hr : Room 4 (A.deeper (envOfC "Alphabet.__eq__" (defScope s_Alphabet_eq) s.heap.objs.size f cdv))) :
    PSs (cxOf (L2.CX P w) P w K mg base ["self", "other"] "Alphabet.__eq__" (defScope s_Alphabet_eq) f cdv A outer s H E) (defBody s_Alphabet_eq) (t_Alphabet_eq K (WD E)) :=
  (pss_one (ps_ret (peand (pcb (crisa) T.f_isinstance (pa_cons (Ta.pv 1) (pa_cons (pglo T.v_Alphabet) pa_nil))) (peand (pe_cmpR (opeq hr.units) (patt (Ta.pv 0)) (patt (Ta.pv 1)) rfl) (pe_one (pe_cmpR (opeq hr.units) (patt (Ta.pv 0)) (patt (Ta.pv 1)) rfl))))))
/-! check_alphabets -/
abbrev s_check_alphabets : Stmt := top 11
theorem sc_check_alphabets : FnScope ["alphabets", "alphabet"] ["alphabets"] (defScope s_check_alphabets) := ⟨rfl, rfl, rfl, by decide +kernel, rfl, by decide +kernel, by decide +kernel⟩
structure sp_check_alphabets (K : PySem.W.Frag) (vs : List V) (H : Hp) (Q : VK) (E : XK) : Prop where
  out : ∃ (p A A' dA dA' : Addr) (l v l' v' : List Nat), vs = [.ref p] ∧ (H p = some (.lst [.ref A, .ref A'])) ∧ (H A = some (alo K dA l v)) ∧ (H A' = some (alo K dA' l' v')) ∧ (srt l = srt l' ∧ srt v = srt v' → Q .non H) ∧ (¬ (srt l = srt l' ∧ srt v = srt v') → E (.ref (He.ga K "Mixed")) none H)
theorem i_check_alphabets {K : PySem.W.Frag} {p A A' dA dA' : Addr} {l v l' v' : List Nat} {H : Hp} {Q : VK} {E : XK} (hp : H p = some (.lst [.ref A, .ref A'])) (hA : H A = some (alo K dA l v)) (hA' : H A' = some (alo K dA' l' v')) (q1 : srt l = srt l' ∧ srt v = srt v' → Q .non H) (q2 : ¬ (srt l = srt l' ∧ srt v = srt v') → E (.ref (He.ga K "Mixed")) none H) : sp_check_alphabets K [.ref p] H Q E := by
  exact ⟨⟨p, A, A', dA, dA', l, v, l', v', rfl, hp, hA, hA', q1, q2⟩⟩
theorem d_check_alphabets {K : PySem.W.Frag} {vs : List V} {H : Hp} {Q : VK} {E : XK} (h : sp_check_alphabets K vs H Q E) : sp_check_alphabets K vs H Q E := h


def b_check_alphabets_1 (K : PySem.W.Frag) (W : WX) : TS :=
  (tIfP (tTst (tOp (zOwnN (He.ga K "Alphabet") (sp_Alphabet_eq K)) (tV 1) (tOp (zIxP K) (tV 0) (tC (.int 0))))) (tRs0 (He.ga K "Mixed") W) tNext)
def t_check_alphabets (K : PySem.W.Frag) (W : WX) : TS :=
  (tForP (jA K (tV 0)) (gName 1) (b_check_alphabets_1 K W))
theorem tm_check_alphabets {P : Program} {w : World} {K : PySem.W.Frag} {mg : Str → Option Value} {base : Heap} {f : Addr} {cdv : Value} {A : Around} {outer : List Env} {s : Shared} {H : Hp} {E : XK} (T : Tx K mg) (G_Alphabet___eq__ : Me P w K mg base (He.ga K "Alphabet") "__eq__" 5 [] (sp_Alphabet_eq K)) (X_Mixed : Ex P w K mg base "Mixed" (He.ga K "Mixed") []) (hr : Room 6 (A.deeper (envOfC "check_alphabets" (defScope s_check_alphabets) s.heap.objs.size f cdv))) :
    PSs (cxOf (L2.CX P w) P w K mg base ["alphabets", "alphabet"] "check_alphabets" (defScope s_check_alphabets) f cdv A outer s H E) (defBody s_check_alphabets) (t_check_alphabets K (WD E)) :=
  (pss_one (psfor ownD rfl (pja (Ta.pv 0)) (pgn 1 sc_check_alphabets.nd) (pss_one (psif (ptcmp (opownN G_Alphabet___eq__ T.ne_Alphabet (hr.mono (by decide))) (Ta.pv 1) (pix (Ta.pv 0) pe_int)) (pss_one (praise0 X_Mixed (hr.mono (by decide)) takesD)) pss_nil))))
/-! mark_length -/
abbrev s_mark_length : Stmt := top 19
theorem sc_mark_length : FnScope ["alphabet", "notation", "at", "sign"] ["alphabet", "notation", "at"] (defScope s_mark_length) := ⟨rfl, rfl, rfl, by decide +kernel, rfl, by decide +kernel, by decide +kernel⟩
structure sp_mark_length (K : PySem.W.Frag) (vs : List V) (H : Hp) (Q : VK) (E : XK) : Prop where
  out : ∃ (A dA : Addr) (l v n : List Nat) (i c : Nat), vs = [.ref A, .str (S n), .int i] ∧ (H A = some (alo K dA l v)) ∧ (n[i]? = some c) ∧ (n.length < 100000) ∧ (∀ d, c ∈ SK → n[i + 1]? = some d → d ∈ 45 :: srt l → Q (.int 2) H) ∧ (c ∈ SK → (∀ d, n[i + 1]? = some d → ¬ d ∈ 45 :: srt l) → ∀ d, H d = none → E (.ref (He.ga K "BadRecording")) (some d) (upd H d (.xd [("place", .int ((i + 1 : Nat) : Int))]))) ∧ (¬ c ∈ SK → (c ∈ PK ∨ c ∈ BK) → Q (.int 1) H) ∧ (¬ c ∈ SK → ¬ c ∈ PK → ¬ c ∈ BK → ∀ d, H d = none → E (.ref (He.ga K "BadRecording")) (some d) (upd H d (.xd [("place", .int i)])))
theorem i_mark_length {K : PySem.W.Frag} {A dA : Addr} {l v n : List Nat} {i c : Nat} {H : Hp} {Q : VK} {E : XK} (hA : H A = some (alo K dA l v)) (hc : n[i]? = some c) (hn : n.length < 100000) (q1 : ∀ d, c ∈ SK → n[i + 1]? = some d → d ∈ 45 :: srt l → Q (.int 2) H) (q2 : c ∈ SK → (∀ d, n[i + 1]? = some d → ¬ d ∈ 45 :: srt l) → ∀ d, H d = none → E (.ref (He.ga K "BadRecording")) (some d) (upd H d (.xd [("place", .int ((i + 1 : Nat) : Int))]))) (q3 : ¬ c ∈ SK → (c ∈ PK ∨ c ∈ BK) → Q (.int 1) H) (q4 : ¬ c ∈ SK → ¬ c ∈ PK → ¬ c ∈ BK → ∀ d, H d = none → E (.ref (He.ga K "BadRecording")) (some d) (upd H d (.xd [("place", .int i)]))) : sp_mark_length K [.ref A, .str (S n), .int i] H Q E := by
  exact ⟨⟨A, dA, l, v, n, i, c, rfl, hA, hc, hn, q1, q2, q3, q4⟩⟩
theorem d_mark_length {K : PySem.W.Frag} {vs : List V} {H : Hp} {Q : VK} {E : XK} (h : sp_mark_length K vs H Q E) : sp_mark_length K vs H Q E := h


def t_mark_length (K : PySem.W.Frag) (W : WX) : TS :=
  (tSeq (tAsg (tOp (zIxP K) (tV 1) (tV 2)) (gName 3))
  (tSeq (tIfP (tTst (tOp (zInP K) (tV 3) (tC (.str (S [39, 61, 47]))))) (tSeq (tIfP (tOrP (tTst (tOp (zEqP K) (tOp zAdd (tV 2) (tC (.int 1))) (tCB (zLen K) (tCons (tV 1) tNil)))) (tTst (tOp (zNinP K) (tOp (zIxP K) (tV 1) (tOp zAdd (tV 2) (tC (.int 1)))) (tAt K (tV 0) "signs")))) (tRs (He.ga K "BadRecording") ["place"] W (tCons (tOp zAdd (tV 2) (tC (.int 1))) tNil)) tNext)
  (tRet (tC (.int 2)))) tNext)
  (tSeq (tIfP (tOrP (tTst (tOp (zInP K) (tV 3) (tC (.str (S [62, 120, 119, 94, 109, 107, 99, 112]))))) (tTst (tOp (zInP K) (tV 3) (tC (.str (S [40, 91, 124, 93, 41])))))) (tRet (tC (.int 1))) tNext)
  (tRs (He.ga K "BadRecording") ["place"] W (tCons (tV 2) tNil)))))
theorem tm_mark_length {P : Program} {w : World} {K : PySem.W.Frag} {mg : Str → Option Value} {base : Heap} {f : Addr} {cdv : Value} {A : Around} {outer : List Env} {s : Shared} {H : Hp} {E : XK} (T : Tx K mg) (X_BadRecording : Ex P w K mg base "BadRecording" (He.ga K "BadRecording") ["place"]) (hr : Room 4 (A.deeper (envOfC "mark_length" (defScope s_mark_length) s.heap.objs.size f cdv))) :
    PSs (cxOf (L2.CX P w) P w K mg base ["alphabet", "notation", "at", "sign"] "mark_length" (defScope s_mark_length) f cdv A outer s H E) (defBody s_mark_length) (t_mark_length K (WD E)) :=
  (pss_cons (pset 3 sc_mark_length.nd (pix (Ta.pv 1) (Ta.pv 2)))
  (pss_cons (psif (ptcmp opin (Ta.pv 3) (pglo T.v_SIGN_KEYS)) (pss_cons (psif (PW.pt (pwor (ptcmp (opeq hr.units) (pe_op opadd (Ta.pv 2) pe_int) (pcb (crlen) T.f_len (pa_cons (Ta.pv 1) pa_nil))) (pw_or1 (ptcmp opnin (pix (Ta.pv 1) (pe_op opadd (Ta.pv 2) pe_int)) (patt (Ta.pv 0)))))) (pss_one (praise X_BadRecording (hr.mono (by decide)) takesD (pa_cons (pe_op opadd (Ta.pv 2) pe_int) pa_nil))) pss_nil)
  (pss_one (ps_ret pe_int))) pss_nil)
  (pss_cons (psif (PW.pt (pwor (ptcmp opin (Ta.pv 3) (pglo T.v_PLAIN_KEYS)) (pw_or1 (ptcmp opin (Ta.pv 3) (pglo T.v_BRACKETS))))) (pss_one (ps_ret pe_int)) pss_nil)
  (pss_one (praise X_BadRecording (hr.mono (by decide)) takesD (pa_cons (Ta.pv 2) pa_nil))))))
/-! groups_after -/
abbrev s_groups_after : Stmt := top 20
theorem sc_groups_after : FnScope ["groups", "mark", "fresh"] ["groups", "mark", "fresh"] (defScope s_groups_after) := ⟨rfl, rfl, rfl, by decide +kernel, rfl, by decide +kernel, by decide +kernel⟩
structure sp_groups_after (K : PySem.W.Frag) (vs : List V) (H : Hp) (Q : VK) (E : XK) : Prop where
  out : ∃ (g : List Nat) (c : Nat) (f : Bool), vs = [.str (S g), .str (S [c]), .bl f] ∧ (c ∈ BK) ∧ (g.length ≤ 4) ∧ (Q (match ga g c f with | none => .non | some g' => .str (S g')) H)
theorem i_groups_after {K : PySem.W.Frag} {g : List Nat} {c : Nat} {f : Bool} {H : Hp} {Q : VK} {E : XK} (hc : c ∈ BK) (hg : g.length ≤ 4) (q : Q (match ga g c f with | none => .non | some g' => .str (S g')) H) : sp_groups_after K [.str (S g), .str (S [c]), .bl f] H Q E := by
  exact ⟨⟨g, c, f, rfl, hc, hg, q⟩⟩
theorem d_groups_after {K : PySem.W.Frag} {vs : List V} {H : Hp} {Q : VK} {E : XK} (h : sp_groups_after K vs H Q E) : sp_groups_after K vs H Q E := h


def t_groups_after (K : PySem.W.Frag) (W : WX) : TS :=
  (tSeq (tIfP (tTst (tOp (zInP K) (tV 1) (tC (.str (S [40, 91]))))) (tRet (tIfE (tTst (tOp zLt (tCB (zLen K) (tCons (tV 0) tNil)) (tC (.int 4)))) (tOp zAdd (tV 0) (tV 1)) (tC .non))) tNext)
  (tSeq (tIfP (tTst (tOp (zEqP K) (tV 1) (tC (.str (S [41]))))) (tRet (tIfE (tAndP (tTru K (tSM (zEnds) (tV 0) (tCons (tC (.str (S [40]))) tNil))) (tNot (tTru K (tV 2)))) (tSl (zSlP K) (tV 0) tNoPart (tPrt (tUn zNeg (tC (.int 1))))) (tC .non))) tNext)
  (tSeq (tIfP (tTst (tOp (zEqP K) (tV 1) (tC (.str (S [124]))))) (tRet (tIfE (tAndP (tTru K (tSM (zEnds) (tV 0) (tCons (tC (.str (S [91]))) tNil))) (tNot (tTru K (tV 2)))) (tOp zAdd (tSl (zSlP K) (tV 0) tNoPart (tPrt (tUn zNeg (tC (.int 1))))) (tC (.str (S [124])))) (tC .non))) tNext)
  (tRet (tIfE (tTru K (tSM (zEnds) (tV 0) (tCons (tC (.str (S [124]))) tNil))) (tSl (zSlP K) (tV 0) tNoPart (tPrt (tUn zNeg (tC (.int 1))))) (tC .non))))))
theorem tm_groups_after {P : Program} {w : World} {K : PySem.W.Frag} {mg : Str → Option Value} {base : Heap} {f : Addr} {cdv : Value} {A : Around} {outer : List Env} {s : Shared} {H : Hp} {E : XK} (T : Tx K mg) (hr : Room 4 (A.deeper (envOfC "groups_after" (defScope s_groups_after) s.heap.objs.size f cdv))) :
    PSs (cxOf (L2.CX P w) P w K mg base ["groups", "mark", "fresh"] "groups_after" (defScope s_groups_after) f cdv A outer s H E) (defBody s_groups_after) (t_groups_after K (WD E)) :=
  (pss_cons (psif (ptcmp opin (Ta.pv 1) (pglo T.v_OPENING)) (pss_one (ps_ret (peif (ptcmp oplt (pcb (crlen) T.f_len (pa_cons (Ta.pv 0) pa_nil)) (pglo T.v_MOST_DEPTH)) (pe_op opadd (Ta.pv 0) (Ta.pv 1)) pe_non))) pss_nil)
  (pss_cons (psif (ptcmp (opeq hr.units) (Ta.pv 1) (pstr [41])) (pss_one (ps_ret (peif (PW.pt (pwand (ptru (psm PySem.F.slot_str_endswith PySem.F.type_str_endswith mtends (Ta.pv 0) (pa_cons (pstr [40]) pa_nil))) (pw_and1 (pt_not (ptru (Ta.pv 2)))))) (psl (Ta.pv 0) po_none (posome (pe_un unneg pe_int))) pe_non))) pss_nil)
  (pss_cons (psif (ptcmp (opeq hr.units) (Ta.pv 1) (pstr [124])) (pss_one (ps_ret (peif (PW.pt (pwand (ptru (psm PySem.F.slot_str_endswith PySem.F.type_str_endswith mtends (Ta.pv 0) (pa_cons (pstr [91]) pa_nil))) (pw_and1 (pt_not (ptru (Ta.pv 2)))))) (pe_op opadd (psl (Ta.pv 0) po_none (posome (pe_un unneg pe_int))) (pstr [124])) pe_non))) pss_nil)
  (pss_one (ps_ret (peif (ptru (psm PySem.F.slot_str_endswith PySem.F.type_str_endswith mtends (Ta.pv 0) (pa_cons (pstr [124]) pa_nil))) (psl (Ta.pv 0) po_none (posome (pe_un unneg pe_int))) pe_non))))))
/-! marks_of -/
abbrev s_marks_of : Stmt := top 21
theorem sc_marks_of : FnScope ["alphabet", "notation", "marks", "groups", "at", "mark", "fresh"] ["alphabet", "notation"] (defScope s_marks_of) := ⟨rfl, rfl, rfl, by decide +kernel, rfl, by decide +kernel, by decide +kernel⟩
structure sp_marks_of (K : PySem.W.Frag) (vs : List V) (H : Hp) (Q : VK) (E : XK) : Prop where
  out : ∃ (A dA : Addr) (l v n : List Nat), vs = [.ref A, .str (S n)] ∧ (H A = some (alo K dA l v)) ∧ (n.length < 100000) ∧ (recK K (scan (45 :: srt l) n) H E (∀ p H', Kp [] H H' → H p = none → H' p = some (tks (scan (45 :: srt l) n).2) → Q (.ref p) H'))
theorem i_marks_of {K : PySem.W.Frag} {A dA : Addr} {l v n : List Nat} {H : Hp} {Q : VK} {E : XK} (hA : H A = some (alo K dA l v)) (hn : n.length < 100000) (q : recK K (scan (45 :: srt l) n) H E (∀ p H', Kp [] H H' → H p = none → H' p = some (tks (scan (45 :: srt l) n).2) → Q (.ref p) H')) : sp_marks_of K [.ref A, .str (S n)] H Q E := by
  exact ⟨⟨A, dA, l, v, n, rfl, hA, hn, q⟩⟩
theorem d_marks_of {K : PySem.W.Frag} {vs : List V} {H : Hp} {Q : VK} {E : XK} (h : sp_marks_of K vs H Q E) : sp_marks_of K vs H Q E := h


def b_marks_of_1 (K : PySem.W.Frag) (W : WX) : TS :=
  (tSeq (tAsg (tSl (zSlP K) (tV 1) (tPrt (tV 4)) (tPrt (tOp zAdd (tV 4) (tCal (sp_mark_length K) [] W (tCons (tV 0) (tCons (tV 1) (tCons (tV 4) tNil))))))) (gName 5))
  (tSeq (tIfP (tTst (tOp (zInP K) (tV 5) (tC (.str (S [40, 91, 124, 93, 41]))))) (tSeq (tAsg (tAndE K (tOp zGt (tCB (zLen K) (tCons (tV 2) tNil)) (tC (.int 0))) (tOp (zInP K) (tOp (zIxP K) (tV 2) (tUn zNeg (tC (.int 1)))) (tC (.str (S [40, 91]))))) (gName 6))
  (tSeq (tAsg (tCal (sp_groups_after K) [] W (tCons (tV 3) (tCons (tV 5) (tCons (tV 6) tNil)))) (gName 3))
  (tIfP (tTst (tOp zIsB (tV 3) (tC .non))) (tRs (He.ga K "BadRecording") ["place"] W (tCons (tV 4) tNil)) tNext))) tNext)
  (tSeq (tDrop (tLM zAppP (tV 2) (tCons (tV 5) tNil)))
  (tAsg (tOp zAdd (tV 4) (tCB (zLen K) (tCons (tV 5) tNil))) (gName 4)))))
def t_marks_of (K : PySem.W.Frag) (W : WX) : TS :=
  (tSeq (tAsg (tLst tNil) (gName 2))
  (tSeq (tAsg (tC (.str (S []))) (gName 3))
  (tSeq (tAsg (tC (.int 0)) (gName 4))
  (tSeq (whl (tTst (tOp zLt (tV 4) (tCB (zLen K) (tCons (tV 1) tNil)))) (b_marks_of_1 K W))
  (tSeq (tIfP (tTst (tOp (zNeP K) (tV 3) (tC (.str (S []))))) (tRs (He.ga K "BadRecording") ["place"] W (tCons (tCB (zLen K) (tCons (tV 1) tNil)) tNil)) tNext)
  (tRet (tV 2)))))))
theorem tm_marks_of {P : Program} {w : World} {K : PySem.W.Frag} {mg : Str → Option Value} {base : Heap} {f : Addr} {cdv : Value} {A : Around} {outer : List Env} {s : Shared} {H : Hp} {E : XK} (T : Tx K mg) (G_groups_after : Fn P w K mg base "groups_after" 5 [] (sp_groups_after K)) (G_mark_length : Fn P w K mg base "mark_length" 5 [] (sp_mark_length K)) (X_BadRecording : Ex P w K mg base "BadRecording" (He.ga K "BadRecording") ["place"]) (hr : Room 6 (A.deeper (envOfC "marks_of" (defScope s_marks_of) s.heap.objs.size f cdv))) :
    PSs (cxOf (L2.CX P w) P w K mg base ["alphabet", "notation", "marks", "groups", "at", "mark", "fresh"] "marks_of" (defScope s_marks_of) f cdv A outer s H E) (defBody s_marks_of) (t_marks_of K (WD E)) :=
  (pss_cons (pset 2 sc_marks_of.nd (pe_lst pa_nil))
  (pss_cons (pset 3 sc_marks_of.nd (pstr []))
  (pss_cons (pset 4 sc_marks_of.nd pe_int)
  (pss_cons (pswhl ownD (ptcmp oplt (Ta.pv 4) (pcb (crlen) T.f_len (pa_cons (Ta.pv 1) pa_nil))) (pss_cons (pset 5 sc_marks_of.nd (psl (Ta.pv 1) (posome (Ta.pv 4)) (posome (pe_op opadd (Ta.pv 4) (pcall G_mark_length (hr.mono (by decide)) takesD (pa_cons (Ta.pv 0) (pa_cons (Ta.pv 1) (pa_cons (Ta.pv 4) pa_nil))))))))
  (pss_cons (psif (ptcmp opin (Ta.pv 5) (pglo T.v_BRACKETS)) (pss_cons (pset 6 sc_marks_of.nd (peand (pe_cmpR opgt (pcb (crlen) T.f_len (pa_cons (Ta.pv 2) pa_nil)) pe_int rfl) (pe_one (pe_cmpR opin (pix (Ta.pv 2) (pe_un unneg pe_int)) (pglo T.v_OPENING) rfl))))
  (pss_cons (pset 3 sc_marks_of.nd (pcall G_groups_after (hr.mono (by decide)) takesD (pa_cons (Ta.pv 3) (pa_cons (Ta.pv 5) (pa_cons (Ta.pv 6) pa_nil)))))
  (pss_one (psif (ptcmp opisb (Ta.pv 3) pe_non) (pss_one (praise X_BadRecording (hr.mono (by decide)) takesD (pa_cons (Ta.pv 4) pa_nil))) pss_nil)))) pss_nil)
  (pss_cons (ps_expr (plm PySem.F.slot_list_append PySem.F.type_list_append mtapp (Ta.pv 2) (pa_cons (Ta.pv 5) pa_nil)))
  (pss_one (pset 4 sc_marks_of.nd (pe_op opadd (Ta.pv 4) (pcb (crlen) T.f_len (pa_cons (Ta.pv 5) pa_nil)))))))))
  (pss_cons (psif (ptcmp (opne hr.units) (Ta.pv 3) (pstr [])) (pss_one (praise X_BadRecording (hr.mono (by decide)) takesD (pa_cons (pcb (crlen) T.f_len (pa_cons (Ta.pv 1) pa_nil)) pa_nil))) pss_nil)
  (pss_one (ps_ret (Ta.pv 2))))))))
/-! key_row -/
abbrev s_key_row : Stmt := top 22
theorem sc_key_row : FnScope ["alphabet", "notation", "found", "mark"] ["alphabet", "notation"] (defScope s_key_row) := ⟨rfl, rfl, rfl, by decide +kernel, rfl, by decide +kernel, by decide +kernel⟩
structure sp_key_row (K : PySem.W.Frag) (vs : List V) (H : Hp) (Q : VK) (E : XK) : Prop where
  out : ∃ (A dA : Addr) (l v n : List Nat), vs = [.ref A, .str (S n)] ∧ (H A = some (alo K dA l v)) ∧ (n.length < 100000) ∧ (recK K (scan (45 :: srt l) n) H E ((24 < (kof (scan (45 :: srt l) n).2).length → ∀ H' d, Kp [] H H' → H' d = none → E (.ref (He.ga K "TooMany")) (some d) (upd H' d (.xd [("most", .int 24)]))) ∧ ((kof (scan (45 :: srt l) n).2).length ≤ 24 → ∀ p H', Kp [] H H' → H p = none → H' p = some (tks (kof (scan (45 :: srt l) n).2)) → Q (.ref p) H')))
theorem i_key_row {K : PySem.W.Frag} {A dA : Addr} {l v n : List Nat} {H : Hp} {Q : VK} {E : XK} (hA : H A = some (alo K dA l v)) (hn : n.length < 100000) (q : recK K (scan (45 :: srt l) n) H E ((24 < (kof (scan (45 :: srt l) n).2).length → ∀ H' d, Kp [] H H' → H' d = none → E (.ref (He.ga K "TooMany")) (some d) (upd H' d (.xd [("most", .int 24)]))) ∧ ((kof (scan (45 :: srt l) n).2).length ≤ 24 → ∀ p H', Kp [] H H' → H p = none → H' p = some (tks (kof (scan (45 :: srt l) n).2)) → Q (.ref p) H'))) : sp_key_row K [.ref A, .str (S n)] H Q E := by
  exact ⟨⟨A, dA, l, v, n, rfl, hA, hn, q⟩⟩
theorem d_key_row {K : PySem.W.Frag} {vs : List V} {H : Hp} {Q : VK} {E : XK} (h : sp_key_row K vs H Q E) : sp_key_row K vs H Q E := h


def t_key_row (K : PySem.W.Frag) (W : WX) : TS :=
  (tSeq (tAsg (tLcP (jA K (tCal (sp_marks_of K) [] W (tCons (tV 0) (tCons (tV 1) tNil)))) (gName 3) (tTst (tOp (zNinP K) (tV 3) (tC (.str (S [40, 91, 124, 93, 41]))))) (tV 3) [3]) (gName 2))
  (tSeq (tIfP (tTst (tOp zGt (tCB (zLen K) (tCons (tV 2) tNil)) (tC (.int 24)))) (tRs (He.ga K "TooMany") ["most"] W (tCons (tC (.int 24)) tNil)) tNext)
  (tRet (tV 2))))
theorem tm_key_row {P : Program} {w : World} {K : PySem.W.Frag} {mg : Str → Option Value} {base : Heap} {f : Addr} {cdv : Value} {A : Around} {outer : List Env} {s : Shared} {H : Hp} {E : XK} (T : Tx K mg) (G_marks_of : Fn P w K mg base "marks_of" 7 [] (sp_marks_of K)) (X_TooMany : Ex P w K mg base "TooMany" (He.ga K "TooMany") ["most"]) (hr : Room 8 (A.deeper (envOfC "key_row" (defScope s_key_row) s.heap.objs.size f cdv))) :
    PSs (cxOf (L2.CX P w) P w K mg base ["alphabet", "notation", "found", "mark"] "key_row" (defScope s_key_row) f cdv A outer s H E) (defBody s_key_row) (t_key_row K (WD E)) :=
  (pss_cons (pslc (i := 2) [("mark", 3)] rfl sc_key_row.nd rfl rfl (sw_true rfl rfl rfl (by decide +kernel)) (pja (pcall G_marks_of (hr.mono (by decide)) takesD (pa_cons (Ta.pv 0) (pa_cons (Ta.pv 1) pa_nil)))) (by kernel_rfl) (fun _ _ _ _ _ => (pgn 3 sc_key_row.nd)) (fun _ _ _ _ _ => (pts_one (ptcmp opnin (Ta.pv 3) (pglo T.v_BRACKETS)))) (fun _ _ _ _ _ => (Ta.pv 3)))
  (pss_cons (psif (ptcmp opgt (pcb (crlen) T.f_len (pa_cons (Ta.pv 2) pa_nil)) (pglo T.v_MOST_KEYS)) (pss_one (praise X_TooMany (hr.mono (by decide)) takesD (pa_cons (pglo T.v_MOST_KEYS) pa_nil))) pss_nil)
  (pss_one (ps_ret (Ta.pv 2)))))
/-! Recording___init__ -/
abbrev s_Recording_init : Stmt := inClass (top 24) 2
theorem sc_Recording_init : FnScope ["self", "alphabet", "notation"] ["self", "alphabet", "notation"] (defScope s_Recording_init) := ⟨rfl, rfl, rfl, by decide +kernel, rfl, by decide +kernel, by decide +kernel⟩
structure sp_Recording_init (K : PySem.W.Frag) (vs : List V) (H : Hp) (Q : VK) (E : XK) : Prop where
  out : ∃ (R dR A dA : Addr) (l v n : List Nat), vs = [.ref R, .ref A, .str (S n)] ∧ (H R = some (.ins (He.ga K "Recording") dR [])) ∧ (H A = some (alo K dA l v)) ∧ (n.length < 100000) ∧ (recK K (scan (45 :: srt l) n) H E ((24 < (kof (scan (45 :: srt l) n).2).length → ∀ H' d, Kp [] H H' → H' d = none → E (.ref (He.ga K "TooMany")) (some d) (upd H' d (.xd [("most", .int 24)]))) ∧ ((kof (scan (45 :: srt l) n).2).length ≤ 24 → ∀ p H', Kp [R] H H' → H p = none → p ≠ R → H' p = some (tks (kof (scan (45 :: srt l) n).2)) → H' R = some (recO K dR A p n) → Q .non H')))
theorem i_Recording_init {K : PySem.W.Frag} {R dR A dA : Addr} {l v n : List Nat} {H : Hp} {Q : VK} {E : XK} (hR : H R = some (.ins (He.ga K "Recording") dR [])) (hA : H A = some (alo K dA l v)) (hn : n.length < 100000) (q : recK K (scan (45 :: srt l) n) H E ((24 < (kof (scan (45 :: srt l) n).2).length → ∀ H' d, Kp [] H H' → H' d = none → E (.ref (He.ga K "TooMany")) (some d) (upd H' d (.xd [("most", .int 24)]))) ∧ ((kof (scan (45 :: srt l) n).2).length ≤ 24 → ∀ p H', Kp [R] H H' → H p = none → p ≠ R → H' p = some (tks (kof (scan (45 :: srt l) n).2)) → H' R = some (recO K dR A p n) → Q .non H'))) : sp_Recording_init K [.ref R, .ref A, .str (S n)] H Q E := by
  exact ⟨⟨R, dR, A, dA, l, v, n, rfl, hR, hA, hn, q⟩⟩
theorem d_Recording_init {K : PySem.W.Frag} {vs : List V} {H : Hp} {Q : VK} {E : XK} (h : sp_Recording_init K vs H Q E) : sp_Recording_init K vs H Q E := h


def t_Recording_init (K : PySem.W.Frag) (W : WX) : TS :=
  (tSeq (sAt K (tV 0) (tCal (sp_key_row K) [] W (tCons (tV 1) (tCons (tV 2) tNil))) "key_list")
  (tSeq (sAt K (tV 0) (tV 2) "spelling")
  (sAt K (tV 0) (tV 1) "alphabet")))
theorem tm_Recording_init {P : Program} {w : World} {K : PySem.W.Frag} {mg : Str → Option Value} {base : Heap} {f : Addr} {cdv : Value} {A : Around} {outer : List Env} {s : Shared} {H : Hp} {E : XK} (T : Tx K mg) (G_key_row : Fn P w K mg base "key_row" 9 [] (sp_key_row K)) (hr : Room 10 (A.deeper (envOfC "Recording.__init__" (defScope s_Recording_init) s.heap.objs.size f cdv))) :
    PSs (cxOf (L2.CX P w) P w K mg base ["self", "alphabet", "notation"] "Recording.__init__" (defScope s_Recording_init) f cdv A outer s H E) (defBody s_Recording_init) (t_Recording_init K (WD E)) :=
  (pss_cons (psat (Ta.pv 0) (pcall G_key_row (hr.mono (by decide)) takesD (pa_cons (Ta.pv 1) (pa_cons (Ta.pv 2) pa_nil))))
  (pss_cons (psat (Ta.pv 0) (Ta.pv 2))
  (pss_one (psat (Ta.pv 0) (Ta.pv 1)))))
/-! Recording___add__ -/
abbrev s_Recording_add : Stmt := inClass (top 24) 6
theorem sc_Recording_add : FnScope ["self", "other"] ["self", "other"] (defScope s_Recording_add) := ⟨rfl, rfl, rfl, by decide +kernel, rfl, by decide +kernel, by decide +kernel⟩
structure sp_Recording_add (K : PySem.W.Frag) (vs : List V) (H : Hp) (Q : VK) (E : XK) : Prop where
  out : ∃ (R dR A p R' dR' A' p' dA dA' : Addr) (n n' l v l' v' : List Nat), vs = [.ref R, .ref R'] ∧ (H R = some (recO K dR A p n)) ∧ (H R' = some (recO K dR' A' p' n')) ∧ (H A = some (alo K dA l v)) ∧ (H A' = some (alo K dA' l' v')) ∧ (n.length + n'.length < 100000) ∧ (¬ (srt l = srt l' ∧ srt v = srt v') → ∀ H', Kp [] H H' → E (.ref (He.ga K "Mixed")) none H') ∧ (srt l = srt l' ∧ srt v = srt v' → recK K (scan (45 :: srt l) (n ++ n')) H E ((24 < (kof (scan (45 :: srt l) (n ++ n')).2).length → ∀ H' d, Kp [] H H' → H' d = none → E (.ref (He.ga K "TooMany")) (some d) (upd H' d (.xd [("most", .int 24)]))) ∧ ((kof (scan (45 :: srt l) (n ++ n')).2).length ≤ 24 → ∀ N dN p H', Kp [] H H' → H N = none → H p = none → H' p = some (tks (kof (scan (45 :: srt l) (n ++ n')).2)) → H' N = some (recO K dN A p (n ++ n')) → Q (.ref N) H')))
theorem i_Recording_add {K : PySem.W.Frag} {R dR A p R' dR' A' p' dA dA' : Addr} {n n' l v l' v' : List Nat} {H : Hp} {Q : VK} {E : XK} (hR : H R = some (recO K dR A p n)) (hR' : H R' = some (recO K dR' A' p' n')) (hA : H A = some (alo K dA l v)) (hA' : H A' = some (alo K dA' l' v')) (hn : n.length + n'.length < 100000) (q1 : ¬ (srt l = srt l' ∧ srt v = srt v') → ∀ H', Kp [] H H' → E (.ref (He.ga K "Mixed")) none H') (q2 : srt l = srt l' ∧ srt v = srt v' → recK K (scan (45 :: srt l) (n ++ n')) H E ((24 < (kof (scan (45 :: srt l) (n ++ n')).2).length → ∀ H' d, Kp [] H H' → H' d = none → E (.ref (He.ga K "TooMany")) (some d) (upd H' d (.xd [("most", .int 24)]))) ∧ ((kof (scan (45 :: srt l) (n ++ n')).2).length ≤ 24 → ∀ N dN p H', Kp [] H H' → H N = none → H p = none → H' p = some (tks (kof (scan (45 :: srt l) (n ++ n')).2)) → H' N = some (recO K dN A p (n ++ n')) → Q (.ref N) H'))) : sp_Recording_add K [.ref R, .ref R'] H Q E := by
  exact ⟨⟨R, dR, A, p, R', dR', A', p', dA, dA', n, n', l, v, l', v', rfl, hR, hR', hA, hA', hn, q1, q2⟩⟩
theorem d_Recording_add {K : PySem.W.Frag} {vs : List V} {H : Hp} {Q : VK} {E : XK} (h : sp_Recording_add K vs H Q E) : sp_Recording_add K vs H Q E := h


def t_Recording_add (K : PySem.W.Frag) (W : WX) : TS :=
  (tSeq (tDrop (tCal (sp_check_alphabets K) [] W (tCons (tLst (tCons (tAt K (tV 0) "alphabet") (tCons (tAt K (tV 1) "alphabet") tNil))) tNil)))
  (tRet (tMak (He.ga K "Recording") (sp_Recording_init K) [] W (tCons (tAt K (tV 0) "alphabet") (tCons (tOp zAdd (tAt K (tV 0) "spelling") (tAt K (tV 1) "spelling")) tNil)))))
theorem tm_Recording_add {P : Program} {w : World} {K : PySem.W.Frag} {mg : Str → Option Value} {base : Heap} {f : Addr} {cdv : Value} {A : Around} {outer : List Env} {s : Shared} {H : Hp} {E : XK} (T : Tx K mg) (G_Recording : Mks P w K mg base "Recording" (He.ga K "Recording") 11 [] (sp_Recording_init K)) (G_check_alphabets : Fn P w K mg base "check_alphabets" 7 [] (sp_check_alphabets K)) (hr : Room 12 (A.deeper (envOfC "Recording.__add__" (defScope s_Recording_add) s.heap.objs.size f cdv))) :
    PSs (cxOf (L2.CX P w) P w K mg base ["self", "other"] "Recording.__add__" (defScope s_Recording_add) f cdv A outer s H E) (defBody s_Recording_add) (t_Recording_add K (WD E)) :=
  (pss_cons (ps_expr (pcall G_check_alphabets (hr.mono (by decide)) takesD (pa_cons (pe_lst (pa_cons (patt (Ta.pv 0)) (pa_cons (patt (Ta.pv 1)) pa_nil))) pa_nil)))
  (pss_one (ps_ret (pmak G_Recording (hr.mono (by decide)) takesD (pa_cons (patt (Ta.pv 0)) (pa_cons (pe_op opadd (patt (Ta.pv 0)) (patt (Ta.pv 1))) pa_nil))))))
/-! Recording___eq__ -/
abbrev s_Recording_eq : Stmt := inClass (top 24) 5
theorem sc_Recording_eq : FnScope ["self", "other"] ["self", "other"] (defScope s_Recording_eq) := ⟨rfl, rfl, rfl, by decide +kernel, rfl, by decide +kernel, by decide +kernel⟩
structure sp_Recording_eq (K : PySem.W.Frag) (vs : List V) (H : Hp) (Q : VK) (E : XK) : Prop where
  out : ∃ (R dR A p R' dR' A' p' dA dA' : Addr) (n n' l v l' v' : List Nat), vs = [.ref R, .ref R'] ∧ (H R = some (recO K dR A p n)) ∧ (H R' = some (recO K dR' A' p' n')) ∧ (H A = some (alo K dA l v)) ∧ (H A' = some (alo K dA' l' v')) ∧ (Q (.bl ((decide (srt l = srt l') && decide (srt v = srt v')) && decide (n = n'))) H)
theorem i_Recording_eq {K : PySem.W.Frag} {R dR A p R' dR' A' p' dA dA' : Addr} {n n' l v l' v' : List Nat} {H : Hp} {Q : VK} {E : XK} (hR : H R = some (recO K dR A p n)) (hR' : H R' = some (recO K dR' A' p' n')) (hA : H A = some (alo K dA l v)) (hA' : H A' = some (alo K dA' l' v')) (q : Q (.bl ((decide (srt l = srt l') && decide (srt v = srt v')) && decide (n = n'))) H) : sp_Recording_eq K [.ref R, .ref R'] H Q E := by
  exact ⟨⟨R, dR, A, p, R', dR', A', p', dA, dA', n, n', l, v, l', v', rfl, hR, hR', hA, hA', q⟩⟩
theorem d_Recording_eq {K : PySem.W.Frag} {vs : List V} {H : Hp} {Q : VK} {E : XK} (h : sp_Recording_eq K vs H Q E) : sp_Recording_eq K vs H Q E := h


def t_Recording_eq (K : PySem.W.Frag) (W : WX) : TS :=
  (tRet (tAndE K (tCB (zIsa K) (tCons (tV 1) (tCons (tC (.ref (He.ga K "Recording"))) tNil))) (tAndE K (tOp (zOwn (He.ga K "Alphabet") (sp_Alphabet_eq K)) (tAt K (tV 0) "alphabet") (tAt K (tV 1) "alphabet")) (tOp (zEqP K) (tAt K (tV 0) "spelling") (tAt K (tV 1) "spelling")))))
theorem tm_Recording_eq {P : Program} {w : World} {K : PySem.W.Frag} {mg : Str → Option Value} {base : Heap} {f : Addr} {cdv : Value} {A : Around} {outer : List Env} {s : Shared} {H : Hp} {E : XK} (T : Tx K mg) (G_Alphabet___eq__ : Me P w K mg base (He.ga K "Alphabet") "__eq__" 5 [] (sp_Alphabet_eq K)) (hr : Room 6 (A.deeper (envOfC "Recording.__eq__" (defScope s_Recording_eq) s.heap.objs.size f cdv))) :
    PSs (cxOf (L2.CX P w) P w K mg base ["self", "other"] "Recording.__eq__" (defScope s_Recording_eq) f cdv A outer s H E) (defBody s_Recording_eq) (t_Recording_eq K (WD E)) :=
  (pss_one (ps_ret (peand (pcb (crisa) T.f_isinstance (pa_cons (Ta.pv 1) (pa_cons (pglo T.v_Recording) pa_nil))) (peand (pe_cmpR (opown G_Alphabet___eq__ (hr.mono (by decide))) (patt (Ta.pv 0)) (patt (Ta.pv 1)) rfl) (pe_one (pe_cmpR (opeq hr.units) (patt (Ta.pv 0)) (patt (Ta.pv 1)) rfl))))))
/-! _law_strange -/
abbrev s_l_strange : Stmt := top 42
theorem sc_l_strange : FnScope ["_law_first", "_law_second", "_law_mixed", "_law_both"] ["_law_first", "_law_second"] (defScope s_l_strange) := ⟨rfl, rfl, rfl, by decide +kernel, rfl, by decide +kernel, by decide +kernel⟩
structure sp_l_strange (K : PySem.W.Frag) (vs : List V) (H : Hp) (Q : VK) (E : XK) : Prop where
  out : ∃ (R dR A p R' dR' A' p' dA dA' : Addr) (n n' l v l' v' : List Nat), vs = [.ref R, .ref R'] ∧ (H R = some (recO K dR A p n)) ∧ (H R' = some (recO K dR' A' p' n')) ∧ (H A = some (alo K dA l v)) ∧ (H A' = some (alo K dA' l' v')) ∧ (n.length + n'.length < 100000) ∧ (¬ (srt l = srt l' ∧ srt v = srt v')) ∧ (∀ H', Kp [] H H' → Q (.bl true) H')
theorem i_l_strange {K : PySem.W.Frag} {R dR A p R' dR' A' p' dA dA' : Addr} {n n' l v l' v' : List Nat} {H : Hp} {Q : VK} {E : XK} (hR : H R = some (recO K dR A p n)) (hR' : H R' = some (recO K dR' A' p' n')) (hA : H A = some (alo K dA l v)) (hA' : H A' = some (alo K dA' l' v')) (hn : n.length + n'.length < 100000) (hd : ¬ (srt l = srt l' ∧ srt v = srt v')) (q : ∀ H', Kp [] H H' → Q (.bl true) H') : sp_l_strange K [.ref R, .ref R'] H Q E := by
  exact ⟨⟨R, dR, A, p, R', dR', A', p', dA, dA', n, n', l, v, l', v', rfl, hR, hR', hA, hA', hn, hd, q⟩⟩
theorem d_l_strange {K : PySem.W.Frag} {vs : List V} {H : Hp} {Q : VK} {E : XK} (h : sp_l_strange K vs H Q E) : sp_l_strange K vs H Q E := h


def t_l_strange (K : PySem.W.Frag) (W : WX) : TS :=
  (tSeq (tAsg (tC (.int 0)) (gName 2))
  (tSeq (tAsg (tC .non) (gName 3))
  (tSeq (fun D0 σ0 H0 => (fun (W1 : WX) => (tAsg (tBinO (He.ga K "Recording") (sp_Recording_add K) W1 (tV 0) (tV 1)) (gName 3))) (wHk K W D0 [(Hk.na (.ref (He.ga K "Mixed")) (fun a cls d => (tAsg (tOp zAdd (tV 2) (tC (.int 1))) (gName 2))))]) D0 σ0 H0)
  (tSeq (fun D0 σ0 H0 => (fun (W1 : WX) => (tAsg (tBinO (He.ga K "Recording") (sp_Recording_add K) W1 (tV 1) (tV 0)) (gName 3))) (wHk K W D0 [(Hk.na (.ref (He.ga K "Mixed")) (fun a cls d => (tAsg (tOp zAdd (tV 2) (tC (.int 1))) (gName 2))))]) D0 σ0 H0)
  (tRet (tAndE K (tOp zIsB (tV 3) (tC .non)) (tAndE K (tOp (zEqP K) (tV 2) (tC (.int 2))) (tAndE K (tNotE K (tOp (zOwn (He.ga K "Recording") (sp_Recording_eq K)) (tV 0) (tV 1))) (tNotE K (tOp (zOwn (He.ga K "Recording") (sp_Recording_eq K)) (tV 1) (tV 0)))))))))))
theorem tm_l_strange {P : Program} {w : World} {K : PySem.W.Frag} {mg : Str → Option Value} {base : Heap} {f : Addr} {cdv : Value} {A : Around} {outer : List Env} {s : Shared} {H : Hp} {E : XK} (T : Tx K mg) (G_Recording___add__ : Me P w K mg base (He.ga K "Recording") "__add__" 13 [] (sp_Recording_add K)) (G_Recording___eq__ : Me P w K mg base (He.ga K "Recording") "__eq__" 7 [] (sp_Recording_eq K)) (hr : Room 14 (A.deeper (envOfC "_law_strange" (defScope s_l_strange) s.heap.objs.size f cdv))) :
    PSs (cxOf (L2.CX P w) P w K mg base ["_law_first", "_law_second", "_law_mixed", "_law_both"] "_law_strange" (defScope s_l_strange) f cdv A outer s H E) (defBody s_l_strange) (t_l_strange K (WD E)) :=
  (pss_cons (pset 2 sc_l_strange.nd pe_int)
  (pss_cons (pset 3 sc_l_strange.nd pe_non)
  (pss_cons (ps_try_x rfl rfl sc_l_strange.nd takesD (tb := fun W1 => (tAsg (tBinO (He.ga K "Recording") (sp_Recording_add K) W1 (tV 0) (tV 1)) (gName 3))) (l := [(Hk.na (.ref (He.ga K "Mixed")) (fun a cls d => (tAsg (tOp zAdd (tV 2) (tC (.int 1))) (gName 2))))]) (fun W1 pn xe tk1 _ => (pss_one (pset 3 sc_l_strange.nd (pe_binO G_Recording___add__ T.s_Recording (hr.mono (by decide)) tk1 (Ta.pv 0) (Ta.pv 1))))) (HdsX.na (names_of T.v_Mixed) (fun a oe cls d pn hz hf => (pss_one (pset 2 sc_l_strange.nd (pe_op opadd (Ta.pv 2) pe_int)))) HdsX.nil))
  (pss_cons (ps_try_x rfl rfl sc_l_strange.nd takesD (tb := fun W1 => (tAsg (tBinO (He.ga K "Recording") (sp_Recording_add K) W1 (tV 1) (tV 0)) (gName 3))) (l := [(Hk.na (.ref (He.ga K "Mixed")) (fun a cls d => (tAsg (tOp zAdd (tV 2) (tC (.int 1))) (gName 2))))]) (fun W1 pn xe tk1 _ => (pss_one (pset 3 sc_l_strange.nd (pe_binO G_Recording___add__ T.s_Recording (hr.mono (by decide)) tk1 (Ta.pv 1) (Ta.pv 0))))) (HdsX.na (names_of T.v_Mixed) (fun a oe cls d pn hz hf => (pss_one (pset 2 sc_l_strange.nd (pe_op opadd (Ta.pv 2) pe_int)))) HdsX.nil))
  (pss_one (ps_ret (peand (pe_cmpR opisb (Ta.pv 3) pe_non rfl) (peand (pe_cmpR (opeq hr.units) (Ta.pv 2) pe_int rfl) (peand (penot (pe_cmpR (opown G_Recording___eq__ (hr.mono (by decide))) (Ta.pv 0) (Ta.pv 1) rfl)) (pe_one (penot (pe_cmpR (opown G_Recording___eq__ (hr.mono (by decide))) (Ta.pv 1) (Ta.pv 0) rfl))))))))))))
/-! Recording___str__ -/
abbrev s_Recording_str : Stmt := inClass (top 24) 8
theorem sc_Recording_str : FnScope ["self"] ["self"] (defScope s_Recording_str) := ⟨rfl, rfl, rfl, by decide +kernel, rfl, by decide +kernel, by decide +kernel⟩
structure sp_Recording_str (K : PySem.W.Frag) (vs : List V) (H : Hp) (Q : VK) (E : XK) : Prop where
  out : ∃ (R dR A p : Addr) (n : List Nat), vs = [.ref R] ∧ (H R = some (recO K dR A p n)) ∧ (n.length < 100000) ∧ (Q (.str (S n)) H)
theorem i_Recording_str {K : PySem.W.Frag} {R dR A p : Addr} {n : List Nat} {H : Hp} {Q : VK} {E : XK} (hR : H R = some (recO K dR A p n)) (hn : n.length < 100000) (q : Q (.str (S n)) H) : sp_Recording_str K [.ref R] H Q E := by
  exact ⟨⟨R, dR, A, p, n, rfl, hR, hn, q⟩⟩
theorem d_Recording_str {K : PySem.W.Frag} {vs : List V} {H : Hp} {Q : VK} {E : XK} (h : sp_Recording_str K vs H Q E) : sp_Recording_str K vs H Q E := h


def t_Recording_str (K : PySem.W.Frag) (W : WX) : TS :=
  (tRet (tCB (zStr K) (tCons (tAt K (tV 0) "spelling") tNil)))
theorem tm_Recording_str {P : Program} {w : World} {K : PySem.W.Frag} {mg : Str → Option Value} {base : Heap} {f : Addr} {cdv : Value} {A : Around} {outer : List Env} {s : Shared} {H : Hp} {E : XK} (T : Tx K mg) (hr : Room 4 (A.deeper (envOfC "Recording.__str__" (defScope s_Recording_str) s.heap.objs.size f cdv))) :
    PSs (cxOf (L2.CX P w) P w K mg base ["self"] "Recording.__str__" (defScope s_Recording_str) f cdv A outer s H E) (defBody s_Recording_str) (t_Recording_str K (WD E)) :=
  (pss_one (ps_ret (pct (crstr) T.f_str (pa_cons (patt (Ta.pv 0)) pa_nil))))
/-! Recording_all_keys -/
abbrev s_Recording_all_keys : Stmt := inClass (top 24) 3
theorem sc_Recording_all_keys : FnScope ["self"] ["self"] (defScope s_Recording_all_keys) := ⟨rfl, rfl, rfl, by decide +kernel, rfl, by decide +kernel, by decide +kernel⟩
structure sp_Recording_all_keys (K : PySem.W.Frag) (vs : List V) (H : Hp) (Q : VK) (E : XK) : Prop where
  out : ∃ (R dR A p : Addr) (n : List Nat) (xs : List V), vs = [.ref R] ∧ (H R = some (recO K dR A p n)) ∧ (H p = some (.lst xs)) ∧ (xs.length < 1000) ∧ (∀ r, H r = none → Q (.ref r) (upd H r (.lst xs)))
theorem i_Recording_all_keys {K : PySem.W.Frag} {R dR A p : Addr} {n : List Nat} {xs : List V} {H : Hp} {Q : VK} {E : XK} (hR : H R = some (recO K dR A p n)) (hp : H p = some (.lst xs)) (hl : xs.length < 1000) (q : ∀ r, H r = none → Q (.ref r) (upd H r (.lst xs))) : sp_Recording_all_keys K [.ref R] H Q E := by
  exact ⟨⟨R, dR, A, p, n, xs, rfl, hR, hp, hl, q⟩⟩
theorem d_Recording_all_keys {K : PySem.W.Frag} {vs : List V} {H : Hp} {Q : VK} {E : XK} (h : sp_Recording_all_keys K vs H Q E) : sp_Recording_all_keys K vs H Q E := h


def t_Recording_all_keys (K : PySem.W.Frag) (W : WX) : TS :=
  (tRet (tCB (zListX K) (tCons (tAt K (tV 0) "key_list") tNil)))
theorem tm_Recording_all_keys {P : Program} {w : World} {K : PySem.W.Frag} {mg : Str → Option Value} {base : Heap} {f : Addr} {cdv : Value} {A : Around} {outer : List Env} {s : Shared} {H : Hp} {E : XK} (T : Tx K mg) (hr : Room 4 (A.deeper (envOfC "Recording.all_keys" (defScope s_Recording_all_keys) s.heap.objs.size f cdv))) :
    PSs (cxOf (L2.CX P w) P w K mg base ["self"] "Recording.all_keys" (defScope s_Recording_all_keys) f cdv A outer s H E) (defBody s_Recording_all_keys) (t_Recording_all_keys K (WD E)) :=
  (pss_one (ps_ret (pct (crlistX rfl) T.f_list (pa_cons (patt (Ta.pv 0)) pa_nil))))
/-! Recording___len__ -/
abbrev s_Recording_len : Stmt := inClass (top 24) 7
theorem sc_Recording_len : FnScope ["self"] ["self"] (defScope s_Recording_len) := ⟨rfl, rfl, rfl, by decide +kernel, rfl, by decide +kernel, by decide +kernel⟩
structure sp_Recording_len (K : PySem.W.Frag) (vs : List V) (H : Hp) (Q : VK) (E : XK) : Prop where
  out : ∃ (R dR A p : Addr) (n : List Nat) (xs : List V), vs = [.ref R] ∧ (H R = some (recO K dR A p n)) ∧ (H p = some (.lst xs)) ∧ (xs.length < 1000) ∧ (Q (.int xs.length) H)
theorem i_Recording_len {K : PySem.W.Frag} {R dR A p : Addr} {n : List Nat} {xs : List V} {H : Hp} {Q : VK} {E : XK} (hR : H R = some (recO K dR A p n)) (hp : H p = some (.lst xs)) (hl : xs.length < 1000) (q : Q (.int xs.length) H) : sp_Recording_len K [.ref R] H Q E := by
  exact ⟨⟨R, dR, A, p, n, xs, rfl, hR, hp, hl, q⟩⟩
theorem d_Recording_len {K : PySem.W.Frag} {vs : List V} {H : Hp} {Q : VK} {E : XK} (h : sp_Recording_len K vs H Q E) : sp_Recording_len K vs H Q E := h


def t_Recording_len (K : PySem.W.Frag) (W : WX) : TS :=
  (tRet (tCB (zLen K) (tCons (tAt K (tV 0) "key_list") tNil)))
theorem tm_Recording_len {P : Program} {w : World} {K : PySem.W.Frag} {mg : Str → Option Value} {base : Heap} {f : Addr} {cdv : Value} {A : Around} {outer : List Env} {s : Shared} {H : Hp} {E : XK} (T : Tx K mg) (hr : Room 4 (A.deeper (envOfC "Recording.__len__" (defScope s_Recording_len) s.heap.objs.size f cdv))) :
    PSs (cxOf (L2.CX P w) P w K mg base ["self"] "Recording.__len__" (defScope s_Recording_len) f cdv A outer s H E) (defBody s_Recording_len) (t_Recording_len K (WD E)) :=
  (pss_one (ps_ret (pcb (crlen) T.f_len (pa_cons (patt (Ta.pv 0)) pa_nil))))
/-! _law_keys -/
abbrev s_l_keys : Stmt := top 39
theorem sc_l_keys : FnScope ["_law_made_here", "_law_keys_here", "_law_told"] ["_law_made_here", "_law_keys_here"] (defScope s_l_keys) := ⟨rfl, rfl, rfl, by decide +kernel, rfl, by decide +kernel, by decide +kernel⟩
structure sp_l_keys (K : PySem.W.Frag) (vs : List V) (H : Hp) (Q : VK) (E : XK) : Prop where
  out : ∃ (R dR A p k : Addr) (n : List Nat) (ks : List (List Nat)), vs = [.ref R, .ref k] ∧ (H R = some (recO K dR A p n)) ∧ (H p = some (tks ks)) ∧ (H k = some (tks ks)) ∧ (ks.length < 900) ∧ (∀ k ∈ ks, low k) ∧ (∀ H', Kp [] H H' → Q (.bl true) H')
theorem i_l_keys {K : PySem.W.Frag} {R dR A p k : Addr} {n : List Nat} {ks : List (List Nat)} {H : Hp} {Q : VK} {E : XK} (hR : H R = some (recO K dR A p n)) (hp : H p = some (tks ks)) (hk : H k = some (tks ks)) (hl : ks.length < 900) (hlo : ∀ k ∈ ks, low k) (q : ∀ H', Kp [] H H' → Q (.bl true) H') : sp_l_keys K [.ref R, .ref k] H Q E := by
  exact ⟨⟨R, dR, A, p, k, n, ks, rfl, hR, hp, hk, hl, hlo, q⟩⟩
theorem d_l_keys {K : PySem.W.Frag} {vs : List V} {H : Hp} {Q : VK} {E : XK} (h : sp_l_keys K vs H Q E) : sp_l_keys K vs H Q E := h


def t_l_keys (K : PySem.W.Frag) (W : WX) : TS :=
  (tSeq (tAsg (tMe [(He.ga K "Recording", [], sp_Recording_all_keys K)] "all_keys" W (tV 0) tNil) (gName 2))
  (tSeq (tIfP (tOrP (tNot (tTru K (tCB (zIsa K) (tCons (tV 2) (tCons (tC (.ty "list")) tNil))))) (tTst (tOp (zNeP K) (tV 2) (tV 1)))) (tRet (tC (.bl false))) tNext)
  (tSeq (tDrop (tLM0 zRevP (tV 2)))
  (tSeq (tDrop (tLM zAppP (tV 2) (tCons (tC (.str (S [63]))) tNil)))
  (tRet (tAndE K (tOp (zEqP K) (tMe [(He.ga K "Recording", [], sp_Recording_all_keys K)] "all_keys" W (tV 0) tNil) (tV 1)) (tOp (zEqP K) (tCB (zLenO (He.ga K "Recording") (sp_Recording_len K)) (tCons (tV 0) tNil)) (tCB (zLen K) (tCons (tV 1) tNil)))))))))
theorem tm_l_keys {P : Program} {w : World} {K : PySem.W.Frag} {mg : Str → Option Value} {base : Heap} {f : Addr} {cdv : Value} {A : Around} {outer : List Env} {s : Shared} {H : Hp} {E : XK} (T : Tx K mg) (G_Recording___len__ : Me P w K mg base (He.ga K "Recording") "__len__" 5 [] (sp_Recording_len K)) (G_Recording_all_keys : Me P w K mg base (He.ga K "Recording") "all_keys" 5 [] (sp_Recording_all_keys K)) (hr : Room 6 (A.deeper (envOfC "_law_keys" (defScope s_l_keys) s.heap.objs.size f cdv))) :
    PSs (cxOf (L2.CX P w) P w K mg base ["_law_made_here", "_law_keys_here", "_law_told"] "_law_keys" (defScope s_l_keys) f cdv A outer s H E) (defBody s_l_keys) (t_l_keys K (WD E)) :=
  (pss_cons (pset 2 sc_l_keys.nd (pmeth0 (ms := [(He.ga K "Recording", [], sp_Recording_all_keys K)]) (fun e he => by obtain rfl := List.mem_singleton.mp he; exact G_Recording_all_keys) (hr.mono (by decide)) takesD (Ta.pv 0)))
  (pss_cons (psif (PW.pt (pwor (pt_not (ptru (pcb (crisa) T.f_isinstance (pa_cons (Ta.pv 2) (pa_cons (pbty T.f_list) pa_nil))))) (pw_or1 (ptcmp (opne hr.units) (Ta.pv 2) (Ta.pv 1))))) (pss_one (ps_ret pe_bl)) pss_nil)
  (pss_cons (ps_expr (plm0 PySem.F.slot_list_reverse PySem.F.type_list_reverse mtrev (Ta.pv 2)))
  (pss_cons (ps_expr (plm PySem.F.slot_list_append PySem.F.type_list_append mtapp (Ta.pv 2) (pa_cons (pstr [63]) pa_nil)))
  (pss_one (ps_ret (peand (pe_cmpR (opeq hr.units) (pmeth0 (ms := [(He.ga K "Recording", [], sp_Recording_all_keys K)]) (fun e he => by obtain rfl := List.mem_singleton.mp he; exact G_Recording_all_keys) (hr.mono (by decide)) takesD (Ta.pv 0)) (Ta.pv 1) rfl) (pe_one (pe_cmpR (opeq hr.units) (pcb (crlenO G_Recording___len__ (hr.mono (by decide))) T.f_len (pa_cons (Ta.pv 0) pa_nil)) (pcb (crlen) T.f_len (pa_cons (Ta.pv 1) pa_nil)) rfl)))))))))
/-! _law_joined -/
abbrev s_l_joined : Stmt := top 41
theorem sc_l_joined : FnScope ["_law_alphabet", "_law_one", "_law_two", "_law_keys_here", "_law_others", "_law_first", "_law_second", "_law_both", "many"] ["_law_alphabet", "_law_one", "_law_two", "_law_keys_here", "_law_others"] (defScope s_l_joined) := ⟨rfl, rfl, rfl, by decide +kernel, rfl, by decide +kernel, by decide +kernel⟩
structure sp_l_joined (K : PySem.W.Frag) (vs : List V) (H : Hp) (Q : VK) (E : XK) : Prop where
  out : ∃ (A dA k1 k2 : Addr) (l v n n' : List Nat), vs = [.ref A, .str (S n), .str (S n'), .ref k1, .ref k2] ∧ (H A = some (alo K dA l v)) ∧ (H k1 = some (tks (kof (scan (45 :: srt l) n).2))) ∧ (H k2 = some (tks (kof (scan (45 :: srt l) n').2))) ∧ (low n ∧ low n' ∧ n.length < 10000 ∧ n'.length < 10000) ∧ ((scan (45 :: srt l) n).1 = -1 ∧ (kof (scan (45 :: srt l) n).2).length ≤ 24) ∧ ((scan (45 :: srt l) n').1 = -1 ∧ (kof (scan (45 :: srt l) n').2).length ≤ 24) ∧ (∀ H', Kp [] H H' → Q (.bl true) H')
theorem i_l_joined {K : PySem.W.Frag} {A dA k1 k2 : Addr} {l v n n' : List Nat} {H : Hp} {Q : VK} {E : XK} (hA : H A = some (alo K dA l v)) (hk1 : H k1 = some (tks (kof (scan (45 :: srt l) n).2))) (hk2 : H k2 = some (tks (kof (scan (45 :: srt l) n').2))) (hn : low n ∧ low n' ∧ n.length < 10000 ∧ n'.length < 10000) (h1 : (scan (45 :: srt l) n).1 = -1 ∧ (kof (scan (45 :: srt l) n).2).length ≤ 24) (h2 : (scan (45 :: srt l) n').1 = -1 ∧ (kof (scan (45 :: srt l) n').2).length ≤ 24) (q : ∀ H', Kp [] H H' → Q (.bl true) H') : sp_l_joined K [.ref A, .str (S n), .str (S n'), .ref k1, .ref k2] H Q E := by
  exact ⟨⟨A, dA, k1, k2, l, v, n, n', rfl, hA, hk1, hk2, hn, h1, h2, q⟩⟩
theorem d_l_joined {K : PySem.W.Frag} {vs : List V} {H : Hp} {Q : VK} {E : XK} (h : sp_l_joined K vs H Q E) : sp_l_joined K vs H Q E := h


def t_l_joined (K : PySem.W.Frag) (W : WX) : TS :=
  (tSeq (tAsg (tMak (He.ga K "Recording") (sp_Recording_init K) [] W (tCons (tV 0) (tCons (tV 1) tNil))) (gName 5))
  (tSeq (tAsg (tMak (He.ga K "Recording") (sp_Recording_init K) [] W (tCons (tV 0) (tCons (tV 2) tNil))) (gName 6))
  (tSeq (tIfP (tOrP (tTst (tOp (zNeP K) (tCB (zBool K) (tCons (tOp (zOwn (He.ga K "Recording") (sp_Recording_eq K)) (tV 5) (tV 6)) tNil)) (tOp (zEqP K) (tV 1) (tV 2)))) (tNot (tTst (tOp (zOwn (He.ga K "Recording") (sp_Recording_eq K)) (tV 5) (tMak (He.ga K "Recording") (sp_Recording_init K) [] W (tCons (tV 0) (tCons (tV 1) tNil))))))) (tRet (tC (.bl false))) tNext)
  (tSeq (tAsg (tC .non) (gName 7))
  (tSeq (fun D0 σ0 H0 => (fun (W1 : WX) => (tAsg (tBinO (He.ga K "Recording") (sp_Recording_add K) W1 (tV 5) (tV 6)) (gName 7))) (wAs K (.ref (He.ga K "TooMany")) 8 (fun a cls d => (tIfP (tOrP (tTst (tOp zLe (tOp zAdd (tCB (zLen K) (tCons (tV 3) tNil)) (tCB (zLen K) (tCons (tV 4) tNil))) (tC (.int 24)))) (tNot (tTru K (tCal (sp_l_whole K) [] WF (tCons (tXat K a cls d "most" (tV 8)) (tCons (tC (.int 24)) tNil)))))) (tRet (tC (.bl false))) tNext)) W D0) D0 σ0 H0)
  (tSeq (tIfP (tTst (tOp zIsB (tV 7) (tC .non))) (tIfP (tTst (tOp zLe (tOp zAdd (tCB (zLen K) (tCons (tV 3) tNil)) (tCB (zLen K) (tCons (tV 4) tNil))) (tC (.int 24)))) (tRet (tC (.bl false))) tNext) (tIfP (tOrP (tTst (tOp (zNeP K) (tCB (zStrO (He.ga K "Recording") (sp_Recording_str K)) (tCons (tV 7) tNil)) (tOp zAdd (tV 1) (tV 2)))) (tNot (tTru K (tCal (sp_l_keys K) [] W (tCons (tV 7) (tCons (tOp zAdd (tV 3) (tV 4)) tNil)))))) (tRet (tC (.bl false))) (tIfP (tNot (tTst (tOp (zOwn (He.ga K "Recording") (sp_Recording_eq K)) (tV 7) (tMak (He.ga K "Recording") (sp_Recording_init K) [] W (tCons (tV 0) (tCons (tOp zAdd (tV 1) (tV 2)) tNil)))))) (tRet (tC (.bl false))) tNext)))
  (tRet (tAndE K (tOp (zEqP K) (tCB (zStrO (He.ga K "Recording") (sp_Recording_str K)) (tCons (tV 5) tNil)) (tV 1)) (tAndE K (tCal (sp_l_keys K) [] W (tCons (tV 5) (tCons (tV 3) tNil))) (tAndE K (tOp (zEqP K) (tCB (zStrO (He.ga K "Recording") (sp_Recording_str K)) (tCons (tV 6) tNil)) (tV 2)) (tCal (sp_l_keys K) [] W (tCons (tV 6) (tCons (tV 4) tNil)))))))))))))
theorem tm_l_joined {P : Program} {w : World} {K : PySem.W.Frag} {mg : Str → Option Value} {base : Heap} {f : Addr} {cdv : Value} {A : Around} {outer : List Env} {s : Shared} {H : Hp} {E : XK} (T : Tx K mg) (GQ_l_whole : FnQu P w K mg base "_law_whole" 5 (sp_l_whole K)) (G_Recording : Mks P w K mg base "Recording" (He.ga K "Recording") 11 [] (sp_Recording_init K)) (G_Recording___add__ : Me P w K mg base (He.ga K "Recording") "__add__" 13 [] (sp_Recording_add K)) (G_Recording___eq__ : Me P w K mg base (He.ga K "Recording") "__eq__" 7 [] (sp_Recording_eq K)) (G_Recording___str__ : Me P w K mg base (He.ga K "Recording") "__str__" 5 [] (sp_Recording_str K)) (G_l_keys : Fn P w K mg base "_law_keys" 7 [] (sp_l_keys K)) (hr : Room 14 (A.deeper (envOfC "_law_joined" (defScope s_l_joined) s.heap.objs.size f cdv))) :
    PSs (cxOf (L2.CX P w) P w K mg base ["_law_alphabet", "_law_one", "_law_two", "_law_keys_here", "_law_others", "_law_first", "_law_second", "_law_both", "many"] "_law_joined" (defScope s_l_joined) f cdv A outer s H E) (defBody s_l_joined) (t_l_joined K (WD E)) :=
  (pss_cons (pset 5 sc_l_joined.nd (pmak G_Recording (hr.mono (by decide)) takesD (pa_cons (Ta.pv 0) (pa_cons (Ta.pv 1) pa_nil))))
  (pss_cons (pset 6 sc_l_joined.nd (pmak G_Recording (hr.mono (by decide)) takesD (pa_cons (Ta.pv 0) (pa_cons (Ta.pv 2) pa_nil))))
  (pss_cons (psif (PW.pt (pwor (ptcmp (opne hr.units) (pct (crbool) T.f_bool (pa_cons (pe_cmpR (opown G_Recording___eq__ (hr.mono (by decide))) (Ta.pv 5) (Ta.pv 6) rfl) pa_nil)) (pe_cmpR (opeq hr.units) (Ta.pv 1) (Ta.pv 2) rfl)) (pw_or1 (pt_not (ptcmp (opown G_Recording___eq__ (hr.mono (by decide))) (Ta.pv 5) (pmak G_Recording (hr.mono (by decide)) takesD (pa_cons (Ta.pv 0) (pa_cons (Ta.pv 1) pa_nil)))))))) (pss_one (ps_ret pe_bl)) pss_nil)
  (pss_cons (pset 7 sc_l_joined.nd pe_non)
  (pss_cons (ps_try_as (i := 8) rfl rfl sc_l_joined.nd rfl rfl (names_of T.v_TooMany) takesD (tb := fun W1 => (tAsg (tBinO (He.ga K "Recording") (sp_Recording_add K) W1 (tV 5) (tV 6)) (gName 7))) (ts := fun a cls d => (tIfP (tOrP (tTst (tOp zLe (tOp zAdd (tCB (zLen K) (tCons (tV 3) tNil)) (tCB (zLen K) (tCons (tV 4) tNil))) (tC (.int 24)))) (tNot (tTru K (tCal (sp_l_whole K) [] WF (tCons (tXat K a cls d "most" (tV 8)) (tCons (tC (.int 24)) tNil)))))) (tRet (tC (.bl false))) tNext)) (fun W1 pn xe tk1 _ => (pss_one (pset 7 sc_l_joined.nd (pe_binO G_Recording___add__ T.s_Recording (hr.mono (by decide)) tk1 (Ta.pv 5) (Ta.pv 6))))) (fun a oe cls d pn hz hf => (pss_one (psif (PW.pt (pwor (ptcmp ople (pe_op opadd (pcb (crlen) T.f_len (pa_cons (Ta.pv 3) pa_nil)) (pcb (crlen) T.f_len (pa_cons (Ta.pv 4) pa_nil))) pe_int) (pw_or1 (pt_not (ptru (pcallQ GQ_l_whole (roomQ hr (by decide)) ⟨_, List.mem_cons_self⟩ takes0 (pa_cons (pxat hz hf (Ta.pv 8)) (pa_cons pe_int pa_nil)))))))) (pss_one (ps_ret pe_bl)) pss_nil))))
  (pss_cons (psif (ptcmp opisb (Ta.pv 7) pe_non) (pss_one (psif (ptcmp ople (pe_op opadd (pcb (crlen) T.f_len (pa_cons (Ta.pv 3) pa_nil)) (pcb (crlen) T.f_len (pa_cons (Ta.pv 4) pa_nil))) pe_int) (pss_one (ps_ret pe_bl)) pss_nil)) (pss_one (psif (PW.pt (pwor (ptcmp (opne hr.units) (pct (crstrO G_Recording___str__ (hr.mono (by decide))) T.f_str (pa_cons (Ta.pv 7) pa_nil)) (pe_op opadd (Ta.pv 1) (Ta.pv 2))) (pw_or1 (pt_not (ptru (pcall G_l_keys (hr.mono (by decide)) takesD (pa_cons (Ta.pv 7) (pa_cons (pe_op opadd (Ta.pv 3) (Ta.pv 4)) pa_nil)))))))) (pss_one (ps_ret pe_bl)) (pss_one (psif (pt_not (ptcmp (opown G_Recording___eq__ (hr.mono (by decide))) (Ta.pv 7) (pmak G_Recording (hr.mono (by decide)) takesD (pa_cons (Ta.pv 0) (pa_cons (pe_op opadd (Ta.pv 1) (Ta.pv 2)) pa_nil))))) (pss_one (ps_ret pe_bl)) pss_nil)))))
  (pss_one (ps_ret (peand (pe_cmpR (opeq hr.units) (pct (crstrO G_Recording___str__ (hr.mono (by decide))) T.f_str (pa_cons (Ta.pv 5) pa_nil)) (Ta.pv 1) rfl) (peand (pcall G_l_keys (hr.mono (by decide)) takesD (pa_cons (Ta.pv 5) (pa_cons (Ta.pv 3) pa_nil))) (peand (pe_cmpR (opeq hr.units) (pct (crstrO G_Recording___str__ (hr.mono (by decide))) T.f_str (pa_cons (Ta.pv 6) pa_nil)) (Ta.pv 2) rfl) (pe_one (pcall G_l_keys (hr.mono (by decide)) takesD (pa_cons (Ta.pv 6) (pa_cons (Ta.pv 4) pa_nil)))))))))))))))
/-! _law_take -/
abbrev s_l_take : Stmt := top 27
theorem sc_l_take : FnScope ["_law_box_here", "_law_size", "_law_digit", "_law_cells", "_law_mixed"] ["_law_box_here", "_law_size"] (defScope s_l_take) := ⟨rfl, rfl, rfl, by decide +kernel, rfl, by decide +kernel, by decide +kernel⟩
structure sp_l_take (K : PySem.W.Frag) (vs : List V) (H : Hp) (Q : VK) (E : XK) : Prop where
  out : ∃ (p q : Addr) (n a b : Int) (cs : List Int), vs = [.ref p, .int n] ∧ H p = some (bx a b q) ∧ H q = some (cel cs) ∧ okc cs ∧ 0 < n ∧ n < 1073741824 ∧ ∀ r a' b', 0 ≤ r → r < n → Q (.int r) (upd H p (bx a' b' q))
theorem i_l_take {K : PySem.W.Frag} {p q : Addr} {n a b : Int} {cs : List Int} {H : Hp} {Q : VK} {E : XK} (hp : H p = some (bx a b q)) (hq : H q = some (cel cs)) (hc : okc cs) (h0 : 0 < n) (h1 : n < 1073741824) (k : ∀ r a' b', 0 ≤ r → r < n → Q (.int r) (upd H p (bx a' b' q))) : sp_l_take K [.ref p, .int n] H Q E := by
  exact ⟨⟨p, q, n, a, b, cs, rfl, hp, hq, hc, h0, h1, k⟩⟩

def t_l_take (K : PySem.W.Frag) (W : WX) : TS :=
  (tSeq (tIfP (tTst (tOp zGt (tOp (zIxP K) (tV 0) (tC (.int 0))) (tC (.int 0)))) (tSeq (tAsg (tOp zMod (tCB (zInt) (tCons (tOp (zIxP K) (tV 0) (tC (.int 0))) tNil)) (tV 1)) (gName 2))
  (tSeq (tAsg (tOp zDiv (tCB (zInt) (tCons (tOp (zIxP K) (tV 0) (tC (.int 0))) tNil)) (tV 1)) (gSub (tV 0) (tC (.int 0)) zSetP))
  (tRet (tV 2)))) tNext)
  (tSeq (tAsg (tOp zAdd (tOp (zIxP K) (tV 0) (tC (.int 1))) (tC (.int 1))) (gSub (tV 0) (tC (.int 1)) zSetP))
  (tSeq (tAsg (tOp (zIxP K) (tV 0) (tC (.int 2))) (gName 3))
  (tSeq (tAsg (tOp zMod (tCB (zInt) (tCons (tOp zMul (tOp (zIxP K) (tV 3) (tOp zMod (tCB (zInt) (tCons (tOp (zIxP K) (tV 0) (tC (.int 1))) tNil)) (tCB (zLen K) (tCons (tV 3) tNil)))) (tOp zAdd (tC (.int 48271)) (tOp zMul (tOp (zIxP K) (tV 0) (tC (.int 1))) (tC (.int 69621))))) tNil)) (tC (.int 2147483647))) (gName 4))
  (tSeq (tAsg (tOp zMod (tCB (zInt) (tCons (tOp zMul (tV 4) (tOp zAdd (tOp zDiv (tV 4) (tC (.int 1024))) (tOp (zIxP K) (tV 0) (tC (.int 1))))) tNil)) (tC (.int 2147483399))) (gName 4))
  (tRet (tOp zMod (tCB (zInt) (tCons (tOp zDiv (tV 4) (tC (.int 16))) tNil)) (tV 1))))))))
theorem tm_l_take {P : Program} {w : World} {K : PySem.W.Frag} {mg : Str → Option Value} {base : Heap} {f : Addr} {cdv : Value} {A : Around} {outer : List Env} {s : Shared} {H : Hp} {E : XK} (T : Tx K mg) (hr : Room 4 (A.deeper (envOfC "_law_take" (defScope s_l_take) s.heap.objs.size f cdv))) :
    PSs (cxOf (L2.CX P w) P w K mg base ["_law_box_here", "_law_size", "_law_digit", "_law_cells", "_law_mixed"] "_law_take" (defScope s_l_take) f cdv A outer s H E) (defBody s_l_take) (t_l_take K (WD E)) :=
  (pss_cons (psif (ptcmp opgt (pix (Ta.pv 0) pe_int) pe_int) (pss_cons (pset 2 sc_l_take.nd (pe_op opmod (pct (crint) T.f_int (pa_cons (pix (Ta.pv 0) pe_int) pa_nil)) (Ta.pv 1)))
  (pss_cons (psub (pe_op opdiv (pct (crint) T.f_int (pa_cons (pix (Ta.pv 0) pe_int) pa_nil)) (Ta.pv 1)) (Ta.pv 0) pe_int)
  (pss_one (ps_ret (Ta.pv 2))))) pss_nil)
  (pss_cons (psub (pe_op opadd (pix (Ta.pv 0) pe_int) pe_int) (Ta.pv 0) pe_int)
  (pss_cons (pset 3 sc_l_take.nd (pix (Ta.pv 0) pe_int))
  (pss_cons (pset 4 sc_l_take.nd (pe_op opmod (pct (crint) T.f_int (pa_cons (pe_op opmul (pix (Ta.pv 3) (pe_op opmod (pct (crint) T.f_int (pa_cons (pix (Ta.pv 0) pe_int) pa_nil)) (pcb (crlen) T.f_len (pa_cons (Ta.pv 3) pa_nil)))) (pe_op opadd pe_int (pe_op opmul (pix (Ta.pv 0) pe_int) pe_int))) pa_nil)) pe_int))
  (pss_cons (pset 4 sc_l_take.nd (pe_op opmod (pct (crint) T.f_int (pa_cons (pe_op opmul (Ta.pv 4) (pe_op opadd (pe_op opdiv (Ta.pv 4) pe_int) (pix (Ta.pv 0) pe_int))) pa_nil)) pe_int))
  (pss_one (ps_ret (pe_op opmod (pct (crint) T.f_int (pa_cons (pe_op opdiv (Ta.pv 4) pe_int) pa_nil)) (Ta.pv 1)))))))))
/-! _law_box -/
abbrev s_l_box : Stmt := top 26
theorem sc_l_box : FnScope ["_law_script", "_law_k", "_law_cells", "_law_cell", "_law_great"] ["_law_script", "_law_k"] (defScope s_l_box) := ⟨rfl, rfl, rfl, by decide +kernel, rfl, by decide +kernel, by decide +kernel⟩
structure sp_l_box (K : PySem.W.Frag) (vs : List V) (H : Hp) (Q : VK) (E : XK) : Prop where
  out : ∃ (p : Addr) (k : Int) (ob : Obj) (ns : List Int), vs = [.ref p, .int k] ∧ H p = some (scr ob ns) ∧ 0 ≤ k ∧ ns.length < 1000 ∧ ∀ b q a cs H', Kp [] H H' → H b = none → H q = none → q ≠ b → H' b = some (bx a 0 q) → H' q = some (cel cs) → okc cs → Q (.ref b) H'
theorem i_l_box {K : PySem.W.Frag} {p : Addr} {k : Int} {ob : Obj} {ns : List Int} {H : Hp} {Q : VK} {E : XK} (hp : H p = some (scr ob ns)) (h0 : 0 ≤ k) (h1 : ns.length < 1000) (q : ∀ b q a cs H', Kp [] H H' → H b = none → H q = none → q ≠ b → H' b = some (bx a 0 q) → H' q = some (cel cs) → okc cs → Q (.ref b) H') : sp_l_box K [.ref p, .int k] H Q E := by
  exact ⟨⟨p, k, ob, ns, rfl, hp, h0, h1, q⟩⟩

def t_l_box (K : PySem.W.Frag) (W : WX) : TS :=
  (tSeq (tAsg (tLcP (jA K (tSl (zSlP K) (tV 0) (tPrt (tV 1)) (tPrt (tC (.int 63))))) (gName 3) tYes (tCB (zInt) (tCons (tV 3) tNil)) [3]) (gName 2))
  (tSeq (tIfP (tNot (tTru K (tV 2))) (tAsg (tLst (tCons (tC (.int 0)) tNil)) (gName 2)) tNext)
  (tSeq (tAsg (tCB (zAbs) (tCons (tOp (zIxP K) (tV 2) (tC (.int 0))) tNil)) (gName 4))
  (tSeq (tIfP (tTst (tOp zLt (tV 4) (tOp zPow (tC (.int 10)) (tC (.int 18))))) (tAsg (tC (.int 0)) (gName 4)) tNext)
  (tRet (tLst (tCons (tV 4) (tCons (tC (.int 0)) (tCons (tLcP (jA K (tV 2)) (gName 3) tYes (tOp zMod (tCB (zInt) (tCons (tV 3) tNil)) (tC (.int 2305843009213693951))) [3]) tNil)))))))))
theorem tm_l_box {P : Program} {w : World} {K : PySem.W.Frag} {mg : Str → Option Value} {base : Heap} {f : Addr} {cdv : Value} {A : Around} {outer : List Env} {s : Shared} {H : Hp} {E : XK} (T : Tx K mg) (hr : Room 4 (A.deeper (envOfC "_law_box" (defScope s_l_box) s.heap.objs.size f cdv))) :
    PSs (cxOf (L2.CX P w) P w K mg base ["_law_script", "_law_k", "_law_cells", "_law_cell", "_law_great"] "_law_box" (defScope s_l_box) f cdv A outer s H E) (defBody s_l_box) (t_l_box K (WD E)) :=
  (pss_cons (pslc (i := 2) [("_law_cell", 3)] rfl sc_l_box.nd rfl rfl (sw_true rfl rfl rfl (by decide +kernel)) (pja (psl (Ta.pv 0) (posome (Ta.pv 1)) (posome pe_int))) (by kernel_rfl) (fun _ _ _ _ _ => (pgn 3 sc_l_box.nd)) (fun _ _ _ _ _ => pts_nil) (fun _ _ _ _ _ => (pct (crint) T.f_int (pa_cons (Ta.pv 3) pa_nil))))
  (pss_cons (psif (pt_not (ptru (Ta.pv 2))) (pss_one (pset 2 sc_l_box.nd (pe_lst (pa_cons pe_int pa_nil)))) pss_nil)
  (pss_cons (pset 4 sc_l_box.nd (pcb (crabs) T.f_abs (pa_cons (pix (Ta.pv 2) pe_int) pa_nil)))
  (pss_cons (psif (ptcmp oplt (Ta.pv 4) (pe_op oppow pe_int pe_int)) (pss_one (pset 4 sc_l_box.nd pe_int)) pss_nil)
  (pss_one (ps_ret (pe_lst (pa_cons (Ta.pv 4) (pa_cons pe_int (pa_cons (plc [("_law_cell", 3)] rfl sc_l_box.nd (pja (Ta.pv 2)) (by kernel_rfl) (fun _ _ _ _ _ => (pgn 3 sc_l_box.nd)) (fun _ _ _ _ _ => pts_nil) (fun _ _ _ _ _ => (pe_op opmod (pct (crint) T.f_int (pa_cons (Ta.pv 3) pa_nil)) pe_int))) pa_nil))))))))))
/-! _law_letters -/
abbrev s_l_letters : Stmt := top 29
theorem sc_l_letters : FnScope ["_law_box_here", "_law_count", "_law_pool", "_law_menu", "_law_letters_here", "_law_k", "_law_letter"] ["_law_box_here", "_law_count"] (defScope s_l_letters) := ⟨rfl, rfl, rfl, by decide +kernel, rfl, by decide +kernel, by decide +kernel⟩
structure sp_l_letters (K : PySem.W.Frag) (vs : List V) (H : Hp) (Q : VK) (E : XK) : Prop where
  out : ∃ (p q : Addr) (n a b : Int) (cs : List Int), vs = [.ref p, .int n] ∧ H p = some (bx a b q) ∧ H q = some (cel cs) ∧ okc cs ∧ 0 < n ∧ n ≤ 4 ∧ ∀ (l : List Nat) a' b' H', badL l = false → (l.length : Int) = n → Kp [p] H H' → H' p = some (bx a' b' q) → Q (.str (S l)) H'
theorem i_l_letters {K : PySem.W.Frag} {p q : Addr} {n a b : Int} {cs : List Int} {H : Hp} {Q : VK} {E : XK} (hp : H p = some (bx a b q)) (hq : H q = some (cel cs)) (hc : okc cs) (h0 : 0 < n) (h1 : n ≤ 4) (k : ∀ (l : List Nat) a' b' H', badL l = false → (l.length : Int) = n → Kp [p] H H' → H' p = some (bx a' b' q) → Q (.str (S l)) H') : sp_l_letters K [.ref p, .int n] H Q E := by
  exact ⟨⟨p, q, n, a, b, cs, rfl, hp, hq, hc, h0, h1, k⟩⟩

def b_l_letters_1 (K : PySem.W.Frag) (W : WX) : TS :=
  (tSeq (tAsg (tIx 2 (tCal (sp_l_take K) [] W (tCons (tV 0) (tCons (tOp (zIxP K) (tLst (tCons (tCB (zLen K) (tCons (tV 2) tNil)) (tCons (tOp zSub (tC (.int 6)) (tV 5)) tNil))) (tV 3)) tNil)))) (gName 6))
  (tSeq (tAsg (tRpE 2 6) (gName 2))
  (tAsg (tOp zAdd (tV 4) (tV 6)) (gName 4))))
def t_l_letters (K : PySem.W.Frag) (W : WX) : TS :=
  (tSeq (tAsg (tC (.str (S [120, 119, 109, 107, 99, 112, 97, 98, 100, 101, 102, 103, 104, 105, 106, 108, 110, 111, 113, 114, 115, 116, 117, 118, 121, 122]))) (gName 2))
  (tSeq (tAsg (tCal (sp_l_take K) [] W (tCons (tV 0) (tCons (tC (.int 2)) tNil))) (gName 3))
  (tSeq (tAsg (tC (.str (S []))) (gName 4))
  (tSeq (tForP (jR1 (tCons (tV 1) tNil)) (gName 5) (b_l_letters_1 K W))
  (tRet (tV 4))))))
theorem tm_l_letters {P : Program} {w : World} {K : PySem.W.Frag} {mg : Str → Option Value} {base : Heap} {f : Addr} {cdv : Value} {A : Around} {outer : List Env} {s : Shared} {H : Hp} {E : XK} (T : Tx K mg) (G_l_take : Fn P w K mg base "_law_take" 5 [] (sp_l_take K)) (hr : Room 6 (A.deeper (envOfC "_law_letters" (defScope s_l_letters) s.heap.objs.size f cdv))) :
    PSs (cxOf (L2.CX P w) P w K mg base ["_law_box_here", "_law_count", "_law_pool", "_law_menu", "_law_letters_here", "_law_k", "_law_letter"] "_law_letters" (defScope s_l_letters) f cdv A outer s H E) (defBody s_l_letters) (t_l_letters K (WD E)) :=
  (pss_cons (pset 2 sc_l_letters.nd (pstr [120, 119, 109, 107, 99, 112, 97, 98, 100, 101, 102, 103, 104, 105, 106, 108, 110, 111, 113, 114, 115, 116, 117, 118, 121, 122]))
  (pss_cons (pset 3 sc_l_letters.nd (pcall G_l_take (hr.mono (by decide)) takesD (pa_cons (Ta.pv 0) (pa_cons pe_int pa_nil))))
  (pss_cons (pset 4 sc_l_letters.nd (pstr []))
  (pss_cons (psfor ownD rfl (pjr1 T.f_range (pa_cons (Ta.pv 1) pa_nil)) (pgn 5 sc_l_letters.nd) (pssk_ix (ix := 6) (il := 2) sc_l_letters.nd (pen_call G_l_take (hr.mono (by decide)) takesD (pan_tl (Ta.pv 0) (pan_hd (pen_ix (pen_lst (pan_tl (pcb (crlen) T.f_len (pa_cons (Ta.pv 2) pa_nil)) (pan_hd (pen_op opsub pen_int (Ta.pv 5)) pa_nil))) (Ta.pv 3)) pa_nil)))
  (pssk_set (i := 2) sc_l_letters.nd (pek_replE (ix := 2) (io := 6))
  (pss_one (pset 4 sc_l_letters.nd (pe_op opadd (Ta.pv 4) (Ta.pv 6)))))))
  (pss_one (ps_ret (Ta.pv 4)))))))
/-! _law_vowels -/
abbrev s_l_vowels : Stmt := top 30
theorem sc_l_vowels : FnScope ["_law_box_here", "_law_letters_here", "_law_vowels_here", "_law_letter"] ["_law_box_here", "_law_letters_here"] (defScope s_l_vowels) := ⟨rfl, rfl, rfl, by decide +kernel, rfl, by decide +kernel, by decide +kernel⟩
structure sp_l_vowels (K : PySem.W.Frag) (vs : List V) (H : Hp) (Q : VK) (E : XK) : Prop where
  out : ∃ (p q : Addr) (a b : Int) (cs : List Int) (l : List Nat), vs = [.ref p, .str (S l)] ∧ H p = some (bx a b q) ∧ H q = some (cel cs) ∧ okc cs ∧ badL l = false ∧ ∀ (v : List Nat) a' b', good l v → Q (.str (S v)) (upd H p (bx a' b' q))
theorem i_l_vowels {K : PySem.W.Frag} {p q : Addr} {a b : Int} {cs : List Int} {l : List Nat} {H : Hp} {Q : VK} {E : XK} (hp : H p = some (bx a b q)) (hq : H q = some (cel cs)) (hc : okc cs) (hl : badL l = false) (k : ∀ (v : List Nat) a' b', good l v → Q (.str (S v)) (upd H p (bx a' b' q))) : sp_l_vowels K [.ref p, .str (S l)] H Q E := by
  exact ⟨⟨p, q, a, b, cs, l, rfl, hp, hq, hc, hl, k⟩⟩

def b_l_vowels_1 (K : PySem.W.Frag) (W : WX) : TS :=
  (tIfP (tTst (tOp (zEqP K) (tCal (sp_l_take K) [] W (tCons (tV 0) (tCons (tC (.int 3)) tNil))) (tC (.int 1)))) (tAsg (tOp zAdd (tV 3) (tV 2)) (gName 2)) tNext)
def t_l_vowels (K : PySem.W.Frag) (W : WX) : TS :=
  (tSeq (tAsg (tC (.str (S []))) (gName 2))
  (tSeq (tForP (jA K (tV 1)) (gName 3) (b_l_vowels_1 K W))
  (tRet (tV 2))))
theorem tm_l_vowels {P : Program} {w : World} {K : PySem.W.Frag} {mg : Str → Option Value} {base : Heap} {f : Addr} {cdv : Value} {A : Around} {outer : List Env} {s : Shared} {H : Hp} {E : XK} (T : Tx K mg) (G_l_take : Fn P w K mg base "_law_take" 5 [] (sp_l_take K)) (hr : Room 6 (A.deeper (envOfC "_law_vowels" (defScope s_l_vowels) s.heap.objs.size f cdv))) :
    PSs (cxOf (L2.CX P w) P w K mg base ["_law_box_here", "_law_letters_here", "_law_vowels_here", "_law_letter"] "_law_vowels" (defScope s_l_vowels) f cdv A outer s H E) (defBody s_l_vowels) (t_l_vowels K (WD E)) :=
  (pss_cons (pset 2 sc_l_vowels.nd (pstr []))
  (pss_cons (psfor ownD rfl (pja (Ta.pv 1)) (pgn 3 sc_l_vowels.nd) (pss_one (psif (ptcmp (opeq hr.units) (pcall G_l_take (hr.mono (by decide)) takesD (pa_cons (Ta.pv 0) (pa_cons pe_int pa_nil))) pe_int) (pss_one (pset 2 sc_l_vowels.nd (pe_op opadd (Ta.pv 3) (Ta.pv 2)))) pss_nil)))
  (pss_one (ps_ret (Ta.pv 2)))))
/-! _law_char -/
abbrev s_l_char : Stmt := top 34
theorem sc_l_char : FnScope ["_law_box_here", "_law_menu", "_law_chars"] ["_law_box_here"] (defScope s_l_char) := ⟨rfl, rfl, rfl, by decide +kernel, rfl, by decide +kernel, by decide +kernel⟩
structure sp_l_char (K : PySem.W.Frag) (vs : List V) (H : Hp) (Q : VK) (E : XK) : Prop where
  out : ∃ (p q : Addr) (a b : Int) (cs : List Int), vs = [.ref p] ∧ (H p = some (bx a b q)) ∧ (H q = some (cel cs)) ∧ (okc cs) ∧ (∀ c a' b', c < 128 → Q (.str (S [c])) (upd H p (bx a' b' q)))
theorem i_l_char {K : PySem.W.Frag} {p q : Addr} {a b : Int} {cs : List Int} {H : Hp} {Q : VK} {E : XK} (hp : H p = some (bx a b q)) (hq : H q = some (cel cs)) (hc : okc cs) (k : ∀ c a' b', c < 128 → Q (.str (S [c])) (upd H p (bx a' b' q))) : sp_l_char K [.ref p] H Q E := by
  exact ⟨⟨p, q, a, b, cs, rfl, hp, hq, hc, k⟩⟩
theorem d_l_char {K : PySem.W.Frag} {vs : List V} {H : Hp} {Q : VK} {E : XK} (h : sp_l_char K vs H Q E) : sp_l_char K vs H Q E := h


def t_l_char (K : PySem.W.Frag) (W : WX) : TS :=
  (tSeq (tIfP (tTst (tOp (zEqP K) (tCal (sp_l_take K) [] W (tCons (tV 0) (tCons (tC (.int 2)) tNil))) (tC (.int 1)))) (tSeq (tAsg (tC (.str (S [40, 41, 91, 124, 93, 39, 61, 47, 62, 120, 45]))) (gName 1))
  (tRet (tOp (zIxP K) (tV 1) (tCal (sp_l_take K) [] W (tCons (tV 0) (tCons (tCB (zLen K) (tCons (tV 1) tNil)) tNil)))))) tNext)
  (tSeq (tAsg (tC (.str (S [32, 33, 34, 35, 36, 38, 39, 40, 41, 42, 43, 44, 45, 46, 47, 48, 49, 50, 51, 52, 53, 54, 55, 56, 57, 58, 59, 60, 61, 62, 63, 64, 65, 66, 67, 68, 69, 70, 71, 72, 73, 74, 75, 76, 77, 78, 79, 80, 81, 82, 83, 84, 85, 86, 87, 88, 89, 90, 91, 92, 93, 94, 95, 96]))) (gName 2))
  (tSeq (tAsg (tOp zAdd (tV 2) (tC (.str (S [97, 98, 99, 100, 101, 102, 103, 104, 105, 106, 107, 108, 109, 110, 111, 112, 113, 114, 115, 116, 117, 118, 119, 120, 121, 122, 123, 124, 125, 126])))) (gName 2))
  (tRet (tOp (zIxP K) (tV 2) (tCal (sp_l_take K) [] W (tCons (tV 0) (tCons (tCB (zLen K) (tCons (tV 2) tNil)) tNil))))))))
theorem tm_l_char {P : Program} {w : World} {K : PySem.W.Frag} {mg : Str → Option Value} {base : Heap} {f : Addr} {cdv : Value} {A : Around} {outer : List Env} {s : Shared} {H : Hp} {E : XK} (T : Tx K mg) (G_l_take : Fn P w K mg base "_law_take" 5 [] (sp_l_take K)) (hr : Room 6 (A.deeper (envOfC "_law_char" (defScope s_l_char) s.heap.objs.size f cdv))) :
    PSs (cxOf (L2.CX P w) P w K mg base ["_law_box_here", "_law_menu", "_law_chars"] "_law_char" (defScope s_l_char) f cdv A outer s H E) (defBody s_l_char) (t_l_char K (WD E)) :=
  (pss_cons (psif (ptcmp (opeq hr.units) (pcall G_l_take (hr.mono (by decide)) takesD (pa_cons (Ta.pv 0) (pa_cons pe_int pa_nil))) pe_int) (pss_cons (pset 1 sc_l_char.nd (pstr [40, 41, 91, 124, 93, 39, 61, 47, 62, 120, 45]))
  (pss_one (ps_ret (pix (Ta.pv 1) (pcall G_l_take (hr.mono (by decide)) takesD (pa_cons (Ta.pv 0) (pa_cons (pcb (crlen) T.f_len (pa_cons (Ta.pv 1) pa_nil)) pa_nil))))))) pss_nil)
  (pss_cons (pset 2 sc_l_char.nd (pstr [32, 33, 34, 35, 36, 38, 39, 40, 41, 42, 43, 44, 45, 46, 47, 48, 49, 50, 51, 52, 53, 54, 55, 56, 57, 58, 59, 60, 61, 62, 63, 64, 65, 66, 67, 68, 69, 70, 71, 72, 73, 74, 75, 76, 77, 78, 79, 80, 81, 82, 83, 84, 85, 86, 87, 88, 89, 90, 91, 92, 93, 94, 95, 96]))
  (pss_cons (pset 2 sc_l_char.nd (pe_op opadd (Ta.pv 2) (pstr [97, 98, 99, 100, 101, 102, 103, 104, 105, 106, 107, 108, 109, 110, 111, 112, 113, 114, 115, 116, 117, 118, 119, 120, 121, 122, 123, 124, 125, 126])))
  (pss_one (ps_ret (pix (Ta.pv 2) (pcall G_l_take (hr.mono (by decide)) takesD (pa_cons (Ta.pv 0) (pa_cons (pcb (crlen) T.f_len (pa_cons (Ta.pv 2) pa_nil)) pa_nil)))))))))
/-! _law_bent -/
abbrev s_l_bent : Stmt := top 35
theorem sc_l_bent : FnScope ["_law_box_here", "_law_notation_here", "_law_way", "_law_at"] ["_law_box_here", "_law_notation_here"] (defScope s_l_bent) := ⟨rfl, rfl, rfl, by decide +kernel, rfl, by decide +kernel, by decide +kernel⟩
structure sp_l_bent (K : PySem.W.Frag) (vs : List V) (H : Hp) (Q : VK) (E : XK) : Prop where
  out : ∃ (p q : Addr) (a b : Int) (cs : List Int) (n : List Nat), vs = [.ref p, .str (S n)] ∧ (H p = some (bx a b q)) ∧ (H q = some (cel cs)) ∧ (okc cs) ∧ (low n ∧ n.length < 10000) ∧ (∀ n' a' b', low n' → n'.length ≤ 4 * n.length + 1 → Q (.str (S n')) (upd H p (bx a' b' q)))
theorem i_l_bent {K : PySem.W.Frag} {p q : Addr} {a b : Int} {cs : List Int} {n : List Nat} {H : Hp} {Q : VK} {E : XK} (hp : H p = some (bx a b q)) (hq : H q = some (cel cs)) (hc : okc cs) (hn : low n ∧ n.length < 10000) (k : ∀ n' a' b', low n' → n'.length ≤ 4 * n.length + 1 → Q (.str (S n')) (upd H p (bx a' b' q))) : sp_l_bent K [.ref p, .str (S n)] H Q E := by
  exact ⟨⟨p, q, a, b, cs, n, rfl, hp, hq, hc, hn, k⟩⟩
theorem d_l_bent {K : PySem.W.Frag} {vs : List V} {H : Hp} {Q : VK} {E : XK} (h : sp_l_bent K vs H Q E) : sp_l_bent K vs H Q E := h


def t_l_bent (K : PySem.W.Frag) (W : WX) : TS :=
  (tSeq (tAsg (tCal (sp_l_take K) [] W (tCons (tV 0) (tCons (tC (.int 9)) tNil))) (gName 2))
  (tSeq (tAsg (tCal (sp_l_take K) [] W (tCons (tV 0) (tCons (tOp zAdd (tCB (zLen K) (tCons (tV 1) tNil)) (tC (.int 1))) tNil))) (gName 3))
  (tSeq (tIfP (tTst (tOp (zEqP K) (tV 2) (tC (.int 8)))) (tRet (tOp zAdd (tOp zAdd (tSl (zSlP K) (tV 1) tNoPart (tPrt (tV 3))) (tC (.str (S [10])))) (tSl (zSlP K) (tV 1) (tPrt (tV 3)) tNoPart))) tNext)
  (tSeq (tIfP (tTst (tOp (zEqP K) (tV 2) (tC (.int 3)))) (tRet (tOp zAdd (tOp zAdd (tSl (zSlP K) (tV 1) tNoPart (tPrt (tV 3))) (tCal (sp_l_char K) [] W (tCons (tV 0) tNil))) (tSl (zSlP K) (tV 1) (tPrt (tV 3)) tNoPart))) tNext)
  (tSeq (tIfP (tTst (tOp (zEqP K) (tV 2) (tC (.int 4)))) (tRet (tOp zAdd (tOp zAdd (tSl (zSlP K) (tV 1) tNoPart (tPrt (tV 3))) (tCal (sp_l_char K) [] W (tCons (tV 0) tNil))) (tSl (zSlP K) (tV 1) (tPrt (tOp zAdd (tV 3) (tC (.int 1)))) tNoPart))) tNext)
  (tSeq (tIfP (tTst (tOp (zEqP K) (tV 2) (tC (.int 5)))) (tRet (tOp zAdd (tSl (zSlP K) (tV 1) tNoPart (tPrt (tV 3))) (tSl (zSlP K) (tV 1) (tPrt (tOp zAdd (tV 3) (tC (.int 1)))) tNoPart))) tNext)
  (tSeq (tIfP (tTst (tOp (zEqP K) (tV 2) (tC (.int 6)))) (tRet (tSl (zSlP K) (tV 1) tNoPart (tPrt (tV 3)))) tNext)
  (tSeq (tIfP (tTst (tOp (zEqP K) (tV 2) (tC (.int 7)))) (tRet (tOp zAdd (tOp zAdd (tOp zAdd (tSl (zSlP K) (tV 1) tNoPart (tPrt (tV 3))) (tSl (zSlP K) (tV 1) (tPrt (tOp zAdd (tV 3) (tC (.int 1)))) (tPrt (tOp zAdd (tV 3) (tC (.int 2)))))) (tSl (zSlP K) (tV 1) (tPrt (tV 3)) (tPrt (tOp zAdd (tV 3) (tC (.int 1)))))) (tSl (zSlP K) (tV 1) (tPrt (tOp zAdd (tV 3) (tC (.int 2)))) tNoPart))) tNext)
  (tRet (tV 1))))))))))
theorem tm_l_bent {P : Program} {w : World} {K : PySem.W.Frag} {mg : Str → Option Value} {base : Heap} {f : Addr} {cdv : Value} {A : Around} {outer : List Env} {s : Shared} {H : Hp} {E : XK} (T : Tx K mg) (G_l_char : Fn P w K mg base "_law_char" 7 [] (sp_l_char K)) (G_l_take : Fn P w K mg base "_law_take" 5 [] (sp_l_take K)) (hr : Room 8 (A.deeper (envOfC "_law_bent" (defScope s_l_bent) s.heap.objs.size f cdv))) :
    PSs (cxOf (L2.CX P w) P w K mg base ["_law_box_here", "_law_notation_here", "_law_way", "_law_at"] "_law_bent" (defScope s_l_bent) f cdv A outer s H E) (defBody s_l_bent) (t_l_bent K (WD E)) :=
  (pss_cons (pset 2 sc_l_bent.nd (pcall G_l_take (hr.mono (by decide)) takesD (pa_cons (Ta.pv 0) (pa_cons pe_int pa_nil))))
  (pss_cons (pset 3 sc_l_bent.nd (pcall G_l_take (hr.mono (by decide)) takesD (pa_cons (Ta.pv 0) (pa_cons (pe_op opadd (pcb (crlen) T.f_len (pa_cons (Ta.pv 1) pa_nil)) pe_int) pa_nil))))
  (pss_cons (psif (ptcmp (opeq hr.units) (Ta.pv 2) pe_int) (pss_one (ps_ret (pe_op opadd (pe_op opadd (psl (Ta.pv 1) po_none (posome (Ta.pv 3))) (pstr [10])) (psl (Ta.pv 1) (posome (Ta.pv 3)) po_none)))) pss_nil)
  (pss_cons (psif (ptcmp (opeq hr.units) (Ta.pv 2) pe_int) (pss_one (ps_ret (pe_op opadd (pe_op opadd (psl (Ta.pv 1) po_none (posome (Ta.pv 3))) (pcall G_l_char (hr.mono (by decide)) takesD (pa_cons (Ta.pv 0) pa_nil))) (psl (Ta.pv 1) (posome (Ta.pv 3)) po_none)))) pss_nil)
  (pss_cons (psif (ptcmp (opeq hr.units) (Ta.pv 2) pe_int) (pss_one (ps_ret (pe_op opadd (pe_op opadd (psl (Ta.pv 1) po_none (posome (Ta.pv 3))) (pcall G_l_char (hr.mono (by decide)) takesD (pa_cons (Ta.pv 0) pa_nil))) (psl (Ta.pv 1) (posome (pe_op opadd (Ta.pv 3) pe_int)) po_none)))) pss_nil)
  (pss_cons (psif (ptcmp (opeq hr.units) (Ta.pv 2) pe_int) (pss_one (ps_ret (pe_op opadd (psl (Ta.pv 1) po_none (posome (Ta.pv 3))) (psl (Ta.pv 1) (posome (pe_op opadd (Ta.pv 3) pe_int)) po_none)))) pss_nil)
  (pss_cons (psif (ptcmp (opeq hr.units) (Ta.pv 2) pe_int) (pss_one (ps_ret (psl (Ta.pv 1) po_none (posome (Ta.pv 3))))) pss_nil)
  (pss_cons (psif (ptcmp (opeq hr.units) (Ta.pv 2) pe_int) (pss_one (ps_ret (pe_op opadd (pe_op opadd (pe_op opadd (psl (Ta.pv 1) po_none (posome (Ta.pv 3))) (psl (Ta.pv 1) (posome (pe_op opadd (Ta.pv 3) pe_int)) (posome (pe_op opadd (Ta.pv 3) pe_int)))) (psl (Ta.pv 1) (posome (Ta.pv 3)) (posome (pe_op opadd (Ta.pv 3) pe_int)))) (psl (Ta.pv 1) (posome (pe_op opadd (Ta.pv 3) pe_int)) po_none)))) pss_nil)
  (pss_one (ps_ret (Ta.pv 1)))))))))))
/-! _law_close -/
abbrev s_l_close : Stmt := top 32
theorem sc_l_close : FnScope ["_law_tokens_here", "_law_groups", "_law_top"] ["_law_tokens_here", "_law_groups"] (defScope s_l_close) := ⟨rfl, rfl, rfl, by decide +kernel, rfl, by decide +kernel, by decide +kernel⟩
structure sp_l_close (K : PySem.W.Frag) (vs : List V) (H : Hp) (Q : VK) (E : XK) : Prop where
  out : ∃ (tp gp : Addr) (ts gs : List (List Nat)) (g : List Nat), vs = [.ref tp, .ref gp] ∧ (H tp = some (tks ts)) ∧ (H gp = some (tks (gs ++ [g]))) ∧ (tp ≠ gp) ∧ (ts.length < 1000) ∧ (gs.length < 1000) ∧ (∀ t gs' H', lows [t] → gs'.length ≤ gs.length + 1 → Kp [tp, gp] H H' → H' tp = some (tks (ts ++ [t])) → H' gp = some (tks gs') → Q .non H')
theorem i_l_close {K : PySem.W.Frag} {tp gp : Addr} {ts gs : List (List Nat)} {g : List Nat} {H : Hp} {Q : VK} {E : XK} (hT : H tp = some (tks ts)) (hG : H gp = some (tks (gs ++ [g]))) (hn : tp ≠ gp) (hl : ts.length < 1000) (hl2 : gs.length < 1000) (k : ∀ t gs' H', lows [t] → gs'.length ≤ gs.length + 1 → Kp [tp, gp] H H' → H' tp = some (tks (ts ++ [t])) → H' gp = some (tks gs') → Q .non H') : sp_l_close K [.ref tp, .ref gp] H Q E := by
  exact ⟨⟨tp, gp, ts, gs, g, rfl, hT, hG, hn, hl, hl2, k⟩⟩
theorem d_l_close {K : PySem.W.Frag} {vs : List V} {H : Hp} {Q : VK} {E : XK} (h : sp_l_close K vs H Q E) : sp_l_close K vs H Q E := h


def t_l_close (K : PySem.W.Frag) (W : WX) : TS :=
  (tSeq (tAsg (tLM0 zPopP (tV 1)) (gName 2))
  (tIfP (tTst (tOp (zEqP K) (tV 2) (tC (.str (S [91]))))) (tSeq (tDrop (tLM zAppP (tV 0) (tCons (tC (.str (S [124]))) tNil)))
  (tDrop (tLM zAppP (tV 1) (tCons (tC (.str (S [124]))) tNil)))) (tIfP (tTst (tOp (zEqP K) (tV 2) (tC (.str (S [124]))))) (tDrop (tLM zAppP (tV 0) (tCons (tC (.str (S [93]))) tNil))) (tDrop (tLM zAppP (tV 0) (tCons (tC (.str (S [41]))) tNil))))))
theorem tm_l_close {P : Program} {w : World} {K : PySem.W.Frag} {mg : Str → Option Value} {base : Heap} {f : Addr} {cdv : Value} {A : Around} {outer : List Env} {s : Shared} {H : Hp} {E : XK} (T : Tx K mg) (hr : Room 4 (A.deeper (envOfC "_law_close" (defScope s_l_close) s.heap.objs.size f cdv))) :
    PSs (cxOf (L2.CX P w) P w K mg base ["_law_tokens_here", "_law_groups", "_law_top"] "_law_close" (defScope s_l_close) f cdv A outer s H E) (defBody s_l_close) (t_l_close K (WD E)) :=
  (pss_cons (pset 2 sc_l_close.nd (plm0 PySem.F.slot_list_pop PySem.F.type_list_pop mtpop (Ta.pv 1)))
  (pss_one (psif (ptcmp (opeq hr.units) (Ta.pv 2) (pstr [91])) (pss_cons (ps_expr (plm PySem.F.slot_list_append PySem.F.type_list_append mtapp (Ta.pv 0) (pa_cons (pstr [124]) pa_nil)))
  (pss_one (ps_expr (plm PySem.F.slot_list_append PySem.F.type_list_append mtapp (Ta.pv 1) (pa_cons (pstr [124]) pa_nil))))) (pss_one (psif (ptcmp (opeq hr.units) (Ta.pv 2) (pstr [124])) (pss_one (ps_expr (plm PySem.F.slot_list_append PySem.F.type_list_append mtapp (Ta.pv 0) (pa_cons (pstr [93]) pa_nil)))) (pss_one (ps_expr (plm PySem.F.slot_list_append PySem.F.type_list_append mtapp (Ta.pv 0) (pa_cons (pstr [41]) pa_nil)))))))))
/-! _law_key -/
abbrev s_l_key : Stmt := top 31
theorem sc_l_key : FnScope ["_law_box_here", "_law_signs", "_law_menu", "_law_head"] ["_law_box_here", "_law_signs", "_law_menu"] (defScope s_l_key) := ⟨rfl, rfl, rfl, by decide +kernel, rfl, by decide +kernel, by decide +kernel⟩
structure sp_l_key (K : PySem.W.Frag) (vs : List V) (H : Hp) (Q : VK) (E : XK) : Prop where
  out : ∃ (p q : Addr) (a b : Int) (cs : List Int) (g m : List Nat), vs = [.ref p, .str (S g), .str (S m)] ∧ (H p = some (bx a b q)) ∧ (H q = some (cel cs)) ∧ (okc cs) ∧ (low g ∧ 0 < g.length ∧ g.length ≤ 5) ∧ (low m ∧ 0 < m.length ∧ m.length < 1000) ∧ (∀ t a' b', low t → t.length ≤ 2 → Q (.str (S t)) (upd H p (bx a' b' q)))
theorem i_l_key {K : PySem.W.Frag} {p q : Addr} {a b : Int} {cs : List Int} {g m : List Nat} {H : Hp} {Q : VK} {E : XK} (hp : H p = some (bx a b q)) (hq : H q = some (cel cs)) (hc : okc cs) (hg : low g ∧ 0 < g.length ∧ g.length ≤ 5) (hm : low m ∧ 0 < m.length ∧ m.length < 1000) (k : ∀ t a' b', low t → t.length ≤ 2 → Q (.str (S t)) (upd H p (bx a' b' q))) : sp_l_key K [.ref p, .str (S g), .str (S m)] H Q E := by
  exact ⟨⟨p, q, a, b, cs, g, m, rfl, hp, hq, hc, hg, hm, k⟩⟩
theorem d_l_key {K : PySem.W.Frag} {vs : List V} {H : Hp} {Q : VK} {E : XK} (h : sp_l_key K vs H Q E) : sp_l_key K vs H Q E := h


def t_l_key (K : PySem.W.Frag) (W : WX) : TS :=
  (tSeq (tAsg (tOp (zIxP K) (tV 2) (tCal (sp_l_take K) [] W (tCons (tV 0) (tCons (tCB (zLen K) (tCons (tV 2) tNil)) tNil)))) (gName 3))
  (tSeq (tIfP (tTst (tOp (zInP K) (tV 3) (tC (.str (S [39, 61, 47]))))) (tRet (tOp zAdd (tV 3) (tOp (zIxP K) (tV 1) (tCal (sp_l_take K) [] W (tCons (tV 0) (tCons (tCB (zLen K) (tCons (tV 1) tNil)) tNil)))))) tNext)
  (tRet (tV 3))))
theorem tm_l_key {P : Program} {w : World} {K : PySem.W.Frag} {mg : Str → Option Value} {base : Heap} {f : Addr} {cdv : Value} {A : Around} {outer : List Env} {s : Shared} {H : Hp} {E : XK} (T : Tx K mg) (G_l_take : Fn P w K mg base "_law_take" 5 [] (sp_l_take K)) (hr : Room 6 (A.deeper (envOfC "_law_key" (defScope s_l_key) s.heap.objs.size f cdv))) :
    PSs (cxOf (L2.CX P w) P w K mg base ["_law_box_here", "_law_signs", "_law_menu", "_law_head"] "_law_key" (defScope s_l_key) f cdv A outer s H E) (defBody s_l_key) (t_l_key K (WD E)) :=
  (pss_cons (pset 3 sc_l_key.nd (pix (Ta.pv 2) (pcall G_l_take (hr.mono (by decide)) takesD (pa_cons (Ta.pv 0) (pa_cons (pcb (crlen) T.f_len (pa_cons (Ta.pv 2) pa_nil)) pa_nil)))))
  (pss_cons (psif (ptcmp opin (Ta.pv 3) (pstr [39, 61, 47])) (pss_one (ps_ret (pe_op opadd (Ta.pv 3) (pix (Ta.pv 1) (pcall G_l_take (hr.mono (by decide)) takesD (pa_cons (Ta.pv 0) (pa_cons (pcb (crlen) T.f_len (pa_cons (Ta.pv 1) pa_nil)) pa_nil))))))) pss_nil)
  (pss_one (ps_ret (Ta.pv 3)))))
/-! _law_tokens -/
abbrev s_l_tokens : Stmt := top 33
theorem sc_l_tokens : FnScope ["_law_box_here", "_law_signs", "_law_menu", "_law_cap", "_law_depth", "_law_tokens_here", "_law_groups", "_law_keys_here", "_law_turn", "_law_way", "_law_fresh"] ["_law_box_here", "_law_signs", "_law_menu", "_law_cap", "_law_depth"] (defScope s_l_tokens) := ⟨rfl, rfl, rfl, by decide +kernel, rfl, by decide +kernel, by decide +kernel⟩
structure sp_l_tokens (K : PySem.W.Frag) (vs : List V) (H : Hp) (Q : VK) (E : XK) : Prop where
  out : ∃ (p q : Addr) (a b : Int) (cs : List Int) (g m : List Nat) (cap : Nat), vs = [.ref p, .str (S g), .str (S m), .int cap, .int 4] ∧ (H p = some (bx a b q)) ∧ (H q = some (cel cs)) ∧ (okc cs) ∧ (low g ∧ 0 < g.length ∧ g.length ≤ 5) ∧ (low m ∧ 0 < m.length ∧ m.length < 1000) ∧ (cap ≤ 30) ∧ (∀ t ts a' b' H', lows ts → ts.length ≤ 2 * cap + 13 → Kp [p] H H' → H' p = some (bx a' b' q) → H t = none → H' t = some (tks ts) → Q (.ref t) H')
theorem i_l_tokens {K : PySem.W.Frag} {p q : Addr} {a b : Int} {cs : List Int} {g m : List Nat} {cap : Nat} {H : Hp} {Q : VK} {E : XK} (hp : H p = some (bx a b q)) (hq : H q = some (cel cs)) (hc : okc cs) (hg : low g ∧ 0 < g.length ∧ g.length ≤ 5) (hm : low m ∧ 0 < m.length ∧ m.length < 1000) (hcap : cap ≤ 30) (k : ∀ t ts a' b' H', lows ts → ts.length ≤ 2 * cap + 13 → Kp [p] H H' → H' p = some (bx a' b' q) → H t = none → H' t = some (tks ts) → Q (.ref t) H') : sp_l_tokens K [.ref p, .str (S g), .str (S m), .int cap, .int 4] H Q E := by
  exact ⟨⟨p, q, a, b, cs, g, m, cap, rfl, hp, hq, hc, hg, hm, hcap, k⟩⟩
theorem d_l_tokens {K : PySem.W.Frag} {vs : List V} {H : Hp} {Q : VK} {E : XK} (h : sp_l_tokens K vs H Q E) : sp_l_tokens K vs H Q E := h


def b_l_tokens_2 (K : PySem.W.Frag) (W : WX) : TS :=
  (tIfP (tTst (tOp zGt (tCB (zLen K) (tCons (tV 6) tNil)) (tC (.int 0)))) (tDrop (tCal (sp_l_close K) [] W (tCons (tV 5) (tCons (tV 6) tNil)))) tNext)
structure b_l_tokens_1_2 (K : PySem.W.Frag) (W : WX) (D : Ends) (σ : L2.St) (H : Hp) : Prop where
  out : (tIfP (tAndP (tTst (tOp (zInP K) (tV 9) (tTup (tCons (tC (.int 7)) (tCons (tC (.int 8)) tNil))))) (tAndP (tTst (tOp zLt (tCB (zLen K) (tCons (tV 6) tNil)) (tV 4))) (tTst (tOp zLt (tV 7) (tV 3))))) (tSeq (tDrop (tLM zAppP (tV 5) (tCons (tOp (zIxP K) (tC (.str (S [40, 91]))) (tOp zSub (tV 9) (tC (.int 7)))) tNil)))
  (tDrop (tLM zAppP (tV 6) (tCons (tOp (zIxP K) (tC (.str (S [40, 91]))) (tOp zSub (tV 9) (tC (.int 7)))) tNil)))) (tIfP (tAndP (tTst (tOp zGt (tV 9) (tC (.int 8)))) (tAndP (tTst (tOp zGt (tCB (zLen K) (tCons (tV 6) tNil)) (tC (.int 0)))) (tNot (tTru K (tV 10))))) (tDrop (tCal (sp_l_close K) [] W (tCons (tV 5) (tCons (tV 6) tNil)))) (tIfP (tTst (tOp zLt (tV 7) (tV 3))) (tSeq (tDrop (tLM zAppP (tV 5) (tCons (tCal (sp_l_key K) [] W (tCons (tV 0) (tCons (tV 1) (tCons (tV 2) tNil)))) tNil)))
  (tAsg (tOp zAdd (tV 7) (tC (.int 1))) (gName 7))) tNext))) D σ H
def b_l_tokens_1 (K : PySem.W.Frag) (W : WX) : TS :=
  (tSeq (tAsg (tCal (sp_l_take K) [] W (tCons (tV 0) (tCons (tC (.int 12)) tNil))) (gName 9))
  (tSeq (tAsg (tAndE K (tOp zGt (tCB (zLen K) (tCons (tV 5) tNil)) (tC (.int 0))) (tOp (zInP K) (tOp (zIxP K) (tV 5) (tUn zNeg (tC (.int 1)))) (tTup (tCons (tC (.str (S [40]))) (tCons (tC (.str (S [91]))) tNil))))) (gName 10))
  (b_l_tokens_1_2 K W)))
structure t_l_tokens_5 (K : PySem.W.Frag) (W : WX) (D : Ends) (σ : L2.St) (H : Hp) : Prop where
  out : (tSeq (tForP (jR1 (tCons (tC (.int 8)) tNil)) (gName 8) (b_l_tokens_2 K W))
  (tRet (tV 5))) D σ H
def t_l_tokens (K : PySem.W.Frag) (W : WX) : TS :=
  (tSeq (tAsg (tLst tNil) (gName 5))
  (tSeq (tAsg (tLst tNil) (gName 6))
  (tSeq (tAsg (tC (.int 0)) (gName 7))
  (tSeq (tForP (jR1 (tCons (tOp zAdd (tOp zMul (tC (.int 2)) (tV 3)) (tC (.int 4))) tNil)) (gName 8) (b_l_tokens_1 K W))
  (tSeq (tIfP (tAndP (tTst (tOp zGt (tCB (zLen K) (tCons (tV 5) tNil)) (tC (.int 0)))) (tTst (tOp (zInP K) (tOp (zIxP K) (tV 5) (tUn zNeg (tC (.int 1)))) (tTup (tCons (tC (.str (S [40]))) (tCons (tC (.str (S [91]))) tNil)))))) (tDrop (tLM zAppP (tV 5) (tCons (tCal (sp_l_key K) [] W (tCons (tV 0) (tCons (tV 1) (tCons (tV 2) tNil)))) tNil))) tNext)
  (t_l_tokens_5 K W))))))
theorem tm_l_tokens {P : Program} {w : World} {K : PySem.W.Frag} {mg : Str → Option Value} {base : Heap} {f : Addr} {cdv : Value} {A : Around} {outer : List Env} {s : Shared} {H : Hp} {E : XK} (T : Tx K mg) (G_l_close : Fn P w K mg base "_law_close" 5 [] (sp_l_close K)) (G_l_key : Fn P w K mg base "_law_key" 7 [] (sp_l_key K)) (G_l_take : Fn P w K mg base "_law_take" 5 [] (sp_l_take K)) (hr : Room 8 (A.deeper (envOfC "_law_tokens" (defScope s_l_tokens) s.heap.objs.size f cdv))) :
    PSs (cxOf (L2.CX P w) P w K mg base ["_law_box_here", "_law_signs", "_law_menu", "_law_cap", "_law_depth", "_law_tokens_here", "_law_groups", "_law_keys_here", "_law_turn", "_law_way", "_law_fresh"] "_law_tokens" (defScope s_l_tokens) f cdv A outer s H E) (defBody s_l_tokens) (t_l_tokens K (WD E)) :=
  (pss_cons (pset 5 sc_l_tokens.nd (pe_lst pa_nil))
  (pss_cons (pset 6 sc_l_tokens.nd (pe_lst pa_nil))
  (pss_cons (pset 7 sc_l_tokens.nd pe_int)
  (pss_cons (psfor ownD rfl (pjr1 T.f_range (pa_cons (pe_op opadd (pe_op opmul pe_int (Ta.pv 3)) pe_int) pa_nil)) (pgn 8 sc_l_tokens.nd) (pss_cons (pset 9 sc_l_tokens.nd (pcall G_l_take (hr.mono (by decide)) takesD (pa_cons (Ta.pv 0) (pa_cons pe_int pa_nil))))
  (pss_cons (pset 10 sc_l_tokens.nd (peand (pe_cmpR opgt (pcb (crlen) T.f_len (pa_cons (Ta.pv 5) pa_nil)) pe_int rfl) (pe_one (pe_cmpR opin (pix (Ta.pv 5) (pe_un unneg pe_int)) (pe_tup (pa_cons (pstr [40]) (pa_cons (pstr [91]) pa_nil))) rfl))))
  (pss_imp (pss_one (psif (PW.pt (pwand (ptcmp opin (Ta.pv 9) (pe_tup (pa_cons pe_int (pa_cons pe_int pa_nil)))) (pwand (ptcmp oplt (pcb (crlen) T.f_len (pa_cons (Ta.pv 6) pa_nil)) (Ta.pv 4)) (pw_and1 (ptcmp oplt (Ta.pv 7) (Ta.pv 3)))))) (pss_cons (ps_expr (plm PySem.F.slot_list_append PySem.F.type_list_append mtapp (Ta.pv 5) (pa_cons (pix (pstr [40, 91]) (pe_op opsub (Ta.pv 9) pe_int)) pa_nil)))
  (pss_one (ps_expr (plm PySem.F.slot_list_append PySem.F.type_list_append mtapp (Ta.pv 6) (pa_cons (pix (pstr [40, 91]) (pe_op opsub (Ta.pv 9) pe_int)) pa_nil))))) (pss_one (psif (PW.pt (pwand (ptcmp opgt (Ta.pv 9) pe_int) (pwand (ptcmp opgt (pcb (crlen) T.f_len (pa_cons (Ta.pv 6) pa_nil)) pe_int) (pw_and1 (pt_not (ptru (Ta.pv 10))))))) (pss_one (ps_expr (pcall G_l_close (hr.mono (by decide)) takesD (pa_cons (Ta.pv 5) (pa_cons (Ta.pv 6) pa_nil))))) (pss_one (psif (ptcmp oplt (Ta.pv 7) (Ta.pv 3)) (pss_cons (ps_expr (plm PySem.F.slot_list_append PySem.F.type_list_append mtapp (Ta.pv 5) (pa_cons (pcall G_l_key (hr.mono (by decide)) takesD (pa_cons (Ta.pv 0) (pa_cons (Ta.pv 1) (pa_cons (Ta.pv 2) pa_nil)))) pa_nil)))
  (pss_one (pset 7 sc_l_tokens.nd (pe_op opadd (Ta.pv 7) pe_int)))) pss_nil)))))) fun _ _ _ h => h.out))))
  (pss_cons (psif (PW.pt (pwand (ptcmp opgt (pcb (crlen) T.f_len (pa_cons (Ta.pv 5) pa_nil)) pe_int) (pw_and1 (ptcmp opin (pix (Ta.pv 5) (pe_un unneg pe_int)) (pe_tup (pa_cons (pstr [40]) (pa_cons (pstr [91]) pa_nil))))))) (pss_one (ps_expr (plm PySem.F.slot_list_append PySem.F.type_list_append mtapp (Ta.pv 5) (pa_cons (pcall G_l_key (hr.mono (by decide)) takesD (pa_cons (Ta.pv 0) (pa_cons (Ta.pv 1) (pa_cons (Ta.pv 2) pa_nil)))) pa_nil)))) pss_nil)
  (pss_imp (pss_cons (psfor ownD rfl (pjr1 T.f_range (pa_cons pe_int pa_nil)) (pgn 8 sc_l_tokens.nd) (pss_one (psif (ptcmp opgt (pcb (crlen) T.f_len (pa_cons (Ta.pv 6) pa_nil)) pe_int) (pss_one (ps_expr (pcall G_l_close (hr.mono (by decide)) takesD (pa_cons (Ta.pv 5) (pa_cons (Ta.pv 6) pa_nil))))) pss_nil)))
  (pss_one (ps_ret (Ta.pv 5)))) fun _ _ _ h => h.out))))))
/-! _law_notation -/
abbrev s_l_notation : Stmt := top 36
theorem sc_l_notation : FnScope ["_law_box_here", "_law_signs", "_law_menu", "_law_cap", "_law_tokens_here", "_law_keys_here", "_law_token", "_law_k", "_law_turn", "_law_way", "_law_notation_here"] ["_law_box_here", "_law_signs"] (defScope s_l_notation) := ⟨rfl, rfl, rfl, by decide +kernel, rfl, by decide +kernel, by decide +kernel⟩
structure sp_l_notation (K : PySem.W.Frag) (vs : List V) (H : Hp) (Q : VK) (E : XK) : Prop where
  out : ∃ (p q : Addr) (a b : Int) (cs : List Int) (g : List Nat), vs = [.ref p, .str (S g)] ∧ (H p = some (bx a b q)) ∧ (H q = some (cel cs)) ∧ (okc cs) ∧ (low g ∧ 0 < g.length ∧ g.length ≤ 5) ∧ (∀ n a' b' H', low n → n.length < 10000 → Kp [p] H H' → H' p = some (bx a' b' q) → Q (.str (S n)) H')
theorem i_l_notation {K : PySem.W.Frag} {p q : Addr} {a b : Int} {cs : List Int} {g : List Nat} {H : Hp} {Q : VK} {E : XK} (hp : H p = some (bx a b q)) (hq : H q = some (cel cs)) (hc : okc cs) (hg : low g ∧ 0 < g.length ∧ g.length ≤ 5) (k : ∀ n a' b' H', low n → n.length < 10000 → Kp [p] H H' → H' p = some (bx a' b' q) → Q (.str (S n)) H') : sp_l_notation K [.ref p, .str (S g)] H Q E := by
  exact ⟨⟨p, q, a, b, cs, g, rfl, hp, hq, hc, hg, k⟩⟩
theorem d_l_notation {K : PySem.W.Frag} {vs : List V} {H : Hp} {Q : VK} {E : XK} (h : sp_l_notation K vs H Q E) : sp_l_notation K vs H Q E := h


def b_l_notation_2 (K : PySem.W.Frag) (W : WX) : TS :=
  (tAsg (tCal (sp_l_bent K) [] W (tCons (tV 0) (tCons (tV 10) tNil))) (gName 10))
def b_l_notation_1 (K : PySem.W.Frag) (W : WX) : TS :=
  (tIfP (tTru K (tV 4)) (tSeq (tAsg (tCal (sp_l_take K) [] W (tCons (tV 0) (tCons (tC (.int 3)) tNil))) (gName 9))
  (tAsg (tOp zAdd (tOp zAdd (tOp (zIxP K) (tLst (tCons (tLst (tCons (tC (.str (S [40]))) tNil)) (tCons (tLst (tCons (tC (.str (S [91]))) tNil)) (tCons (tLst (tCons (tC (.str (S [91]))) (tCons (tC (.str (S [119]))) (tCons (tC (.str (S [124]))) tNil)))) tNil)))) (tV 9)) (tV 4)) (tOp (zIxP K) (tLst (tCons (tLst (tCons (tC (.str (S [41]))) tNil)) (tCons (tLst (tCons (tC (.str (S [124]))) (tCons (tC (.str (S [93]))) tNil))) (tCons (tLst (tCons (tC (.str (S [93]))) tNil)) tNil)))) (tV 9))) (gName 4))) tNext)
structure t_l_notation_7 (K : PySem.W.Frag) (W : WX) (D : Ends) (σ : L2.St) (H : Hp) : Prop where
  out : (tSeq (tAsg (tSM (zJoin K) (tC (.str (S []))) (tCons (tV 4) tNil)) (gName 10))
  (tSeq (tForP (jR1 (tCons (tCal (sp_l_take K) [] W (tCons (tV 0) (tCons (tC (.int 3)) tNil))) tNil)) (gName 8) (b_l_notation_2 K W))
  (tRet (tV 10)))) D σ H
structure t_l_notation_6 (K : PySem.W.Frag) (W : WX) (D : Ends) (σ : L2.St) (H : Hp) : Prop where
  out : (tSeq (tForP (jR1 (tCons (tOp (zIxP K) (tLst (tCons (tC (.int 0)) (tCons (tC (.int 0)) (tCons (tC (.int 0)) (tCons (tC (.int 1)) (tCons (tC (.int 2)) (tCons (tC (.int 3)) (tCons (tC (.int 4)) tNil)))))))) (tCal (sp_l_take K) [] W (tCons (tV 0) (tCons (tC (.int 7)) tNil)))) tNil)) (gName 8) (b_l_notation_1 K W))
  (t_l_notation_7 K W)) D σ H
structure t_l_notation_3 (K : PySem.W.Frag) (W : WX) (D : Ends) (σ : L2.St) (H : Hp) : Prop where
  out : (tSeq (tAsg (tCal (sp_l_tokens K) [] W (tCons (tV 0) (tCons (tV 1) (tCons (tV 2) (tCons (tV 3) (tCons (tC (.int 4)) tNil)))))) (gName 4))
  (tSeq (tAsg (tCB (zLen K) (tCons (tLcP (jA K (tV 4)) (gName 6) (tTst (tOp (zNinP K) (tV 6) (tTup (tCons (tC (.str (S [40]))) (tCons (tC (.str (S [41]))) (tCons (tC (.str (S [91]))) (tCons (tC (.str (S [124]))) (tCons (tC (.str (S [93]))) tNil)))))))) (tV 6) [6]) tNil)) (gName 5))
  (tSeq (tIfP (tTst (tOp zGt (tV 3) (tC (.int 8)))) (tAsg (tOp zAdd (tV 4) (tLcP (jR1 (tCons (tOp zSub (tV 3) (tV 5)) tNil)) (gName 7) tYes (tCal (sp_l_key K) [] WF (tCons (tV 0) (tCons (tV 1) (tCons (tV 2) tNil)))) [7])) (gName 4)) tNext)
  (t_l_notation_6 K W)))) D σ H
structure t_l_notation_1 (K : PySem.W.Frag) (W : WX) (D : Ends) (σ : L2.St) (H : Hp) : Prop where
  out : (tSeq (tAsg (tOp zMod (tCB (zInt) (tCons (tOp zAdd (tCal (sp_l_take K) [] W (tCons (tV 0) (tCons (tC (.int 9)) tNil))) (tC (.int 3))) tNil)) (tC (.int 9))) (gName 3))
  (tSeq (tIfP (tTst (tOp (zEqP K) (tCal (sp_l_take K) [] W (tCons (tV 0) (tCons (tC (.int 4)) tNil))) (tC (.int 3)))) (tAsg (tOp zAdd (tC (.int 23)) (tCal (sp_l_take K) [] W (tCons (tV 0) (tCons (tC (.int 3)) tNil)))) (gName 3)) tNext)
  (t_l_notation_3 K W))) D σ H
def t_l_notation (K : PySem.W.Frag) (W : WX) : TS :=
  (tSeq (tAsg (tOp (zIxP K) (tLst (tCons (tC (.str (S [62, 120, 39, 61, 47, 119, 94, 109, 107, 99, 112]))) (tCons (tC (.str (S [120, 39]))) (tCons (tC (.str (S [61, 109, 119, 47]))) tNil)))) (tCal (sp_l_take K) [] W (tCons (tV 0) (tCons (tC (.int 3)) tNil)))) (gName 2))
  (t_l_notation_1 K W))
theorem tm_l_notation {P : Program} {w : World} {K : PySem.W.Frag} {mg : Str → Option Value} {base : Heap} {f : Addr} {cdv : Value} {A : Around} {outer : List Env} {s : Shared} {H : Hp} {E : XK} (T : Tx K mg) (G_l_bent : Fn P w K mg base "_law_bent" 9 [] (sp_l_bent K)) (G_l_key : Fn P w K mg base "_law_key" 7 [] (sp_l_key K)) (G_l_take : Fn P w K mg base "_law_take" 5 [] (sp_l_take K)) (G_l_tokens : Fn P w K mg base "_law_tokens" 9 [] (sp_l_tokens K)) (hr : Room 10 (A.deeper (envOfC "_law_notation" (defScope s_l_notation) s.heap.objs.size f cdv))) :
    PSs (cxOf (L2.CX P w) P w K mg base ["_law_box_here", "_law_signs", "_law_menu", "_law_cap", "_law_tokens_here", "_law_keys_here", "_law_token", "_law_k", "_law_turn", "_law_way", "_law_notation_here"] "_law_notation" (defScope s_l_notation) f cdv A outer s H E) (defBody s_l_notation) (t_l_notation K (WD E)) :=
  (pss_cons (pset 2 sc_l_notation.nd (pix (pe_lst (pa_cons (pstr [62, 120, 39, 61, 47, 119, 94, 109, 107, 99, 112]) (pa_cons (pstr [120, 39]) (pa_cons (pstr [61, 109, 119, 47]) pa_nil)))) (pcall G_l_take (hr.mono (by decide)) takesD (pa_cons (Ta.pv 0) (pa_cons pe_int pa_nil)))))
  (pss_imp (pss_cons (pset 3 sc_l_notation.nd (pe_op opmod (pct (crint) T.f_int (pa_cons (pe_op opadd (pcall G_l_take (hr.mono (by decide)) takesD (pa_cons (Ta.pv 0) (pa_cons pe_int pa_nil))) pe_int) pa_nil)) pe_int))
  (pss_cons (psif (ptcmp (opeq hr.units) (pcall G_l_take (hr.mono (by decide)) takesD (pa_cons (Ta.pv 0) (pa_cons pe_int pa_nil))) pe_int) (pss_one (pset 3 sc_l_notation.nd (pe_op opadd pe_int (pcall G_l_take (hr.mono (by decide)) takesD (pa_cons (Ta.pv 0) (pa_cons pe_int pa_nil)))))) pss_nil)
  (pss_imp (pss_cons (pset 4 sc_l_notation.nd (pcall G_l_tokens (hr.mono (by decide)) takesD (pa_cons (Ta.pv 0) (pa_cons (Ta.pv 1) (pa_cons (Ta.pv 2) (pa_cons (Ta.pv 3) (pa_cons pe_int pa_nil)))))))
  (pss_cons (pset 5 sc_l_notation.nd (pcb (crlen) T.f_len (pa_cons (plc [("_law_token", 6)] rfl sc_l_notation.nd (pja (Ta.pv 4)) (by kernel_rfl) (fun _ _ _ _ _ => (pgn 6 sc_l_notation.nd)) (fun _ _ _ _ _ => (pts_one (ptcmp opnin (Ta.pv 6) (pe_tup (pa_cons (pstr [40]) (pa_cons (pstr [41]) (pa_cons (pstr [91]) (pa_cons (pstr [124]) (pa_cons (pstr [93]) pa_nil))))))))) (fun _ _ _ _ _ => (Ta.pv 6))) pa_nil)))
  (pss_cons (psif (ptcmp opgt (Ta.pv 3) pe_int) (pss_one (pset 4 sc_l_notation.nd (pe_op opadd (Ta.pv 4) (plc [("_law_k", 7)] rfl sc_l_notation.nd (pjr1 T.f_range (pa_cons (pe_op opsub (Ta.pv 3) (Ta.pv 5)) pa_nil)) (by kernel_rfl) (fun _ _ _ _ _ => (pgn 7 sc_l_notation.nd)) (fun _ _ _ _ _ => pts_nil) (fun _ _ _ _ _ => (pcall G_l_key (hr.mono (by decide)) takes0 (pa_cons (Ta.pv 0) (pa_cons (Ta.pv 1) (pa_cons (Ta.pv 2) pa_nil))))))))) pss_nil)
  (pss_imp (pss_cons (psfor ownD rfl (pjr1 T.f_range (pa_cons (pix (pe_lst (pa_cons pe_int (pa_cons pe_int (pa_cons pe_int (pa_cons pe_int (pa_cons pe_int (pa_cons pe_int (pa_cons pe_int pa_nil)))))))) (pcall G_l_take (hr.mono (by decide)) takesD (pa_cons (Ta.pv 0) (pa_cons pe_int pa_nil)))) pa_nil)) (pgn 8 sc_l_notation.nd) (pss_one (psif (ptru (Ta.pv 4)) (pss_cons (pset 9 sc_l_notation.nd (pcall G_l_take (hr.mono (by decide)) takesD (pa_cons (Ta.pv 0) (pa_cons pe_int pa_nil))))
  (pss_one (pset 4 sc_l_notation.nd (pe_op opadd (pe_op opadd (pix (pe_lst (pa_cons (pe_lst (pa_cons (pstr [40]) pa_nil)) (pa_cons (pe_lst (pa_cons (pstr [91]) pa_nil)) (pa_cons (pe_lst (pa_cons (pstr [91]) (pa_cons (pstr [119]) (pa_cons (pstr [124]) pa_nil)))) pa_nil)))) (Ta.pv 9)) (Ta.pv 4)) (pix (pe_lst (pa_cons (pe_lst (pa_cons (pstr [41]) pa_nil)) (pa_cons (pe_lst (pa_cons (pstr [124]) (pa_cons (pstr [93]) pa_nil))) (pa_cons (pe_lst (pa_cons (pstr [93]) pa_nil)) pa_nil)))) (Ta.pv 9)))))) pss_nil)))
  (pss_imp (pss_cons (pset 10 sc_l_notation.nd (psm PySem.F.slot_str_join PySem.F.type_str_join mtjoin (pstr []) (pa_cons (Ta.pv 4) pa_nil)))
  (pss_cons (psfor ownD rfl (pjr1 T.f_range (pa_cons (pcall G_l_take (hr.mono (by decide)) takesD (pa_cons (Ta.pv 0) (pa_cons pe_int pa_nil))) pa_nil)) (pgn 8 sc_l_notation.nd) (pss_one (pset 10 sc_l_notation.nd (pcall G_l_bent (hr.mono (by decide)) takesD (pa_cons (Ta.pv 0) (pa_cons (Ta.pv 10) pa_nil))))))
  (pss_one (ps_ret (Ta.pv 10))))) fun _ _ _ h => h.out)) fun _ _ _ h => h.out)))) fun _ _ _ h => h.out))) fun _ _ _ h => h.out))
/-! _law_scan -/
abbrev s_l_scan : Stmt := top 37
theorem sc_l_scan : FnScope ["_law_signs", "_law_notation_here", "_law_groups", "_law_keys_here", "_law_fresh", "_law_place", "_law_char_here", "_law_top"] ["_law_signs", "_law_notation_here"] (defScope s_l_scan) := ⟨rfl, rfl, rfl, by decide +kernel, rfl, by decide +kernel, by decide +kernel⟩
structure sp_l_scan (K : PySem.W.Frag) (vs : List V) (H : Hp) (Q : VK) (E : XK) : Prop where
  out : ∃ (g n : List Nat), vs = [.str (S g), .str (S n)] ∧ ((∀ c ∈ g, ¬ c ∈ OB) ∧ g.length < 1000) ∧ (n.length < 100000) ∧ (∀ r kl ks H', Kp [] H H' → H r = none → H' r = some (.lst [.int (scan g n).1, .ref kl]) → H kl = none → H' kl = some (tks ks) → ((scan g n).1 = -1 → ks = kof (scan g n).2) → Q (.ref r) H')
theorem i_l_scan {K : PySem.W.Frag} {g n : List Nat} {H : Hp} {Q : VK} {E : XK} (hg : (∀ c ∈ g, ¬ c ∈ OB) ∧ g.length < 1000) (hn : n.length < 100000) (k : ∀ r kl ks H', Kp [] H H' → H r = none → H' r = some (.lst [.int (scan g n).1, .ref kl]) → H kl = none → H' kl = some (tks ks) → ((scan g n).1 = -1 → ks = kof (scan g n).2) → Q (.ref r) H') : sp_l_scan K [.str (S g), .str (S n)] H Q E := by
  exact ⟨⟨g, n, rfl, hg, hn, k⟩⟩
theorem d_l_scan {K : PySem.W.Frag} {vs : List V} {H : Hp} {Q : VK} {E : XK} (h : sp_l_scan K vs H Q E) : sp_l_scan K vs H Q E := h


structure b_l_scan_1_2 (K : PySem.W.Frag) (W : WX) (D : Ends) (σ : L2.St) (H : Hp) : Prop where
  out : (tSeq (tIfP (tAndP (tTru K (tV 3)) (tTst (tOp (zInP K) (tOp (zIxP K) (tV 3) (tUn zNeg (tC (.int 1)))) (tTup (tCons (tC (.str (S [39]))) (tCons (tC (.str (S [61]))) (tCons (tC (.str (S [47]))) tNil))))))) (tSeq (tIfP (tTst (tOp (zNinP K) (tV 6) (tV 0))) (tRet (tLst (tCons (tV 5) (tCons (tV 3) tNil)))) tNext)
  (tAsg (tOp zAdd (tOp (zIxP K) (tV 3) (tUn zNeg (tC (.int 1)))) (tV 6)) (gSub (tV 3) (tOp zSub (tCB (zLen K) (tCons (tV 3) tNil)) (tC (.int 1))) zSetP))) (tIfP (tTst (tOp (zInP K) (tV 6) (tC (.str (S [40, 91]))))) (tSeq (tIfP (tTst (tOp (zEqP K) (tCB (zLen K) (tCons (tV 2) tNil)) (tC (.int 4)))) (tRet (tLst (tCons (tV 5) (tCons (tV 3) tNil)))) tNext)
  (tDrop (tLM zAppP (tV 2) (tCons (tV 6) tNil)))) (tIfP (tTst (tOp (zEqP K) (tV 6) (tC (.str (S [41]))))) (tSeq (tIfP (tOrP (tTst (tOp (zNeP K) (tV 7) (tC (.str (S [40]))))) (tTru K (tV 4))) (tRet (tLst (tCons (tV 5) (tCons (tV 3) tNil)))) tNext)
  (tDrop (tLM0 zPopP (tV 2)))) (tIfP (tTst (tOp (zEqP K) (tV 6) (tC (.str (S [124]))))) (tSeq (tIfP (tOrP (tTst (tOp (zNeP K) (tV 7) (tC (.str (S [91]))))) (tTru K (tV 4))) (tRet (tLst (tCons (tV 5) (tCons (tV 3) tNil)))) tNext)
  (tAsg (tC (.str (S [124]))) (gSub (tV 2) (tOp zSub (tCB (zLen K) (tCons (tV 2) tNil)) (tC (.int 1))) zSetP))) (tIfP (tTst (tOp (zEqP K) (tV 6) (tC (.str (S [93]))))) (tSeq (tIfP (tTst (tOp (zNeP K) (tV 7) (tC (.str (S [124]))))) (tRet (tLst (tCons (tV 5) (tCons (tV 3) tNil)))) tNext)
  (tDrop (tLM0 zPopP (tV 2)))) (tIfP (tTst (tOp (zInP K) (tV 6) (tC (.str (S [39, 61, 47, 62, 120, 119, 94, 109, 107, 99, 112]))))) (tDrop (tLM zAppP (tV 3) (tCons (tV 6) tNil))) (tRet (tLst (tCons (tV 5) (tCons (tV 3) tNil))))))))))
  (tAsg (tOp (zInP K) (tV 6) (tC (.str (S [40, 91])))) (gName 4))) D σ H
def b_l_scan_1 (K : PySem.W.Frag) (W : WX) : TS :=
  (tSeq (tAsg (tOp (zIxP K) (tV 1) (tV 5)) (gName 6))
  (tSeq (tAsg (tIfE (tTru K (tV 2)) (tOp (zIxP K) (tV 2) (tUn zNeg (tC (.int 1)))) (tC (.str (S [])))) (gName 7))
  (b_l_scan_1_2 K W)))
def t_l_scan (K : PySem.W.Frag) (W : WX) : TS :=
  (tSeq (tAsg (tLst tNil) (gName 2))
  (tSeq (tAsg (tLst tNil) (gName 3))
  (tSeq (tAsg (tC (.bl false)) (gName 4))
  (tSeq (tForP (jR1 (tCons (tCB (zLen K) (tCons (tV 1) tNil)) tNil)) (gName 5) (b_l_scan_1 K W))
  (tSeq (tIfP (tOrP (tTru K (tV 2)) (tAndP (tTru K (tV 3)) (tTst (tOp (zInP K) (tOp (zIxP K) (tV 3) (tUn zNeg (tC (.int 1)))) (tTup (tCons (tC (.str (S [39]))) (tCons (tC (.str (S [61]))) (tCons (tC (.str (S [47]))) tNil)))))))) (tRet (tLst (tCons (tCB (zLen K) (tCons (tV 1) tNil)) (tCons (tV 3) tNil)))) tNext)
  (tRet (tLst (tCons (tUn zNeg (tC (.int 1))) (tCons (tV 3) tNil)))))))))
theorem tm_l_scan {P : Program} {w : World} {K : PySem.W.Frag} {mg : Str → Option Value} {base : Heap} {f : Addr} {cdv : Value} {A : Around} {outer : List Env} {s : Shared} {H : Hp} {E : XK} (T : Tx K mg) (hr : Room 4 (A.deeper (envOfC "_law_scan" (defScope s_l_scan) s.heap.objs.size f cdv))) :
    PSs (cxOf (L2.CX P w) P w K mg base ["_law_signs", "_law_notation_here", "_law_groups", "_law_keys_here", "_law_fresh", "_law_place", "_law_char_here", "_law_top"] "_law_scan" (defScope s_l_scan) f cdv A outer s H E) (defBody s_l_scan) (t_l_scan K (WD E)) :=
  (pss_cons (pset 2 sc_l_scan.nd (pe_lst pa_nil))
  (pss_cons (pset 3 sc_l_scan.nd (pe_lst pa_nil))
  (pss_cons (pset 4 sc_l_scan.nd pe_bl)
  (pss_cons (psfor ownD rfl (pjr1 T.f_range (pa_cons (pcb (crlen) T.f_len (pa_cons (Ta.pv 1) pa_nil)) pa_nil)) (pgn 5 sc_l_scan.nd) (pss_cons (pset 6 sc_l_scan.nd (pix (Ta.pv 1) (Ta.pv 5)))
  (pss_cons (pset 7 sc_l_scan.nd (peif (ptru (Ta.pv 2)) (pix (Ta.pv 2) (pe_un unneg pe_int)) (pstr [])))
  (pss_imp (pss_cons (psif (PW.pt (pwand (ptru (Ta.pv 3)) (pw_and1 (ptcmp opin (pix (Ta.pv 3) (pe_un unneg pe_int)) (pe_tup (pa_cons (pstr [39]) (pa_cons (pstr [61]) (pa_cons (pstr [47]) pa_nil)))))))) (pss_cons (psif (ptcmp opnin (Ta.pv 6) (Ta.pv 0)) (pss_one (ps_ret (pe_lst (pa_cons (Ta.pv 5) (pa_cons (Ta.pv 3) pa_nil))))) pss_nil)
  (pss_one (psub (pe_op opadd (pix (Ta.pv 3) (pe_un unneg pe_int)) (Ta.pv 6)) (Ta.pv 3) (pe_op opsub (pcb (crlen) T.f_len (pa_cons (Ta.pv 3) pa_nil)) pe_int)))) (pss_one (psif (ptcmp opin (Ta.pv 6) (pstr [40, 91])) (pss_cons (psif (ptcmp (opeq hr.units) (pcb (crlen) T.f_len (pa_cons (Ta.pv 2) pa_nil)) pe_int) (pss_one (ps_ret (pe_lst (pa_cons (Ta.pv 5) (pa_cons (Ta.pv 3) pa_nil))))) pss_nil)
  (pss_one (ps_expr (plm PySem.F.slot_list_append PySem.F.type_list_append mtapp (Ta.pv 2) (pa_cons (Ta.pv 6) pa_nil))))) (pss_one (psif (ptcmp (opeq hr.units) (Ta.pv 6) (pstr [41])) (pss_cons (psif (PW.pt (pwor (ptcmp (opne hr.units) (Ta.pv 7) (pstr [40])) (pw_or1 (ptru (Ta.pv 4))))) (pss_one (ps_ret (pe_lst (pa_cons (Ta.pv 5) (pa_cons (Ta.pv 3) pa_nil))))) pss_nil)
  (pss_one (ps_expr (plm0 PySem.F.slot_list_pop PySem.F.type_list_pop mtpop (Ta.pv 2))))) (pss_one (psif (ptcmp (opeq hr.units) (Ta.pv 6) (pstr [124])) (pss_cons (psif (PW.pt (pwor (ptcmp (opne hr.units) (Ta.pv 7) (pstr [91])) (pw_or1 (ptru (Ta.pv 4))))) (pss_one (ps_ret (pe_lst (pa_cons (Ta.pv 5) (pa_cons (Ta.pv 3) pa_nil))))) pss_nil)
  (pss_one (psub (pstr [124]) (Ta.pv 2) (pe_op opsub (pcb (crlen) T.f_len (pa_cons (Ta.pv 2) pa_nil)) pe_int)))) (pss_one (psif (ptcmp (opeq hr.units) (Ta.pv 6) (pstr [93])) (pss_cons (psif (ptcmp (opne hr.units) (Ta.pv 7) (pstr [124])) (pss_one (ps_ret (pe_lst (pa_cons (Ta.pv 5) (pa_cons (Ta.pv 3) pa_nil))))) pss_nil)
  (pss_one (ps_expr (plm0 PySem.F.slot_list_pop PySem.F.type_list_pop mtpop (Ta.pv 2))))) (pss_one (psif (ptcmp opin (Ta.pv 6) (pstr [39, 61, 47, 62, 120, 119, 94, 109, 107, 99, 112])) (pss_one (ps_expr (plm PySem.F.slot_list_append PySem.F.type_list_append mtapp (Ta.pv 3) (pa_cons (Ta.pv 6) pa_nil)))) (pss_one (ps_ret (pe_lst (pa_cons (Ta.pv 5) (pa_cons (Ta.pv 3) pa_nil))))))))))))))))
  (pss_one (pset 4 sc_l_scan.nd (pe_cmpR opin (Ta.pv 6) (pstr [40, 91]) rfl)))) fun _ _ _ h => h.out))))
  (pss_cons (psif (PW.pt (pwor (ptru (Ta.pv 2)) (pw_or1 (PW.pt (pwand (ptru (Ta.pv 3)) (pw_and1 (ptcmp opin (pix (Ta.pv 3) (pe_un unneg pe_int)) (pe_tup (pa_cons (pstr [39]) (pa_cons (pstr [61]) (pa_cons (pstr [47]) pa_nil))))))))))) (pss_one (ps_ret (pe_lst (pa_cons (pcb (crlen) T.f_len (pa_cons (Ta.pv 1) pa_nil)) (pa_cons (Ta.pv 3) pa_nil))))) pss_nil)
  (pss_one (ps_ret (pe_lst (pa_cons (pe_un unneg pe_int) (pa_cons (Ta.pv 3) pa_nil))))))))))
/-! _law_made -/
abbrev s_l_made : Stmt := top 38
theorem sc_l_made : FnScope ["_law_alphabet", "_law_notation_here", "_law_made_here", "wrong", "many"] ["_law_alphabet", "_law_notation_here"] (defScope s_l_made) := ⟨rfl, rfl, rfl, by decide +kernel, rfl, by decide +kernel, by decide +kernel⟩
structure sp_l_made (K : PySem.W.Frag) (vs : List V) (H : Hp) (Q : VK) (E : XK) : Prop where
  out : ∃ (A dA : Addr) (l v n : List Nat), vs = [.ref A, .str (S n)] ∧ (H A = some (alo K dA l v)) ∧ (n.length < 100000) ∧ (¬ (scan (45 :: srt l) n).1 = -1 → ∀ r H', Kp [] H H' → H r = none → H' r = some (.lst [.str (S [112, 108, 97, 99, 101]), .int (scan (45 :: srt l) n).1, .bl true]) → Q (.ref r) H') ∧ ((scan (45 :: srt l) n).1 = -1 → 24 < (kof (scan (45 :: srt l) n).2).length → ∀ r H', Kp [] H H' → H r = none → H' r = some (.lst [.str (S [109, 97, 110, 121]), .int 24, .bl true]) → Q (.ref r) H') ∧ ((scan (45 :: srt l) n).1 = -1 → (kof (scan (45 :: srt l) n).2).length ≤ 24 → ∀ r H', Kp [] H H' → H r = none → H' r = some (.lst [.str (S [109, 97, 100, 101]), .int (kof (scan (45 :: srt l) n).2).length, .bl true]) → Q (.ref r) H')
theorem i_l_made {K : PySem.W.Frag} {A dA : Addr} {l v n : List Nat} {H : Hp} {Q : VK} {E : XK} (hA : H A = some (alo K dA l v)) (hn : n.length < 100000) (q1 : ¬ (scan (45 :: srt l) n).1 = -1 → ∀ r H', Kp [] H H' → H r = none → H' r = some (.lst [.str (S [112, 108, 97, 99, 101]), .int (scan (45 :: srt l) n).1, .bl true]) → Q (.ref r) H') (q2 : (scan (45 :: srt l) n).1 = -1 → 24 < (kof (scan (45 :: srt l) n).2).length → ∀ r H', Kp [] H H' → H r = none → H' r = some (.lst [.str (S [109, 97, 110, 121]), .int 24, .bl true]) → Q (.ref r) H') (q3 : (scan (45 :: srt l) n).1 = -1 → (kof (scan (45 :: srt l) n).2).length ≤ 24 → ∀ r H', Kp [] H H' → H r = none → H' r = some (.lst [.str (S [109, 97, 100, 101]), .int (kof (scan (45 :: srt l) n).2).length, .bl true]) → Q (.ref r) H') : sp_l_made K [.ref A, .str (S n)] H Q E := by
  exact ⟨⟨A, dA, l, v, n, rfl, hA, hn, q1, q2, q3⟩⟩
theorem d_l_made {K : PySem.W.Frag} {vs : List V} {H : Hp} {Q : VK} {E : XK} (h : sp_l_made K vs H Q E) : sp_l_made K vs H Q E := h


def t_l_made (K : PySem.W.Frag) (W : WX) : TS :=
  (tSeq (fun D0 σ0 H0 => (fun (W1 : WX) => (tAsg (tMak (He.ga K "Recording") (sp_Recording_init K) [] W1 (tCons (tV 0) (tCons (tV 1) tNil))) (gName 2))) (wHk K W D0 [(Hk.as 3 (.ref (He.ga K "BadRecording")) (fun a cls d => (tRet (tLst (tCons (tC (.str (S [112, 108, 97, 99, 101]))) (tCons (tXat K a cls d "place" (tV 3)) (tCons (tAndE K (tCB (zIsX K a cls d) (tCons (tV 3) (tCons (tC (.ref (He.ga K "TaleError"))) tNil))) (tCB (zIsX K a cls d) (tCons (tV 3) (tCons (tC (.ty "ValueError")) tNil)))) tNil))))))), (Hk.as 4 (.ref (He.ga K "TooMany")) (fun a cls d => (tRet (tLst (tCons (tC (.str (S [109, 97, 110, 121]))) (tCons (tXat K a cls d "most" (tV 4)) (tCons (tAndE K (tCB (zIsX K a cls d) (tCons (tV 4) (tCons (tC (.ref (He.ga K "TaleError"))) tNil))) (tCB (zIsX K a cls d) (tCons (tV 4) (tCons (tC (.ty "ValueError")) tNil)))) tNil)))))))]) D0 σ0 H0)
  (tRet (tLst (tCons (tC (.str (S [109, 97, 100, 101]))) (tCons (tCB (zLenO (He.ga K "Recording") (sp_Recording_len K)) (tCons (tV 2) tNil)) (tCons (tC (.bl true)) tNil))))))
theorem tm_l_made {P : Program} {w : World} {K : PySem.W.Frag} {mg : Str → Option Value} {base : Heap} {f : Addr} {cdv : Value} {A : Around} {outer : List Env} {s : Shared} {H : Hp} {E : XK} (T : Tx K mg) (G_Recording : Mks P w K mg base "Recording" (He.ga K "Recording") 11 [] (sp_Recording_init K)) (G_Recording___len__ : Me P w K mg base (He.ga K "Recording") "__len__" 5 [] (sp_Recording_len K)) (hr : Room 12 (A.deeper (envOfC "_law_made" (defScope s_l_made) s.heap.objs.size f cdv))) :
    PSs (cxOf (L2.CX P w) P w K mg base ["_law_alphabet", "_law_notation_here", "_law_made_here", "wrong", "many"] "_law_made" (defScope s_l_made) f cdv A outer s H E) (defBody s_l_made) (t_l_made K (WD E)) :=
  (pss_cons (ps_try_x rfl rfl sc_l_made.nd takesD (tb := fun W1 => (tAsg (tMak (He.ga K "Recording") (sp_Recording_init K) [] W1 (tCons (tV 0) (tCons (tV 1) tNil))) (gName 2))) (l := [(Hk.as 3 (.ref (He.ga K "BadRecording")) (fun a cls d => (tRet (tLst (tCons (tC (.str (S [112, 108, 97, 99, 101]))) (tCons (tXat K a cls d "place" (tV 3)) (tCons (tAndE K (tCB (zIsX K a cls d) (tCons (tV 3) (tCons (tC (.ref (He.ga K "TaleError"))) tNil))) (tCB (zIsX K a cls d) (tCons (tV 3) (tCons (tC (.ty "ValueError")) tNil)))) tNil))))))), (Hk.as 4 (.ref (He.ga K "TooMany")) (fun a cls d => (tRet (tLst (tCons (tC (.str (S [109, 97, 110, 121]))) (tCons (tXat K a cls d "most" (tV 4)) (tCons (tAndE K (tCB (zIsX K a cls d) (tCons (tV 4) (tCons (tC (.ref (He.ga K "TaleError"))) tNil))) (tCB (zIsX K a cls d) (tCons (tV 4) (tCons (tC (.ty "ValueError")) tNil)))) tNil)))))))]) (fun W1 pn xe tk1 _ => (pss_one (pset 2 sc_l_made.nd (pmak G_Recording (hr.mono (by decide)) tk1 (pa_cons (Ta.pv 0) (pa_cons (Ta.pv 1) pa_nil)))))) (HdsX.as (i := 3) rfl rfl (names_of T.v_BadRecording) (fun a oe cls d pn hz hf => (pss_one (ps_ret (pe_lst (pa_cons (pstr [112, 108, 97, 99, 101]) (pa_cons (pxat hz hf (Ta.pv 3)) (pa_cons (peand (pcb (crisx hz hf) T.f_isinstance (pa_cons (Ta.pv 3) (pa_cons (pglo T.v_TaleError) pa_nil))) (pe_one (pcb (crisx hz hf) T.f_isinstance (pa_cons (Ta.pv 3) (pa_cons (pbty T.f_ValueError) pa_nil))))) pa_nil))))))) (HdsX.as (i := 4) rfl rfl (names_of T.v_TooMany) (fun a oe cls d pn hz hf => (pss_one (ps_ret (pe_lst (pa_cons (pstr [109, 97, 110, 121]) (pa_cons (pxat hz hf (Ta.pv 4)) (pa_cons (peand (pcb (crisx hz hf) T.f_isinstance (pa_cons (Ta.pv 4) (pa_cons (pglo T.v_TaleError) pa_nil))) (pe_one (pcb (crisx hz hf) T.f_isinstance (pa_cons (Ta.pv 4) (pa_cons (pbty T.f_ValueError) pa_nil))))) pa_nil))))))) HdsX.nil)))
  (pss_one (ps_ret (pe_lst (pa_cons (pstr [109, 97, 100, 101]) (pa_cons (pcb (crlenO G_Recording___len__ (hr.mono (by decide))) T.f_len (pa_cons (Ta.pv 2) pa_nil)) (pa_cons pe_bl pa_nil)))))))
/-! _law_stands -/
abbrev s_l_stands : Stmt := top 40
theorem sc_l_stands : FnScope ["_law_alphabet", "_law_signs", "_law_notation_here", "_law_due", "_law_told", "_law_made_here"] ["_law_alphabet", "_law_signs", "_law_notation_here"] (defScope s_l_stands) := ⟨rfl, rfl, rfl, by decide +kernel, rfl, by decide +kernel, by decide +kernel⟩
structure sp_l_stands (K : PySem.W.Frag) (vs : List V) (H : Hp) (Q : VK) (E : XK) : Prop where
  out : ∃ (A dA : Addr) (l v n : List Nat), vs = [.ref A, .str (S (45 :: srt l)), .str (S n)] ∧ (H A = some (alo K dA l v)) ∧ (l.length ≤ 4 ∧ ∀ c ∈ srt l, ¬ c ∈ OB) ∧ (low n ∧ n.length < 10000) ∧ (∀ H', Kp [] H H' → Q (.bl true) H')
theorem i_l_stands {K : PySem.W.Frag} {A dA : Addr} {l v n : List Nat} {H : Hp} {Q : VK} {E : XK} (hA : H A = some (alo K dA l v)) (hl : l.length ≤ 4 ∧ ∀ c ∈ srt l, ¬ c ∈ OB) (hn : low n ∧ n.length < 10000) (q : ∀ H', Kp [] H H' → Q (.bl true) H') : sp_l_stands K [.ref A, .str (S (45 :: srt l)), .str (S n)] H Q E := by
  exact ⟨⟨A, dA, l, v, n, rfl, hA, hl, hn, q⟩⟩
theorem d_l_stands {K : PySem.W.Frag} {vs : List V} {H : Hp} {Q : VK} {E : XK} (h : sp_l_stands K vs H Q E) : sp_l_stands K vs H Q E := h


def t_l_stands (K : PySem.W.Frag) (W : WX) : TS :=
  (tSeq (tAsg (tCal (sp_l_scan K) [] W (tCons (tV 1) (tCons (tV 2) tNil))) (gName 3))
  (tSeq (tAsg (tCal (sp_l_made K) [] W (tCons (tV 0) (tCons (tV 2) tNil))) (gName 4))
  (tSeq (tIfP (tNot (tTru K (tOp (zIxP K) (tV 4) (tC (.int 2))))) (tRet (tC (.bl false))) tNext)
  (tSeq (tIfP (tTst (tOp zGe (tOp (zIxP K) (tV 3) (tC (.int 0))) (tC (.int 0)))) (tRet (tAndE K (tOp (zEqP K) (tOp (zIxP K) (tV 4) (tC (.int 0))) (tC (.str (S [112, 108, 97, 99, 101])))) (tCal (sp_l_whole K) [] W (tCons (tOp (zIxP K) (tV 4) (tC (.int 1))) (tCons (tOp (zIxP K) (tV 3) (tC (.int 0))) tNil))))) tNext)
  (tSeq (tIfP (tTst (tOp zGt (tCB (zLen K) (tCons (tOp (zIxP K) (tV 3) (tC (.int 1))) tNil)) (tC (.int 24)))) (tRet (tAndE K (tOp (zEqP K) (tOp (zIxP K) (tV 4) (tC (.int 0))) (tC (.str (S [109, 97, 110, 121])))) (tCal (sp_l_whole K) [] W (tCons (tOp (zIxP K) (tV 4) (tC (.int 1))) (tCons (tC (.int 24)) tNil))))) tNext)
  (tSeq (tIfP (tOrP (tTst (tOp (zNeP K) (tOp (zIxP K) (tV 4) (tC (.int 0))) (tC (.str (S [109, 97, 100, 101]))))) (tTst (tOp (zNeP K) (tOp (zIxP K) (tV 4) (tC (.int 1))) (tCB (zLen K) (tCons (tOp (zIxP K) (tV 3) (tC (.int 1))) tNil))))) (tRet (tC (.bl false))) tNext)
  (tSeq (tAsg (tMak (He.ga K "Recording") (sp_Recording_init K) [] W (tCons (tV 0) (tCons (tV 2) tNil))) (gName 5))
  (tSeq (tIfP (tNot (tTst (tOp (zOwn (He.ga K "Alphabet") (sp_Alphabet_eq K)) (tAt K (tV 5) "alphabet") (tV 0)))) (tRet (tC (.bl false))) tNext)
  (tRet (tAndE K (tOp (zEqP K) (tCB (zStrO (He.ga K "Recording") (sp_Recording_str K)) (tCons (tV 5) tNil)) (tV 2)) (tAndE K (tCal (sp_l_keys K) [] W (tCons (tV 5) (tCons (tOp (zIxP K) (tV 3) (tC (.int 1))) tNil))) (tOp (zEqP K) (tCB (zStrO (He.ga K "Recording") (sp_Recording_str K)) (tCons (tV 5) tNil)) (tV 2)))))))))))))
theorem tm_l_stands {P : Program} {w : World} {K : PySem.W.Frag} {mg : Str → Option Value} {base : Heap} {f : Addr} {cdv : Value} {A : Around} {outer : List Env} {s : Shared} {H : Hp} {E : XK} (T : Tx K mg) (G_Alphabet___eq__ : Me P w K mg base (He.ga K "Alphabet") "__eq__" 5 [] (sp_Alphabet_eq K)) (G_Recording : Mks P w K mg base "Recording" (He.ga K "Recording") 11 [] (sp_Recording_init K)) (G_Recording___str__ : Me P w K mg base (He.ga K "Recording") "__str__" 5 [] (sp_Recording_str K)) (G_l_keys : Fn P w K mg base "_law_keys" 7 [] (sp_l_keys K)) (G_l_made : Fn P w K mg base "_law_made" 13 [] (sp_l_made K)) (G_l_scan : Fn P w K mg base "_law_scan" 5 [] (sp_l_scan K)) (G_l_whole : Fn P w K mg base "_law_whole" 5 [] (sp_l_whole K)) (hr : Room 14 (A.deeper (envOfC "_law_stands" (defScope s_l_stands) s.heap.objs.size f cdv))) :
    PSs (cxOf (L2.CX P w) P w K mg base ["_law_alphabet", "_law_signs", "_law_notation_here", "_law_due", "_law_told", "_law_made_here"] "_law_stands" (defScope s_l_stands) f cdv A outer s H E) (defBody s_l_stands) (t_l_stands K (WD E)) :=
  (pss_cons (pset 3 sc_l_stands.nd (pcall G_l_scan (hr.mono (by decide)) takesD (pa_cons (Ta.pv 1) (pa_cons (Ta.pv 2) pa_nil))))
  (pss_cons (pset 4 sc_l_stands.nd (pcall G_l_made (hr.mono (by decide)) takesD (pa_cons (Ta.pv 0) (pa_cons (Ta.pv 2) pa_nil))))
  (pss_cons (psif (pt_not (ptru (pix (Ta.pv 4) pe_int))) (pss_one (ps_ret pe_bl)) pss_nil)
  (pss_cons (psif (ptcmp opge (pix (Ta.pv 3) pe_int) pe_int) (pss_one (ps_ret (peand (pe_cmpR (opeq hr.units) (pix (Ta.pv 4) pe_int) (pstr [112, 108, 97, 99, 101]) rfl) (pe_one (pcall G_l_whole (hr.mono (by decide)) takesD (pa_cons (pix (Ta.pv 4) pe_int) (pa_cons (pix (Ta.pv 3) pe_int) pa_nil))))))) pss_nil)
  (pss_cons (psif (ptcmp opgt (pcb (crlen) T.f_len (pa_cons (pix (Ta.pv 3) pe_int) pa_nil)) pe_int) (pss_one (ps_ret (peand (pe_cmpR (opeq hr.units) (pix (Ta.pv 4) pe_int) (pstr [109, 97, 110, 121]) rfl) (pe_one (pcall G_l_whole (hr.mono (by decide)) takesD (pa_cons (pix (Ta.pv 4) pe_int) (pa_cons pe_int pa_nil))))))) pss_nil)
  (pss_cons (psif (PW.pt (pwor (ptcmp (opne hr.units) (pix (Ta.pv 4) pe_int) (pstr [109, 97, 100, 101])) (pw_or1 (ptcmp (opne hr.units) (pix (Ta.pv 4) pe_int) (pcb (crlen) T.f_len (pa_cons (pix (Ta.pv 3) pe_int) pa_nil)))))) (pss_one (ps_ret pe_bl)) pss_nil)
  (pss_cons (pset 5 sc_l_stands.nd (pmak G_Recording (hr.mono (by decide)) takesD (pa_cons (Ta.pv 0) (pa_cons (Ta.pv 2) pa_nil))))
  (pss_cons (psif (pt_not (ptcmp (opown G_Alphabet___eq__ (hr.mono (by decide))) (patt (Ta.pv 5)) (Ta.pv 0))) (pss_one (ps_ret pe_bl)) pss_nil)
  (pss_one (ps_ret (peand (pe_cmpR (opeq hr.units) (pct (crstrO G_Recording___str__ (hr.mono (by decide))) T.f_str (pa_cons (Ta.pv 5) pa_nil)) (Ta.pv 2) rfl) (peand (pcall G_l_keys (hr.mono (by decide)) takesD (pa_cons (Ta.pv 5) (pa_cons (pix (Ta.pv 3) pe_int) pa_nil))) (pe_one (pe_cmpR (opeq hr.units) (pct (crstrO G_Recording___str__ (hr.mono (by decide))) T.f_str (pa_cons (Ta.pv 5) pa_nil)) (Ta.pv 2) rfl))))))))))))))
/-! _law_world -/
abbrev s_l_world : Stmt := top 43
theorem sc_l_world : FnScope ["_law_script", "_law_k", "_law_box_here", "_law_letters_here", "_law_vowels_here", "_law_signs", "_law_alphabet", "_law_one", "_law_two", "_law_keys_here", "_law_others", "_law_letter", "_law_changed", "_law_strange_here", "_law_turned", "_law_at"] ["_law_script", "_law_k"] (defScope s_l_world) := ⟨rfl, rfl, rfl, by decide +kernel, rfl, by decide +kernel, by decide +kernel⟩
structure sp_l_world (K : PySem.W.Frag) (vs : List V) (H : Hp) (Q : VK) (E : XK) : Prop where
  out : ∃ (p : Addr) (k : Int) (ob : Obj) (ns : List Int), vs = [.ref p, .int k] ∧ (H p = some (scr ob ns)) ∧ (0 ≤ k) ∧ (ns.length < 1000) ∧ (∀ H', Kp [] H H' → Q (.bl true) H')
theorem i_l_world {K : PySem.W.Frag} {p : Addr} {k : Int} {ob : Obj} {ns : List Int} {H : Hp} {Q : VK} {E : XK} (hp : H p = some (scr ob ns)) (h0 : 0 ≤ k) (h1 : ns.length < 1000) (q : ∀ H', Kp [] H H' → Q (.bl true) H') : sp_l_world K [.ref p, .int k] H Q E := by
  exact ⟨⟨p, k, ob, ns, rfl, hp, h0, h1, q⟩⟩
theorem d_l_world {K : PySem.W.Frag} {vs : List V} {H : Hp} {Q : VK} {E : XK} (h : sp_l_world K vs H Q E) : sp_l_world K vs H Q E := h


structure t_l_world_14 (K : PySem.W.Frag) (W : WX) (D : Ends) (σ : L2.St) (H : Hp) : Prop where
  out : (tSeq (tAsg (tMak (He.ga K "Alphabet") (sp_Alphabet_init K) [] W (tCons (tV 3) (tCons (tV 12) tNil))) (gName 13))
  (tSeq (tIfP (tNot (tTru K (tCal (sp_l_strange K) [] W (tCons (tMak (He.ga K "Recording") (sp_Recording_init K) [] W (tCons (tV 6) (tCons (tV 7) tNil))) (tCons (tMak (He.ga K "Recording") (sp_Recording_init K) [] W (tCons (tV 13) (tCons (tV 7) tNil))) tNil))))) (tRet (tC (.bl false))) tNext)
  (tSeq (tAsg (tSM (zJoin K) (tC (.str (S []))) (tCons (tLcP (jR1 (tCons (tCB (zLen K) (tCons (tV 3) tNil)) tNil)) (gName 15) tYes (tOp (zIxP K) (tV 3) (tOp zSub (tOp zSub (tCB (zLen K) (tCons (tV 3) tNil)) (tC (.int 1))) (tV 15))) [15]) tNil)) (gName 14))
  (tSeq (tIfP (tNot (tTst (tOp (zOwn (He.ga K "Recording") (sp_Recording_eq K)) (tMak (He.ga K "Recording") (sp_Recording_init K) [] W (tCons (tMak (He.ga K "Alphabet") (sp_Alphabet_init K) [] W (tCons (tV 14) (tCons (tV 4) tNil))) (tCons (tV 7) tNil))) (tMak (He.ga K "Recording") (sp_Recording_init K) [] W (tCons (tV 6) (tCons (tV 7) tNil)))))) (tRet (tC (.bl false))) tNext)
  (tSeq (tIfP (tOrP (tTst (tOp zGe (tOp (zIxP K) (tV 10) (tC (.int 0))) (tC (.int 0)))) (tTst (tOp zGt (tCB (zLen K) (tCons (tOp (zIxP K) (tV 10) (tC (.int 1))) tNil)) (tC (.int 24))))) (tRet (tC (.bl true))) tNext)
  (tSeq (tIfP (tNot (tTru K (tCal (sp_l_strange K) [] W (tCons (tMak (He.ga K "Recording") (sp_Recording_init K) [] W (tCons (tV 13) (tCons (tV 8) tNil))) (tCons (tMak (He.ga K "Recording") (sp_Recording_init K) [] W (tCons (tV 6) (tCons (tV 7) tNil))) tNil))))) (tRet (tC (.bl false))) tNext)
  (tRet (tCal (sp_l_joined K) [] W (tCons (tV 6) (tCons (tV 7) (tCons (tV 8) (tCons (tOp (zIxP K) (tV 9) (tC (.int 1))) (tCons (tOp (zIxP K) (tV 10) (tC (.int 1))) tNil))))))))))))) D σ H
structure t_l_world_10 (K : PySem.W.Frag) (W : WX) (D : Ends) (σ : L2.St) (H : Hp) : Prop where
  out : (tSeq (tIfP (tOrP (tTst (tOp zGe (tOp (zIxP K) (tV 9) (tC (.int 0))) (tC (.int 0)))) (tTst (tOp zGt (tCB (zLen K) (tCons (tOp (zIxP K) (tV 9) (tC (.int 1))) tNil)) (tC (.int 24))))) (tRet (tC (.bl true))) tNext)
  (tSeq (tAsg (tPk (sp_l_take K) W 3 2) (gName 11))
  (tSeq (tAsg (tRpE 4 11) (gName 12))
  (tSeq (tIfP (tTst (tOp (zEqP K) (tV 12) (tV 4))) (tAsg (tOp zAdd (tV 4) (tV 11)) (gName 12)) tNext)
  (t_l_world_14 K W))))) D σ H
def t_l_world (K : PySem.W.Frag) (W : WX) : TS :=
  (tSeq (tAsg (tCal (sp_l_box K) [] W (tCons (tV 0) (tCons (tV 1) tNil))) (gName 2))
  (tSeq (tAsg (tCal (sp_l_letters K) [] W (tCons (tV 2) (tCons (tOp zAdd (tC (.int 1)) (tCal (sp_l_take K) [] W (tCons (tV 2) (tCons (tC (.int 4)) tNil)))) tNil))) (gName 3))
  (tSeq (tAsg (tCal (sp_l_vowels K) [] W (tCons (tV 2) (tCons (tV 3) tNil))) (gName 4))
  (tSeq (tAsg (tOp zAdd (tC (.str (S [45]))) (tSM (zJoin K) (tC (.str (S []))) (tCons (tCB (zSort1) (tCons (tV 3) tNil)) tNil))) (gName 5))
  (tSeq (tAsg (tMak (He.ga K "Alphabet") (sp_Alphabet_init K) [] W (tCons (tV 3) (tCons (tV 4) tNil))) (gName 6))
  (tSeq (tAsg (tCal (sp_l_notation K) [] W (tCons (tV 2) (tCons (tV 5) tNil))) (gName 7))
  (tSeq (tAsg (tCal (sp_l_notation K) [] W (tCons (tV 2) (tCons (tV 5) tNil))) (gName 8))
  (tSeq (tIfP (tOrP (tNot (tTru K (tCal (sp_l_stands K) [] W (tCons (tV 6) (tCons (tV 5) (tCons (tV 7) tNil)))))) (tNot (tTru K (tCal (sp_l_stands K) [] W (tCons (tV 6) (tCons (tV 5) (tCons (tV 8) tNil))))))) (tRet (tC (.bl false))) tNext)
  (tSeq (tAsg (tCal (sp_l_scan K) [] W (tCons (tV 5) (tCons (tV 7) tNil))) (gName 9))
  (tSeq (tAsg (tCal (sp_l_scan K) [] W (tCons (tV 5) (tCons (tV 8) tNil))) (gName 10))
  (t_l_world_10 K W)))))))))))
theorem tm_l_world {P : Program} {w : World} {K : PySem.W.Frag} {mg : Str → Option Value} {base : Heap} {f : Addr} {cdv : Value} {A : Around} {outer : List Env} {s : Shared} {H : Hp} {E : XK} (T : Tx K mg) (G_Alphabet : Mks P w K mg base "Alphabet" (He.ga K "Alphabet") 7 [] (sp_Alphabet_init K)) (G_Recording : Mks P w K mg base "Recording" (He.ga K "Recording") 11 [] (sp_Recording_init K)) (G_Recording___eq__ : Me P w K mg base (He.ga K "Recording") "__eq__" 7 [] (sp_Recording_eq K)) (G_l_box : Fn P w K mg base "_law_box" 5 [] (sp_l_box K)) (G_l_joined : Fn P w K mg base "_law_joined" 15 [] (sp_l_joined K)) (G_l_letters : Fn P w K mg base "_law_letters" 7 [] (sp_l_letters K)) (G_l_notation : Fn P w K mg base "_law_notation" 11 [] (sp_l_notation K)) (G_l_scan : Fn P w K mg base "_law_scan" 5 [] (sp_l_scan K)) (G_l_stands : Fn P w K mg base "_law_stands" 15 [] (sp_l_stands K)) (G_l_strange : Fn P w K mg base "_law_strange" 15 [] (sp_l_strange K)) (G_l_take : Fn P w K mg base "_law_take" 5 [] (sp_l_take K)) (G_l_vowels : Fn P w K mg base "_law_vowels" 7 [] (sp_l_vowels K)) (hr : Room 16 (A.deeper (envOfC "_law_world" (defScope s_l_world) s.heap.objs.size f cdv))) :
    PSs (cxOf (L2.CX P w) P w K mg base ["_law_script", "_law_k", "_law_box_here", "_law_letters_here", "_law_vowels_here", "_law_signs", "_law_alphabet", "_law_one", "_law_two", "_law_keys_here", "_law_others", "_law_letter", "_law_changed", "_law_strange_here", "_law_turned", "_law_at"] "_law_world" (defScope s_l_world) f cdv A outer s H E) (defBody s_l_world) (t_l_world K (WD E)) :=
  (pss_cons (pset 2 sc_l_world.nd (pcall G_l_box (hr.mono (by decide)) takesD (pa_cons (Ta.pv 0) (pa_cons (Ta.pv 1) pa_nil))))
  (pss_cons (pset 3 sc_l_world.nd (pcall G_l_letters (hr.mono (by decide)) takesD (pa_cons (Ta.pv 2) (pa_cons (pe_op opadd pe_int (pcall G_l_take (hr.mono (by decide)) takesD (pa_cons (Ta.pv 2) (pa_cons pe_int pa_nil)))) pa_nil))))
  (pss_cons (pset 4 sc_l_world.nd (pcall G_l_vowels (hr.mono (by decide)) takesD (pa_cons (Ta.pv 2) (pa_cons (Ta.pv 3) pa_nil))))
  (pss_cons (pset 5 sc_l_world.nd (pe_op opadd (pstr [45]) (psm PySem.F.slot_str_join PySem.F.type_str_join mtjoin (pstr []) (pa_cons (pcb (crsort rfl) T.f_sorted (pa_cons (Ta.pv 3) pa_nil)) pa_nil))))
  (pss_cons (pset 6 sc_l_world.nd (pmak G_Alphabet (hr.mono (by decide)) takesD (pa_cons (Ta.pv 3) (pa_cons (Ta.pv 4) pa_nil))))
  (pss_cons (pset 7 sc_l_world.nd (pcall G_l_notation (hr.mono (by decide)) takesD (pa_cons (Ta.pv 2) (pa_cons (Ta.pv 5) pa_nil))))
  (pss_cons (pset 8 sc_l_world.nd (pcall G_l_notation (hr.mono (by decide)) takesD (pa_cons (Ta.pv 2) (pa_cons (Ta.pv 5) pa_nil))))
  (pss_cons (psif (PW.pt (pwor (pt_not (ptru (pcall G_l_stands (hr.mono (by decide)) takesD (pa_cons (Ta.pv 6) (pa_cons (Ta.pv 5) (pa_cons (Ta.pv 7) pa_nil)))))) (pw_or1 (pt_not (ptru (pcall G_l_stands (hr.mono (by decide)) takesD (pa_cons (Ta.pv 6) (pa_cons (Ta.pv 5) (pa_cons (Ta.pv 8) pa_nil))))))))) (pss_one (ps_ret pe_bl)) pss_nil)
  (pss_cons (pset 9 sc_l_world.nd (pcall G_l_scan (hr.mono (by decide)) takesD (pa_cons (Ta.pv 5) (pa_cons (Ta.pv 7) pa_nil))))
  (pss_cons (pset 10 sc_l_world.nd (pcall G_l_scan (hr.mono (by decide)) takesD (pa_cons (Ta.pv 5) (pa_cons (Ta.pv 8) pa_nil))))
  (pss_imp (pss_cons (psif (PW.pt (pwor (ptcmp opge (pix (Ta.pv 9) pe_int) pe_int) (pw_or1 (ptcmp opgt (pcb (crlen) T.f_len (pa_cons (pix (Ta.pv 9) pe_int) pa_nil)) pe_int)))) (pss_one (ps_ret pe_bl)) pss_nil)
  (pssk0 (pssk_pk (ix := 11) (il := 3) (ib := 2) sc_l_world.nd G_l_take (hr.mono (by decide)) takesD T.f_len
  (pssk_set (i := 12) sc_l_world.nd (pek_replE (ix := 4) (io := 11))
  (pss_cons (psif (ptcmp (opeq hr.units) (Ta.pv 12) (Ta.pv 4)) (pss_one (pset 12 sc_l_world.nd (pe_op opadd (Ta.pv 4) (Ta.pv 11)))) pss_nil)
  (pss_imp (pss_cons (pset 13 sc_l_world.nd (pmak G_Alphabet (hr.mono (by decide)) takesD (pa_cons (Ta.pv 3) (pa_cons (Ta.pv 12) pa_nil))))
  (pss_cons (psif (pt_not (ptru (pcall G_l_strange (hr.mono (by decide)) takesD (pa_cons (pmak G_Recording (hr.mono (by decide)) takesD (pa_cons (Ta.pv 6) (pa_cons (Ta.pv 7) pa_nil))) (pa_cons (pmak G_Recording (hr.mono (by decide)) takesD (pa_cons (Ta.pv 13) (pa_cons (Ta.pv 7) pa_nil))) pa_nil))))) (pss_one (ps_ret pe_bl)) pss_nil)
  (pss_cons (pset 14 sc_l_world.nd (psm PySem.F.slot_str_join PySem.F.type_str_join mtjoin (pstr []) (pa_cons (plc [("_law_at", 15)] rfl sc_l_world.nd (pjr1 T.f_range (pa_cons (pcb (crlen) T.f_len (pa_cons (Ta.pv 3) pa_nil)) pa_nil)) (by kernel_rfl) (fun _ _ _ _ _ => (pgn 15 sc_l_world.nd)) (fun _ _ _ _ _ => pts_nil) (fun _ _ _ _ _ => (pix (Ta.pv 3) (pe_op opsub (pe_op opsub (pcb (crlen) T.f_len (pa_cons (Ta.pv 3) pa_nil)) pe_int) (Ta.pv 15))))) pa_nil)))
  (pss_cons (psif (pt_not (ptcmp (opown G_Recording___eq__ (hr.mono (by decide))) (pmak G_Recording (hr.mono (by decide)) takesD (pa_cons (pmak G_Alphabet (hr.mono (by decide)) takesD (pa_cons (Ta.pv 14) (pa_cons (Ta.pv 4) pa_nil))) (pa_cons (Ta.pv 7) pa_nil))) (pmak G_Recording (hr.mono (by decide)) takesD (pa_cons (Ta.pv 6) (pa_cons (Ta.pv 7) pa_nil))))) (pss_one (ps_ret pe_bl)) pss_nil)
  (pss_cons (psif (PW.pt (pwor (ptcmp opge (pix (Ta.pv 10) pe_int) pe_int) (pw_or1 (ptcmp opgt (pcb (crlen) T.f_len (pa_cons (pix (Ta.pv 10) pe_int) pa_nil)) pe_int)))) (pss_one (ps_ret pe_bl)) pss_nil)
  (pss_cons (psif (pt_not (ptru (pcall G_l_strange (hr.mono (by decide)) takesD (pa_cons (pmak G_Recording (hr.mono (by decide)) takesD (pa_cons (Ta.pv 13) (pa_cons (Ta.pv 8) pa_nil))) (pa_cons (pmak G_Recording (hr.mono (by decide)) takesD (pa_cons (Ta.pv 6) (pa_cons (Ta.pv 7) pa_nil))) pa_nil))))) (pss_one (ps_ret pe_bl)) pss_nil)
  (pss_one (ps_ret (pcall G_l_joined (hr.mono (by decide)) takesD (pa_cons (Ta.pv 6) (pa_cons (Ta.pv 7) (pa_cons (Ta.pv 8) (pa_cons (pix (Ta.pv 9) pe_int) (pa_cons (pix (Ta.pv 10) pe_int) pa_nil)))))))))))))) fun _ _ _ h => h.out)))))) fun _ _ _ h => h.out)))))))))))
/-! law -/
abbrev s_law : Stmt := top 44
theorem sc_law : FnScope ["_law_script", "_law_k"] ["_law_script"] (defScope s_law) := ⟨rfl, rfl, rfl, by decide +kernel, rfl, by decide +kernel, by decide +kernel⟩
structure sp_law (K : PySem.W.Frag) (vs : List V) (H : Hp) (Q : VK) (E : XK) : Prop where
  out : ∃ (p : Addr) (ob : Obj) (ns : List Int), vs = [.ref p] ∧ H p = some (scr ob ns) ∧ ns.length < 1000 ∧ ∀ H', Q (.bl true) H'

def b_law_1 (K : PySem.W.Frag) (W : WX) : TS :=
  (tIfP (tNot (tTru K (tCal (sp_l_world K) [] W (tCons (tV 0) (tCons (tV 1) tNil))))) (tRet (tC (.bl false))) tNext)
def t_law (K : PySem.W.Frag) (W : WX) : TS :=
  (tSeq (tIfP (tOrP (tNot (tTru K (tCal (sp_l_whole K) [] W (tCons (tC (.int 24)) (tCons (tC (.int 24)) tNil))))) (tNot (tTru K (tCal (sp_l_whole K) [] W (tCons (tC (.int 4)) (tCons (tC (.int 4)) tNil)))))) (tRet (tC (.bl false))) tNext)
  (tSeq (tForP (jR1 (tCons (tCB (zMin2) (tCons (tC (.int 6)) (tCons (tCB (zMax2) (tCons (tC (.int 1)) (tCons (tCB (zLen K) (tCons (tV 0) tNil)) tNil))) tNil))) tNil)) (gName 1) (b_law_1 K W))
  (tRet (tC (.bl true)))))
theorem tm_law {P : Program} {w : World} {K : PySem.W.Frag} {mg : Str → Option Value} {base : Heap} {f : Addr} {cdv : Value} {A : Around} {outer : List Env} {s : Shared} {H : Hp} {E : XK} (T : Tx K mg) (G_l_whole : Fn P w K mg base "_law_whole" 5 [] (sp_l_whole K)) (G_l_world : Fn P w K mg base "_law_world" 17 [] (sp_l_world K)) (hr : Room 18 (A.deeper (envOfC "law" (defScope s_law) s.heap.objs.size f cdv))) :
    PSs (cxOf (L2.CX P w) P w K mg base ["_law_script", "_law_k"] "law" (defScope s_law) f cdv A outer s H E) (defBody s_law) (t_law K (WD E)) :=
  (pss_cons (psif (PW.pt (pwor (pt_not (ptru (pcall G_l_whole (hr.mono (by decide)) takesD (pa_cons (pclv T.cc_Recording_MOST_KEYS) (pa_cons pe_int pa_nil))))) (pw_or1 (pt_not (ptru (pcall G_l_whole (hr.mono (by decide)) takesD (pa_cons (pclv T.cc_Recording_MOST_DEPTH) (pa_cons pe_int pa_nil)))))))) (pss_one (ps_ret pe_bl)) pss_nil)
  (pss_cons (psfor ownD rfl (pjr1 T.f_range (pa_cons (pcb (crmin rfl) T.f_min (pa_cons pe_int (pa_cons (pcb (crmax rfl) T.f_max (pa_cons pe_int (pa_cons (pcb (crlen) T.f_len (pa_cons (Ta.pv 0) pa_nil)) pa_nil))) pa_nil))) pa_nil)) (pgn 1 sc_law.nd) (pss_one (psif (pt_not (ptru (pcall G_l_world (hr.mono (by decide)) takesD (pa_cons (Ta.pv 0) (pa_cons (Ta.pv 1) pa_nil))))) (pss_one (ps_ret pe_bl)) pss_nil)))
  (pss_one (ps_ret pe_bl))))
end Lw

set_option Elab.async false
set_option linter.all false
set_option maxRecDepth 100000
set_option maxHeartbeats 4000000
namespace Lw
open PySem PySem.Spec PyProof.Rows L2 Ta
theorem nd_len {l m : List Nat} (hn : l.Nodup) (hs : ∀ c ∈ l, c ∈ m) : l.length ≤ m.length := by
  induction l generalizing m with
  | nil => exact Nat.zero_le _
  | cons a l ih =>
    obtain ⟨h1, h2⟩ := List.nodup_cons.mp hn
    have ha := hs a List.mem_cons_self
    have := ih (m := m.erase a) h2 fun c hc => (List.mem_erase_of_ne (fun e : c = a => h1 (by rw [← e]; exact hc))).mpr (hs c (List.mem_cons_of_mem _ hc))
    rw [List.length_erase_of_mem ha] at this
    have hp : 0 < m.length := List.length_pos_of_mem ha
    rw [List.length_cons]
    omega
theorem badL_inv {l : List Nat} (h : badL l = false) : 1 ≤ l.length ∧ l.length ≤ 4 ∧ l.Nodup ∧ ∀ c ∈ l, c ∈ AZ := by
  unfold badL at h
  simp only [Bool.or_eq_false_iff, Bool.not_eq_false', decide_eq_true_eq, List.any_eq_false] at h
  obtain ⟨⟨h1, h2⟩, h3⟩ := h
  refine ⟨h2.1, h2.2, (dif_nd l).mp h3, fun c hc => ?_⟩
  have z := h1 c hc
  exact Decidable.byContradiction fun hn => z (by rw [decide_eq_false hn]; rfl)
theorem badV_inv {l v : List Nat} (h : badV l v = false) : v.Nodup ∧ ∀ c ∈ v, c ∈ l := by
  unfold badV at h
  simp only [Bool.or_eq_false_iff, Bool.not_eq_false', List.any_eq_false] at h
  obtain ⟨h1, h3⟩ := h
  refine ⟨(dif_nd v).mp h3, fun c hc => ?_⟩
  have z := h1 c hc
  simpa using z
theorem good_v {l v : List Nat} (h : good l v) : v.length ≤ 4 := by
  have h1 := badL_inv h.1
  have h2 := badV_inv h.2
  have := nd_len h2.1 h2.2
  omega
theorem pick_sub {m r s : List Nat} (hp : (m ++ r).Perm s) (hn : s.Nodup) : m.Nodup ∧ ∀ c ∈ m, c ∈ s := by
  have h := hp.nodup_iff.mpr hn
  exact ⟨(List.nodup_append.mp h).1, fun c hc => hp.mem_iff.mp (List.mem_append_left _ hc)⟩
theorem pick_all {m r s : List Nat} (hp : (m ++ r).Perm s) (hl : m.length = s.length) : m.Perm s := by
  have e := hp.length_eq
  rw [List.length_append] at e
  have : r = [] := List.length_eq_zero_iff.mp (by omega)
  rw [this, List.append_nil] at hp
  exact hp
theorem good_perm {l v m u : List Nat} (h : good l v) (hm : m.Perm l) (hu : u.Perm v) : good m u := by
  obtain ⟨a1, a2, a3, a4⟩ := badL_inv h.1
  obtain ⟨b1, b2⟩ := badV_inv h.2
  have e := hm.length_eq
  exact ⟨badL_ok (by omega) (by omega) (hm.nodup_iff.mpr a3) fun c hc => a4 c (hm.mem_iff.mp hc), badV_ok (hu.nodup_iff.mpr b1) fun c hc => hm.mem_iff.mpr (b2 c (hu.mem_iff.mp hc))⟩
theorem good_sub {l u r : List Nat} (h : badL l = false) (hu : (u ++ r).Perm l) : good l u := by
  obtain ⟨a1, a2, a3, a4⟩ := badL_inv h
  obtain ⟨b1, b2⟩ := pick_sub hu a3
  exact ⟨h, badV_ok b1 b2⟩
theorem good_new {m r : List Nat} (h1 : 1 ≤ m.length) (h2 : m.length ≤ 4) (hm : (m ++ r).Perm AZ) : badL m = false := by
  obtain ⟨b1, b2⟩ := pick_sub hm (by decide)
  exact badL_ok h1 h2 b1 b2
abbrev oth (l : List Nat) : List Nat := AZ.filter fun c => !decide (c ∈ l)
theorem oth_mem {l : List Nat} {d : Nat} (h : d ∈ oth l) : d ∈ AZ ∧ ¬ d ∈ l := by
  have := List.mem_filter.mp h
  simpa using this
theorem flt_len (f : Nat → Bool) : ∀ s : List Nat, (s.filter f).length + (s.filter fun c => !f c).length = s.length
  | [] => rfl
  | a :: s => by
    have ih := flt_len f s
    rw [List.filter_cons, List.filter_cons]
    cases f a with
    | true => simp only [Bool.not_true, List.length_cons, if_true]; simp; omega
    | false => simp only [Bool.not_false, List.length_cons, if_true]; simp; omega
theorem oth_len {l : List Nat} (h : l.length ≤ 4) : 22 ≤ (oth l).length ∧ (oth l).length ≤ 26 := by
  have h1 : (AZ.filter fun c => decide (c ∈ l)).length ≤ l.length := nd_len (List.Pairwise.filter _ (by decide : AZ.Nodup)) fun c hc => by
    have := (List.mem_filter.mp hc).2
    simpa using this
  have h2 := flt_len (fun c => decide (c ∈ l)) AZ
  have h3 : AZ.length = 26 := rfl
  show 22 ≤ (AZ.filter fun c => !decide (c ∈ l)).length ∧ (AZ.filter fun c => !decide (c ∈ l)).length ≤ 26
  have h4 := List.length_filter_le (fun c => !decide (c ∈ l)) AZ
  omega
theorem good_rp {l v : List Nat} {c d : Nat} (h : good l v) (hc : c ∈ l) (hd : d ∈ oth l) : good (rp c d l) (rp c d v) := by
  obtain ⟨a1, a2, a3, a4⟩ := badL_inv h.1
  obtain ⟨b1, b2⟩ := badV_inv h.2
  obtain ⟨d1, d2⟩ := oth_mem hd
  have inj : ∀ s : List Nat, s.Nodup → (∀ x ∈ s, x ∈ l) → (rp c d s).Nodup := fun s => by
    induction s with
    | nil => exact fun _ _ => .nil
    | cons x s ih =>
      intro hn hs
      obtain ⟨n1, n2⟩ := List.nodup_cons.mp hn
      have hx := hs x List.mem_cons_self
      show ((if x = c then d else x) :: rp c d s).Nodup
      refine List.nodup_cons.mpr ⟨fun hm => ?_, ih n2 fun y hy => hs y (List.mem_cons_of_mem _ hy)⟩
      obtain ⟨y, hy, e⟩ := List.mem_map.mp hm
      have hyl := hs y (List.mem_cons_of_mem _ hy)
      by_cases e1 : x = c
      · rw [if_pos e1] at e
        by_cases e2 : y = c
        · exact n1 (by rw [e1, ← e2]; exact hy)
        · rw [if_neg e2] at e; exact d2 (e ▸ hyl)
      · rw [if_neg e1] at e
        by_cases e2 : y = c
        · rw [if_pos e2] at e; exact d2 (e ▸ hx)
        · rw [if_neg e2] at e; exact n1 (e ▸ hy)
  have len : (rp c d l).length = l.length := List.length_map _
  refine ⟨badL_ok (by omega) (by omega) (inj l a3 fun _ h => h) fun x hx => ?_, badV_ok (inj v b1 b2) fun x hx => ?_⟩
  · obtain ⟨y, hy, e⟩ := List.mem_map.mp hx
    rw [← e]
    split
    · exact d1
    · exact a4 y hy
  · obtain ⟨y, hy, e⟩ := List.mem_map.mp hx
    exact List.mem_map.mpr ⟨y, b2 y hy, e⟩
theorem good_cons {l v : List Nat} {d : Nat} (h : good l v) (hl : l.length < 4) (hd : d ∈ oth l) : good (d :: l) v := by
  obtain ⟨a1, a2, a3, a4⟩ := badL_inv h.1
  obtain ⟨b1, b2⟩ := badV_inv h.2
  obtain ⟨d1, d2⟩ := oth_mem hd
  refine ⟨badL_ok (by simp) (by simp; omega) (List.nodup_cons.mpr ⟨d2, a3⟩) fun x hx => ?_, badV_ok b1 fun x hx => List.mem_cons_of_mem _ (b2 x hx)⟩
  rcases List.mem_cons.mp hx with rfl | hx
  · exact d1
  · exact a4 x hx
theorem occ_hd {c : Nat} {r b : List Nat} (h : occ (c :: r) b = true) : c ∈ b := by
  obtain ⟨i, h1, h2⟩ := (PySem.StrLaws.found_iff (S b) (S (c :: r))).mp h
  unfold Builtin.Str.subAt at h2
  have h3 := eq_of_beq h2
  have h4 := congrArg Array.toList h3
  have e1 : (S (c :: r)).cps.toList = c :: r := rfl
  rw [Array.toList_extract, e1] at h4
  have h5 : c ∈ (b.drop i).take ((S (c :: r)).length) := by
    have e2 : (S b).cps.toList = b := rfl
    rw [e2] at h4
    have : c ∈ List.extract b i (i + (S (c :: r)).length) := by rw [h4]; exact List.mem_cons_self
    rw [List.extract_eq_take_drop] at this
    rw [show i + (S (c :: r)).length - i = (S (c :: r)).length by omega] at this
    exact this
  exact List.mem_of_mem_drop (List.mem_of_mem_take h5)
theorem occ2 {c : Nat} {r b : List Nat} (h : ¬ c ∈ b) : occ (c :: r) b = false := Bool.eq_false_iff.mpr fun z => h (occ_hd z)
theorem scn_c {sg : List Nat} {f i c : Nat} {r g : List Nat} {ms : List (List Nat)} : scn sg (f + 1) (c :: r) i g ms =
    if c ∈ SK then (match r with
      | [] => (((i + 1 : Nat) : Int), ms)
      | d :: r' => if d ∈ sg then scn sg f r' (i + 2) g (ms ++ [[c, d]]) else (((i + 1 : Nat) : Int), ms))
    else if c ∈ BK then (match ga g c (fr ms) with
      | none => ((i : Int), ms)
      | some g' => scn sg f r (i + 1) g' (ms ++ [[c]]))
    else if c ∈ PK then scn sg f r (i + 1) g (ms ++ [[c]])
    else ((i : Int), ms) := by
  cases r <;> rfl
theorem scn_nil {sg : List Nat} {f i : Nat} {g : List Nat} {ms : List (List Nat)} : scn sg (f + 1) [] i g ms = if g = [] then (-1, ms) else ((i : Int), ms) := rfl
theorem scn_2 {sg : List Nat} {f i c d : Nat} {r g : List Nat} {ms : List (List Nat)} (h : c ∈ SK) (h2 : d ∈ sg) : scn sg (f + 1) (c :: d :: r) i g ms = scn sg f r (i + 2) g (ms ++ [[c, d]]) := by
  rw [scn_c, if_pos h]; show (if d ∈ sg then _ else _) = _; rw [if_pos h2]
theorem scn_2e {sg : List Nat} {f i c : Nat} {r g : List Nat} {ms : List (List Nat)} (h : c ∈ SK) (h2 : ∀ d, r[0]? = some d → ¬ d ∈ sg) : (scn sg (f + 1) (c :: r) i g ms).1 = ((i + 1 : Nat) : Int) := by
  rw [scn_c, if_pos h]
  cases r with
  | nil => rfl
  | cons d r => show (if d ∈ sg then _ else (((i + 1 : Nat) : Int), ms)).1 = _; rw [if_neg (h2 d rfl)]
theorem scn_b {sg : List Nat} {f i c : Nat} {r g g' : List Nat} {ms : List (List Nat)} (h : ¬ c ∈ SK) (h2 : c ∈ BK) (h3 : ga g c (fr ms) = some g') : scn sg (f + 1) (c :: r) i g ms = scn sg f r (i + 1) g' (ms ++ [[c]]) := by
  rw [scn_c, if_neg h, if_pos h2, h3]
theorem scn_be {sg : List Nat} {f i c : Nat} {r g : List Nat} {ms : List (List Nat)} (h : ¬ c ∈ SK) (h2 : c ∈ BK) (h3 : ga g c (fr ms) = none) : (scn sg (f + 1) (c :: r) i g ms).1 = (i : Int) := by
  rw [scn_c, if_neg h, if_pos h2, h3]
theorem scn_p {sg : List Nat} {f i c : Nat} {r g : List Nat} {ms : List (List Nat)} (h : ¬ c ∈ SK) (h2 : ¬ c ∈ BK) (h3 : c ∈ PK) : scn sg (f + 1) (c :: r) i g ms = scn sg f r (i + 1) g (ms ++ [[c]]) := by
  rw [scn_c, if_neg h, if_neg h2, if_pos h3]
theorem scn_e {sg : List Nat} {f i c : Nat} {r g : List Nat} {ms : List (List Nat)} (h : ¬ c ∈ SK) (h2 : ¬ c ∈ BK) (h3 : ¬ c ∈ PK) : (scn sg (f + 1) (c :: r) i g ms).1 = (i : Int) := by
  rw [scn_c, if_neg h, if_neg h2, if_neg h3]
theorem ga_len {g g' : List Nat} {c : Nat} {f : Bool} (h : ga g c f = some g') (hg : g.length ≤ 4) : g'.length ≤ 4 := by
  unfold ga at h
  repeat' split at h
  all_goals first
    | (cases h; done)
    | (injection h with h; subst h; simp only [List.length_append, List.length_dropLast, List.length_cons, List.length_nil]; omega)
    | (rename_i z
       injection h with h
       subst h
       have h0 : g ≠ [] := fun e => by rw [e] at z; cases z.1
       have := List.length_pos_iff.mpr h0
       simp only [List.length_append, List.length_dropLast, List.length_cons, List.length_nil]; omega)
theorem fr_nil : fr [] = false := rfl
theorem fr_1 {ms : List (List Nat)} {c : Nat} : fr (ms ++ [[c]]) = decide (c ∈ OB) := by unfold fr; rw [List.getLast?_append]; rfl
theorem fr_2 {ms : List (List Nat)} {c d : Nat} : fr (ms ++ [[c, d]]) = false := by unfold fr; rw [List.getLast?_append]; rfl
theorem tks_app {ks : List (List Nat)} {m : List Nat} : tks (ks ++ [m]) = .lst (ks.map (fun k => V.str (S k)) ++ [.str (S m)]) := by unfold tks; rw [List.map_append]; rfl
theorem scn_len {sg : List Nat} : ∀ {f i : Nat} {r g : List Nat} {ms : List (List Nat)} (_ : True), (scn sg f r i g ms).2.length ≤ ms.length + r.length
  | 0, _, _, _, _, _ => by show _ ≤ _; exact Nat.le_add_right _ _
  | f + 1, i, [], g, ms, _ => by
    rw [scn_nil]; split <;> exact Nat.le_add_right _ _
  | f + 1, i, c :: r, g, ms, _ => by
    rw [scn_c]
    split
    · cases r with
      | nil => exact Nat.le_add_right _ _
      | cons d r =>
        show (if d ∈ sg then scn sg f r (i + 2) g (ms ++ [[c, d]]) else (((i + 1 : Nat) : Int), ms)).2.length ≤ _
        split
        · refine Nat.le_trans (scn_len trivial) ?_
          simp only [List.length_append, List.length_cons, List.length_nil]; omega
        · exact Nat.le_add_right _ _
    · split
      · split
        · exact Nat.le_add_right _ _
        · refine Nat.le_trans (scn_len trivial) ?_
          simp only [List.length_append, List.length_cons, List.length_nil]; omega
      · split
        · refine Nat.le_trans (scn_len trivial) ?_
          simp only [List.length_append, List.length_cons, List.length_nil]; omega
        · exact Nat.le_add_right _ _
theorem okm_app {sg : List Nat} {ms : List (List Nat)} {m : List Nat} (h : ∀ x ∈ ms, okm sg x) (hm : okm sg m) : ∀ x ∈ ms ++ [m], okm sg x := fun x hx => by
  rcases List.mem_append.mp hx with hx | hx
  · exact h x hx
  · rw [List.mem_singleton.mp hx]; exact hm
theorem scn_ok {sg : List Nat} : ∀ {f i : Nat} {r g : List Nat} {ms : List (List Nat)}, (∀ m ∈ ms, okm sg m) → ∀ m ∈ (scn sg f r i g ms).2, okm sg m
  | 0, _, _, _, _, h => h
  | f + 1, i, [], g, ms, h => by rw [scn_nil]; split <;> exact h
  | f + 1, i, c :: r, g, ms, h => by
    rw [scn_c]
    split
    · rename_i h1
      cases r with
      | nil => exact h
      | cons d r =>
        show ∀ m ∈ (if d ∈ sg then scn sg f r (i + 2) g (ms ++ [[c, d]]) else (((i + 1 : Nat) : Int), ms)).2, okm sg m
        split
        · rename_i h2
          exact scn_ok (okm_app h (.inr ⟨c, d, rfl, h1, h2⟩))
        · exact h
    · split
      · rename_i h2
        split
        · exact h
        · exact scn_ok (okm_app h (.inl ⟨c, rfl, .inl h2⟩))
      · split
        · rename_i h2
          exact scn_ok (okm_app h (.inl ⟨c, rfl, .inr h2⟩))
        · exact h
/-- a scan that ends well goes on with what follows -/
theorem scn_app {sg t : List Nat} : ∀ {f f' i : Nat} {r g : List Nat} {ms ms' : List (List Nat)}, scn sg f r i g ms = (-1, ms') → t.length + r.length < f' → ∃ f2 i2, t.length < f2 ∧ scn sg f' (r ++ t) i g ms = scn sg f2 t i2 [] ms'
  | 0, _, i, _, _, _, _, h, _ => by injection h with h _; omega
  | f + 1, f', i, [], g, ms, ms', h, hf => by
    rw [scn_nil] at h
    split at h
    · rename_i e
      injection h with _ h; subst h; subst e
      exact ⟨f', i, by simpa using hf, rfl⟩
    · injection h with h _; omega
  | f + 1, f', i, c :: r, g, ms, ms', h, hf => by
    obtain ⟨f', rfl⟩ : ∃ k, f' = k + 1 := ⟨f' - 1, by omega⟩
    rw [List.length_cons] at hf
    rw [scn_c] at h
    rw [List.cons_append, scn_c]
    split at h
    · rename_i h1
      rw [if_pos h1]
      cases r with
      | nil => injection h with h _; omega
      | cons d r =>
        replace h : (if d ∈ sg then scn sg f r (i + 2) g (ms ++ [[c, d]]) else (((i + 1 : Nat) : Int), ms)) = (-1, ms') := h
        show ∃ f2 i2, _ ∧ (if d ∈ sg then scn sg f' (r ++ t) (i + 2) g (ms ++ [[c, d]]) else (((i + 1 : Nat) : Int), ms)) = _
        rw [List.length_cons] at hf
        split at h
        · rename_i h2
          rw [if_pos h2]
          exact scn_app h (by omega)
        · injection h with h _; omega
    · rename_i h1
      rw [if_neg h1]
      split at h
      · rename_i h2
        rw [if_pos h2]
        split at h
        · injection h with h _; omega
        · rename_i g' hg
          exact scn_app h (by omega)
      · rename_i h2
        rw [if_neg h2]
        split at h
        · rename_i h3
          rw [if_pos h3]
          exact scn_app h (by omega)
        · injection h with h _; omega
theorem ga_nil {c : Nat} {F F' : Bool} : ga [] c F = ga [] c F' := by
  unfold ga; simp
/-- marks ahead change nothing -/
theorem scn_pre {sg : List Nat} {ms0 : List (List Nat)} : ∀ {f f' i j : Nat} {r g : List Nat} {ms ms' : List (List Nat)}, scn sg f r i g ms = (-1, ms') → (g = [] ∨ ms ≠ []) → r.length < f' → scn sg f' r j g (ms0 ++ ms) = (-1, ms0 ++ ms')
  | 0, _, i, _, _, _, _, _, h, _, _ => by injection h with h _; omega
  | f + 1, f', i, j, [], g, ms, ms', h, _, hf => by
    obtain ⟨f', rfl⟩ : ∃ k, f' = k + 1 := ⟨f' - 1, by omega⟩
    rw [scn_nil] at h ⊢
    split at h
    · rename_i e
      injection h with _ h; subst h
      rw [if_pos e]
    · injection h with h _; omega
  | f + 1, f', i, j, c :: r, g, ms, ms', h, hg0, hf => by
    obtain ⟨f', rfl⟩ : ∃ k, f' = k + 1 := ⟨f' - 1, by omega⟩
    rw [List.length_cons] at hf
    rw [scn_c] at h ⊢
    split at h
    · rename_i h1
      rw [if_pos h1]
      cases r with
      | nil => injection h with h _; omega
      | cons d r =>
        replace h : (if d ∈ sg then scn sg f r (i + 2) g (ms ++ [[c, d]]) else (((i + 1 : Nat) : Int), ms)) = (-1, ms') := h
        show (if d ∈ sg then scn sg f' r (j + 2) g ((ms0 ++ ms) ++ [[c, d]]) else (((j + 1 : Nat) : Int), ms0 ++ ms)) = _
        rw [List.length_cons] at hf
        split at h
        · rename_i h2
          rw [if_pos h2, List.append_assoc]
          exact scn_pre h (.inr (by simp)) (by omega)
        · injection h with h _; omega
    · rename_i h1
      rw [if_neg h1]
      split at h
      · rename_i h2
        rw [if_pos h2]
        have e : ga g c (fr (ms0 ++ ms)) = ga g c (fr ms) := by
          rcases hg0 with rfl | hm
          · exact ga_nil
          · rcases List.eq_nil_or_concat ms with z | ⟨a, b, z⟩
            · exact absurd z hm
            · rw [z, List.concat_eq_append, ← List.append_assoc]
              unfold fr; rw [List.getLast?_append, List.getLast?_append (l := a)]; rfl
        rw [e]
        split at h
        · injection h with h _; omega
        · rename_i g' hg
          rw [List.append_assoc]
          exact scn_pre h (.inr (by simp)) (by omega)
      · rename_i h2
        rw [if_neg h2]
        split at h
        · rename_i h3
          rw [if_pos h3, List.append_assoc]
          exact scn_pre h (.inr (by simp)) (by omega)
        · injection h with h _; omega
theorem scan_app {sg n m : List Nat} {ms ms' : List (List Nat)} (h : scan sg n = (-1, ms)) (h' : scan sg m = (-1, ms')) : scan sg (n ++ m) = (-1, ms ++ ms') := by
  obtain ⟨f2, i2, hf, e⟩ := scn_app (t := m) (f' := (n ++ m).length + 1) h (by rw [List.length_append]; omega)
  show scn sg ((n ++ m).length + 1) (n ++ m) 0 [] [] = _
  rw [e]
  have := scn_pre (ms0 := ms) (f' := f2) (j := i2) h' (.inl rfl) hf
  rwa [List.append_nil] at this
theorem kof_app {ms ms' : List (List Nat)} : kof (ms ++ ms') = kof ms ++ kof ms' := List.filter_append ..
theorem set_last {l : List Nat} {a : Nat} (h : 0 < l.length) : (sgn l).set (l.length - 1) (.str (S [a])) = sgn (l.dropLast ++ [a]) := by
  rcases List.eq_nil_or_concat l with e | ⟨b, c, e⟩
  · rw [e] at h; cases h
  · rw [e, List.concat_eq_append, List.dropLast_concat]
    unfold sgn
    rw [List.map_append, List.map_append, List.set_append_right _ _ (by simp)]
    simp
theorem inV_sk {d : Nat} (h : ¬ d ∈ SK) : inV (V.str (S [d])) [V.str (S [39]), V.str (S [61]), V.str (S [47])] = false := by
  simp only [SK, List.mem_cons, List.not_mem_nil, or_false, not_or] at h
  unfold inV
  simp [eqV]
  exact ⟨fun e => h.1 e.symm, fun e => h.2.1 e.symm, fun e => h.2.2 e.symm⟩
theorem inV_sk2 {d : Nat} (h : d ∈ SK) : inV (V.str (S [d])) [V.str (S [39]), V.str (S [61]), V.str (S [47])] = true := by
  simp only [SK, List.mem_cons, List.not_mem_nil, or_false] at h
  rcases h with rfl | rfl | rfl <;> decide
theorem inV_ok {sg k : List Nat} {ms : List (List Nat)} (hm : ∀ m ∈ ms, okm sg m) (hk : k ∈ kof ms) : inV (V.str (S k)) [V.str (S [39]), V.str (S [61]), V.str (S [47])] = false := by
  rcases hm k (List.mem_filter.mp hk).1 with ⟨d, rfl, hd⟩ | ⟨d, d', rfl, hd, _⟩
  · refine inV_sk fun z => ?_
    simp only [SK, PK, BK, List.mem_cons, List.not_mem_nil, or_false] at hd z; omega
  · unfold inV
    simp [eqV]
theorem scn_low {sg : List Nat} : ∀ {f i : Nat} {r g : List Nat} {ms : List (List Nat)}, low r → (∀ m ∈ ms, low m) → ∀ m ∈ (scn sg f r i g ms).2, low m
  | 0, _, _, _, _, _, h => h
  | f + 1, i, [], g, ms, _, h => by rw [scn_nil]; split <;> exact h
  | f + 1, i, c :: r, g, ms, hr, h => by
    have app : ∀ {m : List Nat}, low m → ∀ x ∈ ms ++ [m], low x := fun hm x hx => by
      rcases List.mem_append.mp hx with hx | hx
      · exact h x hx
      · rw [List.mem_singleton.mp hx]; exact hm
    have hc : low [c] := fun d hd => by rw [List.mem_singleton.mp hd]; exact hr c List.mem_cons_self
    have hr1 : low r := fun d hd => hr d (List.mem_cons_of_mem _ hd)
    rw [scn_c]
    split
    · cases r with
      | nil => exact h
      | cons d r =>
        show ∀ m ∈ (if d ∈ sg then scn sg f r (i + 2) g (ms ++ [[c, d]]) else (((i + 1 : Nat) : Int), ms)).2, low m
        split
        · exact scn_low (fun d hd => hr1 d (List.mem_cons_of_mem _ hd)) (app fun x hx => by
            simp only [List.mem_cons, List.not_mem_nil, or_false] at hx
            rcases hx with rfl | rfl
            · exact hr _ List.mem_cons_self
            · exact hr1 _ List.mem_cons_self)
        · exact h
    · split
      · split
        · exact h
        · exact scn_low hr1 (app hc)
      · split
        · exact scn_low hr1 (app hc)
        · exact h
theorem scn_ge {sg : List Nat} : ∀ {f i : Nat} {r g : List Nat} {ms : List (List Nat)}, (scn sg f r i g ms).1 = -1 ∨ 0 ≤ (scn sg f r i g ms).1
  | 0, i, _, _, _ => .inr (Int.natCast_nonneg i)
  | f + 1, i, [], g, ms => by rw [scn_nil]; split; exact .inl rfl; exact .inr (Int.natCast_nonneg i)
  | f + 1, i, c :: r, g, ms => by
    rw [scn_c]
    split
    · cases r with
      | nil => exact .inr (Int.natCast_nonneg _)
      | cons d r =>
        show (if d ∈ sg then scn sg f r (i + 2) g (ms ++ [[c, d]]) else (((i + 1 : Nat) : Int), ms)).1 = -1 ∨ 0 ≤ (if d ∈ sg then scn sg f r (i + 2) g (ms ++ [[c, d]]) else (((i + 1 : Nat) : Int), ms)).1
        split
        · exact scn_ge
        · exact .inr (Int.natCast_nonneg _)
    · split
      · split
        · exact .inr (Int.natCast_nonneg _)
        · exact scn_ge
      · split
        · exact scn_ge
        · exact .inr (Int.natCast_nonneg _)
-- two addresses
local macro_rules | `(tactic| and_intros) => `(tactic| first
  | assumption
  | (apply Ne.symm; assumption)
  | (apply ne_x; (focus assumption); (focus (apply Exists.intro; contradiction)))
  | (apply ne_y; (focus assumption); (focus (apply Exists.intro; contradiction))))
-- heap facts
local macro_rules | `(tactic| contradiction) => `(tactic| first
  | assumption
  | with_reducible exact upd_at
  | ((first | (apply upd_fr; (focus assumption)) | (apply upd_off; (focus and_intros))); contradiction)
  | (apply Kp.get0; (focus assumption); contradiction)
  | (apply Kp.get1; (focus assumption); (focus contradiction); (focus and_intros))
  | (apply Kp.get2; (focus assumption); (focus contradiction); (focus and_intros); (focus and_intros)))
-- what is kept
local macro_rules | `(tactic| nofun) => `(tactic| first
  | exact Kp.rfl'
  | assumption
  | (apply Kp.nil; assumption)
  | (apply Kp.at; (focus nofun); (focus first | exact List.mem_cons_self | exact List.mem_cons_of_mem _ List.mem_cons_self))
  | (apply Kp.new; (focus nofun); (focus assumption))
  | (apply Kp.own; (focus nofun); (focus assumption))
  | (apply Kp.trans; rotate_left 1; (focus (first | assumption | (apply Kp.nil; assumption))); (focus nofun)))
-- side facts
local macro_rules | `(tactic| bv_omega) => `(tactic| first
  | with_reducible assumption
  | omega
  | (with_reducible refine lim_of ?_; omega)
  | (simp only [tl, S, List.toList_toArray, srt_len, sgn_len, List.length_append, List.length_cons, List.length_nil, List.length_take, List.length_drop, List.length_map, List.length_set, cut_to, cut_from, cut_both, cut_one, cut_fr1, cut_t1]; omega)
  | (with_reducible refine lim_of ?_; simp only [tl, S, List.toList_toArray, srt_len, sgn_len, List.length_append, List.length_cons, List.length_nil, List.length_take, List.length_drop, List.length_map, List.length_set, cut_to, cut_from, cut_both, cut_one, cut_fr1, cut_t1]; omega)
  | exact rfl
  | exact flat_k _
  | (refine rg_ok ?_ ?_ ?_ ?_ <;> omega)
  | (refine rg_ok ?_ ?_ ?_ ?_ <;> (simp only [tl, S, List.toList_toArray, List.length_cons, List.length_nil]; omega))
  | (refine And.intro ?_ ?_ <;> omega)
  | (refine Or.inr (And.intro ?_ ?_) <;> omega)
  | (refine Or.inl (And.intro ?_ ?_) <;> omega)
  | (dsimp only; omega)
  | (refine And.intro ?_ ?_ <;> (simp only [tl, S, List.toList_toArray, srt_len, sgn_len, List.length_append, List.length_cons, List.length_nil, List.length_take, List.length_drop, List.length_map, List.length_set, cut_to, cut_from, cut_both, cut_one, cut_fr1, cut_t1]; omega))
  | (show _ < 1000; exact Nat.le_of_ble_eq_true (Eq.refl true))
  | (rw [sizeLine_eq]; exact Nat.le_of_ble_eq_true (Eq.refl true))
  | (with_reducible refine lim_of ?_; simp only [tl, S, List.toList_toArray, srt_len, sgn_len, List.length_append, List.length_cons, List.length_nil, List.length_take, List.length_drop, List.length_map, List.length_set, cut_to, cut_from, cut_both, cut_one, cut_fr1, cut_t1]; grind [cut_len])
  | assumption)
-- one step
local macro_rules | `(tactic| ac_rfl) => `(tactic| (conv => whnf) <;> first
  | (with_reducible intro _)
  | ((with_reducible refine look_id ?_); apply look_i; (focus contradiction))
  | ((with_reducible refine itm_id ?_); first
    | (refine itm_i (by first | rfl | assumption) ?_)
    | (refine itm_0 ?_)
    | (refine itm_1 ?_)
    | (apply itm_z0; (focus omega))
    | (apply itm_z1; (focus omega))
    | (apply itm_2; (focus omega); (focus omega))
    | (apply itm_3; (focus omega); (focus omega))
    | (apply itm_k; (focus bv_omega); (focus bv_omega))
    | (apply itm_s; (focus bv_omega); (focus bv_omega)))
  | ((with_reducible refine fld_id ?_); refine fld_i (by first | rfl | assumption) ?_)
  | ((with_reducible refine isa_id ?_); first
    | (refine isa_1 rfl (by first | assumption | rfl) ?_)
    | (apply isa_t; (focus contradiction); (focus rfl); (focus assumption)))
  | ((with_reducible refine joi_id ?_); refine joi_i ?_ ?_; (focus bv_omega))
  | ((with_reducible refine cnd_id ?_); first
    | (refine cnd_t (Eq.refl true) ?_)
    | (refine cnd_f (Eq.refl false) ?_)
    | (refine cnd_n ?_)
    | (refine cnd_t (by with_reducible assumption) ?_)
    | (refine cnd_f (by with_reducible assumption) ?_)
    | (apply cnd_t; (focus (apply decide_eq_true; omega)))
    | (apply cnd_f; (focus (apply decide_eq_false; omega)))
    | (refine cnd_d (fun _ => ?_) (fun _ => ?_))
    | (refine cnd_i (fun _ => ?_) (fun _ => ?_)))
  | (refine wn_i ?_)
  | (with_reducible refine pick_1 ?_)
  | (with_reducible refine pick_n ?_)
  | (refine i_all_different ?_ ?_; (focus bv_omega))
  | (apply i_Alphabet_eqS; (focus contradiction))
  | (apply i_Alphabet_eq; (focus contradiction); (focus contradiction))
  | (apply i_l_take; (focus contradiction); (focus contradiction); (focus assumption); (focus bv_omega); (focus bv_omega))
  | (apply i_l_whole; (focus first | rfl | assumption | omega))
  | (apply i_l_box; (focus contradiction); (focus bv_omega); (focus bv_omega))
  | (apply i_l_letters; (focus contradiction); (focus contradiction); (focus assumption); (focus bv_omega); (focus bv_omega))
  | (apply i_l_vowels; (focus contradiction); (focus contradiction); (focus assumption); (focus assumption))
  | (apply i_l_world; (focus contradiction); (focus omega); (focus bv_omega))
  | ((with_reducible refine d_Recording_all_keys ?_); apply i_Recording_all_keys; (focus contradiction); (focus contradiction); (focus bv_omega))
  | ((with_reducible refine d_Recording_len ?_); apply i_Recording_len; (focus contradiction); (focus contradiction); (focus bv_omega))
  | ((with_reducible refine d_Recording_str ?_); apply i_Recording_str; (focus contradiction); (focus bv_omega))
  | ((with_reducible refine and_id ?_); first
    | (refine And.intro (fun (_ : true = true) => ?_) (fun (z : true = false) => Bool.noConfusion z))
    | (refine And.intro (fun (z : false = true) => Bool.noConfusion z) (fun (_ : false = false) => ?_))
    | (refine And.intro ?_ ?_; (focus bv_omega))
    | (refine And.intro (sd_e ?_) ?_))
  | ((with_reducible refine ex_id ?_); first
    | (refine Exists.intro _ (And.intro (by first | rfl | assumption) ?_))
    | (apply ixs_i; (focus bv_omega); (focus bv_omega)))
  | (intro _))


theorem rd_l_whole {K : PySem.W.Frag} {mg : Str → Option Value} (T : Tx K mg) : ∀ vs H Q E, sp_l_whole K vs H Q E → t_l_whole K (WD E) (EndD Q) (start ["_law_told", "_law_due"] vs) H := by
  intro vs H Q E h
  replace h := h.out
  obtain ⟨a, rfl, q⟩ := h
  cases T
  repeat' ac_rfl
  all_goals (try (conv => whnf))
  exact q_bl (decide_eq_true rfl) q


theorem rd_all_different {K : PySem.W.Frag} {mg : Str → Option Value} (T : Tx K mg) : ∀ vs H Q E, sp_all_different K vs H Q E → t_all_different K (WD E) (EndD Q) (start ["string"] vs) H := by
  intro vs H Q E h
  replace h := h.out
  obtain ⟨l, rfl, h1, q⟩ := h
  repeat' ac_rfl
  all_goals (conv => whnf)
  exact q


theorem rd_Alphabet_init {K : PySem.W.Frag} {mg : Str → Option Value} (T : Tx K mg) : ∀ vs H Q E, sp_Alphabet_init K vs H Q E → t_Alphabet_init K (WD E) (EndD Q) (start ["self", "letters", "vowels", "foreign", "sign"] vs) H := by
  intro vs H Q E h
  replace h := h.out
  obtain ⟨a, dx, l, v, rfl, ha, h1, h2, q1, q2, q3⟩ := h
  cases T
  have g1 : (tl (S l)).length < 64 := h1
  have g2 : (tl (S v)).length < 64 := h2
  conv => whnf
  refine lcp_f (fun c => !decide (c ∈ AZ)) (by omega) ?_ ?_ (fun _ => rfl) ?_
  · rintro c D _ Q' hD hc ⟨xs, rfl⟩ q
    exact q
  · intro c H' Q' q
    exact q
  intro D hD
  repeat' ac_rfl
  all_goals (try (conv => whnf))
  rotate_left 1
  · rename_i d hd; exact q1 (badL4 (by assumption)) _ d (Kp.rfl'.new hD) hd
  · rename_i d hd; exact q1 (badL3 (by assumption)) _ d (Kp.rfl'.new hD) hd
  · rename_i d hd; exact q1 (badL2 (by assumption)) _ d (Kp.rfl'.new hD) hd
  · rename_i d hd; exact q1 (badL1 (by assumption)) _ d (Kp.rfl'.new hD) hd
  have hL : badL l = false := badL0 (by assumption) (by assumption) (by assumption) (by assumption)
  refine lcp_f (fun c => !decide (c ∈ l)) (by omega) ?_ ?_ (fun _ => rfl) ?_
  · rintro c D _ Q' hD hc ⟨xs, rfl⟩ q
    exact q
  · intro c H' Q' q
    exact q
  intro D2 hD2
  repeat' ac_rfl
  all_goals (try (conv => whnf))
  rotate_left 1
  · rename_i d hd; exact q2 hL (badV2 (by assumption)) _ d (by nofun) hd
  · rename_i d hd; exact q2 hL (badV1 (by assumption)) _ d (by nofun) hd
  have hV : badV l v = false := badV0 (by assumption) (by assumption)
  have q3 := q3 hL hV
  refine lcp_l (by contradiction) (fun c => !decide (c ∈ v)) (by bv_omega) ?_ ?_ (fun _ => rfl) ?_
  · rintro c D _ Q' hD hc ⟨xs, rfl⟩ q
    exact q
  · intro c H' Q' q
    exact q
  intro D3 hD3
  have hfl : ((srt (tl (S l))).filter fun c => !decide (c ∈ v)).length ≤ 1000000 := Nat.le_trans (List.length_filter_le _ _) (by bv_omega)
  repeat' ac_rfl
  all_goals (try (conv => whnf))
  exact q3 _ (by nofun) (upd_at.trans rfl)


theorem rd_Alphabet_eq {K : PySem.W.Frag} {mg : Str → Option Value} (T : Tx K mg) : ∀ vs H Q E, sp_Alphabet_eq K vs H Q E → t_Alphabet_eq K (WD E) (EndD Q) (start ["self", "other"] vs) H := by
  intro vs H Q E h
  replace h := h.out
  obtain ⟨a, b, dx, dy, l, v, m, u, rfl, ha, hb, q⟩ := h
  cases T
  repeat' ac_rfl
  all_goals (conv => whnf)
  · rename_i x
    have x : srt l = srt m := x
    rw [decide_eq_true x, Bool.true_and] at q
    exact q
  · rename_i x
    have x : ¬ srt l = srt m := x
    rw [decide_eq_false x, Bool.false_and] at q
    rw [decide_eq_false (show ¬ tl (S (srt l)) = tl (S (srt m)) from x)]
    exact q


theorem rd_check_alphabets {K : PySem.W.Frag} {mg : Str → Option Value} (T : Tx K mg) : ∀ vs H Q E, sp_check_alphabets K vs H Q E → t_check_alphabets K (WD E) (EndD Q) (start ["alphabets", "alphabet"] vs) H := by
  intro vs H Q E h
  replace h := h.out
  obtain ⟨p, A, A', dA, dA', l, v, l', v', rfl, hp, hA, hA', q1, q2⟩ := h
  have T0 := T
  cases T
  repeat' ac_rfl
  all_goals (try (conv => whnf))
  refine loop_l (fun i σ H' => Sd (∃ v1 : Option V, σ = [some (.ref p), v1] ∧ H' = H ∧ (i = 2 → srt l = srt l' ∧ srt v = srt v'))) ?_ ?_ ?_ ?_
  · exact sd_i ⟨none, rfl, rfl, fun z => by cases z⟩
  · rintro i σ H' hi hP
    obtain ⟨v1, rfl, rfl, _⟩ := sd_e hP
    exact hp
  · rintro i hi σ H' hP
    obtain ⟨v1, rfl, rfl, _⟩ := sd_e hP
    match i, hi with
    | 0, _ =>
      show b_check_alphabets_1 K (WD E) _ ([some (V.ref p), v1].set 1 (some (V.ref A))) H'
      repeat' ac_rfl
      all_goals (try (conv => whnf))
      exact sd_i ⟨_, rfl, rfl, fun z => by omega⟩
    | 1, _ =>
      show b_check_alphabets_1 K (WD E) _ ([some (V.ref p), v1].set 1 (some (V.ref A'))) H'
      repeat' ac_rfl
      all_goals (try (conv => whnf))
      · rename_i x
        simp only [Bool.and_eq_true, decide_eq_true_eq] at x
        exact sd_i ⟨_, rfl, rfl, fun _ => ⟨x.1.symm, x.2.symm⟩⟩
      · rename_i x
        refine q2 fun z => ?_
        rw [decide_eq_true z.1.symm, decide_eq_true z.2.symm] at x; cases x
  · rintro σ H' hP
    obtain ⟨v1, rfl, rfl, h2⟩ := sd_e hP
    exact q1 (h2 rfl)


theorem rd_mark_length {K : PySem.W.Frag} {mg : Str → Option Value} (T : Tx K mg) : ∀ vs H Q E, sp_mark_length K vs H Q E → t_mark_length K (WD E) (EndD Q) (start ["alphabet", "notation", "at", "sign"] vs) H := by
  intro vs H Q E h
  replace h := h.out
  obtain ⟨A, dA, l, v, n, i, c, rfl, hA, hc, hn, q1, q2, q3, q4⟩ := h
  have T0 := T
  cases T
  obtain ⟨hi, ec⟩ := List.getElem?_eq_some_iff.mp hc
  have ej : ∀ j (h : j < n.length), (i : Int) = j → n[j] = c := fun j h e => by
    have : j = i := by omega
    subst this; exact ec
  have ej2 : ∀ j (h : j < n.length), (i : Int) + 1 = j → n[i + 1]? = some n[j] := fun j h e => by
    have : j = i + 1 := by omega
    subst this; exact List.getElem?_eq_getElem h
  repeat' ac_rfl
  all_goals (try (conv => whnf))
  · rename_i j hj e x y d hd
    have x : n[j] ∈ SK := x
    have y : (i : Int) + 1 = (n.length : Int) := y
    rw [ej j hj e] at x
    exact q2 x (fun d h => by rw [List.getElem?_eq_none (by omega)] at h; cases h) d hd
  · rename_i j hj e x y j2 hj2 e2 z
    have x : n[j] ∈ SK := x
    rw [ej j hj e] at x
    exact q1 _ x (ej2 j2 hj2 e2) z
  · rename_i j hj e x y j2 hj2 e2 z d hd
    have x : n[j] ∈ SK := x
    rw [ej j hj e] at x
    exact q2 x (fun d h => by rw [ej2 j2 hj2 e2] at h; cases h; exact z) d hd
  · rename_i j hj e x y
    have x : ¬ n[j] ∈ SK := x
    have y : n[j] ∈ PK := y
    rw [ej j hj e] at x y
    exact q3 x (.inl y)
  · rename_i j hj e x y z
    have x : ¬ n[j] ∈ SK := x
    have z : n[j] ∈ BK := z
    rw [ej j hj e] at x z
    exact q3 x (.inr z)
  · rename_i j hj e x y z d hd
    have x : ¬ n[j] ∈ SK := x
    have y : ¬ n[j] ∈ PK := y
    have z : ¬ n[j] ∈ BK := z
    rw [ej j hj e] at x y z
    exact q4 x y z d hd


theorem rd_groups_after {K : PySem.W.Frag} {mg : Str → Option Value} (T : Tx K mg) : ∀ vs H Q E, sp_groups_after K vs H Q E → t_groups_after K (WD E) (EndD Q) (start ["groups", "mark", "fresh"] vs) H := by
  intro vs H Q E h
  replace h := h.out
  obtain ⟨g, c, f, rfl, hc, hg, q⟩ := h
  have T0 := T
  cases T
  have e1 : ∀ {a : Nat}, tl (S [c]) = tl (S [a]) ↔ c = a := fun {a} => ⟨fun h => by injection h, fun h => by rw [h]⟩
  repeat' ac_rfl
  all_goals (try (conv => whnf))
  all_goals refine q_v ?_ q
  all_goals unfold ga
  · rename_i x y
    rw [if_pos (show c ∈ OB from x), if_pos (by have y : (g.length : Int) < 4 := y; omega)]
  · rename_i x y
    rw [if_pos (show c ∈ OB from x), if_neg (by have y : ¬ (g.length : Int) < 4 := y; omega)]
  · rename_i x y z w
    rw [if_neg (show ¬ c ∈ OB from x), if_pos (e1.mp y), if_neg (fun h => by rw [w] at h; cases h.2)]
  · rename_i x y z w
    rw [if_neg (show ¬ c ∈ OB from x), if_pos (e1.mp y), if_pos ⟨z, w⟩, cut_m1]
  · rename_i x y z
    rw [if_neg (show ¬ c ∈ OB from x), if_pos (e1.mp y), if_neg (fun h => z h.1)]
  · rename_i x y z u w
    rw [if_neg (show ¬ c ∈ OB from x), if_neg (fun h => y (e1.mpr h)), if_pos (e1.mp z), if_neg (fun h => by rw [w] at h; cases h.2)]
  · rename_i x y z u w
    rw [if_neg (show ¬ c ∈ OB from x), if_neg (fun h => y (e1.mpr h)), if_pos (e1.mp z), if_pos ⟨u, w⟩, cut_m1]
  · rename_i x y z u
    rw [if_neg (show ¬ c ∈ OB from x), if_neg (fun h => y (e1.mpr h)), if_pos (e1.mp z), if_neg (fun h => u h.1)]
  · rename_i x y z u
    rw [if_neg (show ¬ c ∈ OB from x), if_neg (fun h => y (e1.mpr h)), if_neg (fun h => z (e1.mpr h)), if_pos u, cut_m1]
  · rename_i x y z u
    rw [if_neg (show ¬ c ∈ OB from x), if_neg (fun h => y (e1.mpr h)), if_neg (fun h => z (e1.mpr h)), if_neg u]


theorem rd_marks_of {K : PySem.W.Frag} {mg : Str → Option Value} (T : Tx K mg) : ∀ vs H Q E, sp_marks_of K vs H Q E → t_marks_of K (WD E) (EndD Q) (start ["alphabet", "notation", "marks", "groups", "at", "mark", "fresh"] vs) H := by
  intro vs H Q E h
  replace h := h.out
  obtain ⟨A, dA, l, v, n, rfl, hA, hn, q⟩ := h
  have T0 := T
  cases T
  repeat' ac_rfl
  all_goals (try (conv => whnf))
  rename_i M hM
  refine whl_s (fun m σ H' => Sd (∃ (f i : Nat) (g : List Nat) (ms : List (List Nat)) (v5 v6 : Option V), σ = [some (.ref A), some (.str (S n)), some (.ref M), some (.str (S g)), some (.int i), v5, v6] ∧ Kp [] H H' ∧ H' M = some (tks ms) ∧ i ≤ n.length ∧ m = n.length - i ∧ n.length - i < f ∧ g.length ≤ 4 ∧ ms.length ≤ i ∧ (∀ m ∈ ms, okm (45 :: srt l) m) ∧ scan (45 :: srt l) n = scn (45 :: srt l) f (n.drop i) i g ms)) n.length ?_ ?_
  · exact sd_i ⟨n.length + 1, 0, [], [], none, none, rfl, Kp.rfl'.new hM, upd_at, by omega, by omega, by omega, by decide, by decide, (fun _ z => nomatch z), rfl⟩
  · rintro m σ H' hP
    obtain ⟨f, i, g, ms, v5, v6, rfl, kk, hM', hi, rfl, hf, hg, hms, hok, e⟩ := sd_e hP
    have hA' := kk.get0 hA
    obtain ⟨f, rfl⟩ : ∃ f', f = f' + 1 := ⟨f - 1, by omega⟩
    repeat' ac_rfl
    all_goals (try (conv => whnf))
    · rename_i x
      have x : (i : Int) < n.length := x
      have hil : i < n.length := by omega
      have ed := List.drop_eq_getElem_cons hil
      obtain ⟨c, hc⟩ : ∃ c, n[i] = c := ⟨_, rfl⟩
      rw [hc] at ed
      have hc2 : n[i]? = some c := by rw [List.getElem?_eq_getElem hil, hc]
      rw [ed] at e
      have hmap : (ms.map fun k => V.str (S k)).length = ms.length := List.length_map _
      have hap : ∀ m, upd H' M (.lst ((ms.map fun k => V.str (S k)) ++ [.str (S m)])) M = some (tks (ms ++ [m])) := fun m => by rw [tks_app]; exact upd_at
      have hokm : ∀ m, okm (45 :: srt l) m → ∀ x ∈ ms ++ [m], okm (45 :: srt l) x := fun m h x hx => by
        rcases List.mem_append.mp hx with hx | hx
        · exact hok x hx
        · rw [List.mem_singleton.mp hx]; exact h
      refine i_mark_length hA' hc2 hn ?_ ?_ ?_ ?_
      · intro d h1 h2 h3
        obtain ⟨hi2, e2⟩ := List.getElem?_eq_some_iff.mp h2
        have em : cut n (some (i : Int)) (some ((i : Int) + 2)) = [c, d] := by
          have e0 : cut n (some (i : Int)) (some ((i + 2 : Nat) : Int)) = (n.take (i + 2)).drop i := rfl
          rw [show (i : Int) + 2 = ((i + 2 : Nat) : Int) by omega, e0, List.drop_take, ed, List.drop_eq_getElem_cons hi2, e2, show i + 2 - i = 2 by omega]; rfl
        have ho : occ [c, d] BK = false := occ2 fun z => by
          simp only [SK, BK, List.mem_cons, List.not_mem_nil, or_false] at h1 z
          omega
        rw [List.drop_eq_getElem_cons hi2, e2, scn_2 h1 h3] at e
        conv => whnf
        rw [em]
        repeat' ac_rfl
        all_goals (try (conv => whnf))
        all_goals first
          | (exfalso
             have y : (Builtin.Str.occurrences (S BK) (S [c, d]) 0 (S BK).length 1).isEmpty = false := by assumption
             unfold occ at ho; rw [y] at ho; cases ho; done)
          | exact sd_i ⟨n.length - (i + 2), by omega, sd_i ⟨f, i + 2, g, ms ++ [[c, d]], _, _, rfl, kk.own hM, hap _, by omega, rfl, by omega, hg, by simp; omega, hokm _ (.inr ⟨c, d, rfl, h1, h3⟩), e⟩⟩
      · intro h1 h2 d hd
        refine recK_e q (e ▸ scn_2e h1 fun d hd => h2 d (by rw [List.getElem?_drop] at hd; exact hd)) (by omega) kk hd
      · intro h1 h2
        have em : cut n (some (i : Int)) (some ((i : Int) + 1)) = [c] := by rw [cut_one, ed]; rfl
        have hpost : ∀ g' v6, g'.length ≤ 4 → scan (45 :: srt l) n = scn (45 :: srt l) f (n.drop (i + 1)) (i + 1) g' (ms ++ [[c]]) → Sd (∃ m', m' < n.length - i ∧ Sd (∃ (f2 i2 : Nat) (g2 : List Nat) (ms2 : List (List Nat)) (w5 w6 : Option V), [some (V.ref A), some (.str (S n)), some (.ref M), some (.str (S g')), some (.int ((i : Int) + 1)), some (.str (S [c])), v6] = [some (.ref A), some (.str (S n)), some (.ref M), some (.str (S g2)), some (.int i2), w5, w6] ∧ Kp [] H (upd H' M (.lst ((ms.map fun k => V.str (S k)) ++ [.str (S [c])]))) ∧ (upd H' M (.lst ((ms.map fun k => V.str (S k)) ++ [.str (S [c])]))) M = some (tks ms2) ∧ i2 ≤ n.length ∧ m' = n.length - i2 ∧ n.length - i2 < f2 ∧ g2.length ≤ 4 ∧ ms2.length ≤ i2 ∧ (∀ m ∈ ms2, okm (45 :: srt l) m) ∧ scan (45 :: srt l) n = scn (45 :: srt l) f2 (n.drop i2) i2 g2 ms2)) := fun g' v6 hg' e =>
          sd_i ⟨n.length - (i + 1), by omega, sd_i ⟨f, i + 1, g', ms ++ [[c]], _, _, rfl, kk.own hM, hap _, by omega, rfl, by omega, hg', by simp; omega, hokm _ (.inl ⟨c, rfl, h2.symm⟩), e⟩⟩
        conv => whnf
        rw [em]
        by_cases hB : c ∈ BK
        · have hga : ∀ F, F = fr ms → ∀ g', ga g c F = some g' → scan (45 :: srt l) n = scn (45 :: srt l) f (n.drop (i + 1)) (i + 1) g' (ms ++ [[c]]) := fun F hF g' z => by
            rw [hF] at z
            rw [e, scn_b h1 hB z]
          have hgn : ∀ F, F = fr ms → ga g c F = none → (scan (45 :: srt l) n).1 = (i : Int) := fun F hF z => by
            rw [hF] at z
            rw [e]; exact scn_be h1 hB z
          rcases List.eq_nil_or_concat ms with hms0 | ⟨ms', m, hms0⟩
          · have hpos : ¬ 0 < ((ms.map fun k => V.str (S k)).length : Int) := by rw [hmap, hms0]; decide
            repeat' ac_rfl
            all_goals (try (conv => whnf))
            refine i_groups_after hB hg ?_
            have hF : decide (0 < ((ms.map fun k => V.str (S k)).length : Int)) = fr ms := by rw [decide_eq_false hpos, hms0]; rfl
            rw [hF]
            cases hg2 : ga g c (fr ms) with
            | none =>
              repeat' ac_rfl
              all_goals (try (conv => whnf))
              rename_i d hd
              exact recK_e q (hgn _ rfl hg2) (by omega) kk hd
            | some g' =>
              repeat' ac_rfl
              all_goals (try (conv => whnf))
              exact hpost g' _ (ga_len hg2 hg) (hga _ rfl g' hg2)
          · have hM2 : H' M = some (.lst ((ms'.map fun k => V.str (S k)) ++ [.str (S m)])) := by rw [hM', hms0, List.concat_eq_append, tks_app]
            have hmap2 : (ms.map fun k => V.str (S k)) = (ms'.map fun k => V.str (S k)) ++ [.str (S m)] := by rw [hms0, List.concat_eq_append, List.map_append]; rfl
            have hl2 : ((ms'.map fun k => V.str (S k)) ++ [V.str (S m)]).length = ms.length := by rw [← hmap2]; exact hmap
            have hpos : 0 < ms.length := by rw [hms0, List.concat_eq_append]; simp
            have hmok := hok m (by rw [hms0, List.concat_eq_append]; simp)
            clear hM'
            rw [hmap2] at hpost
            rcases hmok with ⟨c', rfl, hc'⟩ | ⟨c', d', rfl, hc', hd'⟩
            · have hF : decide (c' ∈ tl (S [40, 91])) = fr ms := by rw [hms0, List.concat_eq_append, fr_1]
              repeat' ac_rfl
              all_goals (try (conv => whnf))
              refine itm_last ?_
              repeat' ac_rfl
              all_goals (try (conv => whnf))
              refine i_groups_after hB hg ?_
              rw [hF]
              cases hg2 : ga g c (fr ms) with
              | none =>
                repeat' ac_rfl
                all_goals (try (conv => whnf))
                rename_i d hd
                exact recK_e q (hgn _ rfl hg2) (by omega) kk hd
              | some g' =>
                repeat' ac_rfl
                all_goals (try (conv => whnf))
                exact hpost g' _ (ga_len hg2 hg) (hga _ rfl g' hg2)
            · have hF : occ [c', d'] (tl (S [40, 91])) = fr ms := by
                rw [hms0, List.concat_eq_append, fr_2]
                exact occ2 fun z => by
                  have z : c' ∈ OB := z
                  simp only [SK, OB, List.mem_cons, List.not_mem_nil, or_false] at hc' z
                  omega
              repeat' ac_rfl
              all_goals (try (conv => whnf))
              refine itm_last ?_
              repeat' ac_rfl
              all_goals (try (conv => whnf))
              refine i_groups_after hB hg ?_
              rw [hF]
              cases hg2 : ga g c (fr ms) with
              | none =>
                repeat' ac_rfl
                all_goals (try (conv => whnf))
                rename_i d hd
                exact recK_e q (hgn _ rfl hg2) (by omega) kk hd
              | some g' =>
                repeat' ac_rfl
                all_goals (try (conv => whnf))
                exact hpost g' _ (ga_len hg2 hg) (hga _ rfl g' hg2)
        · have hP : c ∈ PK := h2.resolve_right hB
          repeat' ac_rfl
          all_goals (try (conv => whnf))
          exact hpost g _ hg (by rw [e, scn_p h1 hB hP])
      · intro h1 h2 h3 d hd
        exact recK_e q (e ▸ scn_e h1 h3 h2) (by omega) kk hd
    · rename_i x y
      have x : ¬ (i : Int) < n.length := x
      have y : g = [] := y
      rw [List.drop_of_length_le (by omega), scn_nil, if_pos y] at e
      have q := recK_q q (congrArg Prod.fst e)
      rw [e] at q
      exact q M H' kk hM hM'
    · rename_i x y d hd
      have x : ¬ (i : Int) < n.length := x
      have y : ¬ g = [] := y
      rw [List.drop_of_length_le (by omega), scn_nil, if_neg y] at e
      have hi2 : i = n.length := by omega
      rw [hi2] at e
      exact recK_e q (congrArg Prod.fst e) (by show (0 : Int) ≤ (n.length : Int); omega) kk hd


theorem rd_key_row {K : PySem.W.Frag} {mg : Str → Option Value} (T : Tx K mg) : ∀ vs H Q E, sp_key_row K vs H Q E → t_key_row K (WD E) (EndD Q) (start ["alphabet", "notation", "found", "mark"] vs) H := by
  intro vs H Q E h
  replace h := h.out
  obtain ⟨A, dA, l, v, n, rfl, hA, hn, q⟩ := h
  have T0 := T
  cases T
  repeat' ac_rfl
  all_goals (try (conv => whnf))
  refine i_marks_of hA hn ⟨?_⟩
  by_cases e : (scan (45 :: srt l) n).1 = -1
  · rw [if_pos e]
    have q := recK_q q e
    intro p H' kk hp hp'
    have hln : (scan (45 :: srt l) n).2.length ≤ 100000 := Nat.le_trans (scn_len trivial) (by simp; omega)
    have hok := scn_ok (sg := 45 :: srt l) (f := n.length + 1) (r := n) (i := 0) (g := []) (ms := []) fun _ z => nomatch z
    conv => whnf
    repeat' ac_rfl
    all_goals (try (conv => whnf))
    refine lcp_A hp' (fun m => !isb m) (fun m => .str (S m)) (by omega) ?_ ?_ (fun _ => rfl) ?_
    · rintro m D H2 Q' hD hm ⟨xs, rfl⟩ hQ
      rcases hok m hm with ⟨c, rfl, hc⟩ | ⟨c, d, rfl, hc, hd⟩
      · repeat' ac_rfl
        all_goals (try (conv => whnf))
        exact hQ
      · have ho : occ [c, d] BK = false := occ2 fun z => by
          simp only [SK, BK, List.mem_cons, List.not_mem_nil, or_false] at hc z
          omega
        show Q' (!occ [c, d] (tl (S [40, 91, 124, 93, 41]))) _
        rw [show occ [c, d] (tl (S [40, 91, 124, 93, 41])) = false from ho]
        exact hQ
    · rintro m D H2 Q' hD hm hf ⟨xs, rfl⟩ hQ
      exact hQ
    · intro D hD
      have hfl := List.length_filter_le (fun m => !isb m) (scan (45 :: srt l) n).2
      repeat' ac_rfl
      all_goals (try (conv => whnf))
      · rename_i x d hd
        have x : 24 < (((kof (scan (45 :: srt l) n).2).map fun m => V.str (S m)).length : Int) := x
        rw [List.length_map] at x
        exact q.1 (by omega) _ d (kk.new hD) hd
      · rename_i x
        have x : ¬ 24 < (((kof (scan (45 :: srt l) n).2).map fun m => V.str (S m)).length : Int) := x
        rw [List.length_map] at x
        exact q.2 (by omega) D _ (kk.new hD) (Kp.none kk hD) upd_at
  · rw [if_neg e]
    have q := q.out
    rw [if_neg e] at q
    exact q


theorem rd_Recording_init {K : PySem.W.Frag} {mg : Str → Option Value} (T : Tx K mg) : ∀ vs H Q E, sp_Recording_init K vs H Q E → t_Recording_init K (WD E) (EndD Q) (start ["self", "alphabet", "notation"] vs) H := by
  intro vs H Q E h
  replace h := h.out
  obtain ⟨R, dR, A, dA, l, v, n, rfl, hR, hA, hn, q⟩ := h
  have T0 := T
  cases T
  have hRA : A ≠ R := fun e => by
    rw [e, hR] at hA
    have h := Option.some.inj hA
    injection h with h1 h2 h3
    cases h3
  repeat' ac_rfl
  all_goals (try (conv => whnf))
  refine i_key_row hA hn ⟨?_⟩
  by_cases e : (scan (45 :: srt l) n).1 = -1
  · rw [if_pos e]
    have q := recK_q q e
    refine ⟨q.1, fun h p H' kk hp hp' => ?_⟩
    have hR' := kk.get0 hR
    have hpR : p ≠ R := ne_none' hR hp
    conv => whnf
    repeat' ac_rfl
    all_goals (try (conv => whnf))
    refine q.2 h p _ (((kk.nil.at List.mem_cons_self).at List.mem_cons_self).at List.mem_cons_self) hp hpR (upd_off hpR (upd_off hpR (upd_off hpR hp'))) (upd_at.trans rfl)
  · rw [if_neg e]
    have q := q.out
    rw [if_neg e] at q
    exact q


theorem rd_Recording_add {K : PySem.W.Frag} {mg : Str → Option Value} (T : Tx K mg) : ∀ vs H Q E, sp_Recording_add K vs H Q E → t_Recording_add K (WD E) (EndD Q) (start ["self", "other"] vs) H := by
  intro vs H Q E h
  replace h := h.out
  obtain ⟨R, dR, A, p, R', dR', A', p', dA, dA', n, n', l, v, l', v', rfl, hR, hR', hA, hA', hn, q1, q2⟩ := h
  have T0 := T
  cases T
  have hapl : (n ++ n').length < 100000 := by rw [List.length_append]; exact hn
  repeat' ac_rfl
  all_goals (try (conv => whnf))
  rename_i L hL
  have k1 : Kp [] H (upd H L (.lst [.ref A, .ref A'])) := Kp.rfl'.new hL
  refine i_check_alphabets upd_at (k1.get0 hA) (k1.get0 hA') (fun hs => ?_) fun hs => q1 hs _ k1
  have q := q2 hs
  have hR1 := k1.get0 hR
  have hR1' := k1.get0 hR'
  have hA1 := k1.get0 hA
  generalize upd H L (.lst [.ref A, .ref A']) = H1 at *
  conv => whnf
  repeat' ac_rfl
  all_goals (try (conv => whnf))
  rename_i N dN hN hdN hne
  have hNH : H N = none := Kp.none k1 hN
  have k2 : Kp [] H1 (upd (upd H1 dN (.own N)) N (.ins (He.ga K "Recording") dN [])) := (Kp.rfl'.own hdN).own hN
  refine i_Recording_init upd_at (k2.get0 hA1) hapl ⟨?_⟩
  by_cases e : (scan (45 :: srt l) (n ++ n')).1 = -1
  · rw [if_pos e]
    have q := recK_q q e
    refine ⟨fun h H' d kk hd => q.1 h H' d ((k1.trans k2).trans kk) hd, fun h p H' kk hp hpN hp' hN' => ?_⟩
    refine ⟨rfl, q.2 h N dN p H' ((k1.trans k2).fr kk fun z hz => by rw [List.mem_singleton.mp hz]; exact hNH) hNH (Kp.none (k1.trans k2) hp) hp' hN'⟩
  · rw [if_neg e]
    have q := q.out
    rw [if_neg e] at q
    intro H' d kk hd
    exact q H' d ((k1.trans k2).trans kk) hd


theorem rd_Recording_eq {K : PySem.W.Frag} {mg : Str → Option Value} (T : Tx K mg) : ∀ vs H Q E, sp_Recording_eq K vs H Q E → t_Recording_eq K (WD E) (EndD Q) (start ["self", "other"] vs) H := by
  intro vs H Q E h
  replace h := h.out
  obtain ⟨R, dR, A, p, R', dR', A', p', dA, dA', n, n', l, v, l', v', rfl, hR, hR', hA, hA', q⟩ := h
  have T0 := T
  cases T
  repeat' ac_rfl
  all_goals (try (conv => whnf))
  all_goals refine q_bl ?_ q
  · rename_i x
    rw [x]; rfl
  · rename_i x
    rw [x]; rfl


theorem rd_l_strange {K : PySem.W.Frag} {mg : Str → Option Value} (T : Tx K mg) : ∀ vs H Q E, sp_l_strange K vs H Q E → t_l_strange K (WD E) (EndD Q) (start ["_law_first", "_law_second", "_law_mixed", "_law_both"] vs) H := by
  intro vs H Q E h
  replace h := h.out
  obtain ⟨R, dR, A, p, R', dR', A', p', dA, dA', n, n', l, v, l', v', rfl, hR, hR', hA, hA', hn, hd, q⟩ := h
  have T0 := T
  cases T
  repeat' ac_rfl
  all_goals (try (conv => whnf))
  refine i_Recording_add hR hR' hA hA' hn (fun _ H1 k1 => ?_) fun z => absurd z hd
  have hR1 := k1.get0 hR
  have hR1' := k1.get0 hR'
  have hA1 := k1.get0 hA
  have hA1' := k1.get0 hA'
  repeat' ac_rfl
  all_goals (try (conv => whnf))
  refine i_Recording_add hR1' hR1 hA1' hA1 (by omega) (fun _ H2 k2 => ?_) fun z => absurd ⟨z.1.symm, z.2.symm⟩ hd
  have hR2 := k2.get0 hR1
  have hR2' := k2.get0 hR1'
  have hA2 := k2.get0 hA1
  have hA2' := k2.get0 hA1'
  repeat' ac_rfl
  all_goals (try (conv => whnf))
  refine i_Recording_eq hR2 hR2' hA2 hA2' ?_
  have hf : ((decide (srt l = srt l') && decide (srt v = srt v')) && decide (n = n')) = false := by
    by_cases h1 : srt l = srt l'
    · by_cases h2 : srt v = srt v'
      · exact absurd ⟨h1, h2⟩ hd
      · rw [decide_eq_false h2]; simp
    · rw [decide_eq_false h1]; simp
  rw [hf]
  repeat' ac_rfl
  all_goals (try (conv => whnf))
  refine i_Recording_eq hR2' hR2 hA2' hA2 ?_
  have hf2 : ((decide (srt l' = srt l) && decide (srt v' = srt v)) && decide (n' = n)) = false := by
    by_cases h1 : srt l' = srt l
    · by_cases h2 : srt v' = srt v
      · exact absurd ⟨h1.symm, h2.symm⟩ hd
      · rw [decide_eq_false h2]; simp
    · rw [decide_eq_false h1]; simp
  rw [hf2]
  repeat' ac_rfl
  all_goals (try (conv => whnf))
  exact q _ (k1.trans k2)


theorem rd_Recording_str {K : PySem.W.Frag} {mg : Str → Option Value} (T : Tx K mg) : ∀ vs H Q E, sp_Recording_str K vs H Q E → t_Recording_str K (WD E) (EndD Q) (start ["self"] vs) H := by
  intro vs H Q E h
  replace h := h.out
  obtain ⟨R, dR, A, p, n, rfl, hR, hn, q⟩ := h
  have T0 := T
  cases T
  repeat' ac_rfl
  all_goals (try (conv => whnf))
  exact q


theorem rd_Recording_all_keys {K : PySem.W.Frag} {mg : Str → Option Value} (T : Tx K mg) : ∀ vs H Q E, sp_Recording_all_keys K vs H Q E → t_Recording_all_keys K (WD E) (EndD Q) (start ["self"] vs) H := by
  intro vs H Q E h
  replace h := h.out
  obtain ⟨R, dR, A, p, n, xs, rfl, hR, hp, hl, q⟩ := h
  have T0 := T
  cases T
  repeat' ac_rfl
  all_goals (try (conv => whnf))
  rename_i r hr
  exact q r hr


theorem rd_Recording_len {K : PySem.W.Frag} {mg : Str → Option Value} (T : Tx K mg) : ∀ vs H Q E, sp_Recording_len K vs H Q E → t_Recording_len K (WD E) (EndD Q) (start ["self"] vs) H := by
  intro vs H Q E h
  replace h := h.out
  obtain ⟨R, dR, A, p, n, xs, rfl, hR, hp, hl, q⟩ := h
  have T0 := T
  cases T
  repeat' ac_rfl
  all_goals (try (conv => whnf))
  exact q


theorem rd_l_keys {K : PySem.W.Frag} {mg : Str → Option Value} (T : Tx K mg) : ∀ vs H Q E, sp_l_keys K vs H Q E → t_l_keys K (WD E) (EndD Q) (start ["_law_made_here", "_law_keys_here", "_law_told"] vs) H := by
  intro vs H Q E h
  replace h := h.out
  obtain ⟨R, dR, A, p, k, n, ks, rfl, hR, hp, hk, hl, hlo, q⟩ := h
  have T0 := T
  cases T
  have hm : (ks.map fun k => V.str (S k)).length = ks.length := List.length_map _
  repeat' ac_rfl
  all_goals (try (conv => whnf))
  rename_i r hr
  have hrk : k ≠ r := ne_none hk hr
  have hrR : R ≠ r := ne_none hR hr
  have hrp : p ≠ r := ne_none hp hr
  refine eq_lst upd_at (upd_fr hr hk) (flts_s hlo) ?_
  have hrv : (ks.map fun k => V.str (S k)).reverse.length = ks.length := by rw [List.length_reverse, hm]
  repeat' ac_rfl
  all_goals (try (conv => whnf))
  rename_i r2 hr2
  refine eq_lst upd_at (upd_fr hr2 (by contradiction)) (flts_s hlo) ?_
  repeat' ac_rfl
  all_goals (try (conv => whnf))
  refine q_bl (decide_eq_true rfl) (q _ ?_)
  exact (((Kp.rfl'.new hr).own hr).own hr).new hr2

theorem mkR {K : PySem.W.Frag} {H : Hp} {Q : VK} {E : XK} {N dN A dA : Addr} {l v n : List Nat} (hN : H N = none) (hdN : H dN = none) (hA : H A = some (alo K dA l v)) (hn : n.length < 100000) (e : (scan (45 :: srt l) n).1 = -1) (h : (kof (scan (45 :: srt l) n).2).length ≤ 24)
    (k : ∀ p H', Kp [] H H' → H p = none → H' p = some (tks (kof (scan (45 :: srt l) n).2)) → H' N = some (recO K dN A p n) → Q .non H') :
    sp_Recording_init K [.ref N, .ref A, .str (S n)] (upd (upd H dN (.own N)) N (.ins (He.ga K "Recording") dN [])) Q E := by
  have k2 : Kp [] H (upd (upd H dN (.own N)) N (.ins (He.ga K "Recording") dN [])) := (Kp.rfl'.own hdN).own hN
  refine i_Recording_init upd_at (k2.get0 hA) hn ⟨?_⟩
  rw [if_pos e]
  refine ⟨fun z => absurd h (by omega), fun _ p H' kk hp hpN hp' hN' => ?_⟩
  have k3 : Kp [] H H' := k2.fr kk fun z hz => by rw [List.mem_singleton.mp hz]; exact hN
  exact k p H' k3 (Kp.none k2 hp) hp' hN'

theorem rd_l_joined {K : PySem.W.Frag} {mg : Str → Option Value} (T : Tx K mg) : ∀ vs H Q E, sp_l_joined K vs H Q E → t_l_joined K (WD E) (EndD Q) (start ["_law_alphabet", "_law_one", "_law_two", "_law_keys_here", "_law_others", "_law_first", "_law_second", "_law_both", "many"] vs) H := by
  intro vs H Q E h
  replace h := h.out
  obtain ⟨A, dA, k1, k2, l, v, n, n', rfl, hA, hk1, hk2, hn, h1, h2, q⟩ := h
  have T0 := T
  cases T
  obtain ⟨hlo1, hlo2, hn1, hn2⟩ := hn
  obtain ⟨e1, l1⟩ := h1
  obtain ⟨e2, l2⟩ := h2
  have lk : ∀ {m : List Nat}, low m → ∀ k ∈ kof (scan (45 :: srt l) m).2, low k := fun hm k hk => scn_low (ms := []) hm (fun _ z => nomatch z) k (List.mem_filter.mp hk).1
  have hm1 : ((kof (scan (45 :: srt l) n).2).map fun k => V.str (S k)).length = (kof (scan (45 :: srt l) n).2).length := List.length_map _
  have hm2 : ((kof (scan (45 :: srt l) n').2).map fun k => V.str (S k)).length = (kof (scan (45 :: srt l) n').2).length := List.length_map _
  repeat' ac_rfl
  all_goals (try (conv => whnf))
  rename_i N dN hN hdN hne
  refine mkR hN hdN hA (by omega) e1 l1 fun p1 H1 kk1 hp1 hp1' hN1 => ⟨rfl, ?_⟩
  have hA1 := kk1.get0 hA
  have hk11 := kk1.get0 hk1
  have hk21 := kk1.get0 hk2
  repeat' ac_rfl
  all_goals (try (conv => whnf))
  rename_i M dM hM hdM hneM
  refine mkR hM hdM hA1 (by omega) e2 l2 fun p2 H2 kk2 hp2 hp2' hM2 => ⟨rfl, ?_⟩
  have hN2 := kk2.get0 hN1
  have hp12 := kk2.get0 hp1'
  have hA2 := kk2.get0 hA1
  have hk12 := kk2.get0 hk11
  have hk22 := kk2.get0 hk21
  repeat' ac_rfl
  all_goals (try (conv => whnf))
  refine i_Recording_eq hN2 hM2 hA2 hA2 ?_
  have hf : ((decide (srt l = srt l) && decide (srt v = srt v)) && decide (n = n')) = decide (n = n') := by simp
  rw [hf]
  have goalQ : ∀ H' , Kp [] H2 H' → Q (.bl true) H' := fun H' k => q _ ((kk1.trans kk2).trans k)
  repeat' ac_rfl
  all_goals (try (conv => whnf))
  rotate_left 1
  · rename_i x
    exact absurd rfl x
  rename_i x3 O dO hO hdO hneO
  refine mkR hO hdO hA2 (by omega) e1 l1 fun p3 H3 kk3 hp3 hp3' hO3 => ⟨rfl, ?_⟩
  have hN3 := kk3.get0 hN2
  have hM3 := kk3.get0 hM2
  have hp13 := kk3.get0 hp12
  have hp23 := kk3.get0 hp2'
  have hA3 := kk3.get0 hA2
  have hk13 := kk3.get0 hk12
  have hk23 := kk3.get0 hk22
  repeat' ac_rfl
  all_goals (try (conv => whnf))
  refine i_Recording_eq hN3 hO3 hA3 hA3 ?_
  have hf2 : ((decide (srt l = srt l) && decide (srt v = srt v)) && decide (n = n)) = true := by simp
  rw [hf2]
  repeat' ac_rfl
  all_goals (try (conv => whnf))
  have hs := scan_app (sg := 45 :: srt l) (n := n) (m := n') (Prod.ext e1 rfl) (Prod.ext e2 rfl)
  have hkk : kof (scan (45 :: srt l) (n ++ n')).2 = kof (scan (45 :: srt l) n).2 ++ kof (scan (45 :: srt l) n').2 := by rw [hs]; exact kof_app
  refine i_Recording_add hN3 hM3 hA3 hA3 (by omega) (fun z => absurd ⟨rfl, rfl⟩ z) fun _ => ⟨?_⟩
  rw [if_pos (by rw [hs]), hkk, List.length_append]
  refine ⟨fun hlt H4 d kk4 hd4 => ?_, fun hle B dB p4 H4 kk4 hB hp4 hp4' hB4 => ?_⟩
  · have hk14 := (kk4.new (o := .xd [("most", .int 24)]) hd4).get0 hk13
    have hk24 := (kk4.new (o := .xd [("most", .int 24)]) hd4).get0 hk23
    have hN4 := (kk4.new (o := .xd [("most", .int 24)]) hd4).get0 hN3
    have hM4 := (kk4.new (o := .xd [("most", .int 24)]) hd4).get0 hM3
    have hp14 := (kk4.new (o := .xd [("most", .int 24)]) hd4).get0 hp13
    have hp24 := (kk4.new (o := .xd [("most", .int 24)]) hd4).get0 hp23
    have kG := ((kk1.trans kk2).trans kk3).trans (kk4.new (o := .xd [("most", .int 24)]) hd4)
    repeat' ac_rfl
    all_goals (try (conv => whnf))
    all_goals generalize upd H4 d (.xd [("most", .int 24)]) = G at *
    all_goals (have hNG := hN4; have hMG := hM4; have hp1G := hp14; have hp2G := hp24; have hk1G := hk14; have hk2G := hk24)
    · refine i_l_keys hNG hp1G hk1G (by omega) (lk hlo1) fun H5 k5 => ?_
      have hN5 := k5.get0 hNG
      have hM5 := k5.get0 hMG
      have hp15 := k5.get0 hp1G
      have hp25 := k5.get0 hp2G
      have hk15 := k5.get0 hk1G
      have hk25 := k5.get0 hk2G
      repeat' ac_rfl
      all_goals (try (conv => whnf))
      · refine i_l_keys hM5 hp25 hk25 (by omega) (lk hlo2) fun H6 k6 => ?_
        repeat' ac_rfl
        all_goals (try (conv => whnf))
        exact q _ ((kG.trans k5).trans k6)
      · rename_i z
        exact absurd rfl z
    · exact absurd (rfl : tl (S n) = tl (S n)) (by assumption)
  · have hk14 := kk4.get0 hk13
    have hk24 := kk4.get0 hk23
    have hN4 := kk4.get0 hN3
    have hM4 := kk4.get0 hM3
    have hp14 := kk4.get0 hp13
    have hp24 := kk4.get0 hp23
    have hA4 := kk4.get0 hA3
    repeat' ac_rfl
    all_goals (try (conv => whnf))
    rotate_left 1
    · rename_i z
      exact absurd rfl z
    rename_i z r hr
    have kr : Kp [] H4 (upd H4 r (.lst ((kof (scan (45 :: srt l) n).2).map (fun k => V.str (S k)) ++ (kof (scan (45 :: srt l) n').2).map fun k => V.str (S k)))) := Kp.rfl'.new hr
    refine i_l_keys (kr.get0 hB4) (kr.get0 hp4') (upd_at.trans (by unfold tks; rw [List.map_append])) (by rw [List.length_append]; omega) (fun k hk => ?_) fun H5 k5 => ?_
    · rcases List.mem_append.mp hk with hk | hk
      · exact lk hlo1 k hk
      · exact lk hlo2 k hk
    have kk5 := kr.trans k5
    have hB5 := kk5.get0 hB4
    have hA5 := kk5.get0 hA4
    repeat' ac_rfl
    all_goals (try (conv => whnf))
    rename_i U dU hU hdU hneU
    refine mkR (n := n ++ n') hU hdU hA5 (by rw [List.length_append]; omega) (by rw [hs]) (by rw [hkk, List.length_append]; omega) fun p6 H6 kk6 hp6 hp6' hU6 => ⟨rfl, ?_⟩
    have hB6 := kk6.get0 hB5
    have hA6 := kk6.get0 hA5
    have kk7 := kk5.trans kk6
    have hNG := kk7.get0 hN4
    have hMG := kk7.get0 hM4
    have hp1G := kk7.get0 hp14
    have hp2G := kk7.get0 hp24
    have hk1G := kk7.get0 hk14
    have hk2G := kk7.get0 hk24
    have kG := (((kk1.trans kk2).trans kk3).trans kk4).trans kk7
    repeat' ac_rfl
    all_goals (try (conv => whnf))
    refine i_Recording_eq hB6 hU6 hA6 hA6 ?_
    have hf3 : ((decide (srt l = srt l) && decide (srt v = srt v)) && decide (n ++ n' = n ++ n')) = true := by simp
    rw [hf3]
    repeat' ac_rfl
    all_goals (try (conv => whnf))
    · refine i_l_keys hNG hp1G hk1G (by omega) (lk hlo1) fun H5 k5 => ?_
      have hN5 := k5.get0 hNG
      have hM5 := k5.get0 hMG
      have hp15 := k5.get0 hp1G
      have hp25 := k5.get0 hp2G
      have hk15 := k5.get0 hk1G
      have hk25 := k5.get0 hk2G
      repeat' ac_rfl
      all_goals (try (conv => whnf))
      · refine i_l_keys hM5 hp25 hk25 (by omega) (lk hlo2) fun H6 k6 => ?_
        repeat' ac_rfl
        all_goals (try (conv => whnf))
        exact q _ ((kG.trans k5).trans k6)
      · rename_i z
        exact absurd rfl z
    · exact absurd (rfl : tl (S n) = tl (S n)) (by assumption)


theorem rd_l_take {K : PySem.W.Frag} {mg : Str → Option Value} (T : Tx K mg) : ∀ vs H Q E, sp_l_take K vs H Q E → t_l_take K (WD E) (EndD Q) (start ["_law_box_here", "_law_size", "_law_digit", "_law_cells", "_law_mixed"] vs) H := by
  intro vs H Q E h
  replace h := h.out
  obtain ⟨p, q, n, a, b, cs, rfl, hp, hq, ⟨c1, c2, c3⟩, h0, h1, k⟩ := h
  have hqp := bxq hp hq
  cases T
  have hlen : (cs.map V.int).length = cs.length := List.length_map _
  have hpos : 0 < cs.length := List.length_pos_iff.mpr c1
  repeat' ac_rfl
  all_goals (try (conv => whnf))
  · exact k _ _ _ (Int.emod_nonneg _ (by omega)) (Int.emod_lt_of_pos _ h0)
  · have hlt := Int.emod_lt_of_pos (b + 1) (show (0 : Int) < (cs.map V.int).length by omega)
    have hge := Int.emod_nonneg (b + 1) (show ((cs.map V.int).length : Int) ≠ 0 by omega)
    obtain ⟨j, hj⟩ := Int.eq_ofNat_of_zero_le hge
    have hj2 : j < cs.length := by omega
    refine itm_n (v := .int cs[j]) hj (by rw [List.getElem?_map, List.getElem?_eq_getElem hj2]; rfl) ?_
    have hc3 := c3 cs[j] (List.getElem_mem hj2)
    repeat' ac_rfl
    all_goals (try (conv => whnf))
    exact k _ a (b + 1) (Int.emod_nonneg _ (by omega)) (Int.emod_lt_of_pos _ h0)


theorem rd_l_box {K : PySem.W.Frag} {mg : Str → Option Value} (T : Tx K mg) : ∀ vs H Q E, sp_l_box K vs H Q E → t_l_box K (WD E) (EndD Q) (start ["_law_script", "_law_k", "_law_cells", "_law_cell", "_law_great"] vs) H := by
  intro vs H Q E h
  replace h := h.out
  obtain ⟨p, k, ob, ns, rfl, hp, h0, h1, q⟩ := h
  cases T
  have hl := cut_len ns (some k) (some 63)
  repeat' ac_rfl
  all_goals (try (conv => whnf))
  rename_i p' hp'
  rw [cut_map]
  generalize cut ns (some k) (some 63) = cs at hl
  refine lcp_I upd_at (fun x => x) (by omega) ?_ (fun _ => rfl) ?_
  · rintro x D _ Q' hD hx ⟨ys, rfl⟩ hQ
    repeat' ac_rfl
    all_goals (try (conv => whnf))
    exact hQ
  · intro D hD
    rw [List.map_id']
    cases cs with
    | nil =>
      repeat' ac_rfl
      all_goals (try (conv => whnf))
      refine lcp_I (cs := [0]) upd_at (fun x => x % 2305843009213693951) (by decide) ?_ (fun _ => rfl) ?_
      · rintro x D _ Q' hD hx ⟨ys, rfl⟩ hQ
        repeat' ac_rfl
        all_goals (try (conv => whnf))
        exact hQ
      · intro D2 hD2
        repeat' ac_rfl
        all_goals (try (conv => whnf))
        rename_i B hB
        exact q B D2 0 [0 % 2305843009213693951] _ (by nofun) (Kp.none (by nofun) hB) (Kp.none (by nofun) hD2) (ne_none upd_at hB) upd_at (upd_fr hB upd_at) ⟨by simp, by simp, by simp⟩
    | cons c cs =>
      repeat' ac_rfl
      all_goals (try (conv => whnf))
      all_goals refine lcp_I (cs := c :: cs) upd_at (fun x => x % 2305843009213693951) (by omega) ?_ (fun _ => rfl) ?_
      all_goals first
        | (rintro x D _ Q' hD hx ⟨ys, rfl⟩ hQ
           repeat' ac_rfl
           all_goals (try (conv => whnf))
           exact hQ)
        | (intro D2 hD2
           repeat' ac_rfl
           all_goals (try (conv => whnf))
           rename_i B hB
           refine q B D2 _ ((c :: cs).map (· % 2305843009213693951)) _ (by nofun) ?_ (Kp.none (by nofun) hD2) (ne_none upd_at hB) upd_at (upd_fr hB upd_at) ⟨by simp, by rw [List.length_map]; omega, fun c hc => ?_⟩
           · exact Kp.none (by nofun) hB
           · obtain ⟨d, _, rfl⟩ := List.mem_map.mp hc
             exact ⟨Int.emod_nonneg _ (by decide), Int.emod_lt_of_pos _ (by decide)⟩)


theorem rd_l_letters {K : PySem.W.Frag} {mg : Str → Option Value} (T : Tx K mg) : ∀ vs H Q E, sp_l_letters K vs H Q E → t_l_letters K (WD E) (EndD Q) (start ["_law_box_here", "_law_count", "_law_pool", "_law_menu", "_law_letters_here", "_law_k", "_law_letter"] vs) H := by
  intro vs H Q E h
  replace h := h.out
  obtain ⟨p, q, n, a, b, cs, rfl, hp, hq, hc, h0, h1, k⟩ := h
  have hqp := bxq hp hq
  cases T
  repeat' ac_rfl
  all_goals (try (conv => whnf))
  rename_i r a1 b1 r0 r1
  refine loop_r (fun i σ H' => Sd (∃ (po l : List Nat) (a b : Int) (v5 v6 : Option V), σ = [some (.ref p), some (.int n), some (.str (S po)), some (.int r), some (.str (S l)), v5, v6] ∧ Kp [p] H H' ∧ H' p = some (bx a b q) ∧ po.length + i = 26 ∧ l.length = i ∧ (l ++ po).Nodup ∧ ∀ c ∈ l ++ po, c ∈ AZ)) ?_ ?_ ?_
  · exact sd_i ⟨_, [], a1, b1, none, none, rfl, Kp.rfl'.at List.mem_cons_self, upd_at, rfl, rfl, by decide, by decide⟩
  · rintro i σ H' hi hP
    obtain ⟨po, l, a, b, v5, v6, rfl, hk, hp', hpo, hl, hnd, haz⟩ := sd_e hP
    have hi : i < n.toNat := hi
    have hq' : H' q = some (cel cs) := hk.get1 hq hqp
    obtain ⟨nd1, nd2, nd3⟩ := List.nodup_append.mp hnd
    have hr : r = 0 ∨ r = 1 := by omega
    have fin : ∀ (j : Nat) (hj : j < po.length), (rpE po[j] po).length + (i + 1) = 26 ∧ (l ++ [po[j]]).length = i + 1 ∧ ((l ++ [po[j]]) ++ rpE po[j] po).Nodup ∧ ∀ c ∈ (l ++ [po[j]]) ++ rpE po[j] po, c ∈ AZ := by
      intro j hj
      have hm := List.getElem_mem hj
      have := rpE_len nd2 hm
      refine ⟨by omega, by simp [hl], ?_, fun c hc => ?_⟩
      · refine List.nodup_append.mpr ⟨List.nodup_append.mpr ⟨nd1, by simp, fun x hx y hy => ?_⟩, rpE_nd nd2, fun x hx y hy => ?_⟩
        · rw [List.mem_singleton.mp hy]; exact nd3 x hx _ hm
        · obtain ⟨hy1, hy2⟩ := rpE_mem.mp hy
          rcases List.mem_append.mp hx with hx | hx
          · exact nd3 x hx y hy1
          · rw [List.mem_singleton.mp hx]; exact fun e => hy2 e.symm
      · rcases List.mem_append.mp hc with hc | hc
        · rcases List.mem_append.mp hc with hc | hc
          · exact haz c (List.mem_append_left _ hc)
          · rw [List.mem_singleton.mp hc]; exact haz _ (List.mem_append_right _ hm)
        · exact haz c (List.mem_append_right _ (rpE_mem.mp hc).1)
    rcases hr with rfl | rfl
    all_goals repeat' ac_rfl
    all_goals (try (conv => whnf))
    all_goals (rename_i pl hpl r2 a2 b2 z1 z2 j hj e; have hj : j < po.length := hj; obtain ⟨f1, f2, f3, f4⟩ := fin j hj; refine sd_i ⟨rpE po[j] po, l ++ [po[j]], a2, b2, _, _, rfl, ?_, upd_at, f1, f2, f3, f4⟩; nofun)
  · rintro σ H' hP
    obtain ⟨po, l, a, b, v5, v6, rfl, hk, hp', hpo, hl, hnd, haz⟩ := sd_e hP
    obtain ⟨nd1, nd2, nd3⟩ := List.nodup_append.mp hnd
    conv => whnf
    exact k l a b H' (badL_ok (by omega) (by omega) nd1 fun c hc => haz c (List.mem_append_left _ hc)) (by omega) hk hp'


theorem rd_l_vowels {K : PySem.W.Frag} {mg : Str → Option Value} (T : Tx K mg) : ∀ vs H Q E, sp_l_vowels K vs H Q E → t_l_vowels K (WD E) (EndD Q) (start ["_law_box_here", "_law_letters_here", "_law_vowels_here", "_law_letter"] vs) H := by
  intro vs H Q E h
  replace h := h.out
  obtain ⟨p, q, a, b, cs, l, rfl, hp, hq, hc, hl, k⟩ := h
  have hqp := bxq hp hq
  obtain ⟨b1, b2, b3, b4⟩ := badL_inv hl
  cases T
  repeat' ac_rfl
  all_goals (try (conv => whnf))
  refine loop_s (fun i σ H' => Sd (∃ (v : List Nat) (a b : Int) (v3 : Option V), σ = [some (.ref p), some (.str (S l)), some (.str (S v)), v3] ∧ H' = upd H p (bx a b q) ∧ v.Nodup ∧ (∀ c ∈ v, c ∈ l.take i) ∧ v.length ≤ i)) ?_ ?_ ?_
  · exact sd_i ⟨[], a, b, none, rfl, (upd_self hp).symm, .nil, (fun _ z => nomatch z), Nat.le_refl _⟩
  · rintro i hi σ H' hP
    obtain ⟨v, a, b, v3, rfl, rfl, hv1, hv2, hv3⟩ := sd_e hP
    have hi : i < l.length := hi
    have hi2 : (tl (S l))[i] = l[i] := rfl
    repeat' ac_rfl
    all_goals (try (conv => whnf))
    · refine sd_i ⟨l[i] :: v, _, _, _, rfl, upd_tw, List.nodup_cons.mpr ⟨fun z => ?_, hv1⟩, ?_, ?_⟩
      · exact nd_at hi (hv2 _ z) b3
      · intro c hc
        rw [List.take_succ_eq_append_getElem hi]
        rcases List.mem_cons.mp hc with rfl | hc
        · exact List.mem_append_right _ (List.mem_singleton.mpr rfl)
        · exact List.mem_append_left _ (hv2 c hc)
      · rw [List.length_cons]; omega
    · refine sd_i ⟨v, _, _, _, rfl, upd_tw, hv1, fun c hc => ?_, by omega⟩
      rw [List.take_succ_eq_append_getElem hi]
      exact List.mem_append_left _ (hv2 c hc)
  · rintro σ H' hP
    obtain ⟨v, a, b, v3, rfl, rfl, hv1, hv2, hv3⟩ := sd_e hP
    have e : l.take (tl (S l)).length = l := List.take_length
    rw [e] at hv2
    conv => whnf
    exact k v a b ⟨hl, badV_ok hv1 hv2⟩


theorem rd_l_char {K : PySem.W.Frag} {mg : Str → Option Value} (T : Tx K mg) : ∀ vs H Q E, sp_l_char K vs H Q E → t_l_char K (WD E) (EndD Q) (start ["_law_box_here", "_law_menu", "_law_chars"] vs) H := by
  intro vs H Q E h
  replace h := h.out
  obtain ⟨p, q, a, b, cs, rfl, hp, hq, hc, k⟩ := h
  have T0 := T
  cases T
  have hqp := bxq hp hq
  repeat' ac_rfl
  all_goals (try (conv => whnf))
  all_goals rename_i r1 a1 b1 r10 r11 x r2 a2 b2 r20 r21 j hj e
  all_goals refine q_H upd_tw (k _ _ _ ?_)
  all_goals
    revert hj
    generalize hL : tl _ = L
    intro hj
    have hlow : ∀ c ∈ L, c < 128 := by rw [← hL]; decide
    exact hlow _ (List.getElem_mem hj)


theorem rd_l_bent {K : PySem.W.Frag} {mg : Str → Option Value} (T : Tx K mg) : ∀ vs H Q E, sp_l_bent K vs H Q E → t_l_bent K (WD E) (EndD Q) (start ["_law_box_here", "_law_notation_here", "_law_way", "_law_at"] vs) H := by
  intro vs H Q E h
  replace h := h.out
  obtain ⟨p, q, a, b, cs, n, rfl, hp, hq, hc, hn, k⟩ := h
  have T0 := T
  cases T
  have hqp := bxq hp hq
  obtain ⟨n1, n2⟩ := hn
  have h10 : low [10] := fun c hc => by rw [List.mem_singleton.mp hc]; decide
  have hc1 : ∀ c, c < 128 → low [c] := fun c h d hd => by rw [List.mem_singleton.mp hd]; exact h
  have cl : ∀ (a b : Option Int), (cut n a b).length ≤ n.length := fun a b => cut_len n a b
  repeat' ac_rfl
  all_goals (try (conv => whnf))
  · rename_i r1 a1 b1 r10 r11 r2 a2 b2 r20 r21 x
    exact q_H upd_tw (k ((cut n none (some r2) ++ [10]) ++ cut n (some r2) none) _ _ (low_app (low_app (low_cut n1 _ _) h10) (low_cut n1 _ _)) (by
      have h1 := cl none (some r2); have h2 := cl (some r2) none
      simp only [List.length_append, List.length_cons, List.length_nil]; omega))
  · rename_i r1 a1 b1 r10 r11 r2 a2 b2 r20 r21 x y
    refine i_l_char upd_at (upd_off hqp (upd_off hqp hq)) hc fun c a3 b3 hlc => ?_
    repeat' ac_rfl
    all_goals (try (conv => whnf))
    exact q_H upd_tw2 (k ((cut n none (some r2) ++ [c]) ++ cut n (some r2) none) _ _ (low_app (low_app (low_cut n1 _ _) (hc1 c hlc)) (low_cut n1 _ _)) (by
      have h1 := cl none (some r2); have h2 := cl (some r2) none
      simp only [List.length_append, List.length_cons, List.length_nil]; omega))
  · rename_i r1 a1 b1 r10 r11 r2 a2 b2 r20 r21 x y z
    refine i_l_char upd_at (upd_off hqp (upd_off hqp hq)) hc fun c a3 b3 hlc => ?_
    repeat' ac_rfl
    all_goals (try (conv => whnf))
    exact q_H upd_tw2 (k ((cut n none (some r2) ++ [c]) ++ cut n (some (r2 + 1)) none) _ _ (low_app (low_app (low_cut n1 _ _) (hc1 c hlc)) (low_cut n1 _ _)) (by
      have h1 := cl none (some r2); have h2 := cl (some (r2 + 1)) none
      simp only [List.length_append, List.length_cons, List.length_nil]; omega))
  · rename_i r1 a1 b1 r10 r11 r2 a2 b2 r20 r21 x y z u
    exact q_H upd_tw (k (cut n none (some r2) ++ cut n (some (r2 + 1)) none) _ _ (low_app (low_cut n1 _ _) (low_cut n1 _ _)) (by
      have h1 := cl none (some r2); have h2 := cl (some (r2 + 1)) none
      simp only [List.length_append, List.length_cons, List.length_nil]; omega))
  · rename_i r1 a1 b1 r10 r11 r2 a2 b2 r20 r21 x y z u v
    exact q_H upd_tw (k (cut n none (some r2)) _ _ (low_cut n1 _ _) (by have h1 := cl none (some r2); omega))
  · rename_i r1 a1 b1 r10 r11 r2 a2 b2 r20 r21 x y z u v w
    exact q_H upd_tw (k (((cut n none (some r2) ++ cut n (some (r2 + 1)) (some (r2 + 2))) ++ cut n (some r2) (some (r2 + 1))) ++ cut n (some (r2 + 2)) none) _ _ (low_app (low_app (low_app (low_cut n1 _ _) (low_cut n1 _ _)) (low_cut n1 _ _)) (low_cut n1 _ _)) (by
      have h1 := cl none (some r2); have h2 := cl (some (r2 + 1)) (some (r2 + 2)); have h3 := cl (some r2) (some (r2 + 1)); have h4 := cl (some (r2 + 2)) none
      simp only [List.length_append]; omega))
  · exact q_H upd_tw (k n _ _ n1 (by omega))


theorem rd_l_close {K : PySem.W.Frag} {mg : Str → Option Value} (T : Tx K mg) : ∀ vs H Q E, sp_l_close K vs H Q E → t_l_close K (WD E) (EndD Q) (start ["_law_tokens_here", "_law_groups", "_law_top"] vs) H := by
  intro vs H Q E h
  replace h := h.out
  obtain ⟨tp, gp, ts, gs, g, rfl, hT, hG, hn, hl, hl2, k⟩ := h
  have T0 := T
  cases T
  have hml : ((gs ++ [g]).map fun k => V.str (S k)).length = gs.length + 1 := by simp
  have hdl : ((gs ++ [g]).map fun k => V.str (S k)).dropLast = gs.map fun k => V.str (S k) := by simp
  have hdl2 : ((gs ++ [g]).map fun k => V.str (S k)).dropLast.length = gs.length := by simp
  have hml3 : (ts.map fun k => V.str (S k)).length = ts.length := by simp
  have l1 : ∀ c, c < 128 → lows [[c]] := fun c hc => lows_1 (fun d hd => by rw [List.mem_singleton.mp hd]; exact hc) (by simp)
  have ap : ∀ (ks : List (List Nat)) (m : List Nat), HO.lst ((ks.map fun k => V.str (S k)) ++ [V.str (S m)]) = tks (ks ++ [m]) := fun ks m => tks_app.symm
  repeat' ac_rfl
  all_goals (try (conv => whnf))
  all_goals rw [hdl]
  all_goals (try rw [ap])
  · rw [ap]
    exact k [124] (gs ++ [[124]]) _ (l1 _ (by decide)) (by simp) (((Kp.rfl'.at (by simp)).at (by simp)).at (by simp)) (upd_off hn upd_at) upd_at
  · exact k [93] gs _ (l1 _ (by decide)) (by simp) ((Kp.rfl'.at (by simp)).at (by simp)) upd_at (upd_off hn.symm upd_at)
  · exact k [41] gs _ (l1 _ (by decide)) (by simp) ((Kp.rfl'.at (by simp)).at (by simp)) upd_at (upd_off hn.symm upd_at)


theorem rd_l_key {K : PySem.W.Frag} {mg : Str → Option Value} (T : Tx K mg) : ∀ vs H Q E, sp_l_key K vs H Q E → t_l_key K (WD E) (EndD Q) (start ["_law_box_here", "_law_signs", "_law_menu", "_law_head"] vs) H := by
  intro vs H Q E h
  replace h := h.out
  obtain ⟨p, q, a, b, cs, g, m, rfl, hp, hq, hc, hg, hm, k⟩ := h
  have T0 := T
  cases T
  have hqp := bxq hp hq
  obtain ⟨g1, g2, g3⟩ := hg
  obtain ⟨m1, m2, m3⟩ := hm
  repeat' ac_rfl
  all_goals (try (conv => whnf))
  · rename_i r1 a1 b1 r10 r11 j hj e x r2 a2 b2 r20 r21 j2 hj2 e2
    exact q_H upd_tw (k [m[j]'hj, g[j2]'hj2] _ _ (low_app (low_at m1 hj) (low_at g1 hj2)) (Nat.le_refl _))
  · rename_i r1 a1 b1 r10 r11 j hj e x
    exact k [m[j]'hj] _ _ (low_at m1 hj) (by simp)

theorem inV2i (a b c : Int) : inV (.int a) [.int b, .int c] = true → a = b ∨ a = c := fun h => by
  unfold inV at h
  simp [eqV] at h
  rcases h with h | h
  · exact .inl h.symm
  · exact .inr h.symm
theorem tok_b {K : PySem.W.Frag} {mg : Str → Option Value} (T0 : Tx K mg) {E : XK} {D : Ends} {p q tp gp : Addr} {a b r : Int} {kh cap : Nat} {cs : List Int} {g m : List Nat} {ts gs : List (List Nat)} {F : Bool} {v8 : Option V} {H : Hp}
    (hp : H p = some (bx a b q)) (hq : H q = some (cel cs)) (hc : okc cs) (hqp : q ≠ p) (hg : low g ∧ 0 < g.length ∧ g.length ≤ 5) (hm : low m ∧ 0 < m.length ∧ m.length < 1000) (ht : H tp = some (tks ts)) (hgs : H gp = some (tks gs)) (htp : tp ≠ p) (hgp : gp ≠ p) (htg : tp ≠ gp) (hqt : q ≠ tp) (hqg : q ≠ gp)
    (hlo : lows ts) (hr : 0 ≤ r ∧ r < 12) (l1 : ts.length < 100) (l2 : gs.length < 100) (l3 : kh < 100)
    (h : ∀ ts' gs' (kh' : Nat) a' b' H', Kp [p, tp, gp] H H' → H' p = some (bx a' b' q) → H' tp = some (tks ts') → H' gp = some (tks gs') → lows ts' → ts'.length ≤ ts.length + 1 → gs'.length ≤ gs.length + 1 → kh' ≤ kh + 1 → D.nx [some (.ref p), some (.str (S g)), some (.str (S m)), some (.int cap), some (.int 4), some (.ref tp), some (.ref gp), some (.int kh'), v8, some (.int r), some (.bl F)] H') :
    b_l_tokens_1_2 K (WD E) D [some (.ref p), some (.str (S g)), some (.str (S m)), some (.int cap), some (.int 4), some (.ref tp), some (.ref gp), some (.int kh), v8, some (.int r), some (.bl F)] H := by
  cases T0
  refine ⟨?_⟩
  have e1 : (ts.map fun k => V.str (S k)).length = ts.length := List.length_map _
  have e2 : (gs.map fun k => V.str (S k)).length = gs.length := List.length_map _
  have l1' : ∀ c, c < 128 → lows [[c]] := fun c hc => lows_1 (fun d hd => by rw [List.mem_singleton.mp hd]; exact hc) (by simp)
  have same : ∀ {t : Addr} {o : HO}, H t = none → D.nx [some (.ref p), some (.str (S g)), some (.str (S m)), some (.int cap), some (.int 4), some (.ref tp), some (.ref gp), some (.int kh), v8, some (.int r), some (.bl F)] (upd H t o) := fun {t o} htn =>
    h ts gs kh a b _ (Kp.rfl'.new htn) (upd_fr htn hp) (upd_fr htn ht) (upd_fr htn hgs) hlo (by omega) (by omega) (by omega)
  have cls : ∀ {t : Addr} {o : HO} {Ex : XK}, H t = none → 0 < ((gs.map fun k => V.str (S k)).length : Int) → sp_l_close K [.ref tp, .ref gp] (upd H t o) (fun _ H1 => D.nx [some (.ref p), some (.str (S g)), some (.str (S m)), some (.int cap), some (.int 4), some (.ref tp), some (.ref gp), some (.int kh), v8, some (.int r), some (.bl F)] H1) Ex := fun {t o Ex} htn hpos => by
    rcases List.eq_nil_or_concat gs with h0 | ⟨gs0, g0, h0⟩
    · rw [h0] at hpos; exact absurd hpos (by decide)
    · rw [List.concat_eq_append] at h0
      have hl : gs.length = gs0.length + 1 := by rw [h0]; simp
      refine i_l_close (gs := gs0) (g := g0) (upd_fr htn ht) (by rw [← h0]; exact upd_fr htn hgs) htg (by omega) (by omega) fun t2 gs2 H2 a1 a2 a3 a4 a5 => ?_
      refine h (ts ++ [t2]) gs2 kh a b H2 (((Kp.rfl'.new htn).trans (a3.mono fun z hz => ?_))) (a3.get2 (upd_fr htn hp) htp.symm hgp.symm) a4 a5 (lows_app hlo a1) (by simp) (by omega) (by omega)
      simp only [List.mem_cons, List.not_mem_nil, or_false] at hz ⊢
      rcases hz with rfl | rfl <;> simp
  repeat' ac_rfl
  all_goals (try (conv => whnf))
  all_goals first
    | exact same (by assumption)
    | exact cls (by assumption) (by omega)
    | (refine i_l_key (upd_fr (by assumption) hp) (upd_fr (by assumption) hq) hc hg hm fun t2 a2 b2 hlo2 hlen2 => ?_
       repeat' ac_rfl
       all_goals (try (conv => whnf))
       exact h (ts ++ [t2]) gs (kh + 1) a2 b2 _ (((Kp.rfl'.new (by assumption)).at (by simp)).at (by simp)) (upd_off htp.symm upd_at) (upd_at.trans (congrArg some tks_app.symm)) (upd_off htg.symm (upd_off hgp (upd_fr (by assumption) hgs))) (lows_app hlo (lows_1 hlo2 hlen2)) (by simp) (by omega) (by omega))
    | (have hx : r = 7 ∨ r = 8 := inV2i _ _ _ (by assumption)
       rcases hx with rfl | rfl
       all_goals
         repeat' ac_rfl
         all_goals (try (conv => whnf))
         refine h (ts ++ [_]) (gs ++ [_]) kh a b _ (((Kp.rfl'.new (by assumption)).at (by simp)).at (by simp)) (upd_off hgp.symm (upd_off htp.symm (upd_fr (by assumption) hp))) (upd_off htg (upd_at.trans (congrArg some tks_app.symm))) (upd_at.trans (congrArg some tks_app.symm)) (lows_app hlo (l1' _ (by decide))) (by simp) (by simp) (by omega))
theorem tok_5 {K : PySem.W.Frag} {mg : Str → Option Value} (T0 : Tx K mg) {E : XK} {Q : VK} {p q tp gp : Addr} {a b : Int} {cap : Nat} {g m : List Nat} {ts gs : List (List Nat)} {v7 v8 v9 v10 : Option V} {H : Hp}
    (hp : H p = some (bx a b q)) (ht : H tp = some (tks ts)) (hgs : H gp = some (tks gs)) (htp : tp ≠ p) (hgp : gp ≠ p) (htg : tp ≠ gp) (hlo : lows ts) (l1 : ts.length < 100) (l2 : gs.length < 100)
    (h : ∀ ts' H', Kp [tp, gp] H H' → H' p = some (bx a b q) → H' tp = some (tks ts') → lows ts' → ts'.length ≤ ts.length + 8 → Q (.ref tp) H') :
    t_l_tokens_5 K (WD E) (EndD Q) [some (.ref p), some (.str (S g)), some (.str (S m)), some (.int cap), some (.int 4), some (.ref tp), some (.ref gp), v7, v8, v9, v10] H := by
  cases T0
  refine ⟨?_⟩
  repeat' ac_rfl
  all_goals (try (conv => whnf))
  refine loop_r (fun i σ H' => Sd (∃ (ts' gs' : List (List Nat)) (v8 : Option V), σ = [some (.ref p), some (.str (S g)), some (.str (S m)), some (.int cap), some (.int 4), some (.ref tp), some (.ref gp), v7, v8, v9, v10] ∧ Kp [tp, gp] H H' ∧ H' p = some (bx a b q) ∧ H' tp = some (tks ts') ∧ H' gp = some (tks gs') ∧ lows ts' ∧ ts'.length ≤ ts.length + i ∧ gs'.length ≤ gs.length + i)) ?_ ?_ ?_
  · exact sd_i ⟨ts, gs, v8, rfl, Kp.rfl', hp, ht, hgs, hlo, by omega, by omega⟩
  · rintro i σ H' hi hP
    obtain ⟨ts', gs', v8, rfl, kk, hp', ht', hg', hlo', hl1, hl2⟩ := sd_e hP
    have hi : i < 8 := hi
    have e2 : (gs'.map fun k => V.str (S k)).length = gs'.length := List.length_map _
    repeat' ac_rfl
    all_goals (try (conv => whnf))
    · rename_i x
      rcases List.eq_nil_or_concat gs' with h0 | ⟨gs0, g0, h0⟩
      · rw [h0] at x; exact absurd x (by decide)
      · rw [List.concat_eq_append] at h0
        have hl : gs'.length = gs0.length + 1 := by rw [h0]; simp
        refine i_l_close (gs := gs0) (g := g0) ht' (by rw [← h0]; exact hg') htg (by omega) (by omega) fun t2 gs2 H2 a1 a2 a3 a4 a5 => ?_
        exact sd_i ⟨ts' ++ [t2], gs2, _, rfl, kk.trans a3, a3.get2 hp' htp.symm hgp.symm, a4, a5, lows_app hlo' a1, by simp; omega, by omega⟩
    · exact sd_i ⟨ts', gs', _, rfl, kk, hp', ht', hg', hlo', by omega, by omega⟩
  · rintro σ H' hP
    obtain ⟨ts', gs', v8, rfl, kk, hp', ht', hg', hlo', hl1, hl2⟩ := sd_e hP
    repeat' ac_rfl
    all_goals (try (conv => whnf))
    exact h ts' H' kk hp' ht' hlo' hl1

theorem rd_l_tokens {K : PySem.W.Frag} {mg : Str → Option Value} (T : Tx K mg) : ∀ vs H Q E, sp_l_tokens K vs H Q E → t_l_tokens K (WD E) (EndD Q) (start ["_law_box_here", "_law_signs", "_law_menu", "_law_cap", "_law_depth", "_law_tokens_here", "_law_groups", "_law_keys_here", "_law_turn", "_law_way", "_law_fresh"] vs) H := by
  intro vs H Q E h
  replace h := h.out
  obtain ⟨p, q, a, b, cs, g, m, cap, rfl, hp, hq, hc, hg, hm, hcap, k⟩ := h
  have T0 := T
  cases T
  have hqp := bxq hp hq
  repeat' ac_rfl
  all_goals (try (conv => whnf))
  rename_i tp htp gp hgp
  have hpt : tp ≠ p := ne_none' hp htp
  have hgpp : gp ≠ p := ne_none' (upd_fr htp hp) hgp
  have htg : tp ≠ gp := ne_none (show upd H tp _ tp = _ from upd_at) hgp
  have hgp0 : H gp = none := Kp.none (Kp.rfl'.new htp) hgp
  have hqt : q ≠ tp := ne_none hq htp
  have hqg : q ≠ gp := ne_none hq hgp0
  refine loop_r (fun i σ H' => Sd (∃ (ts gs : List (List Nat)) (a b : Int) (kh : Nat) (v8 v9 v10 : Option V), σ = [some (.ref p), some (.str (S g)), some (.str (S m)), some (.int cap), some (.int 4), some (.ref tp), some (.ref gp), some (.int kh), v8, v9, v10] ∧ Kp [p] H H' ∧ H' p = some (bx a b q) ∧ H' tp = some (tks ts) ∧ H' gp = some (tks gs) ∧ lows ts ∧ ts.length ≤ i ∧ gs.length ≤ i ∧ kh ≤ i)) ?_ ?_ ?_
  · exact sd_i ⟨[], [], a, b, 0, none, none, none, rfl, (Kp.rfl'.new htp).new hgp, upd_off hgpp.symm (upd_off hpt.symm hp), upd_off htg upd_at, upd_at, (fun _ z => nomatch z), Nat.zero_le _, Nat.zero_le _, Nat.zero_le _⟩
  · rintro i σ H' hi hP
    obtain ⟨ts, gs, a, b, kh, v8, v9, v10, rfl, kk, hp', ht', hg', hlo, hl1, hl2, hl3⟩ := sd_e hP
    have hi60 : i < 64 := by omega
    have hq' : H' q = some (cel cs) := kk.get1 hq hqp
    have e1 : (ts.map fun k => V.str (S k)).length = ts.length := List.length_map _
    have e2 : (gs.map fun k => V.str (S k)).length = gs.length := List.length_map _
    have fin : ∀ (F : Bool) (r a1 b1 : Int) (H2 : Hp) (D : Ends), 0 ≤ r → r < 12 → Kp [] (upd H' p (bx a1 b1 q)) H2 → (∀ ts' gs' (kh' : Nat) a' b' v8 v9 v10 H3, Kp [p] H H3 → H3 p = some (bx a' b' q) → H3 tp = some (tks ts') → H3 gp = some (tks gs') → lows ts' → ts'.length ≤ i + 1 → gs'.length ≤ i + 1 → kh' ≤ i + 1 → D.nx [some (.ref p), some (.str (S g)), some (.str (S m)), some (.int cap), some (.int 4), some (.ref tp), some (.ref gp), some (.int kh'), v8, v9, v10] H3) →
        b_l_tokens_1_2 K (WD E) D [some (.ref p), some (.str (S g)), some (.str (S m)), some (.int cap), some (.int 4), some (.ref tp), some (.ref gp), some (.int kh), some (.int (0 + i)), some (.int r), some (.bl F)] H2 := fun F r a1 b1 H2 D hr0 hr1 k2 h => by
      refine tok_b T0 (k2.get0 upd_at) (k2.get0 (upd_off hqp hq')) hc hqp hg hm (k2.get0 (upd_off hpt ht')) (k2.get0 (upd_off hgpp hg')) hpt hgpp htg hqt hqg hlo ⟨hr0, hr1⟩ (by omega) (by omega) (by omega) fun ts' gs' kh' a' b' H3 c1 c2 c3 c4 c5 c6 c7 c8 => ?_
      refine h ts' gs' kh' a' b' _ _ _ H3 ?_ c2 c3 c4 c5 (by omega) (by omega) (by omega)
      intro z o ez nz
      have nzp : z ≠ p := fun e => nz (by rw [e]; exact List.mem_cons_self)
      refine c1 z o (k2.get0 (upd_off nzp (kk.get1 ez nzp))) fun hz => ?_
      simp only [List.mem_cons, List.not_mem_nil, or_false] at hz
      rcases hz with e | e | e
      · exact nzp e
      · rw [e, htp] at ez; cases ez
      · rw [e, hgp0] at ez; cases ez
    repeat' ac_rfl
    all_goals (try (conv => whnf))
    · rename_i r a1 b1 r0 r1 x
      have hpos : 0 < ts.length := by omega
      refine itm_m1 (by omega) fun j hj ej => ?_
      have hj2 : j < ts.length := by omega
      rw [show (ts.map fun k => V.str (S k))[j] = .str (S ts[j]) from List.getElem_map ..]
      repeat' ac_rfl
      all_goals (try (conv => whnf))
      refine fin _ r a1 b1 _ _ r0 r1 (Kp.rfl'.new (by assumption)) fun ts' gs' kh' a' b' v8 v9 v10 H3 c1 c2 c3 c4 c5 c6 c7 c8 => ?_
      exact sd_i ⟨ts', gs', a', b', kh', v8, v9, v10, rfl, c1, c2, c3, c4, c5, c6, c7, c8⟩
    · rename_i r a1 b1 r0 r1 x
      refine fin _ r a1 b1 _ _ r0 r1 Kp.rfl' fun ts' gs' kh' a' b' v8 v9 v10 H3 c1 c2 c3 c4 c5 c6 c7 c8 => ?_
      exact sd_i ⟨ts', gs', a', b', kh', v8, v9, v10, rfl, c1, c2, c3, c4, c5, c6, c7, c8⟩
  · rintro σ H' hP
    obtain ⟨ts, gs, a, b, kh, v8, v9, v10, rfl, kk, hp', ht', hg', hlo, hl1, hl2, hl3⟩ := sd_e hP
    have hq' : H' q = some (cel cs) := kk.get1 hq hqp
    have e1 : (ts.map fun k => V.str (S k)).length = ts.length := List.length_map _
    have fin : ∀ (ts2 : List (List Nat)) (a2 b2 : Int) (H2 : Hp), Kp [p] H H2 → H2 p = some (bx a2 b2 q) → H2 tp = some (tks ts2) → H2 gp = some (tks gs) → lows ts2 → ts2.length ≤ ts.length + 1 →
        t_l_tokens_5 K (WD E) (EndD Q) [some (.ref p), some (.str (S g)), some (.str (S m)), some (.int cap), some (.int 4), some (.ref tp), some (.ref gp), some (.int kh), v8, v9, v10] H2 := fun ts2 a2 b2 H2 kk2 b1 b2 b3 b4 b5 => by
      refine tok_5 T0 b1 b2 b3 hpt hgpp htg b4 (by omega) (by omega) fun ts3 H3 c1 c2 c3 c4 c5 => ?_
      refine k tp ts3 _ _ H3 c4 (by omega) ?_ c2 htp c3
      intro z o ez nz
      refine c1 z o (kk2 z o ez nz) fun hz => ?_
      simp only [List.mem_cons, List.not_mem_nil, or_false] at hz
      rcases hz with e | e
      · rw [e, htp] at ez; cases ez
      · rw [e, hgp0] at ez; cases ez
    repeat' ac_rfl
    all_goals (try (conv => whnf))
    · rename_i x
      have hpos : 0 < ts.length := by omega
      refine itm_m1 (by omega) fun j hj ej => ?_
      have hj2 : j < ts.length := by omega
      rw [show (ts.map fun k => V.str (S k))[j] = .str (S ts[j]) from List.getElem_map ..]
      repeat' ac_rfl
      all_goals (try (conv => whnf))
      · refine i_l_key (upd_fr (by assumption) hp') (upd_fr (by assumption) hq') hc hg hm fun t2 a2 b2 hlo2 hlen2 => ?_
        repeat' ac_rfl
        all_goals (try (conv => whnf))
        exact fin (ts ++ [t2]) a2 b2 _ (((kk.new (by assumption)).at (by simp)).own htp) (upd_off hpt.symm upd_at) (upd_at.trans (congrArg some tks_app.symm)) (upd_off htg.symm (upd_off hgpp (upd_fr (by assumption) hg'))) (lows_app hlo (lows_1 hlo2 hlen2)) (by simp)
      · refine fin ts a b _ (kk.new (by assumption)) (upd_fr (by assumption) hp') (upd_fr (by assumption) ht') (upd_fr (by assumption) hg') hlo (by omega)
    · exact fin ts a b H' kk hp' ht' hg' hlo (by omega)

theorem strs_lows : ∀ {xs : List V}, (∀ v ∈ xs, ∃ t, v = V.str (S t) ∧ low t ∧ t.length ≤ 2) → ∃ us : List (List Nat), xs = us.map (fun k => V.str (S k)) ∧ lows us
  | [], _ => ⟨[], rfl, fun _ z => nomatch z⟩
  | v :: xs, h => by
    obtain ⟨us, h1, h2⟩ := strs_lows (xs := xs) fun w hw => h w (List.mem_cons_of_mem _ hw)
    obtain ⟨t, rfl, h3, h4⟩ := h v List.mem_cons_self
    refine ⟨t :: us, by rw [h1]; rfl, fun k hk => ?_⟩
    rcases List.mem_cons.mp hk with rfl | hk
    · exact ⟨h3, h4⟩
    · exact h2 k hk
section
variable {K : PySem.W.Frag} {mg : Str → Option Value} {E : XK} {Q : VK} {p q tp : Addr} {a b : Int} {cs : List Int} {g m : List Nat} {ts : List (List Nat)} {v2 v3 v5 v6 v7 v8 v9 v10 : Option V} {H0 H : Hp} {cap : Int}
/-- the strings at the end -/
theorem not_7 (T0 : Tx K mg) (hp : H p = some (bx a b q)) (hq : H q = some (cel cs)) (hqp : q ≠ p) (hc : okc cs) (ht : H tp = some (tks ts)) (hlo : lows ts) (hl : ts.length ≤ 300)
    (k : ∀ n a' b' H', low n → n.length < 10000 → Kp [p] H H' → H' p = some (bx a' b' q) → Q (.str (S n)) H') :
    t_l_notation_7 K (WD E) (EndD Q) [some (.ref p), some (.str (S g)), v2, v3, some (.ref tp), v5, v6, v7, v8, v9, v10] H := by
  cases T0
  refine ⟨?_⟩
  repeat' ac_rfl
  all_goals (try (conv => whnf))
  have hsum : ∀ ks : List (List Nat), lows ks → (ks.map List.length).sum ≤ 2 * ks.length := fun ks => by
    induction ks with
    | nil => exact fun _ => Nat.le_refl _
    | cons x ks ih =>
      intro h
      have h1 := (h x List.mem_cons_self).2
      have h2 := ih fun y hy => h y (List.mem_cons_of_mem _ hy)
      simp only [List.map_cons, List.sum_cons, List.length_cons]; omega
  have hj : ∀ ks : List (List Nat), TL.joinL [] ks = ks.flatten := fun ks => by
    induction ks with
    | nil => rfl
    | cons x ks ih =>
      cases ks with
      | nil => simp [TL.joinL]
      | cons y ks =>
        rw [List.flatten_cons, ← ih]
        simp [TL.joinL]
  have hfl : low ts.flatten := fun c hc => by
    obtain ⟨x, hx, hcx⟩ := List.mem_flatten.mp hc
    exact (hlo x hx).1 c hcx
  have hfn : ts.flatten.length ≤ 600 := by rw [List.length_flatten]; have := hsum ts hlo; omega
  refine ⟨ts, rfl, by have := hsum ts hlo; show _ + _ * 0 ≤ _; omega, ?_⟩
  show _
  rw [show tl (S []) = [] from rfl, hj]
  generalize ts.flatten = n0 at hfl hfn
  repeat' ac_rfl
  all_goals (try (conv => whnf))
  rename_i r a1 b1 r0 r1
  refine loop_r (fun i σ H' => Sd (∃ (n : List Nat) (a b : Int) (v8 : Option V), σ = [some (.ref p), some (.str (S g)), v2, v3, some (.ref tp), v5, v6, v7, v8, v9, some (.str (S n))] ∧ Kp [p] H H' ∧ H' p = some (bx a b q) ∧ low n ∧ (i = 0 → n.length ≤ 600) ∧ (i = 1 → n.length ≤ 2401) ∧ n.length < 10000)) ?_ ?_ ?_
  · exact sd_i ⟨n0, a1, b1, v8, rfl, Kp.rfl'.at (by simp), upd_at, hfl, fun _ => hfn, (fun z => by cases z), by omega⟩
  · rintro i σ H' hi hP
    obtain ⟨n, a, b, v8, rfl, kk, hp', hlo', h1, h2, h3⟩ := sd_e hP
    have hq' : H' q = some (cel cs) := kk.get1 hq hqp
    have hi2 : i = 0 ∨ i = 1 := by omega
    repeat' ac_rfl
    all_goals (try (conv => whnf))
    refine i_l_bent hp' hq' hc ⟨hlo', h3⟩ fun n' a' b' g1 g2 => ?_
    refine sd_i ⟨n', a', b', _, rfl, kk.at (by simp), upd_at, g1, (fun z => by omega), fun z => ?_, ?_⟩
    · have := h1 (by omega); omega
    · rcases hi2 with e | e
      · have := h1 e; omega
      · have := h2 e; omega
  · rintro σ H' hP
    obtain ⟨n, a, b, v8, rfl, kk, hp', hlo', h1, h2, h3⟩ := sd_e hP
    repeat' ac_rfl
    all_goals (try (conv => whnf))
    exact k n a b H' hlo' h3 kk hp'
theorem not_6 (T0 : Tx K mg) (hp : H p = some (bx a b q)) (hq : H q = some (cel cs)) (hqp : q ≠ p) (hc : okc cs) (ht : H tp = some (tks ts)) (htp : tp ≠ p) (hlo : lows ts) (hl : ts.length ≤ 200)
    (k : ∀ n a' b' H', low n → n.length < 10000 → Kp [p] H H' → H' p = some (bx a' b' q) → Q (.str (S n)) H') :
    t_l_notation_6 K (WD E) (EndD Q) [some (.ref p), some (.str (S g)), v2, v3, some (.ref tp), v5, v6, v7, v8, v9, v10] H := by
  have T1 := T0
  cases T0
  refine ⟨?_⟩
  repeat' ac_rfl
  all_goals (try (conv => whnf))
  rename_i l0 hl0 r a1 b1 r0 r1 j hj ej
  have hv : ∃ i : Int, [V.int 0, V.int 0, V.int 0, V.int 1, V.int 2, V.int 3, V.int 4][j] = .int i ∧ 0 ≤ i ∧ i ≤ 4 := by
    have := List.getElem_mem hj
    generalize [V.int 0, V.int 0, V.int 0, V.int 1, V.int 2, V.int 3, V.int 4][j] = x at this ⊢
    simp only [List.mem_cons, List.not_mem_nil, or_false] at this
    rcases this with rfl | rfl | rfl | rfl | rfl | rfl | rfl
    all_goals exact ⟨_, rfl, by decide, by decide⟩
  obtain ⟨i, ei, hi0, hi4⟩ := hv
  rw [ei]
  have hpl0 : p ≠ l0 := ne_none hp hl0
  repeat' ac_rfl
  all_goals (try (conv => whnf))
  refine loop_r (fun n σ H' => Sd (∃ (tp : Addr) (ts : List (List Nat)) (a b : Int) (v8 v9 : Option V), σ = [some (.ref p), some (.str (S g)), v2, v3, some (.ref tp), v5, v6, v7, v8, v9, v10] ∧ Kp [p] H H' ∧ H' p = some (bx a b q) ∧ H' tp = some (tks ts) ∧ tp ≠ p ∧ lows ts ∧ ts.length ≤ 200 + 5 * n)) ?_ ?_ ?_
  · exact sd_i ⟨tp, ts, a1, b1, v8, v9, rfl, (Kp.rfl'.new hl0).at (by simp), upd_at, upd_off htp (upd_fr hl0 ht), htp, hlo, by omega⟩
  · rintro n σ H' hn hP
    obtain ⟨tp, ts, a, b, v8, v9, rfl, kk, hp', ht', htp', hlo', hl'⟩ := sd_e hP
    have hq' : H' q = some (cel cs) := kk.get1 hq hqp
    have e1 : (ts.map fun k => V.str (S k)).length = ts.length := List.length_map _
    have wrapK : ∀ {N : Addr} {a1 b1 : Int} {w8 w9 : Option V} {pre post : List (List Nat)} {Hn : Hp} (h1 : Kp [p] H Hn) (h2 : Hn p = some (bx a1 b1 q)) (h3 : Hn N = some (tks (pre ++ ts ++ post))) (h4 : N ≠ p) (h5 : lows pre) (h6 : lows post) (h7 : pre.length + post.length ≤ 5),
        Sd (∃ (tp : Addr) (ts : List (List Nat)) (a b : Int) (v8 v9 : Option V), [some (.ref p), some (.str (S g)), v2, v3, some (.ref N), v5, v6, v7, w8, w9, v10] = [some (.ref p), some (.str (S g)), v2, v3, some (.ref tp), v5, v6, v7, v8, v9, v10] ∧ Kp [p] H Hn ∧ Hn p = some (bx a b q) ∧ Hn tp = some (tks ts) ∧ tp ≠ p ∧ lows ts ∧ ts.length ≤ 200 + 5 * (n + 1)) := fun {N a1 b1 w8 w9 pre post Hn} h1 h2 h3 h4 h5 h6 h7 =>
      sd_i ⟨N, pre ++ ts ++ post, a1, b1, w8, w9, rfl, h1, h2, h3, h4, lows_app (lows_app h5 hlo') h6, by rw [List.length_append, List.length_append]; omega⟩
    repeat' ac_rfl
    all_goals (try (conv => whnf))
    all_goals first
      | (exfalso; omega)
      | exact sd_i ⟨tp, ts, a, b, _, _, rfl, kk, hp', ht', htp', hlo', by omega⟩
      | skip
    · rename_i r hr
      apply wrapK (pre := [[40]]) (post := [[41]])
      · exact ((((((((((kk.at (by simp)).new (by assumption)).new (by assumption)).new (by assumption)).new (by assumption)).new (by assumption)).new (by assumption)).new (by assumption)).new (by assumption)).new (by assumption)).new (by assumption)
      · exact upd_fr (by assumption) (upd_fr (by assumption) (upd_fr (by assumption) (upd_fr (by assumption) (upd_fr (by assumption) (upd_fr (by assumption) (upd_fr (by assumption) (upd_fr (by assumption) (upd_fr (by assumption) (upd_fr (by assumption) (upd_at))))))))))
      · exact upd_at.trans (congrArg some (by simp [tks]))
      · exact ne_none' (upd_fr (by assumption) (upd_fr (by assumption) (upd_fr (by assumption) (upd_fr (by assumption) (upd_fr (by assumption) (upd_fr (by assumption) (upd_fr (by assumption) (upd_fr (by assumption) (upd_fr (by assumption) (upd_at)))))))))) hr
      · exact lows_of rfl
      · exact lows_of rfl
      · decide
    · rename_i r hr
      apply wrapK (pre := [[91]]) (post := [[124], [93]])
      · exact ((((((((((kk.at (by simp)).new (by assumption)).new (by assumption)).new (by assumption)).new (by assumption)).new (by assumption)).new (by assumption)).new (by assumption)).new (by assumption)).new (by assumption)).new (by assumption)
      · exact upd_fr (by assumption) (upd_fr (by assumption) (upd_fr (by assumption) (upd_fr (by assumption) (upd_fr (by assumption) (upd_fr (by assumption) (upd_fr (by assumption) (upd_fr (by assumption) (upd_fr (by assumption) (upd_fr (by assumption) (upd_at))))))))))
      · exact upd_at.trans (congrArg some (by simp [tks]))
      · exact ne_none' (upd_fr (by assumption) (upd_fr (by assumption) (upd_fr (by assumption) (upd_fr (by assumption) (upd_fr (by assumption) (upd_fr (by assumption) (upd_fr (by assumption) (upd_fr (by assumption) (upd_fr (by assumption) (upd_at)))))))))) hr
      · exact lows_of rfl
      · exact lows_of rfl
      · decide
    · rename_i r hr
      apply wrapK (pre := [[91], [119], [124]]) (post := [[93]])
      · exact ((((((((((kk.at (by simp)).new (by assumption)).new (by assumption)).new (by assumption)).new (by assumption)).new (by assumption)).new (by assumption)).new (by assumption)).new (by assumption)).new (by assumption)).new (by assumption)
      · exact upd_fr (by assumption) (upd_fr (by assumption) (upd_fr (by assumption) (upd_fr (by assumption) (upd_fr (by assumption) (upd_fr (by assumption) (upd_fr (by assumption) (upd_fr (by assumption) (upd_fr (by assumption) (upd_fr (by assumption) (upd_at))))))))))
      · exact upd_at.trans (congrArg some (by simp [tks]))
      · exact ne_none' (upd_fr (by assumption) (upd_fr (by assumption) (upd_fr (by assumption) (upd_fr (by assumption) (upd_fr (by assumption) (upd_fr (by assumption) (upd_fr (by assumption) (upd_fr (by assumption) (upd_fr (by assumption) (upd_at)))))))))) hr
      · exact lows_of rfl
      · exact lows_of rfl
      · decide
  · rintro σ H' hP
    obtain ⟨tp, ts, a, b, v8, v9, rfl, kk, hp', ht', htp', hlo', hl'⟩ := sd_e hP
    exact not_7 T1 hp' (kk.get1 hq hqp) hqp hc ht' hlo' (by omega) fun n a' b' H2 h1 h2 h3 h4 => k n a' b' H2 h1 h2 (kk.trans h3) h4
theorem not_3 {cap : Nat} (T0 : Tx K mg) (hp : H p = some (bx a b q)) (hq : H q = some (cel cs)) (hqp : q ≠ p) (hc : okc cs) (hg : low g ∧ 0 < g.length ∧ g.length ≤ 5) (hm : low m ∧ 0 < m.length ∧ m.length < 1000) (hcap : cap ≤ 25)
    (k : ∀ n a' b' H', low n → n.length < 10000 → Kp [p] H H' → H' p = some (bx a' b' q) → Q (.str (S n)) H') :
    t_l_notation_3 K (WD E) (EndD Q) [some (.ref p), some (.str (S g)), some (.str (S m)), some (.int cap), none, none, none, none, none, none, none] H := by
  have T1 := T0
  cases T0
  refine ⟨?_⟩
  repeat' ac_rfl
  all_goals (try (conv => whnf))
  refine i_l_tokens hp hq hc hg hm (by omega) fun t ts a1 b1 H1 hlo hl k1 hp1 ht0 ht1 => ?_
  have hq1 := k1.get1 hq hqp
  have htp : t ≠ p := ne_none' hp ht0
  repeat' ac_rfl
  all_goals (try (conv => whnf))
  refine lcp_K ht1 (fun m => !inV (.str (S m)) [.str (S [40]), .str (S [41]), .str (S [91]), .str (S [124]), .str (S [93])]) (fun m => .str (S m)) (by omega) ?_ ?_ (fun _ => rfl) ?_
  · rintro c H' Q' hc kk hQ
    repeat' ac_rfl
    all_goals (try (conv => whnf))
    exact hQ _ (Kp.rfl'.new (by assumption))
  · rintro c H' Q' hc _ kk hQ
    exact hQ _ Kp.rfl'
  intro D H2 hD k2 hD2
  have hp2 := k2.get0 hp1
  have hq2 := k2.get0 hq1
  have ht2 := k2.get0 ht1
  generalize hKL : (ts.filter fun m => !inV (.str (S m)) [.str (S [40]), .str (S [41]), .str (S [91]), .str (S [124]), .str (S [93])]) = ks at hD2
  have hkl : ks.length ≤ ts.length := by rw [← hKL]; exact List.length_filter_le _ _
  have hkm : (ks.map fun m => V.str (S m)).length = ks.length := List.length_map _
  have htm : (ts.map fun m => V.str (S m)).length = ts.length := List.length_map _
  repeat' ac_rfl
  all_goals (try (conv => whnf))
  · refine lcp_B p ⟨_, hp2⟩ (fun o => ∃ a b, o = bx a b q) (fun v => ∃ t, v = .str (S t) ∧ low t ∧ t.length ≤ 2) (fun o e => ⟨a1, b1, by rw [hp2] at e; exact (Option.some.inj e).symm⟩) (by omega) (fun _ _ _ _ _ h => h.1) (fun _ _ _ _ => trivial) ?_ (fun _ => rfl) ?_
    · rintro j x D2 o ys Q' hj hD2' hne hit ⟨a2, b2, rfl⟩ hQ
      conv => whnf
      refine i_l_key (upd_off hne.symm upd_at) (upd_off (ne_none hq2 hD2') (upd_off hqp hq2)) hc hg hm fun t3 a3 b3 h1 h2 => ?_
      exact hQ _ _ ⟨t3, rfl, h1, h2⟩ ⟨a3, b3, rfl⟩
    · rintro D2 xs o hD2' hne hxl hP ⟨a2, b2, rfl⟩
      obtain ⟨us, rfl, hlu⟩ := strs_lows hP
      have hul : us.length = (cap - ((ks.map fun m => V.str (S m)).length : Int)).toNat := by rw [← hxl, List.length_map]
      have hum : (us.map fun k => V.str (S k)).length = us.length := List.length_map _
      have htD : t ≠ D2 := ne_none ht2 hD2'
      have ht3 : upd (upd H2 p (bx a2 b2 q)) D2 (.lst (us.map fun k => V.str (S k))) t = some (tks ts) := upd_off htD (upd_off htp ht2)
      have k3 : Kp [p] H2 (upd (upd H2 p (bx a2 b2 q)) D2 (.lst (us.map fun k => V.str (S k)))) := (Kp.rfl'.at (by simp)).own hD2'
      repeat' ac_rfl
      all_goals (try (conv => whnf))
      rename_i r hr
      have hrp : r ≠ p := ne_none' (upd_off hne.symm (show upd H2 p _ p = _ from upd_at)) hr
      refine not_6 T1 (upd_fr hr (upd_off hne.symm upd_at)) (upd_fr hr (k3.get1 hq2 hqp)) hqp hc (upd_at.trans (congrArg some (by simp [tks]))) hrp (lows_app hlo hlu) (by rw [List.length_append]; omega) fun n a' b' H' g1 g2 g3 g4 => k n a' b' H' g1 g2 (((k1.trans k2.nil).trans (k3.new hr)).trans g3) g4
  · exact not_6 T1 hp2 hq2 hqp hc ht2 htp hlo (by omega) fun n a' b' H' g1 g2 g3 g4 => k n a' b' H' g1 g2 ((k1.trans k2.nil).trans g3) g4
theorem not_1 (T0 : Tx K mg) (hp : H p = some (bx a b q)) (hq : H q = some (cel cs)) (hqp : q ≠ p) (hc : okc cs) (hg : low g ∧ 0 < g.length ∧ g.length ≤ 5) (hm : low m ∧ 0 < m.length ∧ m.length < 1000)
    (k : ∀ n a' b' H', low n → n.length < 10000 → Kp [p] H H' → H' p = some (bx a' b' q) → Q (.str (S n)) H') :
    t_l_notation_1 K (WD E) (EndD Q) [some (.ref p), some (.str (S g)), some (.str (S m)), none, none, none, none, none, none, none, none] H := by
  have T1 := T0
  cases T0
  refine ⟨?_⟩
  have fin : ∀ (c : Int) (a1 b1 : Int) (H2 : Hp), 0 ≤ c → c ≤ 25 → H2 = upd H p (bx a1 b1 q) → t_l_notation_3 K (WD E) (EndD Q) [some (.ref p), some (.str (S g)), some (.str (S m)), some (.int c), none, none, none, none, none, none, none] H2 := fun c a1 b1 H2 c0 c1 e => by
    obtain ⟨cap, rfl⟩ := Int.eq_ofNat_of_zero_le c0
    subst e
    exact not_3 T1 upd_at (upd_off hqp hq) hqp hc hg hm (by omega) fun n a' b' H' g1 g2 g3 g4 => k n a' b' H' g1 g2 ((Kp.rfl'.at (by simp)).trans g3) g4
  repeat' ac_rfl
  all_goals (try (conv => whnf))
  · rename_i r1 a1 b1 x1 x2 r2 a2 b2 y1 y2 y r3 a3 b3 z1 z2
    exact fin (23 + r3) a3 b3 _ (by omega) (by omega) upd_tw2
  · rename_i r1 a1 b1 x1 x2 r2 a2 b2 y1 y2 y
    exact fin ((r1 + 3) % 9) a2 b2 _ (by omega) (by omega) upd_tw
end

theorem rd_l_notation {K : PySem.W.Frag} {mg : Str → Option Value} (T : Tx K mg) : ∀ vs H Q E, sp_l_notation K vs H Q E → t_l_notation K (WD E) (EndD Q) (start ["_law_box_here", "_law_signs", "_law_menu", "_law_cap", "_law_tokens_here", "_law_keys_here", "_law_token", "_law_k", "_law_turn", "_law_way", "_law_notation_here"] vs) H := by
  intro vs H Q E h
  replace h := h.out
  obtain ⟨p, q, a, b, cs, g, rfl, hp, hq, hc, hg, k⟩ := h
  have T0 := T
  cases T
  have hqp := bxq hp hq
  have fin : ∀ (m : List Nat) (l : Addr) (o : HO) (a1 b1 : Int), H l = none → low m ∧ 0 < m.length ∧ m.length < 1000 → t_l_notation_1 K (WD E) (EndD Q) [some (.ref p), some (.str (S g)), some (.str (S m)), none, none, none, none, none, none, none, none] (upd (upd H l o) p (bx a1 b1 q)) := fun m l o a1 b1 hl hm =>
    not_1 T0 upd_at (upd_off hqp (upd_fr hl hq)) hqp hc hg hm fun n a' b' H' g1 g2 g3 g4 => k n a' b' H' g1 g2 (((Kp.rfl'.new hl).at (by simp)).trans g3) g4
  have lw : ∀ {m : List Nat}, (m.all fun c => decide (c < 128)) = true → low m := fun h c hc => of_decide_eq_true (List.all_eq_true.mp h c hc)
  repeat' ac_rfl
  all_goals (try (conv => whnf))
  all_goals exact fin _ _ _ _ _ (by assumption) ⟨lw rfl, by decide, by decide⟩

/-- where the scan stands -/
def scP (g n : List Nat) (i : Nat) (gr : List Nat) (ks : List (List Nat)) (fs : Bool) : Prop :=
  (∃ f ms, n.length - i < f ∧ scan g n = scn g f (n.drop i) i gr ms ∧ ks = kof ms ∧ fs = fr ms ∧ ms.length ≤ i ∧ ∀ m ∈ ms, okm g m) ∨
  ∃ f ms c, n.length - i < f ∧ c ∈ SK ∧ 0 < i ∧ scan g n = scn g (f + 1) (c :: n.drop i) (i - 1) gr ms ∧ ks = kof ms ++ [[c]] ∧ ms.length ≤ i ∧ ∀ m ∈ ms, okm g m
theorem scan_b {K : PySem.W.Frag} {mg : Str → Option Value} (T0 : Tx K mg) {E : XK} {D : Ends} {gp kp : Addr} {g n gr : List Nat} {ks : List (List Nat)} {fs : Bool} {H0 H : Hp} {i c : Nat}
    (hg : (∀ c ∈ g, ¬ c ∈ OB) ∧ g.length < 1000) (hn : n.length < 100000) (hi : i < n.length) (hc : n[i] = c) (kk : Kp [] H0 H) (hgp0 : H0 gp = none) (hkp0 : H0 kp = none) (hgk : gp ≠ kp) (hg' : H gp = some (.lst (sgn gr))) (hk' : H kp = some (tks ks)) (hgl : gr.length ≤ 4) (hkl : ks.length ≤ i + 1) (hsc : scP g n i gr ks fs)
    (hrt : ∀ r H', Kp [] H0 H' → H0 r = none → H' r = some (.lst [.int (scan g n).1, .ref kp]) → 0 ≤ (scan g n).1 → (∃ ks, H' kp = some (tks ks)) → D.rt (.ref r) H')
    (h : ∀ gr' ks' fs' H', Kp [] H0 H' → H' gp = some (.lst (sgn gr')) → H' kp = some (tks ks') → gr'.length ≤ 4 → ks'.length ≤ i + 2 → scP g n (i + 1) gr' ks' fs' → D.nx [some (.str (S g)), some (.str (S n)), some (.ref gp), some (.ref kp), some (.bl fs'), some (.int (0 + i)), some (.str (S [c])), some (.str (S (gr.getLast?.toList)))] H') :
    b_l_scan_1_2 K (WD E) D [some (.str (S g)), some (.str (S n)), some (.ref gp), some (.ref kp), some (.bl fs), some (.int (0 + i)), some (.str (S [c])), some (.str (S (gr.getLast?.toList)))] H := by
  cases T0
  refine ⟨?_⟩
  have ed := List.drop_eq_getElem_cons hi
  rw [hc] at ed
  rcases hsc with ⟨f, ms, a1, a2, a3, a4, a5, a6⟩ | ⟨f, ms, c0, a1, a2, a3, a4, a5, a6, a7⟩
  · obtain ⟨f, rfl⟩ : ∃ k, f = k + 1 := ⟨f - 1, by omega⟩
    rw [ed] at a2
    have hkm : (ks.map fun k => V.str (S k)).length = ks.length := List.length_map _
    have hgm : (sgn gr).length = gr.length := sgn_len gr
    have e1 : ∀ {a : Nat}, tl (S [c]) = tl (S [a]) → c = a := fun h => by injection h
    have e2 : ∀ {a : Nat}, tl (S gr.getLast?.toList) = tl (S [a]) → gr.getLast? = some a := fun {a} h => by
      have h : gr.getLast?.toList = [a] := h
      cases hl : gr.getLast? with
      | none => rw [hl] at h; cases h
      | some b => rw [hl] at h; injection h with h; rw [h]
    have e3 : ∀ {a : Nat}, gr.getLast? = some a → tl (S gr.getLast?.toList) = tl (S [a]) := fun h => by rw [h]; rfl
    have pos : ∀ {a : Nat}, gr.getLast? = some a → 0 < gr.length := fun h => by
      cases gr with
      | nil => cases h
      | cons => simp
    have inBK : (c ∈ OB ∨ c ∈ BK) → c ∈ BK := fun h => by
      rcases h with h | h
      · simp only [BK, OB, List.mem_cons, List.not_mem_nil, or_false] at h ⊢; omega
      · exact h
    have notS : c ∈ BK → ¬ c ∈ SK := fun h z => by
      simp only [SK, BK, List.mem_cons, List.not_mem_nil, or_false] at h z; omega
    have err : ∀ {H1 : Hp} (k1 : Kp [] H H1) {t : Addr}, H1 t = none → (scan g n).1 = (i : Int) → D.rt (.ref t) (upd H1 t (.lst [.int (0 + (i : Int)), .ref kp])) := fun {H1} k1 {t} ht he =>
      hrt t _ ((kk.trans k1).new ht) (Kp.none (kk.trans k1) ht) (by rw [he]; exact upd_at.trans (by rw [Int.zero_add])) (by rw [he]; omega) ⟨ks, upd_fr ht (k1.get0 hk')⟩
    have errb : ∀ {H1 : Hp} (k1 : Kp [] H H1) {t : Addr}, H1 t = none → c ∈ BK → ga gr c fs = none → D.rt (.ref t) (upd H1 t (.lst [.int (0 + (i : Int)), .ref kp])) := fun {H1} k1 {t} ht hb hgn =>
      err k1 ht (by rw [a2]; exact scn_be (notS hb) hb (by rw [← a4]; exact hgn))
    have nxb : ∀ {H1 : Hp} (k1 : Kp [] H H1) {gr' : List Nat} {H2 : Hp}, c ∈ BK → ga gr c fs = some gr' → H2 = upd H1 gp (.lst (sgn gr')) → D.nx [some (.str (S g)), some (.str (S n)), some (.ref gp), some (.ref kp), some (.bl (decide (c ∈ tl (S [40, 91])))), some (.int (0 + i)), some (.str (S [c])), some (.str (S (gr.getLast?.toList)))] H2 := fun {H1} k1 {gr' H2} hb hgs hH => by
      subst hH
      refine h gr' ks _ _ ((kk.trans k1).own hgp0) upd_at (upd_off hgk.symm (k1.get0 hk')) (ga_len hgs hgl) (by omega) (.inl ⟨f, ms ++ [[c]], by omega, ?_, ?_, fr_1.symm, by rw [List.length_append, List.length_singleton]; omega, okm_app a6 (.inl ⟨c, rfl, .inl hb⟩)⟩)
      · rw [a2, scn_b (notS hb) hb (by rw [← a4]; exact hgs)]
      · have : kof [[c]] = [] := by
          unfold kof; rw [List.filter_cons, if_neg (by show ¬ (!decide (c ∈ BK)) = true; rw [decide_eq_true hb]; decide)]; rfl
        rw [a3, kof_app, this, List.append_nil]
    have nxp : ∀ {H1 : Hp} (k1 : Kp [] H H1) {H2 : Hp}, ¬ c ∈ tl (S [40, 91]) → c ∈ tl (S [39, 61, 47, 62, 120, 119, 94, 109, 107, 99, 112]) → H2 = upd H1 kp (.lst ((ks.map fun k => V.str (S k)) ++ [.str (S [c])])) → D.nx [some (.str (S g)), some (.str (S n)), some (.ref gp), some (.ref kp), some (.bl (decide (c ∈ tl (S [40, 91])))), some (.int (0 + i)), some (.str (S [c])), some (.str (S (gr.getLast?.toList)))] H2 := fun {H1} k1 {H2} x hc hH => by
      subst hH
      have hc : c ∈ [39, 61, 47, 62, 120, 119, 94, 109, 107, 99, 112] := hc
      have hsp : c ∈ SK ∨ (c ∈ PK ∧ ¬ c ∈ SK ∧ ¬ c ∈ BK) := by
        simp only [SK, PK, BK, List.mem_cons, List.not_mem_nil, or_false] at hc ⊢; omega
      refine h gr (ks ++ [[c]]) _ _ ((kk.trans k1).own hkp0) (upd_off hgk (k1.get0 hg')) (upd_at.trans (congrArg some tks_app.symm)) hgl (by rw [List.length_append, List.length_singleton]; omega) ?_
      rcases hsp with h1 | ⟨h1, h2, h3⟩
      · exact .inr ⟨f, ms, c, by omega, h1, by omega, by rw [a2, Nat.add_sub_cancel], by rw [a3], by omega, a6⟩
      · refine .inl ⟨f, ms ++ [[c]], by omega, by rw [a2, scn_p h2 h3 h1], ?_, fr_1.symm, by rw [List.length_append, List.length_singleton]; omega, okm_app a6 (.inl ⟨c, rfl, .inr h1⟩)⟩
        have : kof [[c]] = [[c]] := by
          unfold kof; rw [List.filter_cons, if_pos (by show (!decide (c ∈ BK)) = true; rw [decide_eq_false h3]; decide)]; rfl
        rw [a3, kof_app, this]
    have HGP : ∀ {H1 : Hp} {xs ys : List V}, xs = ys → upd H1 gp (.lst xs) = upd H1 gp (.lst ys) := fun h => by rw [h]
    rcases List.eq_nil_or_concat ks with h0 | ⟨ks0, k0, h0⟩
    · have hne : (ks.map fun k => V.str (S k)).isEmpty = true := by rw [h0]; rfl
      have HKP : ∀ {H1 : Hp} {xs ys : List V}, xs = ys → upd H1 kp (.lst xs) = upd H1 kp (.lst ys) := fun h => by rw [h]
      repeat' ac_rfl
      all_goals (try (conv => whnf))
      · rename_i x y t ht
        exact errb Kp.rfl' ht (inBK (.inl x)) (by unfold ga; rw [if_pos x, if_neg (by omega)])
      · rename_i x y
        exact nxb Kp.rfl' (inBK (.inl x)) (by unfold ga; rw [if_pos x, if_pos (by omega)]) (HGP (by unfold sgn; rw [List.map_append]; rfl))
      · rename_i x y z u t ht
        have y := e1 y
        exact errb Kp.rfl' ht (by rw [y]; decide) (by unfold ga; rw [y, if_neg (by decide), if_pos rfl, if_neg (fun h => by rw [u] at h; cases h.2)])
      · rename_i x y z u
        have := pos (e2 z)
        refine itm_s (by omega) (by omega) fun j hj ej => ?_
        repeat' ac_rfl
        all_goals (try (conv => whnf))
        have y := e1 y
        exact nxb Kp.rfl' (by rw [y]; decide) (by unfold ga; rw [y, if_neg (by decide), if_pos rfl, if_pos ⟨e2 z, u⟩]) (HGP (by unfold sgn; rw [List.map_dropLast]))
      · rename_i x y z t ht
        have y := e1 y
        exact errb Kp.rfl' ht (by rw [y]; decide) (by unfold ga; rw [y, if_neg (by decide), if_pos rfl, if_neg (fun h => z (e3 h.1))])
      · rename_i x y z u v t ht
        have z := e1 z
        exact errb Kp.rfl' ht (by rw [z]; decide) (by unfold ga; rw [z, if_neg (by decide), if_neg (by decide), if_pos rfl, if_neg (fun h => by rw [v] at h; cases h.2)])
      · rename_i x y z u v
        have := pos (e2 u)
        refine ixs_i (by omega) (by omega) fun j hj ej => ?_
        repeat' ac_rfl
        all_goals (try (conv => whnf))
        have z := e1 z
        have hj : j = gr.length - 1 := by omega
        refine nxb Kp.rfl' (by rw [z]; decide) (by unfold ga; rw [z, if_neg (by decide), if_neg (by decide), if_pos rfl, if_pos ⟨e2 u, v⟩]) (HGP ?_)
        rw [hj]; exact set_last this
      · rename_i x y z u t ht
        have z := e1 z
        exact errb Kp.rfl' ht (by rw [z]; decide) (by unfold ga; rw [z, if_neg (by decide), if_neg (by decide), if_pos rfl, if_neg (fun h => u (e3 h.1))])
      · rename_i x y z u v
        have := pos (e2 v)
        refine itm_s (by omega) (by omega) fun j hj ej => ?_
        repeat' ac_rfl
        all_goals (try (conv => whnf))
        have u := e1 u
        exact nxb Kp.rfl' (by rw [u]; decide) (by unfold ga; rw [u, if_neg (by decide), if_neg (by decide), if_neg (by decide), if_pos (e2 v)]) (HGP (by unfold sgn; rw [List.map_dropLast]))
      · rename_i x y z u v t ht
        have u := e1 u
        exact errb Kp.rfl' ht (by rw [u]; decide) (by unfold ga; rw [u, if_neg (by decide), if_neg (by decide), if_neg (by decide), if_neg (fun h => v (e3 h))])
      · rename_i x y z u v
        exact nxp Kp.rfl' x v (HKP rfl)
      · rename_i x y z u v t ht
        have nb : ¬ c ∈ BK := fun w => by
          have x : ¬ c ∈ OB := x
          have y : ¬ c = 41 := fun q => y (by rw [q])
          have z : ¬ c = 124 := fun q => z (by rw [q])
          have u : ¬ c = 93 := fun q => u (by rw [q])
          simp only [BK, OB, List.mem_cons, List.not_mem_nil, or_false] at w x
          omega
        refine err Kp.rfl' ht ?_
        have v : ¬ c ∈ [39, 61, 47, 62, 120, 119, 94, 109, 107, 99, 112] := v
        simp only [List.mem_cons, List.not_mem_nil, or_false] at v
        rw [a2]; exact scn_e (by simp only [SK, List.mem_cons, List.not_mem_nil, or_false]; omega) nb (by simp only [PK, List.mem_cons, List.not_mem_nil, or_false]; omega)
    · rw [List.concat_eq_append] at h0
      have hk2 : H kp = some (.lst (ks0.map (fun k => V.str (S k)) ++ [.str (S k0)])) := by rw [hk', h0, tks_app]
      clear hk'
      have hne : (ks0.map (fun k => V.str (S k)) ++ [V.str (S k0)]).isEmpty = false := by simp
      have hkm : (ks0.map (fun k => V.str (S k)) ++ [V.str (S k0)]).length = ks0.length + 1 := by simp
      have hkl0 : ks0.length + 1 = ks.length := by rw [h0]; simp
      have HKP : ∀ {H1 : Hp} {xs ys : List V}, xs = ys → upd H1 kp (.lst ((ks0.map (fun k => V.str (S k)) ++ [.str (S k0)]) ++ xs)) = upd H1 kp (.lst ((ks.map fun k => V.str (S k)) ++ ys)) := fun h => by rw [h, h0, List.map_append]; rfl
      have hin : inV (V.str (S k0)) [V.str (S [39]), V.str (S [61]), V.str (S [47])] = false := by
        have hm : k0 ∈ kof ms := by rw [← a3, h0]; simp
        rcases a6 k0 ((List.mem_filter.mp hm).1) with ⟨d, rfl, hd⟩ | ⟨d, d', rfl, hd, _⟩
        · have : ¬ d ∈ SK := fun z => by
            simp only [SK, PK, BK, List.mem_cons, List.not_mem_nil, or_false] at hd z; omega
          exact inV_sk this
        · unfold inV
          simp [eqV]
      repeat' ac_rfl
      all_goals (try (conv => whnf))
      refine itm_last ?_
      repeat' ac_rfl
      all_goals (try (conv => whnf))
      · rename_i x y t ht
        exact errb (Kp.rfl'.new (by assumption)) ht (inBK (.inl x)) (by unfold ga; rw [if_pos x, if_neg (by omega)])
      · rename_i x y
        exact nxb (Kp.rfl'.new (by assumption)) (inBK (.inl x)) (by unfold ga; rw [if_pos x, if_pos (by omega)]) (HGP (by unfold sgn; rw [List.map_append]; rfl))
      · rename_i x y z u t ht
        have y := e1 y
        exact errb (Kp.rfl'.new (by assumption)) ht (by rw [y]; decide) (by unfold ga; rw [y, if_neg (by decide), if_pos rfl, if_neg (fun h => by rw [u] at h; cases h.2)])
      · rename_i x y z u
        have := pos (e2 z)
        refine itm_s (by omega) (by omega) fun j hj ej => ?_
        repeat' ac_rfl
        all_goals (try (conv => whnf))
        have y := e1 y
        exact nxb (Kp.rfl'.new (by assumption)) (by rw [y]; decide) (by unfold ga; rw [y, if_neg (by decide), if_pos rfl, if_pos ⟨e2 z, u⟩]) (HGP (by unfold sgn; rw [List.map_dropLast]))
      · rename_i x y z t ht
        have y := e1 y
        exact errb (Kp.rfl'.new (by assumption)) ht (by rw [y]; decide) (by unfold ga; rw [y, if_neg (by decide), if_pos rfl, if_neg (fun h => z (e3 h.1))])
      · rename_i x y z u v t ht
        have z := e1 z
        exact errb (Kp.rfl'.new (by assumption)) ht (by rw [z]; decide) (by unfold ga; rw [z, if_neg (by decide), if_neg (by decide), if_pos rfl, if_neg (fun h => by rw [v] at h; cases h.2)])
      · rename_i x y z u v
        have := pos (e2 u)
        refine ixs_i (by omega) (by omega) fun j hj ej => ?_
        repeat' ac_rfl
        all_goals (try (conv => whnf))
        have z := e1 z
        have hj : j = gr.length - 1 := by omega
        refine nxb (Kp.rfl'.new (by assumption)) (by rw [z]; decide) (by unfold ga; rw [z, if_neg (by decide), if_neg (by decide), if_pos rfl, if_pos ⟨e2 u, v⟩]) (HGP ?_)
        rw [hj]; exact set_last this
      · rename_i x y z u t ht
        have z := e1 z
        exact errb (Kp.rfl'.new (by assumption)) ht (by rw [z]; decide) (by unfold ga; rw [z, if_neg (by decide), if_neg (by decide), if_pos rfl, if_neg (fun h => u (e3 h.1))])
      · rename_i x y z u v
        have := pos (e2 v)
        refine itm_s (by omega) (by omega) fun j hj ej => ?_
        repeat' ac_rfl
        all_goals (try (conv => whnf))
        have u := e1 u
        exact nxb (Kp.rfl'.new (by assumption)) (by rw [u]; decide) (by unfold ga; rw [u, if_neg (by decide), if_neg (by decide), if_neg (by decide), if_pos (e2 v)]) (HGP (by unfold sgn; rw [List.map_dropLast]))
      · rename_i x y z u v t ht
        have u := e1 u
        exact errb (Kp.rfl'.new (by assumption)) ht (by rw [u]; decide) (by unfold ga; rw [u, if_neg (by decide), if_neg (by decide), if_neg (by decide), if_neg (fun h => v (e3 h))])
      · rename_i x y z u v
        exact nxp (Kp.rfl'.new (by assumption)) x v (HKP rfl)
      · rename_i x y z u v t ht
        have nb : ¬ c ∈ BK := fun w => by
          have x : ¬ c ∈ OB := x
          have y : ¬ c = 41 := fun q => y (by rw [q])
          have z : ¬ c = 124 := fun q => z (by rw [q])
          have u : ¬ c = 93 := fun q => u (by rw [q])
          simp only [BK, OB, List.mem_cons, List.not_mem_nil, or_false] at w x
          omega
        refine err (Kp.rfl'.new (by assumption)) ht ?_
        have v : ¬ c ∈ [39, 61, 47, 62, 120, 119, 94, 109, 107, 99, 112] := v
        simp only [List.mem_cons, List.not_mem_nil, or_false] at v
        rw [a2]; exact scn_e (by simp only [SK, List.mem_cons, List.not_mem_nil, or_false]; omega) nb (by simp only [PK, List.mem_cons, List.not_mem_nil, or_false]; omega)
  · have hk2 : H kp = some (.lst ((kof ms).map (fun k => V.str (S k)) ++ [.str (S [c0])])) := by rw [hk', a5, tks_app]
    clear hk'
    have hne : ((kof ms).map (fun k => V.str (S k)) ++ [V.str (S [c0])]).isEmpty = false := by simp
    have hin : inV (V.str (S [c0])) [V.str (S [39]), V.str (S [61]), V.str (S [47])] = true := by
      simp only [SK, List.mem_cons, List.not_mem_nil, or_false] at a2
      rcases a2 with rfl | rfl | rfl <;> decide
    have hkm : ((kof ms).map (fun k => V.str (S k)) ++ [V.str (S [c0])]).length = (kof ms).length + 1 := by simp
    have hkof : (kof ms).length ≤ ms.length := List.length_filter_le _ _
    repeat' ac_rfl
    all_goals (try (conv => whnf))
    refine itm_last ?_
    repeat' ac_rfl
    all_goals (try (conv => whnf))
    · refine itm_last ?_
      repeat' ac_rfl
      all_goals (try (conv => whnf))
      rename_i t0 ht0 x j hj ej
      have x : c ∈ g := x
      have hj2 : j = ((kof ms).map (fun k => V.str (S k))).length := by rw [List.length_map]; omega
      have hset : ((kof ms).map (fun k => V.str (S k)) ++ [V.str (S [c0])]).set j (V.str (S (tl (S [c0]) ++ tl (S [c])))) = (kof ms).map (fun k => V.str (S k)) ++ [V.str (S [c0, c])] := by
        rw [hj2, List.set_append_right _ _ (Nat.le_refl _), Nat.sub_self]; rfl
      have hkn : kof (ms ++ [[c0, c]]) = kof ms ++ [[c0, c]] := by unfold kof; rw [List.filter_append]; rfl
      rw [hset]
      refine h gr (kof ms ++ [[c0, c]]) (decide (c ∈ OB)) _ ((kk.new ht0).own hkp0) (upd_off hgk (upd_fr ht0 hg')) (upd_at.trans (congrArg some tks_app.symm)) hgl (by rw [List.length_append, List.length_singleton]; omega) (.inl ⟨f, ms ++ [[c0, c]], by omega, ?_, hkn.symm, ?_, by rw [List.length_append, List.length_singleton]; omega, okm_app a7 (.inr ⟨c0, c, rfl, a2, x⟩)⟩)
      · rw [a4, ed, scn_2 a2 x, show i - 1 + 2 = i + 1 by omega]
      · rw [fr_2, decide_eq_false (hg.1 c x)]
    · rename_i t0 ht0 x t2 ht2
      have x : ¬ c ∈ g := x
      have he : (scan g n).1 = (i : Int) := by
        rw [a4, scn_2e a2 (fun d hd => by rw [ed] at hd; cases hd; exact x), show i - 1 + 1 = i by omega]
      refine hrt t2 _ ((kk.new ht0).new ht2) (Kp.none (kk.new ht0) ht2) (by rw [he]; exact upd_at.trans (by rw [Int.zero_add])) (by rw [he]; omega) ⟨ks, upd_fr ht2 (upd_fr ht0 (by rw [hk2, a5, tks_app]))⟩

theorem rd_l_scan {K : PySem.W.Frag} {mg : Str → Option Value} (T : Tx K mg) : ∀ vs H Q E, sp_l_scan K vs H Q E → t_l_scan K (WD E) (EndD Q) (start ["_law_signs", "_law_notation_here", "_law_groups", "_law_keys_here", "_law_fresh", "_law_place", "_law_char_here", "_law_top"] vs) H := by
  intro vs H Q E h
  replace h := h.out
  obtain ⟨g, n, rfl, hg, hn, k⟩ := h
  have T0 := T
  cases T
  repeat' ac_rfl
  all_goals (try (conv => whnf))
  rename_i gp hgp kp hkp
  have hgk : gp ≠ kp := ne_none (show upd H gp _ gp = _ from upd_at) hkp
  have hkp0 : H kp = none := Kp.none (Kp.rfl'.new hgp) hkp
  refine loop_r (fun i σ H' => Sd (∃ (gr : List Nat) (ks : List (List Nat)) (fs : Bool) (v5 v6 v7 : Option V), σ = [some (.str (S g)), some (.str (S n)), some (.ref gp), some (.ref kp), some (.bl fs), v5, v6, v7] ∧ Kp [] H H' ∧ H' gp = some (.lst (sgn gr)) ∧ H' kp = some (tks ks) ∧ gr.length ≤ 4 ∧ ks.length ≤ i + 1 ∧ scP g n i gr ks fs)) ?_ ?_ ?_
  · exact sd_i ⟨[], [], false, none, none, none, rfl, (Kp.rfl'.new hgp).new hkp, upd_off hgk upd_at, upd_at, by decide, by decide, .inl ⟨n.length + 1, [], by omega, rfl, rfl, rfl, by decide, fun _ z => nomatch z⟩⟩
  · rintro i σ H' hi hP
    obtain ⟨gr, ks, fs, v5, v6, v7, rfl, kk, hg', hk', hgl, hkl, hsc⟩ := sd_e hP
    have hi : i < (n.length : Int).toNat := hi
    have hin : i < n.length := by omega
    have hgm : (sgn gr).length = gr.length := sgn_len gr
    have fin : ∀ {j : Nat} {D : Ends} (hj : j < n.length), (0 : Int) + i = (j : Int) → ∀ {t : List Nat}, t = gr.getLast?.toList → (∀ σ H', Sd (∃ (gr : List Nat) (ks : List (List Nat)) (fs : Bool) (v5 v6 v7 : Option V), σ = [some (.str (S g)), some (.str (S n)), some (.ref gp), some (.ref kp), some (.bl fs), v5, v6, v7] ∧ Kp [] H H' ∧ H' gp = some (.lst (sgn gr)) ∧ H' kp = some (tks ks) ∧ gr.length ≤ 4 ∧ ks.length ≤ i + 1 + 1 ∧ scP g n (i + 1) gr ks fs) → D.nx σ H') → (∀ v H', Q v H' → D.rt v H') → b_l_scan_1_2 K (WD E) D [some (.str (S g)), some (.str (S n)), some (.ref gp), some (.ref kp), some (.bl fs), some (.int (0 + (i : Int))), some (.str (S [n[j]])), some (.str (S t))] H' := fun {j D} hj ej {t} et hD1 hD2 => by
      obtain rfl : j = i := by omega
      subst et
      refine scan_b T0 hg hn hin rfl kk hgp hkp0 hgk hg' hk' hgl hkl hsc ?_ ?_
      · rintro r H2 k2 hr0 hr1 h0 ⟨ks2, hk2⟩
        exact hD2 _ _ (k r kp ks2 H2 k2 hr0 hr1 hkp0 hk2 fun z => by omega)
      · intro gr' ks' fs' H2 k2 h2 h3 h4 h5 h6
        exact hD1 _ _ (sd_i ⟨gr', ks', fs', _, _, _, rfl, k2, h2, h3, h4, h5, h6⟩)
    rcases List.eq_nil_or_concat gr with h0 | ⟨gr0, g0, h0⟩
    · subst h0
      repeat' ac_rfl
      all_goals (try (conv => whnf))
      rename_i j hj ej
      exact fin hj ej rfl (fun _ _ h => h) (fun _ _ h => h)
    · rw [List.concat_eq_append] at h0
      have hg2 : H' gp = some (.lst (sgn gr0 ++ [.str (S [g0])])) := by rw [hg', h0]; unfold sgn; rw [List.map_append]; rfl
      have hne : (sgn gr0 ++ [V.str (S [g0])]).isEmpty = false := by simp
      clear hg'
      repeat' ac_rfl
      all_goals (try (conv => whnf))
      rename_i j hj ej
      refine itm_last ?_
      repeat' ac_rfl
      all_goals (try (conv => whnf))
      exact fin hj ej (by rw [h0, List.getLast?_append]; rfl) (fun _ _ h => h) (fun _ _ h => h)
  · rintro σ H' hP
    obtain ⟨gr, ks, fs, v5, v6, v7, rfl, kk, hg', hk', hgl, hkl, hsc⟩ := sd_e hP
    have hnn : (n.length : Int).toNat = n.length := rfl
    have hdr : n.drop n.length = [] := List.drop_length
    have nok : ∀ {t : Addr} {H2 : Hp}, Kp [] H' H2 → H2 t = none → (scan g n).1 = (n.length : Int) → Q (.ref t) (upd H2 t (.lst [.int n.length, .ref kp])) := fun {t H2} k2 ht e =>
      k t kp ks _ ((kk.trans k2).new ht) (Kp.none (kk.trans k2) ht) (by rw [e]; exact upd_at) hkp0 (upd_fr ht (k2.get0 hk')) fun z => by omega
    have yok : ∀ {t : Addr} {H2 : Hp} {ms : List (List Nat)}, Kp [] H' H2 → H2 t = none → scan g n = (-1, ms) → ks = kof ms → Q (.ref t) (upd H2 t (.lst [.int (-1), .ref kp])) := fun {t H2 ms} k2 ht e e2 =>
      k t kp ks _ ((kk.trans k2).new ht) (Kp.none (kk.trans k2) ht) (by rw [e]; exact upd_at) hkp0 (upd_fr ht (k2.get0 hk')) fun z => by rw [e, e2]
    have hsc : scP g n n.length gr ks fs := hsc
    have hge : (sgn gr).isEmpty = true → gr = [] := fun h => by
      cases gr with
      | nil => rfl
      | cons a l => cases h
    rcases hsc with ⟨f, ms, a1, a2, a3, a4, a5, a6⟩ | ⟨f, ms, c0, a1, a2, a3, a4, a5, a6, a7⟩
    · obtain ⟨f, rfl⟩ : ∃ k, f = k + 1 := ⟨f - 1, by omega⟩
      rw [hdr, scn_nil] at a2
      have yes : (sgn gr).isEmpty = true → scan g n = (-1, ms) := fun h => by rw [a2, if_pos (hge h)]
      have nay : (sgn gr).isEmpty = false → (scan g n).1 = (n.length : Int) := fun h => by
        rw [a2, if_neg (fun e => by rw [e] at h; cases h)]
      rcases List.eq_nil_or_concat ks with h0 | ⟨ks0, k0, h0⟩
      · have hne : (ks.map fun k => V.str (S k)).isEmpty = true := by rw [h0]; rfl
        repeat' ac_rfl
        all_goals (try (conv => whnf))
        · rename_i x t ht
          exact yok Kp.rfl' ht (yes x) a3
        · rename_i x t ht
          exact nok Kp.rfl' ht (nay x)
      · rw [List.concat_eq_append] at h0
        have hk2 : H' kp = some (.lst (ks0.map (fun k => V.str (S k)) ++ [.str (S k0)])) := by rw [hk', h0, tks_app]
        clear hk'
        have hne : (ks0.map (fun k => V.str (S k)) ++ [V.str (S k0)]).isEmpty = false := by simp
        have hin := inV_ok (k := k0) a6 (by rw [← a3, h0]; simp)
        repeat' ac_rfl
        all_goals (try (conv => whnf))
        · rename_i x
          refine itm_last ?_
          repeat' ac_rfl
          all_goals (try (conv => whnf))
          rename_i t0 ht0 t ht
          exact yok (Kp.rfl'.new ht0) ht (yes x) a3
        · rename_i x t ht
          exact nok Kp.rfl' ht (nay x)
    · have hk2 : H' kp = some (.lst ((kof ms).map (fun k => V.str (S k)) ++ [.str (S [c0])])) := by rw [hk', a5, tks_app]
      clear hk'
      have hne : ((kof ms).map (fun k => V.str (S k)) ++ [V.str (S [c0])]).isEmpty = false := by simp
      have hin := inV_sk2 a2
      have nay : (scan g n).1 = (n.length : Int) := by
        rw [a4, hdr, scn_2e a2 (fun d hd => by cases hd), show n.length - 1 + 1 = n.length by omega]
      repeat' ac_rfl
      all_goals (try (conv => whnf))
      · refine itm_last ?_
        repeat' ac_rfl
        all_goals (try (conv => whnf))
        rename_i t0 ht0 t ht
        exact nok (Kp.rfl'.new ht0) ht nay
      · rename_i x t ht
        exact nok Kp.rfl' ht nay


theorem rd_l_made {K : PySem.W.Frag} {mg : Str → Option Value} (T : Tx K mg) : ∀ vs H Q E, sp_l_made K vs H Q E → t_l_made K (WD E) (EndD Q) (start ["_law_alphabet", "_law_notation_here", "_law_made_here", "wrong", "many"] vs) H := by
  intro vs H Q E h
  replace h := h.out
  obtain ⟨A, dA, l, v, n, rfl, hA, hn, q1, q2, q3⟩ := h
  have T0 := T
  cases T
  repeat' ac_rfl
  all_goals (try (conv => whnf))
  rename_i N dN hN hdN hne
  have k2 : Kp [] H (upd (upd H dN (.own N)) N (.ins (He.ga K "Recording") dN [])) := (Kp.rfl'.own hdN).own hN
  refine i_Recording_init upd_at (k2.get0 hA) hn ⟨?_⟩
  by_cases e : (scan (45 :: srt l) n).1 = -1
  · rw [if_pos e]
    refine ⟨fun h H' d kk hd => ?_, fun h p H' kk hp hpN hp' hN' => ?_⟩
    · repeat' ac_rfl
      all_goals (try (conv => whnf))
      rename_i x hx t ht
      exact q2 e h t _ (((k2.trans kk).new hd).new ht) (Kp.none ((k2.trans kk).new hd) ht) upd_at
    · refine ⟨rfl, ?_⟩
      have hlm : ((kof (scan (45 :: srt l) n).2).map fun k => V.str (S k)).length = (kof (scan (45 :: srt l) n).2).length := List.length_map _
      repeat' ac_rfl
      all_goals (try (conv => whnf))
      rename_i t ht
      rw [hlm]
      have k3 : Kp [] H H' := k2.fr kk fun z hz => by rw [List.mem_singleton.mp hz]; exact hN
      exact q3 e h t _ (k3.new ht) (Kp.none k3 ht) upd_at
  · rw [if_neg e]
    intro H' d kk hd
    repeat' ac_rfl
    all_goals (try (conv => whnf))
    rename_i x hx t ht
    exact q1 e t _ (((k2.trans kk).new hd).new ht) (Kp.none ((k2.trans kk).new hd) ht) upd_at


theorem rd_l_stands {K : PySem.W.Frag} {mg : Str → Option Value} (T : Tx K mg) : ∀ vs H Q E, sp_l_stands K vs H Q E → t_l_stands K (WD E) (EndD Q) (start ["_law_alphabet", "_law_signs", "_law_notation_here", "_law_due", "_law_told", "_law_made_here"] vs) H := by
  intro vs H Q E h
  replace h := h.out
  obtain ⟨A, dA, l, v, n, rfl, hA, hl, hn, q⟩ := h
  have T0 := T
  cases T
  obtain ⟨hl4, hlo⟩ := hl
  obtain ⟨hlow, hnl⟩ := hn
  have hsl : (srt l).length = l.length := srt_len l
  have hge : (scan (45 :: srt l) n).1 = -1 ∨ 0 ≤ (scan (45 :: srt l) n).1 := scn_ge
  have hlk : ∀ k ∈ kof (scan (45 :: srt l) n).2, low k := fun k hk => scn_low (ms := []) hlow (fun _ z => nomatch z) k (List.mem_filter.mp hk).1
  repeat' ac_rfl
  all_goals (try (conv => whnf))
  refine i_l_scan ⟨fun c hc => ?_, by simp; omega⟩ (by omega) fun r kl ks H1 k1 hr0 hr1 hkl0 hkl1 hkof => ?_
  · rcases List.mem_cons.mp hc with rfl | hc
    · decide
    · exact hlo c hc
  have hA1 := k1.get0 hA
  conv => whnf
  repeat' ac_rfl
  all_goals (try (conv => whnf))
  refine i_l_made hA1 (by omega) ?_ ?_ ?_
  · intro e t H2 k2 ht0 ht1
    have hr2 := k2.get0 hr1
    have hpos : 0 ≤ (scan (45 :: srt l) n).1 := by omega
    conv => whnf
    generalize (scan (45 :: srt l) n).1 = m at *
    repeat' ac_rfl
    all_goals (try (conv => whnf))
    exact q _ (k1.trans k2)
  · intro e h t H2 k2 ht0 ht1
    have hr2 := k2.get0 hr1
    have hks := hkof e
    rw [e] at hr2
    subst hks
    have hkl2 := k2.get0 hkl1
    have hlm : ((kof (scan (45 :: srt l) n).2).map fun k => V.str (S k)).length = (kof (scan (45 :: srt l) n).2).length := List.length_map _
    conv => whnf
    repeat' ac_rfl
    all_goals (try (conv => whnf))
    exact q _ (k1.trans k2)
  · intro e h t H2 k2 ht0 ht1
    have hr2 := k2.get0 hr1
    have hks := hkof e
    rw [e] at hr2
    subst hks
    have hkl2 := k2.get0 hkl1
    have hlm : ((kof (scan (45 :: srt l) n).2).map fun k => V.str (S k)).length = (kof (scan (45 :: srt l) n).2).length := List.length_map _
    conv => whnf
    repeat' ac_rfl
    all_goals (try (conv => whnf))
    rename_i N dN hN hdN hne
    have hA2 := k2.get0 hA1
    have k3 : Kp [] H2 (upd (upd H2 dN (.own N)) N (.ins (He.ga K "Recording") dN [])) := (Kp.rfl'.own hdN).own hN
    refine i_Recording_init upd_at (k3.get0 hA2) (by omega) ⟨?_⟩
    rw [if_pos e]
    refine ⟨fun h2 => absurd h (by omega), fun _ p H3 kk hp hpN hp' hN' => ⟨rfl, ?_⟩⟩
    have k4 : Kp [] H2 H3 := k3.fr kk fun z hz => by rw [List.mem_singleton.mp hz]; exact hN
    have hA4 := k4.get0 hA2
    have hkl4 := k4.get0 hkl2
    have hr4 := k4.get0 hr2
    repeat' ac_rfl
    all_goals (try (conv => whnf))
    · refine i_l_keys (by contradiction) (by contradiction) hkl4 (by omega) hlk fun H5 k5 => ?_
      have hN5 := k5.get0 hN'
      repeat' ac_rfl
      all_goals (try (conv => whnf))
      exact q_bl (decide_eq_true rfl) (q _ (((k1.trans k2).trans k4).trans k5))
    · rename_i x
      exact absurd rfl x

theorem mkA {K : PySem.W.Frag} {H : Hp} {Q : VK} {E : XK} {A dA : Addr} {l v : List Nat} (hA : H A = none) (hdA : H dA = none) (hg : good l v) (h1 : l.length < 64) (h2 : v.length < 64)
    (k : ∀ H', Kp [] H H' → H' A = some (alo K dA l v) → Q .non H') : sp_Alphabet_init K [.ref A, .str (S l), .str (S v)] (upd (upd H dA (.own A)) A (.ins (He.ga K "Alphabet") dA [])) Q E := by
  have k2 : Kp [] H (upd (upd H dA (.own A)) A (.ins (He.ga K "Alphabet") dA [])) := (Kp.rfl'.own hdA).own hA
  refine g_Alphabet_init upd_at h1 h2 hg.1 hg.2 fun H' kk hA' => k H' (k2.fr kk fun z hz => by rw [List.mem_singleton.mp hz]; exact hA) hA'
theorem AZ_low : ∀ c ∈ AZ, c < 128 := by decide
theorem AZ_OB : ∀ c ∈ AZ, ¬ c ∈ OB := by decide
theorem lst_ne2 {H : Hp} {r b q' k : Addr} {x a0 b0 : Int} (h : H r = some (.lst [.int x, .ref k])) (h2 : H b = some (bx a0 b0 q')) : r ≠ b := fun e => by
  rw [e, h2] at h; cases h
theorem tks_ne {H : Hp} {r b q' : Addr} {a0 b0 : Int} {ks : List (List Nat)} (h : H r = some (tks ks)) (h2 : H b = some (bx a0 b0 q')) : r ≠ b := fun e => by
  rw [e, h2] at h
  have h := Option.some.inj h
  injection h with h
  cases ks <;> cases h
theorem rev_sgn {l : List Nat} : ((List.range l.length).filter (fun _ => true)).map (fun i => V.str (S [l.getD (l.length - 1 - i) 0])) = sgn l.reverse := by
  rw [List.filter_eq_self.mpr (fun _ _ => rfl)]
  unfold sgn
  refine List.ext_getElem (by simp) fun i h1 h2 => ?_
  have hi : i < l.length := by simpa using h1
  rw [List.getElem_map, List.getElem_map, List.getElem_range, List.getElem_reverse, List.getD_eq_getElem?_getD, List.getElem?_eq_getElem (by omega)]
  rfl
theorem wld_14 {K : PySem.W.Frag} {mg : Str → Option Value} (T0 : Tx K mg) {E : XK} {Q : VK} {p b q' A dA r1 r2 kl1 kl2 : Addr} {k a0 b0 : Int} {cs : List Int} {l v n n' w : List Nat} {ks2 : List (List Nat)} {H0 H : Hp} {v11 : Option V}
    (HA : H A = some (alo K dA l v)) (Hb : H b = some (bx a0 b0 q')) (Hq : H q' = some (cel cs)) (hqb : q' ≠ b) (hAb : A ≠ b) (hc : okc cs) (hg : good l v) (hb0 : H0 b = none) (kH : Kp [] H0 H)
    (hr1 : H r1 = some (.lst [.int (-1), .ref kl1])) (hk1 : H kl1 = some (tks (kof (scan (45 :: srt l) n).2))) (hr2 : H r2 = some (.lst [.int (scan (45 :: srt l) n').1, .ref kl2])) (hk2 : H kl2 = some (tks ks2))
    (h1 : (scan (45 :: srt l) n).1 = -1) (h24 : (kof (scan (45 :: srt l) n).2).length ≤ 24) (e2 : (scan (45 :: srt l) n').1 = -1 → ks2 = kof (scan (45 :: srt l) n').2) (hn1 : low n) (hn2 : n.length < 10000) (hn1' : low n') (hn2' : n'.length < 10000) (hl4 : l.length ≤ 4)
    (hw : good l w) (hwv : ¬ srt w = srt v)
    (q : ∀ H', Kp [] H0 H' → Q (.bl true) H') :
    t_l_world_14 K (WD E) (EndD Q) [some (.ref p), some (.int k), some (.ref b), some (.str (S l)), some (.str (S v)), some (.str (S (45 :: srt l))), some (.ref A), some (.str (S n)), some (.str (S n')), some (.ref r1), some (.ref r2), v11, some (.str (S w)), none, none, none] H := by
  have T1 := T0
  cases T0
  refine ⟨?_⟩
  have hvl := good_v hg
  have hwl := good_v hw
  have fin : ∀ H', Kp [] H H' → Q (.bl true) H' := fun H' k' => q _ (kH.trans k')
  repeat' ac_rfl
  all_goals (try (conv => whnf))
  rename_i B dB hB hdB hneB
  refine mkA hB hdB hw (by omega) (by omega) fun H1 k1 HB1 => ⟨rfl, ?_⟩
  have HA1 := k1.get0 HA
  repeat' ac_rfl
  all_goals (try (conv => whnf))
  have h0 : H1 B ≠ none := by rw [HB1]; exact nofun
  have hd : ¬ (srt l = srt l ∧ srt v = srt w) := fun z => hwv z.2.symm
  rename_i R dR hR hdR hneR
  refine mkR hR hdR HA1 (by omega) h1 h24 fun p2 H2 k2 _ hp2 hR2 => ⟨rfl, ?_⟩
  have HA2 := k2.get0 HA1
  have HB2 := k2.get0 HB1
  repeat' ac_rfl
  all_goals (try (conv => whnf))
  rename_i R' dR' hR' hdR' hneR'
  refine mkR hR' hdR' HB2 (by omega) h1 h24 fun p3 H3 k3 _ hp3 hR3 => ⟨rfl, ?_⟩
  have HA3 := k3.get0 HA2
  have HB3 := k3.get0 HB2
  have hR23 := k3.get0 hR2
  repeat' ac_rfl
  all_goals (try (conv => whnf))
  refine i_l_strange hR23 hR3 HA3 HB3 (by omega) hd fun H4 k4 => ?_
  have HA4 := k4.get0 HA3
  have HB4 := k4.get0 HB3
  repeat' ac_rfl
  all_goals (try (conv => whnf))
  refine lcp_R (fun _ => true) (fun i => V.str (S [l.getD (l.length - 1 - i) 0])) (by show (l.length : Int).toNat < 1000000; omega) (fun _ _ _ _ _ _ _ q => q) ?_ (fun _ => rfl) ?_
  · rintro c D H5 Q' hD hc _ ⟨xs, rfl⟩ hQ
    have hc : c < l.length := hc
    repeat' ac_rfl
    all_goals (try (conv => whnf))
    rename_i j hj ej
    have htl : (tl (S l)).length = l.length := rfl
    have hj2 : j = l.length - 1 - c := by omega
    refine q_v ?_ hQ
    rw [List.getD_eq_getElem?_getD, ← hj2, List.getElem?_eq_getElem hj]; rfl
  intro D hD
  have hrev : ((List.range (l.length : Int).toNat).filter (fun _ => true)).map (fun i => V.str (S [l.getD (l.length - 1 - i) 0])) = sgn l.reverse := rev_sgn
  rw [hrev]
  have k5 : Kp [] H4 (upd H4 D (.lst (sgn l.reverse))) := Kp.rfl'.new hD
  have HA5 := k5.get0 HA4
  have HB5 := k5.get0 HB4
  have hrl : l.reverse.length = l.length := List.length_reverse
  repeat' ac_rfl
  all_goals (try (conv => whnf))
  have hsr : srt l.reverse = srt l := srt_uniq ((srt_perm _).trans (List.reverse_perm l)) (srt_pw _)
  have hgr : good l.reverse v := by
    obtain ⟨b1, b2, b3, b4⟩ := badL_inv hg.1
    obtain ⟨c1, c2⟩ := badV_inv hg.2
    exact ⟨badL_ok (by omega) (by omega) ((List.reverse_perm l).nodup_iff.mpr b3) fun x hx => b4 x (List.mem_reverse.mp hx), badV_ok c1 fun x hx => List.mem_reverse.mpr (c2 x hx)⟩
  rename_i U dU hU hdU hneU
  refine mkA hU hdU hgr (by omega) (by omega) fun H6 k6 HU6 => ⟨rfl, ?_⟩
  have HA6 := k6.get0 HA5
  have HB6 := k6.get0 HB5
  repeat' ac_rfl
  all_goals (try (conv => whnf))
  rename_i R4 dR4 hR4 hdR4 hneR4
  refine mkR hR4 hdR4 HU6 (by omega) (by rw [hsr]; exact h1) (by rw [hsr]; exact h24) fun p7 H7 k7 _ hp7 hR7 => ⟨rfl, ?_⟩
  have HA7 := k7.get0 HA6
  have HB7 := k7.get0 HB6
  have HU7 := k7.get0 HU6
  repeat' ac_rfl
  all_goals (try (conv => whnf))
  rename_i R5 dR5 hR5 hdR5 hneR5
  refine mkR hR5 hdR5 HA7 (by omega) h1 h24 fun p8 H8 k8 _ hp8 hR8 => ⟨rfl, ?_⟩
  have HA8 := k8.get0 HA7
  have HB8 := k8.get0 HB7
  have HU8 := k8.get0 HU7
  have hR78 := k8.get0 hR7
  repeat' ac_rfl
  all_goals (try (conv => whnf))
  refine i_Recording_eq hR78 hR8 HU8 HA8 ?_
  have hf : ((decide (srt l.reverse = srt l) && decide (srt v = srt v)) && decide (n = n)) = true := by rw [hsr]; simp
  rw [hf]
  have kk := (((((k1.trans k2).trans k3).trans k4).trans k5).trans k6).trans (k7.trans k8)
  have hr18 := kk.get0 hr1
  have hk18 := kk.get0 hk1
  have hr28 := kk.get0 hr2
  have hk28 := kk.get0 hk2
  have hge2 : (scan (45 :: srt l) n').1 = -1 ∨ 0 ≤ (scan (45 :: srt l) n').1 := scn_ge
  have hm2 : (ks2.map fun k => V.str (S k)).length = ks2.length := List.length_map _
  clear k1 k2 k3 k4 k5 k6 k7 k8 HA1 HA2 HA3 HA4 HA5 HA6 HA7 HB1 HB2 HB3 HB4 HB5 HB6 HB7
  by_cases h1' : (scan (45 :: srt l) n').1 = -1
  · have e2 := e2 h1'
    subst e2
    rw [h1'] at hr28
    have hkl1 : (kof (scan (45 :: srt l) n').2).length ≤ 100000 := Nat.le_trans (List.length_filter_le _ _) (Nat.le_trans (scn_len trivial) (by simp; omega))
    repeat' ac_rfl
    all_goals (try (conv => whnf))
    · exact fin _ kk
    · rename_i x R6 dR6 hR6 hdR6 hneR6
      have x : ¬ 24 < (((kof (scan (45 :: srt l) n').2).map fun k => V.str (S k)).length : Int) := x
      have h24' : (kof (scan (45 :: srt l) n').2).length ≤ 24 := by omega
      have hsc : ∀ m, scan (45 :: srt l) m = scan (45 :: srt l) m := fun _ => rfl
      refine mkR hR6 hdR6 HB8 (by omega) h1' h24' fun p9 H9 k9 _ hp9 hR9 => ⟨rfl, ?_⟩
      have HA9 := k9.get0 HA8
      have HB9 := k9.get0 HB8
      repeat' ac_rfl
      all_goals (try (conv => whnf))
      rename_i R7 dR7 hR7' hdR7 hneR7
      refine mkR hR7' hdR7 HA9 (by omega) h1 h24 fun p10 H10 k10 _ hp10 hR10 => ⟨rfl, ?_⟩
      have HA10 := k10.get0 HA9
      have HB10 := k10.get0 HB9
      have hR910 := k10.get0 hR9
      repeat' ac_rfl
      all_goals (try (conv => whnf))
      refine i_l_strange hR910 hR10 HB10 HA10 (by omega) (fun z => hwv z.2) fun H11 k11 => ?_
      have kk2 := (k9.trans k10).trans k11
      have HA11 := kk2.get0 HA8
      have hr111 := kk2.get0 hr18
      have hr211 := kk2.get0 hr28
      have hk111 := kk2.get0 hk18
      have hk211 := kk2.get0 hk28
      repeat' ac_rfl
      all_goals (try (conv => whnf))
      refine i_l_joined HA11 hk111 hk211 ⟨hn1, hn1', hn2, hn2'⟩ ⟨h1, h24⟩ ⟨h1', h24'⟩ fun H12 k12 => fin _ ((kk.trans kk2).trans k12)
  · have hpos : 0 ≤ (scan (45 :: srt l) n').1 := by omega
    repeat' ac_rfl
    all_goals (try (conv => whnf))
    exact fin _ kk
theorem wld_10 {K : PySem.W.Frag} {mg : Str → Option Value} (T0 : Tx K mg) {E : XK} {Q : VK} {p b q' A dA r1 r2 kl1 kl2 : Addr} {k a0 b0 : Int} {cs : List Int} {l v n n' : List Nat} {ks1 ks2 : List (List Nat)} {H0 H : Hp}
    (HA : H A = some (alo K dA l v)) (Hb : H b = some (bx a0 b0 q')) (Hq : H q' = some (cel cs)) (hqb : q' ≠ b) (hAb : A ≠ b) (hc : okc cs) (hg : good l v) (hb0 : H0 b = none) (kH : Kp [] H0 H)
    (hr1 : H r1 = some (.lst [.int (scan (45 :: srt l) n).1, .ref kl1])) (hk1 : H kl1 = some (tks ks1)) (hr2 : H r2 = some (.lst [.int (scan (45 :: srt l) n').1, .ref kl2])) (hk2 : H kl2 = some (tks ks2))
    (e1 : (scan (45 :: srt l) n).1 = -1 → ks1 = kof (scan (45 :: srt l) n).2) (e2 : (scan (45 :: srt l) n').1 = -1 → ks2 = kof (scan (45 :: srt l) n').2) (hn1 : low n) (hn2 : n.length < 10000) (hn1' : low n') (hn2' : n'.length < 10000) (hl4 : l.length ≤ 4)
    (q : ∀ H', Kp [] H0 H' → Q (.bl true) H') :
    t_l_world_10 K (WD E) (EndD Q) [some (.ref p), some (.int k), some (.ref b), some (.str (S l)), some (.str (S v)), some (.str (S (45 :: srt l))), some (.ref A), some (.str (S n)), some (.str (S n')), some (.ref r1), some (.ref r2), none, none, none, none, none] H := by
  have T1 := T0
  cases T0
  refine ⟨?_⟩
  have hge1 : (scan (45 :: srt l) n).1 = -1 ∨ 0 ≤ (scan (45 :: srt l) n).1 := scn_ge
  have hge2 : (scan (45 :: srt l) n').1 = -1 ∨ 0 ≤ (scan (45 :: srt l) n').1 := scn_ge
  have hm1 : (ks1.map fun k => V.str (S k)).length = ks1.length := List.length_map _
  have hm2 : (ks2.map fun k => V.str (S k)).length = ks2.length := List.length_map _
  have fin : ∀ H', Kp [b] H H' → Q (.bl true) H' := fun H' k' => q _ (kH.fr k' fun z hz => by rw [List.mem_singleton.mp hz]; exact hb0)
  by_cases h1 : (scan (45 :: srt l) n).1 = -1
  · have e1 := e1 h1
    subst e1
    have hkl1 : (kof (scan (45 :: srt l) n).2).length ≤ 100000 := Nat.le_trans (List.length_filter_le _ _) (Nat.le_trans (scn_len trivial) (by simp; omega))
    rw [h1] at hr1
    obtain ⟨lp, lnd, lm⟩ : 0 < l.length ∧ l.Nodup ∧ ∀ c ∈ l, c ∈ AZ := ⟨(badL_inv hg.1).1, (badL_inv hg.1).2.2.1, (badL_inv hg.1).2.2.2⟩
    obtain ⟨vn, vm⟩ := badV_inv hg.2
    have hvl := good_v hg
    repeat' ac_rfl
    all_goals (try (conv => whnf))
    · exact fin _ Kp.rfl'
    · rename_i x r a3 b3 x1 x2 j hj ej y
      have hcl : l[j] ∈ l := List.getElem_mem hj
      have y : rpE l[j] v = v := y
      have x : ¬ 24 < (((kof (scan (45 :: srt l) n).2).map fun k => V.str (S k)).length : Int) := x
      refine wld_14 T1 (upd_off hAb HA) upd_at (upd_off hqb Hq) hqb hAb hc hg hb0 (kH.fr (Kp.rfl'.at List.mem_cons_self) fun z hz => by rw [List.mem_singleton.mp hz]; exact hb0) (upd_off (lst_ne2 hr1 Hb) hr1) (upd_off (tks_ne hk1 Hb) hk1) (upd_off (lst_ne2 hr2 Hb) hr2) (upd_off (tks_ne hk2 Hb) hk2) h1 (by omega) e2 hn1 hn2 hn1' hn2' hl4 (w := v ++ [l[j]]) ?_ ?_ q
      · have hnv : ¬ l[j] ∈ v := fun z => by
          have := (rpE_mem.mp (y ▸ z)).2
          exact this rfl
        exact ⟨hg.1, badV_ok (List.nodup_append.mpr ⟨vn, by simp, fun a ha b hb e => by rw [List.mem_singleton.mp hb] at e; exact hnv (e ▸ ha)⟩) fun x hx => by
          rcases List.mem_append.mp hx with hx | hx
          · exact vm x hx
          · rw [List.mem_singleton.mp hx]; exact hcl⟩
      · intro z
        have := congrArg List.length z
        rw [srt_len, srt_len] at this
        simp at this
    · rename_i x r a3 b3 x1 x2 j hj ej y
      have hcl : l[j] ∈ l := List.getElem_mem hj
      have y : ¬ rpE l[j] v = v := y
      have x : ¬ 24 < (((kof (scan (45 :: srt l) n).2).map fun k => V.str (S k)).length : Int) := x
      refine wld_14 T1 (upd_off hAb HA) upd_at (upd_off hqb Hq) hqb hAb hc hg hb0 (kH.fr (Kp.rfl'.at List.mem_cons_self) fun z hz => by rw [List.mem_singleton.mp hz]; exact hb0) (upd_off (lst_ne2 hr1 Hb) hr1) (upd_off (tks_ne hk1 Hb) hk1) (upd_off (lst_ne2 hr2 Hb) hr2) (upd_off (tks_ne hk2 Hb) hk2) h1 (by omega) e2 hn1 hn2 hn1' hn2' hl4 (w := rpE l[j] v) ?_ ?_ q
      · exact ⟨hg.1, badV_ok (rpE_nd vn) fun x hx => vm x (rpE_mem.mp hx).1⟩
      · intro z
        have h2 := congrArg List.length z
        rw [srt_len, srt_len] at h2
        refine y ?_
        unfold rpE at h2 ⊢
        exact List.filter_eq_self.mpr (List.length_filter_eq_length_iff.mp h2)
  · have hpos : 0 ≤ (scan (45 :: srt l) n).1 := by omega
    repeat' ac_rfl
    all_goals (try (conv => whnf))
    exact fin _ Kp.rfl'

theorem rd_l_world {K : PySem.W.Frag} {mg : Str → Option Value} (T : Tx K mg) : ∀ vs H Q E, sp_l_world K vs H Q E → t_l_world K (WD E) (EndD Q) (start ["_law_script", "_law_k", "_law_box_here", "_law_letters_here", "_law_vowels_here", "_law_signs", "_law_alphabet", "_law_one", "_law_two", "_law_keys_here", "_law_others", "_law_letter", "_law_changed", "_law_strange_here", "_law_turned", "_law_at"] vs) H := by
  intro vs H Q E h
  replace h := h.out
  obtain ⟨p, k, ob, ns, rfl, hp, h0, h1, q⟩ := h
  have T0 := T
  cases T
  repeat' ac_rfl
  all_goals (try (conv => whnf))
  rename_i b q' a0 cs H1 kb hb0 hq0 hqb Hb Hq hc r a1 b1 r0 r1 l a2 b2 H2 hl hll k2 Hb2 v a3 b3 hg L hL A dA hA0 hdA hdx
  obtain ⟨lp, ln, lm⟩ : 0 < l.length ∧ l.Nodup ∧ ∀ c ∈ l, c ∈ AZ := ⟨(badL_inv hl).1, (badL_inv hl).2.2.1, (badL_inv hl).2.2.2⟩
  have hl4 : l.length ≤ 4 := by omega
  have hv4 := good_v hg
  have Hq2 : H2 q' = some (cel cs) := k2.get1 (upd_off hqb Hq) hqb
  have kH2 : Kp [] H H2 := Kp.fr (kb.fu hb0) k2 fun z hz => by rw [List.mem_singleton.mp hz]; exact hb0
  have kH3 : Kp [] H (upd (upd H2 b (bx a3 b3 q')) L (.lst (sgn (srt (tl (S l)))))) := (kH2.fu hb0).new hL
  have Hb3 : upd (upd H2 b (bx a3 b3 q')) L (.lst (sgn (srt (tl (S l))))) b = some (bx a3 b3 q') := upd_fr hL upd_at
  have Hq3 : upd (upd H2 b (bx a3 b3 q')) L (.lst (sgn (srt (tl (S l))))) q' = some (cel cs) := upd_fr hL (upd_off hqb Hq2)
  generalize upd (upd H2 b (bx a3 b3 q')) L (.lst (sgn (srt (tl (S l))))) = H3 at *
  have hAb : A ≠ b := (ne_none Hb3 hA0).symm
  refine mkA hA0 hdA hg (by omega) (by omega) fun H4 k4 HA4 => ⟨rfl, ?_⟩
  have Hb4 := k4.get0 Hb3
  have Hq4 := k4.get0 Hq3
  have kH4 := kH3.trans k4
  clear k4 kH3 Hq2 Hb3 k2 hA0 hdA Hb2 kH2 Hb Hq kb hL Hq3
  have low1 : low (45 :: srt l) := fun c h => by
    rcases List.mem_cons.mp h with rfl | h
    · decide
    · exact AZ_low c (lm c ((srt_perm l).mem_iff.mp h))
  have hslen : (45 :: srt l).length = l.length + 1 := by rw [List.length_cons, srt_len]
  have hOB : ∀ c ∈ srt l, ¬ c ∈ OB := fun c h => AZ_OB c (lm c ((srt_perm l).mem_iff.mp h))
  repeat' ac_rfl
  all_goals (try (conv => whnf))
  refine i_l_notation (g := 45 :: srt l) Hb4 Hq4 hc ⟨low1, by omega, by omega⟩ fun n a5 b5 H5 hn1 hn2 k5 Hb5 => ?_
  have HA5 := k5.get1 HA4 hAb
  have Hq5 := k5.get1 Hq4 hqb
  have kH5 : Kp [] H H5 := kH4.fr k5 fun z hz => by rw [List.mem_singleton.mp hz]; exact hb0
  repeat' ac_rfl
  all_goals (try (conv => whnf))
  refine i_l_notation (g := 45 :: srt l) Hb5 Hq5 hc ⟨low1, by omega, by omega⟩ fun n' a6 b6 H6 hn1' hn2' k6 Hb6 => ?_
  have HA6 := k6.get1 HA5 hAb
  have Hq6 := k6.get1 Hq5 hqb
  have kH6 : Kp [] H H6 := kH5.fr k6 fun z hz => by rw [List.mem_singleton.mp hz]; exact hb0
  clear k5 k6
  repeat' ac_rfl
  all_goals (try (conv => whnf))
  refine i_l_stands HA6 ⟨hl4, hOB⟩ ⟨hn1, hn2⟩ fun H7 k7 => ?_
  have HA7 := k7.get0 HA6
  have Hq7 := k7.get0 Hq6
  have Hb7 := k7.get0 Hb6
  have kH7 := kH6.trans k7
  repeat' ac_rfl
  all_goals (try (conv => whnf))
  refine i_l_stands HA7 ⟨hl4, hOB⟩ ⟨hn1', hn2'⟩ fun H8 k8 => ?_
  have HA8 := k8.get0 HA7
  have Hq8 := k8.get0 Hq7
  have Hb8 := k8.get0 Hb7
  have kH8 := kH7.trans k8
  repeat' ac_rfl
  all_goals (try (conv => whnf))
  have gO : (∀ c ∈ 45 :: srt l, ¬ c ∈ OB) ∧ (45 :: srt l).length < 1000 := ⟨fun c h => by
    rcases List.mem_cons.mp h with rfl | h
    · decide
    · exact hOB c h, by omega⟩
  refine i_l_scan gO (by omega) fun r1 kl1 ks1 H9 k9 hr1 hr1' hkl1 hkl1' hks1 => ?_
  have HA9 := k9.get0 HA8
  have Hq9 := k9.get0 Hq8
  have Hb9 := k9.get0 Hb8
  have kH9 := kH8.trans k9
  repeat' ac_rfl
  all_goals (try (conv => whnf))
  refine i_l_scan gO (by omega) fun r2 kl2 ks2 H10 k10 hr2 hr2' hkl2 hkl2' hks2 => ?_
  have HA10 := k10.get0 HA9
  have Hq10 := k10.get0 Hq9
  have Hb10 := k10.get0 Hb9
  have hr10 := k10.get0 hr1'
  have hkl10 := k10.get0 hkl1'
  have kH10 := kH9.trans k10
  clear k7 k8 k9 k10 HA4 HA5 HA6 HA7 HA8 HA9 Hq4 Hq5 Hq6 Hq7 Hq8 Hq9 Hb4 Hb5 Hb6 Hb7 Hb8 Hb9 kH4 kH5 kH6 kH7 kH8 kH9 hr1' hkl1'
  exact wld_10 T0 HA10 Hb10 Hq10 hqb hAb hc hg hb0 kH10 hr10 hkl10 hr2' hkl2' hks1 hks2 hn1 hn2 hn1' hn2' hl4 q


theorem rd_law {K : PySem.W.Frag} {mg : Str → Option Value} (T : Tx K mg) : ∀ vs H Q E, sp_law K vs H Q E → t_law K (WD E) (EndD Q) (start ["_law_script", "_law_k"] vs) H := by
  intro vs H Q E h
  replace h := h.out
  obtain ⟨p, ob, ns, rfl, hp, h1, q⟩ := h
  cases T
  repeat' ac_rfl
  all_goals (try (conv => whnf))
  refine loop_r (fun i σ H' => Sd (∃ v1 : Option V, σ = [some (.ref p), v1] ∧ H' p = some (scr ob ns))) ?_ ?_ ?_
  · exact sd_i ⟨none, rfl, hp⟩
  · rintro i σ H' hi hP
    obtain ⟨v1, rfl, hp'⟩ := sd_e hP
    repeat' ac_rfl
    all_goals (try (conv => whnf))
    rename_i H2 k2
    exact sd_i ⟨_, rfl, k2.get0 hp'⟩
  · rintro σ H' hP
    obtain ⟨v1, rfl, hp'⟩ := sd_e hP
    conv => whnf
    exact q H'

theorem law_in {K : PySem.W.Frag} {H : Hp} {a : Addr} {oj : Obj} {ns : List Int} {E : XK} (h : H a = some (.frz oj (.lst (ns.map V.int)))) (hl : ns.length ≤ 63) : sp_law K [.ref a] H (fun v _ => v = .bl true) E := by
  exact ⟨⟨a, oj, ns, rfl, h, by omega, fun _ => rfl⟩⟩

end Lw

set_option Elab.async false
set_option linter.all false
set_option maxRecDepth 100000
set_option maxHeartbeats 4000000
namespace Lw
open PySem PySem.Spec PyProof.Rows L2 Ta
abbrev PP : Program := PySem.Challenge.rw_talepost_k43_recordings.prog
abbrev R : PySem.W.OpenRow := PySem.W.OpenLaw.row PySem.Challenge.rw_talepost_k43_recordings
def fa : List BF := [bFree "ValueError", bFree "abs", bFree "bool", bFree "int", bFree "isinstance", bFree "len", bFree "list", bFree "max", bFree "min", bFree "range", bFree "set", bFree "sorted", bFree "str", bGlo "Alphabet", bVal "BRACKETS" (.str (S [40, 91, 124, 93, 41])), bGlo "BadRecording", bVal "MOST_DEPTH" (.int 4), bVal "MOST_KEYS" (.int 24), bGlo "Mixed", bVal "OPENING" (.str (S [40, 91])), bVal "PLAIN_KEYS" (.str (S [62, 120, 119, 94, 109, 107, 99, 112])), bGlo "Recording", bVal "SIGN_KEYS" (.str (S [39, 61, 47])), bVal "SMALL" (.str (S [97, 98, 99, 100, 101, 102, 103, 104, 105, 106, 107, 108, 109, 110, 111, 112, 113, 114, 115, 116, 117, 118, 119, 120, 121, 122])), bGlo "TaleError", bGlo "TooMany", bCC "Alphabet" "JOINT" (.str (S [45])), bCC "Alphabet" "MOST" (.int 4), bCC "Recording" "MOST_DEPTH" (.int 4), bCC "Recording" "MOST_KEYS" (.int 24), bCls "Alphabet", bCls "Recording", bIsc "Alphabet", bNo "Alphabet" "letters", bNo "Alphabet" "vowels", bNo "Alphabet" "consonants", bNo "Alphabet" "signs", bIsc "Recording", bKit "Recording" "Recording" true, bKit "Alphabet" "Alphabet" true, bNo "Recording" "key_list", bNo "Recording" "spelling", bNo "Recording" "alphabet", bXc "BadRecording", bNo "BadRecording" "place", bXc "TooMany", bNo "TooMany" "most", bKit "BadRecording" "TaleError" true, bKitT "BadRecording" "ValueError" true, bKit "TooMany" "TaleError" true, bKitT "TooMany" "ValueError" true, bExm "BadRecording" "BadRecording" true, bExm "TooMany" "BadRecording" false, bExm "TooMany" "TooMany" true, bExm "Mixed" "Mixed" true, bSelf "Recording", bNe "Alphabet", bNo "BadAlphabet" "part", bOex "BadAlphabet", bSup "BadAlphabet" "BadAlphabet", bFree "super", bGlo "BadAlphabet", bOex "BadRecording", bSup "BadRecording" "BadRecording", bOex "Mixed", bSup "Mixed" "Mixed", bOex "TooMany", bSup "TooMany" "TooMany", bGlo "_law_whole", bGlo "all_different", bMk "Alphabet", bMe "Alphabet" "__eq__", bGlo "check_alphabets", bGlo "mark_length", bGlo "groups_after", bGlo "marks_of", bGlo "key_row", bMk "Recording", bMe "Recording" "__add__", bMe "Recording" "__eq__", bGlo "_law_strange", bMe "Recording" "__str__", bMe "Recording" "all_keys", bMe "Recording" "__len__", bGlo "_law_keys", bGlo "_law_joined", bGlo "_law_take", bGlo "_law_box", bGlo "_law_letters", bGlo "_law_vowels", bGlo "_law_char", bGlo "_law_bent", bGlo "_law_close", bGlo "_law_key", bGlo "_law_tokens", bGlo "_law_notation", bGlo "_law_scan", bGlo "_law_made", bGlo "_law_stands", bGlo "_law_world", bNoL, bGlo "law"]
def dd_l_whole : XD := ⟨fun K => (He.fAd K ("_law_whole", none)), "_law_whole", "_law_whole", defArgs s_l_whole, defBody s_l_whole, defScope s_l_whole, [], []⟩
def dd_all_different : XD := ⟨fun K => (He.fAd K ("all_different", none)), "all_different", "all_different", defArgs s_all_different, defBody s_all_different, defScope s_all_different, [], []⟩
def dd_Alphabet_init : XD := ⟨fun K => (He.fAd K ("Alphabet", some "__init__")), "__init__", "Alphabet.__init__", defArgs s_Alphabet_init, defBody s_Alphabet_init, defScope s_Alphabet_init, [.str (S [])], []⟩
def dd_Alphabet_eq : XD := ⟨fun K => (He.fAd K ("Alphabet", some "__eq__")), "__eq__", "Alphabet.__eq__", defArgs s_Alphabet_eq, defBody s_Alphabet_eq, defScope s_Alphabet_eq, [], []⟩
def dd_check_alphabets : XD := ⟨fun K => (He.fAd K ("check_alphabets", none)), "check_alphabets", "check_alphabets", defArgs s_check_alphabets, defBody s_check_alphabets, defScope s_check_alphabets, [], []⟩
def dd_mark_length : XD := ⟨fun K => (He.fAd K ("mark_length", none)), "mark_length", "mark_length", defArgs s_mark_length, defBody s_mark_length, defScope s_mark_length, [], []⟩
def dd_groups_after : XD := ⟨fun K => (He.fAd K ("groups_after", none)), "groups_after", "groups_after", defArgs s_groups_after, defBody s_groups_after, defScope s_groups_after, [], []⟩
def dd_marks_of : XD := ⟨fun K => (He.fAd K ("marks_of", none)), "marks_of", "marks_of", defArgs s_marks_of, defBody s_marks_of, defScope s_marks_of, [], []⟩
def dd_key_row : XD := ⟨fun K => (He.fAd K ("key_row", none)), "key_row", "key_row", defArgs s_key_row, defBody s_key_row, defScope s_key_row, [], []⟩
def dd_Recording_init : XD := ⟨fun K => (He.fAd K ("Recording", some "__init__")), "__init__", "Recording.__init__", defArgs s_Recording_init, defBody s_Recording_init, defScope s_Recording_init, [], []⟩
def dd_Recording_add : XD := ⟨fun K => (He.fAd K ("Recording", some "__add__")), "__add__", "Recording.__add__", defArgs s_Recording_add, defBody s_Recording_add, defScope s_Recording_add, [], []⟩
def dd_Recording_eq : XD := ⟨fun K => (He.fAd K ("Recording", some "__eq__")), "__eq__", "Recording.__eq__", defArgs s_Recording_eq, defBody s_Recording_eq, defScope s_Recording_eq, [], []⟩
def dd_l_strange : XD := ⟨fun K => (He.fAd K ("_law_strange", none)), "_law_strange", "_law_strange", defArgs s_l_strange, defBody s_l_strange, defScope s_l_strange, [], []⟩
def dd_Recording_str : XD := ⟨fun K => (He.fAd K ("Recording", some "__str__")), "__str__", "Recording.__str__", defArgs s_Recording_str, defBody s_Recording_str, defScope s_Recording_str, [], []⟩
def dd_Recording_all_keys : XD := ⟨fun K => (He.fAd K ("Recording", some "all_keys")), "all_keys", "Recording.all_keys", defArgs s_Recording_all_keys, defBody s_Recording_all_keys, defScope s_Recording_all_keys, [], []⟩
def dd_Recording_len : XD := ⟨fun K => (He.fAd K ("Recording", some "__len__")), "__len__", "Recording.__len__", defArgs s_Recording_len, defBody s_Recording_len, defScope s_Recording_len, [], []⟩
def dd_l_keys : XD := ⟨fun K => (He.fAd K ("_law_keys", none)), "_law_keys", "_law_keys", defArgs s_l_keys, defBody s_l_keys, defScope s_l_keys, [], []⟩
def dd_l_joined : XD := ⟨fun K => (He.fAd K ("_law_joined", none)), "_law_joined", "_law_joined", defArgs s_l_joined, defBody s_l_joined, defScope s_l_joined, [], []⟩
def dd_l_take : XD := ⟨fun K => (He.fAd K ("_law_take", none)), "_law_take", "_law_take", defArgs s_l_take, defBody s_l_take, defScope s_l_take, [], []⟩
def dd_l_box : XD := ⟨fun K => (He.fAd K ("_law_box", none)), "_law_box", "_law_box", defArgs s_l_box, defBody s_l_box, defScope s_l_box, [], []⟩
def dd_l_letters : XD := ⟨fun K => (He.fAd K ("_law_letters", none)), "_law_letters", "_law_letters", defArgs s_l_letters, defBody s_l_letters, defScope s_l_letters, [], []⟩
def dd_l_vowels : XD := ⟨fun K => (He.fAd K ("_law_vowels", none)), "_law_vowels", "_law_vowels", defArgs s_l_vowels, defBody s_l_vowels, defScope s_l_vowels, [], []⟩
def dd_l_char : XD := ⟨fun K => (He.fAd K ("_law_char", none)), "_law_char", "_law_char", defArgs s_l_char, defBody s_l_char, defScope s_l_char, [], []⟩
def dd_l_bent : XD := ⟨fun K => (He.fAd K ("_law_bent", none)), "_law_bent", "_law_bent", defArgs s_l_bent, defBody s_l_bent, defScope s_l_bent, [], []⟩
def dd_l_close : XD := ⟨fun K => (He.fAd K ("_law_close", none)), "_law_close", "_law_close", defArgs s_l_close, defBody s_l_close, defScope s_l_close, [], []⟩
def dd_l_key : XD := ⟨fun K => (He.fAd K ("_law_key", none)), "_law_key", "_law_key", defArgs s_l_key, defBody s_l_key, defScope s_l_key, [], []⟩
def dd_l_tokens : XD := ⟨fun K => (He.fAd K ("_law_tokens", none)), "_law_tokens", "_law_tokens", defArgs s_l_tokens, defBody s_l_tokens, defScope s_l_tokens, [], []⟩
def dd_l_notation : XD := ⟨fun K => (He.fAd K ("_law_notation", none)), "_law_notation", "_law_notation", defArgs s_l_notation, defBody s_l_notation, defScope s_l_notation, [], []⟩
def dd_l_scan : XD := ⟨fun K => (He.fAd K ("_law_scan", none)), "_law_scan", "_law_scan", defArgs s_l_scan, defBody s_l_scan, defScope s_l_scan, [], []⟩
def dd_l_made : XD := ⟨fun K => (He.fAd K ("_law_made", none)), "_law_made", "_law_made", defArgs s_l_made, defBody s_l_made, defScope s_l_made, [], []⟩
def dd_l_stands : XD := ⟨fun K => (He.fAd K ("_law_stands", none)), "_law_stands", "_law_stands", defArgs s_l_stands, defBody s_l_stands, defScope s_l_stands, [], []⟩
def dd_l_world : XD := ⟨fun K => (He.fAd K ("_law_world", none)), "_law_world", "_law_world", defArgs s_l_world, defBody s_l_world, defScope s_l_world, [], []⟩
def dd_law : XD := ⟨fun K => (He.fAd K ("law", none)), "law", "law", defArgs s_law, defBody s_law, defScope s_law, [], []⟩
def sd_BadAlphabet : SupD := ⟨"BadAlphabet", "__init__", "BadAlphabet.__init__", defArgs (inClass (top 4) 0), defBody (inClass (top 4) 0), defScope (inClass (top 4) 0)⟩
def sd_BadRecording : SupD := ⟨"BadRecording", "__init__", "BadRecording.__init__", defArgs (inClass (top 6) 0), defBody (inClass (top 6) 0), defScope (inClass (top 6) 0)⟩
def sd_Mixed : SupD := ⟨"Mixed", "__init__", "Mixed.__init__", defArgs (inClass (top 3) 0), defBody (inClass (top 3) 0), defScope (inClass (top 3) 0)⟩
def sd_TooMany : SupD := ⟨"TooMany", "__init__", "TooMany.__init__", defArgs (inClass (top 5) 0), defBody (inClass (top 5) 0), defScope (inClass (top 5) 0)⟩
def fn : List XD := [dd_l_whole, dd_all_different, dd_Alphabet_init, dd_Alphabet_eq, dd_check_alphabets, dd_mark_length, dd_groups_after, dd_marks_of, dd_key_row, dd_Recording_init, dd_Recording_add, dd_Recording_eq, dd_l_strange, dd_Recording_str, dd_Recording_all_keys, dd_Recording_len, dd_l_keys, dd_l_joined, dd_l_take, dd_l_box, dd_l_letters, dd_l_vowels, dd_l_char, dd_l_bent, dd_l_close, dd_l_key, dd_l_tokens, dd_l_notation, dd_l_scan, dd_l_made, dd_l_stands, dd_l_world, dd_law]
def sn : List SupD := [sd_BadAlphabet, sd_BadRecording, sd_Mixed, sd_TooMany]
def loose : List Str := (["_wall", "TaleError", "Mixed", "BadAlphabet", "TooMany", "BadRecording", "SMALL", "all_different", "Alphabet", "check_alphabets", "MOST_KEYS", "MOST_DEPTH", "PLAIN_KEYS", "SIGN_KEYS", "BRACKETS", "OPENING"] : List Str) ++ (["mark_length", "groups_after", "marks_of", "key_row", "Recording", "_law_box", "_law_take", "_law_whole", "_law_letters", "_law_vowels", "_law_key", "_law_close", "_law_tokens", "_law_char", "_law_bent", "_law_notation"] : List Str) ++ (["_law_scan", "_law_made", "_law_keys", "_law_stands", "_law_joined", "_law_strange", "_law_world"] : List Str)
abbrev hk : PySem.W.Hook := hookX 5 PP.main.file fa fn sn
def ob (s : PySem.W.SharedT) : AlX := obsXG 5 PP.main.file fa fn sn (HandSHeadRun.getT s)
theorem ob_eq (s : PySem.W.SharedT) : ob s = hk.obs s.abs := obsXG_eq (HandSHeadRun.getT_eq s)
theorem run (w : World) : HandSHeadRun.RunEq R (PySem.W.view R.prog [44]) hk ob 12000 loose w := by
  intro os
  kernel_rfl
theorem ex_BadAlphabet {w : World} {K : PySem.W.Frag} {mg : Str → Option Value} {base h : Heap} (X : K.In h) (G : h.Ns mainGlobals mg) (c : SaysX PP.main.file fa fn sn K) : Ex PP w K mg base "BadAlphabet" (He.ga K "BadAlphabet") ["part"] := by
  obtain ⟨F, fd, e1, e2, e3, e4, e5, SF⟩ := c.sup (P := PP) 0 (by decide +kernel) (d := sd_BadAlphabet) rfl
  obtain ⟨n1, n2, n3, n4, n5, n6, n7⟩ := F
  dsimp only at e1 e2 e3 e4 e5
  subst e1 e2 e3 e4 e5
  have S := sup_of (c.fact 58) (c.fact 59)
  refine ⟨⟨_, fd, ["self", "part"], ok_exc1 (hbd := by rfl) SF S.1 (show NdefX.NScope ["self", "part", "__class__"] ["self", "part"] ["__class__"] sd_BadAlphabet.scope from NdefX.nscope_by (by decide +kernel)) (free_of X G (c.fact 60)) (by rfl) (show sd_BadAlphabet.scope.names.lookup ("super" : Str) = some .globalImplicit by decide +kernel) (no_of' (c.fact 57)) (by decide +kernel) (by decide +kernel) (fun env => ⟨_, rfl⟩), S.2.1, S.2.2, ?_, glo_of X G (c.fact 61)⟩, oex_of (c.fact 58)⟩
  obtain ⟨cc, oc, od, an, dV, kV, doc, pm, ct, osl, hcl, rfl, lk, hD, _⟩ := SF.ex
  rcases hD with ⟨_, rfl⟩ | ⟨e, _⟩
  · exact .all fun us hl => match us, hl with | [_, _], _ => rfl
  · exact absurd rfl e
theorem ex_BadRecording {w : World} {K : PySem.W.Frag} {mg : Str → Option Value} {base h : Heap} (X : K.In h) (G : h.Ns mainGlobals mg) (c : SaysX PP.main.file fa fn sn K) : Ex PP w K mg base "BadRecording" (He.ga K "BadRecording") ["place"] := by
  obtain ⟨F, fd, e1, e2, e3, e4, e5, SF⟩ := c.sup (P := PP) 1 (by decide +kernel) (d := sd_BadRecording) rfl
  obtain ⟨n1, n2, n3, n4, n5, n6, n7⟩ := F
  dsimp only at e1 e2 e3 e4 e5
  subst e1 e2 e3 e4 e5
  have S := sup_of (c.fact 62) (c.fact 63)
  refine ⟨⟨_, fd, ["self", "place"], ok_exc1 (hbd := by rfl) SF S.1 (show NdefX.NScope ["self", "place", "__class__"] ["self", "place"] ["__class__"] sd_BadRecording.scope from NdefX.nscope_by (by decide +kernel)) (free_of X G (c.fact 60)) (by rfl) (show sd_BadRecording.scope.names.lookup ("super" : Str) = some .globalImplicit by decide +kernel) (no_of' (c.fact 44)) (by decide +kernel) (by decide +kernel) (fun env => ⟨_, rfl⟩), S.2.1, S.2.2, ?_, glo_of X G (c.fact 15)⟩, oex_of (c.fact 62)⟩
  obtain ⟨cc, oc, od, an, dV, kV, doc, pm, ct, osl, hcl, rfl, lk, hD, _⟩ := SF.ex
  rcases hD with ⟨_, rfl⟩ | ⟨e, _⟩
  · exact .all fun us hl => match us, hl with | [_, _], _ => rfl
  · exact absurd rfl e
theorem ex_Mixed {w : World} {K : PySem.W.Frag} {mg : Str → Option Value} {base h : Heap} (X : K.In h) (G : h.Ns mainGlobals mg) (c : SaysX PP.main.file fa fn sn K) : Ex PP w K mg base "Mixed" (He.ga K "Mixed") [] := by
  obtain ⟨F, fd, e1, e2, e3, e4, e5, SF⟩ := c.sup (P := PP) 2 (by decide +kernel) (d := sd_Mixed) rfl
  obtain ⟨n1, n2, n3, n4, n5, n6, n7⟩ := F
  dsimp only at e1 e2 e3 e4 e5
  subst e1 e2 e3 e4 e5
  have S := sup_of (c.fact 64) (c.fact 65)
  refine ⟨⟨_, fd, ["self"], ok_exc0 (hbd := by rfl) SF S.1 (show NdefX.NScope ["self", "__class__"] ["self"] ["__class__"] sd_Mixed.scope from NdefX.nscope_by (by decide +kernel)) (free_of X G (c.fact 60)) (by rfl) (show sd_Mixed.scope.names.lookup ("super" : Str) = some .globalImplicit by decide +kernel)   (fun env => ⟨_, rfl⟩), S.2.1, S.2.2, ?_, glo_of X G (c.fact 18)⟩, oex_of (c.fact 64)⟩
  obtain ⟨cc, oc, od, an, dV, kV, doc, pm, ct, osl, hcl, rfl, lk, hD, _⟩ := SF.ex
  rcases hD with ⟨_, rfl⟩ | ⟨e, _⟩
  · exact .all fun us hl => match us, hl with | [_], _ => rfl
  · exact absurd rfl e
theorem ex_TooMany {w : World} {K : PySem.W.Frag} {mg : Str → Option Value} {base h : Heap} (X : K.In h) (G : h.Ns mainGlobals mg) (c : SaysX PP.main.file fa fn sn K) : Ex PP w K mg base "TooMany" (He.ga K "TooMany") ["most"] := by
  obtain ⟨F, fd, e1, e2, e3, e4, e5, SF⟩ := c.sup (P := PP) 3 (by decide +kernel) (d := sd_TooMany) rfl
  obtain ⟨n1, n2, n3, n4, n5, n6, n7⟩ := F
  dsimp only at e1 e2 e3 e4 e5
  subst e1 e2 e3 e4 e5
  have S := sup_of (c.fact 66) (c.fact 67)
  refine ⟨⟨_, fd, ["self", "most"], ok_exc1 (hbd := by rfl) SF S.1 (show NdefX.NScope ["self", "most", "__class__"] ["self", "most"] ["__class__"] sd_TooMany.scope from NdefX.nscope_by (by decide +kernel)) (free_of X G (c.fact 60)) (by rfl) (show sd_TooMany.scope.names.lookup ("super" : Str) = some .globalImplicit by decide +kernel) (no_of' (c.fact 46)) (by decide +kernel) (by decide +kernel) (fun env => ⟨_, rfl⟩), S.2.1, S.2.2, ?_, glo_of X G (c.fact 25)⟩, oex_of (c.fact 66)⟩
  obtain ⟨cc, oc, od, an, dV, kV, doc, pm, ct, osl, hcl, rfl, lk, hD, _⟩ := SF.ex
  rcases hD with ⟨_, rfl⟩ | ⟨e, _⟩
  · exact .all fun us hl => match us, hl with | [_, _], _ => rfl
  · exact absurd rfl e
theorem len_l_whole {K : PySem.W.Frag} : ∀ vs H Q E, sp_l_whole K vs H Q E → vs.length = 2 := by
  intro vs H Q E h
  replace h := h.out
  repeat (obtain ⟨_, h⟩ := h; try subst_vars)
  all_goals rfl
theorem len_all_different {K : PySem.W.Frag} : ∀ vs H Q E, sp_all_different K vs H Q E → vs.length = 1 := by
  intro vs H Q E h
  replace h := h.out
  repeat (obtain ⟨_, h⟩ := h; try subst_vars)
  all_goals rfl
theorem len_Alphabet_init {K : PySem.W.Frag} : ∀ vs H Q E, sp_Alphabet_init K vs H Q E → vs.length = 3 := by
  intro vs H Q E h
  replace h := h.out
  repeat (obtain ⟨_, h⟩ := h; try subst_vars)
  all_goals rfl
theorem len_Alphabet_eq {K : PySem.W.Frag} : ∀ vs H Q E, sp_Alphabet_eq K vs H Q E → vs.length = 2 := by
  intro vs H Q E h
  replace h := h.out
  repeat (obtain ⟨_, h⟩ := h; try subst_vars)
  all_goals rfl
theorem len_check_alphabets {K : PySem.W.Frag} : ∀ vs H Q E, sp_check_alphabets K vs H Q E → vs.length = 1 := by
  intro vs H Q E h
  replace h := h.out
  repeat (obtain ⟨_, h⟩ := h; try subst_vars)
  all_goals rfl
theorem len_mark_length {K : PySem.W.Frag} : ∀ vs H Q E, sp_mark_length K vs H Q E → vs.length = 3 := by
  intro vs H Q E h
  replace h := h.out
  repeat (obtain ⟨_, h⟩ := h; try subst_vars)
  all_goals rfl
theorem len_groups_after {K : PySem.W.Frag} : ∀ vs H Q E, sp_groups_after K vs H Q E → vs.length = 3 := by
  intro vs H Q E h
  replace h := h.out
  repeat (obtain ⟨_, h⟩ := h; try subst_vars)
  all_goals rfl
theorem len_marks_of {K : PySem.W.Frag} : ∀ vs H Q E, sp_marks_of K vs H Q E → vs.length = 2 := by
  intro vs H Q E h
  replace h := h.out
  repeat (obtain ⟨_, h⟩ := h; try subst_vars)
  all_goals rfl
theorem len_key_row {K : PySem.W.Frag} : ∀ vs H Q E, sp_key_row K vs H Q E → vs.length = 2 := by
  intro vs H Q E h
  replace h := h.out
  repeat (obtain ⟨_, h⟩ := h; try subst_vars)
  all_goals rfl
theorem len_Recording_init {K : PySem.W.Frag} : ∀ vs H Q E, sp_Recording_init K vs H Q E → vs.length = 3 := by
  intro vs H Q E h
  replace h := h.out
  repeat (obtain ⟨_, h⟩ := h; try subst_vars)
  all_goals rfl
theorem len_Recording_add {K : PySem.W.Frag} : ∀ vs H Q E, sp_Recording_add K vs H Q E → vs.length = 2 := by
  intro vs H Q E h
  replace h := h.out
  repeat (obtain ⟨_, h⟩ := h; try subst_vars)
  all_goals rfl
theorem len_Recording_eq {K : PySem.W.Frag} : ∀ vs H Q E, sp_Recording_eq K vs H Q E → vs.length = 2 := by
  intro vs H Q E h
  replace h := h.out
  repeat (obtain ⟨_, h⟩ := h; try subst_vars)
  all_goals rfl
theorem len_l_strange {K : PySem.W.Frag} : ∀ vs H Q E, sp_l_strange K vs H Q E → vs.length = 2 := by
  intro vs H Q E h
  replace h := h.out
  repeat (obtain ⟨_, h⟩ := h; try subst_vars)
  all_goals rfl
theorem len_Recording_str {K : PySem.W.Frag} : ∀ vs H Q E, sp_Recording_str K vs H Q E → vs.length = 1 := by
  intro vs H Q E h
  replace h := h.out
  repeat (obtain ⟨_, h⟩ := h; try subst_vars)
  all_goals rfl
theorem len_Recording_all_keys {K : PySem.W.Frag} : ∀ vs H Q E, sp_Recording_all_keys K vs H Q E → vs.length = 1 := by
  intro vs H Q E h
  replace h := h.out
  repeat (obtain ⟨_, h⟩ := h; try subst_vars)
  all_goals rfl
theorem len_Recording_len {K : PySem.W.Frag} : ∀ vs H Q E, sp_Recording_len K vs H Q E → vs.length = 1 := by
  intro vs H Q E h
  replace h := h.out
  repeat (obtain ⟨_, h⟩ := h; try subst_vars)
  all_goals rfl
theorem len_l_keys {K : PySem.W.Frag} : ∀ vs H Q E, sp_l_keys K vs H Q E → vs.length = 2 := by
  intro vs H Q E h
  replace h := h.out
  repeat (obtain ⟨_, h⟩ := h; try subst_vars)
  all_goals rfl
theorem len_l_joined {K : PySem.W.Frag} : ∀ vs H Q E, sp_l_joined K vs H Q E → vs.length = 5 := by
  intro vs H Q E h
  replace h := h.out
  repeat (obtain ⟨_, h⟩ := h; try subst_vars)
  all_goals rfl
theorem len_l_take {K : PySem.W.Frag} : ∀ vs H Q E, sp_l_take K vs H Q E → vs.length = 2 := by
  intro vs H Q E h
  replace h := h.out
  repeat (obtain ⟨_, h⟩ := h; try subst_vars)
  all_goals rfl
theorem len_l_box {K : PySem.W.Frag} : ∀ vs H Q E, sp_l_box K vs H Q E → vs.length = 2 := by
  intro vs H Q E h
  replace h := h.out
  repeat (obtain ⟨_, h⟩ := h; try subst_vars)
  all_goals rfl
theorem len_l_letters {K : PySem.W.Frag} : ∀ vs H Q E, sp_l_letters K vs H Q E → vs.length = 2 := by
  intro vs H Q E h
  replace h := h.out
  repeat (obtain ⟨_, h⟩ := h; try subst_vars)
  all_goals rfl
theorem len_l_vowels {K : PySem.W.Frag} : ∀ vs H Q E, sp_l_vowels K vs H Q E → vs.length = 2 := by
  intro vs H Q E h
  replace h := h.out
  repeat (obtain ⟨_, h⟩ := h; try subst_vars)
  all_goals rfl
theorem len_l_char {K : PySem.W.Frag} : ∀ vs H Q E, sp_l_char K vs H Q E → vs.length = 1 := by
  intro vs H Q E h
  replace h := h.out
  repeat (obtain ⟨_, h⟩ := h; try subst_vars)
  all_goals rfl
theorem len_l_bent {K : PySem.W.Frag} : ∀ vs H Q E, sp_l_bent K vs H Q E → vs.length = 2 := by
  intro vs H Q E h
  replace h := h.out
  repeat (obtain ⟨_, h⟩ := h; try subst_vars)
  all_goals rfl
theorem len_l_close {K : PySem.W.Frag} : ∀ vs H Q E, sp_l_close K vs H Q E → vs.length = 2 := by
  intro vs H Q E h
  replace h := h.out
  repeat (obtain ⟨_, h⟩ := h; try subst_vars)
  all_goals rfl
theorem len_l_key {K : PySem.W.Frag} : ∀ vs H Q E, sp_l_key K vs H Q E → vs.length = 3 := by
  intro vs H Q E h
  replace h := h.out
  repeat (obtain ⟨_, h⟩ := h; try subst_vars)
  all_goals rfl
theorem len_l_tokens {K : PySem.W.Frag} : ∀ vs H Q E, sp_l_tokens K vs H Q E → vs.length = 5 := by
  intro vs H Q E h
  replace h := h.out
  repeat (obtain ⟨_, h⟩ := h; try subst_vars)
  all_goals rfl
theorem len_l_notation {K : PySem.W.Frag} : ∀ vs H Q E, sp_l_notation K vs H Q E → vs.length = 2 := by
  intro vs H Q E h
  replace h := h.out
  repeat (obtain ⟨_, h⟩ := h; try subst_vars)
  all_goals rfl
theorem len_l_scan {K : PySem.W.Frag} : ∀ vs H Q E, sp_l_scan K vs H Q E → vs.length = 2 := by
  intro vs H Q E h
  replace h := h.out
  repeat (obtain ⟨_, h⟩ := h; try subst_vars)
  all_goals rfl
theorem len_l_made {K : PySem.W.Frag} : ∀ vs H Q E, sp_l_made K vs H Q E → vs.length = 2 := by
  intro vs H Q E h
  replace h := h.out
  repeat (obtain ⟨_, h⟩ := h; try subst_vars)
  all_goals rfl
theorem len_l_stands {K : PySem.W.Frag} : ∀ vs H Q E, sp_l_stands K vs H Q E → vs.length = 3 := by
  intro vs H Q E h
  replace h := h.out
  repeat (obtain ⟨_, h⟩ := h; try subst_vars)
  all_goals rfl
theorem len_l_world {K : PySem.W.Frag} : ∀ vs H Q E, sp_l_world K vs H Q E → vs.length = 2 := by
  intro vs H Q E h
  replace h := h.out
  repeat (obtain ⟨_, h⟩ := h; try subst_vars)
  all_goals rfl
theorem len_law {K : PySem.W.Frag} : ∀ vs H Q E, sp_law K vs H Q E → vs.length = 1 := by
  intro vs H Q E h
  replace h := h.out
  repeat (obtain ⟨_, h⟩ := h; try subst_vars)
  all_goals rfl
theorem all_ok {w : World} {K : PySem.W.Frag} {mg : Str → Option Value} {h : Heap} (X : K.In h) (G : h.Ns mainGlobals mg) (c : SaysX PP.main.file fa fn sn K) :
    ∃ fd : FuncData, (∀ (s : Shared) (v : Value), BindsTo s fd ⟨[v], []⟩ [("_law_script", v)]) ∧ ∀ base : Heap, K.In base → base.Ns mainGlobals mg → FnOk PP w K mg base (L2.CX PP w) 19 (He.ga K "law") fd ["_law_script"] (sp_law K) := by
  have T : Tx K mg := ⟨free_of X G (c.fact 0), free_of X G (c.fact 1), free_of X G (c.fact 2), free_of X G (c.fact 3), free_of X G (c.fact 4), free_of X G (c.fact 5), free_of X G (c.fact 6), free_of X G (c.fact 7), free_of X G (c.fact 8), free_of X G (c.fact 9), free_of X G (c.fact 10), free_of X G (c.fact 11), free_of X G (c.fact 12), gv_of X G (c.fact 13), val_of X G (c.fact 14), gv_of X G (c.fact 15), val_of X G (c.fact 16), val_of X G (c.fact 17), gv_of X G (c.fact 18), val_of X G (c.fact 19), val_of X G (c.fact 20), gv_of X G (c.fact 21), val_of X G (c.fact 22), val_of X G (c.fact 23), gv_of X G (c.fact 24), gv_of X G (c.fact 25), cc_of X G (c.fact 26), cc_of X G (c.fact 27), cc_of X G (c.fact 28), cc_of X G (c.fact 29), cls_of (c.fact 30), cls_of (c.fact 31), isc_of (c.fact 32), no_of (c.fact 33), no_of (c.fact 34), no_of (c.fact 35), no_of (c.fact 36), isc_of (c.fact 37), kit_of (c.fact 38), kit_of (c.fact 39), no_of (c.fact 40), no_of (c.fact 41), no_of (c.fact 42), xc_of (c.fact 43), no_of' (c.fact 44), xc_of (c.fact 45), no_of' (c.fact 46), kit_of (c.fact 47), kitT_of (c.fact 48), kit_of (c.fact 49), kitT_of (c.fact 50), exm_of (c.fact 51), exm_of (c.fact 52), exm_of (c.fact 53), exm_of (c.fact 54), self_of (c.fact 55), ne_of (c.fact 56)⟩
  obtain ⟨fd_l_whole, F_l_whole⟩ := c.def_ 0 (d := dd_l_whole) rfl
  obtain ⟨fd_all_different, F_all_different⟩ := c.def_ 1 (d := dd_all_different) rfl
  obtain ⟨fd_Alphabet_init, F_Alphabet_init⟩ := c.def_ 2 (d := dd_Alphabet_init) rfl
  obtain ⟨fd_Alphabet_eq, F_Alphabet_eq⟩ := c.def_ 3 (d := dd_Alphabet_eq) rfl
  obtain ⟨fd_check_alphabets, F_check_alphabets⟩ := c.def_ 4 (d := dd_check_alphabets) rfl
  obtain ⟨fd_mark_length, F_mark_length⟩ := c.def_ 5 (d := dd_mark_length) rfl
  obtain ⟨fd_groups_after, F_groups_after⟩ := c.def_ 6 (d := dd_groups_after) rfl
  obtain ⟨fd_marks_of, F_marks_of⟩ := c.def_ 7 (d := dd_marks_of) rfl
  obtain ⟨fd_key_row, F_key_row⟩ := c.def_ 8 (d := dd_key_row) rfl
  obtain ⟨fd_Recording_init, F_Recording_init⟩ := c.def_ 9 (d := dd_Recording_init) rfl
  obtain ⟨fd_Recording_add, F_Recording_add⟩ := c.def_ 10 (d := dd_Recording_add) rfl
  obtain ⟨fd_Recording_eq, F_Recording_eq⟩ := c.def_ 11 (d := dd_Recording_eq) rfl
  obtain ⟨fd_l_strange, F_l_strange⟩ := c.def_ 12 (d := dd_l_strange) rfl
  obtain ⟨fd_Recording_str, F_Recording_str⟩ := c.def_ 13 (d := dd_Recording_str) rfl
  obtain ⟨fd_Recording_all_keys, F_Recording_all_keys⟩ := c.def_ 14 (d := dd_Recording_all_keys) rfl
  obtain ⟨fd_Recording_len, F_Recording_len⟩ := c.def_ 15 (d := dd_Recording_len) rfl
  obtain ⟨fd_l_keys, F_l_keys⟩ := c.def_ 16 (d := dd_l_keys) rfl
  obtain ⟨fd_l_joined, F_l_joined⟩ := c.def_ 17 (d := dd_l_joined) rfl
  obtain ⟨fd_l_take, F_l_take⟩ := c.def_ 18 (d := dd_l_take) rfl
  obtain ⟨fd_l_box, F_l_box⟩ := c.def_ 19 (d := dd_l_box) rfl
  obtain ⟨fd_l_letters, F_l_letters⟩ := c.def_ 20 (d := dd_l_letters) rfl
  obtain ⟨fd_l_vowels, F_l_vowels⟩ := c.def_ 21 (d := dd_l_vowels) rfl
  obtain ⟨fd_l_char, F_l_char⟩ := c.def_ 22 (d := dd_l_char) rfl
  obtain ⟨fd_l_bent, F_l_bent⟩ := c.def_ 23 (d := dd_l_bent) rfl
  obtain ⟨fd_l_close, F_l_close⟩ := c.def_ 24 (d := dd_l_close) rfl
  obtain ⟨fd_l_key, F_l_key⟩ := c.def_ 25 (d := dd_l_key) rfl
  obtain ⟨fd_l_tokens, F_l_tokens⟩ := c.def_ 26 (d := dd_l_tokens) rfl
  obtain ⟨fd_l_notation, F_l_notation⟩ := c.def_ 27 (d := dd_l_notation) rfl
  obtain ⟨fd_l_scan, F_l_scan⟩ := c.def_ 28 (d := dd_l_scan) rfl
  obtain ⟨fd_l_made, F_l_made⟩ := c.def_ 29 (d := dd_l_made) rfl
  obtain ⟨fd_l_stands, F_l_stands⟩ := c.def_ 30 (d := dd_l_stands) rfl
  obtain ⟨fd_l_world, F_l_world⟩ := c.def_ 31 (d := dd_l_world) rfl
  obtain ⟨fd_law, F_law⟩ := c.def_ 32 (d := dd_law) rfl
  refine ⟨fd_law, fun s v => FunD.bindsA (ps := ["_law_script"]) F_law (fun _ _ _ _ _ _ us hl => match us, hl with | [_], _ => rfl) s [v] rfl, fun base _ _ => ?_⟩
  have X_BadAlphabet : Ex PP w K mg base "BadAlphabet" (He.ga K "BadAlphabet") ["part"] := ex_BadAlphabet X G c
  have X_BadRecording : Ex PP w K mg base "BadRecording" (He.ga K "BadRecording") ["place"] := ex_BadRecording X G c
  have X_Mixed : Ex PP w K mg base "Mixed" (He.ga K "Mixed") [] := ex_Mixed X G c
  have X_TooMany : Ex PP w K mg base "TooMany" (He.ga K "TooMany") ["most"] := ex_TooMany X G c
  have O_l_whole : FnOk PP w K mg base (L2.CX PP w) 5 (He.fAd K ("_law_whole", none)) fd_l_whole ["_law_told", "_law_due"] (sp_l_whole K) := def_ok F_l_whole sc_l_whole len_l_whole (t_l_whole K) (fun cdv A outer s H E hr => tm_l_whole T  hr) (rd_l_whole T)
  have GQ_l_whole : FnQu PP w K mg base "_law_whole" 5 (sp_l_whole K) := ⟨_, fd_l_whole, ["_law_told", "_law_due"], def_okQ F_l_whole sc_l_whole len_l_whole (t_l_whole K) (fun cdv A outer s H E p hr => tmq_l_whole T hr) (rd_l_whole T), glo_of X G (c.fact 68), F_l_whole.kp, F_l_whole.bindsN (ps := ["_law_told", "_law_due"]) fun _ _ _ _ _ _ us hl => match us, hl with | [_, _], _ => rfl⟩
  have B_l_whole : ∃ ds, Vals ([] : List V) ds ∧ Binds K fd_l_whole ["_law_told", "_law_due"] ds := ⟨[], .nil, F_l_whole.bindsN (ps := ["_law_told", "_law_due"]) fun _ _ _ _ _ _ us hl => match us, hl with | [_, _], _ => rfl⟩
  obtain ⟨ds_l_whole, v_l_whole, b_l_whole⟩ := B_l_whole
  have G_l_whole : Fn PP w K mg base "_law_whole" 5 [] (sp_l_whole K) := ⟨⟨_, fd_l_whole, ["_law_told", "_law_due"], ds_l_whole, O_l_whole, glo_of X G (c.fact 68), F_l_whole.kp, v_l_whole, b_l_whole⟩⟩
  have O_all_different : FnOk PP w K mg base (L2.CX PP w) 5 (He.fAd K ("all_different", none)) fd_all_different ["string"] (sp_all_different K) := def_ok F_all_different sc_all_different len_all_different (t_all_different K) (fun cdv A outer s H E hr => tm_all_different T  hr) (rd_all_different T)
  have B_all_different : ∃ ds, Vals ([] : List V) ds ∧ Binds K fd_all_different ["string"] ds := ⟨[], .nil, F_all_different.bindsN (ps := ["string"]) fun _ _ _ _ _ _ us hl => match us, hl with | [_], _ => rfl⟩
  obtain ⟨ds_all_different, v_all_different, b_all_different⟩ := B_all_different
  have G_all_different : Fn PP w K mg base "all_different" 5 [] (sp_all_different K) := ⟨⟨_, fd_all_different, ["string"], ds_all_different, O_all_different, glo_of X G (c.fact 69), F_all_different.kp, v_all_different, b_all_different⟩⟩
  have O_Alphabet_init : FnOk PP w K mg base (L2.CX PP w) 7 (He.fAd K ("Alphabet", some "__init__")) fd_Alphabet_init ["self", "letters", "vowels"] (sp_Alphabet_init K) := def_ok F_Alphabet_init sc_Alphabet_init len_Alphabet_init (t_Alphabet_init K) (fun cdv A outer s H E hr => tm_Alphabet_init T G_all_different X_BadAlphabet hr) (rd_Alphabet_init T)
  have B_Alphabet : ∃ ds, Vals ([] : List V) ds ∧ Binds K fd_Alphabet_init ["self", "letters", "vowels"] ds := F_Alphabet_init.binds1 (ps := ["self", "letters", "vowels"]) 3 1 (List.cons_ne_nil _ _) rfl (fun _ _ _ _ _ _ _ us its h1 h2 => match us, its, h1, h2 with | [_, _, _], [_], _, _ => ⟨_, rfl, rfl⟩)
  obtain ⟨ds_Alphabet, v_Alphabet, b_Alphabet⟩ := B_Alphabet
  have G_Alphabet : Mks PP w K mg base "Alphabet" (He.ga K "Alphabet") 7 [] (sp_Alphabet_init K) := ⟨⟨_, fd_Alphabet_init, ["self", "letters", "vowels"], ds_Alphabet, O_Alphabet_init, mk_of (c.fact 70), glo_of X G (c.fact 13), v_Alphabet, b_Alphabet⟩⟩
  have O_Alphabet_eq : FnOk PP w K mg base (L2.CX PP w) 5 (He.fAd K ("Alphabet", some "__eq__")) fd_Alphabet_eq ["self", "other"] (sp_Alphabet_eq K) := def_ok F_Alphabet_eq sc_Alphabet_eq len_Alphabet_eq (t_Alphabet_eq K) (fun cdv A outer s H E hr => tm_Alphabet_eq T  hr) (rd_Alphabet_eq T)
  have B_Alphabet___eq__ : ∃ ds, Vals ([] : List V) ds ∧ Binds K fd_Alphabet_eq ["self", "other"] ds := ⟨[], .nil, F_Alphabet_eq.bindsN (ps := ["self", "other"]) fun _ _ _ _ _ _ us hl => match us, hl with | [_, _], _ => rfl⟩
  obtain ⟨ds_Alphabet___eq__, v_Alphabet___eq__, b_Alphabet___eq__⟩ := B_Alphabet___eq__
  have G_Alphabet___eq__ : Me PP w K mg base (He.ga K "Alphabet") "__eq__" 5 [] (sp_Alphabet_eq K) := ⟨⟨_, fd_Alphabet_eq, ["self", "other"], ds_Alphabet___eq__, O_Alphabet_eq, me_of (c.fact 71), v_Alphabet___eq__, b_Alphabet___eq__⟩, cls_of (c.fact 30)⟩
  have O_check_alphabets : FnOk PP w K mg base (L2.CX PP w) 7 (He.fAd K ("check_alphabets", none)) fd_check_alphabets ["alphabets"] (sp_check_alphabets K) := def_ok F_check_alphabets sc_check_alphabets len_check_alphabets (t_check_alphabets K) (fun cdv A outer s H E hr => tm_check_alphabets T G_Alphabet___eq__ X_Mixed hr) (rd_check_alphabets T)
  have B_check_alphabets : ∃ ds, Vals ([] : List V) ds ∧ Binds K fd_check_alphabets ["alphabets"] ds := ⟨[], .nil, F_check_alphabets.bindsN (ps := ["alphabets"]) fun _ _ _ _ _ _ us hl => match us, hl with | [_], _ => rfl⟩
  obtain ⟨ds_check_alphabets, v_check_alphabets, b_check_alphabets⟩ := B_check_alphabets
  have G_check_alphabets : Fn PP w K mg base "check_alphabets" 7 [] (sp_check_alphabets K) := ⟨⟨_, fd_check_alphabets, ["alphabets"], ds_check_alphabets, O_check_alphabets, glo_of X G (c.fact 72), F_check_alphabets.kp, v_check_alphabets, b_check_alphabets⟩⟩
  have O_mark_length : FnOk PP w K mg base (L2.CX PP w) 5 (He.fAd K ("mark_length", none)) fd_mark_length ["alphabet", "notation", "at"] (sp_mark_length K) := def_ok F_mark_length sc_mark_length len_mark_length (t_mark_length K) (fun cdv A outer s H E hr => tm_mark_length T X_BadRecording hr) (rd_mark_length T)
  have B_mark_length : ∃ ds, Vals ([] : List V) ds ∧ Binds K fd_mark_length ["alphabet", "notation", "at"] ds := ⟨[], .nil, F_mark_length.bindsN (ps := ["alphabet", "notation", "at"]) fun _ _ _ _ _ _ us hl => match us, hl with | [_, _, _], _ => rfl⟩
  obtain ⟨ds_mark_length, v_mark_length, b_mark_length⟩ := B_mark_length
  have G_mark_length : Fn PP w K mg base "mark_length" 5 [] (sp_mark_length K) := ⟨⟨_, fd_mark_length, ["alphabet", "notation", "at"], ds_mark_length, O_mark_length, glo_of X G (c.fact 73), F_mark_length.kp, v_mark_length, b_mark_length⟩⟩
  have O_groups_after : FnOk PP w K mg base (L2.CX PP w) 5 (He.fAd K ("groups_after", none)) fd_groups_after ["groups", "mark", "fresh"] (sp_groups_after K) := def_ok F_groups_after sc_groups_after len_groups_after (t_groups_after K) (fun cdv A outer s H E hr => tm_groups_after T  hr) (rd_groups_after T)
  have B_groups_after : ∃ ds, Vals ([] : List V) ds ∧ Binds K fd_groups_after ["groups", "mark", "fresh"] ds := ⟨[], .nil, F_groups_after.bindsN (ps := ["groups", "mark", "fresh"]) fun _ _ _ _ _ _ us hl => match us, hl with | [_, _, _], _ => rfl⟩
  obtain ⟨ds_groups_after, v_groups_after, b_groups_after⟩ := B_groups_after
  have G_groups_after : Fn PP w K mg base "groups_after" 5 [] (sp_groups_after K) := ⟨⟨_, fd_groups_after, ["groups", "mark", "fresh"], ds_groups_after, O_groups_after, glo_of X G (c.fact 74), F_groups_after.kp, v_groups_after, b_groups_after⟩⟩
  have O_marks_of : FnOk PP w K mg base (L2.CX PP w) 7 (He.fAd K ("marks_of", none)) fd_marks_of ["alphabet", "notation"] (sp_marks_of K) := def_ok F_marks_of sc_marks_of len_marks_of (t_marks_of K) (fun cdv A outer s H E hr => tm_marks_of T G_groups_after G_mark_length X_BadRecording hr) (rd_marks_of T)
  have B_marks_of : ∃ ds, Vals ([] : List V) ds ∧ Binds K fd_marks_of ["alphabet", "notation"] ds := ⟨[], .nil, F_marks_of.bindsN (ps := ["alphabet", "notation"]) fun _ _ _ _ _ _ us hl => match us, hl with | [_, _], _ => rfl⟩
  obtain ⟨ds_marks_of, v_marks_of, b_marks_of⟩ := B_marks_of
  have G_marks_of : Fn PP w K mg base "marks_of" 7 [] (sp_marks_of K) := ⟨⟨_, fd_marks_of, ["alphabet", "notation"], ds_marks_of, O_marks_of, glo_of X G (c.fact 75), F_marks_of.kp, v_marks_of, b_marks_of⟩⟩
  have O_key_row : FnOk PP w K mg base (L2.CX PP w) 9 (He.fAd K ("key_row", none)) fd_key_row ["alphabet", "notation"] (sp_key_row K) := def_ok F_key_row sc_key_row len_key_row (t_key_row K) (fun cdv A outer s H E hr => tm_key_row T G_marks_of X_TooMany hr) (rd_key_row T)
  have B_key_row : ∃ ds, Vals ([] : List V) ds ∧ Binds K fd_key_row ["alphabet", "notation"] ds := ⟨[], .nil, F_key_row.bindsN (ps := ["alphabet", "notation"]) fun _ _ _ _ _ _ us hl => match us, hl with | [_, _], _ => rfl⟩
  obtain ⟨ds_key_row, v_key_row, b_key_row⟩ := B_key_row
  have G_key_row : Fn PP w K mg base "key_row" 9 [] (sp_key_row K) := ⟨⟨_, fd_key_row, ["alphabet", "notation"], ds_key_row, O_key_row, glo_of X G (c.fact 76), F_key_row.kp, v_key_row, b_key_row⟩⟩
  have O_Recording_init : FnOk PP w K mg base (L2.CX PP w) 11 (He.fAd K ("Recording", some "__init__")) fd_Recording_init ["self", "alphabet", "notation"] (sp_Recording_init K) := def_ok F_Recording_init sc_Recording_init len_Recording_init (t_Recording_init K) (fun cdv A outer s H E hr => tm_Recording_init T G_key_row hr) (rd_Recording_init T)
  have B_Recording : ∃ ds, Vals ([] : List V) ds ∧ Binds K fd_Recording_init ["self", "alphabet", "notation"] ds := ⟨[], .nil, F_Recording_init.bindsN (ps := ["self", "alphabet", "notation"]) fun _ _ _ _ _ _ us hl => match us, hl with | [_, _, _], _ => rfl⟩
  obtain ⟨ds_Recording, v_Recording, b_Recording⟩ := B_Recording
  have G_Recording : Mks PP w K mg base "Recording" (He.ga K "Recording") 11 [] (sp_Recording_init K) := ⟨⟨_, fd_Recording_init, ["self", "alphabet", "notation"], ds_Recording, O_Recording_init, mk_of (c.fact 77), glo_of X G (c.fact 21), v_Recording, b_Recording⟩⟩
  have O_Recording_add : FnOk PP w K mg base (L2.CX PP w) 13 (He.fAd K ("Recording", some "__add__")) fd_Recording_add ["self", "other"] (sp_Recording_add K) := def_ok F_Recording_add sc_Recording_add len_Recording_add (t_Recording_add K) (fun cdv A outer s H E hr => tm_Recording_add T G_Recording G_check_alphabets hr) (rd_Recording_add T)
  have B_Recording___add__ : ∃ ds, Vals ([] : List V) ds ∧ Binds K fd_Recording_add ["self", "other"] ds := ⟨[], .nil, F_Recording_add.bindsN (ps := ["self", "other"]) fun _ _ _ _ _ _ us hl => match us, hl with | [_, _], _ => rfl⟩
  obtain ⟨ds_Recording___add__, v_Recording___add__, b_Recording___add__⟩ := B_Recording___add__
  have G_Recording___add__ : Me PP w K mg base (He.ga K "Recording") "__add__" 13 [] (sp_Recording_add K) := ⟨⟨_, fd_Recording_add, ["self", "other"], ds_Recording___add__, O_Recording_add, me_of (c.fact 78), v_Recording___add__, b_Recording___add__⟩, cls_of (c.fact 31)⟩
  have O_Recording_eq : FnOk PP w K mg base (L2.CX PP w) 7 (He.fAd K ("Recording", some "__eq__")) fd_Recording_eq ["self", "other"] (sp_Recording_eq K) := def_ok F_Recording_eq sc_Recording_eq len_Recording_eq (t_Recording_eq K) (fun cdv A outer s H E hr => tm_Recording_eq T G_Alphabet___eq__ hr) (rd_Recording_eq T)
  have B_Recording___eq__ : ∃ ds, Vals ([] : List V) ds ∧ Binds K fd_Recording_eq ["self", "other"] ds := ⟨[], .nil, F_Recording_eq.bindsN (ps := ["self", "other"]) fun _ _ _ _ _ _ us hl => match us, hl with | [_, _], _ => rfl⟩
  obtain ⟨ds_Recording___eq__, v_Recording___eq__, b_Recording___eq__⟩ := B_Recording___eq__
  have G_Recording___eq__ : Me PP w K mg base (He.ga K "Recording") "__eq__" 7 [] (sp_Recording_eq K) := ⟨⟨_, fd_Recording_eq, ["self", "other"], ds_Recording___eq__, O_Recording_eq, me_of (c.fact 79), v_Recording___eq__, b_Recording___eq__⟩, cls_of (c.fact 31)⟩
  have O_l_strange : FnOk PP w K mg base (L2.CX PP w) 15 (He.fAd K ("_law_strange", none)) fd_l_strange ["_law_first", "_law_second"] (sp_l_strange K) := def_ok F_l_strange sc_l_strange len_l_strange (t_l_strange K) (fun cdv A outer s H E hr => tm_l_strange T G_Recording___add__ G_Recording___eq__ hr) (rd_l_strange T)
  have B_l_strange : ∃ ds, Vals ([] : List V) ds ∧ Binds K fd_l_strange ["_law_first", "_law_second"] ds := ⟨[], .nil, F_l_strange.bindsN (ps := ["_law_first", "_law_second"]) fun _ _ _ _ _ _ us hl => match us, hl with | [_, _], _ => rfl⟩
  obtain ⟨ds_l_strange, v_l_strange, b_l_strange⟩ := B_l_strange
  have G_l_strange : Fn PP w K mg base "_law_strange" 15 [] (sp_l_strange K) := ⟨⟨_, fd_l_strange, ["_law_first", "_law_second"], ds_l_strange, O_l_strange, glo_of X G (c.fact 80), F_l_strange.kp, v_l_strange, b_l_strange⟩⟩
  have O_Recording_str : FnOk PP w K mg base (L2.CX PP w) 5 (He.fAd K ("Recording", some "__str__")) fd_Recording_str ["self"] (sp_Recording_str K) := def_ok F_Recording_str sc_Recording_str len_Recording_str (t_Recording_str K) (fun cdv A outer s H E hr => tm_Recording_str T  hr) (rd_Recording_str T)
  have B_Recording___str__ : ∃ ds, Vals ([] : List V) ds ∧ Binds K fd_Recording_str ["self"] ds := ⟨[], .nil, F_Recording_str.bindsN (ps := ["self"]) fun _ _ _ _ _ _ us hl => match us, hl with | [_], _ => rfl⟩
  obtain ⟨ds_Recording___str__, v_Recording___str__, b_Recording___str__⟩ := B_Recording___str__
  have G_Recording___str__ : Me PP w K mg base (He.ga K "Recording") "__str__" 5 [] (sp_Recording_str K) := ⟨⟨_, fd_Recording_str, ["self"], ds_Recording___str__, O_Recording_str, me_of (c.fact 81), v_Recording___str__, b_Recording___str__⟩, cls_of (c.fact 31)⟩
  have O_Recording_all_keys : FnOk PP w K mg base (L2.CX PP w) 5 (He.fAd K ("Recording", some "all_keys")) fd_Recording_all_keys ["self"] (sp_Recording_all_keys K) := def_ok F_Recording_all_keys sc_Recording_all_keys len_Recording_all_keys (t_Recording_all_keys K) (fun cdv A outer s H E hr => tm_Recording_all_keys T  hr) (rd_Recording_all_keys T)
  have B_Recording_all_keys : ∃ ds, Vals ([] : List V) ds ∧ Binds K fd_Recording_all_keys ["self"] ds := ⟨[], .nil, F_Recording_all_keys.bindsN (ps := ["self"]) fun _ _ _ _ _ _ us hl => match us, hl with | [_], _ => rfl⟩
  obtain ⟨ds_Recording_all_keys, v_Recording_all_keys, b_Recording_all_keys⟩ := B_Recording_all_keys
  have G_Recording_all_keys : Me PP w K mg base (He.ga K "Recording") "all_keys" 5 [] (sp_Recording_all_keys K) := ⟨⟨_, fd_Recording_all_keys, ["self"], ds_Recording_all_keys, O_Recording_all_keys, me_of (c.fact 82), v_Recording_all_keys, b_Recording_all_keys⟩, cls_of (c.fact 31)⟩
  have O_Recording_len : FnOk PP w K mg base (L2.CX PP w) 5 (He.fAd K ("Recording", some "__len__")) fd_Recording_len ["self"] (sp_Recording_len K) := def_ok F_Recording_len sc_Recording_len len_Recording_len (t_Recording_len K) (fun cdv A outer s H E hr => tm_Recording_len T  hr) (rd_Recording_len T)
  have B_Recording___len__ : ∃ ds, Vals ([] : List V) ds ∧ Binds K fd_Recording_len ["self"] ds := ⟨[], .nil, F_Recording_len.bindsN (ps := ["self"]) fun _ _ _ _ _ _ us hl => match us, hl with | [_], _ => rfl⟩
  obtain ⟨ds_Recording___len__, v_Recording___len__, b_Recording___len__⟩ := B_Recording___len__
  have G_Recording___len__ : Me PP w K mg base (He.ga K "Recording") "__len__" 5 [] (sp_Recording_len K) := ⟨⟨_, fd_Recording_len, ["self"], ds_Recording___len__, O_Recording_len, me_of (c.fact 83), v_Recording___len__, b_Recording___len__⟩, cls_of (c.fact 31)⟩
  have O_l_keys : FnOk PP w K mg base (L2.CX PP w) 7 (He.fAd K ("_law_keys", none)) fd_l_keys ["_law_made_here", "_law_keys_here"] (sp_l_keys K) := def_ok F_l_keys sc_l_keys len_l_keys (t_l_keys K) (fun cdv A outer s H E hr => tm_l_keys T G_Recording___len__ G_Recording_all_keys hr) (rd_l_keys T)
  have B_l_keys : ∃ ds, Vals ([] : List V) ds ∧ Binds K fd_l_keys ["_law_made_here", "_law_keys_here"] ds := ⟨[], .nil, F_l_keys.bindsN (ps := ["_law_made_here", "_law_keys_here"]) fun _ _ _ _ _ _ us hl => match us, hl with | [_, _], _ => rfl⟩
  obtain ⟨ds_l_keys, v_l_keys, b_l_keys⟩ := B_l_keys
  have G_l_keys : Fn PP w K mg base "_law_keys" 7 [] (sp_l_keys K) := ⟨⟨_, fd_l_keys, ["_law_made_here", "_law_keys_here"], ds_l_keys, O_l_keys, glo_of X G (c.fact 84), F_l_keys.kp, v_l_keys, b_l_keys⟩⟩
  have O_l_joined : FnOk PP w K mg base (L2.CX PP w) 15 (He.fAd K ("_law_joined", none)) fd_l_joined ["_law_alphabet", "_law_one", "_law_two", "_law_keys_here", "_law_others"] (sp_l_joined K) := def_ok F_l_joined sc_l_joined len_l_joined (t_l_joined K) (fun cdv A outer s H E hr => tm_l_joined T GQ_l_whole G_Recording G_Recording___add__ G_Recording___eq__ G_Recording___str__ G_l_keys hr) (rd_l_joined T)
  have B_l_joined : ∃ ds, Vals ([] : List V) ds ∧ Binds K fd_l_joined ["_law_alphabet", "_law_one", "_law_two", "_law_keys_here", "_law_others"] ds := ⟨[], .nil, F_l_joined.bindsN (ps := ["_law_alphabet", "_law_one", "_law_two", "_law_keys_here", "_law_others"]) fun _ _ _ _ _ _ us hl => match us, hl with | [_, _, _, _, _], _ => rfl⟩
  obtain ⟨ds_l_joined, v_l_joined, b_l_joined⟩ := B_l_joined
  have G_l_joined : Fn PP w K mg base "_law_joined" 15 [] (sp_l_joined K) := ⟨⟨_, fd_l_joined, ["_law_alphabet", "_law_one", "_law_two", "_law_keys_here", "_law_others"], ds_l_joined, O_l_joined, glo_of X G (c.fact 85), F_l_joined.kp, v_l_joined, b_l_joined⟩⟩
  have O_l_take : FnOk PP w K mg base (L2.CX PP w) 5 (He.fAd K ("_law_take", none)) fd_l_take ["_law_box_here", "_law_size"] (sp_l_take K) := def_ok F_l_take sc_l_take len_l_take (t_l_take K) (fun cdv A outer s H E hr => tm_l_take T  hr) (rd_l_take T)
  have B_l_take : ∃ ds, Vals ([] : List V) ds ∧ Binds K fd_l_take ["_law_box_here", "_law_size"] ds := ⟨[], .nil, F_l_take.bindsN (ps := ["_law_box_here", "_law_size"]) fun _ _ _ _ _ _ us hl => match us, hl with | [_, _], _ => rfl⟩
  obtain ⟨ds_l_take, v_l_take, b_l_take⟩ := B_l_take
  have G_l_take : Fn PP w K mg base "_law_take" 5 [] (sp_l_take K) := ⟨⟨_, fd_l_take, ["_law_box_here", "_law_size"], ds_l_take, O_l_take, glo_of X G (c.fact 86), F_l_take.kp, v_l_take, b_l_take⟩⟩
  have O_l_box : FnOk PP w K mg base (L2.CX PP w) 5 (He.fAd K ("_law_box", none)) fd_l_box ["_law_script", "_law_k"] (sp_l_box K) := def_ok F_l_box sc_l_box len_l_box (t_l_box K) (fun cdv A outer s H E hr => tm_l_box T  hr) (rd_l_box T)
  have B_l_box : ∃ ds, Vals ([] : List V) ds ∧ Binds K fd_l_box ["_law_script", "_law_k"] ds := ⟨[], .nil, F_l_box.bindsN (ps := ["_law_script", "_law_k"]) fun _ _ _ _ _ _ us hl => match us, hl with | [_, _], _ => rfl⟩
  obtain ⟨ds_l_box, v_l_box, b_l_box⟩ := B_l_box
  have G_l_box : Fn PP w K mg base "_law_box" 5 [] (sp_l_box K) := ⟨⟨_, fd_l_box, ["_law_script", "_law_k"], ds_l_box, O_l_box, glo_of X G (c.fact 87), F_l_box.kp, v_l_box, b_l_box⟩⟩
  have O_l_letters : FnOk PP w K mg base (L2.CX PP w) 7 (He.fAd K ("_law_letters", none)) fd_l_letters ["_law_box_here", "_law_count"] (sp_l_letters K) := def_ok F_l_letters sc_l_letters len_l_letters (t_l_letters K) (fun cdv A outer s H E hr => tm_l_letters T G_l_take hr) (rd_l_letters T)
  have B_l_letters : ∃ ds, Vals ([] : List V) ds ∧ Binds K fd_l_letters ["_law_box_here", "_law_count"] ds := ⟨[], .nil, F_l_letters.bindsN (ps := ["_law_box_here", "_law_count"]) fun _ _ _ _ _ _ us hl => match us, hl with | [_, _], _ => rfl⟩
  obtain ⟨ds_l_letters, v_l_letters, b_l_letters⟩ := B_l_letters
  have G_l_letters : Fn PP w K mg base "_law_letters" 7 [] (sp_l_letters K) := ⟨⟨_, fd_l_letters, ["_law_box_here", "_law_count"], ds_l_letters, O_l_letters, glo_of X G (c.fact 88), F_l_letters.kp, v_l_letters, b_l_letters⟩⟩
  have O_l_vowels : FnOk PP w K mg base (L2.CX PP w) 7 (He.fAd K ("_law_vowels", none)) fd_l_vowels ["_law_box_here", "_law_letters_here"] (sp_l_vowels K) := def_ok F_l_vowels sc_l_vowels len_l_vowels (t_l_vowels K) (fun cdv A outer s H E hr => tm_l_vowels T G_l_take hr) (rd_l_vowels T)
  have B_l_vowels : ∃ ds, Vals ([] : List V) ds ∧ Binds K fd_l_vowels ["_law_box_here", "_law_letters_here"] ds := ⟨[], .nil, F_l_vowels.bindsN (ps := ["_law_box_here", "_law_letters_here"]) fun _ _ _ _ _ _ us hl => match us, hl with | [_, _], _ => rfl⟩
  obtain ⟨ds_l_vowels, v_l_vowels, b_l_vowels⟩ := B_l_vowels
  have G_l_vowels : Fn PP w K mg base "_law_vowels" 7 [] (sp_l_vowels K) := ⟨⟨_, fd_l_vowels, ["_law_box_here", "_law_letters_here"], ds_l_vowels, O_l_vowels, glo_of X G (c.fact 89), F_l_vowels.kp, v_l_vowels, b_l_vowels⟩⟩
  have O_l_char : FnOk PP w K mg base (L2.CX PP w) 7 (He.fAd K ("_law_char", none)) fd_l_char ["_law_box_here"] (sp_l_char K) := def_ok F_l_char sc_l_char len_l_char (t_l_char K) (fun cdv A outer s H E hr => tm_l_char T G_l_take hr) (rd_l_char T)
  have B_l_char : ∃ ds, Vals ([] : List V) ds ∧ Binds K fd_l_char ["_law_box_here"] ds := ⟨[], .nil, F_l_char.bindsN (ps := ["_law_box_here"]) fun _ _ _ _ _ _ us hl => match us, hl with | [_], _ => rfl⟩
  obtain ⟨ds_l_char, v_l_char, b_l_char⟩ := B_l_char
  have G_l_char : Fn PP w K mg base "_law_char" 7 [] (sp_l_char K) := ⟨⟨_, fd_l_char, ["_law_box_here"], ds_l_char, O_l_char, glo_of X G (c.fact 90), F_l_char.kp, v_l_char, b_l_char⟩⟩
  have O_l_bent : FnOk PP w K mg base (L2.CX PP w) 9 (He.fAd K ("_law_bent", none)) fd_l_bent ["_law_box_here", "_law_notation_here"] (sp_l_bent K) := def_ok F_l_bent sc_l_bent len_l_bent (t_l_bent K) (fun cdv A outer s H E hr => tm_l_bent T G_l_char G_l_take hr) (rd_l_bent T)
  have B_l_bent : ∃ ds, Vals ([] : List V) ds ∧ Binds K fd_l_bent ["_law_box_here", "_law_notation_here"] ds := ⟨[], .nil, F_l_bent.bindsN (ps := ["_law_box_here", "_law_notation_here"]) fun _ _ _ _ _ _ us hl => match us, hl with | [_, _], _ => rfl⟩
  obtain ⟨ds_l_bent, v_l_bent, b_l_bent⟩ := B_l_bent
  have G_l_bent : Fn PP w K mg base "_law_bent" 9 [] (sp_l_bent K) := ⟨⟨_, fd_l_bent, ["_law_box_here", "_law_notation_here"], ds_l_bent, O_l_bent, glo_of X G (c.fact 91), F_l_bent.kp, v_l_bent, b_l_bent⟩⟩
  have O_l_close : FnOk PP w K mg base (L2.CX PP w) 5 (He.fAd K ("_law_close", none)) fd_l_close ["_law_tokens_here", "_law_groups"] (sp_l_close K) := def_ok F_l_close sc_l_close len_l_close (t_l_close K) (fun cdv A outer s H E hr => tm_l_close T  hr) (rd_l_close T)
  have B_l_close : ∃ ds, Vals ([] : List V) ds ∧ Binds K fd_l_close ["_law_tokens_here", "_law_groups"] ds := ⟨[], .nil, F_l_close.bindsN (ps := ["_law_tokens_here", "_law_groups"]) fun _ _ _ _ _ _ us hl => match us, hl with | [_, _], _ => rfl⟩
  obtain ⟨ds_l_close, v_l_close, b_l_close⟩ := B_l_close
  have G_l_close : Fn PP w K mg base "_law_close" 5 [] (sp_l_close K) := ⟨⟨_, fd_l_close, ["_law_tokens_here", "_law_groups"], ds_l_close, O_l_close, glo_of X G (c.fact 92), F_l_close.kp, v_l_close, b_l_close⟩⟩
  have O_l_key : FnOk PP w K mg base (L2.CX PP w) 7 (He.fAd K ("_law_key", none)) fd_l_key ["_law_box_here", "_law_signs", "_law_menu"] (sp_l_key K) := def_ok F_l_key sc_l_key len_l_key (t_l_key K) (fun cdv A outer s H E hr => tm_l_key T G_l_take hr) (rd_l_key T)
  have B_l_key : ∃ ds, Vals ([] : List V) ds ∧ Binds K fd_l_key ["_law_box_here", "_law_signs", "_law_menu"] ds := ⟨[], .nil, F_l_key.bindsN (ps := ["_law_box_here", "_law_signs", "_law_menu"]) fun _ _ _ _ _ _ us hl => match us, hl with | [_, _, _], _ => rfl⟩
  obtain ⟨ds_l_key, v_l_key, b_l_key⟩ := B_l_key
  have G_l_key : Fn PP w K mg base "_law_key" 7 [] (sp_l_key K) := ⟨⟨_, fd_l_key, ["_law_box_here", "_law_signs", "_law_menu"], ds_l_key, O_l_key, glo_of X G (c.fact 93), F_l_key.kp, v_l_key, b_l_key⟩⟩
  have O_l_tokens : FnOk PP w K mg base (L2.CX PP w) 9 (He.fAd K ("_law_tokens", none)) fd_l_tokens ["_law_box_here", "_law_signs", "_law_menu", "_law_cap", "_law_depth"] (sp_l_tokens K) := def_ok F_l_tokens sc_l_tokens len_l_tokens (t_l_tokens K) (fun cdv A outer s H E hr => tm_l_tokens T G_l_close G_l_key G_l_take hr) (rd_l_tokens T)
  have B_l_tokens : ∃ ds, Vals ([] : List V) ds ∧ Binds K fd_l_tokens ["_law_box_here", "_law_signs", "_law_menu", "_law_cap", "_law_depth"] ds := ⟨[], .nil, F_l_tokens.bindsN (ps := ["_law_box_here", "_law_signs", "_law_menu", "_law_cap", "_law_depth"]) fun _ _ _ _ _ _ us hl => match us, hl with | [_, _, _, _, _], _ => rfl⟩
  obtain ⟨ds_l_tokens, v_l_tokens, b_l_tokens⟩ := B_l_tokens
  have G_l_tokens : Fn PP w K mg base "_law_tokens" 9 [] (sp_l_tokens K) := ⟨⟨_, fd_l_tokens, ["_law_box_here", "_law_signs", "_law_menu", "_law_cap", "_law_depth"], ds_l_tokens, O_l_tokens, glo_of X G (c.fact 94), F_l_tokens.kp, v_l_tokens, b_l_tokens⟩⟩
  have O_l_notation : FnOk PP w K mg base (L2.CX PP w) 11 (He.fAd K ("_law_notation", none)) fd_l_notation ["_law_box_here", "_law_signs"] (sp_l_notation K) := def_ok F_l_notation sc_l_notation len_l_notation (t_l_notation K) (fun cdv A outer s H E hr => tm_l_notation T G_l_bent G_l_key G_l_take G_l_tokens hr) (rd_l_notation T)
  have B_l_notation : ∃ ds, Vals ([] : List V) ds ∧ Binds K fd_l_notation ["_law_box_here", "_law_signs"] ds := ⟨[], .nil, F_l_notation.bindsN (ps := ["_law_box_here", "_law_signs"]) fun _ _ _ _ _ _ us hl => match us, hl with | [_, _], _ => rfl⟩
  obtain ⟨ds_l_notation, v_l_notation, b_l_notation⟩ := B_l_notation
  have G_l_notation : Fn PP w K mg base "_law_notation" 11 [] (sp_l_notation K) := ⟨⟨_, fd_l_notation, ["_law_box_here", "_law_signs"], ds_l_notation, O_l_notation, glo_of X G (c.fact 95), F_l_notation.kp, v_l_notation, b_l_notation⟩⟩
  have O_l_scan : FnOk PP w K mg base (L2.CX PP w) 5 (He.fAd K ("_law_scan", none)) fd_l_scan ["_law_signs", "_law_notation_here"] (sp_l_scan K) := def_ok F_l_scan sc_l_scan len_l_scan (t_l_scan K) (fun cdv A outer s H E hr => tm_l_scan T  hr) (rd_l_scan T)
  have B_l_scan : ∃ ds, Vals ([] : List V) ds ∧ Binds K fd_l_scan ["_law_signs", "_law_notation_here"] ds := ⟨[], .nil, F_l_scan.bindsN (ps := ["_law_signs", "_law_notation_here"]) fun _ _ _ _ _ _ us hl => match us, hl with | [_, _], _ => rfl⟩
  obtain ⟨ds_l_scan, v_l_scan, b_l_scan⟩ := B_l_scan
  have G_l_scan : Fn PP w K mg base "_law_scan" 5 [] (sp_l_scan K) := ⟨⟨_, fd_l_scan, ["_law_signs", "_law_notation_here"], ds_l_scan, O_l_scan, glo_of X G (c.fact 96), F_l_scan.kp, v_l_scan, b_l_scan⟩⟩
  have O_l_made : FnOk PP w K mg base (L2.CX PP w) 13 (He.fAd K ("_law_made", none)) fd_l_made ["_law_alphabet", "_law_notation_here"] (sp_l_made K) := def_ok F_l_made sc_l_made len_l_made (t_l_made K) (fun cdv A outer s H E hr => tm_l_made T G_Recording G_Recording___len__ hr) (rd_l_made T)
  have B_l_made : ∃ ds, Vals ([] : List V) ds ∧ Binds K fd_l_made ["_law_alphabet", "_law_notation_here"] ds := ⟨[], .nil, F_l_made.bindsN (ps := ["_law_alphabet", "_law_notation_here"]) fun _ _ _ _ _ _ us hl => match us, hl with | [_, _], _ => rfl⟩
  obtain ⟨ds_l_made, v_l_made, b_l_made⟩ := B_l_made
  have G_l_made : Fn PP w K mg base "_law_made" 13 [] (sp_l_made K) := ⟨⟨_, fd_l_made, ["_law_alphabet", "_law_notation_here"], ds_l_made, O_l_made, glo_of X G (c.fact 97), F_l_made.kp, v_l_made, b_l_made⟩⟩
  have O_l_stands : FnOk PP w K mg base (L2.CX PP w) 15 (He.fAd K ("_law_stands", none)) fd_l_stands ["_law_alphabet", "_law_signs", "_law_notation_here"] (sp_l_stands K) := def_ok F_l_stands sc_l_stands len_l_stands (t_l_stands K) (fun cdv A outer s H E hr => tm_l_stands T G_Alphabet___eq__ G_Recording G_Recording___str__ G_l_keys G_l_made G_l_scan G_l_whole hr) (rd_l_stands T)
  have B_l_stands : ∃ ds, Vals ([] : List V) ds ∧ Binds K fd_l_stands ["_law_alphabet", "_law_signs", "_law_notation_here"] ds := ⟨[], .nil, F_l_stands.bindsN (ps := ["_law_alphabet", "_law_signs", "_law_notation_here"]) fun _ _ _ _ _ _ us hl => match us, hl with | [_, _, _], _ => rfl⟩
  obtain ⟨ds_l_stands, v_l_stands, b_l_stands⟩ := B_l_stands
  have G_l_stands : Fn PP w K mg base "_law_stands" 15 [] (sp_l_stands K) := ⟨⟨_, fd_l_stands, ["_law_alphabet", "_law_signs", "_law_notation_here"], ds_l_stands, O_l_stands, glo_of X G (c.fact 98), F_l_stands.kp, v_l_stands, b_l_stands⟩⟩
  have O_l_world : FnOk PP w K mg base (L2.CX PP w) 17 (He.fAd K ("_law_world", none)) fd_l_world ["_law_script", "_law_k"] (sp_l_world K) := def_ok F_l_world sc_l_world len_l_world (t_l_world K) (fun cdv A outer s H E hr => tm_l_world T G_Alphabet G_Recording G_Recording___eq__ G_l_box G_l_joined G_l_letters G_l_notation G_l_scan G_l_stands G_l_strange G_l_take G_l_vowels hr) (rd_l_world T)
  have B_l_world : ∃ ds, Vals ([] : List V) ds ∧ Binds K fd_l_world ["_law_script", "_law_k"] ds := ⟨[], .nil, F_l_world.bindsN (ps := ["_law_script", "_law_k"]) fun _ _ _ _ _ _ us hl => match us, hl with | [_, _], _ => rfl⟩
  obtain ⟨ds_l_world, v_l_world, b_l_world⟩ := B_l_world
  have G_l_world : Fn PP w K mg base "_law_world" 17 [] (sp_l_world K) := ⟨⟨_, fd_l_world, ["_law_script", "_law_k"], ds_l_world, O_l_world, glo_of X G (c.fact 99), F_l_world.kp, v_l_world, b_l_world⟩⟩
  have O_law : FnOk PP w K mg base (L2.CX PP w) 19 (He.fAd K ("law", none)) fd_law ["_law_script"] (sp_law K) := def_ok F_law sc_law len_law (t_law K) (fun cdv A outer s H E hr => tm_law T G_l_whole G_l_world hr) (rd_law T)
  exact O_law
end Lw
open PySem PySem.W PySem.Calls PyProof.Rows
set_option maxHeartbeats 0 in
theorem PySem.Challenge.cw_talepost_k43_recordings_holds : PySem.Challenge.rw_talepost_k43_recordings.Holds := by
  w_on; o_law
  refine HandSHeadRun.head_any (r := OpenLaw.row PySem.Challenge.rw_talepost_k43_recordings) (q := view (OpenLaw.row PySem.Challenge.rw_talepost_k43_recordings).prog [44]) (H := Lw.hk) (ob := Lw.ob) (M := 12000) (loose := Lw.loose) (d := HandSHeadRun.topDef (OpenLaw.row PySem.Challenge.rw_talepost_k43_recordings).prog 44) (kwd := []) Lw.ob_eq
    (by kernel_rfl) (fun s => by kernel_rfl) Lw.run (by kernel_rfl) (by kernel_rfl) (by kernel_rfl) (by rfl) (by first | assumption | decide +kernel) (by decide +kernel) ⟨rfl, rfl, rfl, rfl, rfl, by decide +kernel⟩ ?hw ?hc
  case hw => w_witness2
  case hc =>
    refine Ta.walk_ofX (l := PySem.Challenge.rw_talepost_k43_recordings) (n := 63) (k := 19) (x := "_law_script") rfl (by decide) (by kernel_rfl) ⟨rfl, by decide, by decide⟩ ?F
    intro w mg fa h Y G hmg0
    obtain ⟨K, KX, c⟩ := Y
    have hmg : mg ("law" : PySem.Str) = some (.ref fa) := by
      have e : (HandSHeadRun.topDef (OpenLaw.row PySem.Challenge.rw_talepost_k43_recordings).prog 44).name = ("law" : PySem.Str) := by kernel_rfl
      rw [← e]
      exact hmg0
    obtain ⟨fd, hb, hF⟩ := Lw.all_ok (w := w) KX G c
    have e := hmg.symm.trans (Ta.glo_of KX G (x := "law") (c.fact 101))
    cases e
    refine ⟨K, fd, Lw.sp_law K, KX, hb, fun H a ns hl hO hS => ?_, hF⟩
    obtain ⟨oj, hS⟩ := Ta.scr_of (c.fact 100) hO hS
    exact Lw.law_in hS hl

