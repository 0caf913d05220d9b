import PyProof.Rows.All
import Wide.All
import OpenK.AllK
import Wide.FinOn
import HandS.ForMost
import HandS.ForExc
import HandS.Flow
import HandS.Defaults
import HandS.CallSlots
import HandS.IsInst
import HandS.Codes
import HandS.ClsMeth
import HandS.OwnEq
import HandS.Property
import HandS.ExcInit
import HandS.ExcField
import HandS.ExcIs
import HandS.Nested
import KE.KExcSuper
import KE.KExcIs
import HandS.Strs
import HandS.SetTxtIn
import HandS.More
import HandS.Replace
import HandS.ReplaceList
import HandS.Head0
import HandS.Head1
import HandS.Head2
import HandS.HeadEnd
import HandS.HeadHook1
import HandS.HeadHook2
import HandS.TupLe
import HandS.Text
import HandS.List
import PyProof.Rows.StrFirst
import HandS.Conv
import PyProof.ListStr
import HandS.Set
import HandS.SetFor
import KE.SortKeyHeap
import HandS.SortKw
import KE.KSortKey
import HandS.Style
import KE.KRevSl
import PyProof.SliceStr2
import OpenK.KMake
import HandS.Wide
import PyProof.StrLawsIn
import HandS.TryMany
import HandS.TryOnly
import KE.KCallOwn
import OpenK.KMeth
import PyProof.InstNe
import HandS.RaiseMore
import HandS.Small
import HandS.HotCalls
import HandS.Zip
import HandS.FStr
import HandS.HeadNt
import KE.KOpsOwn
import PyProof.P3In
import PyProof.EnumMake
import PyProof.Rows.Range3
import PySem.Challenge.RW_talepost_k20_tables_written
set_option Elab.async false
set_option linter.all false
set_option maxRecDepth 100000
set_option maxHeartbeats 1000000
namespace Ta
open PySem PySem.Spec PyProof.Rows L2
abbrev St := L2.St

/-! ### texts as lists of codes -/
abbrev tl (x : Str) : List Nat := x.cps.toList
abbrev S (l : List Nat) : Str := ⟨l.toArray⟩
theorem tl_S (l : List Nat) : tl (S l) = l := rfl
theorem S_tl (x : Str) : S (tl x) = x := TL.mk_tl x
theorem ext_tl {x y : Str} (h : tl x = tl y) : x = y := TL.ext_tl h
theorem len_tl (x : Str) : x.length = (tl x).length := TL.len_tl x
theorem add_S (x y : Str) : x ++ y = S (tl x ++ tl y) := ext_tl (TL.tl_append x y)

/-! ### marks: a look at the heap, a branch -/
structure look (H : Hp) (p : Addr) (k : Option HO → Prop) : Prop where
  out : k (H p)
theorem look_i {H : Hp} {p : Addr} {k : Option HO → Prop} {o : HO} (h : H p = some o) (q : k (some o)) : look H p k := by
  refine ⟨?_⟩; rw [h]; exact q
theorem look_n {H : Hp} {p : Addr} {k : Option HO → Prop} (h : H p = none) (q : k none) : look H p k := by
  refine ⟨?_⟩; rw [h]; exact q
theorem look_e {H : Hp} {p : Addr} {k : Option HO → Prop} (q : look H p k) : k (H p) := by
  replace q := q.out; exact q
structure cnd (c : Bool) (p q : Prop) : Prop where
  out : match c with
  | true => p
  | false => q
theorem cnd_i {c : Bool} {p q : Prop} (h1 : c = true → p) (h2 : c = false → q) : cnd c p q := by
  refine ⟨?_⟩; cases c
  · exact h2 rfl
  · exact h1 rfl
theorem cnd_t {c : Bool} {p q : Prop} (h : c = true) (h1 : p) : cnd c p q := by refine ⟨?_⟩; rw [h]; exact h1
theorem cnd_f {c : Bool} {p q : Prop} (h : c = false) (h1 : q) : cnd c p q := by refine ⟨?_⟩; rw [h]; exact h1
theorem cnd_e {c : Bool} {p q : Prop} (h : cnd c p q) : if c = true then p else q := by
  replace h := h.out; cases c
  · exact h
  · exact h

/-! ### weakening -/
section
variable {X : Cx}
theorem pe_imp {e : Expr} {t t' : TE} (h : PE X e t) (i : ∀ σ H Q, t' σ H Q → t σ H Q) : PE X e t' := ⟨fun pins s σ H Q I q => h.run pins s σ H Q I (i σ H Q q)⟩
theorem pt_imp {e : Expr} {t t' : TT} (h : PT X e t) (i : ∀ σ H Q, t' σ H Q → t σ H Q) : PT X e t' := ⟨fun pins s σ H Q I q => h.run pins s σ H Q I (i σ H Q q)⟩
theorem pw_imp {e : Expr} {t t' : TT} (h : PW X e t) (i : ∀ σ H Q, t' σ H Q → t σ H Q) : PW X e t' := ⟨fun whole pins s σ H Q I q => h.run whole pins s σ H Q I (i σ H Q q)⟩
theorem ps_imp {e : Stmt} {t t' : TS} (h : PS X e t) (i : ∀ D σ H, t' D σ H → t D σ H) : PS X e t' := ⟨fun pins s σ H D I q => h.run pins s σ H D I (i D σ H q)⟩
theorem pss_imp {e : List Stmt} {t t' : TS} (h : PSs X e t) (i : ∀ D σ H, t' D σ H → t D σ H) : PSs X e t' := ⟨fun pins s σ H D I q => h.run pins s σ H D I (i D σ H q)⟩
theorem op_imp {f : Value → Value → Sem Value} {r r' : R2} (h : OpR X f r) (i : ∀ x y H Q, r' x y H Q → r x y H Q) : OpR X f r' := fun pins s σ H x y v u Q I rx ry q => h pins s σ H x y v u Q I rx ry (i x y H Q q)
theorem ix_imp {r r' : R2} (h : IxR X r) (i : ∀ x y H Q, r' x y H Q → r x y H Q) : IxR X r' := fun va sl pins s σ H x y v u Q I rx ry q => h va sl pins s σ H x y v u Q I rx ry (i x y H Q q)
theorem cr_imp {f : Value} {r r' : List V → Hp → VK → Prop} (h : CallR X f r) (i : ∀ xs H Q, r' xs H Q → r xs H Q) : CallR X f r' := fun pins s σ H xs us Q I rx q => h pins s σ H xs us Q I rx (i xs H Q q)
theorem sl_imp {r r' : V → Option Int → Option Int → Hp → VK → Prop} (h : SlR X r) (i : ∀ x a b H Q, r' x a b H Q → r x a b H Q) : SlR X r' := fun pins s σ H x v vl vu lo hi sl Q I rx rs pl pu q => h pins s σ H x v vl vu lo hi sl Q I rx rs pl pu (i x lo hi H Q q)
theorem mt_imp {id : String} {r r' : V → List V → Hp → VK → Prop} (h : MtR X id r) (i : ∀ x xs H Q, r' x xs H Q → r x xs H Q) : MtR X id r' := fun pins s σ H x xs v us Q I rx rs q => h pins s σ H x xs v us Q I rx rs (i x xs H Q q)
end

/-! ### limits -/
def Lim (n : Nat) : Prop := n ≤ sizeLine
theorem lim_of {n : Nat} (h : n ≤ 16777216) : Lim n := by unfold Lim; rw [sizeLine_eq]; exact h

/-! ### names, constants -/
section
variable {X : Cx}
def tV (i : Nat) : TE := fun σ H Q => match σ[i]? with
  | some (some v) => Q v H
  | _ => False
theorem tV_e {i : Nat} {σ : St} {H : Hp} {Q : VK} (h : tV i σ H Q) : tVar i σ H Q := by
  unfold tV at h
  split at h
  · rename_i v e
    exact ⟨v, e, h⟩
  · exact h.elim
theorem pv (i : Nat) {x : Str} {pos : Pos} (hN : X.N[i]? = some x := by rfl) (hv : Vis X.env.scope x := by first | exact Or.inl rfl | exact Or.inr (Or.inl rfl) | exact Or.inr (Or.inr rfl)) (hd : (x == ("__debug__" : Str)) = false := by decide +kernel)
    (hcd : (x == ("__classdict__" : Str)) = false := by decide +kernel) : PE X (.Name x pos) (tV i) := pe_imp (pe_var hN hv hd hcd) fun _ _ _ h => tV_e h
theorem pstr (l : List Nat) {x : Str} {j : Nat} {pos : Pos} (h : x = S l := by decide +kernel) : PE X (.Constant (.str x) j pos) (tC (.str (S l))) := by
  subst h; exact pe_str

/-! ### truth -/
def truP (K : PySem.W.Frag) (x : V) (H : Hp) (Q : Bool → Prop) : Prop := match x with
  | .non => Q false
  | .bl b => Q b
  | .int i => Q (!decide (i = 0))
  | .str y => Lim (tl y).length ∧ Q (!(tl y).isEmpty)
  | .ref p => look H p fun o => match o with
    | some (.lst xs) => Q (!xs.isEmpty)
    | some (.tup xs) => Q (!xs.isEmpty)
    | some (.dK kvs) => Q (!kvs.isEmpty)
    | some (.frz _ (.lst xs)) => Q (!xs.isEmpty)
    | _ => ∃ xs, (SqL K H p xs ∨ SqT K H p xs) ∧ Q (!xs.isEmpty)
  | _ => False
theorem truP_e {K : PySem.W.Frag} {x : V} {H : Hp} {Q : Bool → Prop} (h : truP K x H Q) : ∃ k, TruV K x H k ∧ Q k := by
  cases x with
  | non => exact ⟨false, rfl, h⟩
  | bl b => exact ⟨b, rfl, h⟩
  | int i => exact ⟨!decide (i = 0), by show (!decide (i = 0)) = (i != 0); simp only [bne]; congr 1, h⟩
  | str y =>
    obtain ⟨h1, h2⟩ := h
    refine ⟨!(tl y).isEmpty, ⟨by rw [len_tl]; exact h1, ?_⟩, h2⟩
    rw [len_tl]
    cases e : tl y with
    | nil => rfl
    | cons c r => simp; omega
  | ref p =>
    have h' := look_e h
    revert h'
    cases e : H p with
    | none => exact fun ⟨xs, h1, h2⟩ => ⟨_, h1.elim (fun z => .inl ⟨xs, z, rfl⟩) (fun z => .inr (.inl ⟨xs, z, rfl⟩)), h2⟩
    | some o =>
      cases o with
      | lst xs => exact fun h2 => ⟨_, .inl ⟨xs, SqL.of e, rfl⟩, h2⟩
      | tup xs => exact fun h2 => ⟨_, .inr (.inl ⟨xs, SqT.of e, rfl⟩), h2⟩
      | dK xs => exact fun h2 => ⟨_, .inr (.inr ⟨xs, e, rfl⟩), h2⟩
      | frz ob u =>
        cases u with
        | lst xs => exact fun h2 => ⟨_, .inl ⟨xs, .inl (.inr ⟨_, e⟩), rfl⟩, h2⟩
        | _ => exact fun ⟨xs, h1, h2⟩ => ⟨_, h1.elim (fun z => .inl ⟨xs, z, rfl⟩) (fun z => .inr (.inl ⟨xs, z, rfl⟩)), h2⟩
      | _ => exact fun ⟨xs, h1, h2⟩ => ⟨_, h1.elim (fun z => .inl ⟨xs, z, rfl⟩) (fun z => .inr (.inl ⟨xs, z, rfl⟩)), h2⟩
  | _ => exact h.elim
def tTru (K : PySem.W.Frag) (ta : TE) : TT := fun σ H Q => ta σ H fun x H1 => truP K x H1 fun k => Q k H1
variable {a b c : Expr} {ta tb tc : TE} {rest : List Expr} {pos : Pos}
theorem ptru (ha : PE X a ta) (he : ∀ whole, isTrue a X.env whole = (do let v ← whole; standAt a.pos; holding [v] (truthy v)) := by intro _; rfl) : PT X a (tTru X.K ta) := by
  refine ⟨fun pins s σ H Q I h => ?_⟩
  exact isTrue_plain (thn (ha.run pins s σ H _ I h) fun v s1 ⟨x, H1, I1, r1, q1⟩ => tru_ok pins s1 σ H1 x v Q I1 r1 (truP_e (Q := fun k => Q k H1) q1)) (he _)
/-- a test that is a comparison -/
def tTst (t : TE) : TT := fun σ H Q => t σ H fun x H' => match x with
  | .bl k => Q k H'
  | _ => False
theorem bl_of {x : V} {P : Bool → Prop} (h : match x with | .bl k => P k | _ => False) : ∃ k, x = .bl k ∧ P k := by
  cases x with
  | bl k => exact ⟨k, rfl, h⟩
  | _ => exact h.elim
theorem ptcmp {op : CmpOp} {r : R2} (ho : OpR X (compareOp op) r) (ha : PE X a ta) (hb : PE X b tb) (hm : behindInMarks op b = false := by rfl) : PT X (.Compare a [op] [b] pos) (tTst (tOp r ta tb)) := by
  refine ⟨fun pins s σ H Q I h => ?_⟩
  refine wpAny_isTrue_Compare1 (binT ha hb I h fun v u s2 x y H2 I2 rx ry q => ?_) hm
  refine thn (ho pins s2 σ H2 x y v u _ I2 rx ry q) fun c s3 ⟨z, H3, I3, r3, q3⟩ => ?_
  obtain ⟨k, rfl, q3⟩ := bl_of q3
  cases r3
  exact wpAny_truthy_bool ⟨H3, I3, q3⟩
def tAndP (t u : TT) : TT := fun σ H Q => t σ H fun c H1 => cnd c (u σ H1 Q) (Q false H1)
def tOrP (t u : TT) : TT := fun σ H Q => t σ H fun c H1 => cnd c (Q true H1) (u σ H1 Q)
variable {tA tB' : TT}
theorem pwand (ha : PT X a tA) (hb : PW X (.BoolOp .And (b :: rest) pos) tB') : PW X (.BoolOp .And (a :: b :: rest) pos) (tAndP tA tB') := by
  refine ⟨fun wh pins s σ H Q I h => ?_⟩
  refine isTrue_and (thn (ha.run pins s σ H _ I h) fun c s1 ⟨H1, I1, q1⟩ => ?_)
  have q1 := cnd_e q1
  cases c with
  | true => exact hb.run wh pins s1 σ H1 Q I1 q1
  | false => exact ⟨H1, I1, q1⟩
theorem pwor (ha : PT X a tA) (hb : PW X (.BoolOp .Or (b :: rest) pos) tB') : PW X (.BoolOp .Or (a :: b :: rest) pos) (tOrP tA tB') := by
  refine ⟨fun wh pins s σ H Q I h => ?_⟩
  refine isTrue_or (thn (ha.run pins s σ H _ I h) fun c s1 ⟨H1, I1, q1⟩ => ?_)
  have q1 := cnd_e q1
  cases c with
  | true => exact ⟨H1, I1, q1⟩
  | false => exact hb.run wh pins s1 σ H1 Q I1 q1
/-! ### and, or, not as values -/
def tAndE (K : PySem.W.Frag) (ta tb : TE) : TE := fun σ H Q => ta σ H fun x H1 => truP K x H1 fun k => cnd k (tb σ H1 Q) (Q x H1)
def tOrE (K : PySem.W.Frag) (ta tb : TE) : TE := fun σ H Q => ta σ H fun x H1 => truP K x H1 fun k => cnd k (Q x H1) (tb σ H1 Q)
def tNotE (K : PySem.W.Frag) (ta : TE) : TE := fun σ H Q => ta σ H fun x H1 => truP K x H1 fun k => Q (.bl (!k)) H1
theorem peor (ha : PE X a ta) (hb : PE X (.BoolOp .Or (b :: rest) pos) tb) : PE X (.BoolOp .Or (a :: b :: rest) pos) (tOrE X.K ta tb) := by
  refine ⟨fun pins s σ H Q I h => ?_⟩
  refine BoolOp_or (thn (ha.run pins s σ H _ I h) fun v s1 ⟨x, H1, I1, r1, q1⟩ => ?_)
  obtain ⟨k, e, q1⟩ := truP_e q1
  refine thn (tru_ok pins s1 σ H1 x v (fun c H2 => c = k ∧ H2 = H1) I1 r1 ⟨k, e, rfl, rfl⟩) fun c s2 hc => ?_
  obtain ⟨H2, I2, e1, e2⟩ := hc
  rw [e2] at I2
  rw [← e1] at q1
  have q1 := cnd_e q1
  cases c with
  | true => exact ⟨x, H1, I2, r1, q1⟩
  | false => exact hb.run pins s2 σ H1 Q I2 q1
theorem peand (ha : PE X a ta) (hb : PE X (.BoolOp .And (b :: rest) pos) tb) : PE X (.BoolOp .And (a :: b :: rest) pos) (tAndE X.K ta tb) := by
  refine ⟨fun pins s σ H Q I h => ?_⟩
  refine BoolOp_and (thn (ha.run pins s σ H _ I h) fun v s1 ⟨x, H1, I1, r1, q1⟩ => ?_)
  obtain ⟨k, e, q1⟩ := truP_e q1
  refine thn (tru_ok pins s1 σ H1 x v (fun c H2 => c = k ∧ H2 = H1) I1 r1 ⟨k, e, rfl, rfl⟩) fun c s2 hc => ?_
  obtain ⟨H2, I2, e1, e2⟩ := hc
  rw [e2] at I2
  rw [← e1] at q1
  have q1 := cnd_e q1
  cases c with
  | true => exact hb.run pins s2 σ H1 Q I2 q1
  | false => exact ⟨x, H1, I2, r1, q1⟩
theorem penot (ha : PE X a ta) : PE X (.UnaryOp .Not a pos) (tNotE X.K ta) := by
  refine ⟨fun pins s σ H Q I h => ?_⟩
  refine UnaryOp_ (thn (ha.run pins s σ H _ I h) fun v s1 ⟨x, H1, I1, r1, q1⟩ => ?_)
  obtain ⟨k, e, q1⟩ := truP_e q1
  exact not_of (thn (tru_ok pins s1 σ H1 x v (fun c H2 => Q (.bl (!c)) H2) I1 r1 ⟨k, e, q1⟩) fun c s2 ⟨H2, I2, q2⟩ => ⟨.bl (!c), H2, I2, rfl, q2⟩)
def tIfE (t : TT) (ta tb : TE) : TE := fun σ H Q => t σ H fun c H1 => cnd c (ta σ H1 Q) (tb σ H1 Q)
theorem peif (hc : PT X c tA) (ha : PE X a ta) (hb : PE X b tb) : PE X (.IfExp c a b pos) (tIfE tA ta tb) := by
  refine ⟨fun pins s σ H Q I h => ?_⟩
  refine wpAny_IfExp (thn (hc.run pins s σ H _ I h) fun d s1 ⟨H1, I1, q1⟩ => ?_)
  have q1 := cnd_e q1
  cases d with
  | true => exact ha.run pins s1 σ H1 Q I1 q1
  | false => exact hb.run pins s1 σ H1 Q I1 q1
/-- a op1 b op2 c -/
def tChn (r r' : R2) (ta tb tc : TE) : TE := fun σ H Q => ta σ H fun x H1 => tb σ H1 fun y H2 => r x y H2 fun z H3 => match z with
  | .bl k => cnd k (tc σ H3 fun w' H4 => r' y w' H4 Q) (Q (.bl false) H3)
  | _ => False
theorem pechn {op op' : CmpOp} {r r' : R2} (ho : OpR X (compareOp op) r) (ho' : OpR X (compareOp op') r') (ha : PE X a ta) (hb : PE X b tb) (hc : PE X c tc)
    (hm : lastMarks [op, op'] [b, c] = false := by with_unfolding_all rfl) : PE X (.Compare a [op, op'] [b, c] pos) (tChn r r' ta tb tc) := by
  refine ⟨fun pins s σ H Q I h => ?_⟩
  refine Compare_chain (thn (ha.run pins s σ H _ I h) fun v s1 ⟨x, H1, I1, r1, q1⟩ => chain_link (thn (hb.run pins s1 σ H1 _ I1 q1) fun u s2 ⟨y, H2, I2, r2, q2⟩ =>
    thn (ho pins s2 σ H2 x y v u _ I2 r1 r2 q2) fun d s3 ⟨z, H3, I3, r3, q3⟩ => ?_)) hm
  obtain ⟨k, rfl, q3⟩ := bl_of q3
  have q3 := cnd_e q3
  cases r3
  refine wpAny_truthy_bool ?_
  cases k with
  | false => exact ite_ff ⟨.bl false, H3, I3, rfl, q3⟩
  | true => exact ite_tt (chain_last (thn (hc.run pins s3 σ H3 _ I3 q3) fun w' s4 ⟨z', H4, I4, r4, q4⟩ => ho' pins s4 σ H4 y z' u w' Q I4 r2 r4 q4))
theorem ptchn {op op' : CmpOp} {r r' : R2} (ho : OpR X (compareOp op) r) (ho' : OpR X (compareOp op') r') (ha : PE X a ta) (hb : PE X b tb) (hc : PE X c tc)
    (hm : lastMarks [op, op'] [b, c] = false := by with_unfolding_all rfl) : PT X (.Compare a [op, op'] [b, c] pos) (tTst (tChn r r' ta tb tc)) := by
  refine ⟨fun pins s σ H Q I h => ?_⟩
  refine isTrue_chain (thn (ha.run pins s σ H _ I h) fun v s1 ⟨x, H1, I1, r1, q1⟩ => test_link (thn (hb.run pins s1 σ H1 _ I1 q1) fun u s2 ⟨y, H2, I2, r2, q2⟩ =>
    thn (ho pins s2 σ H2 x y v u _ I2 r1 r2 q2) fun d s3 ⟨z, H3, I3, r3, q3⟩ => ?_)) hm
  obtain ⟨k, rfl, q3⟩ := bl_of q3
  have q3 := cnd_e q3
  cases r3
  refine wpAny_truthy_bool ?_
  cases k with
  | false => exact ite_ff ⟨H3, I3, q3⟩
  | true =>
    refine ite_tt (test_last (thn (hc.run pins s3 σ H3 _ I3 q3) fun w' s4 ⟨z', H4, I4, r4, q4⟩ => thn (ho' pins s4 σ H4 y z' u w' _ I4 r2 r4 q4) fun d' s5 ⟨z2, H5, I5, r5, q5⟩ => ?_))
    obtain ⟨k2, rfl, q5⟩ := bl_of q5
    cases r5
    exact wpAny_truthy_bool ⟨H5, I5, q5⟩
end

/-! ### operators by value -/
section
variable {X : Cx}
def zAdd : R2 := fun x y H Q => match x with
  | .int i => (match y with
    | .int j => Q (.int (i + j)) H
    | _ => False)
  | .str a => (match y with
    | .str b => Lim ((tl a).length + (tl b).length) ∧ Q (.str (S (tl a ++ tl b))) H
    | _ => False)
  | .ref p => (match y with
    | .ref q => look H p fun o => match o with
      | some (.lst xs) => look H q fun o' => (match o' with
        | some (.lst ys) => Lim (xs.length + ys.length) ∧ ∀ r, H r = none → Q (.ref r) (upd H r (.lst (xs ++ ys)))
        | _ => False)
      | _ => False
    | _ => False)
  | _ => False
theorem opadd : OpR X (binaryOp .Add) zAdd := by
  intro pins s σ H x y v u Q I rx ry h
  cases x with
  | int i =>
    cases y with
    | int j => exact op_add pins s σ H _ _ v u Q I rx ry ⟨i, j, rfl, rfl, h⟩
    | _ => exact False.elim h
  | str i =>
    cases y with
    | str j => exact op_add_str pins s σ H _ _ v u Q I rx ry ⟨i, j, rfl, rfl, by rw [len_tl, len_tl]; exact h.1, by rw [add_S]; exact h.2⟩
    | _ => exact False.elim h
  | ref p =>
    cases y with
    | ref q =>
      have h := look_e h
      cases e : H p with
      | none => rw [e] at h; exact h.elim
      | some o =>
        rw [e] at h
        cases o with
        | lst xs =>
          have h := look_e h
          cases e' : H q with
          | none => rw [e'] at h; exact h.elim
          | some o' =>
            rw [e'] at h
            cases o' with
            | lst ys => exact op_cat pins s σ H _ _ v u Q I rx ry ⟨p, q, xs, ys, rfl, rfl, e, e', h.1, h.2⟩
            | _ => exact h.elim
        | _ => exact h.elim
    | _ => exact False.elim h
  | _ => exact False.elim h
def zI2 (C : Int → Int → Prop) (g : Int → Int → V) : R2 := fun x y H Q => match x with
  | .int i => (match y with
    | .int j => C i j ∧ Q (g i j) H
    | _ => False)
  | _ => False
def zI2f (g : Int → Int → V) : R2 := fun x y H Q => match x with
  | .int i => (match y with
    | .int j => Q (g i j) H
    | _ => False)
  | _ => False
theorem zI2_e {C : Int → Int → Prop} {g : Int → Int → V} {x y : V} {H : Hp} {Q : VK} (h : zI2 C g x y H Q) : rI C g x y H Q := by
  cases x with
  | int i => cases y with
    | int j => exact ⟨i, j, rfl, rfl, h.1, h.2⟩
    | _ => exact h.elim
  | _ => exact h.elim
theorem zI2f_e {g : Int → Int → V} {x y : V} {H : Hp} {Q : VK} (h : zI2f g x y H Q) : rI0 g x y H Q := by
  cases x with
  | int i => cases y with
    | int j => exact ⟨i, j, rfl, rfl, h⟩
    | _ => exact h.elim
  | _ => exact h.elim
def zSub : R2 := zI2f fun i j => .int (i - j)
def zMul : R2 := zI2 CMul fun i j => .int (i * j)
def zMod : R2 := zI2 (fun _ j => 0 < j) fun i j => .int (i % j)
def zDiv : R2 := zI2 CDiv fun i j => .int (i / j)
def zPow : R2 := zI2 CPow fun i j => .int (i ^ j.toNat)
theorem opsub : OpR X (binaryOp .Sub) zSub := op_imp op_sub fun _ _ _ _ h => zI2f_e h
theorem opmul : OpR X (binaryOp .Mult) zMul := op_imp op_mul fun _ _ _ _ h => zI2_e h
theorem opmod : OpR X (binaryOp .Mod) zMod := op_imp op_mod fun _ _ _ _ h => zI2_e h
theorem opdiv : OpR X (binaryOp .FloorDiv) zDiv := op_imp op_fdiv fun _ _ _ _ h => zI2_e h
theorem oppow : OpR X (binaryOp .Pow) zPow := op_imp op_pow fun _ _ _ _ h => zI2_e h
def zNeg : V → Hp → VK → Prop := fun x H Q => match x with
  | .int i => Q (.int (-i)) H
  | _ => False
theorem unneg : UnR X (unaryOp .USub) zNeg := fun pins s σ H x v Q I rx h => by
  cases x with
  | int i => exact un_neg pins s σ H _ v Q I rx ⟨i, rfl, h⟩
  | _ => exact h.elim
/-! comparisons -/
def zLt : R2 := fun x y H Q => match x with
  | .int i => (match y with
    | .int j => Q (.bl (decide (i < j))) H
    | _ => False)
  | .str a => (match y with
    | .str b => Q (.bl (decide (tl a < tl b))) H
    | _ => False)
  | _ => False
theorem oplt : OpR X (compareOp .Lt) zLt := by
  intro pins s σ H x y v u Q I rx ry h
  cases x with
  | int i => cases y with
    | int j => exact op_lt pins s σ H _ _ v u Q I rx ry ⟨i, j, rfl, rfl, h⟩
    | _ => exact False.elim h
  | str i => cases y with
    | str j => exact op_lt_str pins s σ H _ _ v u Q I rx ry ⟨i, j, rfl, rfl, h⟩
    | _ => exact False.elim h
  | _ => exact False.elim h
def zLe : R2 := zI2f fun i j => .bl (decide (i ≤ j))
def zGt : R2 := zI2f fun i j => .bl (decide (j < i))
def zGe : R2 := zI2f fun i j => .bl (decide (j ≤ i))
theorem ople : OpR X (compareOp .LtE) zLe := op_imp op_le fun _ _ _ _ h => zI2f_e h
theorem opgt : OpR X (compareOp .Gt) zGt := op_imp op_gt fun _ _ _ _ h => zI2f_e h
theorem opge : OpR X (compareOp .GtE) zGe := op_imp op_ge fun _ _ _ _ h => zI2f_e h
/-- == of data at addresses -/
structure dpq (K : PySem.W.Frag) (x y : V) (H : Hp) (Q : Bool → Prop) : Prop where
  out : ∃ d e, Dp K H x d ∧ Dp K H y e ∧ SeqAt.shaped d = true ∧ SeqAt.shaped e = true ∧ Q (PyData.eqv d e)
theorem dpq_i {K : PySem.W.Frag} {x y : V} {H : Hp} {Q : Bool → Prop} {d e : PyData} (h1 : Dp K H x d) (h2 : Dp K H y e) (h3 : SeqAt.shaped d = true) (h4 : SeqAt.shaped e = true) (q : Q (PyData.eqv d e)) : dpq K x y H Q := by refine ⟨?_⟩; exact ⟨d, e, h1, h2, h3, h4, q⟩
theorem dpq_e {K : PySem.W.Frag} {x y : V} {H : Hp} {Q : Bool → Prop} (h : dpq K x y H Q) : ∃ d e, Dp K H x d ∧ Dp K H y e ∧ SeqAt.shaped d = true ∧ SeqAt.shaped e = true ∧ Q (PyData.eqv d e) := by replace h := h.out; exact h
/-- what == tells of two values; data at addresses by Dp -/
def eqP (K : PySem.W.Frag) (x y : V) (H : Hp) (Q : Bool → Prop) : Prop := match x with
  | .int i => (match y with
    | .int j => Q (decide (i = j))
    | .non => Q false
    | .str _ => Q false
    | _ => False)
  | .str a => (match y with
    | .str b => Q (decide (tl a = tl b))
    | .non => Q false
    | .int _ => Q false
    | .bl _ => Q false
    | _ => False)
  | .bl a => (match y with
    | .bl b => Q (decide (a = b))
    | .non => Q false
    | .str _ => Q false
    | _ => False)
  | .non => (match y with
    | .non => Q true
    | .int _ => Q false
    | .bl _ => Q false
    | .str _ => Q false
    | _ => False)
  | .ref p => dpq K x y H Q
  | _ => False
theorem eqP_e {K : PySem.W.Frag} {x y : V} {H : Hp} {Q : Bool → Prop} (h : eqP K x y H Q) : (scal x y = true ∧ Q (decide (x = y))) ∨ ∃ d e, Dp K H x d ∧ Dp K H y e ∧ SeqAt.shaped d = true ∧ SeqAt.shaped e = true ∧ Q (PyData.eqv d e) := by
  cases x with
  | int i => cases y with
    | int j => exact .inl ⟨rfl, by simp; exact h⟩
    | non => exact .inl ⟨rfl, by simp; exact h⟩
    | str j => exact .inl ⟨rfl, by simp; exact h⟩
    | _ => exact h.elim
  | str i => cases y with
    | str j =>
      refine .inl ⟨rfl, ?_⟩
      have e : decide (V.str i = V.str j) = decide (tl i = tl j) := decide_eq_decide.mpr ⟨fun z => by injection z with z; rw [z], fun z => by rw [ext_tl z]⟩
      rw [e]; exact h
    | non => exact .inl ⟨rfl, by simp; exact h⟩
    | int j => exact .inl ⟨rfl, by simp; exact h⟩
    | bl j => exact .inl ⟨rfl, by simp; exact h⟩
    | _ => exact h.elim
  | bl i => cases y with
    | bl j => exact .inl ⟨rfl, by simp; exact h⟩
    | non => exact .inl ⟨rfl, by simp; exact h⟩
    | str j => exact .inl ⟨rfl, by simp; exact h⟩
    | _ => exact h.elim
  | non => cases y with
    | non => exact .inl ⟨rfl, by simp; exact h⟩
    | int j => exact .inl ⟨rfl, by simp; exact h⟩
    | bl j => exact .inl ⟨rfl, by simp; exact h⟩
    | str j => exact .inl ⟨rfl, by simp; exact h⟩
    | _ => exact h.elim
  | ref p => exact .inr (dpq_e h)
  | _ => exact h.elim
def zEqP (K : PySem.W.Frag) : R2 := fun x y H Q => eqP K x y H fun k => Q (.bl k) H
def zNeP (K : PySem.W.Frag) : R2 := fun x y H Q => eqP K x y H fun k => Q (.bl (!k)) H
theorem opeq (hu : X.A.units + 64 < cLine) : OpR X (compareOp .Eq) (zEqP X.K) := fun pins s σ H x y v u Q I rx ry h => by
  rcases eqP_e h with h | h
  · exact op_eq pins s σ H x y v u Q I rx ry h
  · exact op_eqD hu pins s σ H x y v u Q I rx ry h
theorem opne (hu : X.A.units + 64 < cLine) : OpR X (compareOp .NotEq) (zNeP X.K) := fun pins s σ H x y v u Q I rx ry h => by
  rcases eqP_e (Q := fun k => Q (.bl (!k)) H) h with h | h
  · exact op_ne pins s σ H x y v u Q I rx ry h
  · exact op_neD hu pins s σ H x y v u Q I rx ry h
/-- x is None -/
def zIsP : R2 := fun x y H Q => match y with
  | .non => Q (.bl (decide (x = .non))) H
  | _ => False
def zIsnP : R2 := fun x y H Q => match y with
  | .non => Q (.bl (!decide (x = .non))) H
  | _ => False
theorem opis : OpR X (compareOp .Is) zIsP := op_imp op_isN fun x y H Q h => by
  cases y with
  | non => exact ⟨rfl, h⟩
  | _ => exact h.elim
theorem opisn : OpR X (compareOp .IsNot) zIsnP := op_imp op_notN fun x y H Q h => by
  cases y with
  | non => exact ⟨rfl, h⟩
  | _ => exact h.elim
end
end Ta

set_option Elab.async false
set_option linter.all false
set_option maxRecDepth 100000
set_option maxHeartbeats 1000000
namespace Ta
open PySem PySem.Spec PyProof.Rows L2

/-! ### items -/
structure itm {α : Type} (xs : List α) (i : Int) (k : α → Prop) : Prop where
  out : ∃ v, atI xs i = some v ∧ k v
theorem itm_i {α : Type} {xs : List α} {i : Int} {k : α → Prop} {v : α} (h : atI xs i = some v) (q : k v) : itm xs i k := by refine ⟨?_⟩; exact ⟨v, h, q⟩
theorem itm_e {α : Type} {xs : List α} {i : Int} {k : α → Prop} (q : itm xs i k) : ∃ v, atI xs i = some v ∧ k v := by replace q := q.out; exact q
theorem itm_n {α : Type} {xs : List α} {i : Int} {j : Nat} {k : α → Prop} {v : α} (e : i = (j : Int)) (h : xs[j]? = some v) (q : k v) : itm xs i k := by
  subst e; exact itm_i (atI_nat h) q
section
variable {X : Cx}
def zIxP (K : PySem.W.Frag) : R2 := fun x y H Q => match y with
  | .int i => (match x with
    | .str z => Lim (tl z).length ∧ itm (tl z) i fun c => Q (.str (S [c])) H
    | .ref p => look H p fun o => match o with
      | some (.lst xs) => itm xs i fun v => Q v H
      | some (.tup xs) => itm xs i fun v => Q v H
      | some (.frz _ (.lst xs)) => itm xs i fun v => Q v H
      | _ => ∃ xs, (SqL K H p xs ∨ SqT K H p xs) ∧ itm xs i fun v => Q v H
    | _ => False)
  | _ => False
theorem ixp : IxR X (zIxP X.K) := by
  refine ix_imp ix_seq fun x y H Q h => ?_
  cases y with
  | int i =>
    cases x with
    | str z =>
      obtain ⟨h1, h2⟩ := h
      obtain ⟨c, e, q⟩ := itm_e h2
      exact .inr (.inr ⟨z, i, c, rfl, rfl, by rw [len_tl]; exact h1, e, q⟩)
    | ref p =>
      have h := look_e h
      have fin : ∀ xs, SqL X.K H p xs ∨ SqT X.K H p xs → (itm xs i fun v => Q v H) → rIx X.K (.ref p) (.int i) H Q := fun xs hs h2 => by
        obtain ⟨v, e, q⟩ := itm_e h2
        rcases hs with hs | hs
        · exact .inl ⟨p, xs, i, v, rfl, rfl, hs, e, q⟩
        · exact .inr (.inl ⟨p, xs, i, v, rfl, rfl, hs, e, q⟩)
      revert h
      cases e : H p with
      | none => exact fun ⟨xs, h1, h2⟩ => fin xs h1 h2
      | some o =>
        cases o with
        | lst xs => exact fun h2 => fin xs (.inl (SqL.of e)) h2
        | tup xs => exact fun h2 => fin xs (.inr (SqT.of e)) h2
        | frz ob u =>
          cases u with
          | lst xs => exact fun h2 => fin xs (.inl (.inl (.inr ⟨_, e⟩))) h2
          | _ => exact fun ⟨xs, h1, h2⟩ => fin xs h1 h2
        | _ => exact fun ⟨xs, h1, h2⟩ => fin xs h1 h2
    | _ => exact h.elim
  | _ => exact h.elim
variable {a b c : Expr} {ta tb tc : TE} {pos : Pos}
theorem pix (ha : PE X a ta) (hb : PE X b tb) (hs : PlainIx b := by exact fun _ _ => rfl) : PE X (.Subscript a b pos) (tOp (zIxP X.K) ta tb) := pe_ix ixp ha hb hs

/-! ### slices -/
def cut0 {α : Type} (xs : List α) (lo hi : Option Int) : List α := (xs.drop (HT.sIx xs.length 0 lo)).take (HT.sIx xs.length xs.length hi - HT.sIx xs.length 0 lo)
def ixS (n : Nat) (i : Int) : Nat := match i with
  | .ofNat k => k
  | .negSucc k => n - (k + 1)
/-- xs[lo:hi], as take and drop -/
def cut {α : Type} (xs : List α) (lo hi : Option Int) : List α := match hi with
  | none => (match lo with
    | none => xs
    | some i => xs.drop (ixS xs.length i))
  | some j => (match lo with
    | none => xs.take (ixS xs.length j)
    | some i => (xs.take (ixS xs.length j)).drop (ixS xs.length i))
theorem sIx_ixS (n d : Nat) (i : Int) : HT.sIx n d (some i) = min (ixS n i) n := by
  cases i with
  | ofNat k => exact HT.sIx_nat n d k
  | negSucc k =>
    show (if (Int.negSucc k) < 0 then (Int.negSucc k + (n : Int)).toNat else min (Int.negSucc k).toNat n) = min (n - (k + 1)) n
    rw [if_pos (by omega)]; omega
theorem take_min {α : Type} (xs : List α) (k : Nat) : xs.take (min k xs.length) = xs.take k := by
  rw [List.take_eq_take_iff]; omega
theorem drop_min {α : Type} (xs : List α) (k : Nat) : xs.drop (min k xs.length) = xs.drop k := by
  by_cases h : k ≤ xs.length
  · rw [Nat.min_eq_left h]
  · rw [Nat.min_eq_right (by omega), List.drop_eq_nil_of_le (Nat.le_refl _), List.drop_eq_nil_of_le (by omega)]
theorem cut_eq0 {α : Type} (xs : List α) (lo hi : Option Int) : cut0 xs lo hi = cut xs lo hi := by
  unfold cut0
  rw [← List.drop_take]
  cases hi with
  | none =>
    cases lo with
    | none => rw [HT.sIx_none, HT.sIx_none, List.take_length]; rfl
    | some i => rw [HT.sIx_none, sIx_ixS, List.take_length]; exact drop_min xs _
  | some j =>
    rw [sIx_ixS, take_min]
    cases lo with
    | none => rfl
    | some i =>
      rw [sIx_ixS]
      show (xs.take (ixS xs.length j)).drop (min (ixS xs.length i) xs.length) = (xs.take (ixS xs.length j)).drop (ixS xs.length i)
      by_cases h : ixS xs.length i ≤ xs.length
      · rw [Nat.min_eq_left h]
      · rw [Nat.min_eq_right (by omega), List.drop_eq_nil_of_le (by rw [List.length_take]; omega), List.drop_eq_nil_of_le (by rw [List.length_take]; omega)]
theorem cutS_S (z : Str) (lo hi : Option Int) : cutS z lo hi = S (cut (tl z) lo hi) := by
  rw [← cut_eq0]
  unfold cutS cut0
  simp only [len_tl]
theorem cut_len {α : Type} (xs : List α) (lo hi : Option Int) : (cut xs lo hi).length ≤ xs.length := by
  rw [← cut_eq0]; unfold cut0; rw [List.length_take, List.length_drop]; omega
theorem cut_to {α : Type} (xs : List α) (k : Nat) : cut xs none (some (k : Int)) = xs.take k := rfl
theorem cut_from {α : Type} (xs : List α) (k : Nat) : cut xs (some (k : Int)) none = xs.drop k := rfl
theorem cut_both {α : Type} (xs : List α) (i j : Nat) : cut xs (some (i : Int)) (some (j : Int)) = (xs.take j).drop i := rfl
theorem cut_toI {α : Type} (xs : List α) {k : Int} (h : 0 ≤ k) : cut xs none (some k) = xs.take k.toNat := by
  obtain ⟨n, rfl⟩ := Int.eq_ofNat_of_zero_le h; exact cut_to xs n
theorem cut_fromI {α : Type} (xs : List α) {k : Int} (h : 0 ≤ k) : cut xs (some k) none = xs.drop k.toNat := by
  obtain ⟨n, rfl⟩ := Int.eq_ofNat_of_zero_le h; exact cut_from xs n
def zSlP (K : PySem.W.Frag) : V → Option Int → Option Int → Hp → VK → Prop := fun x lo hi H Q => match x with
  | .str z => Lim (tl z).length ∧ Q (.str (S (cut (tl z) lo hi))) H
  | .ref p => look H p fun o => match o with
    | some (.lst xs) => ∀ p', H p' = none → Q (.ref p') (upd H p' (.lst (cut xs lo hi)))
    | some (.frz _ (.lst xs)) => ∀ p', H p' = none → Q (.ref p') (upd H p' (.lst (cut xs lo hi)))
    | _ => False
  | _ => False
theorem slp : SlR X (zSlP X.K) := by
  refine sl_imp (sl_str.or sl_list) fun x lo hi H Q h => ?_
  cases x with
  | str z => exact .inl ⟨z, rfl, by rw [len_tl]; exact h.1, by rw [cutS_S]; exact h.2⟩
  | ref p =>
    have h := look_e h
    revert h
    cases e : H p with
    | none => exact fun h => h.elim
    | some o =>
      cases o with
      | lst xs => exact fun h2 => .inr ⟨p, xs, rfl, SqL.of e, (cut_eq0 xs lo hi ▸ h2 : ∀ p', H p' = none → Q (V.ref p') (upd H p' (HO.lst (cut0 xs lo hi))))⟩
      | frz ob u =>
        cases u with
        | lst xs => exact fun h2 => .inr ⟨p, xs, rfl, .inl (.inr ⟨_, e⟩), (cut_eq0 xs lo hi ▸ h2 : ∀ p', H p' = none → Q (V.ref p') (upd H p' (HO.lst (cut0 xs lo hi))))⟩
        | _ => exact fun h => h.elim
      | _ => exact fun h => h.elim
  | _ => exact h.elim
def tPrt (t : TE) : TO := fun σ H Q => t σ H fun x H1 => match x with
  | .int i => Q (some i) H1
  | _ => False
theorem posome (h : PE X a ta) : PO X (some a) (tPrt ta) := by
  refine ⟨fun pins s σ H Q I hw => ?_⟩
  rw [evalPart_some]
  refine thn (h.run pins s σ H _ I hw) fun u s1 ⟨x, H1, I1, r1, q1⟩ => ?_
  cases x with
  | int i =>
    obtain ⟨t, rfl⟩ := r1
    exact ⟨some i, H1, I1, .int i t, q1⟩
  | _ => exact False.elim q1
theorem psl {lo hi : Option Expr} {t1 t2 : TO} {p2 : Pos} (ha : PE X a ta) (hl : PO X lo t1) (hh : PO X hi t2) : PE X (.Subscript a (.Slice lo hi none p2) pos) (tSl (zSlP X.K) ta t1 t2) := pe_slice slp ha hl hh

/-! ### in -/
def occ (a b : List Nat) : Bool := !(Builtin.Str.occurrences (S b) (S a) 0 (S b).length 1).isEmpty
def inP (K : PySem.W.Frag) (x y : V) (H : Hp) (Q : Bool → Prop) : Prop := match y with
  | .str b => (match x with
    | .str a => (match tl a with
      | [c] => Q (decide (c ∈ tl b))
      | l => Q (occ l (tl b)))
    | _ => False)
  | .ref p => look H p fun o => match o with
    | some (.lst xs) => flatV x = true ∧ xs.all flatV = true ∧ Q (inV x xs)
    | some (.tup xs) => flatV x = true ∧ xs.all flatV = true ∧ Q (inV x xs)
    | some (.frz _ (.lst xs)) => flatV x = true ∧ xs.all flatV = true ∧ Q (inV x xs)
    | _ => ∃ xs, (SqL K H p xs ∨ SqT K H p xs) ∧ flatV x = true ∧ xs.all flatV = true ∧ Q (inV x xs)
  | _ => False
theorem inP_e {K : PySem.W.Frag} {x y : V} {H : Hp} {Q : Bool → Prop} (h : inP K x y H Q) :
    (∃ (c : Nat) (z : Str), x = .str ⟨#[c]⟩ ∧ y = .str z ∧ Q (decide (c ∈ z.cps.toList))) ∨ (∃ i j, x = .str i ∧ y = .str j ∧ Q (!(Builtin.Str.occurrences j i 0 j.length 1).isEmpty)) ∨
    ∃ p xs, y = .ref p ∧ (SqL K H p xs ∨ SqT K H p xs) ∧ flatV x = true ∧ xs.all flatV = true ∧ Q (inV x xs) := by
  cases y with
  | str b =>
    cases x with
    | str a =>
      have h' : (match tl a with
        | [c] => Q (decide (c ∈ tl b))
        | l => Q (occ l (tl b))) := h
      split at h'
      · rename_i c e
        exact .inl ⟨c, b, by rw [← S_tl a, e], rfl, h'⟩
      · refine .inr (.inl ⟨a, b, rfl, rfl, ?_⟩)
        unfold occ at h'
        rw [S_tl, S_tl] at h'
        exact h'
    | _ => exact h.elim
  | ref p =>
    have h := look_e h
    revert h
    cases e : H p with
    | none => exact fun ⟨xs, h1, h2⟩ => .inr (.inr ⟨p, xs, rfl, h1, h2⟩)
    | some o =>
      cases o with
      | lst xs => exact fun h2 => .inr (.inr ⟨p, xs, rfl, .inl (SqL.of e), h2⟩)
      | tup xs => exact fun h2 => .inr (.inr ⟨p, xs, rfl, .inr (SqT.of e), h2⟩)
      | frz ob u =>
        cases u with
        | lst xs => exact fun h2 => .inr (.inr ⟨p, xs, rfl, .inl (.inl (.inr ⟨_, e⟩)), h2⟩)
        | _ => exact fun ⟨xs, h1, h2⟩ => .inr (.inr ⟨p, xs, rfl, h1, h2⟩)
      | _ => exact fun ⟨xs, h1, h2⟩ => .inr (.inr ⟨p, xs, rfl, h1, h2⟩)
  | _ => exact h.elim
def zInP (K : PySem.W.Frag) : R2 := fun x y H Q => inP K x y H fun k => Q (.bl k) H
def zNinP (K : PySem.W.Frag) : R2 := fun x y H Q => inP K x y H fun k => Q (.bl (!k)) H
theorem opin : OpR X (compareOp .In) (zInP X.K) := by
  refine op_imp (op_in_sign.or (op_in_str.or op_in_seq)) fun x y H Q h => ?_
  rcases inP_e h with h | h | h
  · exact .inl h
  · exact .inr (.inl h)
  · exact .inr (.inr h)
theorem opnin : OpR X (compareOp .NotIn) (zNinP X.K) := by
  refine op_imp (op_notIn_sign.or (op_notin_str.or op_notIn_seq)) fun x y H Q h => ?_
  rcases inP_e (Q := fun k => Q (.bl (!k)) H) h with h | h | h
  · exact .inl h
  · exact .inr (.inl h)
  · exact .inr (.inr h)

/-! ### statements -/
variable {st : Stmt} {t u : TS} {rest : List Stmt} {tA : TT}
def tIfP (c : TT) (t u : TS) : TS := fun D σ H => c σ H fun b H1 => cnd b (t D σ H1) (u D σ H1)
theorem psif {p q : List Stmt} (hc : PT X c tA) (ha : PSs X p t) (hb : PSs X q u) : PS X (.If c p q pos) (tIfP tA t u) := by
  refine ⟨fun pins s σ H D I h => ?_⟩
  refine wpAny_If (thn (hc.run pins s σ H _ I h) fun d s1 ⟨H1, I1, q1⟩ => ?_)
  have q1 := cnd_e q1
  cases d with
  | true => exact ha.run pins s1 σ H1 D I1 q1
  | false => exact hb.run pins s1 σ H1 D I1 q1
/-- o[i] = e, o a list -/
def zSetP : TSet := fun o i v H Q => match o with
  | .ref p => (match i with
    | .int k => look H p fun ob => (match ob with
      | some (.lst xs) => ∃ j, ixN xs.length k = some j ∧ Q (upd H p (.lst (xs.set j v)))
      | _ => False)
    | _ => False)
  | _ => False
theorem setp : PSet X zSetP := by
  have base : ∀ o i v H Q, zSetP o i v H Q → rSetL o i v H Q := fun o i v H Q h => by
    cases o with
    | ref p => cases i with
      | int k =>
        have h := look_e h
        revert h
        cases e : H p with
        | none => exact fun h => h.elim
        | some ob =>
          cases ob with
          | lst xs => exact fun ⟨j, h1, h2⟩ => ⟨p, xs, k, j, rfl, rfl, e, h1, h2⟩
          | _ => exact fun h => h.elim
      | _ => exact h.elim
    | _ => exact h.elim
  intro pins s σ H o i v ov iv vv Q I r1 r2 r3 h
  exact set_list pins s σ H o i v ov iv vv Q I r1 r2 r3 (base _ _ _ _ _ h)
end
end Ta

set_option Elab.async false
set_option linter.all false
set_option maxRecDepth 100000
set_option maxHeartbeats 1000000
namespace Ta
open PySem PySem.Spec PyProof.Rows L2

/-! ### defs, methods, classes of the text -/
section
variable (P : Program) (w : World) (K : PySem.W.Frag) (mg : Str → Option Value) (base : Heap)
structure Fn (x : Str) (lv : Nat) (dvs : List V) (sp : Sp) : Prop where
  ex : ∃ (f : Addr) (fd : FuncData) (ps : List Str) (ds : List Value), FnOk P w K mg base (L2.CX P w) lv f fd ps sp ∧ mg x = some (.ref f) ∧ PySem.W.keepIn K (.ref f) = true ∧ Vals dvs ds ∧ Binds K fd ps ds
structure Me (C : Addr) (m : Str) (lv : Nat) (dvs : List V) (sp : Sp) : Prop where
  ex : ∃ (f : Addr) (fd : FuncData) (ps : List Str) (ds : List Value), FnOk P w K mg base (L2.CX P w) lv f fd ps sp ∧ Meth K C m f ∧ Vals dvs ds ∧ Binds K fd ps ds
  cl : Cls K C
structure Mks (x : Str) (C : Addr) (lv : Nat) (dvs : List V) (sp : Sp) : Prop where
  ex : ∃ (f : Addr) (fd : FuncData) (ps : List Str) (ds : List Value), FnOk P w K mg base (L2.CX P w) lv f fd ps sp ∧ Mk K C f ∧ mg x = some (.ref C) ∧ Vals dvs ds ∧ Binds K fd ps ds
end
abbrev WF : WX := fun _ _ _ _ => False
/-- f(..) -/
def tCal (sp : Sp) (dvs : List V) (W : WX) (t : TA) : TE := fun σ H Q => t σ H fun vs H1 => sp (vs ++ dvs) H1 Q fun c d H' => W c d σ H'
/-- C(..) -/
def tMak (C : Addr) (sp : Sp) (dvs : List V) (W : WX) (t : TA) : TE := fun σ H Q => t σ H fun vs H1 => ∀ x dx, H1 x = none → H1 dx = none → dx ≠ x →
  sp (.ref x :: (vs ++ dvs)) (upd (upd H1 dx (.own x)) x (.ins C dx [])) (fun v H2 => v = .non ∧ Q (.ref x) H2) fun c d H' => W c d σ H'
abbrev MS := List (Addr × List V × Sp)
structure pick (ms : MS) (C : Addr) (k : List V → Sp → Prop) : Prop where
  out : ∃ e ∈ ms, e.1 = C ∧ k e.2.1 e.2.2
theorem pick_1 {C : Addr} {dvs : List V} {sp : Sp} {k : List V → Sp → Prop} {r : MS} (h : k dvs sp) : pick ((C, dvs, sp) :: r) C k := by refine ⟨?_⟩; exact ⟨_, List.mem_cons_self, rfl, h⟩
theorem pick_n {ms : MS} {C : Addr} {k : List V → Sp → Prop} {e} (h : pick ms C k) : pick (e :: ms) C k := by
  replace h := h.out; refine ⟨?_⟩
  obtain ⟨e', h1, h2⟩ := h
  exact ⟨e', List.mem_cons_of_mem _ h1, h2⟩
/-- o.m(..) -/
def tMe (ms : MS) (m : Str) (W : WX) (ta : TE) (t : TA) : TE := fun σ H Q => ta σ H fun x H1 => match x with
  | .ref a => look H1 a fun o => (match o with
    | some (.ins C dx fs) => pick ms C fun dvs sp => fs.lookup m = none ∧ t σ H1 fun vs H2 => sp (.ref a :: (vs ++ dvs)) H2 Q fun c d H' => W c d σ H'
    | _ => False)
  | _ => False
section
variable {X : Cx} {x m : Str} {p pos apos : Pos} {e o : Expr} {es : List Expr} {ta : TE} {t : TA} {lv : Nat} {dvs : List V} {sp : Sp} {W : WX} {C : Addr}
theorem pcall (F : Fn X.prog X.w X.K X.mg X.base x lv dvs sp) (hr : Room lv X.A) (tk : Takes X W) (ha : PA X (e :: es) t) (hg : Gl X x := by rfl) (hdb : (x == ("__debug__" : Str)) = false := by decide +kernel)
    (he : starEach (e :: es) X.env = (false, eval e X.env) :: starEach es X.env := by rfl) (hpl : (backTo pos (starEach es X.env)).any (·.1) = false := by rfl) :
    PE X (.Call (.Name x p) (e :: es) [] pos) (tCal sp dvs W t) := by
  obtain ⟨f, fd, ps, ds, F, hm, hk, hd, hb⟩ := F.ex
  refine ⟨fun pins s σ H Q I h => ?_⟩
  refine wpAny_Call_Name_kw (ld_glob I hg hm ?_ hdb)
  refine PySem.W.callWith_K (h₀ := X.base) I.ok.mod.kin hk (thn (ha.run pos pins s σ H _ I h) fun us s1 ⟨vs, H1, I1, r, q⟩ => ⟨I1.kIn, ?_⟩) he hpl
  exact run_fnSD (E := WE W) F hr hb hd (passAt tk σ) I1 r q
theorem pcall0 (F : Fn X.prog X.w X.K X.mg X.base x lv dvs sp) (hr : Room lv X.A) (tk : Takes X W) (hg : Gl X x := by rfl) (hdb : (x == ("__debug__" : Str)) = false := by decide +kernel) :
    PE X (.Call (.Name x p) [] [] pos) (tCal sp dvs W tNil) := by
  obtain ⟨f, fd, ps, ds, F, hm, hk, hd, hb⟩ := F.ex
  refine ⟨fun pins s σ H Q I h => ?_⟩
  refine wpAny_Call_Name_kw (ld_glob I hg hm ?_ hdb)
  exact PySem.W.callWith_K0 I.kIn hk (run_fnSD (E := WE W) (us := []) F hr hb hd (passAt tk σ) I .nil h)
theorem run_makeS {pins : List (Addr × Obj)} {σ : St} {H : Hp} {s : Shared} {Q : VK} {us ds : List Value} {vs : List V} {f : Addr} {fd : FuncData} {ps : List Str} (M : Mk X.K C f) (F : FnOk X.prog X.w X.K X.mg X.base (L2.CX X.prog X.w) lv f fd ps sp) (hr : Room (lv + 1) X.A)
    (hb : Binds X.K fd ps ds) (hd : Vals dvs ds) (tk : Takes X W) (I : Inv X pins σ H s) (r : Vals vs us)
    (h : ∀ x dx, H x = none → H dx = none → dx ≠ x → sp (.ref x :: (vs ++ dvs)) (upd (upd H dx (.own x)) x (.ins C dx [])) (fun v H2 => v = .non ∧ Q (.ref x) H2) fun c d H' => W c d σ H') :
    wpAny (model X.prog X.w) X.A (call (.ref C) us) (EP X pins σ Q) X.xe s := by
  have hq := h (s.heap.objs.size + 1) s.heap.objs.size (I.hok.fresh (Nat.le_succ _)) (I.hok.fresh (Nat.le_refl _)) (Nat.ne_of_lt (Nat.lt_succ_self _))
  have I2 := Inv.made (C := C) I
  have r2 : Vals (V.ref (s.heap.objs.size + 1) :: (vs ++ dvs)) (Value.ref (s.heap.objs.size + 1) :: (us ++ ds)) := .cons rfl (r.append hd)
  have hl : (Value.ref (s.heap.objs.size + 1) :: us ++ ds).length = ps.length := by
    have e := r2.length
    rw [F.len _ _ _ _ hq] at e
    exact e.symm
  refine wpAny_call (make_map (f := f) I.kIn M.makes M.init (beq_iff_eq.mp M.fn) (codeAny_mono (F.run _ X.stack _ _ ⟨Value.ref (s.heap.objs.size + 1) :: us, []⟩ (Value.ref (s.heap.objs.size + 1) :: (us ++ ds)) _ _ (WE W σ) (hr.make C us [])
    (I2.env0.make C us []) (hb _ (Value.ref (s.heap.objs.size + 1) :: us) I2.kIn hl) r2 hq) fun r s' hq' => ?_))
  cases r with
  | error e => exact passAt tk σ pins _ _ e s' I2 hq'
  | ok fl =>
    cases fl with
    | ret u =>
      obtain ⟨v, H', I3, rv, ev, q3⟩ := I2.after hq'
      subst ev
      exact ⟨rv, ⟨V.ref (s.heap.objs.size + 1), H', I3, rfl, q3⟩⟩
    | next => exact False.elim hq'
    | brk => exact False.elim hq'
    | cont => exact False.elim hq'
theorem pmak (F : Mks X.prog X.w X.K X.mg X.base x C lv dvs sp) (hr : Room (lv + 1) X.A) (tk : Takes X W) (ha : PA X (e :: es) t) (hg : Gl X x := by rfl) (hdb : (x == ("__debug__" : Str)) = false := by decide +kernel)
    (he : starEach (e :: es) X.env = (false, eval e X.env) :: starEach es X.env := by rfl) (hpl : (backTo pos (starEach es X.env)).any (·.1) = false := by rfl) :
    PE X (.Call (.Name x p) (e :: es) [] pos) (tMak C sp dvs W t) := by
  obtain ⟨f, fd, ps, ds, F, M, hm, hd, hb⟩ := F.ex
  refine ⟨fun pins s σ H Q I h => ?_⟩
  refine wpAny_Call_Name_kw (ld_glob I hg hm ?_ hdb)
  refine PySem.W.callWith_K (h₀ := X.base) I.ok.mod.kin M.kp (thn (ha.run pos pins s σ H _ I h) fun us s1 ⟨vs, H1, I1, r, q⟩ => ⟨I1.kIn, ?_⟩) he hpl
  exact run_makeS M F hr hb hd tk I1 r q
theorem tMe_e {ms : MS} {a : Addr} {H : Hp} {k : List V → Sp → List (Str × V) → Prop} (h : look H a fun o => (match o with
    | some (.ins C dx fs) => pick ms C fun dvs sp => k dvs sp fs
    | _ => False)) : ∃ C dx fs, H a = some (.ins C dx fs) ∧ ∃ e ∈ ms, e.1 = C ∧ k e.2.1 e.2.2 fs := by
  have h := look_e h
  revert h
  cases e : H a with
  | none => exact fun h => h.elim
  | some o =>
    cases o with
    | ins C dx fs => exact fun h => ⟨C, dx, fs, rfl, by replace h := h.out; exact h⟩
    | _ => exact fun h => h.elim
theorem pmeth {ms : MS} {pl : Sem Bool} (hms : ∀ e ∈ ms, Me X.prog X.w X.K X.mg X.base e.1 m lv e.2.1 e.2.2) (hr : Room lv X.A) (tk : Takes X W) (ho : PE X o ta) (ha : PA X (e :: es) t)
    (hst : starEach (e :: es) X.env = (false, eval e X.env) :: starEach es X.env := by rfl) (hpl : (backTo pos (starEach es X.env)).any (·.1) = false := by rfl)
    (ht : eval (.Call (.Attribute o m apos) (e :: es) [] pos) X.env = (do
      let ov ← eval o X.env
      standAt apos.atName
      let (f, first) ← holding [ov] (getMethod ov m pl)
      callWith pos f first (backTo pos (starEach (e :: es) X.env)) (backToKw pos (keywordEach [] X.env))) := by rfl) :
    PE X (.Call (.Attribute o m apos) (e :: es) [] pos) (tMe ms m W ta t) := by
  refine ⟨fun pins s σ H Q I h => ?_⟩
  refine PySem.W.methodCall_KW (pl := pl) (thn (ho.run pins s σ H _ I h) fun u s1 ⟨x, H1, I1, rx, q⟩ => ?_) ht
  cases x with
  | ref a =>
    obtain rfl : u = Value.ref a := rx
    obtain ⟨C, dx, fs, ea, en, hen, eC, l, q⟩ := tMe_e (k := fun dvs sp fs => fs.lookup m = none ∧ t σ H1 fun vs H2 => sp (.ref a :: (vs ++ dvs)) H2 Q fun c d H' => W c d σ H') q
    obtain ⟨⟨f, fd, ps, ds, F, hm, hd, hb⟩, cl⟩ := hms en hen
    rw [← eC] at ea
    refine getmeth_ok I1 ea cl hm l ?_
    refine PySem.W.callWith_K (first := [.ref a]) (h₀ := X.base) I.ok.mod.kin hm.kp (thn (ha.run pos pins s1 σ H1 _ I1 q) fun us s2 ⟨vs, H2, I2, r, q2⟩ => ⟨I2.kIn, ?_⟩) hst hpl
    exact run_fnSD (E := WE W) (us := .ref a :: us) (vs := .ref a :: vs) F hr hb hd (passAt tk σ) I2 (.cons rfl r) q2
  | _ => exact False.elim q
theorem pmeth0 {ms : MS} {pl : Sem Bool} (hms : ∀ e ∈ ms, Me X.prog X.w X.K X.mg X.base e.1 m lv e.2.1 e.2.2) (hr : Room lv X.A) (tk : Takes X W) (ho : PE X o ta)
    (ht : eval (.Call (.Attribute o m apos) [] [] pos) X.env = (do
      let ov ← eval o X.env
      standAt apos.atName
      let (f, first) ← holding [ov] (getMethod ov m pl)
      callWith pos f first (backTo pos (starEach [] X.env)) (backToKw pos (keywordEach [] X.env))) := by rfl) :
    PE X (.Call (.Attribute o m apos) [] [] pos) (tMe ms m W ta tNil) := by
  refine ⟨fun pins s σ H Q I h => ?_⟩
  refine PySem.W.methodCall_KW (pl := pl) (thn (ho.run pins s σ H _ I h) fun u s1 ⟨x, H1, I1, rx, q⟩ => ?_) ht
  cases x with
  | ref a =>
    obtain rfl : u = Value.ref a := rx
    obtain ⟨C, dx, fs, ea, en, hen, eC, l, q⟩ := tMe_e (k := fun dvs sp fs => fs.lookup m = none ∧ tNil σ H1 fun vs H2 => sp (.ref a :: (vs ++ dvs)) H2 Q fun c d H' => W c d σ H') q
    obtain ⟨⟨f, fd, ps, ds, F, hm, hd, hb⟩, cl⟩ := hms en hen
    rw [← eC] at ea
    refine getmeth_ok I1 ea cl hm l ?_
    exact PySem.W.callWith_K0 (first := [.ref a]) I1.kIn hm.kp (run_fnSD (E := WE W) (us := [.ref a]) (vs := [.ref a]) F hr hb hd (passAt tk σ) I1 (.cons rfl .nil) q)
  | _ => exact False.elim q

/-! ### attributes -/
structure fld (fs : List (Str × V)) (f : Str) (k : V → Prop) : Prop where
  out : ∃ v, fs.lookup f = some v ∧ k v
theorem fld_i {fs : List (Str × V)} {f : Str} {k : V → Prop} {v : V} (h : fs.lookup f = some v) (q : k v) : fld fs f k := by refine ⟨?_⟩; exact ⟨v, h, q⟩
theorem fld_e {fs : List (Str × V)} {f : Str} {k : V → Prop} (q : fld fs f k) : ∃ v, fs.lookup f = some v ∧ k v := by replace q := q.out; exact q
/-- e.f, a field of an instance -/
def tAt (K : PySem.W.Frag) (ta : TE) (f : Str) : TE := fun σ H Q => ta σ H fun x H1 => match x with
  | .ref a => look H1 a fun o => (match o with
    | some (.ins C dx fs) => Cls K C ∧ NoAttr K C f ∧ fld fs f fun v => Q v H1
    | _ => False)
  | _ => False
theorem patt {f : Str} (he : PE X e ta) (hb : attributeBase e f X.env (eval e X.env) = eval e X.env := by rfl) : PE X (.Attribute e f pos) (tAt X.K ta f) := by
  refine ⟨fun pins s σ H Q I h => ?_⟩
  refine attr_of hb (thn (he.run pins s σ H _ I h) fun u s1 ⟨x, H1, I1, rx, q⟩ => ?_)
  cases x with
  | ref a =>
    obtain rfl : u = Value.ref a := rx
    have q := look_e q
    cases ea : H1 a with
    | none => rw [ea] at q; exact q.elim
    | some o =>
      rw [ea] at q
      cases o with
      | ins C dx fs =>
        obtain ⟨c, n, q⟩ := q
        obtain ⟨v, l, q⟩ := fld_e q
        exact getattr_ok I1 ea c n l fun u' s2 I2 r2 => ⟨v, H1, I2, r2, q⟩
      | _ => exact q.elim
  | _ => exact False.elim q
/-- e.f, a constant of the instance's class -/
def tAtC (K : PySem.W.Frag) (ta : TE) (f : Str) (v0 : V) : TE := fun σ H Q => ta σ H fun x H1 => match x with
  | .ref a => look H1 a fun o => (match o with
    | some (.ins C dx fs) => Cls K C ∧ (∃ u, Con K C f v0 u) ∧ fs.lookup f = none ∧ Q v0 H1
    | _ => False)
  | _ => False
theorem pattC {f : Str} (v0 : V) (he : PE X e ta) (hb : attributeBase e f X.env (eval e X.env) = eval e X.env := by rfl) : PE X (.Attribute e f pos) (tAtC X.K ta f v0) := by
  refine ⟨fun pins s σ H Q I h => ?_⟩
  refine attr_of hb (thn (he.run pins s σ H _ I h) fun u s1 ⟨x, H1, I1, rx, q⟩ => ?_)
  cases x with
  | ref a =>
    obtain rfl : u = Value.ref a := rx
    have q := look_e q
    cases ea : H1 a with
    | none => rw [ea] at q; exact q.elim
    | some o =>
      rw [ea] at q
      cases o with
      | ins C dx fs =>
        obtain ⟨c, ⟨u, n⟩, l, q⟩ := q
        exact getcon_ok I1 ea c n l fun s2 I2 => ⟨v0, H1, I2, n.rel, q⟩
      | _ => exact q.elim
  | _ => exact False.elim q
/-- C.f, C a class of the text by its name -/
structure ClsConst (K : PySem.W.Frag) (mg : Str → Option Value) (x f : Str) (v : V) : Prop where
  ex : ∃ C mc u, mg x = some (.ref C) ∧ ClX.CRead K C mc ∧ ClX.CVal K C mc f v u
theorem pclv {f : Str} {v0 : V} (h : ClsConst X.K X.mg x f v0) (hg : Gl X x := by rfl) (hdb : (x == ("__debug__" : Str)) = false := by decide +kernel)
    (hb : attributeBase (.Name x p) f X.env (eval (.Name x p) X.env) = eval (.Name x p) X.env := by rfl) : PE X (.Attribute (.Name x p) f pos) (tC v0) := by
  obtain ⟨C, mc, u, hm, r, c⟩ := h.ex
  exact pe_imp (ClX.pe_cval (pe_glob (v := .ref C) hg hm rfl hdb) hb) fun _ _ _ h => ⟨C, mc, v0, u, rfl, r, c, h⟩
/-- a module's constant -/
structure GlobV (mg : Str → Option Value) (x : Str) (v : V) : Prop where
  ex : ∃ u, mg x = some u ∧ RelV v u
theorem pglo {v0 : V} (h : GlobV X.mg x v0) (hg : Gl X x := by rfl) (hdb : (x == ("__debug__" : Str)) = false := by decide +kernel) : PE X (.Name x p) (tC v0) := by
  obtain ⟨u, hm, r⟩ := h.ex
  exact pe_glob hg hm r hdb
/-- a built-in type by its name -/
theorem pbty {T : String} (hm : X.mg x = none) (hv : bootBuiltins x = some (.type T) := by decide +kernel) (hg : Gl X x := by rfl) (hn : x ≠ "__name__" := by decide +kernel) (hd : (x == ("__debug__" : Str)) = false := by decide +kernel) : PE X (.Name x p) (tC (.ty T)) :=
  pe_bltn (v := .ty T) hg hm hv rfl hn hd
/-- o.f = e -/
def sAt (K : PySem.W.Frag) (ta tv : TE) (f : Str) : TS := fun D σ H => tv σ H fun y H1 => ta σ H1 fun x H2 => match x with
  | .ref a => look H2 a fun ob => (match ob with
    | some (.ins C dx fs) => Cls K C ∧ NoAttr K C f ∧ fs.length < 1000 ∧ D.nx σ (upd H2 a (.ins C dx (putF f y fs)))
    | _ => False)
  | _ => False
theorem sAt_e {K : PySem.W.Frag} {x : V} {f : Str} {y : V} {H : Hp} {k : Hp → Prop} (h : match x with
  | .ref a => look H a fun ob => (match ob with
    | some (.ins C dx fs) => Cls K C ∧ NoAttr K C f ∧ fs.length < 1000 ∧ k (upd H a (.ins C dx (putF f y fs)))
    | _ => False)
  | _ => False) : ∃ a C dx fs, x = .ref a ∧ H a = some (.ins C dx fs) ∧ Cls K C ∧ NoAttr K C f ∧ fs.length < 1000 ∧ k (upd H a (.ins C dx (putF f y fs))) := by
  cases x with
  | ref a =>
    have h := look_e h
    cases ea : H a with
    | none => rw [ea] at h; exact h.elim
    | some o =>
      rw [ea] at h
      cases o with
      | ins C dx fs => exact ⟨a, C, dx, fs, rfl, ea, h⟩
      | _ => exact h.elim
  | _ => exact h.elim
theorem psat {f : Str} {value : Expr} {tv : TE} {pos' : Pos} (ha : PE X o ta) (hv : PE X value tv) (hs : swapsWith value (some (.Attribute o f pos')) pos.line X.env = pure false := by rfl) : PS X (.Assign [.Attribute o f pos'] value pos) (sAt X.K ta tv f) := by
  refine ⟨fun pins s σ H D I h => ?_⟩
  refine plainObj_wpAny_Assign_Attribute (thn (hv.run pins s σ H _ I h) fun v s1 ⟨y, H1, I1, r1, q1⟩ => thn (ha.run pins s1 σ H1 _ I1 q1) fun u s2 ⟨x, H2, I2, r2, q⟩ => ?_) hs
  obtain ⟨a, C, dx, fs, rfl, ea, c, n, hl, q⟩ := sAt_e q
  obtain rfl : u = Value.ref a := r2
  exact setattr_ok I2 ea c n hl r1 fun s' I' => ⟨σ, _, I', q⟩
end

/-! ### built-in calls -/
section
variable {X : Cx}
def lenP (K : PySem.W.Frag) (x : V) (H : Hp) (Q : Nat → Prop) : Prop := match x with
  | .str z => Lim (tl z).length ∧ Q (tl z).length
  | .ref p => look H p fun o => (match o with
    | some (.lst xs) => Q xs.length
    | some (.tup xs) => Q xs.length
    | some (.frz _ (.lst xs)) => Q xs.length
    | _ => ∃ xs, (SqL K H p xs ∨ SqT K H p xs) ∧ Q xs.length)
  | _ => False
def one (xs : List V) (k : V → Prop) : Prop := match xs with
  | [x] => k x
  | _ => False
def two (xs : List V) (k : V → V → Prop) : Prop := match xs with
  | [x, y] => k x y
  | _ => False
theorem one_e {xs : List V} {k : V → Prop} (h : one xs k) : ∃ x, xs = [x] ∧ k x := by
  match xs, h with
  | [x], h => exact ⟨x, rfl, h⟩
theorem two_e {xs : List V} {k : V → V → Prop} (h : two xs k) : ∃ x y, xs = [x, y] ∧ k x y := by
  match xs, h with
  | [x, y], h => exact ⟨x, y, rfl, h⟩
def zLen (K : PySem.W.Frag) : List V → Hp → VK → Prop := fun xs H Q => one xs fun x => lenP K x H fun n => Q (.int n) H
theorem crlen : CallR X (.builtin "len") (zLen X.K) := by
  refine cr_imp (call_len_seq.or call_len_str) fun xs H Q h => ?_
  obtain ⟨x, rfl, h⟩ := one_e h
  cases x with
  | str z => exact .inr ⟨z, rfl, by rw [len_tl]; exact h.1, by rw [len_tl]; exact h.2⟩
  | ref p =>
    have h := look_e h
    revert h
    cases e : H p with
    | none => exact fun ⟨xs, h1, h2⟩ => .inl ⟨p, xs, rfl, h1, h2⟩
    | some o =>
      cases o with
      | lst xs => exact fun h2 => .inl ⟨p, xs, rfl, .inl (SqL.of e), h2⟩
      | tup xs => exact fun h2 => .inl ⟨p, xs, rfl, .inr (SqT.of e), h2⟩
      | frz ob u =>
        cases u with
        | lst xs => exact fun h2 => .inl ⟨p, xs, rfl, .inl (.inl (.inr ⟨_, e⟩)), h2⟩
        | _ => exact fun ⟨xs, h1, h2⟩ => .inl ⟨p, xs, rfl, h1, h2⟩
      | _ => exact fun ⟨xs, h1, h2⟩ => .inl ⟨p, xs, rfl, h1, h2⟩
  | _ => exact h.elim
def zAbs : List V → Hp → VK → Prop := fun xs H Q => one xs fun x => match x with
  | .int i => Q (.int (if i < 0 then -i else i)) H
  | _ => False
theorem crabs : CallR X (.builtin "abs") zAbs := cr_imp call_abs fun xs H Q h => by
  obtain ⟨x, rfl, h⟩ := one_e h
  cases x with
  | int i => exact ⟨i, rfl, h⟩
  | _ => exact h.elim
def zInt : List V → Hp → VK → Prop := fun xs H Q => one xs fun x => match x with
  | .int i => Q (.int i) H
  | .bl b => Q (.int (if b then 1 else 0)) H
  | _ => False
theorem crint : CallR X (.type "int") zInt := cr_imp call_int1 fun xs H Q h => by
  obtain ⟨x, rfl, h⟩ := one_e h
  cases x with
  | int i => exact .inl ⟨i, rfl, h⟩
  | bl i => exact .inr ⟨i, rfl, h⟩
  | _ => exact h.elim
def zMax2 : List V → Hp → VK → Prop := fun xs H Q => two xs fun x y => match x with
  | .int i => (match y with
    | .int j => Q (.int (max i j)) H
    | _ => False)
  | _ => False
def zMin2 : List V → Hp → VK → Prop := fun xs H Q => two xs fun x y => match x with
  | .int i => (match y with
    | .int j => Q (.int (min i j)) H
    | _ => False)
  | _ => False
theorem crmax (hc : X.calm = true) : CallR X (.builtin "max") zMax2 := cr_imp (call_max2 hc) fun xs H Q h => by
  obtain ⟨x, y, rfl, h⟩ := two_e h
  cases x with
  | int i => cases y with
    | int j =>
      refine ⟨i, j, rfl, ?_⟩
      have e : (if j > i then j else i) = max i j := by omega
      rw [e]; exact h
    | _ => exact h.elim
  | _ => exact h.elim
theorem crmin (hc : X.calm = true) : CallR X (.builtin "min") zMin2 := cr_imp (call_min2 hc) fun xs H Q h => by
  obtain ⟨x, y, rfl, h⟩ := two_e h
  cases x with
  | int i => cases y with
    | int j =>
      refine ⟨i, j, rfl, ?_⟩
      have e : (if j < i then j else i) = min i j := by omega
      rw [e]; exact h
    | _ => exact h.elim
  | _ => exact h.elim
/-! isinstance -/
def isP (K : PySem.W.Frag) (x : V) (c : Value) (H : Hp) (Q : Bool → Prop) : Prop := match x with
  | .str _ => ∃ b, PySem.W.kitOne K (.type "str") c = some b ∧ Q b
  | .int _ => ∃ b, PySem.W.kitOne K (.type "int") c = some b ∧ Q b
  | .bl _ => ∃ b, PySem.W.kitOne K (.type "bool") c = some b ∧ Q b
  | .non => ∃ b, PySem.W.kitOne K (.type "NoneType") c = some b ∧ Q b
  | .ref p => ∃ t b, TyX K H (.ref p) t ∧ PySem.W.kitOne K t c = some b ∧ Q b
  | _ => False
theorem isP_e {K : PySem.W.Frag} {x : V} {c : Value} {H : Hp} {Q : Bool → Prop} (h : isP K x c H Q) : ∃ t b, TyX K H x t ∧ PySem.W.kitOne K t c = some b ∧ Q b := by
  cases x with
  | str z => obtain ⟨b, h⟩ := h; exact ⟨_, b, .base (.str z), h⟩
  | int z => obtain ⟨b, h⟩ := h; exact ⟨_, b, .base (.int z), h⟩
  | bl z => obtain ⟨b, h⟩ := h; exact ⟨_, b, .base (.bl z), h⟩
  | non => obtain ⟨b, h⟩ := h; exact ⟨_, b, .base .non, h⟩
  | ref p => exact h
  | _ => exact h.elim
def zIs (K : PySem.W.Frag) : List V → Hp → VK → Prop := fun xs H Q => two xs fun x c => match c with
  | .ty n => isP K x (.type n) H fun b => Q (.bl b) H
  | .ref C => isP K x (.ref C) H fun b => Q (.bl b) H
  | _ => False
theorem cris : CallR X (.builtin "isinstance") (zIs X.K) := cr_imp call_isi fun xs H Q h => by
  obtain ⟨x, c, rfl, h⟩ := two_e h
  cases c with
  | ty n => obtain ⟨t, b, h1, h2, h3⟩ := isP_e h; exact ⟨x, _, t, _, b, rfl, .ty n, h1, h2, h3⟩
  | ref C => obtain ⟨t, b, h1, h2, h3⟩ := isP_e h; exact ⟨x, _, t, _, b, rfl, .own C, h1, h2, h3⟩
  | _ => exact h.elim
variable {x : Str} {p pos : Pos} {e : Expr} {es : List Expr} {t : TA} {id T : String} {r : List V → Hp → VK → Prop}
theorem pcb (hc : CallR X (.builtin id) r) (hm : X.mg x = none) (ha : PA X (e :: es) t) (hv : bootBuiltins x = some (.builtin id) := by decide +kernel) (hg : Gl X x := by rfl) (hn : x ≠ "__name__" := by decide +kernel) (hdb : (x == ("__debug__" : Str)) = false := by decide +kernel)
    (he : starEach (e :: es) X.env = (false, eval e X.env) :: starEach es X.env := by rfl) (hpl : (backTo pos (starEach es X.env)).any (·.1) = false := by rfl) : PE X (.Call (.Name x p) (e :: es) [] pos) (tCB r t) := pe_callB hc hg hm hv ha hn hdb he hpl
theorem pct (hc : CallR X (.type T) r) (hm : X.mg x = none) (ha : PA X (e :: es) t) (hv : bootBuiltins x = some (.type T) := by decide +kernel) (hg : Gl X x := by rfl) (hn : x ≠ "__name__" := by decide +kernel) (hdb : (x == ("__debug__" : Str)) = false := by decide +kernel)
    (he : starEach (e :: es) X.env = (false, eval e X.env) :: starEach es X.env := by rfl) (hpl : (backTo pos (starEach es X.env)).any (·.1) = false := by rfl) : PE X (.Call (.Name x p) (e :: es) [] pos) (tCB r t) := pe_callTy hc hg hm hv ha hn hdb he hpl
/-! methods of texts and lists -/
structure joi (vs : List V) (a : List Nat) (k : List Nat → Prop) : Prop where
  out : ∃ ys : List (List Nat), vs = ys.map (fun l => V.str (S l)) ∧ (ys.map List.length).sum + ys.length * a.length ≤ 16777216 ∧ k (TL.joinL a ys)
theorem joi_e {vs : List V} {a : List Nat} {k : List Nat → Prop} (h : joi vs a k) : ∃ ys : List (List Nat), vs = ys.map (fun l => V.str (S l)) ∧ (ys.map List.length).sum + ys.length * a.length ≤ 16777216 ∧ k (TL.joinL a ys) := by replace h := h.out; exact h
def zJoin (K : PySem.W.Frag) : V → List V → Hp → VK → Prop := fun x xs H Q => match x with
  | .str a => one xs fun y => (match y with
    | .ref p => look H p fun o => (match o with
      | some (.lst vs) => joi vs (tl a) fun t => Q (.str (S t)) H
      | some (.tup vs) => joi vs (tl a) fun t => Q (.str (S t)) H
      | _ => False)
    | _ => False)
  | _ => False
theorem mtjoin : MtR X "str.join" (zJoin X.K) := by
  refine mt_imp mt_join fun x xs H Q h => ?_
  cases x with
  | str a =>
    obtain ⟨y, rfl, h⟩ := one_e h
    cases y with
    | ref p =>
      have fin : ∀ vs, SqL X.K H p vs ∨ SqT X.K H p vs → (∃ ys : List (List Nat), vs = ys.map (fun l => V.str (S l)) ∧ (ys.map List.length).sum + ys.length * (tl a).length ≤ 16777216 ∧ Q (.str (S (TL.joinL (tl a) ys))) H) →
          ∃ a' p', ∃ ys : List Str, V.str a = .str a' ∧ [V.ref p] = [.ref p'] ∧ (SqL X.K H p' (ys.map V.str) ∨ SqT X.K H p' (ys.map V.str)) ∧ (ys.map (·.length)).sum + ys.length * a'.length ≤ 16777216 ∧ Q (.str (Txt.join a' ys)) H := by
        rintro vs hs ⟨ys, rfl, h1, h2⟩
        refine ⟨a, p, ys.map S, rfl, rfl, ?_, ?_, ?_⟩
        · rw [List.map_map]; exact hs
        · rw [List.map_map, List.length_map, len_tl]
          have e : ((fun z : Str => z.length) ∘ S) = List.length := funext fun l => by show (S l).length = l.length; rw [len_tl]
          rw [e]; exact h1
        · rw [TL.join_eq]
          have e : Str.join a (ys.map S) = S (TL.joinL (tl a) ys) := ext_tl ((TL.tl_join a (ys.map S)).trans (by
            rw [List.map_map]
            have e2 : (TL.tl ∘ S) = id := funext fun l => rfl
            rw [e2, List.map_id]))
          rw [e]; exact h2
      have h := look_e h
      revert h
      cases e : H p with
      | none => exact fun h => h.elim
      | some o =>
        cases o with
        | lst vs => exact fun h => fin vs (.inl (SqL.of e)) (joi_e h)
        | tup vs => exact fun h => fin vs (.inr (SqT.of e)) (joi_e h)
        | _ => exact fun h => h.elim
    | _ => exact h.elim
  | _ => exact h.elim
variable {o : Expr} {to : TE} {name : Str} {apos cpos : Pos}
/-- text.m(..) -/
def tSM (r : V → List V → Hp → VK → Prop) (to : TE) (t : TA) : TE := fun σ H Q => to σ H fun x H1 => match x with
  | .str z => t σ H1 fun xs H2 => r (.str z) xs H2 Q
  | _ => False
theorem psm {mid : String} {r : V → List V → Hp → VK → Prop} (slot : Slot "str" name mid) (hty : typeOf (.builtin mid) = pure (.type "method_descriptor")) (hm : MtR X mid r) (ho : PE X o to) (ha : PA X (e :: es) t)
    (hbase : attributeBase o name X.env (eval o X.env) = eval o X.env := by rfl)
    (hfew : ((backTo cpos (starEach (e :: es) X.env)).all (fun x => !x.1) && (backToKw cpos (keywordEach [] X.env)).all (fun x => x.1.isSome)
      && decide ((e :: es).length + ([] : List Keyword).length + (if ([] : List Keyword).isEmpty then 0 else 1) < 30)) = true := by rfl)
    (hline : (apos.endLine == cpos.line) = true := by rfl) (hs : starEach (e :: es) X.env = (false, eval e X.env) :: starEach es X.env := by rfl) (hplain : (backTo cpos (starEach es X.env)).any (·.1) = false := by rfl) :
    PE X (.Call (.Attribute o name apos) (e :: es) [] cpos) (tSM r to t) := by
  refine ⟨fun pins s σ H Q I h => ?_⟩
  refine wpAny_Call_method_late hbase hfew hline rfl (thn (ho.run pins s σ H _ I h) fun v s1 ⟨x, H1, I1, r1, q1⟩ => ?_)
  cases x with
  | str z =>
    obtain ⟨h1, h2⟩ := tyV_is (T := "str") (x := .str z) I1 r1 rfl
    refine ⟨"str", mid, F.plainAttrs_str, slot, hty, h1, h2, ?_⟩
    have hA := ha.run cpos pins s1 σ H1 _ I1 q1
    rw [hs] at hA ⊢
    refine Calls.callWith_builtin (by show (false || (backTo cpos (starEach es X.env)).any (·.1)) = false; rw [hplain] <;> rfl) (Calls.evalArgs_plain ?_)
    exact thn hA fun us s2 ⟨vs, H2, I2, r2, q2⟩ => hm pins s2 σ H2 _ vs v us Q I2 r1 r2 q2
  | _ => exact False.elim q1
end
end Ta

set_option Elab.async false
set_option linter.all false
set_option maxRecDepth 100000
set_option maxHeartbeats 1000000
namespace Ta
open PySem PySem.Spec PyProof.Rows L2

/-! ### what is walked: n turns, turn i yields x (heap H to H'), while st holds -/
abbrev Itm := Nat → Hp → V → Hp → Prop
structure Adm (J : It) (n : Nat) (it : Itm) (st : Hp → Prop) : Prop where
  go : ∀ i H, i < n → st H → J.go i H
  yl : ∀ i H x H', i < n → st H → J.yld i H x H' → it i H x H'
  sp : ∀ H, st H → J.stop n H
abbrev TJ := St → Hp → (Nat → Itm → (Hp → Prop) → Hp → Prop) → Prop
def toI (wi : TJ) : TI := fun σ H R => wi σ H fun n it st H1 => ∀ J, Adm J n it st → R J H1
abbrev PJ (X : Cx) (tg iter : Expr) (wi : TJ) : Prop := PI X tg iter (toI wi)
def itL (xs : List V) : Itm := fun i H x H' => H' = H ∧ xs[i]? = some x
def itR (lo : Int) : Itm := fun i H x H' => H' = H ∧ x = .int (lo + i)
def itS (l : List Nat) : Itm := fun i H x H' => H' = H ∧ ∃ c, l[i]? = some c ∧ x = .str (S [c])

structure loop (n : Nat) (it : Itm) (st : Hp → Prop) (g : TG) (tb : TS) (D : Ends) (σ : St) (H : Hp) : Prop where
  out : ∀ J, Adm J n it st → ∃ W : Nat → Nat → St → Hp → Prop, (∃ m, W 0 m σ H) ∧ ∀ i m σ H, W i m σ H →
  (J.stop i H ∧ D.nx σ H) ∨ (J.go i H ∧ ∃ N : St → Hp → Prop, (∀ σ' H', N σ' H' → ∃ m', m' < m ∧ W (i + 1) m' σ' H') ∧ ∀ x H', J.yld i H x H' → g x σ H' fun σ2 H2 => tb { D with nx := N, ct := N, bk := D.nx } σ2 H2)
theorem loop_i {n : Nat} {it : Itm} {st : Hp → Prop} {g : TG} {tb : TS} {D : Ends} {σ : St} {H : Hp} (Pv : Nat → St → Hp → Prop) (h0 : Pv 0 σ H) (hst : ∀ i σ H, i ≤ n → Pv i σ H → st H)
    (hs : ∀ i x σ H H', i < n → Pv i σ H → it i H x H' → g x σ H' fun σ2 H2 => tb { D with nx := Pv (i + 1), ct := Pv (i + 1), bk := D.nx } σ2 H2) (hd : ∀ σ H, Pv n σ H → D.nx σ H) : loop n it st g tb D σ H := by
  refine ⟨?_⟩
  intro J A
  refine ⟨fun i m σ H => m = n - i ∧ i ≤ n ∧ Pv i σ H, ⟨n, by simp, Nat.zero_le _, h0⟩, ?_⟩
  rintro i m σ H ⟨rfl, hi, p⟩
  have q := hst i σ H hi p
  by_cases hlt : i < n
  · exact .inr ⟨A.go i H hlt q, Pv (i + 1), fun σ' H' p' => ⟨n - (i + 1), by omega, rfl, hlt, p'⟩, fun x H' y => hs i x σ H H' hlt p (A.yl i H x H' hlt q y)⟩
  · have e : i = n := by omega
    subst e
    exact .inl ⟨A.sp H q, hd σ H p⟩
def tForP (wi : TJ) (g : TG) (tb : TS) : TS := fun D σ H => wi σ H fun n it st H1 => loop n it st g tb D σ H1
section
variable {X : Cx} {tg : Expr}
theorem psfor {iter : Expr} {body : List Stmt} {wi : TJ} {g : TG} {tb : TS} {pos : Pos} (hp : PassesOwn (model X.prog X.w) X.A X.env X.xe) (hc : X.calm = true) (hi : PJ X tg iter wi) (hg : PG X tg g) (hb : PSs X body tb)
    (hs : ∀ x, foldedSetIterable iter X.env x = pure x := by intro _; rfl) : PS X (.For tg iter body [] pos) (tForP wi g tb) := by
  refine ps_imp (ps_for (wi := toI wi) hp hc hi hg hb hs) fun D σ H h => ?_
  have e : (fun n it st H1 => loop n it st g tb D σ H1) = (fun n it st H1 => ∀ J, Adm J n it st → ∃ W : Nat → Nat → St → Hp → Prop, (∃ m, W 0 m σ H1) ∧ ∀ i m σ H, W i m σ H →
      (J.stop i H ∧ D.nx σ H) ∨ (J.go i H ∧ ∃ N : St → Hp → Prop, (∀ σ' H', N σ' H' → ∃ m', m' < m ∧ W (i + 1) m' σ' H') ∧ ∀ x H', J.yld i H x H' → g x σ H' fun σ2 H2 => tb { D with nx := N, ct := N, bk := D.nx } σ2 H2)) := by
    funext n it st H1
    exact propext ⟨fun h => h.out, fun h => ⟨h⟩⟩
  have h : wi σ H fun n it st H1 => loop n it st g tb D σ H1 := h
  rw [e] at h
  exact h
/-- range(n) -/
def jR1 (ta : TA) : TJ := fun σ H R => ta σ H fun vs H1 => one vs fun x => match x with
  | .int j => (-(2 ^ 62) ≤ j ∧ j < 2 ^ 62) ∧ R j.toNat (itR 0) (fun _ => True) H1
  | _ => False
def jR2 (ta : TA) : TJ := fun σ H R => ta σ H fun vs H1 => two vs fun x y => match x with
  | .int i => (match y with
    | .int j => (-(2 ^ 62) ≤ i ∧ i < 2 ^ 62 ∧ -(2 ^ 62) ≤ j ∧ j < 2 ^ 62) ∧ R (j - i).toNat (itR i) (fun _ => True) H1
    | _ => False)
  | _ => False
theorem adm_r (lo : Int) (n : Nat) : Adm (Itr lo n) n (itR lo) (fun _ => True) := ⟨fun i H h _ => h, fun i H x H' _ _ h => h, fun H _ => Nat.le_refl n⟩
theorem pjr1 {a : Expr} {ta : TA} {p pos : Pos} (hm : X.mg "range" = none) (ha : PA X [a] ta) (hg : Gl X "range" := by rfl) (hs : starEach [a] X.env = [(false, eval a X.env)] := by rfl) : PJ X tg (.Call (.Name "range" p) [a] [] pos) (jR1 ta) := by
  refine ⟨fun pins s σ H R I h => ?_⟩
  refine Call_ (ld_blt I hg hm boot_range (PyProof.Rows.callWith_type1 (thn (ha.run pos pins s σ H _ I h) fun us s1 ⟨vs, H1, I1, r1, q1⟩ => ?_) hs rfl))
  obtain ⟨x, rfl, q1⟩ := one_e q1
  cases x with
  | int j =>
    obtain ⟨⟨q1, q2⟩, q⟩ := q1
    cases r1 with
    | cons r rr =>
      cases rr
      obtain ⟨t, rfl⟩ := r
      exact call_range_1 (range_it I1 (by omega) (by omega) q1 q2 (by simpa using q _ (adm_r 0 j.toNat)))
  | _ => exact False.elim q1
theorem pjr2 {a b : Expr} {ta : TA} {p pos : Pos} (hm : X.mg "range" = none) (ha : PA X [a, b] ta) (hg : Gl X "range" := by rfl) (hs : starEach [a, b] X.env = [(false, eval a X.env), (false, eval b X.env)] := by rfl) (hs2 : starEach [b] X.env = [(false, eval b X.env)] := by rfl) :
    PJ X tg (.Call (.Name "range" p) [a, b] [] pos) (jR2 ta) := by
  refine ⟨fun pins s σ H R I h => ?_⟩
  refine Call_ (ld_blt I hg hm boot_range (PyProof.Rows.callWith_type1 (thn (ha.run pos pins s σ H _ I h) fun us s1 ⟨vs, H1, I1, r1, q1⟩ => ?_) (by rw [hs, hs2]) (by rw [hs2]; rfl)))
  obtain ⟨x, y, rfl, q1⟩ := two_e q1
  cases x with
  | int i =>
    cases y with
    | int j =>
      obtain ⟨⟨q1, q2, q3, q4⟩, q⟩ := q1
      cases r1 with
      | cons r rr =>
        cases rr with
        | cons r' rr =>
          cases rr
          obtain ⟨t, rfl⟩ := r
          obtain ⟨t', rfl⟩ := r'
          exact call_range_2 (range_it I1 q1 q2 q3 q4 (q _ (adm_r i _)))
    | _ => exact False.elim q1
  | _ => exact False.elim q1
/-- a text, a list, a tuple -/
def jA (K : PySem.W.Frag) (te : TE) : TJ := fun σ H R => te σ H fun x H1 => match x with
  | .str z => R (tl z).length (itS (tl z)) (fun _ => True) H1
  | .ref a => look H1 a fun o => (match o with
    | some (.lst xs) => R xs.length (itL xs) (fun H' => H' a = some (.lst xs)) H1
    | some (.tup xs) => R xs.length (itL xs) (fun H' => H' a = some (.tup xs)) H1
    | some (.frz ob (.lst xs)) => R xs.length (itL xs) (fun H' => H' a = some (.frz ob (.lst xs))) H1
    | _ => ∃ xs, SqT K (fun _ => none) a xs ∧ R xs.length (itL xs) (fun _ => True) H1)
  | _ => False
theorem adm_l {K : PySem.W.Frag} {a : Addr} {xs : List V} {st : Hp → Prop} (h : ∀ H, st H → SqL K H a xs) : Adm (Itl K a) xs.length (itL xs) st :=
  ⟨fun i H hi q => ⟨xs, xs[i], h H q, by simp [hi]⟩, fun i H x H' hi q y => ⟨y.1, y.2 xs (h H q)⟩, fun H q => ⟨xs, h H q, Nat.le_refl _⟩⟩
theorem adm_t {K : PySem.W.Frag} {a : Addr} {xs : List V} {st : Hp → Prop} (h : ∀ H, st H → SqT K H a xs) : Adm (Itt K a) xs.length (itL xs) st :=
  ⟨fun i H hi q => ⟨xs, xs[i], h H q, by simp [hi]⟩, fun i H x H' hi q y => ⟨y.1, y.2 xs (h H q)⟩, fun H q => ⟨xs, h H q, Nat.le_refl _⟩⟩
theorem adm_s (z : Str) : Adm (Its z) (tl z).length (itS (tl z)) (fun _ => True) := by
  have e : z.cps.size = (tl z).length := by simp [tl]
  refine ⟨fun i H h _ => ?_, fun i H x H' _ _ y => ⟨y.1, ?_⟩, fun H _ => ?_⟩
  · show i < z.cps.size; rw [e]; exact h
  · obtain ⟨c, h1, h2⟩ := y.2
    exact ⟨c, by simpa [tl] using h1, h2⟩
  · show z.cps.size ≤ _; rw [e]; exact Nat.le_refl _
theorem sqT_k {K : PySem.W.Frag} {H : Hp} {a : Addr} {xs : List V} (h : SqT K (fun _ => none) a xs) : SqT K H a xs := by
  rcases h with (h | ⟨o, h⟩) | h
  · cases h
  · cases h
  · exact .inr h
theorem pja {l : Expr} {te : TE} (hl : PE X l te) : PJ X tg l (jA X.K te) := by
  refine ⟨fun pins s σ H R I h => ?_⟩
  refine thn (hl.run pins s σ H _ I h) fun v s1 ⟨x, H1, I1, r1, q1⟩ => ?_
  cases x with
  | str z =>
    obtain ⟨t, rfl⟩ := r1
    have q := q1 _ (adm_s z)
    cases ha : z.cps.all (· < 128)
    · exact wpAny_pyIter_wide ha (pi_one (tk := s1.toks) I1 _ (turn_str _ z t "str_iterator" (.inr rfl)) ⟨_, Heap.get?_push_size _ rfl, rfl, rfl⟩ q)
    · exact wpAny_pyIter_ascii ha (pi_one (tk := s1.toks) I1 _ (turn_str _ z t "str_ascii_iterator" (.inl rfl)) ⟨_, Heap.get?_push_size _ rfl, rfl, rfl⟩ q)
  | ref a =>
    cases r1
    have fl : ∀ xs, SqL X.K H1 a xs → R (Itl X.K a) H1 → wpAny (model X.prog X.w) X.A (pyIter (.ref a)) (PIE X pins σ tg R) X.xe s1 := fun xs hq q => by
      obtain ⟨its, rv, p, hz⟩ := I1.list hq
      refine wpAny_pyIter_list p.isList ?_
      refine ⟨s1.heap.objs.size, [s1.heap.objs.size], _, _, H1, rfl, I1.kept (t' := s1.toks) fun b o e => Heap.get?_push_of_some _ e, turn_list a _, ⟨_, Heap.get?_push_size _ rfl, rfl, rfl⟩, fun b hb => ?_, q⟩
      have e : b = s1.heap.objs.size := by simpa using hb
      subst e
      exact I1.fpOk (Nat.le_refl _) (I1.hok.fresh (Nat.le_refl _))
    have ft : ∀ xs, SqT X.K H1 a xs → R (Itt X.K a) H1 → wpAny (model X.prog X.w) X.A (pyIter (.ref a)) (PIE X pins σ tg R) X.xe s1 := fun xs hq q => by
      obtain ⟨its, rv, p, hz⟩ := I1.tuple hq
      refine wpAny_pyIter_tuple (show s1.heap.IsTuple a its.toArray from p) ?_
      refine ⟨s1.heap.objs.size, [s1.heap.objs.size], _, _, H1, rfl, I1.kept (t' := s1.toks) fun b o e => Heap.get?_push_of_some _ e, turn_tuple a _, ⟨_, Heap.get?_push_size _ rfl, rfl, rfl⟩, fun b hb => ?_, q⟩
      have e : b = s1.heap.objs.size := by simpa using hb
      subst e
      exact I1.fpOk (Nat.le_refl _) (I1.hok.fresh (Nat.le_refl _))
    have q1 := look_e q1
    have fk : (∃ xs, SqT X.K (fun _ => none) a xs ∧ ∀ J, Adm J xs.length (itL xs) (fun _ => True) → R J H1) → wpAny (model X.prog X.w) X.A (pyIter (.ref a)) (PIE X pins σ tg R) X.xe s1 :=
      fun ⟨xs, h1, h2⟩ => ft xs (sqT_k h1) (h2 _ (adm_t fun H' _ => sqT_k h1))
    revert q1
    cases e : H1 a with
    | none => exact fk
    | some o =>
      cases o with
      | lst xs => exact fun q1 => fl xs (SqL.of e) (q1 _ (adm_l fun H' h => SqL.of h))
      | tup xs => exact fun q1 => ft xs (SqT.of e) (q1 _ (adm_t fun H' h => SqT.of h))
      | frz ob u =>
        cases u with
        | lst xs => exact fun q1 => fl xs (.inl (.inr ⟨_, e⟩)) (q1 _ (adm_l fun H' h => .inl (.inr ⟨_, h⟩)))
        | _ => exact fk
      | _ => exact fk
  | _ => exact False.elim q1

/-! ### while -/
structure whl (c : TT) (tb : TS) (D : Ends) (σ : St) (H : Hp) : Prop where
  out : tWhile c tb D σ H
/-- by a word and a measure; the test's reading is asked with its own wish -/
theorem whl_i {c : TT} {tb : TS} {D : Ends} {σ : St} {H : Hp} (W : Nat → St → Hp → Prop) (m : Nat) (h0 : W m σ H)
    (hs : ∀ m σ H, W m σ H → c σ H fun b H1 => if b = true then ∃ N : St → Hp → Prop, (∀ σ' H', N σ' H' → ∃ m', m' < m ∧ W m' σ' H') ∧ tb { D with nx := N, ct := N, bk := D.nx } σ H1 else D.nx σ H1) : whl c tb D σ H := by
  refine ⟨?_⟩
  exact ⟨W, ⟨m, h0⟩, hs⟩
theorem pswhl {c : Expr} {body : List Stmt} {tc : TT} {tb : TS} {pos : Pos} (hp : PassesOwn (model X.prog X.w) X.A X.env X.xe) (hc : PT X c tc) (hb : PSs X body tb) : PS X (.While c body [] pos) (whl tc tb) :=
  ps_imp (ps_while hp hc hb) fun D σ H h => by replace h := h.out; exact h

/-! ### list comprehensions -/
structure lcp (n : Nat) (it : Itm) (st : Hp → Prop) (g : TG) (tt : TT) (te : TE) (vs : List Nat) (σ : St) (H1 : Hp) (Q : VK) : Prop where
  out : ∀ J, Adm J n it st → ∀ D, H1 D = none → ∃ W : Nat → Nat → Hp → Prop, (∃ m, W 0 m (upd H1 D (.lst []))) ∧ ∀ i m H, W i m H →
  (J.stop i H ∧ Q (.ref D) H) ∨ (J.go i H ∧ ∃ Nx : Hp → Prop, (∀ H', Nx H' → ∃ m', m' < m ∧ W (i + 1) m' H') ∧ ∀ x H', J.yld i H x H' → g x (wipe σ vs) H' fun σ2 H2 => wipe σ2 vs = wipe σ vs ∧ tt σ2 H2 fun b H3 =>
    if b = true then te σ2 H3 fun y H4 => ∃ acc, H4 D = some (.lst acc) ∧ acc.length < sizeLine ∧ Nx (upd H4 D (.lst (acc ++ [y]))) else Nx H3)
def tLcP (wi : TJ) (g : TG) (tt : TT) (te : TE) (vs : List Nat) : TE := fun σ H Q => wi σ H fun n it st H1 => lcp n it st g tt te vs σ H1 Q
theorem tLcP_e {wi : TJ} {g : TG} {tt : TT} {te : TE} {vs : List Nat} {σ : St} {H : Hp} {Q : VK} (h : tLcP wi g tt te vs σ H Q) : tLc (toI wi) g tt te vs σ H Q := by
  have e : (fun n it st H1 => lcp n it st g tt te vs σ H1 Q) = (fun n it st H1 => ∀ J, Adm J n it st → ∀ D, H1 D = none → ∃ W : Nat → Nat → Hp → Prop, (∃ m, W 0 m (upd H1 D (.lst []))) ∧ ∀ i m H, W i m H →
      (J.stop i H ∧ Q (.ref D) H) ∨ (J.go i H ∧ ∃ Nx : Hp → Prop, (∀ H', Nx H' → ∃ m', m' < m ∧ W (i + 1) m' H') ∧ ∀ x H', J.yld i H x H' → g x (wipe σ vs) H' fun σ2 H2 => wipe σ2 vs = wipe σ vs ∧ tt σ2 H2 fun b H3 =>
        if b = true then te σ2 H3 fun y H4 => ∃ acc, H4 D = some (.lst acc) ∧ acc.length < sizeLine ∧ Nx (upd H4 D (.lst (acc ++ [y]))) else Nx H3)) := by
    funext n it st H1
    exact propext ⟨fun h => h.out, fun h => ⟨h⟩⟩
  have h : wi σ H fun n it st H1 => lcp n it st g tt te vs σ H1 Q := h
  rw [e] at h
  exact h
theorem plc {elt iter : Expr} {ifs : List Expr} {scope : Scope} (own : List (Str × Nat)) {pos : Pos} {wi : TJ} {g : TG} {tt : TT} {te : TE} (hc : X.calm = true) (hN : X.N.Nodup) (hi : PJ X tg iter wi) (ok : blkC X.N X.env.scope scope own = true)
    (hg : ∀ (s : Shared) (H : Hp) (C : Addr) (cl : List (Str × Addr)) (fp : List Addr), PG (X.blk s H scope (compEnvC scope cl C X.env) fp) tg g) (ht : ∀ (s : Shared) (H : Hp) (C : Addr) (cl : List (Str × Addr)) (fp : List Addr), PTs (X.blk s H scope (compEnvC scope cl C X.env) fp) ifs tt)
    (he : ∀ (s : Shared) (H : Hp) (C : Addr) (cl : List (Str × Addr)) (fp : List Addr), PE (X.blk s H scope (compEnvC scope cl C X.env) fp) elt te) (hs : ∀ x, foldedSetIterable iter X.env x = pure x := by intro _; rfl) :
    PE X (.ListComp elt [⟨tg, iter, ifs, 0⟩] scope pos) (tLcP wi g tt te (own.map (·.2))) := pe_imp (pe_lc hc hN hi (blkOk_by ok) hg ht he hs) fun _ _ _ h => tLcP_e h
theorem pslc {i : Nat} {y : Str} {py : Pos} {elt iter : Expr} {ifs : List Expr} {scope : Scope} (own : List (Str × Nat)) {pos spos : Pos} {wi : TJ} {g : TG} {tt : TT} {te : TE} (hc : X.calm = true) (hN : X.N.Nodup) (hy : X.N[i]? = some y) (hyl : X.env.scope.names.lookup y = some .local)
    (hsw : swapsWith (.ListComp elt [⟨tg, iter, ifs, 0⟩] scope pos) (some (.Name y py)) spos.line X.env = pure true) (hi : PJ X tg iter wi) (ok : blkC X.N X.env.scope scope own = true)
    (hg : ∀ (s : Shared) (H : Hp) (C : Addr) (cl : List (Str × Addr)) (fp : List Addr), PG (X.blk s H scope (compEnvC scope cl C X.env) fp) tg g) (ht : ∀ (s : Shared) (H : Hp) (C : Addr) (cl : List (Str × Addr)) (fp : List Addr), PTs (X.blk s H scope (compEnvC scope cl C X.env) fp) ifs tt)
    (he : ∀ (s : Shared) (H : Hp) (C : Addr) (cl : List (Str × Addr)) (fp : List Addr), PE (X.blk s H scope (compEnvC scope cl C X.env) fp) elt te) (hs : ∀ x, foldedSetIterable iter X.env x = pure x := by intro _; rfl) :
    PS X (.Assign [.Name y py] (.ListComp elt [⟨tg, iter, ifs, 0⟩] scope pos) spos) (tAsg (tLcP wi g tt te (own.map (·.2))) (gName i)) :=
  ps_imp (ps_setLc hc hN hy hyl hsw hi (blkOk_by ok) hg ht he hs) fun D σ H h => tLcP_e h
theorem lcp_i {n : Nat} {it : Itm} {st : Hp → Prop} {g : TG} {tt : TT} {te : TE} {vs : List Nat} {σ : St} {H1 : Hp} {Q : VK} (Pv : Addr → Nat → Hp → Prop) (h0 : ∀ D, H1 D = none → Pv D 0 (upd H1 D (.lst []))) (hst : ∀ D i H, H1 D = none → i ≤ n → Pv D i H → st H)
    (hs : ∀ D i x H H', H1 D = none → i < n → Pv D i H → it i H x H' → g x (wipe σ vs) H' fun σ2 H2 => wipe σ2 vs = wipe σ vs ∧ tt σ2 H2 fun b H3 =>
      if b = true then te σ2 H3 fun y H4 => ∃ acc, H4 D = some (.lst acc) ∧ acc.length < sizeLine ∧ Pv D (i + 1) (upd H4 D (.lst (acc ++ [y]))) else Pv D (i + 1) H3) (hd : ∀ D H, H1 D = none → Pv D n H → Q (.ref D) H) : lcp n it st g tt te vs σ H1 Q := by
  refine ⟨?_⟩
  intro J A D hD
  refine ⟨fun i m H => m = n - i ∧ i ≤ n ∧ Pv D i H, ⟨n, by simp, Nat.zero_le _, h0 D hD⟩, ?_⟩
  rintro i m H ⟨rfl, hi, p⟩
  have q := hst D i H hD hi p
  by_cases hlt : i < n
  · exact .inr ⟨A.go i H hlt q, Pv D (i + 1), fun H' p' => ⟨n - (i + 1), by omega, rfl, hlt, p'⟩, fun x H' y => hs D i x H H' hD hlt p (A.yl i H x H' hlt q y)⟩
  · have e : i = n := by omega
    subst e
    exact .inl ⟨A.sp H q, hd D H hD p⟩
end
end Ta

set_option Elab.async false
set_option linter.all false
set_option maxRecDepth 100000
set_option maxHeartbeats 1000000
namespace Ta
open PySem PySem.Spec PyProof.Rows L2

/-! ### a def that says super(): its closure is the cell of __class__ -/
structure SupFn (P : Program) (K : PySem.W.Frag) (f : Addr) (F : NdefX.NF) (D : Addr) (dvs : List V) (fd : FuncData) : Prop where
  ex : ∃ (cc : Addr) (oc : Value) (od an : Option Addr) (dV kV doc pm ct : Value) (osl : Array (Option Value)), F.cl = [(("__class__" : Str), cc)] ∧ fd = PySem.W.fnX F.name F.qual F.params F.body F.scope F.cl dV kV doc pm an (.ref F.c) ct ∧
    K.lookup f = some ⟨oc, od, .func fd, osl⟩ ∧ DflV K dV dvs ∧ ∃ (cl : Value) (cld : Option Addr) (csl : Array (Option Value)), K.lookup cc = some ⟨cl, cld, .cell (some (.ref D)), csl⟩
  cd : PySem.W.codeIn K (.ref F.c) F.qual = true
  file : ∃ (ccl : Value) (cdd : Option Addr) (vs : Array Value) (ccs : Array (Option Value)) (fl : Str) (tf : Tok), K.lookup F.c = some ⟨ccl, cdd, .fields vs, ccs⟩ ∧ vs[2]? = some (.str fl tf) ∧ ((P.main.file : Str) == fl) = true
  clsD : ∃ cdD, PySem.W.clsIn K D = some cdD
  top : (P.main.scope.names.lookup ("super" : Str)).isSome = false
  kp : PySem.W.keepIn K (.ref f) = true
section
variable {P : Program} {w : World} {K : PySem.W.Frag} {mg : Str → Option Value} {base : Heap}
/-- such a def by its first statement (at the code itself) and the rest -/
theorem fn_sup {f D : Addr} {F : NdefX.NF} {fd : FuncData} {N ps : List Str} {sp : Sp} {k : Nat} {st0 : Stmt} {rest : List Stmt} {dvs : List V} (SF : SupFn P K f F D dvs fd) (hbd : F.body = st0 :: rest) (S : NdefX.NScope N ps ["__class__"] F.scope)
    (len : ∀ vs H Q E, sp vs H Q E → vs.length = ps.length)
    (hbody : ∀ (A : Around) (outer : List Env) (s : Shared) (H : Hp) (vs : List V) (Q : VK) (E : XK), Room k (A.deeper (NdefX.envF F f s.heap.objs.size)) → sp vs H Q E →
      ∃ (t : TS), PSs (NdefX.ncx (L2.CX P w) P w K mg base N F f A outer s H E) rest t ∧
        ∀ s', Inv (NdefX.ncx (L2.CX P w) P w K mg base N F f A outer s H E) [] (NdefX.startF N vs [some (.ref D)]) H s' →
          PySem.wpAt (model P w) (A.deeper (NdefX.envF F f s.heap.objs.size)) (.func F.body (NdefX.envF F f s.heap.objs.size)) (exec st0 (NdefX.envF F f s.heap.objs.size))
            (fun fl s'' => fl = .next ∧ ∃ σ' H', Inv (NdefX.ncx (L2.CX P w) P w K mg base N F f A outer s H E) [] σ' H' s'' ∧ t { nx := fun _ H' => Q .non H', rt := Q } σ' H')
            (NdefX.ncx (L2.CX P w) P w K mg base N F f A outer s H E).xe s') :
    FnOk P w K mg base (L2.CX P w) (k + 1) f fd ps sp := by
  obtain ⟨cc, oc, od, an, dV, kV, doc, pm, ct, osl, hcl, rfl, lk, hD, cl, cld, csl, hcell⟩ := SF.ex
  refine ⟨len, fun A outer s H args us vs Q E hr e0 hb r hsp => ?_⟩
  have hl := len _ _ _ _ hsp
  have KX : K.In s.heap := e0.mod.kin.keeps fun b o e => (e0.bs b o e).1
  have lim : s.heap.NoLimit := e0.mod.nolimit.keeps fun b o e => (e0.bs b o e).1
  have C : NdefX.CellsAt F.cl ["__class__"] [some (.ref D)] s.heap H := by
    rw [hcl]
    have hK : ∀ y c, ([("__class__", cc)] : List (Str × Addr)).lookup y = some c → y = "__class__" ∧ c = cc := fun y c e => by
      simp only [List.lookup] at e
      split at e
      · rename_i hb; cases e; exact ⟨eq_of_beq hb, rfl⟩
      · cases e
    refine ⟨rfl, fun y c e => ?_, fun x y c e1 e2 => (hK x c e1).1.trans (hK y c e2).1.symm, fun i y e => ?_⟩
    · obtain ⟨_, rfl⟩ := hK y c e
      exact ⟨(e0.bs _ _ (e0.mod.kin _ _ hcell)).2, _, _, KX _ _ hcell, rfl⟩
    · cases i with
      | zero =>
        have e' : y = "__class__" := by simpa using e.symm
        subst e'
        refine ⟨cc, by simp [List.lookup], fun v hv => ?_⟩
        have hv' : V.ref D = v := by simpa using hv
        subst hv'
        exact ⟨.ref D, rfl, _, KX _ _ hcell, rfl⟩
      | succ i => simp at e
  refine PySem.ks_codeAny_call_defAt hr.depth (KX _ _ lk) rfl lim (PySem.W.codeRec_of KX SF.cd) (body := F.body) rfl hb S.nocell (fun ⟨n, v⟩ hy => S.par n (List.of_mem_zip hy).1) (fun h₁ hns kp => ?_) S.co S.gen S.kind
  obtain ⟨t, ht, hq⟩ := hbody A outer s H vs Q E (hr.deeper _) hsp
  have I : Inv (NdefX.ncx (L2.CX P w) P w K mg base N F f A outer s H E) [] (NdefX.startF N vs [some (.ref D)]) H { s with heap := h₁, toks := s.toks + (ps.zip us).length } := NdefX.inv_startN S hr.hd e0 hl r C hns kp
  have fin : ∀ {s' : Shared} {σ' : L2.St} {H' : Hp} {v : V} {u : Value}, Inv (NdefX.ncx (L2.CX P w) P w K mg base N F f A outer s H E) [] σ' H' s' → RelV v u → Q v H' → CE outer P w H s Q u s' :=
    fun {s' σ' H' v u} J rv q => ⟨v, H', J.os, J.bare, J.base, J.hok, rv, q⟩
  have key : PySem.wpAt (model P w) (A.deeper (NdefX.envF F f s.heap.objs.size)) (.func F.body (NdefX.envF F f s.heap.objs.size)) (execs F.body (NdefX.envF F f s.heap.objs.size))
      (fun fl s' => CR (L2.CX P w) outer P w H s Q E (.ok (.ret (match fl with | .ret v => v | _ => .none))) s') (NdefX.ncx (L2.CX P w) P w K mg base N F f A outer s H E).xe { s with heap := h₁, toks := s.toks + (ps.zip us).length } := by
    have q0 := hq _ I
    rw [hbd] at q0 ⊢
    refine PySem.ks_wpAt_execs_cons (PySem.ks_wpAt_mono q0 (fun fl s1 h1 => ?_) fun _ _ z => z)
    obtain ⟨rfl, σ1, H1, I1, q1⟩ := h1
    refine PySem.wpAt_of_wpAny (thn (ht.run [] s1 σ1 H1 _ I1 q1) fun fl s2 h2 => ?_)
    cases fl with
    | ret u =>
      obtain ⟨v, σ', H', J, rv, q⟩ := h2
      exact fin J rv q
    | next =>
      obtain ⟨σ', H', J, q⟩ := h2
      exact fin (v := V.non) (u := Value.none) J rfl q
    | brk =>
      obtain ⟨_, _, _, q⟩ := h2
      exact False.elim q
    | cont =>
      obtain ⟨_, _, _, q⟩ := h2
      exact False.elim q
  exact key
end
/-! ### super() -/
section
variable {X : Cx} {pins : List (Addr × Obj)} {σ : St} {H : Hp} {s : Shared} {f D x C : Addr} {F : NdefX.NF} {dvs : List V} {fd : FuncData}
abbrev supO (D x C : Addr) : Obj := { cls := .type "super", dict := none, data := .fields #[.ref D, .ref x, .ref C], slots := #[] }
theorem sup_base {p0 p1 : Pos} {attr : Str} {whole : Sem Value} {E : Value → Shared → Prop} {Q : Value → Shared → Prop} {ar : Arg} {ox : Obj} (SF : SupFn X.prog X.K f F D dvs fd) (hE : X.env = NdefX.envF F f X.env.locals) (I : Inv X pins σ H s)
    (hsup : X.mg "super" = none) (hp : (F.params.posonlyargs ++ F.params.args).head? = some ar) (i : Nat) (hN : X.N[i]? = some ar.arg) (hσ : σ[i]? = some (some (.ref x))) (hka : F.scope.names.lookup ar.arg = some .local)
    (hx : s.heap.get? x = some ox) (hxc : ox.cls = .ref C) (hnc : ∀ c, ox.data ≠ .cls c) (hsub : PySem.W.mroIn X.K C (.ref D) = some true)
    (hks : F.scope.names.lookup ("super" : Str) = some .globalImplicit) (hkc : F.scope.names.lookup ("__class__" : Str) = some .free) (hk : F.scope.kind = .function) (hat : (attr == ("__class__" : Str)) = false)
    (h : ∀ so s', s'.heap.get? so = some (supO D x C) → (∀ b o, s.heap.get? b = some o → s'.heap.get? b = some o) → Inv X pins σ H s' → Q (.ref so) s') :
    PySem.wpAt (model X.prog X.w) X.A (.func F.body X.env) (attributeBase (.Call (.Name "super" p0) [] [] p1) attr X.env whole) Q E s := by
  obtain ⟨cc, oc, od, an, dV, kV, doc, pm, ct, osl, hcl, rfl, lk, hD, cl, cld, csl, hcell⟩ := SF.ex
  obtain ⟨ccl, cdd, vs, ccs, fl, tf, hcode, hvs, hfile⟩ := SF.file
  obtain ⟨cdD, hcD⟩ := SF.clsD
  have KX : X.K.In s.heap := I.kIn
  obtain ⟨oD, hD1, hD2⟩ : ∃ oD, s.heap.get? D = some oD ∧ oD.data = .cls cdD := by
    unfold PySem.W.clsIn at hcD
    split at hcD
    · rename_i c d cd' sl ho
      cases hcD
      exact ⟨_, KX _ _ ho, rfl⟩
    · cases hcD
  obtain ⟨m, hn, hloc⟩ := I.loc
  have hsc : X.env.scope = F.scope := by rw [hE]
  obtain ⟨u, ru, lu⟩ := hloc i ar.arg (.ref x) hN hσ (.inl (by rw [hsc]; exact hka))
  cases ru
  have hm : m ar.arg = some (.ref x) := by
    rcases lu with ⟨_, e⟩ | ⟨e, _⟩
    · exact e
    · have e2 : X.env.kindOf ar.arg = some .local := by show X.env.scope.names.lookup _ = _; rw [hsc]; exact hka
      rw [e2] at e; rcases e with e | e <;> cases e
  obtain ⟨mb, hb1, hb2⟩ := I.mod.blt
  refine PySem.ks_wpAt_super_base (env := X.env) (by show X.env.scope.names.lookup _ = _; rw [hsc]; exact hks) (by show X.env.scope.names.lookup _ = _; rw [hsc]; exact hkc) hat (by rw [hE]) (KX _ _ lk) rfl hp (by rw [hE]) (KX _ _ hcode) rfl hvs hfile SF.top ?_
  refine PySem.W.ks_loadName_global (by rw [hsc]; exact hk) (by show X.env.scope.names.lookup _ = _; rw [hsc]; exact hks) (Calls.loadGlobal_builtin (by rw [I.ok.glob]; exact I.mod.glob.keeps I.bk) hsup (by rw [I.ok.blt]; exact hb1.keeps I.bk) ((hb2 "super" (by decide +kernel)).trans (by decide +kernel : bootBuiltins "super" = some (.type "super"))) ⟨rfl, ?_⟩)
  refine wpAny_loadName_free (by rw [hsc]; exact hk) (by show X.env.scope.names.lookup _ = _; rw [hsc]; exact hkc) (by rw [hE]; show F.cl.lookup _ = _; rw [hcl]; rfl) ⟨_, KX _ _ hcell, rfl⟩ ?_
  refine wpAny_loadName_local (by rw [hsc]; exact hk) (by show X.env.scope.names.lookup _ = _; rw [hsc]; exact hka) hn hm ?_
  obtain ⟨hp', g', d', t', os'⟩ := s
  refine PySem.ks_wpAny_isType_cls hD1 hD2 ⟨rfl, ?_⟩
  refine PySem.ks_wpAny_call_super hD1 hD2 hx hxc hnc (PySem.W.looks_mroIn KX hsub) (fun h' e k => ?_)
  exact h _ _ e k (I.kept (t' := t') k)

/-- super().__init__('..') of an exception that is being made -/
structure SupExc (K : PySem.W.Frag) (C D : Addr) : Prop where
  oex : OexC K C
  sub : PySem.W.mroIn K C (.ref D) = some true
  ini : PySem.W.ks_superIn K C D "__init__" = some (some (.builtin "ValueError.__init__"))
  ve : PySem.W.subIn K (.ref C) (.type "ValueError") = some true
  third : PySem.W.nsIn K cStatics "thirdparty.any" = some none
theorem sup_exc {p0 p1 p2 p3 p4 p5 : Pos} {j : Nat} {msg : Str} {E : Value → Shared → Prop} {Q : Flow → Shared → Prop} {ar : Arg} (SF : SupFn X.prog X.K f F D dvs fd) (SE : SupExc X.K C D) (hE : X.env = NdefX.envF F f X.env.locals) (I : Inv X pins σ H s)
    (hsup : X.mg "super" = none) (hp : (F.params.posonlyargs ++ F.params.args).head? = some ar) (i : Nat) (hN : X.N[i]? = some ar.arg) (hσ : σ[i]? = some (some (.ref x))) (hka : F.scope.names.lookup ar.arg = some .local)
    (hx : H x = some (exo x C none)) (hks : F.scope.names.lookup ("super" : Str) = some .globalImplicit) (hkc : F.scope.names.lookup ("__class__" : Str) = some .free) (hk : F.scope.kind = .function)
    (h : ∀ s', Inv X pins σ H s' → Q .next s') (hli : p2.endLine = p2.endLine)
    (hsw : swapsWith (.Call (.Attribute (.Call (.Name "super" p0) [] [] p1) "__init__" p2) [.Constant (.str msg) j p5] [] p3) none p4.line X.env = pure false := by rfl)
    (pl : Sem Bool) (he : eval (.Call (.Attribute (.Call (.Name "super" p0) [] [] p1) "__init__" p2) [.Constant (.str msg) j p5] [] p3) X.env = (do
      let ov ← attributeBase (.Call (.Name "super" p0) [] [] p1) "__init__" X.env (eval (.Call (.Name "super" p0) [] [] p1) X.env)
      standAt p2.atName
      let (f, first) ← holding [ov] (getMethod ov "__init__" pl)
      callWith p3 f first (backTo p3 (starEach [.Constant (.str msg) j p5] X.env)) [])) :
    PySem.wpAt (model X.prog X.w) X.A (.func F.body X.env) (exec (.Expr (.Call (.Attribute (.Call (.Name "super" p0) [] [] p1) "__init__" p2) [.Constant (.str msg) j p5] [] p3) p4) X.env) Q E s := by
  obtain ⟨t1, ho⟩ := exo_at I.hok hx
  obtain ⟨nm, q, N, bs, bm, sn, sub, ab, col, dd, k0, k1, k2, k3, k5, hC, hbm⟩ := SE.oex.cls
  refine PySem.ks_wpAt_Expr_any (PySem.ks_wpAt_MethodCall (pl := pl) (sup_base SF hE I hsup hp i hN hσ hka ho rfl (fun c z => nomatch z) SE.sub hks hkc hk (by decide +kernel) fun so s1 hso kp I1 => ?_) he) I.quiet hsw
  have KX1 : X.K.In s1.heap := I1.kIn
  have ho1 := kp _ _ ho
  have hmro := SE.ini
  unfold PySem.W.ks_superIn at hmro
  cases hcl : PySem.W.clsIn X.K C with
  | none => rw [hcl] at hmro; cases hmro
  | some cd =>
    rw [hcl] at hmro
    have LT : PySem.W.Looks (model X.prog X.w) s1.heap (typeOf (.ref x)) (.ref C) := fun A Q E s k q => wpAny_typeOf_ref (k _ _ ho1) q
    have hI : PySem.W.Looks (model X.prog X.w) s1.heap (isInstance (.ref x) (.type "ValueError")) true := LT.andThen (PySem.W.looks_subIn KX1 SE.ve)
    have hxC : x ≠ C := fun z => by
      have e1 := KX1 _ _ hC
      rw [← z, ho1] at e1
      cases e1
    obtain ⟨h1, g1, d1, t1', os1⟩ := s1
    refine PySem.W.kxs_getMethod PySem.W.kxs_ValueError hso (PySem.W.looks_opaque KX1 SE.third) (l₀ := cd.mro) ?_ rfl KX1 hmro hI hxC (by decide +kernel) ?_
    · exact fun A Q E s k q => wpAny_bind ((PySem.W.looks_clsIn KX1 hcl) A _ E s k (wpAny_pure q))
    · show wpAny _ _ (callWith p3 (.ref h1.objs.size) [] (backTo p3 (starEach [.Constant (.str msg) j p5] X.env)) []) _ _ _
      have I2 : Inv X pins σ H ⟨h1.push (PySem.W.kxs_mw "ValueError.__init__" x), g1, d1, t1' + 1, os1⟩ := I1.kept (t' := t1' + 1) fun b o e => Heap.get?_push_of_some _ e
      have hu : (h1.push (PySem.W.kxs_mw "ValueError.__init__" x)).get? h1.objs.size = some (PySem.W.kxs_mw "ValueError.__init__" x) := Heap.get?_push_size _ rfl
      refine PySem.W.kxs_callWith (i := "ValueError.__init__") (x := x) rfl (Calls.evalArgs_plain (Calls.spliced_cons (Calls.Constant_str (pos := p5) (k := j) (Calls.spliced_nil ⟨hu, ?_⟩))))
      have I3 := I2.tok (t1' + 1 + 1)
      have ho3 : (h1.push (PySem.W.kxs_mw "ValueError.__init__" x)).get? x = some _ := Heap.get?_push_of_some _ ho1
      have hC3 : (h1.push (PySem.W.kxs_mw "ValueError.__init__" x)).get? C = some _ := Heap.get?_push_of_some _ (KX1 _ _ hC)
      show wpAny _ _ (call (.ref h1.objs.size) [.str msg _] []) _ _ _
      refine wpAny_call (codeAny_of_tree ?_)
      show wpAny _ _ (callAny (.ref h1.objs.size) ⟨[.str msg _], []⟩) _ _ _
      simp only [callAny]
      refine wpAny_bind (wpAny_load hu ?_)
      simp only [PySem.W.kxs_mw, show (Value.type "method-wrapper" == Value.type "method" || Value.type "method-wrapper" == Value.type "builtin_function_or_method" || Value.type "method-wrapper" == Value.type "method-wrapper") = true by decide, if_true]
      refine PySem.W.KFB.if_so (by decide) ?_
      refine wpAny_bind (PySem.W.check_bound_init PySem.F.excBase_ValueError.toExcCallFacts hC3 ho3 rfl ?_)
      refine wpAny_bind (wpAny_pure (wpAny_pure ?_))
      refine ⟨plainId_quiet PySem.F.excBase_ValueError.init.plain _, codeAny_builtin PySem.F.excBase_ValueError.initEntry ?_⟩
      refine PySem.W.exc_init_tree (cls := .ref C) (dv := none) (c2 := .none) (c3 := .none) (b4 := .bool false) ho3 (by show 1 ≤ sizeLine; decide) fun h' k hx' _ => ?_
      have J := I3.write (t' := t1' + 1 + 1) (x := x) (e := x) (o := exo x C none) (by rw [hx]; exact True.intro) (.inl rfl) k ⟨_, hx'⟩ (exo_ok hx')
      have eu : upd H x (exo x C none) = H := by
        funext b
        by_cases hb : b = x
        · rw [hb, upd_same, hx]
        · rw [upd_ne hb]
      rw [eu] at J
      exact h _ J
end
end Ta

set_option Elab.async false
set_option linter.all false
set_option maxRecDepth 100000
set_option maxHeartbeats 1000000
namespace Ta
open PySem PySem.Spec PyProof.Rows L2

theorem upd_comm {H : Hp} {a b : Addr} {o u : HO} (h : a ≠ b) : upd (upd H a o) b u = upd (upd H b u) a o := by
  funext c
  unfold upd
  by_cases h1 : c = a
  · subst h1; simp [h]
  · by_cases h2 : c = b
    · subst h2; simp [h1]
    · simp [h1, h2]
/-- __init__ of an exception with the fields fs -/
def spE (C : Addr) (fs : List Str) : Sp := fun vs H Q _ => ∃ a ws, vs = .ref a :: ws ∧ ws.length = fs.length ∧ H a = some (exo a C none) ∧
  (fs = [] → Q .non H) ∧ (fs ≠ [] → ∀ dx, H dx = none → dx ≠ a → Q .non (upd (upd H dx (exd dx (fs.zip ws).reverse)) a (exo a C (some dx))))
section
variable {P : Program} {w : World} {K : PySem.W.Frag} {mg : Str → Option Value} {base : Heap} {f D C : Addr} {F : NdefX.NF} {fd : FuncData}
  {p0 p1 p2 p3 p4 p5 q0 q1 q2 q3 r0 r1 r2 r3 s0 s1 s2 s3 : Pos} {j : Nat} {msg g1 g2 g3 : Str}
abbrev supSt (p0 p1 p2 p3 p4 p5 : Pos) (j : Nat) (msg : Str) : Stmt := .Expr (.Call (.Attribute (.Call (.Name "super" p0) [] [] p1) "__init__" p2) [.Constant (.str msg) j p5] [] p3) p4
abbrev stoSt (q0 q1 q2 q3 : Pos) (g : Str) : Stmt := .Assign [.Attribute (.Name "self" q0) g q1] (.Name g q2) q3
theorem sup_start {N ps : List Str} {A : Around} {outer : List Env} {s : Shared} {H : Hp} {vs ws : List V} {E : XK} {T : St → Hp → Prop} {a : Addr} {ar : Arg} (SF : SupFn P K f F D [] fd) (SE : SupExc K C D) (S : NdefX.NScope N ps ["__class__"] F.scope)
    (hsup : mg "super" = none) (hp : (F.params.posonlyargs ++ F.params.args).head? = some ar) (hN : N[0]? = some ar.arg) (hka : F.scope.names.lookup ar.arg = some .local) (hks : F.scope.names.lookup ("super" : Str) = some .globalImplicit)
    (hev : ∀ env : Env, ∃ pl, eval (.Call (.Attribute (.Call (.Name "super" p0) [] [] p1) "__init__" p2) [.Constant (.str msg) j p5] [] p3) env = (do
      let ov ← attributeBase (.Call (.Name "super" p0) [] [] p1) "__init__" env (eval (.Call (.Name "super" p0) [] [] p1) env)
      standAt p2.atName
      let (f, first) ← holding [ov] (getMethod ov "__init__" pl)
      callWith p3 f first (backTo p3 (starEach [.Constant (.str msg) j p5] env)) [])) (hvs : vs = .ref a :: ws) (ha : H a = some (exo a C none)) (q : T (NdefX.startF N vs [some (.ref D)]) H) :
    ∀ s', Inv (NdefX.ncx (L2.CX P w) P w K mg base N F f A outer s H E) [] (NdefX.startF N vs [some (.ref D)]) H s' →
      PySem.wpAt (model P w) (A.deeper (NdefX.envF F f s.heap.objs.size)) (.func F.body (NdefX.envF F f s.heap.objs.size)) (exec (supSt p0 p1 p2 p3 p4 p5 j msg) (NdefX.envF F f s.heap.objs.size))
        (fun fl s'' => fl = .next ∧ ∃ σ' H', Inv (NdefX.ncx (L2.CX P w) P w K mg base N F f A outer s H E) [] σ' H' s'' ∧ T σ' H')
        (NdefX.ncx (L2.CX P w) P w K mg base N F f A outer s H E).xe s' := fun s' I => by
  obtain ⟨pl, hev⟩ := hev (NdefX.envF F f s.heap.objs.size)
  refine sup_exc (X := NdefX.ncx (L2.CX P w) P w K mg base N F f A outer s H E) SF SE rfl I hsup hp 0 hN (by subst hvs; rfl) hka ha hks (S.frk _ List.mem_cons_self) S.kind (fun s2 I2 => ⟨rfl, _, _, I2, q⟩) rfl rfl pl hev
theorem ok_exc0 (hbd : F.body = [supSt p0 p1 p2 p3 p4 p5 j msg]) (SF : SupFn P K f F D [] fd) (SE : SupExc K C D) (S : NdefX.NScope ["self", "__class__"] ["self"] ["__class__"] F.scope) (hsup : mg "super" = none)
    (hp : (F.params.posonlyargs ++ F.params.args).head?.map (·.arg) = some ("self" : Str)) (hks : F.scope.names.lookup ("super" : Str) = some .globalImplicit)
    (hev : ∀ env : Env, ∃ pl, eval (.Call (.Attribute (.Call (.Name "super" p0) [] [] p1) "__init__" p2) [.Constant (.str msg) j p5] [] p3) env = (do
      let ov ← attributeBase (.Call (.Name "super" p0) [] [] p1) "__init__" env (eval (.Call (.Name "super" p0) [] [] p1) env)
      standAt p2.atName
      let (f, first) ← holding [ov] (getMethod ov "__init__" pl)
      callWith p3 f first (backTo p3 (starEach [.Constant (.str msg) j p5] env)) [])) : FnOk P w K mg base (L2.CX P w) 1 f fd ["self"] (spE C []) := by
  obtain ⟨ar, hp, har⟩ := Option.map_eq_some_iff.mp hp
  refine fn_sup SF hbd S (fun vs H Q E h => ?_) (fun A outer s H vs Q E hr h => ?_)
  · obtain ⟨a, ws, rfl, hl, _⟩ := h
    simp at hl; subst hl; rfl
  · obtain ⟨a, ws, rfl, hl, ha, h1, h2⟩ := h
    refine ⟨tNext, pss_nil, ?_⟩
    exact sup_start (T := tNext _) SF SE S hsup hp (by rw [har]; rfl) (by rw [har]; exact S.par _ List.mem_cons_self) hks hev rfl ha (h1 rfl)
theorem ok_exc1 (hbd : F.body = [supSt p0 p1 p2 p3 p4 p5 j msg, stoSt q0 q1 q2 q3 g1]) (SF : SupFn P K f F D [] fd) (SE : SupExc K C D) (S : NdefX.NScope ["self", g1, "__class__"] ["self", g1] ["__class__"] F.scope) (hsup : mg "super" = none)
    (hp : (F.params.posonlyargs ++ F.params.args).head?.map (·.arg) = some ("self" : Str)) (hks : F.scope.names.lookup ("super" : Str) = some .globalImplicit) (hg : PySem.W.findIn K (.ref C) g1 = some none)
    (hd : (g1 == ("__debug__" : Str)) = false) (hd2 : (g1 == ("__classdict__" : Str)) = false)
    (hev : ∀ env : Env, ∃ pl, eval (.Call (.Attribute (.Call (.Name "super" p0) [] [] p1) "__init__" p2) [.Constant (.str msg) j p5] [] p3) env = (do
      let ov ← attributeBase (.Call (.Name "super" p0) [] [] p1) "__init__" env (eval (.Call (.Name "super" p0) [] [] p1) env)
      standAt p2.atName
      let (f, first) ← holding [ov] (getMethod ov "__init__" pl)
      callWith p3 f first (backTo p3 (starEach [.Constant (.str msg) j p5] env)) [])) : FnOk P w K mg base (L2.CX P w) 1 f fd ["self", g1] (spE C [g1]) := by
  obtain ⟨ar, hp, har⟩ := Option.map_eq_some_iff.mp hp
  refine fn_sup SF hbd S (fun vs H Q E h => ?_) (fun A outer s H vs Q E hr h => ?_)
  · obtain ⟨a, ws, rfl, hl, _⟩ := h
    simpa using hl
  · obtain ⟨a, ws, rfl, hl, ha, h1, h2⟩ := h
    obtain ⟨v, rfl⟩ : ∃ v, ws = [v] := by
      match ws, hl with
      | [v], _ => exact ⟨v, rfl⟩
    have hv := S.par g1 (by simp)
    have hs := S.par "self" (by simp)
    refine ⟨_, pss_one (ps_ost (pe_var (i := 0) rfl (.inl hs) (by decide +kernel) (by decide +kernel)) (pe_var (i := 1) rfl (.inl hv) hd hd2) (by rfl)), ?_⟩
    refine sup_start (T := tOst K g1 (tVar 0) (tVar 1) _) SF SE S hsup hp (by rw [har]; rfl) (by rw [har]; exact hs) hks hev rfl ha ?_
    exact ⟨v, rfl, .ref a, rfl, a, C, rfl, SE.oex, hg, .inl ⟨ha, fun dx n ne => h2 (by simp) dx n ne⟩⟩
theorem ok_exc2 (hbd : F.body = [supSt p0 p1 p2 p3 p4 p5 j msg, stoSt q0 q1 q2 q3 g1, stoSt r0 r1 r2 r3 g2]) (SF : SupFn P K f F D [] fd) (SE : SupExc K C D) (S : NdefX.NScope ["self", g1, g2, "__class__"] ["self", g1, g2] ["__class__"] F.scope) (hsup : mg "super" = none)
    (hp : (F.params.posonlyargs ++ F.params.args).head?.map (·.arg) = some ("self" : Str)) (hks : F.scope.names.lookup ("super" : Str) = some .globalImplicit) (hg : PySem.W.findIn K (.ref C) g1 = some none) (hg2 : PySem.W.findIn K (.ref C) g2 = some none)
    (hd : (g1 == ("__debug__" : Str)) = false) (hd2 : (g1 == ("__classdict__" : Str)) = false) (hd3 : (g2 == ("__debug__" : Str)) = false) (hd4 : (g2 == ("__classdict__" : Str)) = false)
    (hev : ∀ env : Env, ∃ pl, eval (.Call (.Attribute (.Call (.Name "super" p0) [] [] p1) "__init__" p2) [.Constant (.str msg) j p5] [] p3) env = (do
      let ov ← attributeBase (.Call (.Name "super" p0) [] [] p1) "__init__" env (eval (.Call (.Name "super" p0) [] [] p1) env)
      standAt p2.atName
      let (f, first) ← holding [ov] (getMethod ov "__init__" pl)
      callWith p3 f first (backTo p3 (starEach [.Constant (.str msg) j p5] env)) [])) : FnOk P w K mg base (L2.CX P w) 1 f fd ["self", g1, g2] (spE C [g1, g2]) := by
  obtain ⟨ar, hp, har⟩ := Option.map_eq_some_iff.mp hp
  refine fn_sup SF hbd S (fun vs H Q E h => ?_) (fun A outer s H vs Q E hr h => ?_)
  · obtain ⟨a, ws, rfl, hl, _⟩ := h
    simpa using hl
  · obtain ⟨a, ws, rfl, hl, ha, h1, h2⟩ := h
    obtain ⟨v, v2, rfl⟩ : ∃ v v2, ws = [v, v2] := by
      match ws, hl with
      | [v, v2], _ => exact ⟨v, v2, rfl⟩
    have hv := S.par g1 (by simp)
    have hv2 := S.par g2 (by simp)
    have hs := S.par "self" (by simp)
    refine ⟨_, pss_cons (ps_ost (pe_var (i := 0) rfl (.inl hs) (by decide +kernel) (by decide +kernel)) (pe_var (i := 1) rfl (.inl hv) hd hd2) (by rfl)) (pss_one (ps_ost (pe_var (i := 0) rfl (.inl hs) (by decide +kernel) (by decide +kernel)) (pe_var (i := 2) rfl (.inl hv2) hd3 hd4) (by rfl))), ?_⟩
    refine sup_start (T := tSeq (tOst K g1 (tVar 0) (tVar 1)) (tOst K g2 (tVar 0) (tVar 2)) _) SF SE S hsup hp (by rw [har]; rfl) (by rw [har]; exact hs) hks hev rfl ha ?_
    refine ⟨v, rfl, .ref a, rfl, a, C, rfl, SE.oex, hg, .inl ⟨ha, fun dx n ne => ?_⟩⟩
    refine ⟨v2, rfl, .ref a, rfl, a, C, rfl, SE.oex, hg2, .inr ⟨dx, _, upd_same, by rw [upd_ne ne, upd_same], by simp, ?_⟩⟩
    have e := h2 (by simp) dx n ne
    rw [upd_comm (Ne.symm ne), upd_upd]
    exact e
theorem ok_exc3 (hbd : F.body = [supSt p0 p1 p2 p3 p4 p5 j msg, stoSt q0 q1 q2 q3 g1, stoSt r0 r1 r2 r3 g2, stoSt s0 s1 s2 s3 g3]) (SF : SupFn P K f F D [] fd) (SE : SupExc K C D) (S : NdefX.NScope ["self", g1, g2, g3, "__class__"] ["self", g1, g2, g3] ["__class__"] F.scope) (hsup : mg "super" = none)
    (hp : (F.params.posonlyargs ++ F.params.args).head?.map (·.arg) = some ("self" : Str)) (hks : F.scope.names.lookup ("super" : Str) = some .globalImplicit) (hg : PySem.W.findIn K (.ref C) g1 = some none) (hg2 : PySem.W.findIn K (.ref C) g2 = some none) (hg3 : PySem.W.findIn K (.ref C) g3 = some none)
    (hd : (g1 == ("__debug__" : Str)) = false) (hd2 : (g1 == ("__classdict__" : Str)) = false) (hd3 : (g2 == ("__debug__" : Str)) = false) (hd4 : (g2 == ("__classdict__" : Str)) = false) (hd5 : (g3 == ("__debug__" : Str)) = false) (hd6 : (g3 == ("__classdict__" : Str)) = false)
    (hev : ∀ env : Env, ∃ pl, eval (.Call (.Attribute (.Call (.Name "super" p0) [] [] p1) "__init__" p2) [.Constant (.str msg) j p5] [] p3) env = (do
      let ov ← attributeBase (.Call (.Name "super" p0) [] [] p1) "__init__" env (eval (.Call (.Name "super" p0) [] [] p1) env)
      standAt p2.atName
      let (f, first) ← holding [ov] (getMethod ov "__init__" pl)
      callWith p3 f first (backTo p3 (starEach [.Constant (.str msg) j p5] env)) [])) :
    FnOk P w K mg base (L2.CX P w) 1 f fd ["self", g1, g2, g3] (spE C [g1, g2, g3]) := by
  obtain ⟨ar, hp, har⟩ := Option.map_eq_some_iff.mp hp
  refine fn_sup SF hbd S (fun vs H Q E h => ?_) (fun A outer s H vs Q E hr h => ?_)
  · obtain ⟨a, ws, rfl, hl, _⟩ := h
    simpa using hl
  · obtain ⟨a, ws, rfl, hl, ha, h1, h2⟩ := h
    obtain ⟨v, v2, v3, rfl⟩ : ∃ v v2 v3, ws = [v, v2, v3] := by
      match ws, hl with
      | [v, v2, v3], _ => exact ⟨v, v2, v3, rfl⟩
    have hv := S.par g1 (by simp)
    have hv2 := S.par g2 (by simp)
    have hv3 := S.par g3 (by simp)
    have hs := S.par "self" (by simp)
    refine ⟨_, pss_cons (ps_ost (pe_var (i := 0) rfl (.inl hs) (by decide +kernel) (by decide +kernel)) (pe_var (i := 1) rfl (.inl hv) hd hd2) (by rfl)) (pss_cons (ps_ost (pe_var (i := 0) rfl (.inl hs) (by decide +kernel) (by decide +kernel)) (pe_var (i := 2) rfl (.inl hv2) hd3 hd4) (by rfl))
      (pss_one (ps_ost (pe_var (i := 0) rfl (.inl hs) (by decide +kernel) (by decide +kernel)) (pe_var (i := 3) rfl (.inl hv3) hd5 hd6) (by rfl)))), ?_⟩
    refine sup_start (T := tSeq (tOst K g1 (tVar 0) (tVar 1)) (tSeq (tOst K g2 (tVar 0) (tVar 2)) (tOst K g3 (tVar 0) (tVar 3))) _) SF SE S hsup hp (by rw [har]; rfl) (by rw [har]; exact hs) hks hev rfl ha ?_
    refine ⟨v, rfl, .ref a, rfl, a, C, rfl, SE.oex, hg, .inl ⟨ha, fun dx n ne => ?_⟩⟩
    refine ⟨v2, rfl, .ref a, rfl, a, C, rfl, SE.oex, hg2, .inr ⟨dx, _, upd_same, by rw [upd_ne ne, upd_same], by simp, ?_⟩⟩
    refine ⟨v3, rfl, .ref a, rfl, a, C, rfl, SE.oex, hg3, .inr ⟨dx, _, by rw [upd_ne (Ne.symm ne), upd_same], upd_same, by simp, ?_⟩⟩
    have e := h2 (by simp) dx n ne
    rw [upd_upd, upd_comm (Ne.symm ne), upd_upd]
    exact e
end
/-! ### raise X(..) -/
section
variable (P : Program) (w : World) (K : PySem.W.Frag) (mg : Str → Option Value) (base : Heap)
structure Ex (x : Str) (C : Addr) (fs : List Str) : Prop where
  ex : ∃ (f : Addr) (fd : FuncData) (ps : List Str), FnOk P w K mg base (L2.CX P w) 1 f fd ps (spE C fs) ∧ PySem.W.findIn K (.ref C) "__init__" = some (some (.ref f)) ∧ PySem.W.typeIn K (.ref f) = some (.type "function") ∧ Binds K fd ps [] ∧ mg x = some (.ref C)
  oex : OexC K C
end
section
variable {X : Cx} {x : Str} {p pos : Pos} {e : Expr} {es : List Expr} {t : TA} {W : WX} {C : Addr} {fs : List Str}
def tRs (C : Addr) (fs : List Str) (W : WX) (t : TA) : TS := fun _ σ H => t σ H fun vs H1 => vs.length = fs.length ∧ ∀ d, H1 d = none → W (.ref C) (some d) σ (upd H1 d (.xd (fs.zip vs).reverse))
theorem xd_eq {H1 : Hp} {a d : Addr} {o1 o2 u v : HO} (ha : H1 a = none) (hda : d ≠ a) : upd (del (upd (upd (upd H1 a o1) d u) a o2) a) d v = upd H1 d v := by
  funext c
  unfold upd del
  by_cases h1 : c = d
  · simp [h1]
  · by_cases h2 : c = a
    · subst h2; simp [h1, ha]
    · simp [h1, h2]
theorem pmkE (G : Ex X.prog X.w X.K X.mg X.base x C fs) (hne : fs ≠ []) (hlen : fs.length ≤ 900) (hr : Room 2 X.A) (tk : Takes X W) (ha : PA X (e :: es) t) (hg : Gl X x) (hdb : (x == ("__debug__" : Str)) = false)
    (he : starEach (e :: es) X.env = (false, eval e X.env) :: starEach es X.env) (hpl : (backTo pos (starEach es X.env)).any (·.1) = false) :
    PMk X (.Call (.Name x p) (e :: es) [] pos) (fun σ H Q => t σ H fun vs H1 => vs.length = fs.length ∧ ∀ d, H1 d = none → Q (.ref C) (some d) (upd H1 d (.xd (fs.zip vs).reverse))) := by
  obtain ⟨fI, fd, ps, F1, iC, tI, hb, hm⟩ := G.ex
  have T := G.oex
  intro pins s σ H Q I h
  obtain ⟨nm, q, N, bs, bm, sn, sub, ab, col, dd, k0, k1, k2, k3, k5, hC, hbm⟩ := T.cls
  refine wpAny_Call_Name_kw (ld_glob I hg hm ?_ hdb)
  refine PySem.W.callWith_K (h₀ := X.base) I.ok.mod.kin T.kC (thn (ha.run pos pins s σ H _ I h) fun us s1 ⟨vs, H1, I1, r1, hz, q1⟩ => ⟨I1.kIn, ?_⟩) he hpl
  show wpAny _ _ (call (.ref C) us) _ _ _
  obtain ⟨hp, g, dr, tok, os⟩ := s1
  have hsz : hp.objs.size ≤ hp.objs.size + 1 := Nat.le_succ _
  have hn : H1 (hp.objs.size + 1) = none := I1.hok.fresh hsz
  have hq : spE C fs (.ref (hp.objs.size + 1) :: vs) (upd H1 (hp.objs.size + 1) (exo (hp.objs.size + 1) C none))
      (fun v H2 => v = .non ∧ ∃ (d : Addr) (gs : List (Str × V)), H2 (hp.objs.size + 1) = some (exo (hp.objs.size + 1) C (some d)) ∧ H2 d = some (exd d gs) ∧ H1 d = none ∧ Q (.ref C) (some d) (upd (del H2 (hp.objs.size + 1)) d (.xd gs))) (fun _ _ _ => False) := by
    refine ⟨_, vs, rfl, hz, upd_same, fun e0 => absurd e0 hne, fun _ dx n ne => ⟨rfl, dx, _, upd_same, by rw [upd_ne ne, upd_same], ?_, ?_⟩⟩
    · rw [upd_ne ne] at n; exact n
    · rw [upd_ne ne] at n
      rw [xd_eq hn ne]; exact q1 dx n
  have kk : ∀ b o, hp.get? b = some o → ((hp.push (PySem.W.kdv_tup us)).push (PySem.HandSPX.excO C hp.objs.size)).get? b = some o := fun b o e => Heap.get?_push_of_some _ (Heap.get?_push_of_some _ e)
  have hget : ((hp.push (PySem.W.kdv_tup us)).push (PySem.HandSPX.excO C hp.objs.size)).get? (hp.objs.size + 1) = some (PySem.HandSPX.excO C hp.objs.size) := by heap_get
  have I2 : Inv X pins σ (upd H1 (hp.objs.size + 1) (exo (hp.objs.size + 1) C none)) ⟨(hp.push (PySem.W.kdv_tup us)).push (PySem.HandSPX.excO C hp.objs.size), g, dr, tok, os⟩ :=
    I1.laid (t' := tok) (a := hp.objs.size + 1) (o := exo (hp.objs.size + 1) C none) (h' := (hp.push (PySem.W.kdv_tup us)).push (PySem.HandSPX.excO C hp.objs.size)) kk hsz (exo_ok hget)
  have r2 : Vals (V.ref (hp.objs.size + 1) :: vs) (Value.ref (hp.objs.size + 1) :: us) := .cons rfl r1
  have hl : (Value.ref (hp.objs.size + 1) :: us ++ []).length = ps.length := by
    have e := r2.length
    rw [F1.len _ _ _ _ hq] at e
    rw [List.append_nil]
    exact e.symm
  have hus : us.length ≤ sizeLine := by
    rw [← Paired.length r1, sizeLine_eq]
    omega
  have hbi := hb ⟨(hp.push (PySem.W.kdv_tup us)).push (PySem.HandSPX.excO C hp.objs.size), g, dr, tok, os⟩ (Value.ref (hp.objs.size + 1) :: us) I2.kIn hl
  rw [List.append_nil] at hbi
  refine wpAny_call (PySem.HandSPX.call_own PySem.F.excBase_ValueError (fun Y => PySem.HandSPX.refsVE_contains Y bm hbm) (I1.kIn _ _ hC) (PySem.W.looks_findIn I1.kIn iC) (fun self => PySem.W.bind_fn I1.kIn self tI) hus
    (codeAny_mono (F1.run _ X.stack _ _ ⟨Value.ref (hp.objs.size + 1) :: us, []⟩ (Value.ref (hp.objs.size + 1) :: us) _ _ (fun _ _ _ => False) (hr.make C us []) (I2.env0.make C us []) hbi r2 hq) fun r s' hq' => ?_))
  cases r with
  | error er => exact tk er s' (XE.of_call I2 (fun _ _ _ z => z.elim) hq')
  | ok fl =>
    cases fl with
    | ret u =>
      obtain ⟨v, H2, os2, bare2, un2, hok2, rv, ev, d, gs, ea, ed, hd1, q2⟩ := hq'
      subst ev
      obtain ⟨h2, g2, d2, t2, os'⟩ := s'
      exact ⟨rv, mk_end (raises_own T.exC T.tyC) I1 hsz kk un2 hok2 os2 bare2 ea ed hd1 q2⟩
    | next => exact False.elim hq'
    | brk => exact False.elim hq'
    | cont => exact False.elim hq'
theorem praise (G : Ex X.prog X.w X.K X.mg X.base x C fs) (hr : Room 2 X.A) (tk : Takes X W) (ha : PA X (e :: es) t) {pos' : Pos} (hc : X.calm = true := by rfl) (hne : fs ≠ [] := by decide) (hlen : fs.length ≤ 900 := by decide) (hg : Gl X x := by rfl) (hdb : (x == ("__debug__" : Str)) = false := by decide +kernel)
    (he : starEach (e :: es) X.env = (false, eval e X.env) :: starEach es X.env := by rfl) (hpl : (backTo pos (starEach es X.env)).any (·.1) = false := by rfl) :
    PS X (.Raise (some (.Call (.Name x p) (e :: es) [] pos)) none pos') (tRs C fs W t) :=
  ps_raise hc tk (pmkE G hne hlen hr tk ha hg hdb he hpl)
end
end Ta

set_option Elab.async false
set_option linter.all false
set_option maxRecDepth 100000
set_option maxHeartbeats 1000000
namespace Ta
open PySem PySem.Spec PyProof.Rows L2

/-! ### a caught exception: its fields, isinstance -/
section
variable {X : Cx} {a : Addr} {oe : Obj} {cls : Value} {d : Option Addr} {pn : List (Addr × Obj)}
structure XC (K : PySem.W.Frag) (C : Addr) : Prop where
  x : XfC K C
  e : ExcC K C
def tXat (K : PySem.W.Frag) (a : Addr) (cls : Value) (d : Option Addr) (f : Str) (te : TE) : TE := fun σ H Q => te σ H fun x H1 => x = .ref a ∧ match cls with
  | .ref C => (match d with
    | some dd => XC K C ∧ PySem.W.findIn K (.ref C) f = some none ∧ look H1 dd fun o => (match o with
      | some (.xd fs) => fld fs f fun v => Q v H1
      | _ => False)
    | none => False)
  | _ => False
theorem tXat_e {K : PySem.W.Frag} {cls : Value} {d : Option Addr} {f : Str} {H1 : Hp} {k : V → Prop} (h : match cls with
  | .ref C => (match d with
    | some dd => XC K C ∧ PySem.W.findIn K (.ref C) f = some none ∧ look H1 dd fun o => (match o with
      | some (.xd fs) => fld fs f fun v => k v
      | _ => False)
    | none => False)
  | _ => False) : ∃ (C dd : Addr), cls = .ref C ∧ d = some dd ∧ XC K C ∧ PySem.W.findIn K (.ref C) f = some none ∧ look H1 dd fun o => match o with
    | some (.xd fs) => fld fs f fun v => k v
    | _ => False := by
  cases cls with
  | ref C =>
    cases d with
    | none => exact h.elim
    | some dd => exact ⟨C, dd, rfl, rfl, h⟩
  | _ => exact h.elim
theorem pxat {e : Expr} {te : TE} {pos : Pos} {n : Str} (hz : Zc cls d oe) (hf : ∃ vs, oe.data = .fields vs) (he : PE (X.suite a ((a, oe) :: pn)) e te) (hb : attributeBase e n X.env (eval e X.env) = eval e X.env := by rfl) :
    PE (X.suite a ((a, oe) :: pn)) (.Attribute e n pos) (tXat X.K a cls d n te) := by
  refine ⟨fun pins s σ H Q I h => ?_⟩
  refine attr_of hb (thn (he.run pins s σ H _ I h) fun u s1 hh => ?_)
  obtain ⟨x, H1, I1, rx, ex, hh⟩ := hh
  obtain ⟨C, dd, ec, ed, T, hno, q⟩ := tXat_e hh
  subst ex
  obtain rfl : u = Value.ref a := rx
  subst ec
  subst ed
  have q := look_e q
  cases ea : H1 dd with
  | none => rw [ea] at q; exact q.elim
  | some ob =>
    rw [ea] at q
    cases ob with
    | xd fs =>
      obtain ⟨v, l, q⟩ := fld_e q
      obtain ⟨ha, _⟩ := I1.pin (a, oe) (List.mem_append_left _ List.mem_cons_self)
      obtain ⟨vs, hd⟩ := hf
      have hx : ObjOk X.prog X.w H1 s1.heap dd (.xd fs) := I1.hok dd _ ea
      obtain ⟨mA, hns, hr⟩ := hx
      obtain ⟨od, ho, hl⟩ := lookIn_ns hns
      obtain ⟨u, hu, ru⟩ := RelO.some_of (v := v) (o := mA n) (by rw [← l]; exact hr n)
      have J : PySem.W.InstAt s1.heap a oe C (some od) := ⟨ha, hz.1, by unfold PySem.W.notCls; rw [hd] <;> rfl, by rw [hz.2]; exact ho⟩
      exact HandSPX.exc_get I1.kIn J T.x.ga T.x.gg T.x.exC (PySem.W.findObj_own T.x.hdC hno rfl (by rw [hl, hu])) (handed_of ru) ⟨v, H1, I1.tok _, ru, q⟩
    | _ => exact q.elim
def clsOf : V → Value
  | .ty n => .type n
  | .ref C => .ref C
  | _ => .none
def isCls : V → Bool
  | .ty _ => true
  | .ref _ => true
  | _ => false
theorem clsV_of {c : V} (h : isCls c = true) : ClsV c (clsOf c) := by
  cases c with
  | ty n => exact .ty n
  | ref C => exact .own C
  | _ => cases h
theorem clsV_all : ∀ {cs : List V}, cs.all isCls = true → Paired ClsV cs (cs.map clsOf)
  | [], _ => .nil
  | c :: cs, h => by
    simp only [List.all_cons, Bool.and_eq_true] at h
    exact .cons (clsV_of h.1) (clsV_all h.2)
/-- isinstance's second argument: a class, a tuple of classes that was laid -/
structure isaP (K : PySem.W.Frag) (t : Value) (c : V) (H : Hp) (Q : Bool → Prop) : Prop where
  out : (isCls c = true ∧ ∃ b, PySem.W.kitOne K t (clsOf c) = some b ∧ Q b) ∨ ∃ tp cs b, c = .ref tp ∧ H tp = some (.tup cs) ∧ cs.all isCls = true ∧ PySem.W.kitAny K t (cs.map clsOf) = some b ∧ Q b
theorem isa_1 {K : PySem.W.Frag} {t : Value} {c : V} {H : Hp} {Q : Bool → Prop} {b : Bool} (h : isCls c = true) (h2 : PySem.W.kitOne K t (clsOf c) = some b) (q : Q b) : isaP K t c H Q := by
  refine ⟨?_⟩; exact .inl ⟨h, b, h2, q⟩
theorem isa_t {K : PySem.W.Frag} {t : Value} {tp : Addr} {cs : List V} {H : Hp} {Q : Bool → Prop} {b : Bool} (h : H tp = some (.tup cs)) (h1 : cs.all isCls = true) (h2 : PySem.W.kitAny K t (cs.map clsOf) = some b) (q : Q b) : isaP K t (.ref tp) H Q := by
  refine ⟨?_⟩; exact .inr ⟨tp, cs, b, rfl, h, h1, h2, q⟩
/-- isinstance(e, ..), e the caught exception -/
def zIsX (K : PySem.W.Frag) (a : Addr) (cls : Value) (d : Option Addr) : List V → Hp → VK → Prop := fun xs H Q => two xs fun x c => x = .ref a ∧ match cls with
  | .ref D => XC K D ∧ (match d with
    | some dd => look H dd fun o => (match o with
      | some (.xd fs) => isaP K (.ref D) c H fun b => Q (.bl b) H
      | _ => False)
    | none => isaP K (.ref D) c H fun b => Q (.bl b) H)
  | _ => False
theorem zIsX_e {K : PySem.W.Frag} {cls : Value} {d : Option Addr} {c : V} {H : Hp} {k : Bool → Prop} (h : match cls with
  | .ref D => XC K D ∧ (match d with
    | some dd => look H dd fun o => (match o with
      | some (.xd fs) => isaP K (.ref D) c H k
      | _ => False)
    | none => isaP K (.ref D) c H k)
  | _ => False) : (∃ D, cls = .ref D ∧ XC K D) ∧ (∀ dd, d = some dd → ∃ fs, H dd = some (.xd fs)) ∧ isaP K cls c H k := by
  cases cls with
  | ref D =>
    obtain ⟨h1, h2⟩ := h
    cases d with
    | none => exact ⟨⟨D, rfl, h1⟩, fun _ z => (nomatch z), h2⟩
    | some dd =>
      have h2 := look_e h2
      cases e : H dd with
      | none => rw [e] at h2; exact h2.elim
      | some o =>
        rw [e] at h2
        cases o with
        | xd fs => exact ⟨⟨D, rfl, h1⟩, fun dd' z => by cases z; exact ⟨fs, e⟩, h2⟩
        | _ => exact h2.elim
  | _ => exact h.elim
theorem crisx (hz : Zc cls d oe) (hf : ∃ vs, oe.data = .fields vs) : CallR (X.suite a ((a, oe) :: pn)) (.builtin "isinstance") (zIsX X.K a cls d) := by
  intro pins s σ H xs us Q I r h
  obtain ⟨x, c, rfl, h⟩ := two_e h
  obtain ⟨rfl, h'⟩ := h
  obtain ⟨⟨D, rfl, T⟩, hdd, h⟩ := zIsX_e (k := fun b => Q (.bl b) H) h'
  obtain ⟨u1, u2, rfl, r1, r2⟩ := vals2 r
  cases (show u1 = Value.ref a from r1)
  obtain ⟨hget, _⟩ := I.pin (a, oe) (List.mem_append.mpr (.inl List.mem_cons_self))
  obtain ⟨vs, hv⟩ := hf
  have J : ∃ od, PySem.W.InstAt s.heap a oe D od := by
    cases d with
    | none => exact ⟨none, hget, hz.1, by unfold PySem.W.notCls; rw [hv] <;> rfl, by rw [hz.2]; trivial⟩
    | some dd =>
      obtain ⟨fs, hx⟩ := hdd dd rfl
      obtain ⟨mA, hns, _⟩ := (show ObjOk X.prog X.w H s.heap dd (.xd fs) from I.hok dd _ hx)
      obtain ⟨od, ho, _⟩ := lookIn_ns hns
      exact ⟨some od, hget, hz.1, by unfold PySem.W.notCls; rw [hv] <;> rfl, by rw [hz.2]; exact ho⟩
  obtain ⟨od, J⟩ := J
  have hcl : (PySem.W.clsIn X.K D).isSome = true := by
    obtain ⟨cd, h1, _⟩ := PySem.W.any_some T.e.hd
    rw [h1]; rfl
  have Z := PySem.W.kitx_exc (x := a) (ox := oe) (od := od) hcl T.e.hg T.e.hk T.e.hs T.e.ha T.e.hn T.e.ht T.e.hm
  replace h := h.out
  rcases h with ⟨hc, b, e, q⟩ | ⟨tp, cs, b, rfl, hT, hc, e, q⟩
  · have e2 := (clsV_of hc).eq r2
    subst e2
    exact PySem.W.kia_one Z I.kIn J e (fun z => nomatch z) fun tk => ⟨.bl b, H, I.kept (t' := tk) fun _ _ z => z, rfl, q⟩
  · cases (show u2 = Value.ref tp from r2)
    obtain ⟨_, its, rv, o, h1, h2, n, h3⟩ := (show ObjOk X.prog X.w H s.heap tp (.tup cs) from I.hok tp _ hT)
    have e3 := ClsV.all (clsV_all hc) rv
    subst e3
    obtain ⟨oc, odd, dt, sl⟩ := o
    simp only at h2 h3
    subst h2 h3
    exact PySem.W.kia_tup Z I.kIn J h1 e (fun z => nomatch z) fun tk => ⟨.bl b, H, I.kept (t' := tk) fun _ _ z => z, rfl, q⟩
structure IsC (K : PySem.W.Frag) (C : Addr) : Prop where
  ex : ∀ (H : Hp) (a dx : Addr) (fs : List (Str × V)), H a = some (.ins C dx fs) → TyOf K H (.ref a) (.ref C)
/-- isinstance(x, ..) of any value -/
def tyOf (K : PySem.W.Frag) (x : V) (H : Hp) (k : Value → Prop) : Prop := match x with
  | .str _ => k (.type "str")
  | .int _ => k (.type "int")
  | .bl _ => k (.type "bool")
  | .non => k (.type "NoneType")
  | .ref p => look H p fun o => match o with
    | some (.ins C dx fs) => IsC K C ∧ k (.ref C)
    | some (.lst xs) => k (.type "list")
    | some (.tup xs) => k (.type "tuple")
    | some (.dK xs) => k (.type "dict")
    | _ => ∃ t, TyX K H (.ref p) t ∧ k t
  | _ => False
theorem tyOf_e {K : PySem.W.Frag} {x : V} {H : Hp} {k : Value → Prop} (h : tyOf K x H k) : ∃ t, TyX K H x t ∧ k t := by
  cases x with
  | str z => exact ⟨_, .base (.str z), h⟩
  | int z => exact ⟨_, .base (.int z), h⟩
  | bl z => exact ⟨_, .base (.bl z), h⟩
  | non => exact ⟨_, .base .non, h⟩
  | ref p =>
    have h := look_e h
    revert h
    cases e : H p with
    | none => exact fun h => h
    | some o =>
      cases o with
      | ins C dx fs => exact fun h => ⟨_, .base (h.1.ex H p dx fs e), h.2⟩
      | lst xs => exact fun h => ⟨_, .base (.lst e), h⟩
      | tup xs => exact fun h => ⟨_, .base (.tup e), h⟩
      | dK xs => exact fun h => ⟨_, .base (.dK e), h⟩
      | _ => exact fun h => h
  | _ => exact h.elim
def zIsa (K : PySem.W.Frag) : List V → Hp → VK → Prop := fun xs H Q => two xs fun x c => tyOf K x H fun t => isaP K t c H fun b => Q (.bl b) H
theorem crisa {X : Cx} : CallR X (.builtin "isinstance") (zIsa X.K) := by
  refine cr_imp (call_isi.or call_isiT) fun xs H Q h => ?_
  obtain ⟨x, c, rfl, h'⟩ := two_e h
  obtain ⟨t, ht, h⟩ := tyOf_e (K := X.K) (k := fun t => isaP X.K t c H fun b => Q (.bl b) H) h'
  replace h := h.out
  rcases h with ⟨hc, b, e, q⟩ | ⟨tp, cs, b, rfl, hT, hc, e, q⟩
  · exact .inl ⟨x, c, t, _, b, rfl, clsV_of hc, ht, e, q⟩
  · exact .inr ⟨x, tp, cs, t, _, b, rfl, hT, clsV_all hc, ht, e, q⟩
end
/-! ### a def: its promise by its body -/
section
variable {P : Program} {w : World} {K : PySem.W.Frag} {mg : Str → Option Value} {base : Heap} {x qual : Str} {params : Arguments} {body : List Stmt} {scope : Scope} {dvs : List V} {kws : List (Str × V)} {f : Addr} {fd : FuncData}
/-- the wish of a def about what is raised -/
abbrev WD (E : XK) : WX := fun c d _ H => E c d H
abbrev EndD (Q : VK) : Ends := { nx := fun _ H' => Q .non H', rt := Q }
theorem def_ok {N ps : List Str} {k : Nat} {sp : Sp} (F : FunD K x qual params body scope dvs kws f fd) (S : FnScope N ps scope) (len : ∀ vs H Q E, sp vs H Q E → vs.length = ps.length) (t : WX → TS)
    (term : ∀ (cdv : Value) (A : Around) (outer : List Env) (s : Shared) (H : Hp) (E : XK), Room k (A.deeper (envOfC qual scope s.heap.objs.size f cdv)) → PSs (cxOf (L2.CX P w) P w K mg base N qual scope f cdv A outer s H E) body (t (WD E)))
    (rd : ∀ vs H Q E, sp vs H Q E → t (WD E) (EndD Q) (start N vs) H) : FnOk P w K mg base (L2.CX P w) (k + 1) f fd ps sp := by
  refine F.ok S len fun cdv A outer s H vs Q E hr h => ⟨t (WD E), ?_, rd vs H Q E h⟩
  exact term cdv A outer s H E hr
/-- the wish of the def's context -/
theorem takesD {P : Program} {w : World} {K : PySem.W.Frag} {mg : Str → Option Value} {base : Heap} {N : List Str} {qual : Str} {scope : Scope} {f : Addr} {cdv : Value} {A : Around} {outer : List Env} {s : Shared} {H : Hp} {E : XK} :
    Takes (cxOf (L2.CX P w) P w K mg base N qual scope f cdv A outer s H E) (WD E) := takes_of rfl rfl rfl rfl
theorem ownD {P : Program} {w : World} {K : PySem.W.Frag} {mg : Str → Option Value} {base : Heap} {N : List Str} {qual : Str} {scope : Scope} {f : Addr} {cdv : Value} {A : Around} {outer : List Env} {s : Shared} {H : Hp} {E : XK} :
    PassesOwn (model P w) (cxOf (L2.CX P w) P w K mg base N qual scope f cdv A outer s H E).A (cxOf (L2.CX P w) P w K mg base N qual scope f cdv A outer s H E).env (cxOf (L2.CX P w) P w K mg base N qual scope f cdv A outer s H E).xe := PassesOwn.leaving
end
end Ta
namespace Ta
open PySem PySem.Spec PyProof.Rows L2
/-! ### short forms for printed terms -/
section
variable {X : Cx}
theorem pset (i : Nat) {x : Str} {e : Expr} {te : TE} {pos pos' : Pos} (hN : X.N.Nodup) (he : PE X e te) (hi : X.N[i]? = some x := by rfl) (hx : Loc X.env.scope x := by first | exact Or.inl rfl | exact Or.inr rfl)
    (hs : swapsWith e (some (.Name x pos')) pos.line X.env = pure false := by rfl) (hf : X.fn x = true ∨ X.env.scope.names.lookup x = some .local := by first | exact .inl rfl | exact .inr rfl) : PS X (.Assign [.Name x pos'] e pos) (tAsg te (gName i)) := ps_set hN hi hx he hs hf
theorem pgn (i : Nat) {x : Str} {pos : Pos} (hN : X.N.Nodup) (hi : X.N[i]? = some x := by rfl) (hx : Loc X.env.scope x := by first | exact Or.inl rfl | exact Or.inr rfl)
    (hf : X.fn x = true ∨ X.env.scope.names.lookup x = some .local := by first | exact .inl rfl | exact .inr rfl) : PG X (.Name x pos) (gName i) := pg_name hN hi hx hf
theorem psub {o i e : Expr} {to ti te : TE} {pos pos' : Pos} (he : PE X e te) (ho : PE X o to) (hi : PE X i ti) (hs : swapsWithSole [.Subscript o i pos'] e pos.line X.env = pure false := by rfl) (hw : swappedStores [.Subscript o i pos'] e X.env = pure none := by rfl)
    (h3 : List.map (fun x => x.snd) (assignEach [.Subscript o i pos'] X.env) = [assign (.Subscript o i pos') X.env] := by rfl) (h4 : ∀ v : Value, assign (.Subscript o i pos') X.env v = (do
      let ov ← holding [v] (eval o X.env)
      let iv ← holding [v, ov] (eval i X.env)
      standAt pos'
      holding [v, ov, iv] (setItem ov iv v)
      release [v, ov, iv] []) := by intro v; rfl) : PS X (.Assign [.Subscript o i pos'] e pos) (tAsg te (gSub to ti zSetP)) := ps_asg he (pg_sub ho hi setp h4) hs hw h3
end
end Ta

set_option Elab.async false
set_option linter.all false
set_option maxRecDepth 100000
set_option maxHeartbeats 3200000
namespace Ta
open PySem PySem.Spec PyProof.Rows L2

/-! ### len(set(text)) -/
def dn {α : Type} [BEq α] (l : List α) : Nat := l.eraseDups.length
theorem dn_snoc {α : Type} [BEq α] [LawfulBEq α] (l : List α) (x : α) : dn (l ++ [x]) = if l.any (· == x) = true then dn l else dn l + 1 := by
  unfold dn
  rw [List.eraseDups_append]
  by_cases h : x ∈ l
  · have e : [x].removeAll l = [] := by simp [List.removeAll, h]
    rw [e, if_pos (by simpa using h)]; simp
  · have e : [x].removeAll l = [x] := by simp [List.removeAll, h]
    rw [e, if_neg (by simpa using h)]; simp [List.eraseDups_cons]
section
variable {prog : Program} {w : World} {A : Around} {R : Result → Shared → Prop} {I : Addr} {fp wr : List Addr} {G : Array GenState → Array GenState → Prop} {n : Nat} {P : Nat → Value → Prop} {St : Nat → Shared → Prop}
theorem dn_le {α : Type} [BEq α] [LawfulBEq α] (l : List α) : dn l ≤ l.length := by
  suffices h : ∀ m : List α, dn m.reverse ≤ m.reverse.length by
    have z := h l.reverse
    rw [List.reverse_reverse] at z
    exact z
  intro m
  induction m with
  | nil => simp [dn]
  | cons x m ih =>
    rw [List.reverse_cons, dn_snoc]
    split <;> simp <;> simp at ih <;> omega
theorem loopN (W : WalksS prog w A.in1 I fp wr G n P St) (S : Addr) (hSf : S ∉ fp) (xs : List Str) (hsz : xs.length = n) (hn1 : n + 1 < scanBound)
    (hval : ∀ i v, P i v → ∃ t, v = .str (xs.getD i Str.empty) t) :
    ∀ (k i : Nat) (s : Shared), n - i = k → i ≤ n → St i s →
      s.heap.SetOf (PySem.strKind prog w) S (fun k' => (xs.take i).any (· == k')) (dn (xs.take i)) →
      (∀ s', Moved (S :: wr) G s s' → s'.heap.SetOf (PySem.strKind prog w) S (fun k' => xs.any (· == k')) (dn xs) → R (.ok (.ret .none)) s') →
      codeAny (model prog w) A (.builtin "set.update.loop" ⟨[.ref S, .ref I], []⟩) R s := by
  have hSw : S ∉ wr := fun h => hSf (W.sub _ h)
  have hsub : ∀ b ∈ wr, b ∈ S :: wr := fun b hb => List.mem_cons_of_mem _ hb
  intro k
  induction k with
  | zero =>
    intro i s hk hi hst hS hR
    have hin : i = n := by omega
    subst hin
    refine codeAny_builtin PyProof.Rows.F.entry_set_update_loop ?_
    rw [Around.under_plainId PyProof.Rows.F.plain_set_update_loop _]
    show wpAny _ A.in1 (pyNext (.ref I) >>= _) _ _ s
    refine wpAny_bind (W.done s _ _ hst fun s' hm => ?_)
    show wpAny _ A.in1 (ret Value.none) _ _ s'
    rw [List.take_of_length_le (Nat.le_of_eq hsz)] at hS
    exact wpAny_pure (hR s' (hm.mono hsub) (by
      obtain ⟨o, es, ep, t, ho, rest⟩ := hS
      exact ⟨o, es, ep, t, hm.heap S _ hSw ho, rest⟩))
  | succ k ih =>
    intro i s hk hi hst hS hR
    have hlt : i < n := by omega
    have hlx : i < xs.length := by omega
    refine codeAny_builtin PyProof.Rows.F.entry_set_update_loop ?_
    rw [Around.under_plainId PyProof.Rows.F.plain_set_update_loop _]
    show wpAny _ A.in1 (pyNext (.ref I) >>= _) _ _ s
    refine wpAny_bind (W.item i s _ _ hlt hst fun v s' hP hst' hm => ?_)
    obtain ⟨t, rfl⟩ := hval i v hP
    have hS' : s'.heap.SetOf (PySem.strKind prog w) S (fun k' => (xs.take i).any (· == k')) (dn (xs.take i)) := by
      obtain ⟨o, es, ep, tb, ho, rest⟩ := hS
      exact ⟨o, es, ep, tb, hm.heap S _ hSw ho, rest⟩
    show wpAny _ A.in1 (holding [Value.str (xs.getD i Str.empty) t] (setAdd S (.str (xs.getD i Str.empty) t)) >>= _) _ _ s'
    refine wpAny_bind (wpAny_holding ?_)
    unfold setAdd
    refine wpAny_holding ?_
    refine wpAny_bind ((PySem.strKind prog w).pyHash (k := xs.getD i Str.empty) (strKind_is _ _ _ _) ?_)
    have hdn := dn_le (xs.take i)
    have htk : (xs.take i).length ≤ i := by rw [List.length_take]; omega
    refine wpAny_setAddHashed_of (knd := PySem.strKind prog w) (s := { s' with toks := s'.toks + 1 }) (strKind_is _ _ _ _) rfl hS' (by unfold scanBound at hn1 ⊢; omega) fun h' hsb hS2 => ?_
    have ex : xs.getD i Str.empty = xs[i] := by simp [List.getD, hlx]
    have et : xs.take (i + 1) = xs.take i ++ [xs[i]] := by rw [List.take_succ_eq_append_getElem hlx]
    have hSi : h'.SetOf (PySem.strKind prog w) S (fun k' => (xs.take (i + 1)).any (· == k')) (dn (xs.take (i + 1))) := by
      refine SetOf_congr hS2 (fun k' => ?_) ?_
      · show ((xs.take i).any (· == k') || decide (k' = xs.getD i Str.empty)) = (xs.take (i + 1)).any (· == k')
        rw [et, ex, List.any_append]
        congr 1
        by_cases e : k' = xs[i]
        · subst e; simp
        · have hb : (xs[i] == k') = false := by simpa [beq_iff_eq] using (fun h' : xs[i] = k' => e h'.symm)
          simp [hb, e]
      · rw [et, dn_snoc, ex]
    refine wpAny_pure ⟨plainId_quiet PyProof.Rows.F.plain_set_update_loop _, ih (i + 1) _ (by omega) hlt (W.frame _ s' _ _ hst' (Nat.le_succ _) fun b hb o e => ?_) hSi fun s'' hm'' hS'' => ?_⟩
    · rw [hsb.2 b (fun h : b = S => hSf (by rw [← h]; exact hb))]; exact e
    · refine hR s'' (Moved.trans W.gtrans ((hm.mono hsub).then_heap (Nat.le_succ _) fun b o hb e => ?_) hm'') hS''
      rw [hsb.2 b (fun h : b = S => hb (by rw [h]; exact List.mem_cons_self))]; exact e
end
section
variable {prog : Program} {w : World} {A : Around} {E : Value → Shared → Prop} {s : Shared}
def one1 (l : List Nat) : List Str := l.map fun c => S [c]
theorem sign_one {x : Str} {i : Nat} {v : Value} (h : SignAt x i v) : ∃ t, v = .str ((one1 (tl x)).getD i Str.empty) t := by
  obtain ⟨c, u, h1, rfl⟩ := h
  have e : (tl x)[i]? = some c := by simpa [tl] using h1
  exact ⟨u, by simp [one1, List.getD, List.getElem?_map, e]⟩
theorem call_set_text {x : Str} {t : Tok} {Q : Value → Shared → Prop} (hh : A.handled = none) (hn : (tl x).length + 1 < scanBound)
    (h : ∀ (h' : Heap) (tk : Nat), h'.SetOf (PySem.strKind prog w) s.heap.objs.size (fun k' => (one1 (tl x)).any (· == k')) (dn (one1 (tl x))) →
      (∀ b o, b < s.heap.objs.size → s.heap.get? b = some o → h'.get? b = some o) → Q (.ref s.heap.objs.size) { s with heap := h', toks := tk }) :
    wpAny (model prog w) A (call (.type "set") [.str x t]) Q E s := by
  obtain ⟨c, tl', hmro⟩ := PySem.F.called_set.mro
  have hmade := PySem.F.called_set.made
  have hsub := PySem.F.called_set.sub
  refine wpAny_call (codeAny_of_tree ?_)
  show wpAny _ _ (callAny (.type "set") _) _ _ _
  refine wpAny_pure ⟨Code.quiet_builtin _ (by decide +kernel), codeAny_builtin PySem.F.entry_type_call ?_⟩
  rw [Around.under_plain (weight_type_call_type "set" [.str x t] []) rfl]
  have h1 := PySem.F.called_set.notType
  have h2 := PySem.F.called_set.canCreate
  have hct := PySem.F.typeCall_set_1 (.str x t)
  repeat (any_goals (first | assumption | wp_step))
  refine codeAny_mono (code_set_new_1 (.str x t) (E := E) (Q₁ := fun obj s₁ => ∃ led : Bool, obj = .ref s.heap.objs.size ∧ s₁ = { s with heap := s.heap.push { cls := .type "set", dict := none, data := .set #[] 0 (.fresh 0 0 led) } }) fun led => ⟨led, rfl, rfl⟩) fun r s₁ hr => ?_
  cases r with
  | error e => exact hr
  | ok fl =>
    cases fl with
    | ret obj =>
      obtain ⟨led, rfl, rfl⟩ := hr
      have hS : (s.heap.push { cls := .type "set", dict := none, data := .set #[] 0 (.fresh 0 0 led) }).get? s.heap.objs.size = some { cls := .type "set", dict := none, data := .set #[] 0 (.fresh 0 0 led) } := Heap.get?_push_size _ rfl
      have hT : Shared.TypeIs { s with heap := s.heap.push { cls := .type "set", dict := none, data := .set #[] 0 (.fresh 0 0 led) } } (.ref s.heap.objs.size) "set" := ⟨_, hS, rfl⟩
      have hli := PySem.F.called_set.init.lookup
      have hbi := PySem.F.called_set.init.bind (.ref s.heap.objs.size)
      repeat (any_goals (first | assumption | wp_step))
      refine codeAny_mono (codeAny_call_builtin (R := wants (fun r s₂ => r = .none ∧ ∃ h' tk, s₂ = { s with heap := h', toks := tk } ∧
          h'.SetOf (PySem.strKind prog w) s.heap.objs.size (fun k' => (one1 (tl x)).any (· == k')) (dn (one1 (tl x))) ∧
          (∀ b o, b < s.heap.objs.size → s.heap.get? b = some o → h'.get? b = some o)) E) PySem.F.called_set.init.plain PySem.F.entry_set_init (check_set_init_1 hT ?_)) fun r₂ s₂ hr₂ => ?_
      · have hsls := PySem.F.sub_str_set
        have hslf := PySem.F.sub_str_frozenset
        have hne : (Value.type "str" == Value.type "dict") = false := by decide
        unfold Builtin.«set.__init__» noKeywords Builtin.Frozenset.updateFrom
        generalize hPI : pyIter = PI
        wp_walk
        subst hPI
        refine wpAny_pyIter_str fun o St W hst => ?_
        refine wpAny_bind (wpAny_runValue ?_)
        have hh3 : A.in1.in1.in1.handled = none := by simp [hh]
        have hSf : s.heap.objs.size ∉ [(s.heap.push { cls := .type "set", dict := none, data := .set #[] 0 (.fresh 0 0 led) }).objs.size] := by
          rw [Heap.size_push]; simp only [List.mem_singleton]
          exact Nat.ne_of_lt (Nat.lt_succ_self _)
        have hsz : (one1 (tl x)).length = x.cps.size := by simp [one1, tl]
        have hszn : x.cps.size = (tl x).length := by simp [tl]
        refine loopN ((W _ hh3).toS) s.heap.objs.size
          hSf (one1 (tl x)) hsz (by rw [hszn]; exact hn) (fun i v h => sign_one h) (x.cps.size - 0) 0 _ (by omega) (Nat.zero_le _)
          hst ?hS0 ?hR
        case hS0 =>
          have hget : ((s.heap.push { cls := .type "set", dict := none, data := .set #[] 0 (.fresh 0 0 led) }).push o).get? s.heap.objs.size
              = some { cls := .type "set", dict := none, data := .set #[] 0 (.fresh 0 0 led) } := Heap.get?_push_of_some _ hS
          exact PyProof.Rows.SetOf_congr ((PyProof.Rows.setObjOf_fresh (knd := PySem.strKind prog w) led).setOf hget (by unfold scanBound; omega)) (fun _ => rfl) rfl
        case hR =>
          intro s' hm hS'
          obtain ⟨h', g', d', tk', os'⟩ := s'
          have eg : g' = s.gens := hm.gens
          have ed : d' = s.drawn := hm.drawn
          have eo : os' = s.os := hm.os
          subst eg; subst ed; subst eo
          show wpAny _ _ _ _ _ _
          refine wpAny_pure ?_
          show wpAny _ _ (ret Value.none) _ _ _
          refine wpAny_pure ⟨rfl, h', tk', rfl, hS', fun b o hb e => ?_⟩
          have hb1 : b ≠ s.heap.objs.size := Nat.ne_of_lt hb
          have hb2 : b ≠ (s.heap.push { cls := .type "set", dict := none, data := .set #[] 0 (.fresh 0 0 led) }).objs.size := by
            rw [Heap.size_push]; exact Nat.ne_of_lt (Nat.lt_succ_of_lt hb)
          exact hm.heap b o (by simp only [List.mem_cons, List.mem_singleton, List.not_mem_nil, or_false, not_or]; exact ⟨hb1, hb2⟩) (Heap.get?_push_of_some _ (Heap.get?_push_of_some _ e))
      · cases r₂ with
        | error e => exact hr₂
        | ok fl₂ =>
          cases fl₂ with
          | ret r =>
            obtain ⟨rfl, h', tk, rfl, hS', hk'⟩ := hr₂
            repeat (any_goals (first | assumption | wp_step))
            exact h _ _ hS' hk'
          | _ => exact hr₂.elim
    | _ => exact hr.elim
end
end Ta

set_option Elab.async false
set_option linter.all false
set_option maxRecDepth 100000
set_option maxHeartbeats 3200000
namespace Ta
open PySem PySem.Spec PyProof.Rows L2
theorem dn_map {α β : Type} [BEq α] [LawfulBEq α] [BEq β] [LawfulBEq β] (f : α → β) (hf : ∀ x y, f x = f y → x = y) (l : List α) : dn (l.map f) = dn l := by
  suffices h : ∀ m : List α, dn (m.reverse.map f) = dn m.reverse by
    have z := h l.reverse
    rw [List.reverse_reverse] at z
    exact z
  intro m
  induction m with
  | nil => simp [dn]
  | cons x m ih =>
    rw [List.reverse_cons, List.map_append, List.map_cons, List.map_nil, dn_snoc, dn_snoc, ih]
    have e : ((m.reverse.map f).any fun y => y == f x) = (m.reverse.any fun y => y == x) := by
      rw [List.any_map]
      congr 1
      funext y
      show (f y == f x) = (y == x)
      by_cases e : y = x
      · subst e; rw [beq_self_eq_true, beq_self_eq_true]
      · rw [beq_eq_false_iff_ne.mpr e, beq_eq_false_iff_ne.mpr fun z => e (hf _ _ z)]
    rw [e]
theorem S1_inj (x y : Nat) (h : S [x] = S [y]) : x = y := by
  injection h with h
  injection h with h
  injection h
def zLset (x : V) (H : Hp) (Q : VK) : Prop := match x with
  | .str z => (tl z).length < 4000 ∧ Q (.int (dn (tl z))) H
  | _ => False
def tLset (ta : TE) : TE := fun σ H Q => ta σ H fun x H1 => zLset x H1 Q
section
variable {X : Cx}
theorem plset {a : Expr} {ta : TE} {p p2 q pos : Pos} (hc : X.calm = true) (hm : X.mg "len" = none) (hm2 : X.mg "set" = none) (ha : PE X a ta) (hg : Gl X "len" := by rfl) (hg2 : Gl X "set" := by rfl)
    (na : starEach [a] X.env = (false, eval a X.env) :: starEach [] X.env := by rfl) : PE X (.Call (.Name "len" p) [.Call (.Name "set" p2) [a] [] q] [] pos) (tLset ta) := by
  refine ⟨fun pins s σ H Q I h => ?_⟩
  refine Call_ (ld_blt I hg hm boot_len ?_)
  refine PyProof.Rows.callWith_builtin1 (PyProof.Rows.args_cons ?_ rfl) rfl rfl
  refine Call_ (ld_blt I hg2 hm2 boot_set ?_)
  refine PyProof.Rows.callWith_type1 (PyProof.Rows.args_cons (thn (ha.run pins s σ H _ I h) fun v s1 ⟨x, H1, I1, r1, q1⟩ => PyProof.Rows.args_nil ?_) na) na rfl
  cases x with
  | str z =>
    obtain ⟨h1, q1⟩ := q1
    obtain ⟨t, rfl⟩ := r1
    refine call_set_text (I1.ok.hd hc) (by unfold scanBound; omega) fun h' tk hS hk => ?_
    refine PyProof.Rows.args_nil ?_
    have edn : dn (one1 (tl z)) = dn (tl z) := dn_map _ S1_inj _
    have hle := dn_le (tl z)
    obtain ⟨o, es, ep, t, ho, hex, hd, _, _, _, hf, hn⟩ := hS
    have I2 : Inv X pins σ H1 { s1 with heap := h', toks := tk } := I1.kept fun b o e => hk b o (Heap.lt_size e) e
    refine call_len_set ho hex hd hf (by rw [hn, edn]; omega) ⟨.int (dn (tl z)), H1, I2.tok _, ⟨_, by rw [hn, edn]⟩, q1⟩
  | _ => exact False.elim q1
end

/-! ### sorted(text) -/
def srt (l : List Nat) : List Nat := l.mergeSort fun a b => decide (a ≤ b)
theorem srt_perm (l : List Nat) : (srt l).Perm l := List.mergeSort_perm _ _
theorem srt_pw (l : List Nat) : (srt l).Pairwise (· ≤ ·) := by
  have h := List.pairwise_mergeSort (le := fun a b : Nat => decide (a ≤ b)) (fun a b c h1 h2 => by simp at *; omega) (fun a b => by simp; omega) l
  exact h.imp fun z => by simpa using z
theorem srt_uniq {l m : List Nat} (h : m.Perm l) (hp : m.Pairwise (· ≤ ·)) : m = srt l :=
  List.Perm.eq_of_pairwise (fun _ _ _ _ a b => Nat.le_antisymm a b) hp (srt_pw l) (h.trans (srt_perm l).symm)
def sgn (l : List Nat) : List V := l.map fun c => V.str (S [c])
theorem perm_map_inv {α β : Type} {f : α → β} : ∀ {l : List α} {m : List β}, m.Perm (l.map f) → ∃ l' : List α, m = l'.map f ∧ l'.Perm l := by
  intro l m h
  generalize e : l.map f = k at h
  induction h generalizing l with
  | nil => exact ⟨[], rfl, by simp at e; subst e; exact .nil⟩
  | cons x h ih =>
    cases l with
    | nil => cases e
    | cons y l =>
      injection e with e1 e2
      obtain ⟨l', h1, h2⟩ := ih e2
      exact ⟨y :: l', by rw [h1, ← e1]; rfl, h2.cons y⟩
  | swap x y t =>
    cases l with
    | nil => cases e
    | cons a l => cases l with
      | nil => cases e
      | cons b l =>
        injection e with e1 e2
        injection e2 with e2 e3
        exact ⟨b :: a :: l, by rw [List.map_cons, List.map_cons, e1, e2, e3], .swap a b l⟩
  | trans h1 h2 ih1 ih2 =>
    obtain ⟨l1, e1, p1⟩ := ih2 e
    obtain ⟨l2, e2, p2⟩ := ih1 e1.symm
    exact ⟨l2, e2, p2.trans p1⟩
theorem rising_one : ∀ (l : List Nat) (a : Nat), risingS (S [a]) (l.map fun c => S [c]) = true → l.Pairwise (· ≤ ·) ∧ ∀ b ∈ l, a ≤ b
  | [], a, _ => ⟨.nil, fun _ h => nomatch h⟩
  | b :: l, a, h => by
    simp only [List.map_cons, risingS, Bool.and_eq_true] at h
    obtain ⟨h1, h2⟩ := h
    obtain ⟨i1, i2⟩ := rising_one l b h2
    have hab : a ≤ b := by
      have z : ltCps [b] [a] = false := by simpa using h1
      unfold ltCps at z
      apply Decidable.byContradiction
      intro hc
      have : b < a := by omega
      simp [this] at z
    refine ⟨.cons i2 i1, fun c hc => ?_⟩
    rcases List.mem_cons.mp hc with rfl | hc
    · exact hab
    · exact Nat.le_trans hab (i2 c hc)
theorem sorted_one (l : List Nat) (h : sortedS (l.map fun c => S [c]) = true) : l.Pairwise (· ≤ ·) := by
  cases l with
  | nil => exact .nil
  | cons a l => exact .cons (rising_one l a h).2 (rising_one l a h).1
def zSrt1 (x : V) (H : Hp) (Q : VK) : Prop := match x with
  | .str z => (tl z).length < 64 ∧ ∀ p, H p = none → Q (.ref p) (upd H p (.lst (sgn (srt (tl z)))))
  | _ => False
def zSort1 : List V → Hp → VK → Prop := fun xs H Q => one xs fun x => zSrt1 x H Q
section
variable {X : Cx}
theorem crsort (hcalm : X.calm = true) : CallR X (.builtin "sorted") zSort1 := by
  intro pins s σ H xs us Q I r q
  obtain ⟨x, rfl, q⟩ := one_e q
  obtain ⟨u, eu, rx⟩ := vals1 r
  subst eu
  cases x with
  | str z =>
    obtain ⟨h64, q⟩ := q
    obtain ⟨t, rfl⟩ := rx
    refine Calls.call_function_entry PyProof.Rows.kind_sorted PyProof.Rows.plain_sorted PyProof.Rows.entry_sorted (PyProof.Rows.args_sorted1 _) ?_
    unfold Builtin.«sorted»
    refine wpAny_bind (m := checkCount "sorted" 1 1 _) (wpAny_pure ?_)
    have hsz : z.cps.size = (tl z).length := by simp [tl]
    refine wpAny_bind (wpAny_collect_str (A := X.A.in1) (I.ok.hd hcalm) z t (fun s' acc hk hg hd ho hacc => ?_) (by rw [hsz, sizeLine_eq]; omega))
    obtain ⟨h', g', d', tk, os'⟩ := s'
    simp only at hk hg hd ho
    subst hg; subst hd; subst ho
    have hal : acc.toList.length = (one1 (tl z)).length := by rw [Array.length_toList, hacc.1, hsz]; simp [one1]
    have hS : StrsAre acc.toList (one1 (tl z)) := L2.strs_at hal fun j v e => by
      obtain ⟨c, u, e1, e2⟩ := hacc.2 j v (by rw [← Array.getElem?_toList]; exact e)
      exact ⟨S [c], u, by simp [one1, tl, e1], e2⟩
    have hal2 : acc.toList.length < 64 := by rw [hal]; simpa [one1] using h64
    have I1 : Inv X pins σ H { s with heap := h', toks := tk } := I.kept hk
    refine wpAny_bind (wpAny_newList ?_ (by rw [sizeLine_eq]; omega))
    have hoL : (h'.push (seqObj "list" acc.toList.toArray 0)).get? h'.objs.size = some (seqObj "list" acc.toList.toArray 0) := Heap.get?_push_size _ rfl
    show wpAny _ _ _ _ _ { s with heap := h'.push (seqObj "list" acc.toList.toArray 0), toks := tk }
    refine wpAny_bind (wpAny_holding (wpAny_call_entry PyProof.Rows.slot_list_sort ⟨_, hoL, rfl⟩ PyProof.Rows.entry_list_sort
      (list_sort_treeK strKind_oneLt (s := { s with heap := h'.push (seqObj "list" acc.toList.toArray 0), toks := tk }) hoL hS.keysOf (fun v₁ v₂ rest e => keyKind_strs (by rw [← e]; exact hS)) hal2 fun st' hp hs => ⟨_, rfl, ?_⟩)
      (PyProof.Rows.args_list_sort _)))
    obtain ⟨ys, g1, g2, g3⟩ := sorted_out_str hS hp hs
    obtain ⟨e', he'⟩ := PyProof.Rows.sortedHeap_at (vs := acc.toList) (out := (arrOf st').map (·.2)) hoL
    obtain ⟨l', rfl, pl⟩ := perm_map_inv g2
    have el : l' = srt (tl z) := srt_uniq pl (sorted_one l' g3)
    subst el
    have hlen : (sgn (srt (tl z))).length ≤ sizeLine := by
      unfold sgn
      rw [List.length_map, (srt_perm _).length_eq, sizeLine_eq]; omega
    have ev : ((srt (tl z)).map fun c => S [c]).map V.str = sgn (srt (tl z)) := by unfold sgn; rw [List.map_map]; rfl
    refine wpAny_pure ⟨_, rfl, .ref h'.objs.size, upd H h'.objs.size (.lst (sgn (srt (tl z)))), I1.laid (t' := tk) (fun b u e => ?_) (Nat.le_refl _)
      (show ObjOk X.prog X.w _ _ _ (.lst (sgn (srt (tl z)))) from ⟨hlen, ((arrOf st').map (·.2)).toList, e', by rw [← ev]; exact vals_of_strs g1, by rw [Array.toArray_toList]; exact he'⟩), rfl, q _ (I1.hok.fresh (Nat.le_refl _))⟩
    have hb : b < h'.objs.size := Heap.lt_size e
    rw [PyProof.Rows.sortedHeap_old (Nat.ne_of_lt hb) (by rw [size_push']; exact Nat.lt_succ_of_lt hb)]
    exact Heap.get?_push_of_some _ e
  | _ => exact False.elim q
end
end Ta

set_option Elab.async false
set_option linter.all false
set_option maxRecDepth 100000
set_option maxHeartbeats 3200000
namespace Ta
open PySem PySem.Spec PyProof.Rows L2

/-! ### own == of two instances of one class -/
def zOwn (C : Addr) (sp : Sp) : R2 := fun x y H Q => match x with
  | .ref a => (match y with
    | .ref b => look H a fun o => (match o with
      | some (.ins C1 dx fs) => look H b fun o' => (match o' with
        | some (.ins C2 dy gs) => C1 = C ∧ C2 = C ∧ sp [.ref a, .ref b] H (fun v H' => ∃ k, v = .bl k ∧ Q (.bl k) H') fun _ _ _ => False
        | _ => False)
      | _ => False)
    | _ => False)
  | _ => False
theorem zOwn_e {C : Addr} {sp : Sp} {x y : V} {H : Hp} {Q : VK} (h : zOwn C sp x y H Q) : ∃ a b dx fs dy gs, x = .ref a ∧ y = .ref b ∧ H a = some (.ins C dx fs) ∧ H b = some (.ins C dy gs) ∧ sp [.ref a, .ref b] H (fun v H' => ∃ k, v = .bl k ∧ Q (.bl k) H') fun _ _ _ => False := by
  cases x with
  | ref a =>
    cases y with
    | ref b =>
      have h := look_e h
      cases ea : H a with
      | none => rw [ea] at h; exact h.elim
      | some o =>
        rw [ea] at h
        cases o with
        | ins C1 dx fs =>
          have h := look_e h
          cases eb : H b with
          | none => rw [eb] at h; exact h.elim
          | some o' =>
            rw [eb] at h
            cases o' with
            | ins C2 dy gs =>
              obtain ⟨e1, e2, h3⟩ := h
              subst e1
              subst e2
              exact ⟨a, b, dx, fs, dy, gs, rfl, rfl, ea, eb, h3⟩
            | _ => exact h.elim
        | _ => exact h.elim
    | _ => exact h.elim
  | _ => exact h.elim
section
variable {X : Cx}
theorem opown {C : Addr} {lv : Nat} {sp : Sp} (M : Me X.prog X.w X.K X.mg X.base C "__eq__" lv [] sp) (hr : Room lv X.A) : OpR X (compareOp .Eq) (zOwn C sp) := by
  intro pins s σ H x y v u Q I rx ry h
  obtain ⟨a, b, dx, fs, dy, gs, rfl, rfl, ha, hb', h⟩ := zOwn_e h
  cases rx
  cases ry
  obtain ⟨⟨f, fd, ps, ds, F, hm, hd, hb⟩, cl⟩ := M
  cases hd
  obtain ⟨mA, J, _⟩ := ins_get I.hok ha
  obtain ⟨mB, J', _⟩ := ins_get I.hok hb'
  obtain ⟨od, J, _⟩ := J.look
  obtain ⟨od', J', _⟩ := J'.look
  obtain ⟨m, hF⟩ := I.fr
  show wpAny (model X.prog X.w) X.A (richCompare .Eq (.ref a) (.ref b)) (EP X pins σ Q) X.xe s
  refine PySem.W.cmp_K (op := .Eq) (tb := .ref C) hr.units0 hF I.ok.mod.kin J J'.type (by simp [PySem.W.notFirst]) hm.at_ hm.fn ?_
  have r2 : Vals [V.ref a, V.ref b] [Value.ref a, Value.ref b] := .cons rfl (.cons rfl .nil)
  refine wpAny_mono (run_fnSD (E := WE WF) (us := [.ref a, .ref b]) (vs := [.ref a, .ref b]) (Q := fun v H' => ∃ k, v = .bl k ∧ Q (.bl k) H') F hr hb .nil (passAt takes0 σ) I r2 h) (fun r s' q => ?_) fun _ _ z => z
  obtain ⟨z, H', I', rz, k, rfl, q⟩ := q
  cases rz
  exact ⟨.bl k, H', I', rfl, q⟩
theorem names_of {x : Str} {C : Addr} (h : GlobV X.mg x (.ref C)) (hg : Gl X x := by rfl) (hdb : (x == ("__debug__" : Str)) = false := by decide +kernel) : Names X x (.ref C) := by
  obtain ⟨u, hm, r⟩ := h.ex
  cases (show u = Value.ref C from r)
  exact ⟨hg, hdb, .inl hm⟩
end

/-! ### the clause of a try -/
theorem was_t {K : PySem.W.Frag} {c : Value} {i : Nat} {ts : Addr → Value → Option Addr → TS} {Wout : WX} {D : Ends} {cls : Value} {d : Option Addr} {σ : St} {H : Hp} (h : PySem.W.exmOne K cls c = some true)
    (q : ∀ a, H a = none → ts a cls d { nx := fun σ' H' => D.nx (σ'.set i none) H', rt := D.rt, bk := fun σ' H' => D.bk (σ'.set i none) H', ct := fun σ' H' => D.ct (σ'.set i none) H' } (σ.set i (some (.ref a))) H) : wAs K c i ts Wout D cls d σ H :=
  ⟨true, h, fun _ => q, (fun z => by cases z)⟩
theorem was_f {K : PySem.W.Frag} {c : Value} {i : Nat} {ts : Addr → Value → Option Addr → TS} {Wout : WX} {D : Ends} {cls : Value} {d : Option Addr} {σ : St} {H : Hp} (h : PySem.W.exmOne K cls c = some false)
    (q : Wout cls d σ H) : wAs K c i ts Wout D cls d σ H :=
  ⟨false, h, (fun z => by cases z), fun _ => q⟩

/-! ### heaps -/
/-- H' keeps what H has, but for F -/
def Kp (F : List Addr) (H H' : Hp) : Prop := ∀ q o, H q = some o → q ∉ F → H' q = some o
theorem Kp.rfl' {F : List Addr} {H : Hp} : Kp F H H := fun _ _ h _ => h
theorem Kp.trans {F : List Addr} {H H1 H2 : Hp} (a : Kp F H H1) (b : Kp F H1 H2) : Kp F H H2 := fun q o h n => b q o (a q o h n) n
theorem Kp.mono {F F' : List Addr} {H H' : Hp} (a : Kp F H H') (h : ∀ q ∈ F, q ∈ F') : Kp F' H H' := fun q o e n => a q o e fun z => n (h q z)
theorem Kp.nil {F : List Addr} {H H' : Hp} (a : Kp [] H H') : Kp F H H' := a.mono fun _ z => nomatch z
theorem Kp.new {F : List Addr} {H H1 : Hp} {p : Addr} {o : HO} (a : Kp F H H1) (h : H1 p = none) : Kp F H (upd H1 p o) := fun q o' e n => by
  have z := a q o' e n
  rw [upd_ne (ne_of_none z h)]; exact z
theorem Kp.at {F : List Addr} {H H1 : Hp} {p : Addr} {o : HO} (a : Kp F H H1) (h : p ∈ F) : Kp F H (upd H1 p o) := fun q o' e n => by
  have hne : q ≠ p := fun z => n (by rw [z]; exact h)
  rw [upd_ne hne]; exact a q o' e n
theorem Kp.own {F : List Addr} {H H1 : Hp} {p : Addr} {o : HO} (a : Kp F H H1) (h : H p = none) : Kp F H (upd H1 p o) := fun q o' e n => by
  rw [upd_ne (ne_of_none e h)]; exact a q o' e n
theorem upd_at {H : Hp} {p : Addr} {o : HO} : upd H p o p = some o := by unfold upd; rw [if_pos rfl]
theorem upd_fr {H : Hp} {p q : Addr} {o o' : HO} (h : H p = none) (hq : H q = some o) : upd H p o' q = some o := by rw [upd_ne (ne_of_none hq h)]; exact hq
theorem upd_off {H : Hp} {p q : Addr} {o o' : HO} (h : q ≠ p) (hq : H q = some o) : upd H p o' q = some o := by rw [upd_ne h]; exact hq
theorem upd_tw {H : Hp} {p : Addr} {o o' : HO} : upd (upd H p o) p o' = upd H p o' := by
  funext q; unfold upd; split <;> rfl
theorem mem1 {F : List Addr} {q : Addr} (h : ∀ x ∈ F, q ≠ x) : q ∉ F := fun z => h q z rfl
theorem ne_none {H : Hp} {p q : Addr} {o : HO} (h : H q = some o) (hp : H p = none) : q ≠ p := ne_of_none h hp
theorem ne_none' {H : Hp} {p q : Addr} {o : HO} (h : H q = some o) (hp : H p = none) : p ≠ q := (ne_of_none h hp).symm
theorem Kp.get {F : List Addr} {H H' : Hp} {q : Addr} {o : HO} (a : Kp F H H') (h : H q = some o) (n : q ∉ F) : H' q = some o := a q o h n
theorem Kp.get0 {H H' : Hp} {q : Addr} {o : HO} (a : Kp [] H H') (h : H q = some o) : H' q = some o := a q o h fun z => nomatch z
theorem Kp.get1 {p : Addr} {H H' : Hp} {q : Addr} {o : HO} (a : Kp [p] H H') (h : H q = some o) (n : q ≠ p) : H' q = some o := a q o h fun z => n (List.mem_singleton.mp z)
/-- a side goal, left to the end -/
structure Sd (p : Prop) : Prop where
  out : p
theorem sd_i {p : Prop} (h : p) : Sd p := by refine ⟨?_⟩; exact h
theorem sd_e {p : Prop} (h : Sd p) : p := by replace h := h.out; exact h
theorem cnd_d {c : Prop} [Decidable c] {p q : Prop} (h1 : c → p) (h2 : ¬ c → q) : cnd (decide c) p q := cnd_i (fun h => h1 (of_decide_eq_true h)) (fun h => h2 (of_decide_eq_false h))
theorem cnd_n {c : Bool} {p q : Prop} (h : cnd c q p) : cnd (!c) p q := by
  replace h := h.out; refine ⟨?_⟩
  cases c <;> exact h

/-! ### [c for c in text if test] -/
theorem filter_take {l : List Nat} {f : Nat → Bool} {k c : Nat} (h : l[k]? = some c) : (l.take (k + 1)).filter f = (l.take k).filter f ++ (if f c = true then [c] else []) := by
  rw [List.take_succ, h]
  simp [List.filter_append, List.filter_cons]
theorem lcp_g {n : Nat} {it : Itm} {st : Hp → Prop} {l : List Nat} {i : Nat} {tt : TT} {te : TE} {σ : St} {H1 : Hp} {Q : VK} {vs : List Nat} (hn : n = l.length) (hit : ∀ k H x H', it k H x H' → H' = H ∧ ∃ c, l[k]? = some c ∧ x = .str (S [c])) (hst : ∀ D xs, H1 D = none → st (upd H1 D (.lst xs)))
    (f : Nat → Bool) (hl : l.length < 1000000) (ht : ∀ c D H' Q', H1 D = none → c ∈ l → (∃ xs, H' = upd H1 D (.lst xs)) → Q' (f c) H' → tt ((wipe σ vs).set i (some (.str (S [c])))) H' Q')
    (he : ∀ c H' Q', Q' (.str (S [c])) H' → te ((wipe σ vs).set i (some (.str (S [c])))) H' Q')
    (hw : ∀ v, wipe ((wipe σ vs).set i v) vs = wipe σ vs) (q : ∀ D, H1 D = none → Q (.ref D) (upd H1 D (.lst (sgn (l.filter f))))) : lcp n it st (gName i) tt te vs σ H1 Q := by
  subst hn
  refine lcp_i (fun D k H => H = upd H1 D (.lst (sgn ((l.take k).filter f)))) (fun D hD => rfl) (fun D k H hD _ e => by rw [e]; exact hst D _ hD) ?_ ?_
  · rintro D k x H H' hD hk rfl hi
    obtain ⟨rfl, c, hc, rfl⟩ := hit _ _ _ _ hi
    refine ⟨hw _, ht c D _ _ hD (List.mem_of_getElem? hc) ⟨_, rfl⟩ ?_⟩
    cases e : f c with
    | true =>
      rw [if_pos rfl]
      refine he c _ _ ⟨_, upd_at, ?_, ?_⟩
      · unfold sgn
        rw [List.length_map, sizeLine_eq]
        have h1 := List.length_filter_le f (l.take k)
        rw [List.length_take] at h1
        omega
      · rw [upd_tw, filter_take hc, e, if_pos rfl]
        unfold sgn
        rw [List.map_append]
        rfl
    | false =>
      rw [if_neg (by simp), filter_take hc, e, if_neg (by simp), List.append_nil]
  · rintro D H hD rfl
    rw [List.take_length]
    exact q D hD
theorem lcp_f {l : List Nat} {i : Nat} {tt : TT} {te : TE} {σ : St} {H1 : Hp} {Q : VK} {vs : List Nat} (f : Nat → Bool) (hl : l.length < 1000000)
    (ht : ∀ c D H' Q', H1 D = none → c ∈ l → (∃ xs, H' = upd H1 D (.lst xs)) → Q' (f c) H' → tt ((wipe σ vs).set i (some (.str (S [c])))) H' Q')
    (he : ∀ c H' Q', Q' (.str (S [c])) H' → te ((wipe σ vs).set i (some (.str (S [c])))) H' Q')
    (hw : ∀ v, wipe ((wipe σ vs).set i v) vs = wipe σ vs) (q : ∀ D, H1 D = none → Q (.ref D) (upd H1 D (.lst (sgn (l.filter f))))) : lcp l.length (itS l) (fun _ => True) (gName i) tt te vs σ H1 Q :=
  lcp_g rfl (fun _ _ _ _ h => h) (fun _ _ _ => trivial) f hl ht he hw q
theorem lcp_l {l : List Nat} {p : Addr} {i : Nat} {tt : TT} {te : TE} {σ : St} {H1 : Hp} {Q : VK} {vs : List Nat} (hp : H1 p = some (.lst (sgn l))) (f : Nat → Bool) (hl : l.length < 1000000)
    (ht : ∀ c D H' Q', H1 D = none → c ∈ l → (∃ xs, H' = upd H1 D (.lst xs)) → Q' (f c) H' → tt ((wipe σ vs).set i (some (.str (S [c])))) H' Q')
    (he : ∀ c H' Q', Q' (.str (S [c])) H' → te ((wipe σ vs).set i (some (.str (S [c])))) H' Q')
    (hw : ∀ v, wipe ((wipe σ vs).set i v) vs = wipe σ vs) (q : ∀ D, H1 D = none → Q (.ref D) (upd H1 D (.lst (sgn (l.filter f))))) : lcp (sgn l).length (itL (sgn l)) (fun H' => H' p = some (.lst (sgn l))) (gName i) tt te vs σ H1 Q := by
  refine lcp_g (l := l) (by unfold sgn; rw [List.length_map]) (fun k H x H' h => ⟨h.1, ?_⟩) (fun D xs hD => upd_fr hD hp) f hl ht he hw q
  have h2 := h.2
  unfold sgn at h2
  rw [List.getElem?_map] at h2
  cases e : l[k]? with
  | none => rw [e] at h2; cases h2
  | some c => rw [e] at h2; exact ⟨c, rfl, (Option.some.inj h2).symm⟩
theorem upd_self {H : Hp} {p : Addr} {o : HO} (h : H p = some o) : upd H p o = H := by
  funext q; unfold upd; split
  · rename_i e; rw [e, h]
  · rfl

theorem joinL_one : ∀ l : List Nat, TL.joinL [] (l.map fun c => [c]) = l
  | [] => rfl
  | [a] => rfl
  | a :: b :: l => by
    have ih := joinL_one (b :: l)
    show [a] ++ [] ++ TL.joinL [] ((b :: l).map fun c => [c]) = _
    rw [ih]
    rfl
theorem sum_one (l : List Nat) : ((l.map fun c => [c]).map List.length).sum = l.length := by
  induction l with
  | nil => rfl
  | cons a l ih => simp only [List.map_cons, List.sum_cons, ih, List.length_cons, List.length_nil]; omega
theorem joi_i {l : List Nat} {k : List Nat → Prop} (h : l.length ≤ 1000000) (q : k l) : joi (sgn l) (tl (S [])) k := by
  refine ⟨?_⟩
  refine ⟨l.map fun c => [c], by unfold sgn; rw [List.map_map]; rfl, ?_, ?_⟩
  · rw [sum_one, List.length_map]
    show _ + _ * 0 ≤ _
    omega
  · show k (TL.joinL [] _)
    rw [joinL_one]; exact q
theorem sgn_len (l : List Nat) : (sgn l).length = l.length := by unfold sgn; rw [List.length_map]
theorem srt_len (l : List Nat) : (srt l).length = l.length := (srt_perm l).length_eq
theorem sgn_fe (l : List Nat) (f : Nat → Bool) : (sgn (l.filter f)).isEmpty = !l.any f := by
  induction l with
  | nil => rfl
  | cons a l ih =>
    rw [List.filter_cons, List.any_cons]
    cases f a with
    | true => rfl
    | false => exact ih

theorem itm_s {α : Type} {l : List α} {i : Int} {k : α → Prop} (h0 : 0 ≤ i) (h1 : i < (l.length : Int)) (q : ∀ (j : Nat) (hj : j < l.length), i = (j : Int) → k l[j]) : itm l i k := by
  obtain ⟨j, rfl⟩ := Int.eq_ofNat_of_zero_le h0
  have hj : j < l.length := by omega
  exact itm_n rfl (List.getElem?_eq_getElem hj) (q j hj rfl)
theorem perm_out {l r : List Nat} {j : Nat} (hj : j < r.length) : ((l ++ [r[j]]) ++ (r.take j ++ r.drop (j + 1))).Perm (l ++ r) := by
  have e : r = r.take j ++ r[j] :: r.drop (j + 1) := by
    rw [List.getElem_cons_drop, List.take_append_drop]
  have h1 : (r[j] :: (r.take j ++ r.drop (j + 1))).Perm r := by
    refine List.Perm.trans ?_ (List.Perm.of_eq e.symm)
    exact List.perm_middle.symm
  rw [List.append_assoc]
  exact h1.append_left l
theorem dn_nodup (l : List Nat) : dn l = l.length ↔ l.Nodup := by
  suffices h : ∀ m : List Nat, dn m.reverse = m.reverse.length ↔ m.reverse.Nodup by
    have z := h l.reverse
    rw [List.reverse_reverse] at z
    exact z
  intro m
  induction m with
  | nil => simp [dn]
  | cons x m ih =>
    rw [List.reverse_cons, dn_snoc, List.length_append, List.nodup_append]
    have hle := dn_le m.reverse
    have ea : (m.reverse.any fun y => y == x) = decide (x ∈ m.reverse) := by
      rw [Bool.eq_iff_iff]; simp
    rw [ea]
    by_cases hx : x ∈ m.reverse
    · rw [if_pos (decide_eq_true hx)]
      constructor
      · intro h; simp at h hle; omega
      · rintro ⟨_, _, h⟩
        exact absurd rfl (h x hx x (List.mem_singleton.mpr rfl))
    · rw [if_neg (by simpa using hx)]
      constructor
      · intro h
        refine ⟨ih.mp (by simp at h ⊢; omega), by simp, fun a ha b hb => ?_⟩
        rw [List.mem_singleton.mp hb]
        exact fun e => hx (e ▸ ha)
      · rintro ⟨h, _, _⟩
        rw [ih.mpr h]; rfl

theorem Kp.made {F : List Addr} {H H' : Hp} {x dx : Addr} {o1 o2 : HO} (hx : H x = none) (hdx : H dx = none) (k : Kp (x :: F) (upd (upd H dx o1) x o2) H') : Kp F H H' := fun q o e n => by
  have n1 : q ≠ x := ne_of_none e hx
  have n2 : q ≠ dx := ne_of_none e hdx
  refine k q o (by rw [upd_ne n1, upd_ne n2]; exact e) fun z => ?_
  rcases List.mem_cons.mp z with z | z
  · exact n1 z
  · exact n z

theorem upd_tw2 {H : Hp} {p : Addr} {o o1 o2 : HO} : upd (upd (upd H p o) p o1) p o2 = upd H p o2 := by rw [upd_tw, upd_tw]
theorem upd_tw3 {H : Hp} {p : Addr} {o o1 o2 o3 : HO} : upd (upd (upd (upd H p o) p o1) p o2) p o3 = upd H p o3 := by rw [upd_tw, upd_tw, upd_tw]
theorem upd_tw4 {H : Hp} {p : Addr} {o o1 o2 o3 o4 : HO} : upd (upd (upd (upd (upd H p o) p o1) p o2) p o3) p o4 = upd H p o4 := by rw [upd_tw, upd_tw, upd_tw, upd_tw]
/-- a loop that changes nothing but its own name -/
theorem loop_c {n k : Nat} {it : Itm} {st : Hp → Prop} {tb : TS} {D : Ends} {σ : St} {H : Hp} (h0 : st H) (hit : ∀ i H x H', it i H x H' → H' = H) (hk : ∃ v0, σ.set k v0 = σ)
    (hs : ∀ i x v, i < n → it i H x H → tb { D with nx := fun σ' H' => Sd (∃ v', σ' = σ.set k v' ∧ H' = H), ct := fun σ' H' => Sd (∃ v', σ' = σ.set k v' ∧ H' = H), bk := D.nx } ((σ.set k v).set k (some x)) H) (hd : ∀ v, D.nx (σ.set k v) H) : loop n it st (gName k) tb D σ H := by
  obtain ⟨v0, hv0⟩ := hk
  refine loop_i (fun _ σ' H' => Sd (∃ v', σ' = σ.set k v' ∧ H' = H)) (sd_i ⟨v0, hv0.symm, rfl⟩) ?_ ?_ ?_
  · intro i σ' H' _ h
    obtain ⟨v', _, rfl⟩ := sd_e h
    exact h0
  · intro i x σ' H' H'' hi h hI
    obtain ⟨v', rfl, rfl⟩ := sd_e h
    obtain rfl := hit _ _ _ _ hI
    exact hs i x v' hi hI
  · intro σ' H' h
    obtain ⟨v', rfl, rfl⟩ := sd_e h
    exact hd v'

theorem Kp.none {H H' : Hp} {q : Addr} (k : Kp [] H H') (h : H' q = none) : H q = none := by
  cases e : H q with
  | none => rfl
  | some o => rw [k.get0 e] at h; cases h
end Ta

set_option Elab.async false
set_option linter.all false
set_option maxRecDepth 100000
set_option maxHeartbeats 400000
namespace Ta
open PySem PySem.Spec PyProof.Rows L2

/-! ### locals at the code itself -/
def FT (X : Cx) (f : List (Str × Value)) (s : Shared) : Prop := ∃ m, s.heap.Ns X.env.locals m ∧ ∀ e ∈ f, m e.1 = some e.2
section
variable {X : Cx} {pins : List (Addr × Obj)} {σ : St} {H : Hp} {s s' : Shared} {ff : List (Str × Value)}
theorem FT.after {Q : VK} {u : Value} (h : FT X ff s) (I : Inv X pins σ H s) (c : CE X.stack X.prog X.w H s Q u s') : FT X ff s' := by
  obtain ⟨m, ⟨o, es, ep, ho, r⟩, hf⟩ := h
  obtain ⟨v, H', os, bare, un, hok, rr, q⟩ := c
  obtain ⟨sl, hL⟩ := un.any ho I.free (by simp)
  exact ⟨m, ⟨_, es, ep, hL, r⟩, hf⟩
theorem FT.nil (I : Inv X pins σ H s) : FT X [] s := by
  obtain ⟨m, hn, _⟩ := I.loc
  exact ⟨m, hn, fun _ z => nomatch z⟩
theorem run_fnF {CX : CXT} {k : Nat} {f : Addr} {fd : FuncData} {ps : List Str} {sp : Sp} {E : St → XK} {dvs : List V} {ds : List Value} {Q : VK} {us : List Value} {vs : List V} (F : FnOk X.prog X.w X.K X.mg X.base CX k f fd ps sp) (hr : Room k X.A) (hb : Binds X.K fd ps ds) (hd : Vals dvs ds) (hx : PassesAt CX X σ (E σ))
    (I : Inv X pins σ H s) (hF : FT X ff s) (r : Vals vs us) (h : sp (vs ++ dvs) H Q (E σ)) : wpAny (model X.prog X.w) X.A (call (.ref f) us) (fun u s' => EP X pins σ Q u s' ∧ FT X ff s') X.xe s := by
  have r2 : Vals (vs ++ dvs) (us ++ ds) := r.append hd
  have hl : (us ++ ds).length = ps.length := by rw [← r2.length]; exact F.len _ _ _ _ h
  refine wpAny_call (codeAny_mono (F.run X.A X.stack s H ⟨us, []⟩ (us ++ ds) (vs ++ dvs) Q (E σ) hr I.env0 (hb s us I.kIn hl) r2 h) fun r s' hq => ?_)
  cases r with
  | error e => exact hx pins H s e s' I hq
  | ok fl =>
    cases fl with
    | ret u => exact ⟨I.after hq, hF.after I hq⟩
    | next => exact False.elim hq
    | brk => exact False.elim hq
    | cont => exact False.elim hq
/-- s[take(box, len(s))] -/
def tPk (sp : Sp) (W : WX) (il ib : Nat) : TE := fun σ H Q => match σ[il]? with
  | some (some (.str z)) => (match σ[ib]? with
    | some (some bv) => Lim (tl z).length ∧ sp [bv, .int (tl z).length] H (fun v H' => match v with
      | .int i => itm (tl z) i fun c => Q (.str (S [c])) H'
      | _ => False) (fun c d H' => W c d σ H')
    | _ => False)
  | _ => False
theorem tPk_e {sp : Sp} {W : WX} {il ib : Nat} {Q : VK} (h : tPk sp W il ib σ H Q) : ∃ z bv, σ[il]? = some (some (.str z)) ∧ σ[ib]? = some (some bv) ∧ Lim (tl z).length ∧ sp [bv, .int (tl z).length] H (fun v H' => match v with
      | .int i => itm (tl z) i fun c => Q (.str (S [c])) H'
      | _ => False) (fun c d H' => W c d σ H') := by
  unfold tPk at h
  split at h
  · rename_i z e1
    split at h
    · rename_i bv e2
      exact ⟨z, bv, e1, e2, h⟩
    · exact h.elim
  · exact h.elim
theorem ev_pk {il ib lv : Nat} {l b tk : Str} {sp : Sp} {W : WX} {Q : VK} {p1 p2 p3 p4 p5 p6 p7 p8 : Pos} (F : Fn X.prog X.w X.K X.mg X.base tk lv [] sp) (hr : Room lv X.A) (tks : Takes X W) (hlen : X.mg "len" = none) (I : Inv X pins σ H s) (hF : FT X ff s) (h : tPk sp W il ib σ H Q)
    (hNl : X.N[il]? = some l) (hvl : Vis X.env.scope l) (hNb : X.N[ib]? = some b) (hvb : Vis X.env.scope b) (hg : Gl X tk) (hgl : Gl X "len") (hdt : (tk == ("__debug__" : Str)) = false) (hdl : (l == ("__debug__" : Str)) = false) (hcl : (l == ("__classdict__" : Str)) = false)
    (hdb : (b == ("__debug__" : Str)) = false) (hcb : (b == ("__classdict__" : Str)) = false)
    (hst : starEach [.Name b p3, .Call (.Name "len" p4) [.Name l p5] [] p6] X.env = [(false, eval (.Name b p3) X.env), (false, eval (.Call (.Name "len" p4) [.Name l p5] [] p6) X.env)])
    (hst1 : starEach [.Call (.Name "len" p4) [.Name l p5] [] p6] X.env = [(false, eval (.Call (.Name "len" p4) [.Name l p5] [] p6) X.env)])
    (hst2 : starEach [.Name l p5] X.env = [(false, eval (.Name l p5) X.env)])
    (hix : PlainIx (.Call (.Name tk p2) [.Name b p3, .Call (.Name "len" p4) [.Name l p5] [] p6] [] p7)) :
    wpAny (model X.prog X.w) X.A (eval (.Subscript (.Name l p1) (.Call (.Name tk p2) [.Name b p3, .Call (.Name "len" p4) [.Name l p5] [] p6] [] p7) p8) X.env)
      (fun u s' => ∃ (c : Nat) (t : Nat) (H' : Hp), u = .str (S [c]) t ∧ 1 ≤ t ∧ s.toks ≤ t ∧ t < s'.toks ∧ Inv X pins σ H' s' ∧ Q (.str (S [c])) H' ∧ FT X ff s') X.xe s := by
  obtain ⟨z, bv, e1, e2, hlim, h⟩ := tPk_e h
  obtain ⟨f, fd, ps, ds, F, hm, hk, hd, hb⟩ := F.ex
  cases hd
  refine Subscript_ (raw_name hNl hvl I e1 (fun v r => ?_) hdl hcl)
  obtain ⟨tz, rfl⟩ := r
  refine wpAny_Call_Name_kw (ld_glob I hg hm ?_ hdt)
  refine PySem.W.callWith_K (h₀ := X.base) I.ok.mod.kin hk ?_ (by rw [hst, hst1]) (by rw [hst1]; rfl)
  rw [hst]
  show wpAny _ _ (spliced ((false, eval (.Name b p3) X.env) :: backTo p7 [(false, eval (.Call (.Name "len" p4) [.Name l p5] [] p6) X.env)])) _ _ s
  refine Calls.spliced_cons (raw_name hNb hvb I e2 (fun ub rb => ?_) hdb hcb)
  show wpAny _ _ (spliced ((false, eval (.Call (.Name "len" p4) [.Name l p5] [] p6) X.env) :: backTo p7 [])) _ _ s
  refine Calls.spliced_cons ?_
  refine Call_ (ld_blt I hgl hlen boot_len ?_)
  refine PyProof.Rows.callWith_builtin1 (PyProof.Rows.args_cons (raw_name hNl hvl I e1 (fun v r => ?_) hdl hcl) (by rw [hst2]; rfl)) (by rw [hst2]; rfl) rfl
  obtain ⟨tz2, rfl⟩ := r
  refine PyProof.Rows.args_nil ?_
  have hn := line63
  have hz : z.length ≤ sizeLine := by rw [len_tl]; exact hlim
  refine len_str (by omega) ?_
  refine Calls.spliced_nil ⟨(I.tok _).kIn, ?_⟩
  have I1 : Inv X pins σ H { s with toks := s.toks + 1 + 1 } := I.tok _
  have rv : Vals [bv, .int (tl z).length] [ub, .int z.length (s.toks + 1)] := .cons rb (.cons ⟨_, by rw [len_tl]⟩ .nil)
  refine wpAny_mono (wpAny_toks_of (n := s.toks + 1 + 1) (Nat.le_refl _) (run_fnF (E := WE W) (ff := ff) (us := [ub, .int z.length (s.toks + 1)]) (vs := [bv, .int (tl z).length]) F hr hb .nil (passAt tks σ) I1 hF rv h)) (fun u s2 hq => ?_) fun _ _ z => z.2
  obtain ⟨hle, ⟨y, H2, I2, ry, q⟩, hF2⟩ := hq
  cases y with
  | int i =>
    obtain ⟨ti, rfl⟩ := ry
    obtain ⟨c, hat, q⟩ := itm_e q
    obtain ⟨j, h1, h2, h3, h4, h5⟩ := atI_get hat
    have hl : z.cps.toList.length = z.length := by simp [Str.length]
    rw [hl] at h1 h4 h5
    refine tail_any (typeIs_str s2 z tz) slot_str_getitem.lookup (getItem_str (c := c) (by
      have e1 : decide (i < -(2 ^ 63 : Int)) = false := decide_eq_false (by omega)
      have e2 : decide (i ≥ 2 ^ 63) = false := decide_eq_false (by omega)
      rw [e1, e2, Bool.or_false]) (by rw [h1]; simpa using h2) ?_) (hix _ _)
    exact ⟨c, s2.toks, H2, rfl, by omega, by omega, Nat.lt_succ_self _, I2.tok _, q, hF2⟩
  | _ => exact False.elim q
theorem store_F {M : Model} {A : Around} {E : Value → Shared → Prop} {i : Nat} {x : Str} {v : V} {u : Value} {Q : Unit → Shared → Prop} (I : Inv X pins σ H s) (hN : X.N.Nodup) (hi : X.N[i]? = some x) (hk : X.env.kindOf x = some .local) (r : RelV v u) (hF : FT X ff s) (hx : ∀ e ∈ ff, e.1 ≠ x)
    (h : ∀ s', Inv X pins (σ.set i (some v)) H s' → FT X ((x, u) :: ff) s' → s'.toks = s.toks + 1 → Q () s') : wpAny M A (storeName X.env x u) Q E s := by
  obtain ⟨m, hn, hl⟩ := id I.loc
  obtain ⟨m2, hn2, hf⟩ := hF
  have em : m2 = m := by
    obtain ⟨o, es, ep, ho, hd, _, r⟩ := hn
    obtain ⟨o2, es2, ep2, ho2, hd2, _, r2⟩ := hn2
    rw [ho] at ho2
    cases ho2
    rw [hd] at hd2
    cases hd2
    funext name
    rw [← r2 name, ← r name]
  subst em
  have hcls : (X.env.scope.kind == .class || (X.env.scope.kind == .module && X.env.locals != X.env.globals)) = false := by rw [I.ok.kind]; rfl
  have hiσ : i < σ.length := by rw [I.len]; exact (List.getElem?_eq_some_iff.mp hi).1
  have cne := I.cne
  have tracked : ∀ {a : Addr} {h' : Heap}, (∃ o, s.heap.get? a = some o ∧ H a = none) → Heap.SameBut a s.heap h' → HOk X.prog X.w H h' := fun {a h'} ha hs b ob e => by
    obtain ⟨_, _, hfree⟩ := ha
    refine (I.hok b ob e).stay (fun c w' hc q => (hs.2 c ?_).trans q) (fun _ q => q) fun _ _ q => q
    rintro rfl
    rcases hc with rfl | hc
    · rw [hfree] at e; cases e
    · rw [hfree] at hc; cases hc
  refine wpAny_storeName_local hk hn (fun h' hn' hs => ?_) hcls
  obtain ⟨oL, _, _, hoL, _⟩ := id hn
  refine h _ ⟨I.ok, I.os, I.bare, ⟨fun b o e n hb hx => ?_, fun b o e n hb hx => ?_, I.base.free, fun b o e hx => ?_, I.base.tups, I.base.frzs, I.base.tbls⟩, ⟨_, hn', fun j y v' e1 e2 e3 => ?_⟩, fun y c e => ?_, I.free, I.freeC, fun p hp => ?_, tracked ⟨oL, hoL, I.free⟩ hs, by simpa using I.len⟩ ⟨_, hn', fun e he => ?_⟩ rfl
  · exact (hs.2 b (Nat.ne_of_lt (Nat.lt_of_lt_of_le (Heap.lt_size e) I.ok.above))).trans (I.base.keep b o e n hb hx)
  · obtain ⟨sl, e1⟩ := I.base.slot b o e n hb hx
    exact ⟨sl, (hs.2 b (Nat.ne_of_lt (Nat.lt_of_lt_of_le (Heap.lt_size e) I.ok.above))).trans e1⟩
  · obtain ⟨o', e1⟩ := I.base.there b o e hx
    exact ⟨o', (hs.2 b (Nat.ne_of_lt (Nat.lt_of_lt_of_le (Heap.lt_size e) I.ok.above))).trans e1⟩
  · by_cases hj : j = i
    · subst hj
      rw [hi] at e1; cases e1
      rw [List.getElem?_set_self hiσ] at e2
      cases e2
      exact ⟨u, r, .inl ⟨hk, by simp⟩⟩
    · rw [List.getElem?_set_ne (Ne.symm hj)] at e2
      obtain ⟨u', r', q⟩ := hl j y v' e1 e2 e3
      refine ⟨u', r', ?_⟩
      rcases q with ⟨k, e⟩ | ⟨k, c, e, z⟩
      · refine .inl ⟨k, ?_⟩
        have : y ≠ x := fun e => hj (nodup_ix hN e1 (e ▸ hi))
        simp [this, e]
      · exact .inr ⟨k, c, e, z.sameBut hs (cne y c e)⟩
  · obtain ⟨w', z⟩ := I.cell y c e
    exact ⟨w', z.sameBut hs (cne y c e)⟩
  · obtain ⟨e, n, ne, nf, d⟩ := I.pin p hp
    exact ⟨(hs.2 p.1 ne).trans e, n, ne, nf, d⟩
  · rcases List.mem_cons.mp he with rfl | he
    · show (if x = x then some u else m2 x) = some u
      rw [if_pos rfl]
    · show (if e.1 = x then some u else m2 e.1) = some e.2
      rw [if_neg (hx e he)]
      exact hf e he
/-! ### texts in locals whose tokens are out and apart -/
def tokOf : Value → Nat
  | .str _ t => t
  | _ => 0
def TKs (X : Cx) (ns : List Str) (s : Shared) : Prop := ∃ ff : List (Str × Value), FT X ff s ∧ ff.map (·.1) = ns ∧ (∀ e ∈ ff, ∃ (x : Str) (t : Nat), e.2 = .str x t ∧ 1 ≤ t ∧ t < s.toks) ∧ (ff.map fun e => tokOf e.2).Nodup
structure PSsK (X : Cx) (ns : List Str) (st : List Stmt) (t : TS) : Prop where
  run : ∀ (pins : List (Addr × Obj)) (s : Shared) (σ : St) (H : Hp) (D : Ends), Inv X pins σ H s → TKs X ns s → t D σ H → wpAny (model X.prog X.w) X.A (execs st X.env) (SP X pins D) X.xe s
structure PEK (X : Cx) (ns : List Str) (e : Expr) (t : TE) : Prop where
  run : ∀ (pins : List (Addr × Obj)) (s : Shared) (σ : St) (H : Hp) (Q : VK), Inv X pins σ H s → TKs X ns s → t σ H Q → wpAny (model X.prog X.w) X.A (eval e X.env) (fun u s' => EP X pins σ Q u s' ∧ TKs X ns s') X.xe s
structure PAK (X : Cx) (ns : List Str) (es : List Expr) (t : TA) : Prop where
  run : ∀ (pos : Pos) (pins : List (Addr × Obj)) (s : Shared) (σ : St) (H : Hp) (Q : List V → Hp → Prop), Inv X pins σ H s → TKs X ns s → t σ H Q → wpAny (model X.prog X.w) X.A (spliced (backTo pos (starEach es X.env))) (fun us s' => AP X pins σ Q us s' ∧ TKs X ns s') X.xe s
theorem pssk0 {st : List Stmt} {t : TS} (h : PSsK X [] st t) : PSs X st t :=
  ⟨fun pins s σ H D I q => h.run pins s σ H D I ⟨[], FT.nil I, rfl, fun _ z => (nomatch z), .nil⟩ q⟩
theorem pak_nil {ns : List Str} : PAK X ns [] tNil := ⟨fun _ _ _ _ H Q I k h => Calls.spliced_nil ⟨⟨[], H, I, .nil, h⟩, k⟩⟩
theorem pak_cons {ns : List Str} {e : Expr} {es : List Expr} {te : TE} {t : TA} (ha : PEK X ns e te) (hr : PAK X ns es t) (hs : starEach (e :: es) X.env = (false, eval e X.env) :: starEach es X.env := by rfl) : PAK X ns (e :: es) (tCons te t) := by
  refine ⟨fun pos pins s σ H Q I k h => ?_⟩
  rw [hs]
  show wpAny _ _ (spliced ((false, eval e X.env) :: backTo pos (starEach es X.env))) _ _ s
  refine Calls.spliced_cons (thn (ha.run pins s σ H _ I k h) fun u s1 ⟨⟨x, H1, I1, r1, q1⟩, k1⟩ => ?_)
  exact thn (hr.run pos pins s1 σ H1 _ I1 k1 q1) fun us s2 ⟨⟨xs, H2, I2, r2, q2⟩, k2⟩ => ⟨⟨x :: xs, H2, I2, .cons r1 r2, q2⟩, k2⟩
/-- return (..), the items under known tokens -/
theorem pssk_rtup {ns : List Str} {es : List Expr} {x1} {t : TA} {pos pos' : Pos} (h : PAK X ns es t) : PSsK X ns [.Return (some (.Tuple es x1 pos)) pos'] (tRet (tTup t)) := by
  refine ⟨fun pins s σ H D I k q => ?_⟩
  refine wpAny_execs_cons (wpAny_Return_some ?_)
  refine wpAny_Tuple_spliced (thn (h.run pos pins s σ H _ I k q) fun us s1 ⟨⟨xs, H1, I1, r, z, q⟩, _⟩ => ⟨by rw [← r.length]; exact z, ?_⟩)
  have hf : H1 s1.heap.objs.size = none := I1.hok.fresh (Nat.le_refl _)
  refine ⟨.ref s1.heap.objs.size, σ, upd H1 s1.heap.objs.size (.tup xs), I1.laid (t' := s1.toks) (fun b u e => Heap.get?_push_of_some _ e) (Nat.le_refl _) ?_, rfl, q _ hf⟩
  exact ⟨z, us, r, ⟨_, Heap.get?_push_size _ rfl, rfl, _, rfl⟩⟩
theorem pssk_set {ns : List Str} {i : Nat} {x : Str} {e : Expr} {te : TE} {rest : List Stmt} {u : TS} {pos pos' : Pos} (hN : X.N.Nodup) (he : PEK X ns e te) (hrest : PSs X rest u) (hi : X.N[i]? = some x := by rfl) (hx : Loc X.env.scope x := by first | exact Or.inl rfl | exact Or.inr rfl)
    (hs : swapsWith e (some (.Name x pos')) pos.line X.env = pure false := by rfl) (hf : X.fn x = true ∨ X.env.scope.names.lookup x = some .local := by first | exact .inl rfl | exact .inr rfl) : PSsK X ns (.Assign [.Name x pos'] e pos :: rest) (tSeq (tAsg te (gName i)) u) := by
  refine ⟨fun pins s σ H D I k h => ?_⟩
  refine wpAny_execs_cons (wpAny_Assign_Name (thn (he.run pins s σ H _ I k h) fun v s1 ⟨⟨y, H1, I1, r1, q1⟩, _⟩ => ?_) hs)
  exact store_ok I1 hN hi hx r1 (fun s2 I2 => hrest.run pins s2 _ H1 D I2 q1) hf
theorem pssk_pk {ns : List Str} {ix il ib lv : Nat} {x l b tk : Str} {sp : Sp} {W : WX} {rest : List Stmt} {u : TS} {px pos p1 p2 p3 p4 p5 p6 p7 p8 : Pos} (hN : X.N.Nodup) (F : Fn X.prog X.w X.K X.mg X.base tk lv [] sp) (hr : Room lv X.A) (tks : Takes X W) (hlen : X.mg "len" = none) (hrest : PSsK X (x :: ns) rest u) (hxn : x ∉ ns := by decide +kernel)
    (hNx : X.N[ix]? = some x := by rfl) (hkx : X.env.kindOf x = some .local := by rfl)
    (hNl : X.N[il]? = some l := by rfl) (hvl : Vis X.env.scope l := by first | exact Or.inl rfl | exact Or.inr (Or.inl rfl) | exact Or.inr (Or.inr rfl)) (hNb : X.N[ib]? = some b := by rfl) (hvb : Vis X.env.scope b := by first | exact Or.inl rfl | exact Or.inr (Or.inl rfl) | exact Or.inr (Or.inr rfl)) (hg : Gl X tk := by rfl) (hgl : Gl X "len" := by rfl)
    (hdt : (tk == ("__debug__" : Str)) = false := by decide +kernel) (hdl : (l == ("__debug__" : Str)) = false := by decide +kernel) (hcl : (l == ("__classdict__" : Str)) = false := by decide +kernel)
    (hdb : (b == ("__debug__" : Str)) = false := by decide +kernel) (hcb : (b == ("__classdict__" : Str)) = false := by decide +kernel)
    (hst : starEach [.Name b p3, .Call (.Name "len" p4) [.Name l p5] [] p6] X.env = [(false, eval (.Name b p3) X.env), (false, eval (.Call (.Name "len" p4) [.Name l p5] [] p6) X.env)] := by rfl)
    (hst1 : starEach [.Call (.Name "len" p4) [.Name l p5] [] p6] X.env = [(false, eval (.Call (.Name "len" p4) [.Name l p5] [] p6) X.env)] := by rfl)
    (hst2 : starEach [.Name l p5] X.env = [(false, eval (.Name l p5) X.env)] := by rfl)
    (hix : PlainIx (.Call (.Name tk p2) [.Name b p3, .Call (.Name "len" p4) [.Name l p5] [] p6] [] p7) := by exact fun _ _ => rfl)
    (hs : swapsWith (.Subscript (.Name l p1) (.Call (.Name tk p2) [.Name b p3, .Call (.Name "len" p4) [.Name l p5] [] p6] [] p7) p8) (some (.Name x px)) pos.line X.env = pure false := by rfl) :
    PSsK X ns (.Assign [.Name x px] (.Subscript (.Name l p1) (.Call (.Name tk p2) [.Name b p3, .Call (.Name "len" p4) [.Name l p5] [] p6] [] p7) p8) pos :: rest) (tSeq (tAsg (tPk sp W il ib) (gName ix)) u) := by
  refine ⟨fun pins s σ H D I k h => ?_⟩
  obtain ⟨ff, hF, hns, htok, hnd⟩ := k
  have h : tPk sp W il ib σ H fun x H1 => u D (σ.set ix (some x)) H1 := h
  refine wpAny_execs_cons (wpAny_Assign_Name (thn (ev_pk F hr tks hlen I hF h hNl hvl hNb hvb hg hgl hdt hdl hcl hdb hcb hst hst1 hst2 hix) fun v s1 hv => ?_) hs)
  obtain ⟨c, t, H1, rfl, h1, h2, h3, I1, q, hF1⟩ := hv
  refine store_F (v := .str (S [c])) I1 hN hNx hkx ⟨t, rfl⟩ hF1 (fun e he z => hxn (by rw [← hns, ← z]; exact List.mem_map_of_mem he)) fun s2 I2 hF2 ht2 => ?_
  refine hrest.run pins s2 _ H1 D I2 ⟨_, hF2, by rw [List.map_cons, hns], fun e he => ?_, ?_⟩ q
  · rcases List.mem_cons.mp he with rfl | he
    · exact ⟨S [c], t, rfl, h1, by omega⟩
    · obtain ⟨x', t', e1, e2, e3⟩ := htok e he
      exact ⟨x', t', e1, e2, by omega⟩
  · rw [List.map_cons]
    refine List.nodup_cons.mpr ⟨fun hm => ?_, hnd⟩
    obtain ⟨e, he, ee⟩ := List.mem_map.mp hm
    obtain ⟨x', t', e1, e2, e3⟩ := htok e he
    rw [e1] at ee
    have ee : t' = t := ee
    omega
/-! ### x.replace(old, new) -/
def rp (c d : Nat) (l : List Nat) : List Nat := l.map fun a => if a = c then d else a
theorem replL_rp (c d : Nat) : ∀ l : List Nat, StrLaws.replL [c] [d] l = rp c d l
  | [] => StrLaws.replL_nil
  | a :: l => by
    by_cases h : a = c
    · subst h
      rw [StrLaws.replL_hit (by simp) (by simp)]
      show [d] ++ StrLaws.replL [a] [d] l = _
      rw [replL_rp a d l]
      simp [rp]
    · rw [StrLaws.replL_miss (by simp [h]), replL_rp c d l]
      simp [rp, h]
theorem repl_S (x : Str) (c d : Nat) : Txt.replace x (S [c]) (S [d]) = S (rp c d (tl x)) := by
  refine ext_tl ?_
  have e := StrLaws.replace_list (x := x) (y := S [c]) (z := S [d]) (by rw [len_tl]; exact Nat.le_refl 1)
  exact e.trans (replL_rp c d (tl x))
def tRp (ix io iw : Nat) : TE := fun σ H Q => match σ[ix]? with
  | some (some (.str x)) => (match σ[io]? with
    | some (some (.str y)) => (match σ[iw]? with
      | some (some (.str z)) => (match tl y with
        | [c] => (match tl z with
          | [d] => c ≠ d ∧ (tl x).length ≤ 1000000 ∧ Q (.str (S (rp c d (tl x)))) H
          | _ => False)
        | _ => False)
      | _ => False)
    | _ => False)
  | _ => False
theorem tRp_e {ix io iw : Nat} {Q : VK} (h : tRp ix io iw σ H Q) : ∃ x c d, σ[ix]? = some (some (.str x)) ∧ σ[io]? = some (some (.str (S [c]))) ∧ σ[iw]? = some (some (.str (S [d]))) ∧ c ≠ d ∧ (tl x).length ≤ 1000000 ∧ Q (.str (S (rp c d (tl x)))) H := by
  unfold tRp at h
  split at h
  · rename_i x e1
    split at h
    · rename_i y e2
      split at h
      · rename_i z e3
        split at h
        · rename_i c ey
          split at h
          · rename_i d ez
            exact ⟨x, c, d, e1, by rw [e2, ← S_tl y, ey], by rw [e3, ← S_tl z, ez], h⟩
          · exact h.elim
        · exact h.elim
      · exact h.elim
    · exact h.elim
  · exact h.elim
theorem ns_uniq {m m2 : Str → Option Value} {h : Heap} {a : Addr} (hn : h.Ns a m) (hn2 : h.Ns a m2) : m2 = m := by
  obtain ⟨o, es, ep, ho, hd, _, r⟩ := hn
  obtain ⟨o2, es2, ep2, ho2, hd2, _, r2⟩ := hn2
  rw [ho] at ho2
  cases ho2
  rw [hd] at hd2
  cases hd2
  funext name
  rw [← r2 name, ← r name]
/-- a local's text: its token is known -/
theorem tk_name {ns : List Str} {ff : List (Str × Value)} {i : Nat} {x : Str} {y : Str} {pos : Pos} {Q E : Value → Shared → Prop} (hF : FT X ff s) (hns : ff.map (·.1) = ns) (htok : ∀ e ∈ ff, ∃ (x : Str) (t : Nat), e.2 = .str x t ∧ 1 ≤ t ∧ t < s.toks) (hx : x ∈ ns)
    (hN : X.N[i]? = some x) (hk : X.env.kindOf x = some .local) (I : Inv X pins σ H s) (hσ : σ[i]? = some (some (.str y))) (fin : ∀ t : Nat, 1 ≤ t → t < s.toks → (x, Value.str y t) ∈ ff → Q (.str y t) s)
    (hd : (x == ("__debug__" : Str)) = false) : wpAny (model X.prog X.w) X.A (eval (.Name x pos) X.env) Q E s := by
  obtain ⟨m, hn, hl⟩ := I.loc
  obtain ⟨u, ⟨t0, rfl⟩, l⟩ := hl i x _ hN hσ (.inl hk)
  obtain ⟨m2, hn2, hf⟩ := hF
  obtain rfl := ns_uniq hn hn2
  rw [← hns] at hx
  obtain ⟨e, he, rfl⟩ := List.mem_map.mp hx
  obtain ⟨y', t, e1, e2, e3⟩ := htok e he
  rcases l with ⟨_, hm⟩ | ⟨hk', _⟩
  · have hm2 := hf e he
    rw [hm] at hm2
    have e4 : e.2 = .str y t0 := (Option.some.inj hm2).symm
    rw [e4] at e1
    cases e1
    exact wpAny_Name (wpAny_loadName_local I.ok.kind hk hn2 hm (fin t0 e2 e3 (by rw [← e4]; exact he))) hd
  · rw [hk] at hk'
    rcases hk' with z | z <;> cases z
theorem pek_repl {ns : List Str} {ix io iw : Nat} {x o w' : Str} {p1 p2 p3 apos pos : Pos} (hNx : X.N[ix]? = some x := by rfl) (hvx : Vis X.env.scope x := by first | exact Or.inl rfl | exact Or.inr (Or.inl rfl) | exact Or.inr (Or.inr rfl)) (hNo : X.N[io]? = some o := by rfl) (hko : X.env.kindOf o = some .local := by rfl) (hNw : X.N[iw]? = some w' := by rfl) (hkw : X.env.kindOf w' = some .local := by rfl)
    (ho : o ∈ ns := by decide +kernel) (hw : w' ∈ ns := by decide +kernel) (hne : o ≠ w' := by decide +kernel) (hdx : (x == ("__debug__" : Str)) = false := by decide +kernel) (hcx : (x == ("__classdict__" : Str)) = false := by decide +kernel) (hdo : (o == ("__debug__" : Str)) = false := by decide +kernel) (hdw : (w' == ("__debug__" : Str)) = false := by decide +kernel)
    (hst : starEach [.Name o p2, .Name w' p3] X.env = [(false, eval (.Name o p2) X.env), (false, eval (.Name w' p3) X.env)] := by rfl)
    (hbase : attributeBase (.Name x p1) "replace" X.env (eval (.Name x p1) X.env) = eval (.Name x p1) X.env := by rfl) (hline : (apos.endLine == pos.line) = true := by rfl) :
    PEK X ns (.Call (.Attribute (.Name x p1) "replace" apos) [.Name o p2, .Name w' p3] [] pos) (tRp ix io iw) := by
  refine ⟨fun pins s σ H Q I k h => ?_⟩
  obtain ⟨z, c, d, e1, e2, e3, hcd, hb, q⟩ := tRp_e h
  obtain ⟨ff, hF, hns, htok, hnd⟩ := k
  refine wpAny_mono (wpAny_toks (Q := fun u s' => EP X pins σ Q u s' ∧ ∃ k : Nat, s' = { s with toks := k }) (PySem.Call_method2 hbase hst hline (raw_name hNx hvx I e1 (fun v r => ?_) hdx hcx))) (fun u s' hq => ?_) fun _ _ z => z.2
  · obtain ⟨tx, rfl⟩ := r
    refine ⟨"str", _, F.plainAttrs_str, F.slot_str_replace, F.type_str_replace, typeIs_str _ _ _, (fun _ e => nomatch e), Calls.callWith_builtin rfl (Calls.evalArgs_plain (Calls.spliced_cons ?_))⟩
    refine tk_name hF hns htok ho hNo hko I e2 (fun t h1 h2 hm1 => ?_) hdo
    refine Calls.spliced_cons (tk_name hF hns htok hw hNw hkw I e3 (fun t2 h3 h4 hm2 => ?_) hdw)
    refine Calls.spliced_nil ?_
    have hneq : t ≠ t2 := fun et => by
      obtain ⟨i, hi, ei⟩ := List.mem_iff_getElem.mp hm1
      obtain ⟨j, hj, ej⟩ := List.mem_iff_getElem.mp hm2
      have eij : i = j := by
        have hi' : i < (ff.map fun e => tokOf e.2).length := by rw [List.length_map]; exact hi
        have hj' : j < (ff.map fun e => tokOf e.2).length := by rw [List.length_map]; exact hj
        refine (List.getElem_inj hnd (h₀ := hi') (h₁ := hj')).mp ?_
        rw [List.getElem_map, List.getElem_map, ei, ej]
        exact et
      subst eij
      rw [ei] at ej
      exact hne (congrArg Prod.fst ej)
    refine PySem.SC.replace (show t ≠ (0 : Nat) from by omega) (show t2 ≠ (0 : Nat) from by omega) hneq (by simp only [beq_eq_false_iff_ne]; exact fun z => hcd (S1_inj _ _ z)) (by
      have : (S [d]).length = 1 := by rw [len_tl]; rfl
      rw [this, len_tl]; omega) fun t' k => ⟨⟨.str (S (rp c d (tl z))), H, I.tok k, ⟨t', by rw [repl_S]⟩, q⟩, k, rfl⟩
  · obtain ⟨hle, he, k, rfl⟩ := hq
    exact ⟨he, ff, hF, hns, fun e he => (let ⟨x, t, a, b, c⟩ := htok e he; ⟨x, t, a, b, Nat.lt_of_lt_of_le c hle⟩), hnd⟩
end
end Ta

set_option Elab.async false
set_option linter.all false
set_option maxRecDepth 100000
set_option maxHeartbeats 1000000
namespace Ta
open PySem PySem.Spec PyProof.Rows L2 He

/-! ### facts of the written part as Bools -/
abbrev BF := PySem.W.Frag → Bool
def bFree (x : Str) : BF := fun K => (Fa.free x).ok K
def bGlo (x : Str) : BF := fun K => (Fa.glo x).ok K
def bVal (x : Str) (v : V) : BF := fun K => match PySem.W.nsIn K mainGlobals x with
  | some (some u) => relB v u
  | _ => false
def bCls (x : Str) : BF := fun K => (Fa.cls x).ok K
def bNo (x f : Str) : BF := fun K => (Fa.noat x f).ok K
def bMe (x m : Str) : BF := fun K => (Fa.meth x m).ok K
def bMk (x : Str) : BF := fun K => (Fa.mkr x).ok K
def bExm (x y : Str) (b : Bool) : BF := fun K => (Fa.exm x y b).ok K
def bExmT (x : Str) (y : String) (b : Bool) : BF := fun K => decide (PySem.W.exmOne K (.ref (ga K x)) (.type y) = some b)
def bKit (x y : Str) (b : Bool) : BF := fun K => decide (PySem.W.kitOne K (.ref (ga K x)) (.ref (ga K y)) = some b)
def bKitT (x : Str) (y : String) (b : Bool) : BF := fun K => decide (PySem.W.kitOne K (.ref (ga K x)) (.type y) = some b)
def bKitA (x : Str) (ys : List Str) (b : Bool) : BF := fun K => decide (PySem.W.kitAny K (.ref (ga K x)) (ys.map fun y => .ref (ga K y)) = some b)
def bTKit (x : String) (y : Str) (b : Bool) : BF := fun K => decide (PySem.W.kitOne K (.type x) (.ref (ga K y)) = some b)
def bIsc (x : Str) : BF := fun K => (Fa.cls x).ok K && (eqO (PySem.W.findIn K (.ref (ga K x)) "__class__") (some (some (.builtin "object.__class__"))) &&
  (eqO (PySem.W.specialIn K (.builtin "object.__class__") "__get__") (some (some (.builtin "getset_descriptor.__get__"))) && (decide (PySem.W.takesIn K (.builtin "object.__class__") = some true) && decide (PySem.W.mroIn K (ga K x) (.type "object") = some true))))
def bXc (x : Str) : BF := fun K => xfB K (ga K x) && (eqO (PySem.W.findIn K (.ref (ga K x)) "__class__") (some (some (.builtin "object.__class__"))) &&
  (eqO (PySem.W.specialIn K (.builtin "object.__class__") "__get__") (some (some (.builtin "getset_descriptor.__get__"))) && (decide (PySem.W.takesIn K (.builtin "object.__class__") = some true) && decide (PySem.W.mroIn K (ga K x) (.type "object") = some true))))
def bCC (x f : Str) (v : V) : BF := fun K => (Fa.glo x).ok K && (PySem.W.readsIn K (ga K x) (.type "type") && (eqO (PySem.W.specialIn K (.ref (ga K x)) "__getattribute__") (some (some (.builtin "type.__getattribute__"))) &&
  (match PySem.W.findCls K (.ref (ga K x)) (.type "type") f with
    | some (.val u) => relB v u
    | _ => false)))
def bCon (x f : Str) (v : V) : BF := fun K => !PySem.W.copiedNames.contains f && (match PySem.W.findIn K (.ref (ga K x)) f with
  | some (some u) => relB v u && eqO (PySem.W.specialIn K u "__get__") (some none)
  | _ => false)
/-- no list of the written part holds whole numbers alone -/
def bNoL : BF := fun K => K.all fun e => match e.2 with
  | ⟨.type t, _, .seq its _, _⟩ => !decide (t = "list") || its.toList.any fun v => match v with
    | .int _ _ => false
    | _ => true
  | _ => true
def oexB (K : PySem.W.Frag) (C : Addr) : Bool := match K.lookup C with
  | some ⟨.type t, _, .cls cd, sl⟩ => decide (t = "type") && (match cd.mro, sl.toList with
    | .ref c :: bm, [_, _, _, _, some (.builtin i), _] => decide (c = C) && (PySem.HandSPX.refsVE bm && (decide (i = "ValueError.__new__") && (cd.hasDict && !cd.hasDel)))
    | _, _ => false)
  | _ => false
def bOex (x : Str) : BF := fun K => oexB K (ga K x) && (eqO (PySem.W.findIn K (.ref (ga K x)) "__setattr__") (some (some (.builtin "object.__setattr__"))) && (decide (PySem.W.subIn K (.ref (ga K x)) (.type "BaseException") = some true) &&
  (decide (PySem.W.typeIn K (.ref (ga K x)) = some (.type "type")) && PySem.W.keepIn K (.ref (ga K x)))))
/-- class x, its __init__ of class y -/
def bSup (x y : Str) : BF := fun K => decide (PySem.W.mroIn K (ga K x) (.ref (ga K y)) = some true) && (eqO (PySem.W.ks_superIn K (ga K x) (ga K y) "__init__") (some (some (.builtin "ValueError.__init__"))) &&
  (decide (PySem.W.subIn K (.ref (ga K x)) (.type "ValueError") = some true) && (eqO (PySem.W.nsIn K cStatics "thirdparty.any") (some none) &&
  (eqO (PySem.W.findIn K (.ref (ga K x)) "__init__") (some (some (.ref (ma K (ga K y) "__init__")))) && decide (PySem.W.typeIn K (.ref (ma K (ga K y) "__init__")) = some (.type "function"))))))
section
variable {K : PySem.W.Frag} {h : Heap} {mg : Str → Option Value} {x y f : Str} {v : V}
theorem free_of (X : K.In h) (G : h.Ns mainGlobals mg) (c : bFree x K = true) : mg x = none := He.free_ok X G c
theorem glo_of (X : K.In h) (G : h.Ns mainGlobals mg) (c : bGlo x K = true) : mg x = some (.ref (ga K x)) := He.glo_ok X G c
theorem gv_of (X : K.In h) (G : h.Ns mainGlobals mg) (c : bGlo x K = true) : GlobV mg x (.ref (ga K x)) := ⟨_, glo_of X G c, rfl⟩
theorem val_of (X : K.In h) (G : h.Ns mainGlobals mg) (c : bVal x v K = true) : GlobV mg x v := by
  unfold bVal at c
  split at c
  · rename_i u e
    exact ⟨u, PySem.W.mg_of X G e, relB_ok c⟩
  · cases c
theorem cls_of (c : bCls x K = true) : Cls K (ga K x) := He.cls_ok c
theorem no_of (c : bNo x f K = true) : NoAttr K (ga K x) f := He.noat_ok c
theorem no_of' (c : bNo x f K = true) : PySem.W.findIn K (.ref (ga K x)) f = some none := He.noat_ok c
theorem me_of (c : bMe x f K = true) : Meth K (ga K x) f (ma K (ga K x) f) := He.meth_ok c
theorem mk_of (c : bMk x K = true) : Mk K (ga K x) (ma K (ga K x) "__init__") := He.mkr_ok c
theorem exm_of {b : Bool} (c : bExm x y b K = true) : PySem.W.exmOne K (.ref (ga K x)) (.ref (ga K y)) = some b := He.exm_ok c
theorem exmT_of {b : Bool} {y : String} (c : bExmT x y b K = true) : PySem.W.exmOne K (.ref (ga K x)) (.type y) = some b := of_decide_eq_true c
theorem kit_of {b : Bool} (c : bKit x y b K = true) : PySem.W.kitOne K (.ref (ga K x)) (.ref (ga K y)) = some b := of_decide_eq_true c
theorem kitT_of {b : Bool} {y : String} (c : bKitT x y b K = true) : PySem.W.kitOne K (.ref (ga K x)) (.type y) = some b := of_decide_eq_true c
theorem tkit_of {b : Bool} {x : String} (c : bTKit x y b K = true) : PySem.W.kitOne K (.type x) (.ref (ga K y)) = some b := of_decide_eq_true c
theorem kitA_of {b : Bool} {ys : List Str} (c : bKitA x ys b K = true) : PySem.W.kitAny K (.ref (ga K x)) (ys.map fun y => .ref (ga K y)) = some b := of_decide_eq_true c
theorem isc_of (c : bIsc x K = true) : IsC K (ga K x) := by
  obtain ⟨c1, c⟩ := He.ba c
  obtain ⟨c2, c⟩ := He.ba c
  obtain ⟨c3, c⟩ := He.ba c
  obtain ⟨c4, c5⟩ := He.ba c
  exact ⟨fun H a dx fs e => .ins e (cls_of c1) (eqO_ok c2) (eqO_ok c3) (of_decide_eq_true c4) (of_decide_eq_true c5)⟩
theorem xc_of (c : bXc x K = true) : XC K (ga K x) := by
  obtain ⟨c1, c⟩ := He.ba c
  obtain ⟨c2, c⟩ := He.ba c
  obtain ⟨c3, c⟩ := He.ba c
  obtain ⟨c4, c5⟩ := He.ba c
  have q := xfB_ok c1
  exact ⟨q, ⟨q.ga, q.gg, q.exC, q.hdC, eqO_ok c2, eqO_ok c3, of_decide_eq_true c4, of_decide_eq_true c5⟩⟩
theorem cc_of (X : K.In h) (G : h.Ns mainGlobals mg) (c : bCC x f v K = true) : ClsConst K mg x f v := by
  obtain ⟨c1, c⟩ := He.ba c
  obtain ⟨c2, c⟩ := He.ba c
  obtain ⟨c3, c⟩ := He.ba c
  split at c
  · rename_i u e
    exact ⟨_, _, u, He.glo_ok X G c1, ⟨c2, eqO_ok c3⟩, ⟨e, relB_ok c⟩⟩
  · cases c
theorem con_of (c : bCon x f v K = true) : ∃ u, Con K (ga K x) f v u := by
  obtain ⟨c1, c⟩ := He.ba c
  split at c
  · rename_i u e
    obtain ⟨c2, c3⟩ := He.ba c
    exact ⟨u, e, relB_ok c2, eqO_ok c3, by simpa using c1⟩
  · cases c
theorem oexB_ok {C : Addr} (c : oexB K C = true) : ∃ nm q N bs bm sn sub ab col dd k0 k1 k2 k3 k5, K.lookup C = some (excClassObj nm q C N bs bm true sn sub ab col dd k0 k1 k2 k3 k5 "ValueError.__new__") ∧ PySem.HandSPX.refsVE bm = true := by
  unfold oexB at c
  split at c
  · rename_i t dd cd sl e
    obtain ⟨c1, c⟩ := He.ba c
    have c1 := of_decide_eq_true c1
    subst c1
    split at c
    · rename_i cc bm k0 k1 k2 k3 i k5 e1 e2
      obtain ⟨_, c⟩ := He.ba c
      obtain ⟨c2, c⟩ := He.ba c
      obtain ⟨c3, c⟩ := He.ba c
      obtain ⟨c4, c⟩ := He.ba c
      obtain ⟨c5, c6⟩ := He.ba c
      have c2 := of_decide_eq_true c2
      have c4 := of_decide_eq_true c4
      subst c2 c4
      obtain ⟨m1, m2, m3, m4, m5, m6, m7, m8, m9, m10, m11⟩ := cd
      obtain ⟨sl⟩ := sl
      simp only at e1 e2 c5 c6
      simp only [Bool.not_eq_true'] at c6
      subst e1 e2 c5 c6
      exact ⟨_, _, _, _, bm, _, _, _, _, _, k0, k1, k2, k3, k5, e, c3⟩
    · cases c
  · cases c
theorem oex_of (c : bOex x K = true) : OexC K (ga K x) := by
  obtain ⟨c1, c⟩ := He.ba c
  obtain ⟨c2, c⟩ := He.ba c
  obtain ⟨c3, c⟩ := He.ba c
  obtain ⟨c4, c5⟩ := He.ba c
  exact ⟨oexB_ok c1, eqO_ok c2, of_decide_eq_true c3, of_decide_eq_true c4, c5⟩
theorem sup_of (o : bOex x K = true) (c : bSup x y K = true) : SupExc K (ga K x) (ga K y) ∧ PySem.W.findIn K (.ref (ga K x)) "__init__" = some (some (.ref (ma K (ga K y) "__init__"))) ∧ PySem.W.typeIn K (.ref (ma K (ga K y) "__init__")) = some (.type "function") := by
  obtain ⟨c1, c⟩ := He.ba c
  obtain ⟨c2, c⟩ := He.ba c
  obtain ⟨c3, c⟩ := He.ba c
  obtain ⟨c4, c⟩ := He.ba c
  obtain ⟨c5, c6⟩ := He.ba c
  exact ⟨⟨oex_of o, of_decide_eq_true c1, eqO_ok c2, of_decide_eq_true c3, eqO_ok c4⟩, eqO_ok c5, of_decide_eq_true c6⟩
theorem vals_int : ∀ {ns : List Int} {us : List Value}, Vals (ns.map V.int) us → (us.any fun v => match v with
      | .int _ _ => false
      | _ => true) = false
  | [], _, .nil => rfl
  | n :: ns, _, .cons r t => by
    obtain ⟨k, rfl⟩ := r
    rw [List.any_cons, vals_int t]
    rfl
theorem scr_of {H : Hp} {a : Addr} {ns : List Int} (c : bNoL K = true) (hO : Only H) (hS : SqL K H a (ns.map V.int)) : ∃ ob, H a = some (.frz ob (.lst (ns.map V.int))) := by
  rcases hS with (hS | ⟨ob, hS⟩) | ⟨o, its, n, lk, o1, o2, o3, o4, o5⟩
  · rcases hO a with z | ⟨ob, xs, z⟩
    · rw [hS] at z; cases z
    · rw [hS] at z; cases z
  · exact ⟨ob, hS⟩
  · exfalso
    obtain ⟨oc, od, dt, sl⟩ := o
    simp only at o1 o2 o3
    subst o1 o2 o3
    have hm : (a, (⟨.type "list", none, .seq its n, sl⟩ : Obj)) ∈ K := by
      clear c o5 o4
      induction K with
      | nil => cases lk
      | cons e K ih =>
        obtain ⟨b, u⟩ := e
        rw [List.lookup_cons] at lk
        split at lk
        · rename_i hb
          have hb := eq_of_beq hb
          cases lk
          subst hb
          exact List.mem_cons_self
        · exact List.mem_cons_of_mem _ (ih lk)
    have q := List.all_eq_true.mp c _ hm
    have q : (!decide ("list" = "list") || its.toList.any fun v => match v with
      | .int _ _ => false
      | _ => true) = true := q
    rw [vals_int o5, Bool.or_false] at q
    simp at q
end

/-! ### a def that says super(), the Hook -/
abbrev FnS : Type := Option (Str × Str × Arguments × FuncBody × Scope × Addr × List Str × Addr)
structure SupD where
  cls : Str
  name : Str
  qual : Str
  params : Arguments
  body : List Stmt
  scope : Scope
def SupD.at_ (K : PySem.W.Frag) (d : SupD) : Addr := ma K (ga K d.cls) d.name
def fnS (K : PySem.W.Frag) (f : Addr) : FnS := match K.lookup f with
  | some ⟨_, _, .func fd, _⟩ => some (fd.name, fd.qualname, fd.params, fd.body, fd.scope, fd.globals, fd.closure.map (·.1), fd.builtins)
  | _ => none
def SupD.val (d : SupD) : FnS := some (d.name, d.qual, d.params, .stmts d.body, d.scope, mainGlobals, ["__class__"], builtinsNs)
def SupD.ok (file : Str) (K : PySem.W.Frag) (d : SupD) : Bool := PySem.W.keepIn K (.ref (d.at_ K)) && (match K.lookup (d.at_ K) with
  | some ⟨_, _, .func fd, _⟩ => (match fd.closure with
    | [(_, cc)] => (match K.lookup cc with
      | some ⟨_, _, .cell (some (.ref D)), _⟩ => decide (D = ga K d.cls)
      | _ => false)
    | _ => false) && ((match fd.defaults with
      | .none => true
      | _ => false) && ((PySem.W.clsIn K (ga K d.cls)).isSome && (match fd.code with
    | .ref c => PySem.W.codeIn K (.ref c) d.qual && (match K.lookup c with
      | some ⟨_, _, .fields vs, _⟩ => (match (vs[2]? : Option Value) with
        | some (.str fl _) => (file == fl)
        | _ => false)
      | _ => false)
    | _ => false)))
  | _ => false)
theorem SupD.fn {P : Program} {K : PySem.W.Frag} {d : SupD} (e : fnS K (d.at_ K) = d.val) (c : d.ok P.main.file K = true) (top : (P.main.scope.names.lookup ("super" : Str)).isSome = false) :
    ∃ (F : NdefX.NF) (fd : FuncData), F.name = d.name ∧ F.qual = d.qual ∧ F.params = d.params ∧ F.body = d.body ∧ F.scope = d.scope ∧ SupFn P K (d.at_ K) F (ga K d.cls) [] fd := by
  obtain ⟨kp, c2⟩ := He.ba c
  unfold fnS at e
  cases q : K.lookup (d.at_ K) with
  | none => rw [q] at c2; cases c2
  | some o =>
    obtain ⟨oc, od, dt, osl⟩ := o
    rw [q] at c2 e
    cases dt with
    | func fd =>
      obtain ⟨n1, n2, n3, n4, n5, n6, n7, n8, n9, n10, n11, n12, n13, n14, n15⟩ := fd
      have e2 : (some (n1, n2, n3, n4, n5, n6, n7.map (·.1), n15) : FnS) = (some (d.name, d.qual, d.params, FuncBody.stmts d.body, d.scope, mainGlobals, ["__class__"], builtinsNs) : FnS) := e
      simp only [Option.some.injEq, Prod.mk.injEq] at e2
      obtain ⟨h1, h2, h3, h4, h5, h6, h7, h8⟩ := e2
      obtain ⟨k1, c3⟩ := He.ba c2
      obtain ⟨k2, c4⟩ := He.ba c3
      obtain ⟨k3, k4⟩ := He.ba c4
      clear c4 c3 c2 e c
      obtain _ | ⟨⟨xc, cc⟩, _ | ⟨b, r⟩⟩ := n7
      · cases h7
      · simp only [List.map_cons, List.map_nil, List.cons.injEq, and_true] at h7
        subst h7
        simp only at k1 k2 k4
        split at k1
        · rename_i c1 c2 D c3 hc
          have k1' := of_decide_eq_true k1
          clear k1
          split at k2
          · split at k4
            · rename_i c
              obtain ⟨k5, k6⟩ := He.ba k4
              clear k4 k2
              split at k6
              · rename_i a1 a2 vs a3 hcc
                split at k6
                · rename_i fl tf hvs
                  subst h1 h2 h3 h4 h5 h6 h8
                  obtain ⟨cdD, hcd⟩ := Option.isSome_iff_exists.mp k3
                  subst k1'
                  exact ⟨⟨d.name, d.qual, d.params, d.body, d.scope, [("__class__", cc)], _⟩, _, rfl, rfl, rfl, rfl, rfl, ⟨⟨cc, oc, od, _, _, _, _, _, _, osl, rfl, rfl, q, .inl ⟨rfl, rfl⟩, _, _, _, hc⟩, k5, ⟨_, _, vs, _, fl, tf, hcc, hvs, k6⟩, ⟨cdD, hcd⟩, top, kp⟩⟩
                · cases k6
              · cases k6
            · cases k4
          · cases k2
        · cases k1
      · cases h7
    | _ => cases c2
/-! ### a def, wherever it stands -/
structure XD where
  at_ : PySem.W.Frag → Addr
  name : Str
  qual : Str
  params : Arguments
  body : List Stmt
  scope : Scope
  dfl : List Dv := []
  kwd : List (Str × Dv) := []
def XD.val (d : XD) : FnS := some (d.name, d.qual, d.params, .stmts d.body, d.scope, mainGlobals, ([] : List Str), builtinsNs)
def XD.vs (K : PySem.W.Frag) (d : XD) : List V := d.dfl.map fun z => Dv.v K z
def XD.ks (K : PySem.W.Frag) (d : XD) : List (Str × V) := d.kwd.map fun z => (z.1, z.2.v K)
def XD.ok (K : PySem.W.Frag) (d : XD) : Bool := PySem.W.keepIn K (.ref (d.at_ K)) && (match K.lookup (d.at_ K) with
  | some ⟨_, _, .func fd, _⟩ => dflB K fd.defaults (d.vs K) && (kwdB K fd.kwdefaults (d.ks K) && PySem.W.codeIn K fd.code d.qual)
  | _ => false)
theorem XD.fn {K : PySem.W.Frag} {d : XD} (e : fnS K (d.at_ K) = d.val) (c : d.ok K = true) : ∃ fd, FunD K d.name d.qual d.params d.body d.scope (d.vs K) (d.ks K) (d.at_ K) fd := by
  obtain ⟨kp, c1⟩ := He.ba c
  unfold fnS at e
  cases lk : K.lookup (d.at_ K) with
  | none => rw [lk] at c1; cases c1
  | some o =>
    obtain ⟨o1, o2, dt, o4⟩ := o
    rw [lk] at c1 e
    cases dt with
    | func fd =>
      obtain ⟨m1, m2, m3, m4, m5, m6, m7, m8, m9, m10, m11, m12, m13, m14, m15⟩ := fd
      have e2 : (some (m1, m2, m3, m4, m5, m6, m7.map (·.1), m15) : FnS) = (some (d.name, d.qual, d.params, FuncBody.stmts d.body, d.scope, mainGlobals, ([] : List Str), builtinsNs) : FnS) := e
      simp only [Option.some.injEq, Prod.mk.injEq] at e2
      obtain ⟨z1, z2, z3, z4, z5, z6, z7, z8⟩ := e2
      obtain ⟨y1, y2⟩ := He.ba c1
      obtain ⟨y3, y4⟩ := He.ba y2
      have z7 : m7 = [] := List.map_eq_nil_iff.mp z7
      subst z1 z2 z3 z4 z5 z6 z7 z8
      exact ⟨_, ⟨o1, o2, m8, m9, m10, m11, m12, m13, m14, o4, rfl, lk, y4, dflB_ok y1, kwdB_ok y3⟩, kp⟩
    | _ => cases c1
/-- a property's getter -/
def prA (K : PySem.W.Frag) (C : Addr) (f : Str) : Addr := match PySem.W.recIn K (ma K C f) "property" with
  | some (.ref g :: _) => g
  | _ => 0
def bPrp (x f : Str) : BF := fun K => eqO (PySem.W.findIn K (.ref (ga K x)) f) (some (some (.ref (ma K (ga K x) f)))) && (eqO (PySem.W.specialIn K (.ref (ma K (ga K x) f)) "__get__") (some (some (.builtin "property.__get__"))) &&
  (decide (PySem.W.takesIn K (.ref (ma K (ga K x) f)) = some true) && (match PySem.W.recIn K (ma K (ga K x) f) "property" with
    | some (.ref _ :: _) => true
    | _ => false)))
theorem prp_of {K : PySem.W.Frag} {x f : Str} (c : bPrp x f K = true) : PropOf K (ga K x) f (ma K (ga K x) f) (prA K (ga K x) f) := by
  obtain ⟨c1, c⟩ := He.ba c
  obtain ⟨c2, c⟩ := He.ba c
  obtain ⟨c3, c4⟩ := He.ba c
  refine ⟨eqO_ok c1, eqO_ok c2, of_decide_eq_true c3, ?_⟩
  split at c4
  · rename_i g r e
    refine ⟨r, ?_⟩
    unfold prA
    rw [e]
  · cases c4
abbrev AlX : Type := Bool × List FnS × List FnS
def obsX (file : Str) (fa : List BF) (fn : List XD) (sn : List SupD) (K : PySem.W.Frag) : AlX := ((fa.all fun f => f K) && (fn.all (fun d => d.ok K) && sn.all fun d => d.ok file K), fn.map (fun d => fnS K (d.at_ K)), sn.map fun d => fnS K (d.at_ K))
def valX (fn : List XD) (sn : List SupD) : AlX := (true, fn.map XD.val, sn.map SupD.val)
def SaysX (file : Str) (fa : List BF) (fn : List XD) (sn : List SupD) (K : PySem.W.Frag) : Prop := obsX file fa fn sn K = valX fn sn
def asX (g : Addr → Option Obj) (n : Nat) : List Addr := asD g n ++ [cStatics]
def obsXG (n : Nat) (file : Str) (fa : List BF) (fn : List XD) (sn : List SupD) (g : Addr → Option Obj) : AlX := obsX file fa fn sn (frG g (asX g n))
def hookX (n : Nat) (file : Str) (fa : List BF) (fn : List XD) (sn : List SupD) : PySem.W.Hook where
  α := AlX
  obs := fun s => obsXG n file fa fn sn s.heap.get?
  val := fun _ => valX fn sn
  says := fun _ h => ∃ K : PySem.W.Frag, K.In h ∧ SaysX file fa fn sn K
  of := fun _ _ e => ⟨_, frG_in, e⟩
  keeps := fun _ _ _ ⟨K, hK, c⟩ k => ⟨K, PySem.W.Frag.In.keeps hK k, c⟩
theorem obsXG_eq {n : Nat} {file : Str} {fa : List BF} {fn : List XD} {sn : List SupD} {g : Addr → Option Obj} {s : Shared} (h : ∀ a, g a = s.heap.get? a) : obsXG n file fa fn sn g = (hookX n file fa fn sn).obs s := by
  have e : g = s.heap.get? := funext h
  rw [e] <;> rfl
section
variable {file : Str} {fa : List BF} {fn : List XD} {sn : List SupD} {K : PySem.W.Frag}
theorem SaysX.fact (c : SaysX file fa fn sn K) (i : Nat) {f : BF} (h : fa[i]? = some f := by rfl) : f K = true := by
  have c1 := (He.ba (show ((fa.all fun f => f K) && (fn.all (fun d => d.ok K) && sn.all fun d => d.ok file K)) = true from congrArg (fun z : AlX => z.1) c)).1
  exact List.all_eq_true.mp c1 f (List.mem_of_getElem? h)
theorem SaysX.def_ (c : SaysX file fa fn sn K) (i : Nat) {d : XD} (h : fn[i]? = some d := by rfl) : ∃ fd, FunD K d.name d.qual d.params d.body d.scope (d.vs K) (d.ks K) (d.at_ K) fd := by
  have c2 := (He.ba (He.ba (show ((fa.all fun f => f K) && (fn.all (fun d => d.ok K) && sn.all fun d => d.ok file K)) = true from congrArg (fun z : AlX => z.1) c)).2).1
  have e : fn.map (fun d => fnS K (d.at_ K)) = fn.map XD.val := congrArg (fun z : AlX => z.2.1) c
  have e2 : (fn.map fun d => fnS K (d.at_ K))[i]? = (fn.map XD.val)[i]? := by rw [e]
  rw [List.getElem?_map, List.getElem?_map, h] at e2
  exact XD.fn (Option.some.inj e2) (List.all_eq_true.mp c2 d (List.mem_of_getElem? h))
theorem SaysX.sup {P : Program} (c : SaysX P.main.file fa fn sn K) (i : Nat) (top : (P.main.scope.names.lookup ("super" : Str)).isSome = false) {d : SupD} (h : sn[i]? = some d := by rfl) :
    ∃ (F : NdefX.NF) (fd : FuncData), F.name = d.name ∧ F.qual = d.qual ∧ F.params = d.params ∧ F.body = d.body ∧ F.scope = d.scope ∧ SupFn P K (d.at_ K) F (ga K d.cls) [] fd := by
  have c2 := (He.ba (He.ba (show ((fa.all fun f => f K) && (fn.all (fun d => d.ok K) && sn.all fun d => d.ok P.main.file K)) = true from congrArg (fun z : AlX => z.1) c)).2).2
  have e : sn.map (fun d => fnS K (d.at_ K)) = sn.map SupD.val := congrArg (fun z : AlX => z.2.2) c
  have e2 : (sn.map fun d => fnS K (d.at_ K))[i]? = (sn.map SupD.val)[i]? := by rw [e]
  rw [List.getElem?_map, List.getElem?_map, h] at e2
  exact SupD.fn (Option.some.inj e2) (List.all_eq_true.mp c2 d (List.mem_of_getElem? h)) top
end
/-- a law's end -/
theorem walk_ofX {l : PySem.W.OpenLaw} {n k : Nat} {q : Program} {loose : List Str} {XP : (Str → Option Value) → Heap → Prop} {YP : World → Heap → Prop} {d : DefRec} {x : Str}
    (hn : l.most = some n) (hn2 : n ≤ sizeLine) (hdf : d.params.defaults = []) (hr : Room k callerA)
    (F : ∀ (w : World) (mg : Str → Option Value) (fa : Addr) (h : Heap), YP w h → h.Ns mainGlobals mg → mg d.name = some (.ref fa) →
      ∃ (K : PySem.W.Frag) (fd : FuncData) (sp : Sp), K.In h ∧ (∀ (s : Shared) (u : Value), BindsTo s fd ⟨[u], []⟩ [(x, u)]) ∧
        (∀ (H : Hp) (a : Addr) (ns : List Int), ns.length ≤ n → Only H → SqL K H a (ns.map V.int) → sp [.ref a] H (fun v _ => v = .bl true) fun _ _ _ => False) ∧
        ∀ base : Heap, K.In base → base.Ns mainGlobals mg → FnOk l.prog w K mg base (L2.CX l.prog w) k fa fd [x] sp) :
    PySem.W.WalkO q loose XP YP l.row.toRowW d [] (fun f vs => PySem.call f vs) := by
  refine Att.attach_call hn hdf fun w s₀ s₁ mg mb fa o pm cd doc a vs ns G Y ho hd hcd hmg hobj hints hlen hg => ?_
  obtain ⟨K, fd, sp, KX, hb, hsp, hF⟩ := F w mg fa _ Y G.T.g hmg
  exact law_call KX G.T.g G.T.b G.T.builtins G.T.nolimit hg hobj hints (Nat.le_trans hlen hn2) hr hF hb (fun H hO hS => hsp H a ns hlen hO hS) fun H e s' ⟨_, _, _, _, _, _, _, _, _, _, _, _, z⟩ => z
end Ta

set_option Elab.async false
set_option linter.all false
set_option maxRecDepth 100000
set_option maxHeartbeats 1000000
namespace Ta
open PySem PySem.Spec PyProof.Rows L2

/-! ### is, is not: None, truth values -/
def zIsB : R2 := fun x y H Q => match y with
  | .non => Q (.bl (decide (x = .non))) H
  | .bl b => (match x with
    | .bl a => Q (.bl (decide (a = b))) H
    | _ => False)
  | _ => False
def zIsnB : R2 := fun x y H Q => match y with
  | .non => Q (.bl (!decide (x = .non))) H
  | .bl b => (match x with
    | .bl a => Q (.bl (!decide (a = b))) H
    | _ => False)
  | _ => False
section
variable {X : Cx}
theorem opisb : OpR X (compareOp .Is) zIsB := by
  intro pins s σ H x y v u Q I rx ry h
  cases y with
  | non => exact op_isN pins s σ H _ _ v u Q I rx ry ⟨rfl, h⟩
  | bl b => cases x with
    | bl a => exact op_is_bl pins s σ H _ _ v u Q I rx ry ⟨a, b, rfl, rfl, h⟩
    | _ => exact False.elim h
  | _ => exact False.elim h
theorem opisnb : OpR X (compareOp .IsNot) zIsnB := by
  intro pins s σ H x y v u Q I rx ry h
  cases y with
  | non => exact op_notN pins s σ H _ _ v u Q I rx ry ⟨rfl, h⟩
  | bl b => cases x with
    | bl a => exact op_isnot_bl pins s σ H _ _ v u Q I rx ry ⟨a, b, rfl, rfl, h⟩
    | _ => exact False.elim h
  | _ => exact False.elim h
/-! ### o.f += e -/
def sAug (K : PySem.W.Frag) (ta tv : TE) (f : Str) (g : Int → Int → Int) : TS := fun D σ H => ta σ H fun x H1 => match x with
  | .ref a => look H1 a fun ob => (match ob with
    | some (.ins C dx fs) => Cls K C ∧ NoAttr K C f ∧ fld fs f fun v => match v with
      | .int i => tv σ H1 fun y H2 => (match y with
        | .int j => look H2 a fun ob' => (match ob' with
          | some (.ins C' dx' fs') => C' = C ∧ fs'.length < 1000 ∧ D.nx σ (upd H2 a (.ins C dx' (putF f (.int (g i j)) fs')))
          | _ => False)
        | _ => False)
      | _ => False
    | _ => False)
  | _ => False
theorem sAug_e {K : PySem.W.Frag} {tv : TE} {f : Str} {g : Int → Int → Int} {rd : V → V → Hp → VK → Prop} {D : Ends} {σ : St} {x : V} {H1 : Hp} (h : match x with
  | .ref a => look H1 a fun ob => (match ob with
    | some (.ins C dx fs) => Cls K C ∧ NoAttr K C f ∧ fld fs f fun v => match v with
      | .int i => tv σ H1 fun y H2 => (match y with
        | .int j => look H2 a fun ob' => (match ob' with
          | some (.ins C' dx' fs') => C' = C ∧ fs'.length < 1000 ∧ D.nx σ (upd H2 a (.ins C dx' (putF f (.int (g i j)) fs')))
          | _ => False)
        | _ => False)
      | _ => False
    | _ => False)
  | _ => False) (hrd : ∀ i j H Q, Q (.int (g i j)) H → rd (.int i) (.int j) H Q) (hm : ∀ σ H Q Q', (∀ v H, Q v H → Q' v H) → tv σ H Q → tv σ H Q') : ∃ a C dx fs v, x = .ref a ∧ H1 a = some (.ins C dx fs) ∧ Cls K C ∧ NoAttr K C f ∧ fs.lookup f = some v ∧
  tv σ H1 fun y H2 => rd v y H2 fun z H3 => ∃ dx' fs', H3 a = some (.ins C dx' fs') ∧ fs'.length < 1000 ∧ D.nx σ (upd H3 a (.ins C dx' (putF f z fs'))) := by
  cases x with
  | ref a =>
    have h := look_e h
    cases e : H1 a with
    | none => rw [e] at h; exact h.elim
    | some ob =>
      rw [e] at h
      cases ob with
      | ins C dx fs =>
        obtain ⟨h1, h2, h3⟩ := h
        obtain ⟨v, l, q⟩ := fld_e h3
        cases v with
        | int i =>
          refine ⟨a, C, dx, fs, _, rfl, e, h1, h2, l, hm _ _ _ _ (fun y H2 h => ?_) q⟩
          cases y with
          | int j =>
            have h := look_e h
            cases e2 : H2 a with
            | none => rw [e2] at h; exact h.elim
            | some ob2 =>
              rw [e2] at h
              cases ob2 with
              | ins C' dx' fs' =>
                obtain ⟨rfl, h5, h6⟩ := h
                exact hrd i j H2 _ ⟨dx', fs', e2, h5, h6⟩
              | _ => exact h.elim
          | _ => exact h.elim
        | _ => exact q.elim
      | _ => exact h.elim
  | _ => exact h.elim
theorem psaddC {o : Expr} {f : Str} {ta : TE} {n : Int} {j : Nat} {p1 tpos pos : Pos} (ha : PE X o ta) : PS X (.AugAssign (.Attribute o f tpos) .Add (.Constant (.int n) j p1) pos) (sAug X.K ta (tC (.int n)) f (· + ·)) := by
  refine ⟨fun pins s σ H D I h => ?_⟩
  refine wpAny_AugAssign_AttributeAny (thn (ha.run pins s σ H _ I h) fun ov s1 ⟨x, H1, I1, rx, q0⟩ => ?_)
  obtain ⟨a, C, dx, fs, v, ex, ea, c, n, l, q⟩ := sAug_e (rd := rAdd) (tv := tC (.int n)) (g := (· + ·)) q0 (fun i j H Q q => ⟨i, j, rfl, rfl, q⟩) (fun _ _ _ _ h q => h _ _ q)
  clear q0
  subst ex
  obtain rfl : ov = Value.ref a := rx
  refine getattr_ok I1 ea c n l fun u s2 I2 ru => thn (pe_int.run pins s2 σ H1 _ I2 q) fun w3 s3 ⟨y, H2, I3, ry, q3⟩ => thn (in_add pins s3 σ H2 v y u w3 _ I3 ru ry q3) fun w4 s4 ⟨z, H3, I4, rz, dx', fs', ea', l', q4⟩ => ?_
  exact setattr_ok I4 ea' c n l' rz fun s5 I5 => ⟨σ, _, I5, q4⟩
end
/-! ### a property -/
structure Pr (P : Program) (w : World) (K : PySem.W.Frag) (mg : Str → Option Value) (base : Heap) (C : Addr) (f : Str) (lv : Nat) (sp : Sp) : Prop where
  ex : ∃ (p g : Addr) (fd : FuncData) (ps : List Str), PropOf K C f p g ∧ FnOk P w K mg base (L2.CX P w) lv g fd ps sp ∧ Binds K fd ps []
  cl : Cls K C
def tPrp (C : Addr) (sp : Sp) (ta : TE) : TE := fun σ H Q => ta σ H fun x H1 => match x with
  | .ref a => look H1 a fun ob => (match ob with
    | some (.ins C' dx fs) => C' = C ∧ sp [.ref a] H1 Q fun _ _ _ => False
    | _ => False)
  | _ => False
section
variable {X : Cx} {e : Expr} {ta : TE} {C : Addr} {f : Str} {lv : Nat} {sp : Sp} {pos : Pos}
theorem pprp (F : Pr X.prog X.w X.K X.mg X.base C f lv sp) (hr : Room (lv + 1) X.A) (he : PE X e ta) (hab : attributeBase e f X.env (eval e X.env) = eval e X.env := by rfl) : PE X (.Attribute e f pos) (tPrp C sp ta) := by
  obtain ⟨p, g, fd, ps, hp, F1, hb⟩ := F.ex
  refine ⟨fun pins s σ H Q I h => ?_⟩
  refine attr_of hab (thn (he.run pins s σ H _ I h) fun u s1 ⟨x, H1, I1, rx, q⟩ => ?_)
  cases x with
  | ref a =>
    have q1 := look_e q
    clear q
    cases ea : H1 a with
    | none => rw [ea] at q1; exact q1.elim
    | some ob =>
      rw [ea] at q1
      cases ob with
      | ins C' dx fs =>
        obtain ⟨e2, q2⟩ := q1
        subst e2
        obtain rfl : u = Value.ref a := rx
        exact getprop_ok (E := fun _ _ _ => False) I1 ea F.cl hp F1 hr hb .nil (fun _ _ _ _ _ _ _ z => False.elim (let ⟨_, _, _, _, _, _, _, _, _, _, _, _, z⟩ := z; z)) q2
      | _ => exact q1.elim
  | _ => exact q.elim
end
/-! ### x = l[e], then known -/
section
variable {X : Cx} {pins : List (Addr × Obj)} {σ : St} {H : Hp} {s s' : Shared} {ff : List (Str × Value)}
/-- .. and a token is out -/
structure PEn (X : Cx) (e : Expr) (t : TE) : Prop where
  run : ∀ (pins : List (Addr × Obj)) (s : Shared) (σ : St) (H : Hp) (Q : VK), Inv X pins σ H s → t σ H Q → wpAny (model X.prog X.w) X.A (eval e X.env) (fun u s' => EP X pins σ Q u s' ∧ 1 ≤ s'.toks) X.xe s
structure PAn (X : Cx) (es : List Expr) (t : TA) : Prop where
  run : ∀ (pos : Pos) (pins : List (Addr × Obj)) (s : Shared) (σ : St) (H : Hp) (Q : List V → Hp → Prop), Inv X pins σ H s → t σ H Q → wpAny (model X.prog X.w) X.A (spliced (backTo pos (starEach es X.env))) (fun us s' => AP X pins σ Q us s' ∧ 1 ≤ s'.toks) X.xe s
theorem toks1 {α : Type} {t : Sem α} {Q : α → Shared → Prop} {E : Value → Shared → Prop} {M : Model} {A : Around} {s : Shared} (h1 : 1 ≤ s.toks) (h : wpAny M A t Q E s) : wpAny M A t (fun a s' => Q a s' ∧ 1 ≤ s'.toks) E s :=
  wpAny_mono (PySem.wpAny_toks_of h1 h) (fun _ _ z => ⟨z.2, z.1⟩) fun _ _ z => z.2
theorem pen_int {i : Int} {j : Nat} {pos : Pos} : PEn X (.Constant (.int i) j pos) (tC (.int i)) :=
  ⟨fun _ s _ H _ I h => wpAny_Constant_int ⟨⟨.int i, H, I.tok _, ⟨_, rfl⟩, h⟩, Nat.le_add_left 1 s.toks⟩⟩
theorem pen_op {op : Operator} {r : R2} {a b : Expr} {ta tb : TE} {pos : Pos} (ho : OpR X (binaryOp op) r) (ha : PEn X a ta) (hb : PE X b tb) : PEn X (.BinOp a op b pos) (tOp r ta tb) := by
  refine ⟨fun pins s σ H Q I h => wpAny_BinOp ?_⟩
  refine thn (ha.run pins s σ H _ I h) fun v s1 ⟨⟨x, H1, I1, r1, q1⟩, h1⟩ => ?_
  refine thn (toks1 h1 (hb.run pins s1 σ H1 _ I1 q1)) fun u s2 ⟨⟨y, H2, I2, r2, q2⟩, h2⟩ => ?_
  exact toks1 h2 (ho pins s2 σ H2 x y v u Q I2 r1 r2 q2)
theorem pan_hd {e : Expr} {es : List Expr} {te : TE} {t : TA} (ha : PEn X e te) (hr : PA X es t) (hs : starEach (e :: es) X.env = (false, eval e X.env) :: starEach es X.env := by rfl) : PAn X (e :: es) (tCons te t) := by
  refine ⟨fun pos pins s σ H Q I h => ?_⟩
  rw [hs]
  show wpAny _ _ (spliced ((false, eval e X.env) :: backTo pos (starEach es X.env))) _ _ s
  refine Calls.spliced_cons (thn (ha.run pins s σ H _ I h) fun u s1 ⟨⟨x, H1, I1, r1, q1⟩, h1⟩ => ?_)
  exact thn (toks1 h1 (hr.run pos pins s1 σ H1 _ I1 q1)) fun us s2 ⟨⟨xs, H2, I2, r2, q2⟩, h2⟩ => ⟨⟨x :: xs, H2, I2, .cons r1 r2, q2⟩, h2⟩
theorem pan_tl {e : Expr} {es : List Expr} {te : TE} {t : TA} (ha : PE X e te) (hr : PAn X es t) (hs : starEach (e :: es) X.env = (false, eval e X.env) :: starEach es X.env := by rfl) : PAn X (e :: es) (tCons te t) := by
  refine ⟨fun pos pins s σ H Q I h => ?_⟩
  rw [hs]
  show wpAny _ _ (spliced ((false, eval e X.env) :: backTo pos (starEach es X.env))) _ _ s
  refine Calls.spliced_cons (thn (ha.run pins s σ H _ I h) fun u s1 ⟨x, H1, I1, r1, q1⟩ => ?_)
  exact thn (hr.run pos pins s1 σ H1 _ I1 q1) fun us s2 ⟨⟨xs, H2, I2, r2, q2⟩, h2⟩ => ⟨⟨x :: xs, H2, I2, .cons r1 r2, q2⟩, h2⟩
theorem pen_lst {es : List Expr} {t : TA} {pos : Pos} (h : PAn X es t) : PEn X (.List es pos) (tLst t) := by
  refine ⟨fun pins s σ H Q I hq => ?_⟩
  refine wpAny_List_spliced (thn (h.run pos pins s σ H _ I hq) fun us s1 ⟨⟨xs, H1, I1, r, z, q⟩, h1⟩ => ⟨by rw [← r.length]; exact z, ?_⟩)
  have hf : H1 s1.heap.objs.size = none := I1.hok.fresh (Nat.le_refl _)
  refine ⟨⟨.ref s1.heap.objs.size, upd H1 s1.heap.objs.size (.lst xs), I1.laid (t' := s1.toks) (fun b u e => Heap.get?_push_of_some _ e) (Nat.le_refl _) ?_, rfl, q _ hf⟩, h1⟩
  exact ⟨z, us, 0, r, Heap.get?_push_size _ rfl⟩
theorem pen_ix {a b : Expr} {ta tb : TE} {pos : Pos} (ha : PEn X a ta) (hb : PE X b tb) (hs : PlainIx b := by exact fun _ _ => rfl) : PEn X (.Subscript a b pos) (tOp (zIxP X.K) ta tb) := by
  refine ⟨fun pins s σ H Q I h => Subscript_ ?_⟩
  refine thn (ha.run pins s σ H _ I h) fun v s1 ⟨⟨x, H1, I1, r1, q1⟩, h1⟩ => ?_
  refine thn (toks1 h1 (hb.run pins s1 σ H1 _ I1 q1)) fun u s2 ⟨⟨y, H2, I2, r2, q2⟩, h2⟩ => ?_
  exact toks1 h2 (ixp a b pins s2 σ H2 x y v u Q I2 r1 r2 q2 (hs _ _))
theorem pen_call {x : Str} {p pos : Pos} {e : Expr} {es : List Expr} {t : TA} {lv : Nat} {dvs : List V} {sp : Sp} {W : WX} (F : Fn X.prog X.w X.K X.mg X.base x lv dvs sp) (hr : Room lv X.A) (tk : Takes X W) (ha : PAn X (e :: es) t) (hg : Gl X x := by rfl) (hdb : (x == ("__debug__" : Str)) = false := by decide +kernel)
    (he : starEach (e :: es) X.env = (false, eval e X.env) :: starEach es X.env := by rfl) (hpl : (backTo pos (starEach es X.env)).any (·.1) = false := by rfl) :
    PEn X (.Call (.Name x p) (e :: es) [] pos) (tCal sp dvs W t) := by
  obtain ⟨f, fd, ps, ds, F, hm, hk, hd, hb⟩ := F.ex
  refine ⟨fun pins s σ H Q I h => ?_⟩
  refine wpAny_Call_Name_kw (ld_glob I hg hm ?_ hdb)
  refine PySem.W.callWith_K (h₀ := X.base) I.ok.mod.kin hk (thn (ha.run pos pins s σ H _ I h) fun us s1 ⟨⟨vs, H1, I1, r, q⟩, h1⟩ => ⟨I1.kIn, ?_⟩) he hpl
  exact toks1 h1 (run_fnSD (E := WE W) F hr hb hd (passAt tk σ) I1 r q)
def tIx (il : Nat) (te : TE) : TE := fun σ H Q => match σ[il]? with
  | some (some (.str z)) => Lim (tl z).length ∧ te σ H fun v H' => match v with
      | .int i => itm (tl z) i fun c => Q (.str (S [c])) H'
      | _ => False
  | _ => False
theorem pssk_ix {ix il : Nat} {x l : Str} {e : Expr} {te : TE} {rest : List Stmt} {u : TS} {px pos p1 p8 : Pos} (hN : X.N.Nodup) (he : PEn X e te) (hrest : PSsK X [x] rest u)
    (hNx : X.N[ix]? = some x := by rfl) (hkx : X.env.kindOf x = some .local := by rfl)
    (hNl : X.N[il]? = some l := by rfl) (hvl : Vis X.env.scope l := by first | exact Or.inl rfl | exact Or.inr (Or.inl rfl) | exact Or.inr (Or.inr rfl))
    (hdl : (l == ("__debug__" : Str)) = false := by decide +kernel) (hcl : (l == ("__classdict__" : Str)) = false := by decide +kernel)
    (hix : PlainIx e := by exact fun _ _ => rfl)
    (hs : swapsWith (.Subscript (.Name l p1) e p8) (some (.Name x px)) pos.line X.env = pure false := by rfl) :
    PSs X (.Assign [.Name x px] (.Subscript (.Name l p1) e p8) pos :: rest) (tSeq (tAsg (tIx il te) (gName ix)) u) := by
  refine ⟨fun pins s σ H D I h => ?_⟩
  have h : tIx il te σ H fun x H1 => u D (σ.set ix (some x)) H1 := h
  unfold tIx at h
  split at h
  · rename_i z e1
    obtain ⟨hlim, h⟩ := h
    refine wpAny_execs_cons (wpAny_Assign_Name (Subscript_ (raw_name hNl hvl I e1 (fun v r => ?_) hdl hcl)) hs)
    obtain ⟨tz, rfl⟩ := r
    refine thn (he.run pins s σ H _ I h) fun w s2 hq => ?_
    obtain ⟨⟨y, H2, I2, ry, q⟩, h1t⟩ := hq
    cases y with
    | int i =>
      obtain ⟨ti, rfl⟩ := ry
      obtain ⟨c, hat, q⟩ := itm_e q
      obtain ⟨j, h1, h2, h3, h4, h5⟩ := atI_get hat
      have hl : z.cps.toList.length = z.length := by simp [Str.length]
      have hn := line63
      have hz : z.length ≤ sizeLine := by rw [len_tl]; exact hlim
      rw [hl] at h1 h4 h5
      refine tail_any (typeIs_str s2 z tz) slot_str_getitem.lookup (getItem_str (c := c) (by
        have e1 : decide (i < -(2 ^ 63 : Int)) = false := decide_eq_false (by omega)
        have e2 : decide (i ≥ 2 ^ 63) = false := decide_eq_false (by omega)
        rw [e1, e2, Bool.or_false]) (by rw [h1]; simpa using h2) ?_) (hix _ _)
      have I3 := I2.tok (s2.toks + 1)
      refine store_F (v := .str (S [c])) (ff := []) I3 hN hNx hkx ⟨s2.toks, rfl⟩ (FT.nil I3) (fun e he => nomatch he) fun s3 I4 hF2 ht2 => ?_
      refine hrest.run pins s3 _ H2 D I4 ⟨_, hF2, rfl, fun e he => ?_, by simp⟩ q
      obtain rfl := List.mem_singleton.mp he
      exact ⟨S [c], s2.toks, rfl, h1t, by rw [ht2]; exact Nat.lt_succ_of_lt (Nat.lt_succ_self _)⟩
    | _ => exact False.elim q
  · exact h.elim
/-! ### x.replace(o, '') -/
def rpE (c : Nat) (l : List Nat) : List Nat := l.filter fun a => !decide (a = c)
theorem replL_rpE (c : Nat) : ∀ l : List Nat, StrLaws.replL [c] [] l = rpE c l
  | [] => StrLaws.replL_nil
  | a :: l => by
    by_cases h : a = c
    · subst h
      rw [StrLaws.replL_hit (by simp) (by simp)]
      show [] ++ StrLaws.replL [a] [] l = _
      rw [replL_rpE a l]
      simp [rpE]
    · rw [StrLaws.replL_miss (by simp [h]), replL_rpE c l]
      simp [rpE, h]
theorem repl_SE (x : Str) (c : Nat) : Txt.replace x (S [c]) (S []) = S (rpE c (tl x)) := by
  refine ext_tl ?_
  have e := StrLaws.replace_list (x := x) (y := S [c]) (z := S []) (by rw [len_tl]; exact Nat.le_refl 1)
  exact e.trans (replL_rpE c (tl x))
def tRpE (ix io : Nat) : TE := fun σ H Q => match σ[ix]? with
  | some (some (.str x)) => (match σ[io]? with
    | some (some (.str y)) => (match tl y with
      | [c] => (tl x).length ≤ 1000000 ∧ Q (.str (S (rpE c (tl x)))) H
      | _ => False)
    | _ => False)
  | _ => False
theorem tRpE_e {ix io : Nat} {Q : VK} (h : tRpE ix io σ H Q) : ∃ x c, σ[ix]? = some (some (.str x)) ∧ σ[io]? = some (some (.str (S [c]))) ∧ (tl x).length ≤ 1000000 ∧ Q (.str (S (rpE c (tl x)))) H := by
  unfold tRpE at h
  split at h
  · rename_i x e1
    split at h
    · rename_i y e2
      split at h
      · rename_i c ey
        exact ⟨x, c, e1, by rw [e2, ← S_tl y, ey], h⟩
      · exact h.elim
    · exact h.elim
  · exact h.elim
theorem pek_replE {ns : List Str} {ix io : Nat} {x o : Str} {j : Nat} {p1 p2 p3 apos pos : Pos} (hNx : X.N[ix]? = some x := by rfl) (hvx : Vis X.env.scope x := by first | exact Or.inl rfl | exact Or.inr (Or.inl rfl) | exact Or.inr (Or.inr rfl)) (hNo : X.N[io]? = some o := by rfl) (hko : X.env.kindOf o = some .local := by rfl)
    (ho : o ∈ ns := by decide +kernel) (hdx : (x == ("__debug__" : Str)) = false := by decide +kernel) (hcx : (x == ("__classdict__" : Str)) = false := by decide +kernel) (hdo : (o == ("__debug__" : Str)) = false := by decide +kernel)
    (hst : starEach [.Name o p2, .Constant (.str (S [])) j p3] X.env = [(false, eval (.Name o p2) X.env), (false, eval (.Constant (.str (S [])) j p3) X.env)] := by rfl)
    (hbase : attributeBase (.Name x p1) "replace" X.env (eval (.Name x p1) X.env) = eval (.Name x p1) X.env := by rfl) (hline : (apos.endLine == pos.line) = true := by rfl) :
    PEK X ns (.Call (.Attribute (.Name x p1) "replace" apos) [.Name o p2, .Constant (.str (S [])) j p3] [] pos) (tRpE ix io) := by
  refine ⟨fun pins s σ H Q I k h => ?_⟩
  obtain ⟨z, c, e1, e2, hb, q⟩ := tRpE_e h
  obtain ⟨ff, hF, hns, htok, hnd⟩ := k
  refine wpAny_mono (wpAny_toks (Q := fun u s' => EP X pins σ Q u s' ∧ ∃ k : Nat, s' = { s with toks := k }) (PySem.Call_method2 hbase hst hline (raw_name hNx hvx I e1 (fun v r => ?_) hdx hcx))) (fun u s' hq => ?_) fun _ _ z => z.2
  · obtain ⟨tx, rfl⟩ := r
    refine ⟨"str", _, F.plainAttrs_str, F.slot_str_replace, F.type_str_replace, typeIs_str _ _ _, (fun _ e => nomatch e), Calls.callWith_builtin rfl (Calls.evalArgs_plain (Calls.spliced_cons ?_))⟩
    refine tk_name hF hns htok ho hNo hko I e2 (fun t h1 h2 hm1 => ?_) hdo
    refine Calls.spliced_cons (Calls.Constant_str ?_)
    refine Calls.spliced_nil ?_
    refine PySem.SC.replace (show t ≠ (0 : Nat) from by omega) (show s.toks ≠ (0 : Nat) from by omega) (show t ≠ s.toks from by omega) (by simp only [beq_eq_false_iff_ne]; exact fun z => absurd (congrArg (fun y : Str => (tl y).length) z) (show ¬ (1 = 0) by decide)) (by
      have : (S []).length = 0 := by rw [len_tl]; rfl
      rw [this, len_tl]; omega) fun t' k => ⟨⟨.str (S (rpE c (tl z))), H, I.tok k, ⟨t', by rw [repl_SE]⟩, q⟩, k, rfl⟩
  · obtain ⟨hle, he, k, rfl⟩ := hq
    exact ⟨he, ff, hF, hns, fun e he => (let ⟨x, t, a, b, c⟩ := htok e he; ⟨x, t, a, b, Nat.lt_of_lt_of_le c hle⟩), hnd⟩
end
end Ta

set_option Elab.async false
set_option linter.all false
set_option maxRecDepth 100000
set_option maxHeartbeats 1000000
namespace Ta
open PySem PySem.Spec PyProof.Rows L2

/-! ### the part ahead of a sign -/
def bef (c : Nat) (l : List Nat) : List Nat := l.takeWhile fun a => !decide (a = c)
def fnd (c : Nat) (l : List Nat) : Int := if c ∈ l then ((bef c l).length : Int) else -1
theorem bef_at {c : Nat} : ∀ {l : List Nat} {i : Nat}, l[i]? = some c → (∀ k, k < i → ¬ l[k]? = some c) → (bef c l).length = i ∧ l.take i = bef c l
  | [], i, h, _ => by simp at h
  | a :: l, 0, h, _ => by
    have e : a = c := by simpa using h
    subst e
    simp [bef]
  | a :: l, i + 1, h, hk => by
    have e : ¬ a = c := fun z => hk 0 (Nat.succ_pos _) (by simp [z])
    obtain ⟨h1, h2⟩ := bef_at (l := l) (i := i) (by simpa using h) fun k hk' => by
      have := hk (k + 1) (by omega)
      simpa using this
    have e2 : bef c (a :: l) = a :: bef c l := by simp [bef, e]
    rw [e2]
    exact ⟨by simp [h1], by simp [h2]⟩
theorem bef_no {c : Nat} : ∀ {l : List Nat}, ¬ c ∈ l → bef c l = l
  | [], _ => rfl
  | a :: l, h => by
    have e : ¬ a = c := fun z => h (by simp [z])
    have e2 : bef c (a :: l) = a :: bef c l := by simp [bef, e]
    rw [e2, bef_no fun z => h (List.mem_cons_of_mem _ z)]
theorem bef_le (c : Nat) (l : List Nat) : (bef c l).length ≤ l.length := (List.takeWhile_sublist _).length_le
theorem at_one (l : List Nat) (c i : Nat) : StrLaws.At (S l) (S [c]) (S l).length i ↔ l[i]? = some c := StrLaws.subAt_one (S l) c i
theorem find_one (l : List Nat) (c : Nat) : Txt.find (S l) (S [c]) = fnd c l := by
  unfold fnd
  rcases find_whole (S l) (S [c]) with ⟨h1, h2⟩ | ⟨i, h1, h2, h3⟩
  · rw [h1, if_neg]
    intro hm
    obtain ⟨i, hi⟩ := List.mem_iff_getElem?.mp hm
    exact h2 i ((at_one l c i).mpr hi)
  · have hi := (at_one l c i).mp h2
    rw [h1, if_pos (List.mem_iff_getElem?.mpr ⟨i, hi⟩), (bef_at hi fun k hk z => h3 k hk ((at_one l c k).mpr z)).1]
theorem part_one (l : List Nat) (c : Nat) : (Txt.partition (S l) (S [c])).1 = S (bef c l) := by
  have hf := find_one l c
  unfold Txt.find at hf
  unfold Txt.partition
  revert hf
  cases e : Builtin.Str.occurrences (S l) (S [c]) 0 (S l).length 1 with
  | nil =>
    intro hf
    have hn : ¬ c ∈ l := fun z => by
      unfold fnd at hf
      rw [if_pos z] at hf
      have hf : (-1 : Int) = ((bef c l).length : Int) := hf
      omega
    rw [bef_no hn]
  | cons i r =>
    intro hf
    have hf : (i : Int) = fnd c l := hf
    unfold fnd at hf
    by_cases hm : c ∈ l
    · rw [if_pos hm] at hf
      have e2 : i = (bef c l).length := by omega
      refine ext_tl ?_
      have e3 : bef c l = l.take (bef c l).length := List.prefix_iff_eq_take.mp (List.takeWhile_prefix _)
      show ((S l).cps.extract 0 i).toList = bef c l
      rw [Array.toList_extract, e2]
      simp
      exact e3.symm
    · rw [if_neg hm] at hf; omega
section
variable {X : Cx}
def zFind : V → List V → Hp → VK → Prop := fun x xs H Q => match x with
  | .str a => one xs fun y => (match y with
    | .str b => (match tl b with
      | [c] => Q (.int (fnd c (tl a))) H
      | _ => False)
    | _ => False)
  | _ => False
theorem mtfind : MtR X "str.find" zFind := mt_imp mt_find fun x xs H Q h => by
  cases x with
  | str a =>
    obtain ⟨y, rfl, h⟩ := one_e h
    cases y with
    | str b =>
      have h : (match tl b with
        | [c] => Q (.int (fnd c (tl a))) H
        | _ => False) := h
      split at h
      · rename_i c e
        refine ⟨a, b, rfl, rfl, ?_⟩
        have := find_one (tl a) c
        rw [S_tl, ← e, S_tl] at this
        rw [this]; exact h
      · exact h.elim
    | _ => exact h.elim
  | _ => exact h.elim
/-- of its parts the first one is told -/
def zPartition : V → List V → Hp → VK → Prop := fun x xs H Q => match x with
  | .str a => one xs fun y => (match y with
    | .str b => (match tl b with
      | [c] => Lim (tl a).length ∧ ∀ p y1 y2, H p = none → Q (.ref p) (upd H p (.tup [.str (S (bef c (tl a))), .str y1, .str y2]))
      | _ => False)
    | _ => False)
  | _ => False
theorem mtpart : MtR X "str.partition" zPartition := mt_imp mt_partition fun x xs H Q h => by
  cases x with
  | str a =>
    obtain ⟨y, rfl, h⟩ := one_e h
    cases y with
    | str b =>
      have h : (match tl b with
        | [c] => Lim (tl a).length ∧ ∀ p y1 y2, H p = none → Q (.ref p) (upd H p (.tup [.str (S (bef c (tl a))), .str y1, .str y2]))
        | _ => False) := h
      split at h
      · rename_i c e
        refine ⟨a, b, rfl, rfl, by rw [len_tl, e]; rfl, by rw [len_tl]; exact h.1, fun p hp => ?_⟩
        have := part_one (tl a) c
        rw [S_tl, ← e, S_tl] at this
        rw [this]; exact h.2 p _ _ hp
      · exact h.elim
    | _ => exact h.elim
  | _ => exact h.elim
/-- list(x) -/
def zList (K : PySem.W.Frag) : List V → Hp → VK → Prop := fun xs H Q => one xs fun x => match x with
  | .ref p => look H p fun o => (match o with
    | some (.lst ys) => ∀ l, H l = none → Q (.ref l) (upd H l (.lst ys))
    | some (.tup ys) => ∀ l, H l = none → Q (.ref l) (upd H l (.lst ys))
    | some (.frz _ (.lst ys)) => ∀ l, H l = none → Q (.ref l) (upd H l (.lst ys))
    | _ => False)
  | _ => False
theorem crlist : CallR X (.type "list") (zList X.K) := cr_imp call_list_of fun xs H Q h => by
  obtain ⟨x, rfl, h⟩ := one_e h
  cases x with
  | ref p =>
    have h := look_e h
    cases e : H p with
    | none => rw [e] at h; exact h.elim
    | some o =>
      rw [e] at h
      cases o with
      | lst ys => exact ⟨p, ys, rfl, .inl (SqL.of e), h⟩
      | tup ys => exact ⟨p, ys, rfl, .inr (SqT.of e), h⟩
      | frz ob u =>
        cases u with
        | lst ys => exact ⟨p, ys, rfl, .inl (.inl (.inr ⟨_, e⟩)), h⟩
        | _ => exact h.elim
      | _ => exact h.elim
  | _ => exact h.elim
end
end Ta

set_option Elab.async false
set_option linter.all false
set_option maxRecDepth 100000
set_option maxHeartbeats 1000000
namespace Ta
open PySem PySem.Spec PyProof.Rows L2

/-! ### methods of lists -/
section
variable {X : Cx} {o e : Expr} {es : List Expr} {to : TE} {t : TA} {name : Str} {apos cpos : Pos} {T id : String}
abbrev RM := Addr → List V → Hp → VK → Prop
def lstAt (x : V) (H : Hp) (k : Addr → List V → Prop) : Prop := match x with
  | .ref p => look H p fun ob => (match ob with
    | some (.lst xs) => k p xs
    | _ => False)
  | _ => False
theorem lstAt_e {x : V} {H : Hp} {k : Addr → List V → Prop} (h : lstAt x H k) : ∃ p xs, x = .ref p ∧ H p = some (.lst xs) ∧ k p xs := by
  cases x with
  | ref p =>
    have h := look_e h
    cases e : H p with
    | none => rw [e] at h; exact h.elim
    | some ob =>
      rw [e] at h
      cases ob with
      | lst xs => exact ⟨p, xs, rfl, e, h⟩
      | _ => exact h.elim
  | _ => exact h.elim
def tLM (r : RM) (to : TE) (t : TA) : TE := fun σ H Q => to σ H fun x H1 => lstAt x H1 fun p _ => t σ H1 fun xs H2 => r p xs H2 Q
def tLM0 (r : RM) (to : TE) : TE := fun σ H Q => to σ H fun x H1 => lstAt x H1 fun p _ => r p [] H1 Q
def rOf (r : RM) : V → List V → Hp → VK → Prop := fun x vs H Q => ∃ p, x = .ref p ∧ r p vs H Q
theorem plm {r : RM} (slot : Slot "list" name id) (hty : typeOf (.builtin id) = pure (.type "method_descriptor")) (hm : MtR X id (rOf r)) (ho : PE X o to) (ha : PA X (e :: es) t)
    (hbase : attributeBase o name X.env (eval o X.env) = eval o X.env := by rfl)
    (hfew : ((backTo cpos (starEach (e :: es) X.env)).all (fun x => !x.1) && (backToKw cpos (keywordEach [] X.env)).all (fun x => x.1.isSome)
      && decide ((e :: es).length + ([] : List Keyword).length + (if ([] : List Keyword).isEmpty then 0 else 1) < 30)) = true := by rfl)
    (hline : (apos.endLine == cpos.line) = true := by rfl) (hs : starEach (e :: es) X.env = (false, eval e X.env) :: starEach es X.env := by rfl) (hplain : (backTo cpos (starEach es X.env)).any (·.1) = false := by rfl) :
    PE X (.Call (.Attribute o name apos) (e :: es) [] cpos) (tLM r to t) := by
  refine ⟨fun pins s σ H Q I h => ?_⟩
  refine wpAny_Call_method_late hbase hfew hline rfl (thn (ho.run pins s σ H _ I h) fun v s1 ⟨x, H1, I1, r1, q0⟩ => ?_)
  obtain ⟨p, xs, rfl, hp, q1⟩ := lstAt_e q0
  obtain ⟨h1, h2⟩ := tyV_is (T := "list") I1 r1 (.inl ⟨rfl, xs, SqL.of hp⟩)
  refine ⟨"list", id, PySem.F.plainAttrs_list, slot, hty, h1, h2, ?_⟩
  have hA := ha.run cpos pins s1 σ H1 _ I1 q1
  rw [hs] at hA ⊢
  refine Calls.callWith_builtin (by show (false || (backTo cpos (starEach es X.env)).any (·.1)) = false; rw [hplain] <;> rfl) (Calls.evalArgs_plain ?_)
  exact thn hA fun us s2 ⟨vs, H2, I2, r2, q2⟩ => hm pins s2 σ H2 _ vs v us Q I2 r1 r2 ⟨p, rfl, q2⟩
theorem plm0 {r : RM} (slot : Slot "list" name id) (hty : typeOf (.builtin id) = pure (.type "method_descriptor")) (hm : MtR X id (rOf r)) (ho : PE X o to)
    (hbase : attributeBase o name X.env (eval o X.env) = eval o X.env := by rfl) (hline : (apos.endLine == cpos.line) = true := by rfl) : PE X (.Call (.Attribute o name apos) [] [] cpos) (tLM0 r to) := by
  refine ⟨fun pins s σ H Q I h => ?_⟩
  refine wpAny_Call_method0_late hbase hline (thn (ho.run pins s σ H _ I h) fun v s1 ⟨x, H1, I1, r1, q0⟩ => ?_)
  obtain ⟨p, xs, rfl, hp, q1⟩ := lstAt_e q0
  obtain ⟨h1, h2⟩ := tyV_is (T := "list") I1 r1 (.inl ⟨rfl, xs, SqL.of hp⟩)
  exact ⟨"list", id, PySem.F.plainAttrs_list, slot, hty, h1, h2, Calls.callWith_builtin rfl (PySem.evalArgs_none (hm pins s1 σ H1 _ [] v [] Q I1 r1 .nil ⟨p, rfl, q1⟩))⟩
def lkl (H : Hp) (l : Addr) (k : List V → Prop) : Prop := look H l fun ob => match ob with
  | some (.lst xs) => k xs
  | _ => False
theorem lkl_e {H : Hp} {l : Addr} {k : List V → Prop} (h : lkl H l k) : ∃ xs, H l = some (.lst xs) ∧ k xs := by
  have h := look_e h
  cases e : H l with
  | none => rw [e] at h; exact h.elim
  | some ob =>
    rw [e] at h
    cases ob with
    | lst xs => exact ⟨xs, rfl, h⟩
    | _ => exact h.elim
def zAppP : RM := fun l vs H Q => one vs fun y => lkl H l fun xs => Lim (xs.length + 1) ∧ Q .non (upd H l (.lst (xs ++ [y])))
theorem mtapp : MtR X "list.append" (rOf zAppP) := mt_imp mt_append fun x vs H Q h => by
  obtain ⟨l, rfl, h⟩ := h
  obtain ⟨y, rfl, h⟩ := one_e h
  obtain ⟨xs, hl, h1, h2⟩ := lkl_e h
  exact ⟨l, xs, y, rfl, rfl, hl, h1, h2⟩
def zExtP : RM := fun l vs H Q => one vs fun y => match y with
  | .ref b => lkl H l fun xs => lkl H b fun zs => Lim (xs.length + zs.length) ∧ Q .non (upd H l (.lst (xs ++ zs)))
  | _ => False
theorem mtext : MtR X "list.extend" (rOf zExtP) := mt_imp mt_extend fun x vs H Q h => by
  obtain ⟨l, rfl, h⟩ := h
  obtain ⟨y, rfl, h⟩ := one_e h
  cases y with
  | ref b =>
    obtain ⟨xs, hl, h⟩ := lkl_e h
    obtain ⟨zs, hb, h1, h2⟩ := lkl_e h
    exact ⟨l, b, xs, zs, rfl, rfl, hl, hb, h1, h2⟩
  | _ => exact h.elim
def zPopP : RM := fun l vs H Q => match vs with
  | [] => lkl H l fun xs => itm xs ((xs.length : Int) - 1) fun y => Q y (upd H l (.lst xs.dropLast))
  | _ => False
theorem mtpop : MtR X "list.pop" (rOf zPopP) := mt_imp mt_pop fun x vs H Q h => by
  obtain ⟨l, rfl, h⟩ := h
  cases vs with
  | nil =>
    obtain ⟨xs, hl, h⟩ := lkl_e h
    obtain ⟨y, e, q⟩ := itm_e h
    obtain ⟨j, h1, h2, h3, h4, h5⟩ := atI_get e
    refine ⟨l, xs, y, rfl, rfl, hl, ?_, q⟩
    have : seqIndex? ((xs.length : Int) - 1) xs.length = some (xs.length - 1) := by
      have e : ((xs.length : Int) - 1) = ((xs.length - 1 : Nat) : Int) := by omega
      rw [e, PySem.StrLaws.seqIndex_nonneg (by omega) (by omega)]
      simp
    rw [this] at h1
    cases h1
    exact h2
  | cons a b => exact h.elim
def zPopAtP : RM := fun l vs H Q => one vs fun y => match y with
  | .int i => lkl H l fun xs => ∃ j, ixN xs.length i = some j ∧ Lim xs.length ∧ itm xs i fun y => Q y (upd H l (.lst (xs.eraseIdx j)))
  | _ => False
theorem mtpopat : MtR X "list.pop" (rOf zPopAtP) := mt_imp mt_popAt fun x vs H Q h => by
  obtain ⟨l, rfl, h⟩ := h
  obtain ⟨y, rfl, h⟩ := one_e h
  cases y with
  | int i =>
    obtain ⟨xs, hl, j, hj, hlim, h⟩ := lkl_e h
    obtain ⟨y, e, q⟩ := itm_e h
    obtain ⟨j', h1, h2, h3, h4, h5⟩ := atI_get e
    obtain ⟨h6, h7, h8, h9⟩ := ixN_seq hj
    rw [h6] at h1
    cases h1
    have hn := line63
    have hlim : xs.length ≤ sizeLine := hlim
    exact ⟨l, xs, i, j, y, rfl, rfl, hl, by omega, by omega, h6, h2, q⟩
  | _ => exact h.elim
def zRevP : RM := fun l vs H Q => match vs with
  | [] => lkl H l fun xs => Q .non (upd H l (.lst xs.reverse))
  | _ => False
theorem mtrev : MtR X "list.reverse" (rOf zRevP) := mt_imp mt_reverse fun x vs H Q h => by
  obtain ⟨l, rfl, h⟩ := h
  cases vs with
  | nil =>
    obtain ⟨xs, hl, h⟩ := lkl_e h
    exact ⟨l, xs, rfl, rfl, hl, h⟩
  | cons a b => exact h.elim
def zInsP : RM := fun l vs H Q => two vs fun x y => match x with
  | .int i => lkl H l fun xs => Lim (xs.length + 1) ∧ (0 ≤ i ∧ i < 1073741824) ∧ Q .non (upd H l (.lst (xs.take i.toNat ++ [y] ++ xs.drop i.toNat)))
  | _ => False
theorem mtins : MtR X "list.insert" (rOf zInsP) := mt_imp mt_insert fun x vs H Q h => by
  obtain ⟨l, rfl, h⟩ := h
  obtain ⟨x, y, rfl, h⟩ := two_e h
  cases x with
  | int i =>
    obtain ⟨xs, hl, h1, ⟨h2, h3⟩, q⟩ := lkl_e h
    exact ⟨l, xs, i, y, rfl, rfl, hl, h1, h2, by omega, q⟩
  | _ => exact h.elim
end
end Ta

set_option Elab.async false
set_option linter.all false
set_option maxRecDepth 100000
set_option maxHeartbeats 1000000
namespace Ta
open PySem PySem.Spec PyProof.Rows L2

theorem iteT {p q : Prop} (h : p) : if true = true then p else q := by rw [if_pos rfl]; exact h
theorem q_bl {Q : VK} {b c : Bool} {H : Hp} (e : b = c) (q : Q (.bl c) H) : Q (.bl b) H := by rw [e]; exact q
theorem q_v {Q : VK} {b c : V} {H : Hp} (e : b = c) (q : Q c H) : Q b H := by rw [e]; exact q
theorem q_H {Q : VK} {v : V} {H H' : Hp} (e : H = H') (q : Q v H') : Q v H := by rw [e]; exact q
theorem q_vH {Q : VK} {b c : V} {H H' : Hp} (e' : b = c) (e : H = H') (q : Q c H') : Q b H := by rw [e, e']; exact q
theorem Kp.get2 {p r : Addr} {H H' : Hp} {q : Addr} {o : HO} (a : Kp [p, r] H H') (h : H q = some o) (n : q ≠ p) (n2 : q ≠ r) : H' q = some o := a q o h fun z => by
  rcases List.mem_cons.mp z with z | z
  · exact n z
  · exact n2 (List.mem_singleton.mp z)
theorem ne_ho {H : Hp} {p q : Addr} {o o' : HO} (h : H p = some o) (h' : H q = some o') (n : o ≠ o') : p ≠ q := fun e => by
  subst e; rw [h] at h'; exact n (Option.some.inj h')
theorem cut_map {α β : Type} (f : α → β) (xs : List α) (lo hi : Option Int) : cut (xs.map f) lo hi = (cut xs lo hi).map f := by
  rw [← cut_eq0, ← cut_eq0]; unfold cut0; rw [List.length_map, ← List.map_drop, ← List.map_take]
theorem cut_one {α : Type} (xs : List α) (c : Nat) : cut xs (some (c : Int)) (some ((c : Int) + 1)) = (xs.drop c).take 1 := by
  have e : ((c : Int) + 1) = ((c + 1 : Nat) : Int) := by omega
  rw [e, cut_both, List.drop_take]
  congr 1; omega
theorem cut_fr1 {α : Type} (xs : List α) (c : Nat) : cut xs (some ((c : Int) + 1)) none = xs.drop (c + 1) := by
  have e : ((c : Int) + 1) = ((c + 1 : Nat) : Int) := by omega
  rw [e, cut_from]
theorem cut_t1 {α : Type} (xs : List α) : cut xs none (some (1 : Int)) = xs.take 1 := cut_to xs 1
/-- [e for x in xs], e pure -/
theorem lcp_M {n : Nat} {it : Itm} {st : Hp → Prop} {xs : List V} {i : Nat} {te : TE} {σ : St} {H1 : Hp} {Q : VK} {vs : List Nat} (hn : n = xs.length) (hit : ∀ k H x H', it k H x H' → H' = H ∧ xs[k]? = some x) (hst : ∀ D xs, H1 D = none → st (upd H1 D (.lst xs)))
    (f : V → V) (hl : xs.length < 1000000) (he : ∀ x D H' Q', H1 D = none → x ∈ xs → (∃ ys, H' = upd H1 D (.lst ys)) → Q' (f x) H' → te ((wipe σ vs).set i (some x)) H' Q')
    (hw : ∀ v, wipe ((wipe σ vs).set i v) vs = wipe σ vs) (q : ∀ D, H1 D = none → Q (.ref D) (upd H1 D (.lst (xs.map f)))) : lcp n it st (gName i) tYes te vs σ H1 Q := by
  subst hn
  refine lcp_i (fun D k H => H = upd H1 D (.lst ((xs.take k).map f))) (fun D hD => rfl) (fun D k H hD _ e => by rw [e]; exact hst D _ hD) ?_ ?_
  · rintro D k x H H' hD hk rfl hi
    obtain ⟨rfl, hc⟩ := hit _ _ _ _ hi
    refine ⟨hw _, ?_⟩
    unfold tYes; dsimp only
    rw [if_pos rfl]
    refine he x D _ _ hD (List.mem_of_getElem? hc) ⟨_, rfl⟩ ⟨_, upd_at, ?_, ?_⟩
    · rw [List.length_map, List.length_take, sizeLine_eq]; omega
    · rw [upd_tw, List.take_succ, hc]
      simp
  · rintro D H hD rfl
    rw [List.take_length]
    exact q D hD
/-- .. over a list that stands -/
theorem lcp_ML {xs : List V} {p : Addr} {i : Nat} {te : TE} {σ : St} {H1 : Hp} {Q : VK} {vs : List Nat} (hp : H1 p = some (.lst xs))
    (f : V → V) (hl : xs.length < 1000000) (he : ∀ x D H' Q', H1 D = none → x ∈ xs → (∃ ys, H' = upd H1 D (.lst ys)) → Q' (f x) H' → te ((wipe σ vs).set i (some x)) H' Q')
    (hw : ∀ v, wipe ((wipe σ vs).set i v) vs = wipe σ vs) (q : ∀ D, H1 D = none → Q (.ref D) (upd H1 D (.lst (xs.map f)))) : lcp xs.length (itL xs) (fun H' => H' p = some (.lst xs)) (gName i) tYes te vs σ H1 Q :=
  lcp_M rfl (fun k H x H' h => h) (fun D ys hD => upd_fr hD hp) f hl he hw q
/-- .. of a box that is drawn from: after k turns the box b(k) and the items -/
theorem lcp_B {n : Nat} {it : Itm} {st : Hp → Prop} {i : Nat} {te : TE} {σ : St} {H1 : Hp} {Q : VK} {vs : List Nat} (p : Addr) (hp : ∃ o, H1 p = some o) (Bx : HO → Prop) (P : V → Prop) (hb : ∀ o, H1 p = some o → Bx o) (hn : n < 1000000)
    (hit : ∀ k H x H', k < n → it k H x H' → H' = H) (hst : ∀ D xs o, H1 D = none → st (upd (upd H1 p o) D (.lst xs)))
    (he : ∀ k x D o ys Q', k < n → H1 D = none → D ≠ p → it k (upd (upd H1 p o) D (.lst ys)) x (upd (upd H1 p o) D (.lst ys)) → Bx o → (∀ v o', P v → Bx o' → Q' v (upd (upd (upd H1 p o) D (.lst ys)) p o')) → te ((wipe σ vs).set i (some x)) (upd (upd H1 p o) D (.lst ys)) Q')
    (hw : ∀ v, wipe ((wipe σ vs).set i v) vs = wipe σ vs) (q : ∀ D xs o, H1 D = none → D ≠ p → xs.length = n → (∀ v ∈ xs, P v) → Bx o → Q (.ref D) (upd (upd H1 p o) D (.lst xs))) : lcp n it st (gName i) tYes te vs σ H1 Q := by
  obtain ⟨o0, hp⟩ := hp
  refine lcp_i (fun D k H => ∃ xs o, xs.length = k ∧ (∀ v ∈ xs, P v) ∧ Bx o ∧ H = upd (upd H1 p o) D (.lst xs)) (fun D hD => ⟨[], o0, rfl, (fun _ z => nomatch z), hb _ hp, by rw [upd_self hp]⟩) (fun D k H hD _ e => by obtain ⟨xs, o, _, _, _, rfl⟩ := e; exact hst D _ _ hD) ?_ ?_
  · rintro D k x H H' hD hk ⟨xs, o, hl, hP, hB, rfl⟩ hi
    have e := hit _ _ _ _ hk hi
    subst e
    have hne : D ≠ p := fun e => by rw [e, hp] at hD; cases hD
    refine ⟨hw _, ?_⟩
    unfold tYes; dsimp only
    rw [if_pos rfl]
    refine he k x D o xs _ hk hD hne hi hB fun v o' hv hB' => ⟨xs, ?_, ?_, xs ++ [v], o', ?_, ?_, hB', ?_⟩
    · rw [upd_ne hne]; exact upd_at
    · rw [hl, sizeLine_eq]; omega
    · rw [List.length_append, hl]; rfl
    · intro w hw
      rcases List.mem_append.mp hw with h | h
      · exact hP w h
      · rw [List.mem_singleton.mp h]; exact hv
    · funext c
      unfold upd
      by_cases h1 : c = D
      · simp [h1, hne]
      · by_cases h2 : c = p
        · simp [h1, h2]
        · simp [h1, h2]
  · rintro D H hD ⟨xs, o, hl, hP, hB, rfl⟩
    have hne : D ≠ p := fun e => by rw [e, hp] at hD; cases hD
    exact q D xs o hD hne hl hP hB
theorem inV_str (a : Str) (l : List Str) : inV (.str a) (l.map V.str) = decide (a ∈ l) := by
  unfold inV
  induction l with
  | nil => rfl
  | cons b l ih =>
    rw [List.map_cons, List.any_cons, ih]
    show ((b == a) || decide (a ∈ l)) = _
    by_cases h : b = a
    · subst h; simp
    · have h2 : ¬ a = b := fun e => h e.symm
      simp [h, h2]
theorem inV2 (a b c : List Nat) : inV (.str (S a)) [.str (S b), .str (S c)] = (decide (a = b) || decide (a = c)) := by
  show inV (.str (S a)) ([S b, S c].map V.str) = _
  rw [inV_str]
  have e : ∀ x y : List Nat, (S x = S y) ↔ x = y := fun x y => ⟨fun h => congrArg tl h, fun h => by rw [h]⟩
  rw [← Bool.decide_or, decide_eq_decide]
  simp [e]
theorem loop_r {n : Nat} {lo : Int} {g : Nat} {tb : TS} {D : Ends} {σ : St} {H : Hp} (Pv : Nat → St → Hp → Prop) (h0 : Pv 0 σ H)
    (hs : ∀ i σ H, i < n → Pv i σ H → tb { D with nx := Pv (i + 1), ct := Pv (i + 1), bk := D.nx } (σ.set g (some (.int (lo + i)))) H) (hd : ∀ σ H, Pv n σ H → D.nx σ H) : loop n (itR lo) (fun _ => True) (gName g) tb D σ H := by
  refine loop_i Pv h0 (fun _ _ _ _ _ => trivial) ?_ hd
  rintro i x σ H H' hi hP ⟨rfl, rfl⟩
  exact hs i σ H' hi hP
theorem loop_s {l : List Nat} {g : Nat} {tb : TS} {D : Ends} {σ : St} {H : Hp} (Pv : Nat → St → Hp → Prop) (h0 : Pv 0 σ H)
    (hs : ∀ i (hi : i < l.length) σ H, Pv i σ H → tb { D with nx := Pv (i + 1), ct := Pv (i + 1), bk := D.nx } (σ.set g (some (.str (S [l[i]])))) H) (hd : ∀ σ H, Pv l.length σ H → D.nx σ H) : loop l.length (itS l) (fun _ => True) (gName g) tb D σ H := by
  refine loop_i Pv h0 (fun _ _ _ _ _ => trivial) ?_ hd
  rintro i x σ H H' hi hP ⟨rfl, c, hc, rfl⟩
  have e : c = l[i] := by rw [List.getElem?_eq_getElem hi] at hc; exact (Option.some.inj hc).symm
  subst e
  exact hs i hi σ H' hP
end Ta

set_option Elab.async false
set_option linter.all false
set_option maxRecDepth 100000
set_option maxHeartbeats 1000000
namespace Ta
open PySem PySem.Spec PyProof.Rows L2

/-- [e for x in cells], e a whole number by x -/
theorem lcp_I {cs : List Int} {p : Addr} {i : Nat} {te : TE} {σ : St} {H1 : Hp} {Q : VK} {vs : List Nat} (hp : H1 p = some (.lst (cs.map V.int)))
    (g : Int → Int) (hl : cs.length < 1000000) (he : ∀ c D H' Q', H1 D = none → c ∈ cs → (∃ ys, H' = upd H1 D (.lst ys)) → Q' (.int (g c)) H' → te ((wipe σ vs).set i (some (.int c))) H' Q')
    (hw : ∀ v, wipe ((wipe σ vs).set i v) vs = wipe σ vs) (q : ∀ D, H1 D = none → Q (.ref D) (upd H1 D (.lst ((cs.map g).map V.int)))) : lcp (cs.map V.int).length (itL (cs.map V.int)) (fun H' => H' p = some (.lst (cs.map V.int))) (gName i) tYes te vs σ H1 Q := by
  refine lcp_ML hp (fun v => match v with
    | .int c => .int (g c)
    | v => v) (by rw [List.length_map]; exact hl) ?_ hw ?_
  · rintro x D H' Q' hD hx hH hQ
    obtain ⟨c, hc, rfl⟩ := List.mem_map.mp hx
    exact he c D H' Q' hD hc hH hQ
  · intro D hD
    have e : (cs.map V.int).map (fun v => match v with
      | .int c => V.int (g c)
      | v => v) = (cs.map g).map V.int := by rw [List.map_map, List.map_map]; rfl
    rw [e]
    exact q D hD
/-- for x in a list that stands -/
theorem loop_l {xs : List V} {p : Addr} {g : Nat} {tb : TS} {D : Ends} {σ : St} {H : Hp} (Pv : Nat → St → Hp → Prop) (h0 : Pv 0 σ H) (hst : ∀ i σ H, i ≤ xs.length → Pv i σ H → H p = some (.lst xs))
    (hs : ∀ i (hi : i < xs.length) σ H, Pv i σ H → tb { D with nx := Pv (i + 1), ct := Pv (i + 1), bk := D.nx } (σ.set g (some xs[i])) H) (hd : ∀ σ H, Pv xs.length σ H → D.nx σ H) :
    loop xs.length (itL xs) (fun H' => H' p = some (.lst xs)) (gName g) tb D σ H := by
  refine loop_i Pv h0 hst ?_ hd
  rintro i x σ H H' hi hP ⟨rfl, hx⟩
  rw [List.getElem?_eq_getElem hi] at hx
  cases hx
  exact hs i hi σ H' hP
theorem Kp.fr {F : List Addr} {H H1 H2 : Hp} (a : Kp [] H H1) (b : Kp F H1 H2) (hF : ∀ z ∈ F, H z = Option.none) : Kp [] H H2 := fun z u hz _ => b z u (a z u hz (fun h => nomatch h)) (fun hm => by rw [hF z hm] at hz; cases hz)
theorem Kp.fu {H H1 : Hp} {p : Addr} {o : HO} (a : Kp [] H H1) (hp : H p = Option.none) : Kp [] H (upd H1 p o) := Kp.own a hp
theorem Kp.get3 {p r t : Addr} {H H' : Hp} {q : Addr} {o : HO} (a : Kp [p, r, t] H H') (h : H q = some o) (n : q ≠ p) (n2 : q ≠ r) (n3 : q ≠ t) : H' q = some o := a q o h (by simp [n, n2, n3])
theorem ne_x {H : Hp} {p q : Addr} (hp : H p = none) (h : ∃ o, H q = some o) : p ≠ q := by
  obtain ⟨o, h⟩ := h
  exact ne_none' h hp
theorem ne_y {H : Hp} {p q : Addr} (hp : H p = none) (h : ∃ o, H q = some o) : q ≠ p := (ne_x hp h).symm
theorem itm_z0 {α : Type} {x : α} {xs : List α} {i : Int} {k : α → Prop} (e : i = 0) (q : k x) : itm (x :: xs) i k := itm_n (j := 0) e rfl q
theorem itm_z1 {α : Type} {x y : α} {xs : List α} {i : Int} {k : α → Prop} (e : i = 1) (q : k y) : itm (x :: y :: xs) i k := itm_n (j := 1) e rfl q
theorem itm_2 {α : Type} {x y : α} {i : Int} {k : α → Prop} (h0 : 0 ≤ i) (h1 : i < 2) (q0 : i = 0 → k x) (q1 : i = 1 → k y) : itm [x, y] i k := by
  have : i = 0 ∨ i = 1 := by omega
  rcases this with e | e
  · exact itm_z0 e (q0 e)
  · exact itm_z1 e (q1 e)
theorem itm_3 {α : Type} {x y z : α} {i : Int} {k : α → Prop} (h0 : 0 ≤ i) (h1 : i < 3) (q0 : i = 0 → k x) (q1 : i = 1 → k y) (q2 : i = 2 → k z) : itm [x, y, z] i k := by
  have : i = 0 ∨ i = 1 ∨ i = 2 := by omega
  rcases this with e | e | e
  · exact itm_z0 e (q0 e)
  · exact itm_z1 e (q1 e)
  · exact itm_n (j := 2) e rfl (q2 e)
theorem loop_r2 {lo : Int} {g : Nat} {tb : TS} {D : Ends} {σ : St} {H : Hp}
    (h : tb { D with nx := fun σ' H' => tb { D with nx := D.nx, ct := D.nx, bk := D.nx } (σ'.set g (some (.int (lo + 1)))) H', ct := fun σ' H' => tb { D with nx := D.nx, ct := D.nx, bk := D.nx } (σ'.set g (some (.int (lo + 1)))) H', bk := D.nx } (σ.set g (some (.int lo))) H) :
    loop 2 (itR lo) (fun _ => True) (gName g) tb D σ H := by
  refine loop_r (fun i σ' H' => match i with
    | 0 => σ' = σ ∧ H' = H
    | 1 => tb { D with nx := D.nx, ct := D.nx, bk := D.nx } (σ'.set g (some (.int (lo + 1)))) H'
    | _ => D.nx σ' H') ⟨rfl, rfl⟩ ?_ ?_
  · rintro i σ' H' hi hP
    match i, hi, hP with
    | 0, _, hP =>
      obtain ⟨rfl, rfl⟩ := hP
      have e : lo + ((0 : Nat) : Int) = lo := by omega
      rw [e]
      exact h
    | 1, _, hP => exact hP
  · exact fun σ' H' h => h
theorem itm_0 {α : Type} {x : α} {xs : List α} {k : α → Prop} (q : k x) : itm (x :: xs) 0 k := itm_n (j := 0) rfl rfl q
theorem itm_1 {α : Type} {x y : α} {xs : List α} {k : α → Prop} (q : k y) : itm (x :: y :: xs) 1 k := itm_n (j := 1) rfl rfl q
end Ta

set_option Elab.async false
set_option linter.all false
set_option maxRecDepth 100000
set_option maxHeartbeats 1000000
namespace Ta
open PySem PySem.Spec PyProof.Rows L2

section
variable {X : Cx}
/-! ### list(x), x a text too -/
def zListX (K : PySem.W.Frag) : List V → Hp → VK → Prop := fun xs H Q => one xs fun x => match x with
  | .str z => (tl z).length ≤ 1000000 ∧ ∀ l, H l = none → Q (.ref l) (upd H l (.lst (sgn (tl z))))
  | .ref p => look H p fun o => (match o with
    | some (.lst ys) => ∀ l, H l = none → Q (.ref l) (upd H l (.lst ys))
    | some (.tup ys) => ∀ l, H l = none → Q (.ref l) (upd H l (.lst ys))
    | some (.frz _ (.lst ys)) => ∀ l, H l = none → Q (.ref l) (upd H l (.lst ys))
    | _ => False)
  | _ => False
theorem crlistX (hcalm : X.calm = true) : CallR X (.type "list") (zListX X.K) := by
  intro pins s σ H xs us Q I r q
  obtain ⟨x, rfl, q1⟩ := one_e q
  cases x with
  | str z =>
    obtain ⟨h1, q1⟩ := q1
    obtain ⟨u, eu, rx⟩ := vals1 r
    subst eu
    obtain ⟨t, rfl⟩ := rx
    have hsz : z.cps.size = (tl z).length := by simp [tl]
    refine PySem.call_list_str (I.ok.hd hcalm) z t (fun h' tk acc' c' hk hS hacc => ?_) (by rw [hsz, sizeLine_eq]; omega)
    have hal : acc'.toList.length = (one1 (tl z)).length := by rw [Array.length_toList, hacc.1, hsz]; simp [one1]
    have hSt : StrsAre acc'.toList (one1 (tl z)) := L2.strs_at hal fun j v e => by
      obtain ⟨c, u, e1, e2⟩ := hacc.2 j v (by rw [← Array.getElem?_toList]; exact e)
      exact ⟨S [c], u, by simp [one1, tl, e1], e2⟩
    have ev : (one1 (tl z)).map V.str = sgn (tl z) := by unfold sgn one1; rw [List.map_map]; rfl
    have hlen : (sgn (tl z)).length ≤ sizeLine := by unfold sgn; rw [List.length_map, sizeLine_eq]; omega
    exact ⟨.ref s.heap.objs.size, _, I.laid (t' := tk) hk (Nat.le_refl _) (show ObjOk X.prog X.w _ h' _ (.lst (sgn (tl z))) from ⟨hlen, acc'.toList, c', by rw [← ev]; exact vals_of_strs hSt, hS⟩), rfl, q1 _ (I.hok.fresh (Nat.le_refl _))⟩
  | ref p => exact crlist pins s σ H [.ref p] us Q I r q
  | _ => exact False.elim q1
/-! ### list(range(n)) -/
variable {a b : Expr} {ta tb : TE}
abbrev TRg := St → Hp → (Int → Int → Hp → Prop) → Prop
def tRa (ta : TE) : TRg := fun σ H Q => ta σ H fun x H1 => match x with
  | .int n => Q 0 n H1
  | _ => False
def tRb (ta tb : TE) : TRg := fun σ H Q => ta σ H fun x H1 => tb σ H1 fun y H2 => match x with
  | .int n => (match y with
    | .int m => Q n m H2
    | _ => False)
  | _ => False
theorem prga {p pos : Pos} (hm : X.mg "range" = none) (ha : PE X a ta) (hg : Gl X "range" := by rfl) (na : starEach [a] X.env = (false, eval a X.env) :: starEach [] X.env := by rfl) : PRg X (.Call (.Name "range" p) [a] [] pos) (tRa ta) := by
  intro pins s σ H Q I h
  refine Call_ (ld_blt I hg hm boot_range (PyProof.Rows.callWith_type1 (one_arg ha I h (fun v s2 x H2 I2 r q => ?_) na) na))
  cases x with
  | int n =>
    obtain ⟨t, rfl⟩ := r
    exact call_range_1 ⟨_, 0, n, _, _, _, H2, rfl, IsRange.new _ _ _ _ _ _ _, I2.kept fun b u e => Heap.get?_push_of_some _ e, q⟩
  | _ => exact False.elim q
theorem prgb {p pos : Pos} (hm : X.mg "range" = none) (ha : PE X a ta) (hb : PE X b tb) (hg : Gl X "range" := by rfl) (na : starEach [a, b] X.env = (false, eval a X.env) :: starEach [b] X.env := by rfl)
    (nb : starEach [b] X.env = (false, eval b X.env) :: starEach [] X.env := by rfl) (hp : ∀ pos, (backTo pos (starEach [b] X.env)).any (·.1) = false := by exact fun _ => rfl) : PRg X (.Call (.Name "range" p) [a, b] [] pos) (tRb ta tb) := by
  intro pins s σ H Q I h
  refine Call_ (ld_blt I hg hm boot_range (PyProof.Rows.callWith_type1 (args_cons (thn (ha.run pins s σ H _ I h) fun v s1 ⟨x, H1, I1, r1, q1⟩ => one_arg hb I1 q1 (fun u s2 y H2 I2 r2 q => ?_) nb) na) na (hp _)))
  cases x with
  | int i =>
    cases y with
    | int j =>
      obtain ⟨t, rfl⟩ := r1
      obtain ⟨t', rfl⟩ := r2
      exact call_range_2 ⟨_, i, j, _, _, _, H2, rfl, IsRange.new _ _ _ _ _ _ _, I2.kept fun b u e => Heap.get?_push_of_some _ e, q⟩
    | _ => exact False.elim q
  | _ => exact False.elim q
theorem plrg {e : Expr} {te : TRg} {p pos : Pos} (hc : X.calm = true) (hm : X.mg "list" = none) (he : PRg X e te) (hg : Gl X "list" := by rfl) (na : starEach [e] X.env = (false, eval e X.env) :: starEach [] X.env := by rfl) : PE X (.Call (.Name "list" p) [e] [] pos) (tLstRg te) := pe_listRg hc hg hm he na
theorem rg_ok {a b : Int} (h0 : 0 ≤ a) (h1 : b ≤ 1000000) (h2 : a ≤ 1000000) (h3 : 0 ≤ b) : RgOk a b := RgOk.of_le h0 (by omega) (by omega) h3
end
end Ta

set_option Elab.async false
set_option linter.all false
set_option maxRecDepth 100000
set_option maxHeartbeats 1000000
namespace Ta
open PySem PySem.Spec PyProof.Rows L2

section
variable {X : Cx}
/-! ### match e: texts, then anything -/
abbrev TM := V → TS
structure PMs (X : Cx) (cs : List MatchCase) (t : TM) : Prop where
  run : ∀ (first : Bool) (pins : List (Addr × Obj)) (s : Shared) (σ : St) (H : Hp) (D : Ends) (x : V) (v : Value), Inv X pins σ H s → RelV x v → t x D σ H → wpAny (model X.prog X.w) X.A (matchCases cs X.env v first) (SP X pins D) X.xe s
def mWild (t : TS) : TM := fun _ => t
def mVal (l : List Nat) (t : TS) (r : TM) : TM := fun x D σ H => match x with
  | .str a => cnd (decide (tl a = l)) (t D σ H) (r x D σ H)
  | _ => False
def tMat (te : TE) (tm : TM) : TS := fun D σ H => te σ H fun x H1 => tm x D σ H1
variable {body : List Stmt} {t : TS} {r tm : TM} {rest cs : List MatchCase} {p1 p2 pos : Pos} {e : Expr} {te : TE}
theorem pms_wild (h : PSs X body t) : PMs X [⟨.MatchAs none none p1, none, body⟩] (mWild t) := by
  refine ⟨fun first pins s σ H D x v I rx q => ?_⟩
  unfold matchCases
  refine wpAny_bind (wpAny_holding ?_)
  unfold matchPattern
  refine wpAny_pure ?_
  refine wpAny_bind (wpAny_holding ?_)
  refine wpAny_pure ?_
  exact h.run pins s σ H D I q
theorem pms_val (l : List Nat) {y : Str} {j : Nat} (hb : PSs X body t) (hr : PMs X rest r) (hy : y = S l := by decide +kernel) : PMs X (⟨.MatchValue (.Constant (.str y) j p1) p2, none, body⟩ :: rest) (mVal l t r) := by
  subst hy
  refine ⟨fun first pins s σ H D x v I rx q => ?_⟩
  cases x with
  | str a =>
    unfold matchCases
    refine wpAny_bind (wpAny_holding ?_)
    unfold matchPattern
    refine wpAny_bind (thn ((pe_str (X := X) (x := S l) (j := j) (pos := p1)).run pins s σ H (fun z H' => z = .str (S l) ∧ H' = H) I ⟨rfl, rfl⟩) fun u s1 hu => ?_)
    obtain ⟨z, H1, I1, rz, e1, e2⟩ := hu
    subst e1
    subst e2
    refine wpAny_bind (wpAny_standAt ?_)
    have hs : rEq (.str a) (.str (S l)) H1 fun z H' => z = .bl (decide (tl a = l)) ∧ H' = H1 := by
      refine ⟨rfl, ?_, rfl⟩
      have : decide (V.str a = V.str (S l)) = decide (tl a = l) := decide_eq_decide.mpr ⟨fun z => by injection z with z; rw [z], fun z => by rw [← z, S_tl]⟩
      rw [this]
    refine wpAny_bind (thn (op_eq pins s1 σ H1 (.str a) (.str (S l)) v u _ I1 rx rz hs) fun c s2 hc => ?_)
    obtain ⟨z2, H2, I2, rz2, e3, e4⟩ := hc
    subst e3
    subst e4
    cases rz2
    refine wpAny_bind (wpAny_truthy_bool ?_)
    have q := cnd_e q
    by_cases hk : tl a = l
    · rw [decide_eq_true hk] at q ⊢
      refine wpAny_pure ?_
      refine wpAny_bind (wpAny_holding ?_)
      refine wpAny_pure ?_
      exact hb.run pins s2 σ H2 D I2 q
    · rw [decide_eq_false hk] at q ⊢
      refine wpAny_pure ?_
      exact hr.run false pins s2 σ H2 D (.str a) v I2 rx q
  | _ => exact False.elim q
theorem psmat (he : PE X e te) (h : PMs X cs tm) : PS X (.Match e cs pos) (tMat te tm) := by
  refine ⟨fun pins s σ H D I q => ?_⟩
  show wpAny _ _ (standAt pos >>= fun _ => eval e X.env >>= fun v => matchCases cs X.env v true) _ _ _
  refine wpAny_bind (wpAny_standAt ?_)
  refine wpAny_bind (thn (he.run pins s σ H _ I q) fun v s1 hv => ?_)
  obtain ⟨x, H1, I1, rx, q1⟩ := hv
  exact h.run true pins s1 σ H1 D x v I1 rx q1
end
end Ta

set_option Elab.async false
set_option linter.all false
set_option maxRecDepth 100000
set_option maxHeartbeats 3200000
namespace Ta
open PySem PySem.Spec PyProof.Rows L2

/-! ### sets of texts whose table rises -/
def txOf (z : Int × Value) : Str := match z.2 with | .str y _ => y | _ => Str.empty
def GoodT (P : Program) (w : World) (z : Int × Value) : Prop := ∃ y u, z.2 = Value.str y u ∧ z.1 = (strKind P w).hash y
/-- the set of texts at p: T its members, m their number -/
def SetT (P : Program) (w : World) (hp : Heap) (p : Addr) (T : Str → Bool) (m : Nat) : Prop :=
  ∃ ob xs n tb, hp.get? p = some ob ∧ ob.ExactSet ∧ ob.data = .set xs n tb ∧ ((∀ z ∈ xs.toList, GoodT P w z) ∧ (xs.toList.map txOf).Nodup ∧ ∀ y, T y = true ↔ y ∈ xs.toList.map txOf) ∧
    (xs.size < scanBound ∧ tb.fits xs.size = true ∧ xs.size = m) ∧ Ris tb.place.toList ∧ (w.params.followText "set-order" = true ∨ tb.led = true)
section
variable {P : Program} {w : World} {hp hp' : Heap} {p : Addr} {T : Str → Bool} {m : Nat}
theorem goodT_el {l : List (Int × Value)} (g : ∀ z ∈ l, GoodT P w z) : ElemsOf (strKind P w) l := fun z hz => by
  obtain ⟨y, u, e1, e2⟩ := g z hz
  exact ⟨⟨y, by rw [e1]; exact strKind_is P w y u, e2⟩, by rw [e1] <;> rfl⟩
theorem goodT_is {z : Int × Value} (g : GoodT P w z) (y : Str) : (strKind P w).is y z.2 = true ↔ txOf z = y := by
  obtain ⟨x, u, e1, _⟩ := g
  unfold txOf
  rw [e1]
  show ((x == y) = true) ↔ x = y
  exact beq_iff_eq
theorem goodT_mem {l : List (Int × Value)} (g : ∀ z ∈ l, GoodT P w z) (y : Str) : y ∈ l.map txOf ↔ ∃ z ∈ l, (strKind P w).is y z.2 = true := by
  rw [List.mem_map]
  exact ⟨fun ⟨z, hz, q⟩ => ⟨z, hz, (goodT_is (g z hz) y).2 q⟩, fun ⟨z, hz, q⟩ => ⟨z, hz, (goodT_is (g z hz) y).1 q⟩⟩
theorem SetT.kept (R : SetT P w hp p T m) (k : ∀ ob, hp.get? p = some ob → hp'.get? p = some ob) : SetT P w hp' p T m := by
  obtain ⟨ob, xs, n, tb, h1, r⟩ := R
  exact ⟨ob, xs, n, tb, k ob h1, r⟩
theorem SetT.same {T' : Str → Bool} {m' : Nat} (R : SetT P w hp p T m) (e : ∀ y, T' y = T y) (em : m = m') : SetT P w hp p T' m' := by
  have : T' = T := funext e
  rw [this, ← em]; exact R
end
section
variable {P : Program} {w : World} {A : Around} {E : Value → Shared → Prop} {s : Shared} {p : Addr} {T : Str → Bool} {m : Nat}
theorem setT_tail {g : Bool → Sem Unit} (hg : ∀ (b : Bool) (s1 : Shared) (Q1 : Unit → Shared → Prop), Q1 () s1 → wpAny (model P w) A (g b) Q1 E s1)
    {ob : Obj} {xs ys : Array (Int × Value)} {n : Nat} {tb tc : SetTable} (h1 : s.heap.get? p = some ob) (h2 : ob.ExactSet) (h3 : ob.data = .set xs n tb)
    {U : Str → Bool} (gd : (∀ z ∈ ys.toList, GoodT P w z) ∧ (ys.toList.map txOf).Nodup ∧ ∀ y, U y = true ↔ y ∈ ys.toList.map txOf) (sz : ys.size < scanBound) (ft : tc.fits ys.size = true) (ri : Ris tc.place.toList)
    (ld : w.params.followText "set-order" = true ∨ tc.led = true) {dum : Bool} {R : Option Bool → Shared → Prop} (hR : ∀ h', Heap.SameBut p s.heap h' → SetT P w h' p U ys.size → R (some true) { s with heap := h' }) :
    wpAny (model P w) A (do
        storeSet p ys tc
        if (!dum && tc.tooFull) = true then do
            g (relayAll tc ys (SetTable.grown ys.size)).2.2
            storeSet p (relayAll tc ys (SetTable.grown ys.size)).1 (relayAll tc ys (SetTable.grown ys.size)).2.1
            pure (some true)
          else pure (some true)) R E s := by
  obtain ⟨gd1, gd2, gd3⟩ := gd
  refine wpAny_bind (wpAny_storeSet_of h1 h3 ?_ (fits_of_scanBound sz))
  have k1 := store_at (es' := ys) (t' := tc) h1 h3
  have b1 := Heap.SameBut.update s.heap p (Obj.putSet ys tc)
  split
  · have v1 := relayAll_perm tc ys (SetTable.grown ys.size)
    have v2 := relayAll_fits tc ys (SetTable.grown ys.size)
    have v3 := relayAll_ris tc ys (SetTable.grown ys.size)
    have v4 := relayAll_led tc ys (SetTable.grown ys.size)
    generalize relayAll tc ys (SetTable.grown ys.size) = Y at v1 v2 v3 v4 ⊢
    obtain ⟨zs, td, gave⟩ := Y
    dsimp only at v1 v2 v3 v4 ⊢
    have sz2 : zs.size = ys.size := by rw [← Array.length_toList, v1.length_eq, Array.length_toList]
    have sz3 : zs.size < scanBound := by rw [sz2]; exact sz
    refine wpAny_bind (hg _ _ _ ?_)
    refine wpAny_bind (wpAny_storeSet_of k1 rfl ?_ (fits_of_scanBound sz3))
    have k2 := store_at (es' := zs) (t' := td) k1 rfl
    refine wpAny_pure (hR _ (b1.trans (Heap.SameBut.update _ p _)) ⟨_, zs, _, td, k2, h2, rfl, ⟨fun z hz => gd1 z (v1.mem_iff.mp hz), (v1.map txOf).nodup_iff.mpr gd2, fun y => (gd3 y).trans (v1.map txOf).mem_iff.symm⟩, ⟨sz3, v2, sz2⟩, v3, ld.imp id fun z => by rw [v4]; exact z⟩)
  · exact wpAny_pure (hR _ b1 ⟨_, ys, _, tc, k1, h2, rfl, ⟨gd1, gd2, gd3⟩, ⟨sz, ft, rfl⟩, ri, ld⟩)
theorem setT_add {y : Str} {u : Tok} {Q : Bool → Shared → Prop} (R : SetT P w s.heap p T m) (room : m + 1 < scanBound)
    (hQ : ∀ h', Heap.SameBut p s.heap h' → SetT P w h' p (fun x => T x || decide (x = y)) (if T y = true then m else m + 1) → Q (!T y) { s with heap := h' }) :
    wpAny (model P w) A (setAddHashed p (.str y u) ((strKind P w).hash y)) Q E s := by
  obtain ⟨ob, xs, n, tb, h1, h2, h3, ⟨g1, g2, g3⟩, ⟨c1, c2, c3⟩, ri, ld⟩ := R
  have hkey : (strKind P w).is y (.str y u) = true := strKind_is P w y u
  have hsc : (Value.str y u).scannable = true := rfl
  have hel : ElemsOf (strKind P w) xs.toList := goodT_el g1
  unfold setAddHashed setAddHashedIn
  refine wpAny_holding (wpAny_bind (wpAny_setState_of h1 h3 c2 ?_))
  dsimp only
  rw [byScan_of hsc c1 hel]
  simp only [↓reduceIte]
  unfold setAddByScan
  refine wpAny_bind ?_
  refine wpAny_bind (wpAny_rule ?_)
  refine wpAny_bind (wpAny_setScan_of hkey h1 h3 c2 hel ?_)
  cases hfi : List.findIdx? (fun z => (strKind P w).is y z.2) xs.toList with
  | some j =>
    dsimp only
    obtain ⟨hj, pj, _⟩ := List.findIdx?_eq_some_iff_getElem.mp hfi
    have hT : T y = true := (g3 y).2 ((goodT_mem (P := P) (w := w) g1 y).2 ⟨xs.toList[j], List.getElem_mem hj, pj⟩)
    refine wpAny_pure (wpAny_pure ?_)
    have q := hQ s.heap (Heap.SameBut.refl p s.heap) ⟨ob, xs, n, tb, h1, h2, h3, ⟨g1, g2, fun i => by
      rw [Bool.or_eq_true, decide_eq_true_eq, ← g3 i]
      exact ⟨fun z => z.elim id (fun e => e ▸ hT), .inl⟩⟩, ⟨c1, c2, by rw [if_pos hT]; exact c3⟩, ri, ld⟩
    rw [hT] at q
    exact q
  | none =>
    dsimp only
    have hny : y ∉ xs.toList.map txOf := fun z => by
      obtain ⟨e, he, q⟩ := (goodT_mem (P := P) (w := w) g1 y).1 z
      have c := List.findIdx?_eq_none_iff.mp hfi e he
      rw [q] at c
      cases c
    have hT : T y = false := by
      cases q : T y with
      | false => rfl
      | true => exact absurd ((g3 y).1 q) hny
    have hgw : ∀ (b : Bool) {s1 : Shared} {Q1 : Unit → Shared → Prop}, Q1 () s1 → wpAny (model P w) A (match b with | true => rule "set.scan.the-table-gave-way" | false => pure ()) Q1 E s1 := by
      intro b s1 Q1 q
      cases b
      · exact wpAny_pure q
      · exact wpAny_rule q
    have v1 := layNew_perm tb xs ((strKind P w).hash y) (.str y u)
    have v2 := layNew_fits tb xs ((strKind P w).hash y) (.str y u)
    have v3 := layNew_ris tb xs ((strKind P w).hash y) (.str y u) ri
    have v4 := layNew_led tb xs ((strKind P w).hash y) (.str y u)
    generalize layNew tb xs ((strKind P w).hash y) (.str y u) = Y at v1 v2 v3 v4 ⊢
    obtain ⟨ys, tc, dum, gave⟩ := Y
    dsimp only at v1 v2 v3 v4 ⊢
    rw [Array.toList_push] at v1
    have pc : ys.toList.Perm (((strKind P w).hash y, Value.str y u) :: xs.toList) := v1.trans (List.perm_append_singleton _ _)
    have pk : (ys.toList.map txOf).Perm (y :: xs.toList.map txOf) := pc.map txOf
    have gd : (∀ z ∈ ys.toList, GoodT P w z) ∧ (ys.toList.map txOf).Nodup ∧ ∀ i, (T i || decide (i = y)) = true ↔ i ∈ ys.toList.map txOf := by
      refine ⟨fun e he => ?_, pk.nodup_iff.mpr (List.nodup_cons.mpr ⟨hny, g2⟩), fun i => ?_⟩
      · rcases List.mem_cons.mp (pc.mem_iff.mp he) with z | z
        · rw [z]; exact ⟨y, u, rfl, rfl⟩
        · exact g1 e z
      · rw [Bool.or_eq_true, decide_eq_true_eq, g3 i, pk.mem_iff, List.mem_cons]
        exact Or.comm
    have hsz : ys.size = m + 1 := by rw [← Array.length_toList, pc.length_eq, List.length_cons, Array.length_toList, c3]
    have sz : ys.size < scanBound := by rw [hsz]; exact room
    have ld1 : w.params.followText "set-order" = true ∨ tc.led = true := ld.imp id fun z => by rw [v4]; exact z
    have fin : ∀ h', Heap.SameBut p s.heap h' → SetT P w h' p (fun x => T x || decide (x = y)) ys.size → Q true { s with heap := h' } := fun h' sb r => by
      have q := hQ h' sb
      rw [hT] at q
      rw [hsz] at r
      exact q r
    refine wpAny_bind (hgw _ ?_)
    have hgv : ∀ (b : Bool) (s1 : Shared) (Q1 : Unit → Shared → Prop), Q1 () s1 → wpAny (model P w) A (match b with | true => rule "set.scan.the-table-gave-way" | false => pure ()) Q1 E s1 := fun b s1 Q1 q => hgw b q
    split
    · refine wpAny_bind ?_
      rw [hashByValue_scannable 8 hsc]
      refine wpAny_pure ?_
      refine setT_tail ?_ h1 h2 h3 gd sz ?_ ?_ ?_ fun h' sb r => ?_
      · intro b s1 Q1 q; cases b <;> first | exact wpAny_pure q | exact wpAny_rule q
      · first | (split <;> first | exact v2 | exact SetTable.fits_plain_off v2) | exact v2
      · first | (split <;> exact v3) | exact v3
      · first | (split <;> exact ld1) | exact ld1
      · dsimp only; exact wpAny_pure (fin h' sb r)
    · refine wpAny_bind (wpAny_pure ?_)
      simp only [↓reduceIte]
      refine setT_tail ?_ h1 h2 h3 gd sz v2 v3 ld1 fun h' sb r => ?_
      · intro b s1 Q1 q; cases b <;> first | exact wpAny_pure q | exact wpAny_rule q
      · dsimp only; exact wpAny_pure (fin h' sb r)
end
end Ta

set_option Elab.async false
set_option linter.all false
set_option maxRecDepth 100000
set_option maxHeartbeats 3200000
namespace Ta
open PySem PySem.Spec PyProof.Rows L2

section
variable {prog : Program} {w : World} {A : Around} {R : Result → Shared → Prop} {I : Addr} {fp wr : List Addr} {G : Array GenState → Array GenState → Prop} {n : Nat} {P : Nat → Value → Prop} {St : Nat → Shared → Prop}
abbrev tin (xs : List Str) : Str → Bool := fun y => xs.any (· == y)
abbrev led0 (w : World) : Bool := !w.params.followText "set-order"
abbrev set0 (w : World) : Obj := { cls := .type "set", dict := none, data := .set #[] 0 (.fresh 0 0 (led0 w)) }
theorem setT_fresh {hp : Heap} {p : Addr} (h : hp.get? p = some (set0 w)) : SetT prog w hp p (tin []) 0 := by
  refine ⟨_, #[], 0, _, h, ⟨rfl, rfl, rfl⟩, rfl, ⟨fun z hz => (by cases hz), .nil, fun y => ?_⟩, ⟨by unfold scanBound; decide, rfl, rfl⟩, .nil, ?_⟩
  · simp [tin]
  · cases e : w.params.followText "set-order" with
    | true => exact .inl rfl
    | false => exact .inr (by show led0 w = true; unfold led0; rw [e]; rfl)
theorem loopT (W : WalksS prog w A.in1 I fp wr G n P St) (D : Addr) (hDf : D ∉ fp) (xs : List Str) (hsz : xs.length = n) (hn1 : n + 1 < scanBound)
    (hval : ∀ i v, P i v → ∃ t, v = .str (xs.getD i Str.empty) t) :
    ∀ (k i : Nat) (s : Shared), n - i = k → i ≤ n → St i s → SetT prog w s.heap D (tin (xs.take i)) (dn (xs.take i)) →
      (∀ s', Moved (D :: wr) G s s' → SetT prog w s'.heap D (tin xs) (dn xs) → R (.ok (.ret .none)) s') →
      codeAny (model prog w) A (.builtin "set.update.loop" ⟨[.ref D, .ref I], []⟩) R s := by
  have hDw : D ∉ wr := fun h => hDf (W.sub _ h)
  have hsub : ∀ b ∈ wr, b ∈ D :: wr := fun b hb => List.mem_cons_of_mem _ hb
  intro k
  induction k with
  | zero =>
    intro i s hk hi hst hS hR
    have hin : i = n := by omega
    subst hin
    refine codeAny_builtin PyProof.Rows.F.entry_set_update_loop ?_
    rw [Around.under_plainId PyProof.Rows.F.plain_set_update_loop _]
    show wpAny _ A.in1 (pyNext (.ref I) >>= _) _ _ s
    refine wpAny_bind (W.done s _ _ hst fun s' hm => ?_)
    show wpAny _ A.in1 (ret Value.none) _ _ s'
    rw [List.take_of_length_le (Nat.le_of_eq hsz)] at hS
    exact wpAny_pure (hR s' (hm.mono hsub) (hS.kept fun o e => hm.heap D o hDw e))
  | succ k ih =>
    intro i s hk hi hst hS hR
    have hlt : i < n := by omega
    have hlx : i < xs.length := by omega
    refine codeAny_builtin PyProof.Rows.F.entry_set_update_loop ?_
    rw [Around.under_plainId PyProof.Rows.F.plain_set_update_loop _]
    show wpAny _ A.in1 (pyNext (.ref I) >>= _) _ _ s
    refine wpAny_bind (W.item i s _ _ hlt hst fun v s' hP hst' hm => ?_)
    obtain ⟨t, rfl⟩ := hval i v hP
    have hS' : SetT prog w s'.heap D (tin (xs.take i)) (dn (xs.take i)) := hS.kept fun o e => hm.heap D o hDw e
    show wpAny _ A.in1 (holding [Value.str (xs.getD i Str.empty) t] (setAdd D (.str (xs.getD i Str.empty) t)) >>= _) _ _ s'
    refine wpAny_bind (wpAny_holding ?_)
    unfold setAdd
    refine wpAny_holding ?_
    refine wpAny_bind ((PySem.strKind prog w).pyHash (k := xs.getD i Str.empty) (strKind_is _ _ _ _) ?_)
    have hdn := dn_le (xs.take i)
    have htk : (xs.take i).length ≤ i := by rw [List.length_take]; omega
    refine setT_add (s := { s' with toks := s'.toks + 1 }) hS' (by unfold scanBound at hn1 ⊢; omega) fun h' hsb hS2 => ?_
    have ex : xs.getD i Str.empty = xs[i] := by simp [List.getD, hlx]
    have et : xs.take (i + 1) = xs.take i ++ [xs[i]] := by rw [List.take_succ_eq_append_getElem hlx]
    have hSi : SetT prog w h' D (tin (xs.take (i + 1))) (dn (xs.take (i + 1))) := by
      refine hS2.same (fun y => ?_) ?_
      · show (xs.take (i + 1)).any (· == y) = ((xs.take i).any (· == y) || decide (y = xs.getD i Str.empty))
        rw [et, ex, List.any_append]
        congr 1
        by_cases e : y = xs[i]
        · subst e; simp
        · have hb : (xs[i] == y) = false := by simpa [beq_iff_eq] using (fun h' : xs[i] = y => e h'.symm)
          simp [hb, e]
      · rw [et, dn_snoc, ex]
    refine wpAny_pure ⟨plainId_quiet PyProof.Rows.F.plain_set_update_loop _, ih (i + 1) _ (by omega) hlt (W.frame _ s' _ _ hst' (Nat.le_succ _) fun b hb o e => ?_) hSi fun s'' hm'' hS'' => ?_⟩
    · rw [hsb.2 b (fun h : b = D => hDf (by rw [← h]; exact hb))]; exact e
    · refine hR s'' (Moved.trans W.gtrans ((hm.mono hsub).then_heap (Nat.le_succ _) fun b o hb e => ?_) hm'') hS''
      rw [hsb.2 b (fun h : b = D => hb (by rw [h]; exact List.mem_cons_self))]; exact e
end
section
variable {prog : Program} {w : World} {A : Around} {E : Value → Shared → Prop} {s : Shared}
abbrev GotT (prog : Program) (w : World) (s : Shared) (xs : List Str) (Q : Value → Shared → Prop) : Prop :=
  ∀ (h' : Heap) (tk : Nat), SetT prog w h' s.heap.objs.size (tin xs) (dn xs) → (∀ b o, b < s.heap.objs.size → s.heap.get? b = some o → h'.get? b = some o) → Q (.ref s.heap.objs.size) { s with heap := h', toks := tk }
theorem strs_get : ∀ {us : List Value} {xs : List Str}, StrsAre us xs → ∀ (i : Nat) (v : Value), us[i]? = some v → ∃ t, v = .str (xs.getD i Str.empty) t
  | _, _, .nil, i, v, h => by cases h
  | _, _, .cons _ t r, 0, v, h => ⟨t, (Option.some.inj h).symm⟩
  | _, _, .cons _ t r, i + 1, v, h => strs_get r i v h
theorem call_setT_text {x : Str} {t : Tok} {Q : Value → Shared → Prop} (hh : A.handled = none) (hn : (tl x).length + 1 < scanBound) (h : GotT prog w s (one1 (tl x)) Q) :
    wpAny (model prog w) A (call (.type "set") [.str x t]) Q E s := by
  obtain ⟨c, tl', hmro⟩ := PySem.F.called_set.mro
  have hmade := PySem.F.called_set.made
  have hsub := PySem.F.called_set.sub
  refine wpAny_call (codeAny_of_tree ?_)
  show wpAny _ _ (callAny (.type "set") _) _ _ _
  refine wpAny_pure ⟨Code.quiet_builtin _ (by decide +kernel), codeAny_builtin PySem.F.entry_type_call ?_⟩
  rw [Around.under_plain (weight_type_call_type "set" [.str x t] []) rfl]
  have h1 := PySem.F.called_set.notType
  have h2 := PySem.F.called_set.canCreate
  have hct := PySem.F.typeCall_set_1 (.str x t)
  repeat (any_goals (first | assumption | wp_step))
  refine codeAny_mono (code_set_led1 (.str x t) (E := E) (Q₁ := fun obj s₁ => obj = .ref s.heap.objs.size ∧ s₁ = { s with heap := s.heap.push (set0 w) }) ⟨rfl, rfl⟩) fun r s₁ hr => ?_
  cases r with
  | error e => exact hr
  | ok fl =>
    cases fl with
    | ret obj =>
      obtain ⟨rfl, rfl⟩ := hr
      have hS : (s.heap.push (set0 w)).get? s.heap.objs.size = some (set0 w) := Heap.get?_push_size _ rfl
      have hT : Shared.TypeIs { s with heap := s.heap.push (set0 w) } (.ref s.heap.objs.size) "set" := ⟨_, hS, rfl⟩
      have hli := PySem.F.called_set.init.lookup
      have hbi := PySem.F.called_set.init.bind (.ref s.heap.objs.size)
      repeat (any_goals (first | assumption | wp_step))
      refine codeAny_mono (codeAny_call_builtin (R := wants (fun r s₂ => r = .none ∧ ∃ h' tk, s₂ = { s with heap := h', toks := tk } ∧
          SetT prog w h' s.heap.objs.size (tin (one1 (tl x))) (dn (one1 (tl x))) ∧
          (∀ b o, b < s.heap.objs.size → s.heap.get? b = some o → h'.get? b = some o)) E) PySem.F.called_set.init.plain PySem.F.entry_set_init (check_set_init_1 hT ?_)) fun r₂ s₂ hr₂ => ?_
      · have hsls := PySem.F.sub_str_set
        have hslf := PySem.F.sub_str_frozenset
        have hne : (Value.type "str" == Value.type "dict") = false := by decide
        unfold Builtin.«set.__init__» noKeywords Builtin.Frozenset.updateFrom
        generalize hPI : pyIter = PI
        wp_walk
        subst hPI
        refine wpAny_pyIter_str fun o St W hst => ?_
        refine wpAny_bind (wpAny_runValue ?_)
        have hh3 : A.in1.in1.in1.handled = none := by simp [hh]
        have hSf : s.heap.objs.size ∉ [(s.heap.push (set0 w)).objs.size] := by
          rw [Heap.size_push]; simp only [List.mem_singleton]
          exact Nat.ne_of_lt (Nat.lt_succ_self _)
        have hsz : (one1 (tl x)).length = x.cps.size := by simp [one1, tl]
        have hszn : x.cps.size = (tl x).length := by simp [tl]
        refine loopT ((W _ hh3).toS) s.heap.objs.size
          hSf (one1 (tl x)) hsz (by rw [hszn]; exact hn) (fun i v h => sign_one h) (x.cps.size - 0) 0 _ (by omega) (Nat.zero_le _)
          hst ?hS0 ?hR
        case hS0 => exact setT_fresh (Heap.get?_push_of_some _ hS)
        case hR =>
          intro s' hm hS'
          obtain ⟨h', g', d', tk', os'⟩ := s'
          have eg : g' = s.gens := hm.gens
          have ed : d' = s.drawn := hm.drawn
          have eo : os' = s.os := hm.os
          subst eg; subst ed; subst eo
          show wpAny _ _ _ _ _ _
          refine wpAny_pure ?_
          show wpAny _ _ (ret Value.none) _ _ _
          refine wpAny_pure ⟨rfl, h', tk', rfl, hS', fun b o hb e => ?_⟩
          have hb1 : b ≠ s.heap.objs.size := Nat.ne_of_lt hb
          have hb2 : b ≠ (s.heap.push (set0 w)).objs.size := by
            rw [Heap.size_push]; exact Nat.ne_of_lt (Nat.lt_succ_of_lt hb)
          exact hm.heap b o (by simp only [List.mem_cons, List.mem_singleton, List.not_mem_nil, or_false, not_or]; exact ⟨hb1, hb2⟩) (Heap.get?_push_of_some _ (Heap.get?_push_of_some _ e))
      · cases r₂ with
        | error e => exact hr₂
        | ok fl₂ =>
          cases fl₂ with
          | ret r =>
            obtain ⟨rfl, h', tk, rfl, hS', hk'⟩ := hr₂
            repeat (any_goals (first | assumption | wp_step))
            exact h _ _ hS' hk'
          | _ => exact hr₂.elim
    | _ => exact hr.elim
theorem call_setT_list {l : Addr} {items : Array Value} {xs : List Str} {Q : Value → Shared → Prop} (hh : A.handled = none) (hl : s.heap.IsList l items) (hxs : StrsAre items.toList xs) (hn : xs.length + 1 < scanBound) (h : GotT prog w s xs Q) :
    wpAny (model prog w) A (call (.type "set") [.ref l]) Q E s := by
  have hisz : xs.length = items.size := by
    have q := L2.vals_of_strs hxs
    have := q.length
    rw [List.length_map, Array.length_toList] at this
    exact this
  have hval : ∀ (i : Nat) (v : Value), items[i]? = some v → ∃ t, v = .str (xs.getD i Str.empty) t := fun i v hv => strs_get hxs i v (by rw [Array.getElem?_toList]; exact hv)
  obtain ⟨c, tl', hmro⟩ := PySem.F.called_set.mro
  have hmade := PySem.F.called_set.made
  have hsub := PySem.F.called_set.sub
  refine wpAny_call (codeAny_of_tree ?_)
  show wpAny _ _ (callAny (.type "set") _) _ _ _
  refine wpAny_pure ⟨Code.quiet_builtin _ (by decide +kernel), codeAny_builtin PySem.F.entry_type_call ?_⟩
  rw [Around.under_plain (weight_type_call_type "set" [.ref l] []) rfl]
  have h1 := PySem.F.called_set.notType
  have h2 := PySem.F.called_set.canCreate
  have hct := PySem.F.typeCall_set_1 (.ref l)
  repeat (any_goals (first | assumption | wp_step))
  refine codeAny_mono (code_set_led1 (.ref l) (E := E) (Q₁ := fun obj s₁ => obj = .ref s.heap.objs.size ∧ s₁ = { s with heap := s.heap.push (set0 w) }) ⟨rfl, rfl⟩) fun r s₁ hr => ?_
  cases r with
  | error e => exact hr
  | ok fl =>
    cases fl with
    | ret obj =>
      obtain ⟨rfl, rfl⟩ := hr
      have hS : (s.heap.push (set0 w)).get? s.heap.objs.size = some (set0 w) := Heap.get?_push_size _ rfl
      have hT : Shared.TypeIs { s with heap := s.heap.push (set0 w) } (.ref s.heap.objs.size) "set" := ⟨_, hS, rfl⟩
      have hli := PySem.F.called_set.init.lookup
      have hbi := PySem.F.called_set.init.bind (.ref s.heap.objs.size)
      repeat (any_goals (first | assumption | wp_step))
      refine codeAny_mono (codeAny_call_builtin (R := wants (fun r s₂ => r = .none ∧ ∃ h' tk, s₂ = { s with heap := h', toks := tk } ∧ SetT prog w h' s.heap.objs.size (tin xs) (dn xs) ∧
          (∀ b o, b < s.heap.objs.size → s.heap.get? b = some o → h'.get? b = some o)) E) PySem.F.called_set.init.plain PySem.F.entry_set_init (check_set_init_1 hT ?_)) fun r₂ s₂ hr₂ => ?_
      · obtain ⟨ol, hol, hcl, nl, hdl⟩ := hl
        obtain ⟨ocls, odict, odata, oslots⟩ := ol
        simp only at hcl hdl
        subst hcl; subst hdl
        have hol' : (s.heap.push (set0 w)).get? l = some { cls := .type "list", dict := odict, data := .seq items nl, slots := oslots } := Heap.get?_push_of_some _ hol
        have hsls := PySem.F.sub_list_set
        have hslf := PySem.F.sub_list_frozenset
        have hne : (Value.type "list" == Value.type "dict") = false := by decide
        have hl1 : (s.heap.push (set0 w)).IsList l items := ⟨_, hol', rfl, nl, rfl⟩
        unfold Builtin.«set.__init__» noKeywords Builtin.Frozenset.updateFrom
        generalize hPI : pyIter = PI
        wp_walk
        subst hPI
        refine wpAny_pyIter_list hl1 ?_
        refine wpAny_bind (wpAny_runValue ?_)
        have hlS : l < s.heap.objs.size := Heap.lt_size hol
        have hh3 : A.in1.in1.in1.handled = none := by simp [hh]
        have hneI : l ≠ (s.heap.push (set0 w)).objs.size := by rw [Heap.size_push]; exact Nat.ne_of_lt (Nat.lt_succ_of_lt hlS)
        have hSf : s.heap.objs.size ∉ [(s.heap.push (set0 w)).objs.size, l] := by
          rw [Heap.size_push]; simp only [List.mem_cons, List.mem_singleton, List.not_mem_nil, or_false, not_or]
          exact ⟨Nat.ne_of_lt (Nat.lt_succ_self _), Nat.ne_of_gt hlS⟩
        refine loopT ((Walks.list hh3 _ l hneI items).toS) s.heap.objs.size hSf xs hisz (by rw [← hisz]; exact hn) hval (items.size - 0) 0 _ (by omega) (Nat.zero_le _)
          ⟨⟨_, Heap.get?_push_size _ rfl, rfl, rfl⟩, (hl1.push _)⟩ ?hS0 ?hR
        case hS0 => exact setT_fresh (Heap.get?_push_of_some _ hS)
        case hR =>
          intro s' hm hS'
          obtain ⟨h', g', d', tk', os'⟩ := s'
          have eg : g' = s.gens := hm.gens
          have ed : d' = s.drawn := hm.drawn
          have eo : os' = s.os := hm.os
          subst eg; subst ed; subst eo
          show wpAny _ _ _ _ _ _
          refine wpAny_pure ?_
          show wpAny _ _ (ret Value.none) _ _ _
          refine wpAny_pure ⟨rfl, h', tk', rfl, hS', fun b o hb e => ?_⟩
          have hb1 : b ≠ s.heap.objs.size := Nat.ne_of_lt hb
          have hb2 : b ≠ (s.heap.push (set0 w)).objs.size := by rw [Heap.size_push]; exact Nat.ne_of_lt (Nat.lt_succ_of_lt hb)
          exact hm.heap b o (by simp only [List.mem_cons, List.mem_singleton, List.not_mem_nil, or_false, not_or]; exact ⟨hb1, hb2⟩) (Heap.get?_push_of_some _ (Heap.get?_push_of_some _ e))
      · cases r₂ with
        | error e => exact hr₂
        | ok fl₂ =>
          cases fl₂ with
          | ret r =>
            obtain ⟨rfl, h', tk, rfl, hS', hk'⟩ := hr₂
            repeat (any_goals (first | assumption | wp_step))
            exact h _ _ hS' hk'
          | _ => exact hr₂.elim
    | _ => exact hr.elim
end
end Ta

set_option Elab.async false
set_option linter.all false
set_option maxRecDepth 100000
set_option maxHeartbeats 3200000
namespace Ta
open PySem PySem.Spec PyProof.Rows L2

/-! ### sorted(set(x)) -/
section
variable {prog : Program} {w : World} {A : Around} {E : Value → Shared → Prop} {s : Shared}
theorem strs_of : ∀ {us : List Value}, (∀ v ∈ us, ∃ y t, v = Value.str y t) → ∃ xs, StrsAre us xs
  | [], _ => ⟨[], .nil⟩
  | v :: us, h => by
    obtain ⟨y, t, rfl⟩ := h v List.mem_cons_self
    obtain ⟨xs, r⟩ := strs_of (us := us) fun v hv => h v (List.mem_cons_of_mem _ hv)
    exact ⟨y :: xs, .cons y t r⟩
def vtx (v : Value) : Str := match v with | .str y _ => y | _ => Str.empty
theorem strs_map : ∀ {us : List Value} {xs : List Str}, StrsAre us xs → us.map vtx = xs
  | _, _, .nil => rfl
  | _, _, .cons y t r => by rw [List.map_cons, strs_map r]; rfl
theorem sorted_setT {p : Addr} {T : Str → Bool} {m : Nat} {Q : Value → Shared → Prop} (R : SetT prog w s.heap p T m) (hh : A.handled = none) (h64 : m < 64)
    (hQ : ∀ s' q (out : Array Value) (c : Nat) (ys : List Str), (∀ b o, s.heap.get? b = some o → s'.heap.get? b = some o) → s'.gens = s.gens → s'.os = s.os → s.heap.objs.size ≤ q →
      s'.heap.get? q = some (seqObj "list" out c) → StrsAre out.toList ys → sortedS ys = true → ys.Nodup → (∀ y, y ∈ ys ↔ T y = true) → ys.length = m → Q (.ref q) s') :
    wpAny (model prog w) A (call (.builtin "sorted") [.ref p]) Q E s := by
  obtain ⟨ob, xs, n, tb, h1, h2, h3, ⟨g1, g2, g3⟩, ⟨c1, c2, c3⟩, ri, ld⟩ := R
  refine Calls.call_function_entry PyProof.Rows.kind_sorted PyProof.Rows.plain_sorted PyProof.Rows.entry_sorted (PyProof.Rows.args_sorted1 _) ?_
  unfold Builtin.«sorted»
  refine wpAny_bind (m := checkCount "sorted" 1 1 _) (wpAny_pure ?_)
  refine wpAny_bind (collect_set (A := A.in1) hh ⟨ob, h1, h2.1, h3⟩ c2 c1 ri ld fun s1 vs k1 hz e1 e2 pm => ?_)
  have hvl : vs.length = m := by rw [pm.length_eq, List.length_map, Array.length_toList]; exact c3
  obtain ⟨zs, hS⟩ := strs_of (us := vs) fun v hv => by
    obtain ⟨e, he, q⟩ := List.mem_map.mp (pm.mem_iff.mp hv)
    obtain ⟨y, t, q1, _⟩ := g1 e he
    exact ⟨y, t, by rw [← q]; exact q1⟩
  have pz : zs.Perm (xs.toList.map txOf) := by
    have q := pm.map vtx
    rw [strs_map hS, List.map_map] at q
    exact q
  refine wpAny_bind (wpAny_newList ?_ (by rw [hvl, sizeLine_eq]; omega))
  have hoL : (s1.heap.push (seqObj "list" vs.toArray 0)).get? s1.heap.objs.size = some (seqObj "list" vs.toArray 0) := Heap.get?_push_size _ rfl
  refine wpAny_bind (wpAny_holding (wpAny_call_entry PyProof.Rows.slot_list_sort ⟨_, hoL, rfl⟩ PyProof.Rows.entry_list_sort
    (list_sort_treeK strKind_oneLt (s := { s1 with heap := s1.heap.push (seqObj "list" vs.toArray 0) }) hoL hS.keysOf (fun v₁ v₂ rest e => keyKind_strs (by rw [← e]; exact hS)) (by rw [hvl]; exact h64) fun st' hp hs => ⟨_, rfl, ?_⟩)
    (PyProof.Rows.args_list_sort _)))
  obtain ⟨ys, u1, u2, u3⟩ := sorted_out_str hS hp hs
  obtain ⟨c, hc⟩ := PyProof.Rows.sortedHeap_at (vs := vs) (out := (arrOf st').map (·.2)) hoL
  have pn : ys.Perm (xs.toList.map txOf) := u2.trans pz
  refine wpAny_pure ⟨_, rfl, hQ _ s1.heap.objs.size _ c ys (fun b u e => ?_) e1 e2 hz hc u1 u3 (pn.nodup_iff.mpr g2) (fun y => by rw [pn.mem_iff, ← g3 y]) ?_⟩
  · have q := k1 b u e
    have hlt := Heap.lt_size q
    show (PyProof.Rows.sortedHeap (s1.heap.push (seqObj "list" vs.toArray 0)) s1.heap.objs.size vs ((arrOf st').map (·.2))).get? b = some u
    rw [PyProof.Rows.sortedHeap_old (Nat.ne_of_lt hlt) (by rw [size_push']; exact Nat.lt_succ_of_lt hlt)]
    exact Heap.get?_push_of_some _ q
  · rw [pn.length_eq, List.length_map, Array.length_toList]; exact c3
end
/-- a list of texts -/
structure txs (vs : List V) (k : List Str → Prop) : Prop where
  out : ∃ xs : List Str, vs = xs.map V.str ∧ k xs
theorem txs_i {xs : List Str} {k : List Str → Prop} (q : k xs) : txs (xs.map V.str) k := by refine ⟨?_⟩; exact ⟨xs, rfl, q⟩
theorem txs_l {ks : List (List Nat)} {k : List Str → Prop} (q : k (ks.map S)) : txs (ks.map fun l => V.str (S l)) k := by
  refine ⟨?_⟩; exact ⟨ks.map S, by rw [List.map_map]; rfl, q⟩
theorem txs_e {vs : List V} {k : List Str → Prop} (h : txs vs k) : ∃ xs : List Str, vs = xs.map V.str ∧ k xs := by replace h := h.out; exact h
def zSS (x : V) (H : Hp) (Q : VK) : Prop := match x with
  | .str z => (tl z).length < 64 ∧ ∀ p, H p = none → Q (.ref p) (upd H p (.lst (sgn (srt (tl z).eraseDups))))
  | .ref l => look H l fun o => (match o with
    | some (.lst vs) => txs vs fun xs => xs.length < 64 ∧ ∀ ys p, sortedS ys = true → ys.Nodup → (∀ y, y ∈ ys ↔ y ∈ xs) → H p = none → Q (.ref p) (upd H p (.lst (ys.map V.str)))
    | _ => False)
  | _ => False
def tSS (ta : TE) : TE := fun σ H Q => ta σ H fun x H1 => zSS x H1 Q
section
variable {X : Cx} {a : Expr} {ta : TE} {p p2 q pos : Pos}
theorem tin_mem (xs : List Str) (y : Str) : tin xs y = true ↔ y ∈ xs := by
  unfold tin
  rw [List.any_eq_true]
  exact ⟨fun ⟨z, h1, h2⟩ => by rw [← eq_of_beq h2]; exact h1, fun h => ⟨y, h, by simp⟩⟩
theorem nd_dups {α : Type} [BEq α] [LawfulBEq α] (l : List α) : l.eraseDups.Nodup := by
  suffices h : ∀ (n : Nat) (l : List α), l.length ≤ n → l.eraseDups.Nodup from h _ l (Nat.le_refl _)
  intro n
  induction n with
  | zero => intro l h; rw [List.length_eq_zero_iff.mp (Nat.le_zero.mp h)]; exact .nil
  | succ n ih =>
    intro l h
    cases l with
    | nil => exact .nil
    | cons a l =>
      rw [List.eraseDups_cons]
      refine List.nodup_cons.mpr ⟨fun hm => ?_, ih _ (Nat.le_trans (List.length_filter_le _ _) (by simpa using h))⟩
      rw [List.mem_eraseDups, List.mem_filter] at hm
      simp at hm
theorem one1_mem (l : List Nat) (c : Nat) : S [c] ∈ one1 l ↔ c ∈ l := by
  unfold one1
  rw [List.mem_map]
  exact ⟨fun ⟨d, h1, h2⟩ => by rw [← S1_inj _ _ h2]; exact h1, fun h => ⟨c, h, rfl⟩⟩
theorem end_SS {pins : List (Addr × Obj)} {σ : St} {H : Hp} {s : Shared} {Q : VK} {p : Addr} {T : Str → Bool} {m : Nat} (I : Inv X pins σ H s) (hc : X.calm = true) (R : SetT X.prog X.w s.heap p T m) (h64 : m < 64)
    (h : ∀ ys q, sortedS ys = true → ys.Nodup → (∀ y, y ∈ ys ↔ T y = true) → H q = none → Q (.ref q) (upd H q (.lst (ys.map V.str)))) :
    wpAny (model X.prog X.w) X.A (call (.builtin "sorted") [.ref p]) (EP X pins σ Q) X.xe s := by
  refine sorted_setT R (I.ok.hd hc) h64 fun s' q out c ys k g o hq hg hs h1 h2 h3 hl => ?_
  have hlen : (ys.map V.str).length ≤ sizeLine := by rw [List.length_map, hl, sizeLine_eq]; omega
  have hn : H q = none := I.hok.fresh hq
  have J : Inv X pins σ (upd H q (.lst (ys.map V.str))) { s with heap := s'.heap, gens := s'.gens, drawn := s'.drawn, toks := s'.toks } :=
    I.call (ch := []) (Un.laid k hq hn) (I.hok.laid k hq ⟨hlen, out.toList, c, vals_of_strs hs, hg⟩) (by rw [g]; exact I.bare) (fun _ z => nomatch z)
  have e : s' = { s with heap := s'.heap, gens := s'.gens, drawn := s'.drawn, toks := s'.toks } := by
    cases s'; cases s; cases o; rfl
  rw [e]
  exact ⟨.ref q, _, J, rfl, h ys q h1 h2 h3 hn⟩
theorem pss_set (hc : X.calm = true) (hm : X.mg "sorted" = none) (hm2 : X.mg "set" = none) (ha : PE X a ta) (hg : Gl X "sorted" := by rfl) (hg2 : Gl X "set" := by rfl)
    (na : starEach [a] X.env = (false, eval a X.env) :: starEach [] X.env := by rfl) : PE X (.Call (.Name "sorted" p) [.Call (.Name "set" p2) [a] [] q] [] pos) (tSS ta) := by
  refine ⟨fun pins s σ H Q I h => ?_⟩
  refine Call_ (ld_blt I hg hm boot_sorted ?_)
  refine PyProof.Rows.callWith_builtin1 (PyProof.Rows.args_cons ?_ rfl) rfl rfl
  refine Call_ (ld_blt I hg2 hm2 boot_set ?_)
  refine PyProof.Rows.callWith_type1 (PyProof.Rows.args_cons (thn (ha.run pins s σ H _ I h) fun v s1 hv => PyProof.Rows.args_nil ?_) na) na rfl
  obtain ⟨x, H1, I1, r1, q1⟩ := hv
  cases x with
  | str z =>
    obtain ⟨h1, q1⟩ := q1
    obtain ⟨t, rfl⟩ := r1
    refine call_setT_text (I1.ok.hd hc) (by unfold scanBound; omega) fun h' tk hS hk => ?_
    refine PyProof.Rows.args_nil ?_
    have hdn := dn_le (one1 (tl z))
    have hol : (one1 (tl z)).length = (tl z).length := by simp [one1]
    have I2 : Inv X pins σ H1 { s1 with heap := h', toks := tk } := I1.kept fun b o e => hk b o (Heap.lt_size e) e
    refine end_SS I2 hc hS (by omega) fun ys q g1 g2 g3 g4 => ?_
    have pm : ys.Perm ((tl z).eraseDups.map fun c => S [c]) := by
      refine (List.perm_ext_iff_of_nodup g2 ?_).mpr fun y => ?_
      · exact List.Pairwise.map _ (fun a b hn e => hn (S1_inj _ _ e)) (nd_dups _)
      · rw [g3 y, tin_mem]
        unfold one1
        simp only [List.mem_map, List.mem_eraseDups]
    obtain ⟨l', rfl, pl⟩ := perm_map_inv pm
    have el : l' = srt (tl z).eraseDups := srt_uniq pl (sorted_one l' g1)
    subst el
    have ev : ((srt (tl z).eraseDups).map fun c => S [c]).map V.str = sgn (srt (tl z).eraseDups) := by unfold sgn; rw [List.map_map]; rfl
    rw [ev]
    exact q1 q g4
  | ref l =>
    have q1 := look_e q1
    cases ea : H1 l with
    | none => rw [ea] at q1; exact q1.elim
    | some ob =>
      rw [ea] at q1
      cases ob with
      | lst vs =>
        obtain ⟨xs, rfl, h1, q2⟩ := txs_e q1
        obtain rfl : v = Value.ref l := r1
        obtain ⟨its, rv, pl, hz⟩ := I1.list (SqL.of ea)
        have hxs : StrsAre its xs := strs_of_vals rv
        refine call_setT_list (I1.ok.hd hc) pl.isList hxs (by unfold scanBound; omega) fun h' tk hS hk => ?_
        refine PyProof.Rows.args_nil ?_
        have hdn := dn_le xs
        have I2 : Inv X pins σ H1 { s1 with heap := h', toks := tk } := I1.kept fun b o e => hk b o (Heap.lt_size e) e
        exact end_SS I2 hc hS (by omega) fun ys q g1 g2 g3 g4 => q2 ys q g1 g2 (fun y => by rw [g3 y, tin_mem]) g4
      | _ => exact q1.elim
  | _ => exact False.elim q1
end
end Ta

set_option Elab.async false
set_option linter.all false
set_option maxRecDepth 100000
set_option maxHeartbeats 3200000
namespace Ta
open PySem PySem.Spec PyProof.Rows L2 PySem.W

/-! ### sorted(x, key=len) -/
def slen (xs : List Str) : List Str := xs.mergeSort fun a b => decide (a.length ≤ b.length)
abbrev kLen (x : Str) : PyData := .int x.length
theorem dataLe_len (a b : Str) : PySem.W.dataLe false kLen a b = decide (a.length ≤ b.length) := by
  unfold PySem.W.dataLe PySem.W.sortLe
  show (!lexLt itemOrd (keyToks (kLen b)) (keyToks (kLen a))) = _
  have e : ∀ z : Str, keyToks (kLen z) = [.inl (z.length : Int)] := fun z => by show keyToks (.int z.length) = _; rw [keyToks]
  rw [e, e]
  have e2 : lexLt itemOrd [.inl (b.length : Int)] [.inl (a.length : Int)] = decide ((b.length : Int) < a.length) := by
    unfold PyProof.Rows.lexLt
    simp [itemLt, PyProof.Rows.lexLt]
  rw [e2]
  by_cases h : a.length ≤ b.length
  · rw [decide_eq_true h, decide_eq_false (by omega)]; rfl
  · rw [decide_eq_false h, decide_eq_true (by omega)]; rfl
theorem slen_eq (xs : List Str) : xs.mergeSort (PySem.W.dataLe false kLen) = slen xs := by
  unfold slen
  congr 1
  funext a b
  exact dataLe_len a b
def zSL (x : V) (H : Hp) (Q : VK) : Prop := match x with
  | .ref l => look H l fun o => (match o with
    | some (.lst vs) => txs vs fun xs => xs.length < 1000000 ∧ (∀ y ∈ xs, y.length < 1000000) ∧ ∀ p, H p = none → Q (.ref p) (upd H p (.lst ((slen xs).map V.str)))
    | _ => False)
  | _ => False
def tSL (t : TA) : TE := fun σ H Q => t σ H fun vs H1 => one vs fun x => zSL x H1 Q
section
variable {X : Cx} {a : Expr} {t : TA} {p p2 kp pos : Pos}
theorem each_strs : ∀ {us : List Value} {xs : List Str}, StrsAre us xs → EachIs (fun v x => ∃ t, v = Value.str x t) us xs
  | _, _, .nil => .nil
  | _, _, .cons y t r => .cons ⟨t, rfl⟩ (each_strs r)
theorem strs_each : ∀ {us : List Value} {xs : List Str}, EachIs (fun v x => ∃ t, v = Value.str x t) us xs → StrsAre us xs
  | _, _, .nil => .nil
  | _, _, .cons ⟨t, e⟩ r => by subst e; exact .cons _ t (strs_each r)
theorem ps_len {lv : Nat} (hr : Room lv X.A) (hm : X.mg "sorted" = none) (hm2 : X.mg "len" = none) (ha : PA X [a] t) (hg : Gl X "sorted" := by rfl) (hg2 : Gl X "len" := by rfl)
    (na : ∀ pos, backTo pos (starEach [a] X.env) = (false, eval a X.env) :: backTo pos (starEach [] X.env) := by exact fun _ => rfl) (hpl : ∀ pos, (backTo pos (starEach [a] X.env)).any (·.1) = false := by exact fun _ => rfl) :
    PE X (.Call (.Name "sorted" p) [a] [⟨some "key", .Name "len" p2, kp⟩] pos) (tSL t) := by
  refine ⟨fun pins s σ H Q I h => ?_⟩
  refine wpAny_Call_Name_kw (ld_blt I hg hm boot_sorted ?_)
  refine PyProof.Rows.callWith_kw (thn (ha.run pos pins s σ H _ I h) fun us s1 hv => ?_) (na pos) (hpl pos) rfl rfl
  obtain ⟨vs, H1, I1, r1, q1⟩ := hv
  obtain ⟨x, rfl, q1⟩ := one_e q1
  obtain ⟨u, rfl, rx⟩ := vals1 r1
  refine wpAny_evalAll_cons (wpAny_bind (ld_blt I1 hg2 hm2 boot_len (wpAny_bind (wpAny_standAt (wpAny_pure (wpAny_evalAll_nil ?_))))))
  have I2 := I1
  cases x with
  | ref l =>
    have q1 := look_e q1
    cases ea : H1 l with
    | none => rw [ea] at q1; exact q1.elim
    | some ob =>
      rw [ea] at q1
      cases ob with
      | lst vs =>
        obtain ⟨xs, rfl, h1, h2, q2⟩ := txs_e q1
        obtain rfl : u = Value.ref l := rx
        obtain ⟨its, rv, pl, hz⟩ := I1.list (SqL.of ea)
        have hxs : StrsAre its xs := strs_of_vals rv
        have hkd : ∀ x ∈ xs, X.A.units + 2 + (kLen x).depth < cLine := by
          intro x hx
          have := hr.un
          show X.A.units + 2 + PyData.depth (.int x.length) < cLine
          rw [PyData.depth]
          omega
        refine PySem.W.sorted_key_data (k := kLen) (R := fun v x => ∃ t, v = Value.str x t) (b := false) pl.isList (each_strs hxs) ?_ ?_ (by rw [sizeLine_eq]; omega) hkd (PyProof.Rows.ksk_s1 _ _) (fun _ => PyProof.Rows.ksk_l1 _ _) (PyProof.Rows.ksk_t4 "len") ?_ ?_
        · intro d hd d' hd'
          obtain ⟨x, _, rfl⟩ := List.mem_map.mp hd
          obtain ⟨y, _, rfl⟩ := List.mem_map.mp hd'
          show alike (.int x.length) (.int y.length) = true
          rw [alike]
        · refine .inr fun d hd => ?_
          obtain ⟨x, _, rfl⟩ := List.mem_map.mp hd
          exact ⟨fun z => (by cases z), fun ys z => (by cases z)⟩
        · rintro v x ⟨t, rfl⟩ hx h tk _
          have hn := line63
          have hx2 := h2 x hx
          have hx3 : x.length < 2 ^ 63 := by omega
          refine len_str (s := { s1 with heap := h, toks := tk }) (by omega) ?_
          exact ⟨h, _, rfl, fun b o e => e, Reads.int _ _⟩
        · intro out c h' tk hk hf hg3 hl hE
          rw [slen_eq] at hE
          have hs := strs_each hE
          have hlen : ((slen xs).map V.str).length ≤ sizeLine := by unfold slen; rw [List.length_map, List.length_mergeSort, sizeLine_eq]; omega
          exact ⟨.ref _, _, I2.laid (t' := tk) hk (Nat.le_succ _) (show ObjOk X.prog X.w _ h' _ (.lst ((slen xs).map V.str)) from ⟨hlen, out, c, vals_of_strs hs, hg3⟩), rfl, q2 _ (I2.hok.fresh (Nat.le_succ _))⟩
      | _ => exact q1.elim
  | _ => exact False.elim q1
end
end Ta

set_option Elab.async false
set_option linter.all false
set_option maxRecDepth 100000
set_option maxHeartbeats 1000000
namespace Ta
open PySem PySem.Spec PyProof.Rows L2

/-- a list of truth values -/
structure bls (vs : List V) (k : List Bool → Prop) : Prop where
  out : ∃ bs : List Bool, vs = bs.map V.bl ∧ k bs
theorem bls_i {bs : List Bool} {k : List Bool → Prop} (q : k bs) : bls (bs.map V.bl) k := by refine ⟨?_⟩; exact ⟨bs, rfl, q⟩
theorem bls_f {α : Type} {l : List α} {f : α → Bool} {k : List Bool → Prop} (q : k (l.map f)) : bls (l.map fun c => V.bl (f c)) k := by refine ⟨?_⟩; exact ⟨l.map f, by rw [List.map_map]; rfl, q⟩
theorem bls_e {vs : List V} {k : List Bool → Prop} (h : bls vs k) : ∃ bs : List Bool, vs = bs.map V.bl ∧ k bs := by replace h := h.out; exact h
def zAllP (K : PySem.W.Frag) : List V → Hp → VK → Prop := fun xs H Q => one xs fun x => match x with
  | .ref p => look H p fun o => (match o with
    | some (.lst vs) => bls vs fun bs => Q (.bl (bs.all id)) H
    | _ => False)
  | _ => False
def zAnyP (K : PySem.W.Frag) : List V → Hp → VK → Prop := fun xs H Q => one xs fun x => match x with
  | .ref p => look H p fun o => (match o with
    | some (.lst vs) => bls vs fun bs => Q (.bl (bs.any id)) H
    | _ => False)
  | _ => False
section
variable {X : Cx}
theorem crall (hc : X.calm = true) : CallR X (.builtin "all") (zAllP X.K) := cr_imp (cr_all hc) fun xs H Q h => by
  obtain ⟨x, rfl, h⟩ := one_e h
  cases x with
  | ref p =>
    have h := look_e h
    cases e : H p with
    | none => rw [e] at h; exact h.elim
    | some o =>
      rw [e] at h
      cases o with
      | lst vs =>
        obtain ⟨bs, rfl, q⟩ := bls_e h
        exact ⟨p, bs, rfl, SqL.of e, q⟩
      | _ => exact h.elim
  | _ => exact h.elim
theorem crany (hc : X.calm = true) : CallR X (.builtin "any") (zAnyP X.K) := cr_imp (cr_any hc) fun xs H Q h => by
  obtain ⟨x, rfl, h⟩ := one_e h
  cases x with
  | ref p =>
    have h := look_e h
    cases e : H p with
    | none => rw [e] at h; exact h.elim
    | some o =>
      rw [e] at h
      cases o with
      | lst vs =>
        obtain ⟨bs, rfl, q⟩ := bls_e h
        exact ⟨p, bs, rfl, SqL.of e, q⟩
      | _ => exact h.elim
  | _ => exact h.elim
end
/-- [e for c in text], e pure -/
theorem lcp_T {l : List Nat} {i : Nat} {te : TE} {σ : St} {H1 : Hp} {Q : VK} {vs : List Nat} (f : Nat → V) (hl : l.length < 1000000)
    (he : ∀ c D H' Q', H1 D = none → c ∈ l → (∃ ys, H' = upd H1 D (.lst ys)) → Q' (f c) H' → te ((wipe σ vs).set i (some (.str (S [c])))) H' Q')
    (hw : ∀ v, wipe ((wipe σ vs).set i v) vs = wipe σ vs) (q : ∀ D, H1 D = none → Q (.ref D) (upd H1 D (.lst (l.map f)))) : lcp l.length (itS l) (fun _ => True) (gName i) tYes te vs σ H1 Q := by
  refine lcp_i (fun D k H => H = upd H1 D (.lst ((l.take k).map f))) (fun D hD => rfl) (fun D k H hD _ e => trivial) ?_ ?_
  · rintro D k x H H' hD hk rfl hi
    obtain ⟨rfl, c, hc, rfl⟩ := hi
    refine ⟨hw _, ?_⟩
    unfold tYes; dsimp only
    rw [if_pos rfl]
    refine he c D _ _ hD (List.mem_of_getElem? hc) ⟨_, rfl⟩ ⟨_, upd_at, ?_, ?_⟩
    · rw [List.length_map, List.length_take, sizeLine_eq]; omega
    · rw [upd_tw, List.take_succ, hc]
      simp
  · rintro D H hD rfl
    rw [List.take_length]
    exact q D hD
/-- .. over a list of texts that stands -/
theorem lcp_TL {ks : List (List Nat)} {p : Addr} {i : Nat} {te : TE} {σ : St} {H1 : Hp} {Q : VK} {vs : List Nat} (hp : H1 p = some (.lst (ks.map fun k => V.str (S k))))
    (f : List Nat → V) (hl : ks.length < 1000000) (he : ∀ c D H' Q', H1 D = none → c ∈ ks → (∃ ys, H' = upd H1 D (.lst ys)) → Q' (f c) H' → te ((wipe σ vs).set i (some (.str (S c)))) H' Q')
    (hw : ∀ v, wipe ((wipe σ vs).set i v) vs = wipe σ vs) (q : ∀ D, H1 D = none → Q (.ref D) (upd H1 D (.lst (ks.map f)))) : lcp (ks.map fun k => V.str (S k)).length (itL (ks.map fun k => V.str (S k))) (fun H' => H' p = some (.lst (ks.map fun k => V.str (S k)))) (gName i) tYes te vs σ H1 Q := by
  refine lcp_ML hp (fun v => match v with
    | .str c => f (tl c)
    | v => v) (by rw [List.length_map]; exact hl) ?_ hw ?_
  · rintro x D H' Q' hD hx hH hQ
    obtain ⟨c, hc, rfl⟩ := List.mem_map.mp hx
    exact he c D H' Q' hD hc hH hQ
  · intro D hD
    have e : (ks.map fun k => V.str (S k)).map (fun v => match v with
      | .str c => f (tl c)
      | v => v) = ks.map f := by rw [List.map_map]; rfl
    rw [e]
    exact q D hD
/-! ### == of tuples and lists of texts, numbers, truth values, None -/
def flt (v : V) : Option PyData := match v with
  | .non => some .none
  | .bl b => some (.bool b)
  | .int i => some (.int i)
  | .str x => if x.cps.all (· < 0x110000) then some (.str x) else none
  | _ => none
theorem ascii_ok {l : List Nat} (h : ∀ c ∈ l, c < 128) : (S l).cps.all (· < 0x110000) = true := by
  rw [Array.all_eq_true]
  intro i hi
  have : l[i]'hi ∈ l := List.getElem_mem hi
  exact decide_eq_true (Nat.lt_trans (h _ this) (by decide))
theorem flt_s {l : List Nat} (h : ∀ c ∈ l, c < 128) : flt (.str (S l)) = some (.str (S l)) := by
  show (if (S l).cps.all (· < 0x110000) then some (PyData.str (S l)) else none) = _
  rw [if_pos (ascii_ok h)]
theorem flt_str {x : Str} {d : PyData} (h : flt (.str x) = some d) : x.cps.all (· < 0x110000) = true ∧ d = .str x := by
  replace h : (if x.cps.all (· < 0x110000) then some (PyData.str x) else none) = some d := h
  by_cases e : x.cps.all (· < 0x110000) = true
  · rw [if_pos e] at h; exact ⟨e, (Option.some.inj h).symm⟩
  · rw [if_neg e] at h; cases h
theorem flt_dp {K : PySem.W.Frag} {H : Hp} {v : V} {d : PyData} (h : flt v = some d) : Dp K H v d ∧ d.canLay0 = true ∧ d.depth = 0 := by
  cases v with
  | non => cases h; exact ⟨.non, by rw [PyData.canLay0], by rw [PyData.depth]⟩
  | bl b => cases h; exact ⟨.bl b, by rw [PyData.canLay0], by rw [PyData.depth]⟩
  | int i => cases h; exact ⟨.int i, by rw [PyData.canLay0], by rw [PyData.depth]⟩
  | str x =>
    obtain ⟨e, rfl⟩ := flt_str h
    exact ⟨.str x, by rw [PyData.canLay0]; exact e, by rw [PyData.depth]⟩
  | _ => cases h
def flts : List V → Option (List PyData)
  | [] => some []
  | v :: vs => (flt v).bind fun d => (flts vs).map (d :: ·)
theorem flts_dp {K : PySem.W.Frag} {H : Hp} : ∀ {vs : List V} {ds : List PyData}, flts vs = some ds → DpAll K H vs ds ∧ PyData.canLayAll0 ds = true ∧ PyData.depthAll ds = 0
  | [], _, h => by cases h; exact ⟨.nil, by rw [PyData.canLayAll0], by rw [PyData.depthAll]⟩
  | v :: vs, _, h => by
    unfold flts at h
    cases e : flt v with
    | none => rw [e] at h; cases h
    | some d =>
      rw [e] at h
      cases e2 : flts vs with
      | none => rw [e2] at h; cases h
      | some ds =>
        rw [e2] at h
        cases h
        obtain ⟨a1, a2, a3⟩ := flt_dp (K := K) (H := H) e
        obtain ⟨b1, b2, b3⟩ := flts_dp (K := K) (H := H) e2
        exact ⟨.cons a1 b1, by rw [PyData.canLayAll0, a2, b2]; rfl, by rw [PyData.depthAll, a3, b3]; rfl⟩
theorem eqv_refl0 : ∀ {vs : List V} {ds : List PyData}, flts vs = some ds → PyData.eqvAll ds ds = true
  | [], _, h => by cases h; rw [PyData.eqvAll]
  | v :: vs, _, h => by
    unfold flts at h
    cases e : flt v with
    | none => rw [e] at h; cases h
    | some d =>
      rw [e] at h
      cases e2 : flts vs with
      | none => rw [e2] at h; cases h
      | some ds =>
        rw [e2] at h
        cases h
        have h2 := eqv_refl0 e2
        have h1 : PyData.eqv d d = true := by
          cases v with
          | non => cases e; rw [PyData.eqv]
          | bl b => cases e; rw [PyData.eqv]; simp
          | int i => cases e; rw [PyData.eqv]; simp
          | str x =>
            obtain ⟨_, rfl⟩ := flt_str e
            rw [PyData.eqv]; simp
          | _ => cases e
        show PyData.eqvAll (d :: ds) (d :: ds) = true
        rw [PyData.eqvAll, h1, h2]; rfl
/-- two equal tuples -/
theorem eq_tup {K : PySem.W.Frag} {H : Hp} {p r : Addr} {vs : List V} {ds : List PyData} {k : Bool → Prop} (h1 : H p = some (.tup vs)) (h2 : H r = some (.tup vs)) (e : flts vs = some ds) (q : k true) : dpq K (.ref p) (.ref r) H k := by
  obtain ⟨a1, a2, a3⟩ := flts_dp (K := K) (H := H) e
  have sh : SeqAt.shaped (.tuple ds) = true := by
    unfold SeqAt.shaped
    rw [PyData.canLay0, a2, PyData.depth, a3]
    decide
  refine dpq_i (.tup (SqT.of h1) a1) (.tup (SqT.of h2) a1) sh sh ?_
  rw [PyData.eqv, eqv_refl0 e]; exact q
theorem eq_lst {K : PySem.W.Frag} {H : Hp} {p r : Addr} {vs : List V} {ds : List PyData} {k : Bool → Prop} (h1 : H p = some (.lst vs)) (h2 : H r = some (.lst vs)) (e : flts vs = some ds) (q : k true) : dpq K (.ref p) (.ref r) H k := by
  obtain ⟨a1, a2, a3⟩ := flts_dp (K := K) (H := H) e
  have sh : SeqAt.shaped (.list ds) = true := by
    unfold SeqAt.shaped
    rw [PyData.canLay0, a2, PyData.depth, a3]
    decide
  refine dpq_i (.lst (SqL.of h1) a1) (.lst (SqL.of h2) a1) sh sh ?_
  rw [PyData.eqv, eqv_refl0 e]; exact q
theorem flts_s : ∀ {ks : List (List Nat)}, (∀ k ∈ ks, ∀ c ∈ k, c < 128) → flts (ks.map fun k => V.str (S k)) = some (ks.map fun k => PyData.str (S k))
  | [], _ => rfl
  | k :: ks, h => by
    rw [List.map_cons, List.map_cons]
    unfold flts
    rw [flt_s (h k List.mem_cons_self), flts_s fun x hx => h x (List.mem_cons_of_mem _ hx)]
    rfl
end Ta

set_option Elab.async false
set_option linter.all false
set_option maxRecDepth 100000
set_option maxHeartbeats 1000000
namespace Ta
open PySem PySem.Spec PyProof.Rows L2

/-! ### shortlex -/
def bfr (a b : List Nat) : Bool := decide (a.length < b.length) || (decide (a.length = b.length) && decide (a < b))
theorem rising_pw : ∀ (l : List Str) (a : Str), risingS a l = true → (l.Pairwise fun x y => tl x ≤ tl y) ∧ ∀ b ∈ l, tl a ≤ tl b
  | [], a, _ => ⟨.nil, fun _ h => nomatch h⟩
  | b :: l, a, h => by
    simp only [risingS, Bool.and_eq_true] at h
    obtain ⟨h1, h2⟩ := h
    obtain ⟨i1, i2⟩ := rising_pw l b h2
    have hab : tl a ≤ tl b := by
      have z : ltCps (tl b) (tl a) = false := by simpa using h1
      rw [ltCps_eq] at z
      exact List.not_lt.mp (of_decide_eq_false z)
    refine ⟨.cons i2 i1, fun c hc => ?_⟩
    rcases List.mem_cons.mp hc with rfl | hc
    · exact hab
    · exact List.le_trans hab (i2 c hc)
theorem sorted_pw {l : List Str} (h : sortedS l = true) (hn : l.Nodup) : l.Pairwise fun x y => tl x < tl y := by
  have h1 : l.Pairwise fun x y => tl x ≤ tl y := by
    cases l with
    | nil => exact .nil
    | cons a l => exact .cons (rising_pw l a h).2 (rising_pw l a h).1
  exact (List.Pairwise.and h1 hn).imp fun {x y} z => by
    refine Decidable.byContradiction fun hc => z.2 (ext_tl (List.le_antisymm z.1 (List.not_lt.mp hc)))
theorem sub_cons2 {α : Type} {a b x : α} {l : List α} (h : [a, b].Sublist (x :: l)) : [a, b].Sublist l ∨ (a = x ∧ b ∈ l) := by
  cases h with
  | cons _ h => exact .inl h
  | cons_cons _ h => exact .inr ⟨rfl, List.singleton_sublist.mp h⟩
theorem sub_anti {α : Type} {a b : α} : ∀ {l : List α}, l.Nodup → [a, b].Sublist l → [b, a].Sublist l → False
  | [], _, h, _ => by cases h
  | x :: l, hn, h, h' => by
    obtain ⟨n1, n2⟩ := List.nodup_cons.mp hn
    rcases sub_cons2 h with h | ⟨rfl, hb⟩
    · rcases sub_cons2 h' with h' | ⟨e, ha⟩
      · exact sub_anti n2 h h'
      · exact n1 (e ▸ h.subset (List.mem_cons_of_mem _ List.mem_cons_self))
    · rcases sub_cons2 h' with h' | ⟨e, ha⟩
      · exact n1 (h'.subset (List.mem_cons_of_mem _ List.mem_cons_self))
      · exact n1 ha
theorem sub_or {α : Type} {a b : α} : ∀ {l : List α}, a ∈ l → b ∈ l → a ≠ b → [a, b].Sublist l ∨ [b, a].Sublist l
  | x :: l, ha, hb, hne => by
    rcases List.mem_cons.mp ha with e1 | ha2
    · rcases List.mem_cons.mp hb with e2 | hb2
      · exact absurd (e1.trans e2.symm) hne
      · exact .inl (e1 ▸ .cons_cons _ (List.singleton_sublist.mpr hb2))
    · rcases List.mem_cons.mp hb with e2 | hb2
      · exact .inr (e2 ▸ .cons_cons _ (List.singleton_sublist.mpr ha2))
      · exact (sub_or ha2 hb2 hne).imp (.cons _) (.cons _)
theorem slen_perm (l : List Str) : (slen l).Perm l := List.mergeSort_perm _ _
theorem len_tr (a b c : Str) (h1 : decide (a.length ≤ b.length) = true) (h2 : decide (b.length ≤ c.length) = true) : decide (a.length ≤ c.length) = true := by
  simp at *; omega
theorem len_tt (a b : Str) : (decide (a.length ≤ b.length) || decide (b.length ≤ a.length)) = true := by
  simp; omega
theorem slen_ord {l : List Str} (h : sortedS l = true) (hn : l.Nodup) : (slen l).Pairwise fun x y => bfr (tl x) (tl y) = true := by
  have hp := slen_perm l
  have hn2 : (slen l).Nodup := hp.nodup_iff.mpr hn
  have h1 := sorted_pw h hn
  have h2 : (slen l).Pairwise fun a b => decide (a.length ≤ b.length) = true := List.pairwise_mergeSort len_tr len_tt l
  rw [List.pairwise_iff_forall_sublist] at h1 h2 ⊢
  intro a b hs
  have hle := of_decide_eq_true (h2 hs)
  rw [len_tl, len_tl] at hle
  unfold bfr
  by_cases hlt : (tl a).length < (tl b).length
  · rw [decide_eq_true hlt]; rfl
  · have he : (tl a).length = (tl b).length := by omega
    rw [decide_eq_false hlt, decide_eq_true he]
    have hne : a ≠ b := fun e => by
      subst e
      exact sub_anti hn2 hs hs
    have ha : a ∈ l := hp.mem_iff.mp (hs.subset (by simp))
    have hb : b ∈ l := hp.mem_iff.mp (hs.subset (by simp))
    rcases sub_or ha hb hne with z | z
    · rw [decide_eq_true (h1 z)]; rfl
    · exfalso
      have : [b, a].Sublist (slen l) := List.pair_sublist_mergeSort len_tr len_tt (decide_eq_true (by rw [len_tl, len_tl]; omega)) z
      exact sub_anti hn2 hs this
theorem pf_len {α : Type} {l m : List α} (hn : l.Nodup) (hs : ∀ c ∈ l, c ∈ m) : l.length ≤ m.length := by
  classical
  induction l generalizing m with
  | nil => exact Nat.zero_le _
  | cons a l ih =>
    obtain ⟨h1, h2⟩ := List.nodup_cons.mp hn
    have ha := hs a List.mem_cons_self
    obtain ⟨s, t, rfl⟩ := List.append_of_mem ha
    have := ih (m := s ++ t) h2 fun c hc => by
      have := hs c (List.mem_cons_of_mem _ hc)
      simp only [List.mem_append, List.mem_cons] at this ⊢
      rcases this with z | z | z
      · exact .inl z
      · exact absurd (z ▸ hc) h1
      · exact .inr z
    simp only [List.length_append, List.length_cons] at this ⊢
    omega
structure slx (us zs : List (List Nat)) : Prop where
  sub : ∀ z ∈ zs, z ∈ us
  all : ∀ u ∈ us, u ∈ zs
  ord : zs.Pairwise fun a b => bfr a b = true
  nd : zs.length ≤ us.length
theorem slx_of {us : List (List Nat)} {ys : List Str} (h : sortedS ys = true) (hn : ys.Nodup) (hm : ∀ y, y ∈ ys ↔ y ∈ us.map S) : slx us ((slen ys).map tl) := by
  have hp := slen_perm ys
  refine ⟨fun z hz => ?_, fun u hu => ?_, ?_, ?_⟩
  · obtain ⟨y, hy, rfl⟩ := List.mem_map.mp hz
    obtain ⟨u, hu, e⟩ := List.mem_map.mp ((hm y).mp (hp.mem_iff.mp hy))
    rw [← e]; exact hu
  · exact List.mem_map.mpr ⟨S u, hp.mem_iff.mpr ((hm _).mpr (List.mem_map.mpr ⟨u, hu, rfl⟩)), rfl⟩
  · exact List.Pairwise.map _ (fun a b h => h) (slen_ord h hn)
  · rw [List.length_map, hp.length_eq]
    have := pf_len hn fun y hy => (hm y).mp hy
    rwa [List.length_map] at this
theorem ksl_slen (ys : List Str) : (slen ys).map V.str = ((slen ys).map tl).map fun k => V.str (S k) := by
  rw [List.map_map]; congr 1
/-! ### the first places of signs in order -/
theorem fnd_lt : ∀ {sg : List Nat}, sg.Pairwise (· < ·) → ∀ {c d : Nat}, c ∈ sg → d ∈ sg → (fnd c sg < fnd d sg ↔ c < d)
  | sg, hp, c, d, hc, hd => by
    have key : ∀ {sg : List Nat}, sg.Pairwise (· < ·) → ∀ {c d : Nat}, c ∈ sg → d ∈ sg → c < d → (bef c sg).length < (bef d sg).length := by
      intro sg
      induction sg with
      | nil => intro _ c d hc; cases hc
      | cons a sg ih =>
        intro hp c d hc hd hlt
        obtain ⟨h1, h2⟩ := List.pairwise_cons.mp hp
        rcases List.mem_cons.mp hc with e | hc2
        · subst e
          have : ¬ c = d := by omega
          simp [bef, this]
        · rcases List.mem_cons.mp hd with e | hd2
          · have := h1 c hc2; omega
          · have e1 := h1 c hc2
            have e2 := h1 d hd2
            have n1 : ¬ a = c := by omega
            have n2 : ¬ a = d := by omega
            have := ih h2 hc2 hd2 hlt
            simp only [bef] at this ⊢
            simp [n1, n2]
            simpa using this
    have e1 : fnd c sg = ((bef c sg).length : Int) := if_pos hc
    have e2 : fnd d sg = ((bef d sg).length : Int) := if_pos hd
    rw [e1, e2]
    constructor
    · intro h
      refine Decidable.byContradiction fun hn => ?_
      rcases Nat.lt_or_eq_of_le (Nat.le_of_not_lt hn) with z | z
      · have := key hp hd hc z; omega
      · subst z; omega
    · intro h
      have := key hp hc hd h; omega
theorem fnd_ge {c : Nat} {sg : List Nat} (h : c ∈ sg) : 0 ≤ fnd c sg := by
  have e1 : fnd c sg = ((bef c sg).length : Int) := if_pos h
  rw [e1]; omega
theorem fnd_in {c : Nat} {sg : List Nat} (h : 0 ≤ fnd c sg) : c ∈ sg := by
  refine Decidable.byContradiction fun hn => ?_
  have e1 : fnd c sg = -1 := if_neg hn
  rw [e1] at h; omega
theorem fnd_m1 (c : Nat) (sg : List Nat) : -1 ≤ fnd c sg := by
  unfold fnd; split <;> omega
/-! ### texts in ascending order -/
theorem dd_id {l : List Nat} : l.Pairwise (· < ·) → l.eraseDups = l := by
  induction l with
  | nil => intro _; rfl
  | cons a l ih =>
    intro h
    obtain ⟨h1, h2⟩ := List.pairwise_cons.mp h
    rw [List.eraseDups_cons]
    have e : l.filter (fun b => !b == a) = l := by
      rw [List.filter_eq_self]
      intro b hb
      have := h1 b hb
      have : b ≠ a := by omega
      simp [this]
    rw [e, ih h2]
theorem pw_srt {l : List Nat} : srt l.eraseDups = l ↔ l.Pairwise (· < ·) := by
  constructor
  · intro h
    have hp := srt_pw l.eraseDups
    have hn : (srt l.eraseDups).Nodup := (srt_perm _).nodup_iff.mpr (nd_dups l)
    rw [h] at hp hn
    exact (List.Pairwise.and hp hn).imp fun {x y} z => by omega
  · intro h
    rw [dd_id h]
    exact (srt_uniq (List.Perm.refl l) (h.imp fun z => Nat.le_of_lt z)).symm
theorem srt_lt {l : List Nat} (h : l.Nodup) : (srt l).Pairwise (· < ·) :=
  (List.Pairwise.and (srt_pw l) ((srt_perm l).nodup_iff.mpr h)).imp fun {x y} z => by omega
theorem srt_flt {l v : List Nat} (hl : l.Nodup) (hv : v.Nodup) (hs : ∀ c ∈ v, c ∈ l) : (srt l).filter (fun c => decide (c ∈ v)) = srt v := by
  refine srt_uniq ?_ ((srt_pw l).filter _)
  refine (List.perm_ext_iff_of_nodup (List.Pairwise.filter _ ((srt_perm l).nodup_iff.mpr hl)) hv).mpr fun c => ?_
  rw [List.mem_filter, (srt_perm l).mem_iff, decide_eq_true_eq]
  exact ⟨fun h => h.2, fun h => ⟨hs c h, h⟩⟩
theorem itm_all {α : Type} {xs : List α} {i : Int} {k : α → Prop} (P : α → Prop) (h0 : 0 ≤ i) (h1 : i < (xs.length : Int)) (hP : ∀ x ∈ xs, P x) (q : ∀ x, P x → k x) : itm xs i k :=
  itm_s h0 h1 fun j hj _ => q _ (hP _ (List.getElem_mem hj))
theorem itm_k {ks : List (List Nat)} {i : Int} {k : V → Prop} (h0 : 0 ≤ i) (h1 : i < (ks.length : Int)) (q : ∀ (j : Nat) (hj : j < ks.length), i = (j : Int) → k (.str (S ks[j]))) : itm (ks.map fun k => V.str (S k)) i k := by
  refine itm_s h0 (by rw [List.length_map]; exact h1) fun j hj e => ?_
  rw [List.length_map] at hj
  rw [List.getElem_map]
  exact q j hj e
theorem flat_k : ∀ ks : List (List Nat), (ks.map fun k => V.str (S k)).all flatV = true
  | [] => rfl
  | k :: ks => by rw [List.map_cons, List.all_cons, flat_k ks]; rfl
theorem inV_k (a : List Nat) (ks : List (List Nat)) : inV (.str (S a)) (ks.map fun k => V.str (S k)) = decide (a ∈ ks) := by
  have h := inV_str (S a) (ks.map S)
  rw [List.map_map] at h
  refine h.trans (decide_eq_decide.mpr ?_)
  rw [List.mem_map]
  exact ⟨fun ⟨b, hb, e⟩ => by have : b = a := congrArg tl e; exact this ▸ hb, fun h => ⟨a, h, rfl⟩⟩
theorem lt_app {x y : Nat} {s t : List Nat} (h : x ≠ y) : ∀ p : List Nat, (p ++ x :: s < p ++ y :: t ↔ x < y)
  | [] => by
    rw [List.nil_append, List.nil_append, List.cons_lt_cons_iff]
    exact ⟨fun z => z.resolve_right fun w => h w.1, .inl⟩
  | c :: p => by
    rw [List.cons_append, List.cons_append, List.cons_lt_cons_iff, lt_app h p]
    exact ⟨fun z => z.elim (fun w => absurd w (Nat.lt_irrefl _)) (·.2), fun z => .inr ⟨rfl, z⟩⟩
theorem cut_at {l : List Nat} {i : Nat} (h : i < l.length) : l = l.take i ++ l[i] :: l.drop (i + 1) := by
  rw [← List.drop_eq_getElem_cons h, List.take_append_drop]
theorem pw_at {l : List Nat} {i c : Nat} (hp : l.Pairwise (· < ·)) (h : i < l.length) (hc : c ∈ l.take i) : c < l[i] := by
  rw [cut_at h, List.pairwise_append] at hp
  exact hp.2.2 c hc _ List.mem_cons_self
end Ta

set_option Elab.async false
set_option linter.all false
set_option maxRecDepth 100000
set_option maxHeartbeats 1000000
namespace Ta
open PySem PySem.Spec PyProof.Rows L2 ClX

/-! ### at a def's code: super().m(..) of an own class -/
structure PAt (X : Cx) (body sts : List Stmt) (t : TS) : Prop where
  run : ∀ (pins : List (Addr × Obj)) (s : Shared) (σ : St) (H : Hp) (D : Ends), Inv X pins σ H s → t D σ H → PySem.wpAt (model X.prog X.w) X.A (.func body X.env) (execs sts X.env) (SP X pins D) X.xe s
structure PAs (X : Cx) (body : List Stmt) (st : Stmt) (t : TS) : Prop where
  run : ∀ (pins : List (Addr × Obj)) (s : Shared) (σ : St) (H : Hp) (D : Ends), Inv X pins σ H s → t D σ H → PySem.wpAt (model X.prog X.w) X.A (.func body X.env) (exec st X.env) (SP X pins D) X.xe s
structure PAe (X : Cx) (body : List Stmt) (e : Expr) (t : TE) : Prop where
  run : ∀ (pins : List (Addr × Obj)) (s : Shared) (σ : St) (H : Hp) (Q : VK), Inv X pins σ H s → t σ H Q → PySem.wpAt (model X.prog X.w) X.A (.func body X.env) (eval e X.env) (EP X pins σ Q) X.xe s
section
variable {X : Cx} {body sts rest : List Stmt} {st : Stmt} {t u : TS} {e : Expr} {te : TE} {pos : Pos}
theorem pat_of (h : PSs X sts t) : PAt X body sts t := ⟨fun pins s σ H D I q => PySem.wpAt_of_wpAny (h.run pins s σ H D I q)⟩
theorem pas_of (h : PS X st t) : PAs X body st t := ⟨fun pins s σ H D I q => PySem.wpAt_of_wpAny (h.run pins s σ H D I q)⟩
theorem pat_cons (h : PAs X body st t) (hr : PAt X body rest u) : PAt X body (st :: rest) (tSeq t u) := by
  refine ⟨fun pins s σ H D I q => ?_⟩
  refine PySem.ks_wpAt_execs_cons (PySem.ks_wpAt_mono (h.run pins s σ H _ I q) (fun f s1 h1 => ?_) fun _ _ z => z)
  cases f with
  | next =>
    obtain ⟨σ1, H1, I1, q1⟩ := h1
    exact hr.run pins s1 σ1 H1 D I1 q1
  | ret v => exact h1
  | brk => exact h1
  | cont => exact h1
theorem pat_imp {t' : TS} (h : PAt X body sts t) (i : ∀ D σ H, t' D σ H → t D σ H) : PAt X body sts t' := ⟨fun pins s σ H D I q => h.run pins s σ H D I (i D σ H q)⟩
theorem pas_expr (h : PAe X body e te) (hi : interactive X.env = false := by rfl) (hs : swapsWith e none pos.line X.env = pure false := by rfl) : PAs X body (.Expr e pos) (tDrop te) := by
  refine ⟨fun pins s σ H D I q => ?_⟩
  refine PySem.ks_wpAt_Expr_any (PySem.ks_wpAt_mono (h.run pins s σ H _ I q) (fun v s1 h1 => ?_) fun _ _ z => z) hi hs
  obtain ⟨x, H1, I1, r1, q1⟩ := h1
  exact ⟨σ, H1, I1, q1⟩
/-- what super().m is for an object of class C, said in a def of class D -/
structure Su (P : Program) (w : World) (K : PySem.W.Frag) (mg : Str → Option Value) (base : Heap) (D C : Addr) (m : Str) (lv : Nat) (dvs : List V) (sp : Sp) : Prop where
  ex : ∃ (f : Addr) (fd : FuncData) (ps : List Str) (ds : List Value), FnOk P w K mg base (L2.CX P w) lv f fd ps sp ∧ PySem.W.ks_superIn K C D m = some (some (.ref f)) ∧ PySem.W.typeIn K (.ref f) = some (.type "function") ∧ PySem.W.fnIn K f = true ∧ Vals dvs ds ∧ Binds K fd ps ds
  sub : PySem.W.mroIn K C (.ref D) = some true
  third : PySem.W.nsIn K cStatics "thirdparty.any" = some none
theorem nocls_of {h : Heap} {x C : Addr} {ox : Obj} {od : Option Obj} (J : PySem.W.InstAt h x ox C od) : ∀ c, ox.data ≠ .cls c := fun c z => by
  have := J.no
  unfold PySem.W.notCls at this
  rw [z] at this
  cases this
theorem psup {f D : Addr} {F : NdefX.NF} {dvs : List V} {fd : FuncData} {ms : MS} {m : Str} {lv i : Nat} {W : WX} {t : TA} {p0 p1 p2 p3 : Pos} {es : List Expr} {ar : Arg} {pl : Sem Bool} (SF : SupFn X.prog X.K f F D dvs fd) (hE : X.env = NdefX.envF F f X.env.locals)
    (hsup : X.mg "super" = none) (hp : (F.params.posonlyargs ++ F.params.args).head? = some ar) (hN : X.N[i]? = some ar.arg) (hka : F.scope.names.lookup ar.arg = some .local)
    (hks : F.scope.names.lookup ("super" : Str) = some .globalImplicit) (hkc : F.scope.names.lookup ("__class__" : Str) = some .free) (hk : F.scope.kind = .function) (hmc : (m == ("__class__" : Str)) = false)
    (hms : ∀ e ∈ ms, Su X.prog X.w X.K X.mg X.base D e.1 m lv e.2.1 e.2.2) (hr : Room lv X.A) (tk : Takes X W) (ha : PA X (e :: es) t)
    (hst : starEach (e :: es) X.env = (false, eval e X.env) :: starEach es X.env := by rfl) (hpl : (backTo p3 (starEach es X.env)).any (·.1) = false := by rfl)
    (he : eval (.Call (.Attribute (.Call (.Name "super" p0) [] [] p1) m p2) (e :: es) [] p3) X.env = (do
      let ov ← attributeBase (.Call (.Name "super" p0) [] [] p1) m X.env (eval (.Call (.Name "super" p0) [] [] p1) X.env)
      standAt p2.atName
      let (f, first) ← holding [ov] (getMethod ov m pl)
      callWith p3 f first (backTo p3 (starEach (e :: es) X.env)) []) := by rfl) :
    PAe X F.body (.Call (.Attribute (.Call (.Name "super" p0) [] [] p1) m p2) (e :: es) [] p3) (tMe ms m W (tV i) t) := by
  refine ⟨fun pins s σ H Q I h => ?_⟩
  have hV : ∃ x, σ[i]? = some (some x) ∧ (fun x H1 => match x with
      | .ref a => look H1 a fun o => (match o with
        | some (.ins C dx fs) => pick ms C fun dvs sp => fs.lookup m = none ∧ t σ H1 fun vs H2 => sp (.ref a :: (vs ++ dvs)) H2 Q fun c d H' => W c d σ H'
        | _ => False)
      | _ => False) x H := by
    obtain ⟨x, e1, e2⟩ := tV_e h
    exact ⟨x, e1, e2⟩
  obtain ⟨x, hσ, q⟩ := hV
  cases x with
  | ref a =>
    obtain ⟨C, dx, fs, ea, en, hen, eC, l, q⟩ := tMe_e (k := fun dvs sp fs => fs.lookup m = none ∧ t σ H fun vs H2 => sp (.ref a :: (vs ++ dvs)) H2 Q fun c d H' => W c d σ H') q
    obtain ⟨⟨g, gd, ps, ds, FO, hsi, hty, hfn, hvd, hb⟩, hsub, h3⟩ := hms en hen
    subst eC
    obtain ⟨mA, O, _⟩ := ins_get I.hok ea
    obtain ⟨od, J, _⟩ := O.look
    have hnc := nocls_of J
    refine PySem.ks_wpAt_MethodCall (pl := pl) (sup_base SF hE I hsup hp i hN hσ hka J.at_ J.cls hnc hsub hks hkc hk hmc fun so s1 hso kp I1 => ?_) he
    have KX1 : X.K.In s1.heap := I1.kIn
    unfold PySem.W.ks_superIn at hsi
    cases hcl : PySem.W.clsIn X.K en.1 with
    | none => rw [hcl] at hsi; cases hsi
    | some cd =>
      rw [hcl] at hsi
      obtain ⟨of, hof, hofc⟩ : ∃ of, s1.heap.get? g = some of ∧ of.cls = .type "function" := by
        have ht : (X.K.lookup g).map (·.cls) = some (.type "function") := hty
        cases z : X.K.lookup g with
        | none => rw [z] at ht; cases ht
        | some of => rw [z] at ht; exact ⟨of, KX1 _ _ z, Option.some.inj ht⟩
      have hxC : a ≠ en.1 := PySem.W.ks_ne I.kIn J hcl
      obtain ⟨h1, g1, d1, t1', os1⟩ := s1
      refine PySem.ks_wpAny_getMethod_super hso (PySem.W.looks_opaque KX1 h3) (l₀ := cd.mro) ?_ rfl KX1 hsi hof hofc hxC hmc ?_
      · exact fun A Q E s k q => wpAny_bind ((PySem.W.looks_clsIn KX1 hcl) A _ E s k (wpAny_pure q))
      · have I2 : Inv X ((h1.objs.size, PySem.W.methodObj (.ref g) (.ref a)) :: pins) σ H ⟨h1.push (PySem.W.methodObj (.ref g) (.ref a)), g1, d1, t1' + 1, os1⟩ :=
          pin_new I1 (fun _ _ z => Heap.get?_push_of_some _ z) (Nat.le_refl _) (Heap.get?_push_size h1 rfl) (fun v z => nomatch z)
        have hq := pin_at I2
        have hb0 : X.base.get? h1.objs.size = none := base_none I1 (Nat.le_refl _)
        have hL : h1.objs.size ≠ X.env.locals := (I2.pin (h1.objs.size, PySem.W.methodObj (.ref g) (.ref a)) (List.mem_append_right _ List.mem_cons_self)).2.2.1
        refine PySem.W.callWith_M (K := X.K) (h₀ := X.base) (first := []) I.ok.mod.kin (news_at hL hb0 hq) List.mem_cons_self hfn (thn (ha.run p3 _ _ σ H _ I2 q) fun us s2 hv => ?_) hst hpl
        obtain ⟨vs, H2, I3, r, q2⟩ := hv
        refine ⟨⟨pin_at I3, I3.kIn⟩, ?_⟩
        have r2 : Vals ((.ref a :: vs) ++ en.2.1) ((.ref a :: us) ++ ds) := L2.Vals.append (Paired.cons rfl r) hvd
        have hl : ((.ref a :: us) ++ ds).length = ps.length := by rw [← r2.length]; exact FO.len _ _ _ _ q2
        have z : wpAny (model X.prog X.w) X.A (call (.ref h1.objs.size) us) (EP X ((h1.objs.size, PySem.W.methodObj (.ref g) (.ref a)) :: pins) σ Q) X.xe s2 := by
          refine wpAny_call (PySem.W.method_call (pin_at I3) (codeAny_mono (FO.run X.A X.stack s2 H2 ⟨.ref a :: us, []⟩ ((.ref a :: us) ++ ds) ((.ref a :: vs) ++ en.2.1) Q (WE W σ) hr I3.env0 (hb s2 (.ref a :: us) I3.kIn hl) r2 q2) fun r s' hq => ?_))
          cases r with
          | error er => exact passAt tk σ _ _ _ er s' I3 hq
          | ok fl =>
            cases fl with
            | ret u => exact I3.after hq
            | next => exact False.elim hq
            | brk => exact False.elim hq
            | cont => exact False.elim hq
        exact thn z fun _ _ y => unpinE y
  | _ => exact False.elim q
end
section
variable {P : Program} {w : World} {K : PySem.W.Frag} {mg : Str → Option Value} {base : Heap}
theorem fn_supA {f D : Addr} {F : NdefX.NF} {fd : FuncData} {N ps : List Str} {sp : Sp} {k : Nat} {dvs : List V} (SF : SupFn P K f F D dvs fd) (S : NdefX.NScope N ps ["__class__"] F.scope)
    (len : ∀ vs H Q E, sp vs H Q E → vs.length = ps.length)
    (t : WX → TS) (term : ∀ (A : Around) (outer : List Env) (s : Shared) (H : Hp) (E : XK), Room k (A.deeper (NdefX.envF F f s.heap.objs.size)) → PAt (NdefX.ncx (L2.CX P w) P w K mg base N F f A outer s H E) F.body F.body (t (WD E)))
    (rd : ∀ vs H Q E, sp vs H Q E → t (WD E) (EndD Q) (NdefX.startF N vs [some (.ref D)]) H) :
    FnOk P w K mg base (L2.CX P w) (k + 1) f fd ps sp := by
  obtain ⟨cc, oc, od, an, dV, kV, doc, pm, ct, osl, hcl, rfl, lk, hD, cl, cld, csl, hcell⟩ := SF.ex
  refine ⟨len, fun A outer s H args us vs Q E hr e0 hb r hsp => ?_⟩
  have hl := len _ _ _ _ hsp
  have KX : K.In s.heap := e0.mod.kin.keeps fun b o e => (e0.bs b o e).1
  have lim : s.heap.NoLimit := e0.mod.nolimit.keeps fun b o e => (e0.bs b o e).1
  have C : NdefX.CellsAt F.cl ["__class__"] [some (.ref D)] s.heap H := by
    rw [hcl]
    have hK : ∀ y c, ([("__class__", cc)] : List (Str × Addr)).lookup y = some c → y = "__class__" ∧ c = cc := fun y c e => by
      simp only [List.lookup] at e
      split at e
      · rename_i hb; cases e; exact ⟨eq_of_beq hb, rfl⟩
      · cases e
    refine ⟨rfl, fun y c e => ?_, fun x y c e1 e2 => (hK x c e1).1.trans (hK y c e2).1.symm, fun i y e => ?_⟩
    · obtain ⟨_, rfl⟩ := hK y c e
      exact ⟨(e0.bs _ _ (e0.mod.kin _ _ hcell)).2, _, _, KX _ _ hcell, rfl⟩
    · cases i with
      | zero =>
        have e' : y = "__class__" := by simpa using e.symm
        subst e'
        refine ⟨cc, by simp [List.lookup], fun v hv => ?_⟩
        have hv' : V.ref D = v := by simpa using hv
        subst hv'
        exact ⟨.ref D, rfl, _, KX _ _ hcell, rfl⟩
      | succ i => simp at e
  refine PySem.ks_codeAny_call_defAt hr.depth (KX _ _ lk) rfl lim (PySem.W.codeRec_of KX SF.cd) (body := F.body) rfl hb S.nocell (fun ⟨n, v⟩ hy => S.par n (List.of_mem_zip hy).1) (fun h₁ hns kp => ?_) S.co S.gen S.kind
  have ht := term A outer s H E (hr.deeper _)
  have hq := rd _ _ _ _ hsp
  have I : Inv (NdefX.ncx (L2.CX P w) P w K mg base N F f A outer s H E) [] (NdefX.startF N vs [some (.ref D)]) H { s with heap := h₁, toks := s.toks + (ps.zip us).length } := NdefX.inv_startN S hr.hd e0 hl r C hns kp
  have fin : ∀ {s' : Shared} {σ' : L2.St} {H' : Hp} {v : V} {u : Value}, Inv (NdefX.ncx (L2.CX P w) P w K mg base N F f A outer s H E) [] σ' H' s' → RelV v u → Q v H' → CE outer P w H s Q u s' :=
    fun {s' σ' H' v u} J rv q => ⟨v, H', J.os, J.bare, J.base, J.hok, rv, q⟩
  have key : PySem.wpAt (model P w) (A.deeper (NdefX.envF F f s.heap.objs.size)) (.func F.body (NdefX.envF F f s.heap.objs.size)) (execs F.body (NdefX.envF F f s.heap.objs.size))
      (fun fl s' => CR (L2.CX P w) outer P w H s Q E (.ok (.ret (match fl with | .ret v => v | _ => .none))) s') (NdefX.ncx (L2.CX P w) P w K mg base N F f A outer s H E).xe { s with heap := h₁, toks := s.toks + (ps.zip us).length } := by
    refine PySem.ks_wpAt_mono (ht.run [] _ _ H _ I hq) (fun fl s2 h2 => ?_) fun _ _ z => z
    cases fl with
    | ret u =>
      obtain ⟨v, σ', H', J, rv, q⟩ := h2
      exact fin J rv q
    | next =>
      obtain ⟨σ', H', J, q⟩ := h2
      exact fin (v := V.non) (u := Value.none) J rfl q
    | brk =>
      obtain ⟨_, _, _, q⟩ := h2
      exact False.elim q
    | cont =>
      obtain ⟨_, _, _, q⟩ := h2
      exact False.elim q
  exact key
theorem takesN {N : List Str} {F : NdefX.NF} {f : Addr} {A : Around} {outer : List Env} {s : Shared} {H : Hp} {E : XK} :
    Takes (NdefX.ncx (L2.CX P w) P w K mg base N F f A outer s H E) (WD E) := takes_of rfl rfl rfl rfl
theorem ownN {N : List Str} {F : NdefX.NF} {f : Addr} {A : Around} {outer : List Env} {s : Shared} {H : Hp} {E : XK} :
    PassesOwn (model P w) (NdefX.ncx (L2.CX P w) P w K mg base N F f A outer s H E).A (NdefX.ncx (L2.CX P w) P w K mg base N F f A outer s H E).env (NdefX.ncx (L2.CX P w) P w K mg base N F f A outer s H E).xe := PassesOwn.leaving
end
end Ta

set_option Elab.async false
set_option linter.all false
set_option maxRecDepth 100000
set_option maxHeartbeats 1000000
namespace Ta
open PySem PySem.Spec PyProof.Rows L2

/-! ### x[::-1] -/
section
variable {X : Cx} {e : Expr} {te : TE}
theorem rev_made (x : Str) (t u : Tok) : sliceMade x t none none (some (-1, u)) = .str (S (tl x).reverse) := by
  have e : slicePicked x none none (some (-1, u)) = (List.range x.length).reverse := by
    show Builtin.Str.strSliceIndices none none (-1) x.length = _
    show sliceRange ((x.length : Int) - 1) (-1) (-1) = _
    rw [PySem.W.krv_sliceRange, PySem.W.krv_range]
  unfold sliceMade
  rw [if_neg (by simp)]
  rw [e, List.filterMap_reverse]
  have h : (List.range x.length).filterMap (x.cps[·]?) = tl x := PySem.W.krv_all x.cps
  rw [h]
def tRev (te : TE) : TE := fun σ H Q => te σ H fun x H1 => match x with
  | .str z => (tl z).length ≤ 1000000 ∧ Q (.str (S (tl z).reverse)) H1
  | .ref a => look H1 a fun o => (match o with
    | some (.lst xs) => ∀ p, H1 p = none → Q (.ref p) (upd H1 p (.lst xs.reverse))
    | _ => False)
  | _ => False
theorem prev {k : Nat} {p1 p2 p3 pos : Pos} (he : PE X e te) : PE X (.Subscript e (.Slice none none (some (.UnaryOp .USub (.Constant (.int 1) k p1) p2)) p3) pos) (tRev te) := by
  refine ⟨fun pins s σ H Q I h => ?_⟩
  refine Subscript_ (thn (he.run pins s σ H _ I h) fun v s1 hv => ?_)
  obtain ⟨x, H1, I1, r1, q1⟩ := hv
  have hneg : PO X (some (.UnaryOp .USub (.Constant (.int 1) k p1) p2)) (tPart (tUn (rU fun i => .int (-i)) (tC (.int 1)))) := po_some (pe_un un_neg pe_int)
  refine wpAny_Slice (thn (po_none.run pins s1 σ H1 (fun o H2 => o = none ∧ H2 = H1) I1 ⟨rfl, rfl⟩) fun lo s2 h2 => ?_)
  obtain ⟨l, H2, I2, pl, el, e2⟩ := h2
  subst el e2
  refine thn (po_none.run pins s2 σ H2 (fun o H3 => o = none ∧ H3 = H2) I2 ⟨rfl, rfl⟩) fun hi s3 h3 => ?_
  obtain ⟨u, H3, I3, pu, eu, e3⟩ := h3
  subst eu e3
  refine thn (hneg.run pins s3 σ H3 (fun o H4 => o = some (-1) ∧ H4 = H3) I3 ⟨1, rfl, -1, rfl, rfl, rfl⟩) fun vs s4 h4 => ?_
  obtain ⟨o, H4, I4, ps, eo, e4⟩ := h4
  subst eo e4
  have I5 : Inv X pins σ H4 { s4 with heap := s4.heap.push { cls := .type "slice", data := .fields #[lo, hi, vs] } } := I4.kept (t' := s4.toks) fun b oo q => Heap.get?_push_of_some _ q
  cases x with
  | str z =>
    obtain ⟨hzz, q⟩ := q1
    obtain ⟨t, rfl⟩ := r1
    obtain ⟨u, rfl⟩ : ∃ u, vs = Value.int (-1) u := by
      cases ps with
      | int i u => exact ⟨u, rfl⟩
    cases pl
    cases pu
    show wpAny (model X.prog X.w) X.A (subscriptTail e (.Slice none none (some (.UnaryOp .USub (.Constant (.int 1) k p1) p2)) p3) (.str z t) (.ref s4.heap.objs.size)) (EP X pins σ Q) X.xe { s4 with heap := s4.heap.push { cls := .type "slice", data := .fields #[.none, .none, .int (-1) u] } }
    refine tail_any (ops := [.str z t, .ref s4.heap.objs.size]) (typeIs_str _ z t) (PySem.F.slot_str_getitem.lookup) ?_ (by with_unfolding_all rfl)
    refine wpAny_getItem_str_slice (l := none) (u := none) (st := some (-1, u)) ⟨_, Heap.get?_push_size _ rfl, rfl, rfl⟩ rfl ?_
    rw [rev_made]
    exact ⟨by rw [len_tl]; show (tl z).reverse.length ≤ _; rw [List.length_reverse, sizeLine_eq]; omega, .str (S (tl z).reverse), H4, I5.tok _, ⟨_, rfl⟩, q⟩
  | ref a =>
    have q1 := look_e q1
    cases ea : H4 a with
    | none => rw [ea] at q1; exact q1.elim
    | some oo =>
      rw [ea] at q1
      cases oo with
      | lst xs =>
        cases r1
        have hx : SqL X.K H4 a xs := SqL.of ea
        obtain ⟨us, rr, hus, hzz⟩ := I5.list hx
        have hul := rr.length
        show wpAny (model X.prog X.w) X.A (subscriptTail e (.Slice none none (some (.UnaryOp .USub (.Constant (.int 1) k p1) p2)) p3) (.ref a) (.ref s4.heap.objs.size)) (EP X pins σ Q) X.xe { s4 with heap := s4.heap.push { cls := .type "slice", data := .fields #[lo, hi, vs] } }
        refine tail_any (ops := [.ref a, .ref s4.heap.objs.size]) hus.isList.typeIs (PySem.slot_list_getitem.lookup) ?_ (by with_unfolding_all rfl)
        refine wpAny_getItem_list_slice hus.isList (Heap.IsSliceOf.new _ lo hi vs) pl pu ps (by decide) ?_ (by rw [List.size_toArray]; omega)
        rw [PySem.W.krv_pick]
        refine ⟨.ref _, _, I5.laid (t' := s4.toks) (o := .lst xs.reverse) (fun b oo q => Heap.get?_push_of_some _ q) (Nat.le_refl _) ?_, rfl, q1 _ (I5.hok.fresh (Nat.le_refl _))⟩
        exact ⟨by rw [List.length_reverse]; exact hzz, _, 0, rr.reverse, Heap.get?_push_size _ rfl⟩
      | _ => exact q1.elim
  | _ => exact False.elim q1
end
end Ta

set_option Elab.async false
set_option linter.all false
set_option maxRecDepth 100000
set_option maxHeartbeats 1000000
namespace Ta
open PySem PySem.Spec PyProof.Rows L2

/-! ### x[i] += e (x a list) and name += e -/
section
variable {X : Cx}
def zGetL : V → V → Hp → VK → Prop := fun o i H Q => match o with
  | .ref p => (match i with
    | .int k => look H p fun ob => (match ob with
      | some (.lst xs) => itm xs k fun v => Q v H
      | _ => False)
    | _ => False)
  | _ => False
theorem getp : PGet X zGetL := by
  intro pins s σ H o i ov iv Q I ro ri h
  cases o with
  | ref p =>
    cases i with
    | int k =>
      have h := look_e h
      revert h
      cases e : H p with
      | none => exact fun h => h.elim
      | some ob =>
        cases ob with
        | lst xs =>
          intro h
          obtain ⟨z, he, q⟩ := itm_e h
          cases ro
          obtain ⟨t, rfl⟩ := ri
          obtain ⟨its, r, pl, hz⟩ := I.list (SqL.of (K := X.K) e)
          obtain ⟨j, h1, h2, h3, h4, h5⟩ := atI_get he
          obtain ⟨w, ew, rw'⟩ := r.get h2
          have hl := r.length
          have hn := line63
          have fin : EP X pins σ Q w s := ⟨z, H, I, rw', q⟩
          by_cases h0 : 0 ≤ k
          · have hj : k.toNat = j := by
              rw [seqIndex_of h0 h5] at h1
              exact Option.some.inj h1
            exact wpAny_getItem_list pl.isList h0 (by omega) (by rw [hj]; simpa using ew) fin
          · have hj : (k + (its.toArray.size : Int)).toNat = j := by
              rw [seqIndex_neg (by omega) h4] at h1
              rw [List.size_toArray, ← hl]
              exact Option.some.inj h1
            exact wpAny_getItem_list_neg pl.isList (by omega) (by rw [List.size_toArray] <;> omega) (by omega) (by rw [hj]; simpa using ew) fin
        | _ => exact fun h => h.elim
    | _ => exact h.elim
  | _ => exact h.elim
/-- ints, added in place -/
def zIadd : TIp := fun x y H Q => match x with
  | .int i => (match y with
    | .int j => Q (.int (i + j)) H
    | _ => False)
  | _ => False
theorem ipadd : PIp X .Add zIadd := by
  intro pins s σ H x y v u Q I r1 r2 h
  cases x with
  | int i => cases y with
    | int j => exact ip_add pins s σ H (.int i) (.int j) v u Q I r1 r2 ⟨i, j, rfl, rfl, h⟩
    | _ => exact h.elim
  | _ => exact h.elim
variable {o i e : Expr} {to ti te : TE} {tpos pos : Pos}
def tAugI (to ti te : TE) : TS := fun D σ H => to σ H fun o H1 => ti σ H1 fun i H2 => zGetL o i H2 fun x H3 => te σ H3 fun y H4 => zIadd x y H4 fun z H5 => zSetP o i z H5 fun H6 => D.nx σ H6
theorem psaugi (ho : PE X o to) (hi : PE X i ti) (he : PE X e te)
    (ha : ∀ ov iv new, augStore i ov iv new = (do holding [new, ov, iv] (setItem ov iv new); release [new, ov, iv] []; pure .next) := by intros; rfl) : PS X (.AugAssign (.Subscript o i tpos) .Add e pos) (tAugI to ti te) :=
  ps_augS ho hi getp he ipadd setp ha
def tAugN (i : Nat) (te : TE) : TS := fun D σ H => match σ[i]? with
  | some (some x) => te σ H fun y H1 => zIadd x y H1 fun z H2 => D.nx (σ.set i (some z)) H2
  | _ => False
theorem psaugn {i : Nat} {x : Str} {pos' : Pos} (hN : X.N.Nodup) (he : PE X e te) (hi : X.N[i]? = some x := by rfl) (hx : Loc X.env.scope x := by first | exact Or.inl rfl | exact Or.inr rfl) (hf : X.fn x = true ∨ X.env.scope.names.lookup x = some .local := by first | exact .inl rfl | exact .inr rfl | assumption) :
    PS X (.AugAssign (.Name x pos') .Add e pos) (tAugN i te) := by
  refine ⟨fun pins s σ H D I h => ?_⟩
  cases ex : σ[i]? with
  | none => unfold tAugN at h; rw [ex] at h; exact h.elim
  | some ov =>
    cases ov with
    | none => unfold tAugN at h; rw [ex] at h; exact h.elim
    | some v =>
      unfold tAugN at h; rw [ex] at h
      exact (ps_aug (pos := pos) hN hi hx he ipadd hf).run pins s σ H D I ⟨v, ex, h⟩
end
end Ta

set_option Elab.async false
set_option linter.all false
set_option maxRecDepth 100000
set_option maxHeartbeats 1000000
namespace Ta
open PySem PySem.Spec PyProof.Rows L2

/-! ### len of an instance of an own class -/
def zLenO (C : Addr) (sp : Sp) : List V → Hp → VK → Prop := fun xs H Q => one xs fun x => match x with
  | .ref a => look H a fun o => (match o with
    | some (.ins C1 dx fs) => C1 = C ∧ sp [.ref a] H (fun v H' => match v with
      | .int i => 0 ≤ i ∧ i < 4611686018427387904 ∧ Q (.int i) H'
      | _ => False) fun _ _ _ => False
    | _ => False)
  | _ => False
section
variable {X : Cx}
/-- a call from within a builtin -/
theorem run_in1 {k : Nat} {f : Addr} {fd : FuncData} {ps : List Str} {sp : Sp} {ds : List Value} {dvs : List V} {E : St → XK} {CX : CXT} {pins : List (Addr × Obj)} {σ : St} {H : Hp} {s : Shared} {Q : VK} {us : List Value} {vs : List V} (F : FnOk X.prog X.w X.K X.mg X.base CX k f fd ps sp) (hr : Room (k + 1) X.A) (hb : Binds X.K fd ps ds) (hd : Vals dvs ds) (hx : PassesAt CX X σ (E σ))
    (I : Inv X pins σ H s) (r : Vals vs us) (h : sp (vs ++ dvs) H Q (E σ)) : wpAny (model X.prog X.w) X.A.in1 (call (.ref f) us) (EP X pins σ Q) X.xe s := by
  have r2 : Vals (vs ++ dvs) (us ++ ds) := r.append hd
  have hl : (us ++ ds).length = ps.length := by rw [← r2.length]; exact F.len _ _ _ _ h
  refine wpAny_call (codeAny_mono (F.run X.A.in1 X.stack s H ⟨us, []⟩ (us ++ ds) (vs ++ dvs) Q (E σ) hr.in1 I.env0.in1 (hb s us I.kIn hl) r2 h) fun r s' hq => ?_)
  cases r with
  | error e => exact hx pins H s e s' I hq
  | ok fl =>
    cases fl with
    | ret u => exact I.after hq
    | next => exact False.elim hq
    | brk => exact False.elim hq
    | cont => exact False.elim hq
theorem crlenO {C : Addr} {lv : Nat} {sp : Sp} (M : Me X.prog X.w X.K X.mg X.base C "__len__" lv [] sp) (hr : Room (lv + 1) X.A) : CallR X (.builtin "len") (zLenO C sp) := by
  intro pins s σ H xs us Q I r h
  obtain ⟨x, rfl, h⟩ := one_e h
  obtain ⟨u, rfl, rx⟩ := vals1 r
  cases x with
  | ref a =>
    have h := look_e h
    cases ea : H a with
    | none => rw [ea] at h; exact h.elim
    | some o =>
      rw [ea] at h
      cases o with
      | ins C1 dx fs =>
        obtain ⟨e1, h3⟩ := h
        subst e1
        cases rx
        obtain ⟨⟨f, fd, ps, ds, F, hm, hd, hb⟩, cl⟩ := M
        cases hd
        obtain ⟨mA, J, _⟩ := ins_get I.hok ea
        obtain ⟨od, J, _⟩ := J.look
        refine Calls.call_function_entry kind_len plain_len entry_len (args_len1 _) ?_
        unfold Builtin.«len»
        refine wpAny_bind (m := oneArg "len" _) (wpAny_pure ?_)
        refine wpAny_bind (m := callSpecial? (.ref a) (Str.ofString "__len__")) (PySem.W.special_fn I.kIn J hm.at_ (beq_iff_eq.mp hm.fn) ?_)
        refine wpAny_mono (run_in1 (E := WE WF) (us := [.ref a]) (vs := [.ref a]) F hr hb .nil (passAt takes0 σ) I (.cons rfl .nil) h3) (fun r s' q => ?_) fun _ _ z => z
        obtain ⟨z, H', I', rz, q⟩ := q
        cases z with
        | int i =>
          obtain ⟨t, rfl⟩ := rz
          obtain ⟨h0, h1, q⟩ := q
          show wpAny _ _ _ _ _ _
          refine wpAny_bind (wpAny_holding (wpAny_pure ?_))
          refine wpAny_bind (wpAny_letGo ?_)
          show wpAny _ _ (if i < 0 then _ else _) _ _ _
          rw [if_neg (by omega)]
          show wpAny _ _ (if i ≥ 2 ^ 63 then _ else _) _ _ _
          rw [if_neg (by omega)]
          exact wpAny_bind (wpAny_mkInt (wpAny_pure ⟨_, rfl, .int i, H', I'.tok _, ⟨_, rfl⟩, q⟩))
        | _ => exact q.elim
      | _ => exact h.elim
  | _ => exact h.elim
end
end Ta

set_option Elab.async false
set_option linter.all false
set_option maxRecDepth 100000
set_option maxHeartbeats 1000000
namespace Ta
open PySem PySem.Spec PyProof.Rows L2

/-! ### sorted(x), x a text or a list of signs -/
structure sgl (vs : List V) (k : List Nat → Prop) : Prop where
  out : ∃ l : List Nat, vs = sgn l ∧ k l
theorem sgl_i {l : List Nat} {k : List Nat → Prop} (q : k l) : sgl (sgn l) k := by refine ⟨?_⟩; exact ⟨l, rfl, q⟩
theorem sgl_e {vs : List V} {k : List Nat → Prop} (h : sgl vs k) : ∃ l : List Nat, vs = sgn l ∧ k l := by replace h := h.out; exact h
def zSrt2 (x : V) (H : Hp) (Q : VK) : Prop := match x with
  | .str z => (tl z).length < 64 ∧ ∀ p, H p = none → Q (.ref p) (upd H p (.lst (sgn (srt (tl z)))))
  | .ref a => look H a fun o => (match o with
    | some (.lst vs) => sgl vs fun l => l.length < 64 ∧ ∀ p, H p = none → Q (.ref p) (upd H p (.lst (sgn (srt l))))
    | _ => False)
  | _ => False
def zSort2 : List V → Hp → VK → Prop := fun xs H Q => one xs fun x => zSrt2 x H Q
section
variable {X : Cx}
theorem crsort2 (hcalm : X.calm = true) : CallR X (.builtin "sorted") zSort2 := by
  intro pins s σ H xs us Q I r q
  obtain ⟨x, rfl, q⟩ := one_e q
  cases x with
  | str z => exact crsort hcalm pins s σ H _ us Q I r q
  | ref a =>
    have q := look_e q
    cases ea : H a with
    | none => rw [ea] at q; exact q.elim
    | some o =>
      rw [ea] at q
      cases o with
      | lst vs =>
        obtain ⟨l, rfl, h64, q⟩ := sgl_e q
        have ev : ∀ l : List Nat, (l.map fun c => S [c]).map V.str = sgn l := fun l => by unfold sgn; rw [List.map_map]; rfl
        refine cr_sortedS pins s σ H _ us Q I r ⟨a, l.map fun c => S [c], rfl, .inl (.inl ?_), by rw [List.length_map]; exact h64, fun ys p g2 g3 hp => ?_⟩
        · rw [ev]; exact ea
        · obtain ⟨l', rfl, pl⟩ := perm_map_inv g2
          have el : l' = srt l := srt_uniq pl (sorted_one l' g3)
          subst el
          rw [ev]; exact q p hp
      | _ => exact q.elim
  | _ => exact q.elim
end
/-- over a list, any target -/
theorem loop_lg {xs : List V} {p : Addr} {g : TG} {tb : TS} {D : Ends} {σ : St} {H : Hp} (Pv : Nat → St → Hp → Prop) (h0 : Pv 0 σ H) (hst : ∀ i σ H, i ≤ xs.length → Pv i σ H → H p = some (.lst xs))
    (hs : ∀ i (hi : i < xs.length) σ H, Pv i σ H → g xs[i] σ H fun σ2 H2 => tb { D with nx := Pv (i + 1), ct := Pv (i + 1), bk := D.nx } σ2 H2) (hd : ∀ σ H, Pv xs.length σ H → D.nx σ H) :
    loop xs.length (itL xs) (fun H' => H' p = some (.lst xs)) g tb D σ H := by
  refine loop_i Pv h0 hst ?_ hd
  rintro i x σ H H' hi hP ⟨rfl, hx⟩
  rw [List.getElem?_eq_getElem hi] at hx
  cases hx
  exact hs i hi σ H' hP
end Ta

set_option Elab.async false
set_option linter.all false
set_option maxRecDepth 100000
set_option maxHeartbeats 1000000
namespace Ta
open PySem PySem.Spec PyProof.Rows L2

/-! ### // by a great number -/
def zDivW : R2 := zI2 CDivW fun i j => .int (i / j)
section
variable {X : Cx}
theorem opdivW : OpR X (binaryOp .FloorDiv) zDivW := op_imp op_fdivW fun _ _ _ _ h => zI2_e h
end
theorem divW {i j : Int} (h : 0 < j) (h2 : j < 1267650600228229401496703205376) : CDivW i j := wide_div (b := 100) h (by
  have e : (2 : Nat) ^ 100 = 1267650600228229401496703205376 := by decide
  rw [e]; omega) (by decide) (by decide)
/-- '' is in each text -/
theorem occ0 (b : List Nat) : occ [] b = true := (PySem.StrLaws.found_iff (S b) (S [])).mpr ⟨0, by show 0 + 0 ≤ _; omega, by simp [Builtin.Str.subAt, Str.length, S]⟩
end Ta

set_option Elab.async false
set_option linter.all false
set_option maxRecDepth 100000
set_option maxHeartbeats 1000000
namespace Ta
open PySem PySem.Spec PyProof.Rows L2
/-- a store at an index -/
theorem ixs_i {n : Nat} {r : Int} {k : Nat → Prop} (h0 : 0 ≤ r) (h1 : r < (n : Int)) (q : ∀ j : Nat, j < n → r = (j : Int) → k j) : ∃ j, ixN n r = some j ∧ k j := by
  obtain ⟨j, rfl⟩ := Int.eq_ofNat_of_zero_le h0
  have hj : j < n := by omega
  refine ⟨j, ?_, q j hj rfl⟩
  unfold ixN
  rw [if_pos (by omega), if_pos (by omega)]
  congr 1
/-! the goal's head, told by a step that leaves it -/
theorem look_id {H : Hp} {p : Addr} {k : Option HO → Prop} (h : look H p k) : look H p k := h
theorem itm_id {α : Type} {xs : List α} {i : Int} {k : α → Prop} (h : itm xs i k) : itm xs i k := h
theorem fld_id {fs : List (Str × V)} {f : Str} {k : V → Prop} (h : fld fs f k) : fld fs f k := h
theorem cnd_id {c : Bool} {p q : Prop} (h : cnd c p q) : cnd c p q := h
theorem isa_id {K : PySem.W.Frag} {t : Value} {c : V} {H : Hp} {Q : Bool → Prop} (h : isaP K t c H Q) : isaP K t c H Q := h
theorem joi_id {xs : List V} {s : List Nat} {k : List Nat → Prop} (h : joi xs s k) : joi xs s k := h
theorem and_id {p q : Prop} (h : p ∧ q) : p ∧ q := h
theorem ex_id {α : Type} {p : α → Prop} (h : ∃ x, p x) : ∃ x, p x := h
end Ta

set_option Elab.async false
set_option linter.all false
set_option maxRecDepth 100000
set_option maxHeartbeats 3200000
namespace Ta
open PySem PySem.Spec PyProof.Rows L2

/-! ### several except clauses, each with a name or without -/
inductive Hk where
  | na (c : Value) (ts : Addr → Value → Option Addr → TS)
  | as (i : Nat) (c : Value) (ts : Addr → Value → Option Addr → TS)
def wHk (K : PySem.W.Frag) (Wout : WX) (D : Ends) : List Hk → WX
  | [] => Wout
  | .na c ts :: r => fun cls d σ H => ∃ b, PySem.W.exmOne K cls c = some b ∧ (b = true → ∀ a, H a = none → ts a cls d D σ H) ∧ (b = false → wHk K Wout D r cls d σ H)
  | .as i c ts :: r => fun cls d σ H => ∃ b, PySem.W.exmOne K cls c = some b ∧ (b = true → ∀ a, H a = none → ts a cls d { nx := fun σ' H' => D.nx (σ'.set i none) H', rt := D.rt, bk := fun σ' H' => D.bk (σ'.set i none) H', ct := fun σ' H' => D.ct (σ'.set i none) H' } (σ.set i (some (.ref a))) H) ∧
      (b = false → wHk K Wout D r cls d σ H)
theorem whk_t {K : PySem.W.Frag} {c : Value} {ts : Addr → Value → Option Addr → TS} {Wout : WX} {D : Ends} {cls : Value} {d : Option Addr} {σ : St} {H : Hp} {r : List Hk} (h : PySem.W.exmOne K cls c = some true) (q : ∀ a, H a = none → ts a cls d D σ H) : wHk K Wout D (.na c ts :: r) cls d σ H :=
  ⟨true, h, fun _ => q, fun z => by cases z⟩
theorem whk_f {K : PySem.W.Frag} {c : Value} {ts : Addr → Value → Option Addr → TS} {Wout : WX} {D : Ends} {cls : Value} {d : Option Addr} {σ : St} {H : Hp} {r : List Hk} (h : PySem.W.exmOne K cls c = some false) (q : wHk K Wout D r cls d σ H) : wHk K Wout D (.na c ts :: r) cls d σ H :=
  ⟨false, h, (fun z => by cases z), fun _ => q⟩
theorem whk_at {K : PySem.W.Frag} {c : Value} {i : Nat} {ts : Addr → Value → Option Addr → TS} {Wout : WX} {D : Ends} {cls : Value} {d : Option Addr} {σ : St} {H : Hp} {r : List Hk} (h : PySem.W.exmOne K cls c = some true)
    (q : ∀ a, H a = none → ts a cls d { nx := fun σ' H' => D.nx (σ'.set i none) H', rt := D.rt, bk := fun σ' H' => D.bk (σ'.set i none) H', ct := fun σ' H' => D.ct (σ'.set i none) H' } (σ.set i (some (.ref a))) H) : wHk K Wout D (.as i c ts :: r) cls d σ H :=
  ⟨true, h, fun _ => q, fun z => by cases z⟩
theorem whk_af {K : PySem.W.Frag} {c : Value} {i : Nat} {ts : Addr → Value → Option Addr → TS} {Wout : WX} {D : Ends} {cls : Value} {d : Option Addr} {σ : St} {H : Hp} {r : List Hk} (h : PySem.W.exmOne K cls c = some false) (q : wHk K Wout D r cls d σ H) : wHk K Wout D (.as i c ts :: r) cls d σ H :=
  ⟨false, h, (fun z => by cases z), fun _ => q⟩
inductive HdsX (X : Cx) : List ExceptHandler → List Hk → Prop
  | nil : HdsX X [] []
  | na {x : Str} {c : Value} {ts : Addr → Value → Option Addr → TS} {b₀ : Stmt} {suite : List Stmt} {np pos' : Pos} {hds : List ExceptHandler} {l : List Hk} (hc : Names X x c)
      (hsu : ∀ (a : Addr) (oe : Obj) (cls : Value) (d : Option Addr) (pn : List (Addr × Obj)), Zc cls d oe → (∃ vs, oe.data = .fields vs) → PSs (X.suite a ((a, oe) :: pn)) (b₀ :: suite) (ts a cls d)) (r : HdsX X hds l) :
      HdsX X (.ExceptHandler (some (.Name x np)) none (b₀ :: suite) pos' :: hds) (.na c ts :: l)
  | as {i : Nat} {x n : Str} {c : Value} {ts : Addr → Value → Option Addr → TS} {b₀ : Stmt} {suite : List Stmt} {np pos' : Pos} {hds : List ExceptHandler} {l : List Hk} (hi : X.N[i]? = some n) (hln : X.env.kindOf n = some .local) (hc : Names X x c)
      (hsu : ∀ (a : Addr) (oe : Obj) (cls : Value) (d : Option Addr) (pn : List (Addr × Obj)), Zc cls d oe → (∃ vs, oe.data = .fields vs) → PSs (X.suite a ((a, oe) :: pn)) (b₀ :: suite) (ts a cls d)) (r : HdsX X hds l) :
      HdsX X (.ExceptHandler (some (.Name x np)) (some n) (b₀ :: suite) pos' :: hds) (.as i c ts :: l)
section
variable {X : Cx} {body : List Stmt} {h₀ : ExceptHandler} {hds : List ExceptHandler} {l : List Hk} {pos : Pos} {tb : WX → TS} {Wout : WX}
theorem ps_try_x (hs : X.stack = X.env :: X.outer) (hf : X.env.frame = some X.env.locals) (hN : X.N.Nodup) (tk : Takes X Wout)
    (hb : ∀ (W : WX) (pn : List (Addr × Obj)) (xe : Value → Shared → Prop), Takes (X.tr pn xe) W → PassesOwn (model X.prog X.w) X.A X.env xe → PSs (X.tr pn xe) body (tb W))
    (hh : HdsX X (h₀ :: hds) l) : PS X (.Try body (h₀ :: hds) [] [] pos) (fun D σ H => tb (wHk X.K Wout D l) D σ H) := by
  refine ⟨fun pins s σ H D I h => ?_⟩
  have ok := I.ok
  have hfr : X.A.frames = some (X.env :: X.outer) := by rw [ok.frames, hs]
  refine wpAny_Try_except ?_
  refine wpAny_mono ((hb (wHk X.K Wout D l) (X.pn ++ pins) (fun e s₁ => wpAny (model X.prog X.w) X.A (noteFrame e X.env) (fun _ s₂ => wpAny (model X.prog X.w) X.A (setFlight e none) (fun _ s₃ =>
    wpAny (model X.prog X.w) X.A (handleBy e X.env (h₀ :: hds)) (SP X pins D) X.xe s₃) X.xe s₂) X.xe s₁) (fun u s' xx => ?_) PassesOwn.looking).run [] s σ H D (I.toTry _) h) (fun f s1 hsp => ?_) (fun e s1 he => he)
  · -- the catch
    obtain ⟨a, B, sI, pins', σ', H', cls, d, rfl, J', nb, up, sky, na, os, ag, w⟩ := xx
    have J : Inv X pins σ' H' sI := J'.ofTry ok
    have sky' : Sky B (X.env :: X.outer) a (Zc cls d) X.env.locals s'.heap := by rw [← hs]; exact sky
    show wpAny (model X.prog X.w) X.A (noteFrame (.ref a) X.env) _ _ _
    refine Sky.land Zc.steady hfr hf sky' fun h3 fl3 up3 => ?_
    have J3 : Inv X pins σ' H' { s' with heap := h3 } := J.landed nb fl3.1 (up.trans up3) os ag
    obtain ⟨oe3, vs3, he3, hz3, hd3⟩ := fl3.there
    have notFr : ∀ {h : Heap} {o : Obj} {vs : Array Value}, h.FunFrames B (X.env :: X.outer) → h.get? a = some o → o.data = .fields vs → a ∉ frs (X.env :: X.outer) := fun {h o vs} ff e dd hm => by
      obtain ⟨_, o', e', hnf⟩ := ff.mem hm
      rw [e] at e'; cases e'
      exact hnf _ dd
    have nfr := notFr fl3.2.2.1 he3 hd3
    have nL : a ≠ X.env.locals := fun z => nfr (List.mem_filterMap.mpr ⟨X.env, List.mem_cons_self, by rw [hf, z]⟩)
    have nF : a ∉ X.fs := fun hm => by
      obtain ⟨e, he, q⟩ := List.mem_filterMap.mp hm
      exact nfr (List.mem_filterMap.mpr ⟨e, List.mem_cons_of_mem _ he, q⟩)
    have S3 := J3.suite he3 hd3 na nL nF
    have LT : PySem.W.Looks (model X.prog X.w) h3 (typeOf (.ref a)) cls := fun A Q E s k q => wpAny_typeOf_ref (k _ _ he3) (by rw [hz3.1]; exact q)
    have tst : ∀ {x : Str} {c : Value} {np : Pos} (hc : Names X x c) {Q : Value → Shared → Prop} {E : Value → Shared → Prop}, Q c { s' with heap := h3 } → wpAny (model X.prog X.w) (X.A.mark (some (.ref a))) (eval (.Name x np) X.env) Q E { s' with heap := h3 } := fun {x c np} hc {Q E} q => by
      obtain ⟨hg, hdbg, hm | ⟨hm, hv, hnn⟩⟩ := hc
      · exact ld_glob (X := X.suite a ((a, oe3) :: (X.pn ++ pins))) S3 hg hm q hdbg
      · exact ld_blt (X := X.suite a ((a, oe3) :: (X.pn ++ pins))) S3 hg hm hv q hnn hdbg
    have go : ∀ {hds' : List ExceptHandler} {l' : List Hk}, HdsX X hds' l' → wHk X.K Wout D l' cls d σ' H' →
        wpAny (model X.prog X.w) X.A (handleBy (.ref a) X.env hds') (SP X pins D) X.xe { s' with heap := h3 } := by
      intro hds' l' hk
      induction hk with
      | nil =>
        intro w
        refine wpAny_handleBy_nil ?_
        obtain ⟨k1, k2, k3, oe, vs, T, oT, ts', he, hz, hd, h1, hr⟩ := id fl3
        unfold PySem.passOn
        refine wpAny_bind (wpAny_field he hd h1 ?_)
        rw [if_neg (show ¬ ((Value.ref T == Value.none) = true) from by simp)]
        have fin : wpAny (model X.prog X.w) X.A (setFlight (.ref a) X.env.frame) (fun _ s4 => wpAny (model X.prog X.w) X.A (throw (.ref a) : Sem Flow) (SP X pins D) X.xe s4) X.xe { s' with heap := h3 } := by
          rw [hf]
          refine HandSPX.setFlight_upZ fl3 fun h4 hh4 up4 => wpAny_throw (tk _ _ ?_)
          exact ⟨a, B, sI, pins, σ', H', cls, d, rfl, J, nb, (up.trans up3).trans up4, .inr (.inr (by rw [hs]; exact hh4)), na, os, ag, w⟩
        first
          | exact wpAny_bind (wpAny_pure (wpAny_bind fin))
          | exact wpAny_bind fin
      | @na x c ts b₀ suite np pos' hds2 l2 hc hsu r ih =>
        intro w
        obtain ⟨b, hb1, hyes, hno⟩ := w
        refine wpAny_handleBy_cons (codeAny_handlers_test ?_) (by intro q; cases q)
        have LM := PySem.W.exm_one (M := model X.prog X.w) (J3.kIn) LT hb1
        refine tst hc (LM.here ?_)
        cases b with
        | true =>
          refine codeAny_handlers_suite ?_
          refine HandSPX.lands_againZ fl3 fun h4 fl4 up4 => ?_
          have J4 : Inv X pins σ' H' { s' with heap := h4 } := J.landed nb fl4.1 ((up.trans up3).trans up4) os ag
          obtain ⟨oe4, vs4, he4, hz4, hd4⟩ := fl4.there
          have S4 := J4.suite he4 hd4 na nL nF
          refine wpAny_mono ((hsu a oe4 cls d (X.pn ++ pins) hz4 ⟨_, hd4⟩).run [] _ _ H' _ S4 (hyes rfl a na)) (fun f s6 hsp => ?_) (fun _ _ z => False.elim z)
          cases f with
          | next =>
            obtain ⟨σ6, H6, S6, q6⟩ := hsp
            exact ⟨_, _, S6.unsuite ok, q6⟩
          | brk =>
            obtain ⟨σ6, H6, S6, q6⟩ := hsp
            exact ⟨_, _, S6.unsuite ok, q6⟩
          | cont =>
            obtain ⟨σ6, H6, S6, q6⟩ := hsp
            exact ⟨_, _, S6.unsuite ok, q6⟩
          | ret u =>
            obtain ⟨v6, σ6, H6, S6, r6, q6⟩ := hsp
            exact ⟨_, _, _, S6.unsuite ok, r6, q6⟩
        | false =>
          show wpAny _ X.A (handleBy (.ref a) X.env hds2) _ _ _
          exact ih (hno rfl)
      | @as i x n c ts b₀ suite np pos' hds2 l2 hi hln hc hsu r ih =>
        intro w
        obtain ⟨b, hb1, hyes, hno⟩ := w
        have hloc : Loc X.env.scope n := .inl hln
        refine wpAny_handleBy_cons (codeAny_handlers_test ?_) (by intro q; cases q)
        have LM := PySem.W.exm_one (M := model X.prog X.w) (J3.kIn) LT hb1
        refine tst hc (LM.here ?_)
        cases b with
        | true =>
          refine codeAny_handlers_suite_as ?_
          refine HandSPX.lands_againZ fl3 fun h4 fl4 up4 => ?_
          have J4 : Inv X pins σ' H' { s' with heap := h4 } := J.landed nb fl4.1 ((up.trans up3).trans up4) os ag
          obtain ⟨oe4, vs4, he4, hz4, hd4⟩ := fl4.there
          have S4 := J4.suite he4 hd4 na nL nF
          refine store_ok (X := X.suite a ((a, oe4) :: (X.pn ++ pins))) (v := .ref a) S4 hN hi hloc rfl (fun s5 S5 => ?_) (.inr hln)
          refine wpAny_mono ((hsu a oe4 cls d (X.pn ++ pins) hz4 ⟨_, hd4⟩).run [] s5 _ H' _ S5 (hyes rfl a na)) (fun f s6 hsp => ?_) (fun _ _ z => False.elim z)
          have end_ : ∀ {σ6 : St} {H6 : Hp} {Q : Shared → Prop}, Inv (X.suite a ((a, oe4) :: (X.pn ++ pins))) [] σ6 H6 s6 → (∀ s7, Inv X pins (σ6.set i none) H6 s7 → Q s7) →
              wpAny (model X.prog X.w) X.A (do bindName X.env n .none; unbindBehindTheSuite X.env n pos') (fun _ s7 => Q s7) X.xe s6 := fun {σ6 H6 Q} S6 hq => gone_ok (S6.unsuite ok) hN hi hln hq
          cases f with
          | next =>
            obtain ⟨σ6, H6, S6, q6⟩ := hsp
            exact end_ S6 fun s7 J7 => ⟨_, _, J7, q6⟩
          | brk =>
            obtain ⟨σ6, H6, S6, q6⟩ := hsp
            exact end_ S6 fun s7 J7 => ⟨_, _, J7, q6⟩
          | cont =>
            obtain ⟨σ6, H6, S6, q6⟩ := hsp
            exact end_ S6 fun s7 J7 => ⟨_, _, J7, q6⟩
          | ret u =>
            obtain ⟨v6, σ6, H6, S6, r6, q6⟩ := hsp
            exact end_ S6 fun s7 J7 => ⟨_, _, _, J7, r6, q6⟩
        | false =>
          show wpAny _ X.A (handleBy (.ref a) X.env hds2) _ _ _
          exact ih (hno rfl)
    exact go hh w
  · cases f with
    | next =>
      obtain ⟨σ', H', J', q⟩ := hsp
      exact wpAny_execs_nil ⟨σ', H', J'.ofTry ok, q⟩
    | brk =>
      obtain ⟨σ', H', J', q⟩ := hsp
      exact ⟨σ', H', J'.ofTry ok, q⟩
    | cont =>
      obtain ⟨σ', H', J', q⟩ := hsp
      exact ⟨σ', H', J'.ofTry ok, q⟩
    | ret u =>
      obtain ⟨v, σ', H', J', r, q⟩ := hsp
      exact ⟨v, σ', H', J'.ofTry ok, r, q⟩
end

/-! ### own operators between two instances of one class, which may raise -/
def SelfF (K : PySem.W.Frag) (C : Addr) : Prop := PySem.W.selfFirst K C = true
def bSelf (x : Str) : BF := fun K => PySem.W.selfFirst K (He.ga K x)
theorem self_of {K : PySem.W.Frag} {x : Str} (c : bSelf x K = true) : SelfF K (He.ga K x) := c
def isIns (C : Addr) (x : V) (H : Hp) (k : Addr → Prop) : Prop := match x with
  | .ref a => look H a fun o => (match o with
    | some (.ins C1 dx fs) => C1 = C ∧ k a
    | _ => False)
  | _ => False
theorem isIns_e {C : Addr} {x : V} {H : Hp} {k : Addr → Prop} (h : isIns C x H k) : ∃ a dx fs, x = .ref a ∧ H a = some (.ins C dx fs) ∧ k a := by
  cases x with
  | ref a =>
    have h := look_e h
    cases ea : H a with
    | none => rw [ea] at h; exact h.elim
    | some o =>
      rw [ea] at h
      cases o with
      | ins C1 dx fs =>
        obtain ⟨e1, h2⟩ := h
        subst e1
        exact ⟨a, dx, fs, rfl, ea, h2⟩
      | _ => exact h.elim
  | _ => exact h.elim
/-- the answer is no NotImplemented -/
def someV (v : V) (p : Prop) : Prop := match v with
  | .ref _ => p
  | .int _ => p
  | .bl _ => p
  | .str _ => p
  | .non => p
  | _ => False
theorem someV_e {v : V} {u : Value} {p : Prop} (r : RelV v u) (h : someV v p) : p ∧ u ≠ .notImplemented := by
  cases v with
  | ref a => obtain rfl : u = Value.ref a := r; exact ⟨h, by intro z; cases z⟩
  | int a => obtain ⟨t, rfl⟩ : ∃ t, u = Value.int a t := r; exact ⟨h, by intro z; cases z⟩
  | bl a => obtain rfl : u = Value.bool a := r; exact ⟨h, by intro z; cases z⟩
  | str a => obtain ⟨t, rfl⟩ : ∃ t, u = Value.str a t := r; exact ⟨h, by intro z; cases z⟩
  | non => obtain rfl : u = Value.none := r; exact ⟨h, by intro z; cases z⟩
  | _ => exact h.elim
def tBinO (C : Addr) (sp : Sp) (W : WX) (ta tb : TE) : TE := fun σ H Q => ta σ H fun x H1 => tb σ H1 fun y H2 => isIns C x H2 fun a => isIns C y H2 fun b => sp [.ref a, .ref b] H2 (fun v H' => someV v (Q v H')) fun c d H' => W c d σ H'
section
variable {X : Cx} {a b : Expr} {ta tb : TE} {pos : Pos} {lv : Nat} {sp : Sp} {W : WX} {C : Addr}
theorem pe_binO {op : Operator} {m : Str} (M : Me X.prog X.w X.K X.mg X.base C m lv [] sp) (sf : SelfF X.K C) (hr : Room lv X.A) (tk : Takes X W) (ha : PE X a ta) (hb : PE X b tb) (hm' : PySem.dunder op.info.2 = m := by decide +kernel) : PE X (.BinOp a op b pos) (tBinO C sp W ta tb) := by
  subst hm'
  refine ⟨fun pins s σ H Q I h => ?_⟩
  refine wpAny_BinOp (binT ha hb I h fun v u s2 x y H2 I2 rx ry q => ?_)
  obtain ⟨p, dx, fs, rfl, hp, q⟩ := isIns_e q
  obtain ⟨p', dx', fs', rfl, hp', q⟩ := isIns_e q
  cases rx
  cases ry
  obtain ⟨⟨f, fd, ps, ds, F, hm, hd, hb⟩, cl⟩ := M
  cases hd
  obtain ⟨mA, J, _⟩ := ins_get I2.hok hp
  obtain ⟨mB, J', _⟩ := ins_get I2.hok hp'
  obtain ⟨od, J, _⟩ := J.look
  obtain ⟨od', J', _⟩ := J'.look
  obtain ⟨m, hF⟩ := I2.fr
  refine PySem.W.binop_K hF I2.ok.mod.kin J J'.type sf hm.at_ hm.fn ?_
  have r2 : Vals [V.ref p, V.ref p'] [Value.ref p, Value.ref p'] := .cons rfl (.cons rfl .nil)
  refine wpAny_mono (run_fnSD (E := WE W) (us := [.ref p, .ref p']) (vs := [.ref p, .ref p']) (Q := fun v H' => someV v (Q v H')) F hr hb .nil (passAt tk σ) I2 r2 q) (fun r s' q => ?_) fun _ _ z => z
  obtain ⟨z, H', I', rz, q⟩ := q
  obtain ⟨q, hn⟩ := someV_e rz q
  cases r with
  | notImplemented => exact absurd rfl hn
  | _ => exact ⟨z, H', I', rz, q⟩
end
/-! ### str of an instance -/
def zStrO (C : Addr) (sp : Sp) : List V → Hp → VK → Prop := fun xs H Q => one xs fun x => isIns C x H fun a => sp [.ref a] H (fun v H' => match v with
  | .str y => Q (.str y) H'
  | _ => False) fun _ _ _ => False
section
variable {X : Cx}
theorem crstrO {C : Addr} {lv : Nat} {sp : Sp} (M : Me X.prog X.w X.K X.mg X.base C "__str__" lv [] sp) (hr : Room (lv + 2) X.A) : CallR X (.type "str") (zStrO C sp) := by
  intro pins s σ H xs us Q I r h
  obtain ⟨x, rfl, h⟩ := one_e h
  obtain ⟨u, rfl, rx⟩ := vals1 r
  obtain ⟨a, dx, fs, rfl, ea, h3⟩ := isIns_e h
  cases rx
  obtain ⟨⟨f, fd, ps, ds, F, hm, hd, hb⟩, cl⟩ := M
  cases hd
  obtain ⟨mA, J, _⟩ := ins_get I.hok ea
  obtain ⟨od, J, _⟩ := J.look
  have hr2 : Room lv X.A.in1.in1 := (hr.in1 (k := lv + 1)).in1
  refine PySem.W.kso_call hr2.units0 I.kIn J hm.at_ hm.fn ?_
  have r2 : Vals ([V.ref a] ++ []) ([Value.ref a] ++ []) := .cons rfl .nil
  have hl : ([Value.ref a] ++ []).length = ps.length := by rw [← r2.length]; exact F.len _ _ _ _ h3
  refine wpAny_call (codeAny_mono (F.run X.A.in1.in1 X.stack s H ⟨[.ref a], []⟩ [.ref a] [.ref a] _ (WE WF σ) hr2 I.env0.in1.in1 (hb s [.ref a] I.kIn hl) r2 h3) fun r s' hq => ?_)
  cases r with
  | error e => exact passAt takes0 σ pins H s e s' I hq
  | ok fl =>
    cases fl with
    | ret u =>
      have q0 := I.after hq
      obtain ⟨z, H', I', rz, q⟩ := q0
      cases z with
      | str y =>
        obtain ⟨t, rfl⟩ : ∃ t, u = Value.str y t := rz
        exact ⟨.str y, H', I', ⟨t, rfl⟩, q⟩
      | _ => exact q.elim
    | next => exact False.elim hq
    | brk => exact False.elim hq
    | cont => exact False.elim hq
end
end Ta

set_option Elab.async false
set_option linter.all false
set_option maxRecDepth 100000
set_option maxHeartbeats 3200000
namespace Ta
open PySem PySem.Spec PyProof.Rows L2

/-! ### an own exception without fields -/
section
variable {X : Cx}
theorem mk_endN {pins : List (Addr × Obj)} {σ : St} {H1 H2 : Hp} {Q : XK} {hp hp2 h2 : Heap} {g1 g2 : Array GenState} {d1 d2 : Drawn} {t1 t2 : Nat} {os1 os2 : OsState} {a C : Addr} (T : Raises X (.ref C)) (I1 : Inv X pins σ H1 ⟨hp, g1, d1, t1, os1⟩)
    (ha : hp.objs.size ≤ a) (k : ∀ b o, hp.get? b = some o → hp2.get? b = some o) (un : Un (frs X.stack) [] (upd H1 a (exo a C none)) H2 hp2 h2) (hok : HOk X.prog X.w H2 h2) (ho : os2 = os1) (hb : AllBare g2)
    (ea : H2 a = some (exo a C none)) (q : Q (.ref C) none (del H2 a)) : MkP X pins σ Q (.ref a) ⟨h2, g2, d2, t2, os2⟩ := by
  obtain ⟨t0, hoe⟩ := exo_at hok ea
  have hn : H1 a = none := I1.hok.fresh ha
  obtain ⟨G, g1', g2'⟩ := restrict h2 fun b => decide (b ≠ a)
  have gk : ∀ b, b ≠ a → G.get? b = h2.get? b := fun b hb => g1' b (decide_eq_true hb)
  have ge : G.get? a = none := g2' a (by simp)
  have nha : ∀ {b : Addr} {o : Obj}, hp.get? b = some o → b ≠ a := fun {b o} z => Nat.ne_of_lt (Nat.lt_of_lt_of_le (Heap.lt_size z) ha)
  have up : ∀ {b : Addr}, b ≠ a → H1 b = none → upd H1 a (exo a C none) b = none := fun {b} hb n => by rw [upd_ne hb]; exact n
  have U : Un (frs X.stack) [] H1 (del H2 a) hp G := {
    keep := fun b o z n hf hx => by
      rw [gk b (nha z)]
      exact un.keep b o (k b o z) (up (nha z) n) hf hx
    slot := fun b o z n hf hx => by
      rw [gk b (nha z)]
      exact un.slot b o (k b o z) (up (nha z) n) hf hx
    free := fun b o z n hx => by
      rw [del_ne (nha z)]
      exact un.free b o (k b o z) (up (nha z) n) hx
    there := fun b o z hx => by
      rw [gk b (nha z)]
      exact un.there b o (k b o z) hx
    tups := fun b xs z => by
      rw [del_ne (ne_of_none z hn)]
      exact un.tups b xs (by rw [upd_ne (ne_of_none z hn)]; exact z)
    frzs := fun b o v z => by
      rw [del_ne (ne_of_none z hn)]
      exact un.frzs b o v (by rw [upd_ne (ne_of_none z hn)]; exact z)
    tbls := fun b ps z => by
      rw [del_ne (ne_of_none z hn)]
      exact un.tbls b ps (by rw [upd_ne (ne_of_none z hn)]; exact z) }
  have hok3 : HOk X.prog X.w (del H2 a) G := fun b o z => by
    have hba : b ≠ a := fun e => by
      rw [e, del_same] at z
      cases z
    rw [del_ne hba] at z
    have noa : ∀ {c : Addr}, H2 c = some (.own b) → c ≠ a := fun {c} hc => at_ne ea hc exo_own
    exact (hok b o z).stay (fun c v hc y => by
        have hca : c ≠ a := by
          rcases hc with hc | hc
          · rw [hc]
            exact hba
          · exact noa hc
        rw [gk c hca]
        exact y)
      (fun c hc => by rw [del_ne (noa hc)]; exact hc) (fun c xs hc => by rw [del_ne (at_ne ea hc exo_tup)]; exact hc)
  have J : Inv X pins σ (del H2 a) ⟨G, g2, d2, t2, os2⟩ := I1.call' (ch := []) ho U hok3 hb (fun b z => absurd z (by simp))
  refine ⟨a, _, _, ⟨G, g2, d2, t2, os2⟩, _, .ref C, none, rfl, J, fun b o z => ?_, ge, hoe, ⟨rfl, rfl⟩, rfl, rfl, del_same, rfl, hb, T, q⟩
  by_cases hba : b = a
  · rw [hba, ge] at z
    cases z
  · exact (gk b hba).symm.trans z
theorem del_upd {H : Hp} {a : Addr} {o : HO} (h : H a = none) : del (upd H a o) a = H := by
  funext c
  unfold upd del
  by_cases h2 : c = a
  · subst h2; simp [h]
  · simp [h2]
variable {x : Str} {p pos : Pos} {W : WX} {C : Addr}
def tRs0 (C : Addr) (W : WX) : TS := fun _ σ H => W (.ref C) none σ H
theorem pmkE0 (G : Ex X.prog X.w X.K X.mg X.base x C []) (hr : Room 2 X.A) (tk : Takes X W) (hg : Gl X x) (hdb : (x == ("__debug__" : Str)) = false) :
    PMk X (.Call (.Name x p) [] [] pos) (fun σ H Q => Q (.ref C) none H) := by
  obtain ⟨fI, fd, ps, F1, iC, tI, hb, hm⟩ := G.ex
  have T := G.oex
  intro pins s σ H Q I q1
  obtain ⟨nm, q, N, bs, bm, sn, sub, ab, col, dd, k0, k1, k2, k3, k5, hC, hbm⟩ := T.cls
  refine wpAny_Call_Name_kw (ld_glob I hg hm ?_ hdb)
  refine PySem.W.callWith_K0 I.kIn T.kC ?_
  show wpAny _ _ (call (.ref C) []) _ _ _
  obtain ⟨hp, g, dr, tok, os⟩ := s
  have hsz : hp.objs.size ≤ hp.objs.size + 1 := Nat.le_succ _
  have hn : H (hp.objs.size + 1) = none := I.hok.fresh hsz
  have hq : spE C [] [.ref (hp.objs.size + 1)] (upd H (hp.objs.size + 1) (exo (hp.objs.size + 1) C none))
      (fun v H2 => v = .non ∧ H2 (hp.objs.size + 1) = some (exo (hp.objs.size + 1) C none) ∧ Q (.ref C) none (del H2 (hp.objs.size + 1))) (fun _ _ _ => False) := by
    refine ⟨_, [], rfl, rfl, upd_same, fun _ => ⟨rfl, upd_same, ?_⟩, fun e0 => absurd rfl e0⟩
    rw [del_upd hn]; exact q1
  have kk : ∀ b o, hp.get? b = some o → ((hp.push (PySem.W.kdv_tup [])).push (PySem.HandSPX.excO C hp.objs.size)).get? b = some o := fun b o e => Heap.get?_push_of_some _ (Heap.get?_push_of_some _ e)
  have hget : ((hp.push (PySem.W.kdv_tup [])).push (PySem.HandSPX.excO C hp.objs.size)).get? (hp.objs.size + 1) = some (PySem.HandSPX.excO C hp.objs.size) := by heap_get
  have I2 : Inv X pins σ (upd H (hp.objs.size + 1) (exo (hp.objs.size + 1) C none)) ⟨(hp.push (PySem.W.kdv_tup [])).push (PySem.HandSPX.excO C hp.objs.size), g, dr, tok, os⟩ :=
    I.laid (t' := tok) (a := hp.objs.size + 1) (o := exo (hp.objs.size + 1) C none) (h' := (hp.push (PySem.W.kdv_tup [])).push (PySem.HandSPX.excO C hp.objs.size)) kk hsz (exo_ok hget)
  have r2 : Vals [V.ref (hp.objs.size + 1)] [Value.ref (hp.objs.size + 1)] := .cons rfl .nil
  have hl : ([Value.ref (hp.objs.size + 1)] ++ []).length = ps.length := by
    have e := r2.length
    rw [F1.len _ _ _ _ hq] at e
    exact e.symm
  have hbi := hb ⟨(hp.push (PySem.W.kdv_tup [])).push (PySem.HandSPX.excO C hp.objs.size), g, dr, tok, os⟩ [Value.ref (hp.objs.size + 1)] I2.kIn hl
  rw [List.append_nil] at hbi
  refine wpAny_call (PySem.HandSPX.call_own PySem.F.excBase_ValueError (fun Y => PySem.HandSPX.refsVE_contains Y bm hbm) (I.kIn _ _ hC) (PySem.W.looks_findIn I.kIn iC) (fun self => PySem.W.bind_fn I.kIn self tI) (Nat.zero_le _)
    (codeAny_mono (F1.run _ X.stack _ _ ⟨[Value.ref (hp.objs.size + 1)], []⟩ [Value.ref (hp.objs.size + 1)] _ _ (fun _ _ _ => False) (hr.make C [] []) (I2.env0.make C [] []) hbi r2 hq) fun r s' hq' => ?_))
  cases r with
  | error er => exact tk er s' (XE.of_call I2 (fun _ _ _ z => z.elim) hq')
  | ok fl =>
    cases fl with
    | ret u =>
      obtain ⟨v, H2, os2, bare2, un2, hok2, rv, ev, ea, q2⟩ := hq'
      subst ev
      obtain ⟨h2, g2, d2, t2, os'⟩ := s'
      exact ⟨rv, mk_endN (raises_own T.exC T.tyC) I hsz kk un2 hok2 os2 bare2 ea q2⟩
    | next => exact False.elim hq'
    | brk => exact False.elim hq'
    | cont => exact False.elim hq'
theorem praise0 (G : Ex X.prog X.w X.K X.mg X.base x C []) (hr : Room 2 X.A) (tk : Takes X W) {pos' : Pos} (hc : X.calm = true := by rfl) (hg : Gl X x := by rfl) (hdb : (x == ("__debug__" : Str)) = false := by decide +kernel) :
    PS X (.Raise (some (.Call (.Name x p) [] [] pos)) none pos') (tRs0 C W) :=
  ps_raise hc tk (pmkE0 G hr tk hg hdb)
end
end Ta

set_option Elab.async false
set_option linter.all false
set_option maxRecDepth 100000
set_option maxHeartbeats 3200000
/-! != of two instances of a class with its own __eq__ -/
namespace PySem.W
open PySem PySem.Calls PyProof.Rows Builtin
section
variable {prog : Program} {w : World} {A : Around} {E : Value → Shared → Prop} {s : Shared} {K : Frag} {x C L f : Addr} {h₀ : Heap} {m : Str → Option Value} {ox : Obj} {od : Option Obj} {b : Value}
theorem ifBound_B {M : Model} {args : List Value} {name : Str} {i : String} {Q : Option Value → Shared → Prop} (X : K.In s.heap) (I : InstAt s.heap x ox C od) (hs : findIn K (.ref C) name = some (some (.builtin i))) (hb : bindSpecial (.builtin i) (.ref x) = pure (.builtin i, [.ref x]))
    (h : wpAny M A (call (.builtin i) (.ref x :: args)) (fun v => Q (some v)) E s) : wpAny M A (callSpecialIfBound? (.ref x) name args) Q E s := by
  simp only [callSpecialIfBound?, bindSpecialIfBound?]
  refine wpAny_holding (wpAny_bind (wpAny_bind (wpAny_bind (I.type.here ((looks_findIn X hs).here ?_)))))
  refine wpAny_bind (wpAny_askSetting (wpAny_ite ?_))
  have fin : wpAny M A (call (.builtin i) ([.ref x] ++ args) >>= fun v => pure (some v)) Q E s := wpAny_bind (wpAny_mono h (fun v s' h' => wpAny_pure h') fun _ _ h' => h')
  split
  · exact wpAny_bind ((Looks.of_pure hb).here (wpAny_pure (by exact fin)))
  · exact wpAny_tryCatch (wpAny_bind ((Looks.of_pure hb).here (wpAny_pure (by exact fin))))
theorem objNe_K (hu : A.units < cLine) (X : K.In s.heap) (I : InstAt s.heap x ox C od) (hs : findIn K (.ref C) "__eq__" = some (some (.ref f))) (hf : isFn K (.ref f) = true) {Q : Fin → Shared → Prop}
    (hcall : wpAny (model prog w) A (call (.ref f) [.ref x, b]) (fun v s' => ∃ k, v = .bool k ∧ Q (.done (.ret (.bool (!k)))) s') E s) :
    wpAny (model prog w) A (Builtin.«object.__ne__» ⟨[.ref x, b], []⟩) Q E s := by
  unfold Builtin.«object.__ne__»
  repeat (first
    | with_reducible refine wpAny_cRoomFor hu ?_
    | (refine wpAny_bind (m := callSpecialIfBound? (.ref x) (Str.ofString "__eq__") [b])
        (ifBound_K X I hs hf (wpAny_mono hcall (fun r s' hr => by
          obtain ⟨k, rfl, hq⟩ := hr
          repeat (first | exact hq | exact wpAny_pure hq | exact wpAny_truthy_bool hq | (refine wpAny_bind (m := truthy (.bool _)) (wpAny_truthy_bool ?_)) | wp_step)) fun _ _ e => e)))
    | wp_step)
theorem ne_K {Q : Value → Shared → Prop} (hu : A.units + 1 < cLine) (Fm : Fr h₀ L s.heap m) (X₀ : K.In h₀) (I : InstAt s.heap x ox C od) (hb : Looks (model prog w) s.heap (typeOf b) (.ref C))
    (hn : findIn K (.ref C) "__ne__" = some (some (.builtin "object.__ne__"))) (ho : subIn K (.ref C) (.type "object") = some true)
    (hs : findIn K (.ref C) "__eq__" = some (some (.ref f))) (hf : isFn K (.ref f) = true)
    (h : wpAny (model prog w) A.in1 (call (.ref f) [.ref x, b]) (fun v s' => ∃ k, v = .bool k ∧ Q (.bool (!k)) s') E s) : wpAny (model prog w) A (richCompare .NotEq (.ref x) b) Q E s := by
  have X := X₀.keeps Fm.keep
  have LI : Looks (model prog w) s.heap (isInstance (.ref x) (.type "object")) true := I.type.andThen (looks_subIn X ho)
  have one : wpAny (model prog w) A (tryCompare (.ref x) "__ne__" b) (fun r s' => ∃ v, r = some v ∧ Q v s') E s := by
    unfold tryCompare
    refine wpAny_bind (ifBound_B X I hn rfl ?_)
    refine wpAny_call (codeAny_call_builtin PySem.F.cmp_object.ne.plain PySem.F.cmpEntry_ne (check_slot PySem.F.cmpKind_ne PySem.F.cmpSplit_ne LI (PySem.F.cmpArgs_ne _ _) (objNe_K (A := A.in1) hu X I hs hf (wpAny_mono h (fun v s' hv => ?_) fun _ _ e => e))))
    obtain ⟨k, rfl, hq⟩ := hv
    first | exact ⟨k, rfl, wpAny_pure ⟨_, rfl, hq⟩⟩ | exact ⟨k, rfl, ⟨_, rfl, hq⟩⟩
  unfold richCompare
  simp only [oneThing_ref]
  refine wpAny_holding (wpAny_bind (wpAny_cRoomFor (Nat.lt_of_succ_lt hu) ?_))
  refine wpAny_bind (I.type.here (wpAny_bind (hb.here ?_)))
  split
  · rename_i q
    simp at q
  · refine wpAny_bind (wpAny_pure ?_)
    simp only [Bool.false_eq_true, if_false]
    refine wpAny_bind (wpAny_mono one (fun r s' z => ?_) fun _ _ e => e)
    obtain ⟨v, rfl, hq⟩ := z
    exact wpAny_pure hq
end
end PySem.W
namespace Ta
open PySem PySem.Spec PyProof.Rows L2
structure NeF (K : PySem.W.Frag) (C : Addr) : Prop where
  ne : PySem.W.findIn K (.ref C) "__ne__" = some (some (.builtin "object.__ne__"))
  ob : PySem.W.subIn K (.ref C) (.type "object") = some true
def bNe (x : Str) : BF := fun K => He.eqO (PySem.W.findIn K (.ref (He.ga K x)) "__ne__") (some (some (.builtin "object.__ne__"))) && decide (PySem.W.subIn K (.ref (He.ga K x)) (.type "object") = some true)
theorem ne_of {K : PySem.W.Frag} {x : Str} (c : bNe x K = true) : NeF K (He.ga K x) := by
  obtain ⟨c1, c2⟩ := Bool.and_eq_true_iff.mp c
  exact ⟨He.eqO_ok c1, of_decide_eq_true c2⟩
/-- a != b by the own == -/
def zOwnN (C : Addr) (sp : Sp) : R2 := fun x y H Q => zOwn C sp x y H fun v H' => match v with
  | .bl k => Q (.bl (!k)) H'
  | _ => False
section
variable {X : Cx}
theorem opownN {C : Addr} {lv : Nat} {sp : Sp} (M : Me X.prog X.w X.K X.mg X.base C "__eq__" lv [] sp) (nf : NeF X.K C) (hr : Room (lv + 1) X.A) : OpR X (compareOp .NotEq) (zOwnN C sp) := by
  intro pins s σ H x y v u Q I rx ry h
  obtain ⟨a, b, dx, fs, dy, gs, rfl, rfl, ha, hb', h⟩ := zOwn_e h
  cases rx
  cases ry
  obtain ⟨⟨f, fd, ps, ds, F, hm, hd, hb⟩, cl⟩ := M
  cases hd
  obtain ⟨mA, J, _⟩ := ins_get I.hok ha
  obtain ⟨mB, J', _⟩ := ins_get I.hok hb'
  obtain ⟨od, J, _⟩ := J.look
  obtain ⟨od', J', _⟩ := J'.look
  obtain ⟨m, hF⟩ := I.fr
  show wpAny (model X.prog X.w) X.A (richCompare .NotEq (.ref a) (.ref b)) (EP X pins σ Q) X.xe s
  refine PySem.W.ne_K (by have := hr.units; omega) hF I.ok.mod.kin J J'.type nf.ne nf.ob hm.at_ hm.fn ?_
  have r2 : Vals [V.ref a, V.ref b] [Value.ref a, Value.ref b] := .cons rfl (.cons rfl .nil)
  refine wpAny_mono (run_in1 (E := WE WF) (us := [.ref a, .ref b]) (vs := [.ref a, .ref b]) F hr hb .nil (passAt takes0 σ) I r2 h) (fun r s' q => ?_) fun _ _ z => z
  obtain ⟨z, H', I', rz, k, rfl, q⟩ := q
  cases rz
  exact ⟨k, rfl, .bl (!k), H', I', rfl, q⟩
end
end Ta

set_option Elab.async false
set_option linter.all false
set_option maxRecDepth 100000
set_option maxHeartbeats 3200000
namespace Ta
open PySem PySem.Spec PyProof.Rows L2
/-! ### x.endswith(c) -/
theorem ends_one (l : List Nat) (c : Nat) : Txt.endswith (S l) (S [c]) = decide (l.getLast? = some c) := by
  have h := StrLaws.subAt_one (S l) c ((S l).length - 1)
  have e : (S l).length = l.length := TL.len_tl (S l)
  have e1 : (S [c] : Str).length = 1 := rfl
  rw [Bool.eq_iff_iff, decide_eq_true_iff]
  unfold Txt.endswith
  rw [Bool.and_eq_true, decide_eq_true_iff, e1, List.getLast?_eq_getElem?]
  constructor
  · rintro ⟨h1, h2⟩
    have := h.mp ⟨by show (S l).length - 1 + 1 ≤ _; omega, h2⟩
    rw [e] at this
    exact this
  · intro z
    have z2 : (S l).cps.toList[(S l).length - 1]? = some c := by rw [e]; exact z
    obtain ⟨h1, h2⟩ := h.mpr z2
    have h1 : (S l).length - 1 + 1 ≤ (S l).length := h1
    obtain ⟨hlt, _⟩ := List.getElem?_eq_some_iff.mp z
    exact ⟨by omega, h2⟩
def zEnds : V → List V → Hp → VK → Prop := fun x xs H Q => match x with
  | .str a => one xs fun y => (match y with
    | .str b => (match tl b with
      | [c] => Q (.bl (decide ((tl a).getLast? = some c))) H
      | _ => False)
    | _ => False)
  | _ => False
theorem mtends : MtR X "str.endswith" zEnds := mt_imp mt_endswith fun x xs H Q h => by
  cases x with
  | str a =>
    obtain ⟨y, rfl, h⟩ := one_e h
    cases y with
    | str b =>
      have h : (match tl b with
        | [c] => Q (.bl (decide ((tl a).getLast? = some c))) H
        | _ => False) := h
      split at h
      · rename_i c e
        refine ⟨a, b, rfl, rfl, ?_⟩
        have := ends_one (tl a) c
        rw [S_tl, ← e, S_tl] at this
        rw [this]; exact h
      · exact h.elim
    | _ => exact h.elim
  | _ => exact h.elim
/-! ### str of a text, of a number -/
def zStr (K : PySem.W.Frag) : List V → Hp → VK → Prop := fun xs H Q => one xs fun x => match x with
  | .str a => Q (.str a) H
  | .int i => i.natAbs.log2 < 1920 ∧ Q (.str (toString i)) H
  | _ => False
theorem crstr {X : Cx} : CallR X (.type "str") (zStr X.K) := fun pins s σ H xs us Q I r h => by
  obtain ⟨x, rfl, h⟩ := one_e h
  cases x with
  | str a => exact SkE.call_str_str pins s σ H _ us Q I r ⟨a, rfl, h⟩
  | int i => exact call_str_int pins s σ H _ us Q I r ⟨i, rfl, h.1, h.2⟩
  | _ => exact h.elim
def zBool (K : PySem.W.Frag) : List V → Hp → VK → Prop := fun xs H Q => one xs fun x => match x with
  | .int i => Q (.bl (!decide (i = 0))) H
  | .bl k => Q (.bl k) H
  | _ => False
theorem crbool {X : Cx} : CallR X (.type "bool") (zBool X.K) := fun pins s σ H xs us Q I r h => by
  obtain ⟨x, rfl, h⟩ := one_e h
  cases x with
  | int i => exact call_bool1 pins s σ H _ us Q I r (.inl ⟨i, rfl, by
      have e : (i != 0) = !decide (i = 0) := by simp only [bne]; congr 1
      rw [e]; exact h⟩)
  | bl k => exact call_bool1 pins s σ H _ us Q I r (.inr ⟨k, rfl, h⟩)
  | _ => exact h.elim
/-! ### indexes from the end -/
theorem itm_m1 {α : Type} {l : List α} {k : α → Prop} (h : 0 < l.length) (q : ∀ (j : Nat) (hj : j < l.length), j = l.length - 1 → k l[j]) : itm l (-1) k := by
  refine itm_i (v := l[l.length - 1]) ?_ (q _ (by omega) rfl)
  have e : ixN l.length (-1) = some (l.length - 1) := by
    unfold ixN
    rw [if_neg (by omega), if_pos (by omega)]
    congr 1
    omega
  unfold atI
  rw [e]
  exact List.getElem?_eq_getElem (by omega)
theorem itm_last {α : Type} {l : List α} {x : α} {k : α → Prop} (q : k x) : itm (l ++ [x]) (-1) k := by
  refine itm_m1 (by simp) fun j hj e => ?_
  have : j = l.length := by rw [e]; simp
  subst this
  simpa using q
/-! ### while, by a measure -/
structure wn (W : Nat → St → Hp → Prop) (m : Nat) (k : (St → Hp → Prop) → Prop) : Prop where
  out : ∃ N : St → Hp → Prop, (∀ σ' H', N σ' H' → ∃ m', m' < m ∧ W m' σ' H') ∧ k N
theorem wn_i {W : Nat → St → Hp → Prop} {m : Nat} {k : (St → Hp → Prop) → Prop} (q : k fun σ' H' => Sd (∃ m', m' < m ∧ W m' σ' H')) : wn W m k := by
  refine ⟨?_⟩; exact ⟨_, fun _ _ h => sd_e h, q⟩
theorem whl_s {c : TT} {tb : TS} {D : Ends} {σ : St} {H : Hp} (W : Nat → St → Hp → Prop) (m : Nat) (h0 : W m σ H)
    (hs : ∀ m σ H, W m σ H → c σ H fun b H1 => cnd b (wn W m fun N => tb { D with nx := N, ct := N, bk := D.nx } σ H1) (D.nx σ H1)) : whl c tb D σ H := by
  refine whl_i W m h0 fun m σ H hW => ?_
  have h := hs m σ H hW
  have e : (fun (b : Bool) (H1 : Hp) => cnd b (wn W m fun N => tb { D with nx := N, ct := N, bk := D.nx } σ H1) (D.nx σ H1)) =
      fun b H1 => if b = true then ∃ N : St → Hp → Prop, (∀ σ' H', N σ' H' → ∃ m', m' < m ∧ W m' σ' H') ∧ tb { D with nx := N, ct := N, bk := D.nx } σ H1 else D.nx σ H1 := by
    funext b H1
    refine propext ⟨fun z => ?_, fun z => cnd_i (fun e => ?_) fun e => ?_⟩
    · have z := cnd_e z
      cases b with
      | true => have y := z.out; exact y
      | false => exact z
    · rw [if_pos e] at z; exact ⟨z⟩
    · rw [if_neg (by rw [e]; decide)] at z; exact z
  rw [e] at h
  exact h
end Ta

set_option Elab.async false
set_option linter.all false
set_option maxRecDepth 100000
set_option maxHeartbeats 3200000
namespace Ta
open PySem PySem.Spec PyProof.Rows L2
/-! ### comprehensions over a list whose items stand for α -/
theorem filter_takeA {α : Type} {l : List α} {f : α → Bool} {k : Nat} {c : α} (h : l[k]? = some c) : (l.take (k + 1)).filter f = (l.take k).filter f ++ (if f c = true then [c] else []) := by
  rw [List.take_succ, h]
  simp [List.filter_append, List.filter_cons]
theorem lcp_A0 {α : Type} {n : Nat} {it : Itm} {st : Hp → Prop} {l : List α} {r : α → V} {i : Nat} {tt : TT} {te : TE} {σ : St} {H1 : Hp} {Q : VK} {vs : List Nat} (hn : n = l.length) (hit : ∀ k H x H', it k H x H' → H' = H ∧ ∃ c, l[k]? = some c ∧ x = r c) (hst : ∀ D xs, H1 D = none → st (upd H1 D (.lst xs)))
    (f : α → Bool) (h : α → V) (hl : l.length < 1000000) (ht : ∀ c D H' Q', H1 D = none → c ∈ l → (∃ xs, H' = upd H1 D (.lst xs)) → Q' (f c) H' → tt ((wipe σ vs).set i (some (r c))) H' Q')
    (he : ∀ c D H' Q', H1 D = none → c ∈ l → f c = true → (∃ xs, H' = upd H1 D (.lst xs)) → Q' (h c) H' → te ((wipe σ vs).set i (some (r c))) H' Q')
    (hw : ∀ v, wipe ((wipe σ vs).set i v) vs = wipe σ vs) (q : ∀ D, H1 D = none → Q (.ref D) (upd H1 D (.lst ((l.filter f).map h)))) : lcp n it st (gName i) tt te vs σ H1 Q := by
  subst hn
  refine lcp_i (fun D k H => H = upd H1 D (.lst (((l.take k).filter f).map h))) (fun D hD => rfl) (fun D k H hD _ e => by rw [e]; exact hst D _ hD) ?_ ?_
  · rintro D k x H H' hD hk rfl hi
    obtain ⟨rfl, c, hc, rfl⟩ := hit _ _ _ _ hi
    have hm := List.mem_of_getElem? hc
    refine ⟨hw _, ht c D _ _ hD hm ⟨_, rfl⟩ ?_⟩
    cases e : f c with
    | true =>
      rw [if_pos rfl]
      refine he c D _ _ hD hm e ⟨_, rfl⟩ ⟨_, upd_at, ?_, ?_⟩
      · rw [List.length_map, sizeLine_eq]
        have h1 := List.length_filter_le f (l.take k)
        rw [List.length_take] at h1
        omega
      · rw [upd_tw, filter_takeA hc, e, if_pos rfl, List.map_append]
        rfl
    | false =>
      rw [if_neg (by simp), filter_takeA hc, e, if_neg (by simp), List.append_nil]
  · rintro D H hD rfl
    rw [List.take_length]
    exact q D hD
/-- over a list that stands -/
theorem lcp_A {α : Type} {l : List α} {r : α → V} {p : Addr} {i : Nat} {tt : TT} {te : TE} {σ : St} {H1 : Hp} {Q : VK} {vs : List Nat} (hp : H1 p = some (.lst (l.map r)))
    (f : α → Bool) (h : α → V) (hl : l.length < 1000000) (ht : ∀ c D H' Q', H1 D = none → c ∈ l → (∃ xs, H' = upd H1 D (.lst xs)) → Q' (f c) H' → tt ((wipe σ vs).set i (some (r c))) H' Q')
    (he : ∀ c D H' Q', H1 D = none → c ∈ l → f c = true → (∃ xs, H' = upd H1 D (.lst xs)) → Q' (h c) H' → te ((wipe σ vs).set i (some (r c))) H' Q')
    (hw : ∀ v, wipe ((wipe σ vs).set i v) vs = wipe σ vs) (q : ∀ D, H1 D = none → Q (.ref D) (upd H1 D (.lst ((l.filter f).map h)))) : lcp (l.map r).length (itL (l.map r)) (fun H' => H' p = some (.lst (l.map r))) (gName i) tt te vs σ H1 Q := by
  refine lcp_A0 (l := l) (r := r) (by rw [List.length_map]) (fun k H x H' z => ⟨z.1, ?_⟩) (fun D xs hD => upd_fr hD hp) f h hl ht he hw q
  have h2 := z.2
  rw [List.getElem?_map] at h2
  cases e : l[k]? with
  | none => rw [e] at h2; cases h2
  | some c => rw [e] at h2; exact ⟨c, rfl, (Option.some.inj h2).symm⟩
/-- over range(lo, lo + n) -/
theorem lcp_R {n : Nat} {lo : Int} {i : Nat} {tt : TT} {te : TE} {σ : St} {H1 : Hp} {Q : VK} {vs : List Nat}
    (f : Nat → Bool) (h : Nat → V) (hl : n < 1000000) (ht : ∀ c D H' Q', H1 D = none → c < n → (∃ xs, H' = upd H1 D (.lst xs)) → Q' (f c) H' → tt ((wipe σ vs).set i (some (.int (lo + c)))) H' Q')
    (he : ∀ c D H' Q', H1 D = none → c < n → f c = true → (∃ xs, H' = upd H1 D (.lst xs)) → Q' (h c) H' → te ((wipe σ vs).set i (some (.int (lo + c)))) H' Q')
    (hw : ∀ v, wipe ((wipe σ vs).set i v) vs = wipe σ vs) (q : ∀ D, H1 D = none → Q (.ref D) (upd H1 D (.lst (((List.range n).filter f).map h)))) : lcp n (itR lo) (fun _ => True) (gName i) tt te vs σ H1 Q := by
  have hr : (List.range n).length = n := List.length_range
  have hm : ∀ {c : Nat} {C : Prop}, c < n ∨ C → c < n ∨ C := fun h => h
  refine lcp_i (fun D k H => H = upd H1 D (.lst ((((List.range n).take k).filter f).map h))) (fun D hD => rfl) (fun _ _ _ _ _ _ => trivial) ?_ ?_
  · rintro D k x H H' hD hk rfl ⟨rfl, rfl⟩
    have hc : (List.range n)[k]? = some k := by rw [List.getElem?_range hk]
    refine ⟨hw _, ht k D _ _ hD hk ⟨_, rfl⟩ ?_⟩
    cases e : f k with
    | true =>
      rw [if_pos rfl]
      refine he k D _ _ hD hk e ⟨_, rfl⟩ ⟨_, upd_at, ?_, ?_⟩
      · rw [List.length_map, sizeLine_eq]
        have h1 := List.length_filter_le f ((List.range n).take k)
        rw [List.length_take] at h1
        omega
      · rw [upd_tw, filter_takeA hc, e, if_pos rfl, List.map_append]
        rfl
    | false =>
      rw [if_neg (by simp), filter_takeA hc, e, if_neg (by simp), List.append_nil]
  · rintro D H hD rfl
    rw [List.take_of_length_le (by rw [hr]; exact Nat.le_refl _)]
    exact q D hD
end Ta

set_option Elab.async false
set_option linter.all false
set_option maxRecDepth 100000
set_option maxHeartbeats 3200000
namespace Ta
open PySem PySem.Spec PyProof.Rows L2
/-- a comprehension whose test and element may lay objects -/
theorem lcp_K0 {α : Type} {n : Nat} {it : Itm} {st : Hp → Prop} {l : List α} {r : α → V} {i : Nat} {tt : TT} {te : TE} {σ : St} {H1 : Hp} {Q : VK} {vs : List Nat} (hn : n = l.length) (hit : ∀ k H x H', it k H x H' → H' = H ∧ ∃ c, l[k]? = some c ∧ x = r c) (hst : ∀ H', Kp [] H1 H' → st H')
    (f : α → Bool) (h : α → V) (hl : l.length < 1000000) (ht : ∀ c H' Q', c ∈ l → Kp [] H1 H' → (∀ H2, Kp [] H' H2 → Q' (f c) H2) → tt ((wipe σ vs).set i (some (r c))) H' Q')
    (he : ∀ c H' Q', c ∈ l → f c = true → Kp [] H1 H' → (∀ H2, Kp [] H' H2 → Q' (h c) H2) → te ((wipe σ vs).set i (some (r c))) H' Q')
    (hw : ∀ v, wipe ((wipe σ vs).set i v) vs = wipe σ vs) (q : ∀ D H', H1 D = none → Kp [] H1 H' → H' D = some (.lst ((l.filter f).map h)) → Q (.ref D) H') : lcp n it st (gName i) tt te vs σ H1 Q := by
  subst hn
  refine lcp_i (fun D k H => Kp [] H1 H ∧ H D = some (.lst (((l.take k).filter f).map h))) (fun D hD => ⟨Kp.rfl'.new hD, upd_at⟩) (fun D k H hD _ e => hst H e.1) ?_ ?_
  · rintro D k x H H' hD hk ⟨kk, hDD⟩ hi
    obtain ⟨rfl, c, hc, rfl⟩ := hit _ _ _ _ hi
    have hm := List.mem_of_getElem? hc
    refine ⟨hw _, ht c _ _ hm kk fun H2 k2 => ?_⟩
    cases e : f c with
    | true =>
      rw [if_pos rfl]
      refine he c _ _ hm e (kk.trans k2) fun H3 k3 => ⟨_, k3.get0 (k2.get0 hDD), ?_, ((kk.trans k2).trans k3).own hD, ?_⟩
      · rw [List.length_map, sizeLine_eq]
        have h1 := List.length_filter_le f (l.take k)
        rw [List.length_take] at h1
        omega
      · rw [filter_takeA hc, e, if_pos rfl, List.map_append]
        exact upd_at
    | false =>
      rw [if_neg (by simp)]
      refine ⟨kk.trans k2, ?_⟩
      rw [filter_takeA hc, e, if_neg (by simp), List.append_nil]
      exact k2.get0 hDD
  · rintro D H hD ⟨kk, hDD⟩
    rw [List.take_length] at hDD
    exact q D H hD kk hDD
theorem lcp_K {α : Type} {l : List α} {r : α → V} {p : Addr} {i : Nat} {tt : TT} {te : TE} {σ : St} {H1 : Hp} {Q : VK} {vs : List Nat} (hp : H1 p = some (.lst (l.map r)))
    (f : α → Bool) (h : α → V) (hl : l.length < 1000000) (ht : ∀ c H' Q', c ∈ l → Kp [] H1 H' → (∀ H2, Kp [] H' H2 → Q' (f c) H2) → tt ((wipe σ vs).set i (some (r c))) H' Q')
    (he : ∀ c H' Q', c ∈ l → f c = true → Kp [] H1 H' → (∀ H2, Kp [] H' H2 → Q' (h c) H2) → te ((wipe σ vs).set i (some (r c))) H' Q')
    (hw : ∀ v, wipe ((wipe σ vs).set i v) vs = wipe σ vs) (q : ∀ D H', H1 D = none → Kp [] H1 H' → H' D = some (.lst ((l.filter f).map h)) → Q (.ref D) H') : lcp (l.map r).length (itL (l.map r)) (fun H' => H' p = some (.lst (l.map r))) (gName i) tt te vs σ H1 Q := by
  refine lcp_K0 (l := l) (r := r) (by rw [List.length_map]) (fun k H x H' z => ⟨z.1, ?_⟩) (fun H' kk => kk.get0 hp) f h hl ht he hw q
  have h2 := z.2
  rw [List.getElem?_map] at h2
  cases e : l[k]? with
  | none => rw [e] at h2; cases h2
  | some c => rw [e] at h2; exact ⟨c, rfl, (Option.some.inj h2).symm⟩
end Ta

set_option Elab.async false
set_option linter.all false
set_option maxRecDepth 100000
set_option maxHeartbeats 2000000
namespace Ta
open PySem PySem.Spec PyProof.Rows L2
open L2H (RoomH PinOk cxH inv_startH roomH_of)

/-! ### calls of quiet defs (no loop, nothing raised) within an except suite -/
theorem _root_.L2H.RoomH.units {k : Nat} {A : Around} (r : RoomH k A) : A.units + 64 < cLine := by
  have := r.un
  omega
/-- what a quiet def promises, whatever is handled -/
structure FnQuO (P : Program) (w : World) (K : PySem.W.Frag) (mg : Str → Option Value) (base : Heap) (k : Nat) (f : Addr) (fd : FuncData) (ps : List Str) (sp : Sp) : Prop where
  qlen : ∀ vs H Q E, sp vs H Q E → vs.length = ps.length
  qrun : ∀ (A : Around) (outer : List Env) (s : Shared) (H : Hp) (args : Args) (us : List Value) (vs : List V) (Q : VK) (E : XK) (p : Addr × Obj),
    RoomH k A → PinOk outer H s p → Env0 P w K mg base A outer s H → BindsTo s fd args (ps.zip us) → Vals vs us → sp vs H Q E →
      codeAny (model P w) A (.call (.ref f) args) (CR (L2.CX P w) outer P w H s Q E) s
section
variable {P : Program} {w : World} {K : PySem.W.Frag} {mg : Str → Option Value} {base : Heap} {x qual : Str} {params : Arguments} {body : List Stmt} {scope : Scope} {dvs : List V} {kws : List (Str × V)} {f : Addr} {fd : FuncData}
theorem def_okQ {N ps : List Str} {k : Nat} {sp : Sp} (F : FunD K x qual params body scope dvs kws f fd) (S : FnScope N ps scope)
    (len : ∀ vs H Q E, sp vs H Q E → vs.length = ps.length) (t : WX → TS)
    (term : ∀ (cdv : Value) (A : Around) (outer : List Env) (s : Shared) (H : Hp) (E : XK) (p : Addr × Obj),
      RoomH k (A.deeper (envOfC qual scope s.heap.objs.size f cdv)) →
        PSs (cxH (L2.CX P w) P w K mg base N qual scope f cdv A outer s H E p) body (t (WD E)))
    (rd : ∀ vs H Q E, sp vs H Q E → t (WD E) (EndD Q) (start N vs) H) : FnQuO P w K mg base (k + 1) f fd ps sp := by
  obtain ⟨oc, od, dV, kV, doc, pm, an, cdv, ct, osl, rfl, fnd, cdi, _, _⟩ := F.ex
  refine ⟨len, fun A outer s H args us vs Q E p rm pin env0 bnd vals spc => ?_⟩
  have len1 := len _ _ _ _ spc
  have kIn := env0.mod.kin.keeps fun b o e => (env0.bs b o e).1
  have noLim := env0.mod.nolimit.keeps fun b o e => (env0.bs b o e).1
  have kinds : ∀ y ∈ ps.zip us, scope.names.lookup y.1 = some .local ∨
      (scope.names.lookup y.1 = some .cell ∧ ((cellsFrom (s.heap.objs.size + 1) scope.names []).lookup y.1).isSome = true) := by
    rintro ⟨n, v⟩ hy
    rcases S.par n (List.of_mem_zip hy).1 with z | z
    · exact Or.inl z
    · exact Or.inr ⟨z, PySem.W.cellsFrom_some _ _ _ (Or.inl z)⟩
  refine codeAny_call_function rm.depth (kIn _ _ fnd) rfl S.co S.gen rfl (PySem.W.codeRec_of kIn cdi) (bnd _ _ _ _ ?_)
  refine wpAny_newFunctionEnv_cells S.kind kinds fun env1 eenv s2 stt => ?_
  subst eenv
  refine ⟨noLim.keeps stt.toInCall.keep, codeAny_func ?_⟩
  have inv := inv_startH (CX := L2.CX P w) (E := E) S pin env0 len1 vals stt
  refine wpAny_mono ((term cdv A outer s H E p (rm.deeper _)).run [] s2 (start N vs) H _ inv (rd vs H Q E spc)) ?_ (fun _ _ z => z)
  intro flow s3 res
  match flow, res with
  | .ret u, res =>
    obtain ⟨v, _, H3, inv3, rel, q⟩ := res
    exact ⟨v, H3, inv3.os, inv3.bare, inv3.base, inv3.hok, rel, q⟩
  | .next, res =>
    obtain ⟨_, H3, inv3, q⟩ := res
    exact ⟨.non, H3, inv3.os, inv3.bare, inv3.base, inv3.hok, rfl, q⟩
  | .brk, res => exact (match res with | ⟨_, _, _, z⟩ => z.elim)
  | .cont, res => exact (match res with | ⟨_, _, _, z⟩ => z.elim)
variable (P w K mg base) in
structure FnQu (x : Str) (lv : Nat) (sp : Sp) : Prop where
  qex : ∃ (f : Addr) (fd : FuncData) (ps : List Str), FnQuO P w K mg base lv f fd ps sp ∧ mg x = some (.ref f) ∧ PySem.W.keepIn K (.ref f) = true ∧ Binds K fd ps []
end
section
variable {X : Cx} {x : Str} {p pos : Pos} {e : Expr} {es : List Expr} {t : TA} {lv k : Nat} {sp : Sp} {W : WX} {A0 : Around}
theorem pcallQ (F : FnQu X.prog X.w X.K X.mg X.base x lv sp) (rm : RoomH lv X.A) (pn : ∃ z : Addr × Obj, z ∈ X.pn) (tk : Takes X W) (args : PA X (e :: es) t) (hg : Gl X x := by rfl)
    (hdb : (x == ("__debug__" : Str)) = false := by decide +kernel)
    (he : starEach (e :: es) X.env = (false, eval e X.env) :: starEach es X.env := by rfl)
    (hpl : (backTo pos (starEach es X.env)).any (·.1) = false := by rfl) :
    PE X (.Call (.Name x p) (e :: es) [] pos) (tCal sp [] W t) := by
  obtain ⟨f, fd, ps, F, glo, kp, bnds⟩ := F.qex
  refine ⟨fun pins s σ H Q I h => wpAny_Call_Name_kw (ld_glob I hg glo ?_ hdb)⟩
  refine PySem.W.callWith_K (h₀ := X.base) I.ok.mod.kin kp (thn (args.run pos pins s σ H _ I h) fun us s1 ⟨vs, H1, I1, vals, q⟩ => ⟨I1.kIn, ?_⟩) he hpl
  dsimp only at q
  rw [List.append_nil] at q
  obtain ⟨z, hz⟩ := pn
  have lenU : us.length = ps.length := by
    rw [← vals.length]
    exact F.qlen _ _ _ _ q
  have bn := bnds s1 us I1.kIn (by rw [List.append_nil]; exact lenU)
  rw [List.append_nil] at bn
  obtain ⟨z1, z2, z3, z4, z5⟩ := I1.pin z (List.mem_append_left _ hz)
  have pinOk : PinOk X.stack H1 s1 z := ⟨z1, z2, fun hm => (List.mem_cons.mp (I1.stkSub z.1 hm)).elim z3 z4, z5⟩
  refine wpAny_call (codeAny_mono (F.qrun X.A X.stack s1 H1 ⟨us, []⟩ us vs Q (WE W σ) z rm pinOk I1.env0 bn vals q) ?_)
  intro r s' hr
  match r, hr with
  | .error e, hr => exact passAt tk σ pins H1 s1 e s' I1 hr
  | .ok (.ret u), hr => exact I1.after hr
  | .ok .next, hr => exact hr.elim
  | .ok .brk, hr => exact hr.elim
  | .ok .cont, hr => exact hr.elim
theorem roomQ {a : Option Value} (r : Room k A0) (h : lv ≤ k) : RoomH lv (A0.mark a) := by
  have r := roomH_of (r.mono h)
  exact ⟨r.dp, r.un⟩
/-- the wish of such a def's context -/
theorem takesQ {P : Program} {w : World} {K : PySem.W.Frag} {mg : Str → Option Value} {base : Heap} {N : List Str} {qual : Str} {scope : Scope} {f : Addr} {cdv : Value} {A : Around} {outer : List Env} {s : Shared} {H : Hp} {E : XK} {z : Addr × Obj} :
    Takes (cxH (L2.CX P w) P w K mg base N qual scope f cdv A outer s H E z) (WD E) := takes_of rfl rfl rfl rfl
end
end Ta

set_option Elab.async false
set_option linter.all false
set_option maxRecDepth 100000
set_option maxHeartbeats 2000000
namespace Ta
open PySem PySem.Spec PyProof.Rows L2
open Builtin.SmallTypes (nextOf)

/-! ### zip of two iterators of any kinds -/
/-- the iterator at it gives n items; what it stands on lies at fp -/
structure Nxt (prog : Program) (w : World) (it : Addr) (fp : List Addr) (n : Nat) (St : Nat → Heap → Prop) (Y : Nat → Value → Prop) : Prop where
  nitem : ∀ (A : Around) (i : Nat) (s : Shared) (Q : Value → Shared → Prop) (E : Value → Shared → Prop), i < n → St i s.heap →
    (∀ u h2 t2, Y i u → St (i + 1) h2 → Heap.SameBut it s.heap h2 → Q u { s with heap := h2, toks := t2 }) → wpAny (model prog w) A (nextOf (.ref it)) Q E s
  ndone : ∀ (A : Around) (s : Shared) (Q : Value → Shared → Prop) (E : Value → Shared → Prop), A.handled = none → St n s.heap →
    (∀ h2 e, Heap.ExtBut it s.heap h2 → (∃ o, h2.get? e = some o ∧ o.cls = .type "StopIteration") → E (.ref e) { s with heap := h2 }) → wpAny (model prog w) A (nextOf (.ref it)) Q E s
  nkeep : ∀ i h h2, St i h → (∀ b ∈ it :: fp, ∀ o, h.get? b = some o → h2.get? b = some o) → St i h2
theorem nx_ascii {prog : Program} {w : World} {it : Addr} {x : Str} {t : Tok} : Nxt prog w it [] x.cps.size (fun i h => h.IsStrIter it "str_ascii_iterator" x t i) (fun i u => ∃ c t', x.cps[i]? = some c ∧ u = .str ⟨#[c]⟩ t') where
  nitem := fun A i s Q E hi st q => by
    have e : x.cps[i]? = some x.cps[i] := by simp [hi]
    exact wpAny_nextOf_ascii_item st e fun h2 st2 sb => q _ h2 _ ⟨_, _, e, rfl⟩ st2 sb
  ndone := fun A s Q E hh st q => wpAny_nextOf_ascii_end hh st (by simp) q
  nkeep := fun i h h2 ⟨o, ho, r⟩ k => ⟨o, k it List.mem_cons_self _ ho, r⟩
theorem nx_list {prog : Program} {w : World} {it l : Addr} {xs : Array Value} : Nxt prog w it [l] xs.size (fun i h => h.IsListIter it l i ∧ h.IsList l xs) (fun i u => xs[i]? = some u) where
  nitem := fun A i s Q E hi ⟨st, sl⟩ q => by
    have e : xs[i]? = some xs[i] := by simp [hi]
    refine wpAny_nextOf_list_item st sl e fun h2 st2 sb => q _ h2 s.toks e ⟨st2, ?_⟩ sb
    by_cases el : l = it
    · obtain ⟨o, ho, hc, _⟩ := st
      obtain ⟨o', ho', hc', _⟩ := sl
      rw [el, ho] at ho'
      cases ho'
      rw [hc] at hc'
      exact absurd hc' (by simp)
    · obtain ⟨o, ho, r⟩ := sl
      exact ⟨o, (sb.2 l el).trans ho, r⟩
  ndone := fun A s Q E hh ⟨st, sl⟩ q => wpAny_nextOf_list_end hh st sl (by simp) q
  nkeep := fun i h h2 ⟨⟨o, ho, r⟩, o', ho', r'⟩ k => ⟨⟨o, k it List.mem_cons_self _ ho, r⟩, o', k l (by simp) _ ho', r'⟩
theorem nx_tup {prog : Program} {w : World} {it l : Addr} {xs : Array Value} : Nxt prog w it [l] xs.size (fun i h => h.IsTupleIter it l i ∧ h.IsTuple l xs) (fun i u => xs[i]? = some u) where
  nitem := fun A i s Q E hi ⟨st, sl⟩ q => by
    have e : xs[i]? = some xs[i] := by simp [hi]
    refine RZ.nextOf_tuple_item st sl e fun h2 st2 sb => q _ h2 s.toks e ⟨st2, ?_⟩ sb
    by_cases el : l = it
    · obtain ⟨o, ho, hc, _⟩ := st
      obtain ⟨o', ho', hc', _⟩ := sl
      rw [el, ho] at ho'
      cases ho'
      rw [hc] at hc'
      exact absurd hc' (by simp)
    · obtain ⟨o, ho, r⟩ := sl
      exact ⟨o, (sb.2 l el).trans ho, r⟩
  ndone := fun A s Q E hh ⟨st, sl⟩ q => RZ.nextOf_tuple_end hh st sl (by simp) q
  nkeep := fun i h h2 ⟨⟨o, ho, r⟩, o', ho', r'⟩ k => ⟨⟨o, k it List.mem_cons_self _ ho, r⟩, o', k l (by simp) _ ho', r'⟩
/-- all apart -/
structure ZAp (z TI TO i1 i2 : Addr) (f1 f2 : List Addr) : Prop where
  n1 : TI ≠ z
  n2 : TO ≠ z
  n3 : i1 ≠ z
  n4 : i2 ≠ z
  n5 : TI ≠ TO
  n6 : TI ≠ i1
  n7 : TI ≠ i2
  n8 : TO ≠ i1
  n9 : TO ≠ i2
  na : i1 ≠ i2
  nf1 : ∀ b ∈ f1, b ≠ z ∧ b ≠ TO ∧ b ≠ i2
  nf2 : ∀ b ∈ f2, b ≠ z ∧ b ≠ TO ∧ b ≠ i1
section
variable {prog : Program} {w : World} {A : Around} {E : Value → Shared → Prop} {s : Shared} {z TI TO i1 i2 : Addr} {f1 f2 : List Addr} {n1 n2 : Nat} {S1 S2 : Nat → Heap → Prop} {Y1 Y2 : Nat → Value → Prop} {k1 k2 : Nat} {a b : Value}
theorem zp_item {Q : Value → Shared → Prop} (N1 : Nxt prog w i1 f1 n1 S1 Y1) (N2 : Nxt prog w i2 f2 n2 S2 Y2) (D : ZAp z TI TO i1 i2 f1 f2) (pz : IsZip s.heap z TI TO .none) (pTI : IsPair s.heap TI (.ref i1) (.ref i2)) (pTO : IsPair s.heap TO a b)
    (st1 : S1 k1 s.heap) (st2 : S2 k2 s.heap) (l1 : k1 < n1) (l2 : k2 < n2)
    (hQ : ∀ u v h2 t2, Y1 k1 u → Y2 k2 v → IsZip h2 z TI TO (rawInt s.heap.objs.size) → IsPair h2 TO u v → S1 (k1 + 1) h2 → S2 (k2 + 1) h2 → IsPair h2 s.heap.objs.size u v → h2.objs.size = s.heap.objs.size + 1 →
      (∀ c o, c ≠ z → c ≠ TO → c ≠ i1 → c ≠ i2 → s.heap.get? c = some o → h2.get? c = some o) → Q (.ref s.heap.objs.size) { s with heap := h2, toks := t2 }) :
    wpAny (model prog w) A (Builtin.«zip.__next__» ⟨[.ref z], []⟩) (fun fin s2 => ∃ v, fin = .done (.ret v) ∧ Q v s2) E s := by
  show wpAny _ _ (field (.ref z) 2 >>= _) _ _ _
  refine wpAny_bind (wpAny_field pz rfl (x := .bool false) rfl ?_)
  show wpAny _ _ (field (.ref z) 3 >>= _) _ _ _
  refine wpAny_bind (wpAny_field pz rfl (x := .ref TI) rfl (wpAny_bind (wpAny_seqItems pTI rfl ?_)))
  show wpAny _ _ (Builtin.SmallTypes.ownedTupleIsFree (.ref z) >>= _) _ _ _
  refine wpAny_bind ?_; unfold Builtin.SmallTypes.ownedTupleIsFree
  refine wpAny_bind (wpAny_field pz rfl (x := .none) rfl (wpAny_pure ?_))
  simp only [if_true]
  refine wpAny_bind (wpAny_rule (wpAny_bind (wpAny_field pz rfl (x := .ref TO) rfl (wpAny_bind (wpAny_setField_rec pz (by simp) fun g1 z1 s1 => ?_)))))
  replace z1 : IsZip g1 z TI TO .ellipsis := z1
  refine wpAny_bind ?_; simp only [List.zipIdx_cons, List.zipIdx_nil, List.forIn_cons, List.forIn_nil]
  refine wpAny_bind (wpAny_bind (wpAny_onRaise ?_))
  show wpAny _ _ (nextOf (.ref i1) >>= _) _ _ _
  have a1 : S1 k1 g1 := N1.nkeep _ _ _ st1 fun c hc o e => s1.extBut _ _ (by rcases List.mem_cons.mp hc with rfl | hc; exact D.n3; exact (D.nf1 c hc).1) e
  refine wpAny_bind (N1.nitem _ _ _ _ _ l1 a1 fun u g2 t2 y1 b1 s2 => wpAny_pure ?_)
  have o2 : IsPair g2 TO a b := s2.extBut _ _ D.n8 (s1.extBut _ _ D.n2 pTO)
  refine wpAny_bind (wpAny_seqItems o2 rfl (wpAny_bind (wpAny_updateSeq_pair o2 fun g3 o3 s3 => ?_)))
  replace o3 : IsPair g3 TO u b := o3
  refine wpAny_bind (wpAny_letGo (wpAny_pure (wpAny_bind (wpAny_bind (wpAny_onRaise ?_)))))
  show wpAny _ _ (nextOf (.ref i2) >>= _) _ _ _
  have a3 : S2 k2 g3 := N2.nkeep _ _ _ st2 fun c hc o e => by
    rcases List.mem_cons.mp hc with rfl | hc
    · exact s3.extBut _ _ D.n9.symm (s2.extBut _ _ D.na.symm (s1.extBut _ _ D.n4 e))
    · obtain ⟨q1, q2, q3⟩ := D.nf2 c hc
      exact s3.extBut _ _ q2 (s2.extBut _ _ q3 (s1.extBut _ _ q1 e))
  refine wpAny_bind (N2.nitem _ _ _ _ _ l2 a3 fun v g4 t4 y2 b4 s4 => wpAny_pure ?_)
  have o4 : IsPair g4 TO u b := s4.extBut _ _ D.n9 o3
  refine wpAny_bind (wpAny_seqItems o4 rfl (wpAny_bind (wpAny_updateSeq_pair o4 fun g5 o5 s5 => ?_)))
  replace o5 : IsPair g5 TO u v := o5
  refine wpAny_bind (wpAny_letGo (wpAny_pure (wpAny_pure (wpAny_bind (wpAny_seqItems o5 rfl (wpAny_bind (wpAny_newTuple ?_)))))))
  have sz5 : g5.objs.size = s.heap.objs.size := by rw [s5.1, s4.1, s3.1, s2.1, s1.1]
  have z5 : IsZip g5 z TI TO .ellipsis := s5.extBut _ _ D.n2.symm (s4.extBut _ _ D.n4.symm (s3.extBut _ _ D.n2.symm (s2.extBut _ _ D.n3.symm z1)))
  have up5 : ∀ c o, c ≠ z → c ≠ TO → c ≠ i1 → c ≠ i2 → s.heap.get? c = some o → g5.get? c = some o := fun c o c1 c2 c3 c4 e =>
    s5.extBut _ _ c2 (s4.extBut _ _ c4 (s3.extBut _ _ c2 (s2.extBut _ _ c3 (s1.extBut _ _ c1 e))))
  have b5 : S1 (k1 + 1) g5 := N1.nkeep _ _ _ b1 fun c hc o e => by
    rcases List.mem_cons.mp hc with rfl | hc
    · exact s5.extBut _ _ D.n8.symm (s4.extBut _ _ D.na (s3.extBut _ _ D.n8.symm e))
    · obtain ⟨q1, q2, q3⟩ := D.nf1 c hc
      exact s5.extBut _ _ q2 (s4.extBut _ _ q3 (s3.extBut _ _ q2 e))
  have c5 : S2 (k2 + 1) g5 := N2.nkeep _ _ _ b4 fun c hc o e => by
    rcases List.mem_cons.mp hc with rfl | hc
    · exact s5.extBut _ _ D.n9.symm e
    · exact s5.extBut _ _ (D.nf2 c hc).2.1 e
  have zlt : z < g5.objs.size := Heap.lt_size z5
  show wpAny _ _ (Builtin.SmallTypes.ownedTupleHandOut (.ref z) (.ref g5.objs.size) >>= _) _ _ _
  refine wpAny_bind ?_; unfold Builtin.SmallTypes.ownedTupleHandOut
  have z6 : IsZip (g5.push { cls := .type "tuple", data := .seq #[u, v] }) z TI TO .ellipsis := Heap.get?_push_of_some _ z5
  refine wpAny_bind (wpAny_setField_rec z6 (by simp) fun g7 z7 s7 => ?_)
  replace z7 : IsZip g7 z TI TO (rawInt g5.objs.size) := z7
  refine wpAny_setField_rec z7 (by simp) fun g8 z8 s8 => ?_
  replace z8 : IsZip g8 z TI TO (rawInt g5.objs.size) := z8
  have up : ∀ c o, c ≠ z → g5.get? c = some o → g8.get? c = some o := fun c o c1 e => s8.extBut _ _ c1 (s7.extBut _ _ c1 (Heap.get?_push_of_some _ e))
  have t8 : IsPair g8 g5.objs.size u v := s8.extBut _ _ (Nat.ne_of_gt zlt) (s7.extBut _ _ (Nat.ne_of_gt zlt) (Heap.get?_push_size _ rfl))
  have sz8 : g8.objs.size = g5.objs.size + 1 := by rw [s8.1, s7.1, Heap.size_push]
  have b8 : S1 (k1 + 1) g8 := N1.nkeep _ _ _ b5 fun c hc o e => up c o (by rcases List.mem_cons.mp hc with rfl | hc; exact D.n3; exact (D.nf1 c hc).1) e
  have c8 : S2 (k2 + 1) g8 := N2.nkeep _ _ _ c5 fun c hc o e => up c o (by rcases List.mem_cons.mp hc with rfl | hc; exact D.n4; exact (D.nf2 c hc).1) e
  rw [sz5] at z8 t8 sz8
  refine wpAny_pure ⟨_, rfl, ?_⟩
  show Q (.ref g5.objs.size) _
  rw [sz5]
  exact hQ u v g8 _ y1 y2 z8 (up _ _ D.n2 o5) b8 c8 t8 sz8 fun c o c1 c2 c3 c4 e => up c o c1 (up5 c o c1 c2 c3 c4 e)
theorem zp_done {Q : Fin → Shared → Prop} (hh : A.handled = none) (N1 : Nxt prog w i1 f1 n1 S1 Y1) (N2 : Nxt prog w i2 f2 n2 S2 Y2) (D : ZAp z TI TO i1 i2 f1 f2) (pz : IsZip s.heap z TI TO .none) (pTI : IsPair s.heap TI (.ref i1) (.ref i2)) (pTO : IsPair s.heap TO a b)
    (st1 : S1 k1 s.heap) (st2 : S2 k2 s.heap) (l1 : k1 ≤ n1) (l2 : k2 ≤ n2) (le : k1 = n1 ∨ k2 = n2)
    (hE : ∀ h2 e t2, (∀ c o, c ≠ z → c ≠ TO → c ≠ i1 → c ≠ i2 → s.heap.get? c = some o → h2.get? c = some o) → (∃ o, h2.get? e = some o ∧ o.cls = .type "StopIteration") → E (.ref e) { s with heap := h2, toks := t2 }) :
    wpAny (model prog w) A (Builtin.«zip.__next__» ⟨[.ref z], []⟩) Q E s := by
  show wpAny _ _ (field (.ref z) 2 >>= _) _ _ _
  refine wpAny_bind (wpAny_field pz rfl (x := .bool false) rfl ?_)
  show wpAny _ _ (field (.ref z) 3 >>= _) _ _ _
  refine wpAny_bind (wpAny_field pz rfl (x := .ref TI) rfl (wpAny_bind (wpAny_seqItems pTI rfl ?_)))
  show wpAny _ _ (Builtin.SmallTypes.ownedTupleIsFree (.ref z) >>= _) _ _ _
  refine wpAny_bind ?_; unfold Builtin.SmallTypes.ownedTupleIsFree
  refine wpAny_bind (wpAny_field pz rfl (x := .none) rfl (wpAny_pure ?_))
  simp only [if_true]
  refine wpAny_bind (wpAny_rule (wpAny_bind (wpAny_field pz rfl (x := .ref TO) rfl (wpAny_bind (wpAny_setField_rec pz (by simp) fun g1 z1 s1 => ?_)))))
  replace z1 : IsZip g1 z TI TO .ellipsis := z1
  refine wpAny_bind ?_; simp only [List.zipIdx_cons, List.zipIdx_nil, List.forIn_cons, List.forIn_nil]
  refine wpAny_bind (wpAny_bind (wpAny_onRaise ?_))
  show wpAny _ _ (nextOf (.ref i1) >>= _) _ _ _
  have a1 : S1 k1 g1 := N1.nkeep _ _ _ st1 fun c hc o e => s1.extBut _ _ (by rcases List.mem_cons.mp hc with rfl | hc; exact D.n3; exact (D.nf1 c hc).1) e
  by_cases e1 : k1 = n1
  · subst e1
    refine wpAny_bind (N1.ndone _ _ _ _ hh a1 fun g2 e s2 ⟨oe, hoe, hce⟩ => ?_)
    have z2 : IsZip g2 z TI TO .ellipsis := s2 _ _ D.n3.symm z1
    have ez : e ≠ z := fun q => by
      subst q
      rw [z2] at hoe
      cases hoe
      simp at hce
    exact wpAny_setField_rec z2 (by simp) fun g3 _ s3 => hE g3 e _ (fun c o c1 _ c3 _ q => s3.extBut _ _ c1 (s2 _ _ c3 (s1.extBut _ _ c1 q))) ⟨oe, s3.extBut _ _ ez hoe, hce⟩
  · have e2 : k2 = n2 := le.resolve_left e1
    subst e2
    refine wpAny_bind (N1.nitem _ _ _ _ _ (by omega) a1 fun u g2 t2 y1 b1 s2 => wpAny_pure ?_)
    have o2 : IsPair g2 TO a b := s2.extBut _ _ D.n8 (s1.extBut _ _ D.n2 pTO)
    refine wpAny_bind (wpAny_seqItems o2 rfl (wpAny_bind (wpAny_updateSeq_pair o2 fun g3 o3 s3 => ?_)))
    refine wpAny_bind (wpAny_letGo (wpAny_pure (wpAny_bind (wpAny_bind (wpAny_onRaise ?_)))))
    show wpAny _ _ (nextOf (.ref i2) >>= _) _ _ _
    have a3 : S2 k2 g3 := N2.nkeep _ _ _ st2 fun c hc o e => by
      rcases List.mem_cons.mp hc with rfl | hc
      · exact s3.extBut _ _ D.n9.symm (s2.extBut _ _ D.na.symm (s1.extBut _ _ D.n4 e))
      · obtain ⟨q1, q2, q3⟩ := D.nf2 c hc
        exact s3.extBut _ _ q2 (s2.extBut _ _ q3 (s1.extBut _ _ q1 e))
    refine wpAny_bind (N2.ndone _ _ _ _ hh a3 fun g4 e s4 ⟨oe, hoe, hce⟩ => ?_)
    have z4 : IsZip g4 z TI TO .ellipsis := s4 _ _ D.n4.symm (s3.extBut _ _ D.n2.symm (s2.extBut _ _ D.n3.symm z1))
    have ez : e ≠ z := fun q => by
      subst q
      rw [z4] at hoe
      cases hoe
      simp at hce
    exact wpAny_setField_rec z4 (by simp) fun g5 _ s5 => hE g5 e _ (fun c o c1 c2 c3 c4 q => s5.extBut _ _ c1 (s4 _ _ c4 (s3.extBut _ _ c2 (s2.extBut _ _ c3 (s1.extBut _ _ c1 q))))) ⟨oe, s5.extBut _ _ ez hoe, hce⟩
theorem pyNext_zp_item {Q : Option Value → Shared → Prop} (N1 : Nxt prog w i1 f1 n1 S1 Y1) (N2 : Nxt prog w i2 f2 n2 S2 Y2) (D : ZAp z TI TO i1 i2 f1 f2) (pz : IsZip s.heap z TI TO .none) (pTI : IsPair s.heap TI (.ref i1) (.ref i2)) (pTO : IsPair s.heap TO a b)
    (st1 : S1 k1 s.heap) (st2 : S2 k2 s.heap) (l1 : k1 < n1) (l2 : k2 < n2)
    (hQ : ∀ u v h2 t2, Y1 k1 u → Y2 k2 v → IsZip h2 z TI TO (rawInt s.heap.objs.size) → IsPair h2 TO u v → S1 (k1 + 1) h2 → S2 (k2 + 1) h2 → IsPair h2 s.heap.objs.size u v → h2.objs.size = s.heap.objs.size + 1 →
      (∀ c o, c ≠ z → c ≠ TO → c ≠ i1 → c ≠ i2 → s.heap.get? c = some o → h2.get? c = some o) → Q (some (.ref s.heap.objs.size)) { s with heap := h2, toks := t2 }) :
    wpAny (model prog w) A (pyNext (.ref z)) Q E s := by
  have tz : s.TypeIs (.ref z) "zip" := ⟨_, pz, rfl⟩
  unfold pyNext
  exact wpAny_bind (wpAny_attempt (wpAny_callSpecial?_slot (name := Str.ofString "__next__") tz F.slot_zip_next (wpAny_call_entry F.slot_zip_next tz F.entry_zip_next
    (zp_item N1 N2 D pz pTI pTO st1 st2 l1 l2 fun u v h2 t2 b1 b2 b3 b4 b5 b6 b7 b8 b9 => wpAny_pure (hQ u v h2 t2 b1 b2 b3 b4 b5 b6 b7 b8 b9)) (F.args_zip_next_1 _))))
theorem pyNext_zp_end {Q : Option Value → Shared → Prop} (hh : A.handled = none) (N1 : Nxt prog w i1 f1 n1 S1 Y1) (N2 : Nxt prog w i2 f2 n2 S2 Y2) (D : ZAp z TI TO i1 i2 f1 f2) (pz : IsZip s.heap z TI TO .none) (pTI : IsPair s.heap TI (.ref i1) (.ref i2)) (pTO : IsPair s.heap TO a b)
    (st1 : S1 k1 s.heap) (st2 : S2 k2 s.heap) (l1 : k1 ≤ n1) (l2 : k2 ≤ n2) (le : k1 = n1 ∨ k2 = n2)
    (hQ : ∀ h2 t2, (∀ c o, c ≠ z → c ≠ TO → c ≠ i1 → c ≠ i2 → s.heap.get? c = some o → h2.get? c = some o) → Q none { s with heap := h2, toks := t2 }) : wpAny (model prog w) A (pyNext (.ref z)) Q E s := by
  have tz : s.TypeIs (.ref z) "zip" := ⟨_, pz, rfl⟩
  unfold pyNext
  refine wpAny_bind (wpAny_attempt (wpAny_callSpecial?_slot (name := Str.ofString "__next__") tz F.slot_zip_next (wpAny_call_entry F.slot_zip_next tz F.entry_zip_next
    (zp_done hh N1 N2 D pz pTI pTO st1 st2 l1 l2 le fun h2 e t2 up ⟨o, ho, hc⟩ => ?_) (F.args_zip_next_1 _))))
  exact wpAny_bind (wpAny_isInstance (T := "StopIteration") (b := true) ⟨o, ho, hc⟩ isSubtype_stop (wpAny_pure (hQ _ _ up)))
end
/-! ### zip(text, list or tuple): made -/
abbrev zq1 (h : Heap) (x : Str) (t : Tok) : Heap := h.push { cls := .type "str_ascii_iterator", data := .fields #[.str x t, .int 0 0] }
abbrev zq2 (ty : String) (h : Heap) (x : Str) (t : Tok) (l : Addr) : Heap := (zq1 h x t).push { cls := .type ty, data := .fields #[.ref l, .int 0 0] }
abbrev zq3 (ty : String) (h : Heap) (x : Str) (t : Tok) (l : Addr) : Heap := (zq2 ty h x t l).push { cls := .type "tuple", data := .seq #[.ref h.objs.size, .ref (zq1 h x t).objs.size] }
abbrev zq4 (ty : String) (h : Heap) (x : Str) (t : Tok) (l : Addr) : Heap := (zq3 ty h x t l).push { cls := .type "tuple", data := .seq #[.none, .none] }
abbrev zq5 (ty : String) (h : Heap) (x : Str) (t : Tok) (l : Addr) : Heap :=
  (zq4 ty h x t l).push { cls := .type "zip", data := .fields #[.none, .bool false, .bool false, .ref (zq2 ty h x t l).objs.size, .ref (zq3 ty h x t l).objs.size] }
theorem mz_list (x : Str) (t : Tok) (l : Addr) (ys : Array Value) (ha : x.cps.all (· < 128) = true) :
    Meets (Builtin.«zip.__new__» ⟨[.type "zip", .str x t, .ref l], []⟩) (fun _ R s => s.heap.IsList l ys ∧ R (.ok (.ret (.ref (zq4 "list_iterator" s.heap x t l).objs.size))) { s with heap := zq5 "list_iterator" s.heap x t l }) :=
  .of_wp fun prog w A R s h => by
    obtain ⟨hp, g, d, tk, os⟩ := s; obtain ⟨hl, h⟩ := h
    have hsub := sub_zip
    have hL : Heap.IsList (Shared.heap ⟨hp.push { cls := .type "str_ascii_iterator", data := .fields #[.str x t, .int 0 0] }, g, d, tk, os⟩) l ys := Heap.IsList.push hl _
    wp_walk using wpAny_pyIter_ascii ha, wpAny_pyIter_list hL
    exact ⟨_, rfl, h⟩
theorem mz_tup (x : Str) (t : Tok) (l : Addr) (ys : Array Value) (ha : x.cps.all (· < 128) = true) :
    Meets (Builtin.«zip.__new__» ⟨[.type "zip", .str x t, .ref l], []⟩) (fun _ R s => s.heap.IsTuple l ys ∧ R (.ok (.ret (.ref (zq4 "tuple_iterator" s.heap x t l).objs.size))) { s with heap := zq5 "tuple_iterator" s.heap x t l }) :=
  .of_wp fun prog w A R s h => by
    obtain ⟨hp, g, d, tk, os⟩ := s; obtain ⟨hl, h⟩ := h
    have hsub := sub_zip
    have hL : Heap.IsTuple (Shared.heap ⟨hp.push { cls := .type "str_ascii_iterator", data := .fields #[.str x t, .int 0 0] }, g, d, tk, os⟩) l ys := Heap.IsTuple.push hl _
    wp_walk using wpAny_pyIter_ascii ha, wpAny_pyIter_tuple hL
    exact ⟨_, rfl, h⟩
end Ta

set_option Elab.async false
set_option linter.all false
set_option maxRecDepth 100000
set_option maxHeartbeats 2000000
namespace Ta
open PySem PySem.Spec PyProof.Rows L2
open Builtin.SmallTypes (nextOf)

section
variable {prog : Program} {w : World} {A : Around} {E : Value → Shared → Prop} {s : Shared}
theorem zq_facts (ty : String) (h : Heap) (x : Str) (t : Tok) (l : Addr) :
    IsZip (zq5 ty h x t l) (h.objs.size + 4) (h.objs.size + 2) (h.objs.size + 3) .none ∧ IsPair (zq5 ty h x t l) (h.objs.size + 2) (.ref h.objs.size) (.ref (h.objs.size + 1)) ∧ IsPair (zq5 ty h x t l) (h.objs.size + 3) .none .none ∧
      (zq5 ty h x t l).get? h.objs.size = some { cls := .type "str_ascii_iterator", data := .fields #[.str x t, .int 0 0] } ∧ (zq5 ty h x t l).get? (h.objs.size + 1) = some { cls := .type ty, data := .fields #[.ref l, .int 0 0] } ∧
      (zq4 ty h x t l).objs.size = h.objs.size + 4 ∧ ∀ c o, h.get? c = some o → (zq5 ty h x t l).get? c = some o := by
  have y1 : (zq1 h x t).objs.size = h.objs.size + 1 := Heap.size_push ..
  have y2 : (zq2 ty h x t l).objs.size = h.objs.size + 2 := by rw [Heap.size_push, y1]
  have y3 : (zq3 ty h x t l).objs.size = h.objs.size + 3 := by rw [Heap.size_push, y2]
  have y4 : (zq4 ty h x t l).objs.size = h.objs.size + 4 := by rw [Heap.size_push, y3]
  have e5 : (zq5 ty h x t l).get? (zq4 ty h x t l).objs.size = some _ := Heap.get?_push_size _ rfl
  have e4 : (zq5 ty h x t l).get? (zq3 ty h x t l).objs.size = some _ := Heap.get?_push_of_some _ (Heap.get?_push_size _ rfl)
  have e3 : (zq5 ty h x t l).get? (zq2 ty h x t l).objs.size = some _ := Heap.get?_push_of_some _ (Heap.get?_push_of_some _ (Heap.get?_push_size _ rfl))
  have e2 : (zq5 ty h x t l).get? (zq1 h x t).objs.size = some _ := Heap.get?_push_of_some _ (Heap.get?_push_of_some _ (Heap.get?_push_of_some _ (Heap.get?_push_size _ rfl)))
  have e1 : (zq5 ty h x t l).get? h.objs.size = some _ := Heap.get?_push_of_some _ (Heap.get?_push_of_some _ (Heap.get?_push_of_some _ (Heap.get?_push_of_some _ (Heap.get?_push_size _ rfl))))
  rw [y2, y3, y4] at e5
  rw [y1, y2] at e3
  rw [y3] at e4
  rw [y1] at e2
  exact ⟨e5, e3, e4, e1, e2, y4, fun c o q => Heap.get?_push_of_some _ (Heap.get?_push_of_some _ (Heap.get?_push_of_some _ (Heap.get?_push_of_some _ (Heap.get?_push_of_some _ q))))⟩
theorem call_zq {x : Str} {t : Tok} {l : Addr} {ys : Array Value} {Q : Value → Shared → Prop} (tp : Bool) (ha : x.cps.all (· < 128) = true) (hl : if tp then s.heap.IsTuple l ys else s.heap.IsList l ys)
    (h : Q (.ref (s.heap.objs.size + 4)) { s with heap := zq5 (if tp then "tuple_iterator" else "list_iterator") s.heap x t l }) : wpAny (model prog w) A (call (.type "zip") [.str x t, .ref l]) Q E s := by
  cases tp with
  | false =>
    refine callType_new F.called_zip (by decide) (F.typeCall_zip_2 _ _) (F.newCall_zip_2 _ _) (fun obj => F.args_object_init_3 obj _ _) F.entry_zip_new (mz_list x t l ys ha) ⟨hl, ?_⟩
    obtain ⟨e5, _, _, _, _, y4, _⟩ := zq_facts "list_iterator" s.heap x t l
    show _ ∧ _
    rw [y4]
    exact ⟨⟨_, e5, rfl⟩, h⟩
  | true =>
    refine callType_new F.called_zip (by decide) (F.typeCall_zip_2 _ _) (F.newCall_zip_2 _ _) (fun obj => F.args_object_init_3 obj _ _) F.entry_zip_new (mz_tup x t l ys ha) ⟨hl, ?_⟩
    obtain ⟨e5, _, _, _, _, y4, _⟩ := zq_facts "tuple_iterator" s.heap x t l
    show _ ∧ _
    rw [y4]
    exact ⟨⟨_, e5, rfl⟩, h⟩
end
/-! ### its walk -/
/-- the signs of x, the items of the list or tuple at b, in new pairs -/
def Itq (tp : Bool) (K : PySem.W.Frag) (x : Str) (b : Addr) : It :=
  ⟨fun i H => i < x.cps.size ∧ ∃ ys : List V, (if tp then SqT K H b ys else SqL K H b ys) ∧ i < ys.length,
    fun i H v H' => ∃ T c y, v = .ref T ∧ H T = none ∧ H' = upd H T (.tup [.str ⟨#[c]⟩, y]) ∧ x.cps[i]? = some c ∧ ∀ ys, (if tp then SqT K H b ys else SqL K H b ys) → ys[i]? = some y,
    fun i H => i ≤ x.cps.size ∧ ∃ ys : List V, (if tp then SqT K H b ys else SqL K H b ys) ∧ i ≤ ys.length ∧ (i = x.cps.size ∨ i = ys.length)⟩
theorem zap_of (I l : Nat) (hl : l < I) : ZAp (I + 4) (I + 2) (I + 3) I (I + 1) [] [l] := by
  have ne : ∀ {a b : Nat}, a < b → (a : Addr) ≠ b := fun h e => Nat.ne_of_lt h e
  refine ⟨ne (by omega), ne (by omega), ne (by omega), ne (by omega), ne (by omega), (ne (by omega)).symm, (ne (by omega)).symm, (ne (by omega)).symm, (ne (by omega)).symm, ne (by omega), fun b hb => (nomatch hb), fun b hb => ?_⟩
  rw [List.mem_singleton.mp hb]
  exact ⟨ne (by omega), ne (by omega), ne hl⟩
theorem turn_zq {P : Program} {w : World} {K : PySem.W.Frag} {elts : List Expr} {kk : Nat} {tpos : Pos} {b z TI TO i1 i2 : Addr} {x : Str} {t : Tok} (tp : Bool) (D : ZAp z TI TO i1 i2 [] [b]) :
    Turn P w K (.Tuple elts kk tpos) (Itq tp K x b) [z, TI, TO, i1, i2] z (fun i h => IsZip h z TI TO .none ∧ IsPair h TI (.ref i1) (.ref i2) ∧ (∃ u v, IsPair h TO u v) ∧ h.IsStrIter i1 "str_ascii_iterator" x t i ∧ (if tp then h.IsTupleIter i2 b i else h.IsListIter i2 b i)) where
  mem := by simp
  obj := fun i h st c hc => by
    obtain ⟨pz, pTI, ⟨u, v, pTO⟩, ⟨o1, g1, _, d1⟩, st2⟩ := st
    have g2 : ∃ o, h.get? i2 = some o ∧ ∀ v, o.data ≠ .cell v := by
      cases tp with
      | true => obtain ⟨o, ho, _, hd⟩ := st2; exact ⟨o, ho, fun v q => by rw [hd] at q; cases q⟩
      | false => obtain ⟨o, ho, _, hd⟩ := st2; exact ⟨o, ho, fun v q => by rw [hd] at q; cases q⟩
    simp only [List.mem_cons, List.not_mem_nil, or_false] at hc
    rcases hc with rfl | rfl | rfl | rfl | rfl
    · exact ⟨_, pz, fun v q => nomatch q⟩
    · exact ⟨_, pTI, fun v q => nomatch q⟩
    · exact ⟨_, pTO, fun v q => nomatch q⟩
    · exact ⟨o1, g1, fun v q => by rw [d1] at q; cases q⟩
    · exact g2
  keep := fun i h h2 st k => by
    obtain ⟨pz, pTI, ⟨u, v, pTO⟩, ⟨o1, g1, r1⟩, st2⟩ := st
    refine ⟨k z (by simp) _ pz, k TI (by simp) _ pTI, ⟨u, v, k TO (by simp) _ pTO⟩, ⟨o1, k i1 (by simp) _ g1, r1⟩, ?_⟩
    cases tp with
    | true => obtain ⟨o, ho, r⟩ := st2; exact ⟨o, k i2 (by simp) _ ho, r⟩
    | false => obtain ⟨o, ho, r⟩ := st2; exact ⟨o, k i2 (by simp) _ ho, r⟩
  item := by
    intro X hP hw hK hc i pins s σ H E I hf st hg
    subst hP hw hK
    obtain ⟨pz, pTI, ⟨u0, v0, pTO⟩, st1, st2⟩ := st
    obtain ⟨hx, ys, hy, hyl⟩ := hg
    have hzl : z < s.heap.objs.size := Heap.lt_size pz
    have ex : x.cps[i]? = some x.cps[i] := by simp [hx]
    have ey : ys[i]? = some ys[i] := by simp [hyl]
    have fin : ∀ {its : List Value} {S2 : Nat → Heap → Prop}, Vals ys its → Nxt X.prog X.w i2 [b] its.toArray.size S2 (fun i u => its.toArray[i]? = some u) → S2 i s.heap → (∀ h, S2 (i + 1) h → (if tp then h.IsTupleIter i2 b (i + 1) else h.IsListIter i2 b (i + 1))) →
        (∀ zs, (if tp then SqT X.K H b zs else SqL X.K H b zs) → zs = ys) →
        wpAny (model X.prog X.w) X.A (pyNext (.ref z)) (fun r s1 => ∃ u, r = some u ∧ wpAny (model X.prog X.w) X.A (letOwnedTupleGo (.Tuple elts kk tpos) (.ref z) u) (fun _ s2 => ∃ v H', Inv X pins σ H' s2 ∧ RelV v u ∧ (Itq tp X.K x b).yld i H v H' ∧
          (IsZip s2.heap z TI TO .none ∧ IsPair s2.heap TI (.ref i1) (.ref i2) ∧ (∃ u v, IsPair s2.heap TO u v) ∧ s2.heap.IsStrIter i1 "str_ascii_iterator" x t (i + 1) ∧ (if tp then s2.heap.IsTupleIter i2 b (i + 1) else s2.heap.IsListIter i2 b (i + 1))) ∧ ∀ c ∈ [z, TI, TO, i1, i2], H' c = none) E s1) E s := by
      intro its S2 rel N2 a2 fin2 uniq
      obtain ⟨uy, huy, ry⟩ := rel.get ey
      have il : i < its.toArray.size := by simp; exact (List.getElem?_eq_some_iff.mp huy).1
      refine pyNext_zp_item nx_ascii N2 D pz pTI pTO st1 a2 hx il fun u v h2 t2 y1 y2 z2 o2 b1 b2 p2 sz up => ?_
      obtain ⟨c, t', ec, rfl⟩ := y1
      rw [ex] at ec
      cases ec
      have ev : v = uy := by
        rw [List.getElem?_toArray, huy] at y2
        exact (Option.some.inj y2).symm
      subst ev
      refine ⟨_, rfl, wpAny_letOwnedTupleGo_zip (s := { s with heap := h2, toks := t2 }) z2 fun h3 z3 sb => ?_⟩
      have p3 : h3.get? s.heap.objs.size = some { cls := .type "tuple", data := .seq #[.str ⟨#[x.cps[i]]⟩ t', v] } := (sb.2 _ (Nat.ne_of_gt hzl)).trans p2
      have new : ObjOk X.prog X.w (upd H s.heap.objs.size (.tup [.str ⟨#[x.cps[i]]⟩, ys[i]])) h3 s.heap.objs.size (.tup [.str ⟨#[x.cps[i]]⟩, ys[i]]) :=
        ⟨by show 2 ≤ sizeLine; decide, [.str ⟨#[x.cps[i]]⟩ t', v], .cons ⟨t', rfl⟩ (.cons ry .nil), ⟨_, p3, rfl, _, rfl⟩⟩
      have J : Inv X pins σ (upd H s.heap.objs.size (.tup [.str ⟨#[x.cps[i]]⟩, ys[i]])) { s with heap := h3, toks := t2 } :=
        I.turnedNew (t' := t2) (ch := [z, TI, TO, i1, i2]) (fun c o hb q => by
          simp only [List.mem_cons, List.not_mem_nil, or_false, not_or] at hb
          exact (sb.2 c hb.1).trans (up c o hb.1 hb.2.2.1 hb.2.2.2.1 hb.2.2.2.2 q)) hf (Nat.le_refl _) new
      refine ⟨.ref s.heap.objs.size, _, J, rfl, ⟨_, x.cps[i], ys[i], rfl, I.hok.fresh (Nat.le_refl _), rfl, ex, fun zs hz => by rw [uniq zs hz]; exact ey⟩, ⟨z3, ?_, ⟨_, _, (sb.2 _ D.n2).trans o2⟩, ?_, ?_⟩, fun c hcm => ?_⟩
      · exact (sb.2 _ D.n1).trans (up _ _ D.n1 D.n5 D.n6 D.n7 pTI)
      · obtain ⟨o, ho, r⟩ := b1
        exact ⟨o, (sb.2 _ D.n3).trans ho, r⟩
      · have := fin2 _ b2
        cases tp with
        | true => obtain ⟨o, ho, r⟩ := this; exact ⟨o, (sb.2 _ D.n4).trans ho, r⟩
        | false => obtain ⟨o, ho, r⟩ := this; exact ⟨o, (sb.2 _ D.n4).trans ho, r⟩
      · have hlt : c < s.heap.objs.size := by
          obtain ⟨o1, g1, _⟩ := st1
          have g2 : i2 < s.heap.objs.size := by
            cases tp with
            | true => obtain ⟨o, ho, _⟩ := st2; exact Heap.lt_size ho
            | false => obtain ⟨o, ho, _⟩ := st2; exact Heap.lt_size ho
          simp only [List.mem_cons, List.not_mem_nil, or_false] at hcm
          rcases hcm with rfl | rfl | rfl | rfl | rfl
          · exact hzl
          · exact Heap.lt_size pTI
          · exact Heap.lt_size pTO
          · exact Heap.lt_size g1
          · exact g2
        rw [upd_ne (Nat.ne_of_lt hlt)]
        exact (hf c hcm).1
    cases tp with
    | false =>
      obtain ⟨its, rv, p, _⟩ := I.list hy
      exact fin rv nx_list ⟨st2, p.isList⟩ (fun h q => q.1) fun zs hz => I.list_inj hz hy
    | true =>
      obtain ⟨its, rv, p, _⟩ := I.tuple hy
      exact fin rv nx_tup ⟨st2, p⟩ (fun h q => q.1) fun zs hz => I.tuple_inj hz hy
  done := by
    intro X hP hw hK hc i pins s σ H E I hf st hg
    subst hP hw hK
    obtain ⟨pz, pTI, ⟨u0, v0, pTO⟩, st1, st2⟩ := st
    obtain ⟨hx, ys, hy, hyl, hend⟩ := hg
    have fin : ∀ {n2 : Nat} {S2 : Nat → Heap → Prop} {Y2 : Nat → Value → Prop}, n2 = ys.length → Nxt X.prog X.w i2 [b] n2 S2 Y2 → S2 i s.heap → wpAny (model X.prog X.w) X.A (pyNext (.ref z)) (fun r s1 => r = none ∧ Inv X pins σ H s1) E s := by
      intro n2 S2 Y2 en N2 a2
      refine pyNext_zp_end (I.ok.hd hc) nx_ascii N2 D pz pTI pTO st1 a2 hx (by omega) (by omega) fun h2 t2 up => ⟨rfl, I.turnedL (t' := t2) (ch := [z, TI, TO, i1, i2]) (fun c o hb q => ?_) hf⟩
      simp only [List.mem_cons, List.not_mem_nil, or_false, not_or] at hb
      exact up c o hb.1 hb.2.2.1 hb.2.2.2.1 hb.2.2.2.2 q
    cases tp with
    | false =>
      obtain ⟨its, rv, p, _⟩ := I.list hy
      have := rv.length
      exact fin (by simp; omega) nx_list ⟨st2, p.isList⟩
    | true =>
      obtain ⟨its, rv, p, _⟩ := I.tuple hy
      have := rv.length
      exact fin (by simp; omega) nx_tup ⟨st2, p⟩
  self := fun A i s Q E st h => wpAny_pyIter_zip st.1 h
/-- zip(text, list or tuple) as it is walked -/
def itZ (l : List Nat) (ys : List V) : Itm := fun i H v H' => ∃ T c y, v = .ref T ∧ H T = none ∧ H' = upd H T (.tup [.str (S [c]), y]) ∧ l[i]? = some c ∧ ys[i]? = some y
def jZq (ta : TA) : TJ := fun σ H R => ta σ H fun vs H1 => two vs fun x y => match x with
  | .str z => (match y with
    | .ref b => look H1 b fun o => (match o with
      | some (.lst ys) => (tl z).all (· < 128) = true ∧ (tl z).length = ys.length ∧ R ys.length (itZ (tl z) ys) (fun H' => H' b = some (.lst ys)) H1
      | some (.tup ys) => (tl z).all (· < 128) = true ∧ (tl z).length = ys.length ∧ R ys.length (itZ (tl z) ys) (fun H' => H' b = some (.tup ys)) H1
      | _ => False)
    | _ => False)
  | _ => False
theorem adm_zq {K : PySem.W.Frag} {x : Str} {b : Addr} {ys : List V} {st : Hp → Prop} (tp : Bool) (hl : (tl x).length = ys.length) (hs : ∀ H, st H → (if tp then SqT K H b ys else SqL K H b ys)) : Adm (Itq tp K x b) ys.length (itZ (tl x) ys) st := by
  have e : x.cps.size = ys.length := by rw [← hl]; simp [tl]
  refine ⟨fun i H hi q => ⟨by omega, ys, hs H q, hi⟩, fun i H v H' hi q y => ?_, fun H q => ⟨by omega, ys, hs H q, Nat.le_refl _, .inr rfl⟩⟩
  obtain ⟨T, c, y, h1, h2, h3, h4, h5⟩ := y
  exact ⟨T, c, y, h1, h2, h3, by simpa [tl] using h4, h5 ys (hs H q)⟩
theorem pjzq {X : Cx} {e e2 : Expr} {ta : TA} {p pos tpos : Pos} {elts : List Expr} {kk : Nat} (hm : X.mg "zip" = none) (ha : PA X [e, e2] ta) (hg : Gl X "zip" := by rfl)
    (hst : starEach [e, e2] X.env = (false, eval e X.env) :: starEach [e2] X.env := by rfl) (hpl : (backTo pos (starEach [e2] X.env)).any (·.1) = false := by rfl) :
    PJ X (.Tuple elts kk tpos) (.Call (.Name "zip" p) [e, e2] [] pos) (jZq ta) := by
  refine ⟨fun pins s σ H R I h => ?_⟩
  refine Call_ (ld_blt I hg hm PyProof.Rows.boot_zip (PyProof.Rows.callWith_type1 (thn (ha.run pos pins s σ H _ I h) fun us s1 ⟨vs, H1, J, rel, q1⟩ => ?_) hst hpl))
  obtain ⟨x, y, rfl, q⟩ := two_e q1
  cases x with
  | str z =>
    cases y with
    | ref b =>
      cases rel with
      | cons r rr =>
        cases rr with
        | cons r' rr =>
          cases rr
          cases r'
          obtain ⟨t, rfl⟩ := r
          have q := look_e q
          have fresh5 : ∀ c, c ∈ [s1.heap.objs.size + 4, s1.heap.objs.size + 2, s1.heap.objs.size + 3, s1.heap.objs.size, s1.heap.objs.size + 1] → FpOk X pins H1 c := fun c hcm => by
            have hle : s1.heap.objs.size ≤ c := by
              simp only [List.mem_cons, List.not_mem_nil, or_false] at hcm
              rcases hcm with rfl | rfl | rfl | rfl | rfl
              · exact Nat.le_add_right _ _
              · exact Nat.le_add_right _ _
              · exact Nat.le_add_right _ _
              · exact Nat.le_refl _
              · exact Nat.le_add_right _ _
            exact J.fpOk hle (J.hok.fresh hle)
          have fin : ∀ (tp : Bool) {ys : Array Value}, z.cps.all (· < 128) = true → (if tp then s1.heap.IsTuple b ys else s1.heap.IsList b ys) → b < s1.heap.objs.size → R (Itq tp X.K z b) H1 →
              wpAny (model X.prog X.w) X.A (call (.type "zip") [.str z t, .ref b]) (fun v s2 => wpAny (model X.prog X.w) X.A (pyIter v) (PIE X pins σ (.Tuple elts kk tpos) R) X.xe s2) X.xe s1 := fun tp ys hz hl hb q => by
            refine call_zq tp hz hl ?_
            obtain ⟨e5, e3, e4, e1, e2, _, up⟩ := zq_facts (if tp then "tuple_iterator" else "list_iterator") s1.heap z t b
            refine wpAny_pyIter_zip e5 ?_
            have J2 : Inv X pins σ H1 { s1 with heap := zq5 (if tp then "tuple_iterator" else "list_iterator") s1.heap z t b } := J.kept (t' := s1.toks) up
            refine ⟨s1.heap.objs.size + 4, _, _, _, H1, rfl, J2, turn_zq (t := t) tp (zap_of s1.heap.objs.size b hb), ⟨e5, e3, ⟨_, _, e4⟩, ⟨_, e1, rfl, rfl⟩, ?_⟩, fresh5, q⟩
            cases tp with
            | true => exact ⟨_, e2, rfl, rfl⟩
            | false => exact ⟨_, e2, rfl, rfl⟩
          have asc : (tl z).all (· < 128) = true → z.cps.all (· < 128) = true := fun h => by
            rw [← Array.all_toList]; exact h
          cases eb : H1 b with
          | none => rw [eb] at q; exact q.elim
          | some o =>
            rw [eb] at q
            cases o with
            | lst ys =>
              obtain ⟨q1, q2, q3⟩ := q
              obtain ⟨its, rv, p, _⟩ := J.list (SqL.of eb)
              obtain ⟨ob, hob, _⟩ := id p.isList
              exact fin false (asc q1) p.isList (Heap.lt_size hob) (q3 _ (adm_zq false q2 fun H' h => SqL.of h))
            | tup ys =>
              obtain ⟨q1, q2, q3⟩ := q
              obtain ⟨its, rv, p, _⟩ := J.tuple (SqT.of eb)
              obtain ⟨ob, hob, _⟩ := id p
              exact fin true (ys := its.toArray) (asc q1) p (Heap.lt_size hob) (q3 _ (adm_zq true q2 fun H' h => SqT.of h))
            | _ => exact q.elim
    | _ => exact q.elim
  | _ => exact q.elim
end Ta

set_option Elab.async false
set_option linter.all false
set_option maxRecDepth 100000
set_option maxHeartbeats 2000000
namespace Ta
open PySem PySem.Spec PyProof.Rows L2
open Builtin.SmallTypes (nextOf)

/-! ### any reading, made monotone -/
def upA (t : TA) : TA := fun σ H Q => ∃ Q0 : List V → Hp → Prop, t σ H Q0 ∧ ∀ vs H1, Q0 vs H1 → Q vs H1
def upE (t : TE) : TE := fun σ H Q => ∃ Q0 : VK, t σ H Q0 ∧ ∀ v H1, Q0 v H1 → Q v H1
section
variable {X : Cx}
theorem pa_up {es : List Expr} {t : TA} (h : PA X es t) : PA X es (upA t) := by
  refine ⟨fun pos pins s σ H Q I ⟨Q0, h0, im⟩ => ?_⟩
  refine thn (h.run pos pins s σ H Q0 I h0) fun us s1 ⟨vs, H1, I1, r, q⟩ => ⟨vs, H1, I1, r, im vs H1 q⟩
theorem pe_up {e : Expr} {t : TE} (h : PE X e t) : PE X e (upE t) := by
  refine ⟨fun pins s σ H Q I ⟨Q0, h0, im⟩ => ?_⟩
  refine thn (h.run pins s σ H Q0 I h0) fun us s1 ⟨v, H1, I1, r, q⟩ => ⟨v, H1, I1, r, im v H1 q⟩
end

/-! ### enumerate(list) -/
def itE (ys : List V) : Itm := fun i H v H' => ∃ T y, v = .ref T ∧ H T = none ∧ H' = upd H T (.tup [.int (i : Nat), y]) ∧ ys[i]? = some y
def jEn (K : PySem.W.Frag) (ta : TA) : TJ := fun σ H R => ta σ H fun vs H1 => one vs fun x => match x with
  | .ref a => look H1 a fun o => (match o with
    | some (.lst ys) => R ys.length (itE ys) (fun H' => H' a = some (.lst ys)) H1
    | _ => False)
  | _ => False
theorem adm_en {K : PySem.W.Frag} {a : Addr} {ys : List V} : Adm (Ite K a) ys.length (itE ys) (fun H => H a = some (.lst ys)) := by
  refine ⟨fun i H hi q => ⟨ys, ys[i], SqL.of q, by simp [hi]⟩, fun i H v H' hi q y => ?_, fun H q => ⟨ys, SqL.of q, Nat.le_refl _⟩⟩
  obtain ⟨T, y, h1, h2, h3, h4⟩ := y
  exact ⟨T, y, h1, h2, h3, h4 ys (SqL.of q)⟩
theorem pjen {X : Cx} {e : Expr} {ta : TA} {p pos tpos : Pos} {elts : List Expr} {kk : Nat} (hm : X.mg "enumerate" = none) (ha : PA X [e] ta) (hg : Gl X "enumerate" := by rfl) (hs : starEach [e] X.env = [(false, eval e X.env)] := by rfl) :
    PJ X (.Tuple elts kk tpos) (.Call (.Name "enumerate" p) [e] [] pos) (jEn X.K ta) := by
  have h := pi_enum (X := X) (e := e) (ta := upA ta) (p := p) (pos := pos) (tpos := tpos) (elts := elts) (kk := kk) hg hm (pa_up ha) hs
  refine ⟨fun pins s σ H R I q => h.run pins s σ H R I ⟨_, q, fun vs H1 q => ?_⟩⟩
  obtain ⟨x, rfl, q⟩ := one_e q
  cases x with
  | ref a =>
    have q := look_e q
    cases ea : H1 a with
    | none => rw [ea] at q; exact q.elim
    | some o =>
      rw [ea] at q
      cases o with
      | lst xs => exact ⟨a, xs, rfl, SqL.of ea, q _ adm_en⟩
      | _ => exact q.elim
  | _ => exact q.elim

/-! ### [e for x in xs if .. for y in ys if ..] -/
structure lc2 (n : Nat) (it : Itm) (st : Hp → Prop) (g : TG) (tt : TT) (wi1 : TJ) (g1 : TG) (tt1 : TT) (te : TE) (vs vs1 : List Nat) (σ : St) (H1 : Hp) (Q : VK) : Prop where
  out : ∀ J, Adm J n it st → ∀ D, H1 D = none → ∃ W : Nat → Nat → Hp → Prop, (∃ m, W 0 m (upd H1 D (.lst []))) ∧ ∀ i m H, W i m H →
  (J.stop i H ∧ Q (.ref D) H) ∨ (J.go i H ∧ ∃ Nx : Hp → Prop, (∀ H', Nx H' → ∃ m', m' < m ∧ W (i + 1) m' H') ∧ ∀ x H', J.yld i H x H' → g x (wipe σ vs) H' fun σ2 H2 => wipe σ2 vs = wipe σ vs ∧ tt σ2 H2 fun b H3 =>
    if b = true then toI wi1 σ2 H3 fun J1 H4 => ∃ W1 : Nat → Nat → Hp → Prop, (∃ m, W1 0 m H4) ∧ ∀ j k H, W1 j k H →
      (J1.stop j H ∧ Nx H) ∨ (J1.go j H ∧ ∃ Nx1 : Hp → Prop, (∀ H', Nx1 H' → ∃ k', k' < k ∧ W1 (j + 1) k' H') ∧ ∀ x H', J1.yld j H x H' → g1 x (wipe σ2 vs1) H' fun σ3 H5 => wipe σ3 vs1 = wipe σ2 vs1 ∧ tt1 σ3 H5 fun b H6 =>
        if b = true then te σ3 H6 fun y H7 => ∃ acc, H7 D = some (.lst acc) ∧ acc.length < sizeLine ∧ Nx1 (upd H7 D (.lst (acc ++ [y]))) else Nx1 H6)
    else Nx H3)
def tLc2P (wi : TJ) (g : TG) (tt : TT) (wi1 : TJ) (g1 : TG) (tt1 : TT) (te : TE) (vs vs1 : List Nat) : TE := fun σ H Q => wi σ H fun n it st H1 => lc2 n it st g tt wi1 g1 tt1 te vs vs1 σ H1 Q
theorem tLc2P_e {wi : TJ} {g : TG} {tt : TT} {wi1 : TJ} {g1 : TG} {tt1 : TT} {te : TE} {vs vs1 : List Nat} {σ : St} {H : Hp} {Q : VK} (h : tLc2P wi g tt wi1 g1 tt1 te vs vs1 σ H Q) : tLc2 (toI wi) g tt (toI wi1) g1 tt1 te vs vs1 σ H Q := by
  have e : (fun n it st H1 => lc2 n it st g tt wi1 g1 tt1 te vs vs1 σ H1 Q) = (fun n it st H1 => ∀ J, Adm J n it st → ∀ D, H1 D = none → ∃ W : Nat → Nat → Hp → Prop, (∃ m, W 0 m (upd H1 D (.lst []))) ∧ ∀ i m H, W i m H →
      (J.stop i H ∧ Q (.ref D) H) ∨ (J.go i H ∧ ∃ Nx : Hp → Prop, (∀ H', Nx H' → ∃ m', m' < m ∧ W (i + 1) m' H') ∧ ∀ x H', J.yld i H x H' → g x (wipe σ vs) H' fun σ2 H2 => wipe σ2 vs = wipe σ vs ∧ tt σ2 H2 fun b H3 =>
        if b = true then toI wi1 σ2 H3 fun J1 H4 => ∃ W1 : Nat → Nat → Hp → Prop, (∃ m, W1 0 m H4) ∧ ∀ j k H, W1 j k H →
          (J1.stop j H ∧ Nx H) ∨ (J1.go j H ∧ ∃ Nx1 : Hp → Prop, (∀ H', Nx1 H' → ∃ k', k' < k ∧ W1 (j + 1) k' H') ∧ ∀ x H', J1.yld j H x H' → g1 x (wipe σ2 vs1) H' fun σ3 H5 => wipe σ3 vs1 = wipe σ2 vs1 ∧ tt1 σ3 H5 fun b H6 =>
            if b = true then te σ3 H6 fun y H7 => ∃ acc, H7 D = some (.lst acc) ∧ acc.length < sizeLine ∧ Nx1 (upd H7 D (.lst (acc ++ [y]))) else Nx1 H6)
        else Nx H3)) := by
    funext n it st H1
    exact propext ⟨fun h => h.out, fun h => ⟨h⟩⟩
  have h : wi σ H fun n it st H1 => lc2 n it st g tt wi1 g1 tt1 te vs vs1 σ H1 Q := h
  rw [e] at h
  exact h
section
variable {X : Cx} {tg : Expr}
theorem plc2 {elt iter tg1 iter1 : Expr} {ifs ifs1 : List Expr} {scope : Scope} (own : List (Str × Nat)) (vs1 : List Nat) {pos : Pos} {wi wi1 : TJ} {g g1 : TG} {tt tt1 : TT} {te : TE} (hc : X.calm = true) (hN : X.N.Nodup) (hi : PJ X tg iter wi) (ok : blkC X.N X.env.scope scope own = true) (hv : ∀ i ∈ vs1, i ∈ own.map (·.2))
    (hg : ∀ (s : Shared) (H : Hp) (C : Addr) (cl : List (Str × Addr)) (fp : List Addr), PG (X.blk s H scope (compEnvC scope cl C X.env) fp) tg g) (ht : ∀ (s : Shared) (H : Hp) (C : Addr) (cl : List (Str × Addr)) (fp : List Addr), PTs (X.blk s H scope (compEnvC scope cl C X.env) fp) ifs tt)
    (hi1 : ∀ (s : Shared) (H : Hp) (C : Addr) (cl : List (Str × Addr)) (fp : List Addr), PJ (X.blk s H scope (compEnvC scope cl C X.env) fp) tg1 iter1 wi1)
    (hg1 : ∀ (s : Shared) (H : Hp) (C : Addr) (cl : List (Str × Addr)) (fp : List Addr), PG (X.blk s H scope (compEnvC scope cl C X.env) fp) tg1 g1) (ht1 : ∀ (s : Shared) (H : Hp) (C : Addr) (cl : List (Str × Addr)) (fp : List Addr), PTs (X.blk s H scope (compEnvC scope cl C X.env) fp) ifs1 tt1)
    (he : ∀ (s : Shared) (H : Hp) (C : Addr) (cl : List (Str × Addr)) (fp : List Addr), PE (X.blk s H scope (compEnvC scope cl C X.env) fp) elt te) (hs : ∀ x, foldedSetIterable iter X.env x = pure x := by intro _; rfl) (hs1 : ∀ env x, foldedSetIterable iter1 env x = pure x := by intro _ _; rfl) :
    PE X (.ListComp elt [⟨tg, iter, ifs, 0⟩, ⟨tg1, iter1, ifs1, 0⟩] scope pos) (tLc2P wi g tt wi1 g1 tt1 te (own.map (·.2)) vs1) :=
  pe_imp (pe_lc2 hc hN hi (blkOk_by ok) hv hg ht hi1 hg1 ht1 he hs hs1) fun _ _ _ h => tLc2P_e h
theorem pslc2 {i : Nat} {y : Str} {py : Pos} {elt iter tg1 iter1 : Expr} {ifs ifs1 : List Expr} {scope : Scope} (own : List (Str × Nat)) (vs1 : List Nat) {pos spos : Pos} {wi wi1 : TJ} {g g1 : TG} {tt tt1 : TT} {te : TE} (hc : X.calm = true) (hN : X.N.Nodup) (hy : X.N[i]? = some y) (hyl : X.env.scope.names.lookup y = some .local)
    (hsw : swapsWith (.ListComp elt [⟨tg, iter, ifs, 0⟩, ⟨tg1, iter1, ifs1, 0⟩] scope pos) (some (.Name y py)) spos.line X.env = pure true) (hi : PJ X tg iter wi) (ok : blkC X.N X.env.scope scope own = true) (hv : ∀ i ∈ vs1, i ∈ own.map (·.2))
    (hg : ∀ (s : Shared) (H : Hp) (C : Addr) (cl : List (Str × Addr)) (fp : List Addr), PG (X.blk s H scope (compEnvC scope cl C X.env) fp) tg g) (ht : ∀ (s : Shared) (H : Hp) (C : Addr) (cl : List (Str × Addr)) (fp : List Addr), PTs (X.blk s H scope (compEnvC scope cl C X.env) fp) ifs tt)
    (hi1 : ∀ (s : Shared) (H : Hp) (C : Addr) (cl : List (Str × Addr)) (fp : List Addr), PJ (X.blk s H scope (compEnvC scope cl C X.env) fp) tg1 iter1 wi1)
    (hg1 : ∀ (s : Shared) (H : Hp) (C : Addr) (cl : List (Str × Addr)) (fp : List Addr), PG (X.blk s H scope (compEnvC scope cl C X.env) fp) tg1 g1) (ht1 : ∀ (s : Shared) (H : Hp) (C : Addr) (cl : List (Str × Addr)) (fp : List Addr), PTs (X.blk s H scope (compEnvC scope cl C X.env) fp) ifs1 tt1)
    (he : ∀ (s : Shared) (H : Hp) (C : Addr) (cl : List (Str × Addr)) (fp : List Addr), PE (X.blk s H scope (compEnvC scope cl C X.env) fp) elt te) (hs : ∀ x, foldedSetIterable iter X.env x = pure x := by intro _; rfl) (hs1 : ∀ env x, foldedSetIterable iter1 env x = pure x := by intro _ _; rfl) :
    PS X (.Assign [.Name y py] (.ListComp elt [⟨tg, iter, ifs, 0⟩, ⟨tg1, iter1, ifs1, 0⟩] scope pos) spos) (tAsg (tLc2P wi g tt wi1 g1 tt1 te (own.map (·.2)) vs1) (gName i)) :=
  ps_imp (ps_setLc2 hc hN hy hyl hsw hi (blkOk_by ok) hv hg ht hi1 hg1 ht1 he hs hs1) fun D σ H h => tLc2P_e h
/-- by a word on the outer turns; within, the second source's own walk is asked with a word of its own -/
theorem lc2_i {n : Nat} {it : Itm} {st : Hp → Prop} {g : TG} {tt : TT} {wi1 : TJ} {g1 : TG} {tt1 : TT} {te : TE} {vs vs1 : List Nat} {σ : St} {H1 : Hp} {Q : VK} (Pv : Addr → Nat → Hp → Prop) (h0 : ∀ D, H1 D = none → Pv D 0 (upd H1 D (.lst []))) (hst : ∀ D i H, H1 D = none → i ≤ n → Pv D i H → st H)
    (hs : ∀ D i x H H', H1 D = none → i < n → Pv D i H → it i H x H' → g x (wipe σ vs) H' fun σ2 H2 => wipe σ2 vs = wipe σ vs ∧ tt σ2 H2 fun b H3 =>
      if b = true then wi1 σ2 H3 fun n1 it1 st1 H4 => ∃ Pw : Nat → Hp → Prop, Pw 0 H4 ∧ (∀ j H, j ≤ n1 → Pw j H → st1 H) ∧ (∀ H, Pw n1 H → Pv D (i + 1) H) ∧
        ∀ j y H H', j < n1 → Pw j H → it1 j H y H' → g1 y (wipe σ2 vs1) H' fun σ3 H5 => wipe σ3 vs1 = wipe σ2 vs1 ∧ tt1 σ3 H5 fun b H6 =>
          if b = true then te σ3 H6 fun v H7 => ∃ acc, H7 D = some (.lst acc) ∧ acc.length < sizeLine ∧ Pw (j + 1) (upd H7 D (.lst (acc ++ [v]))) else Pw (j + 1) H6
      else Pv D (i + 1) H3)
    (hd : ∀ D H, H1 D = none → Pv D n H → Q (.ref D) H) (mg : ∀ x σ H (F G : St → Hp → Prop), (∀ σ H, F σ H → G σ H) → g x σ H F → g x σ H G) (mt : ∀ σ H (F G : Bool → Hp → Prop), (∀ b H, F b H → G b H) → tt σ H F → tt σ H G)
    (mw : ∀ σ H (F G : Nat → Itm → (Hp → Prop) → Hp → Prop), (∀ n it st H, F n it st H → G n it st H) → wi1 σ H F → wi1 σ H G) : lc2 n it st g tt wi1 g1 tt1 te vs vs1 σ H1 Q := by
  refine ⟨?_⟩
  intro J A D hD
  refine ⟨fun i m H => m = n - i ∧ i ≤ n ∧ Pv D i H, ⟨n, by simp, Nat.zero_le _, h0 D hD⟩, ?_⟩
  rintro i m H ⟨rfl, hi, p⟩
  have q := hst D i H hD hi p
  by_cases hlt : i < n
  · refine .inr ⟨A.go i H hlt q, Pv D (i + 1), fun H' p' => ⟨n - (i + 1), by omega, rfl, hlt, p'⟩, fun x H' y => ?_⟩
    refine mg _ _ _ _ _ (fun σ2 H2 ⟨e, h⟩ => ⟨e, mt _ _ _ _ (fun b H3 h => ?_) h⟩) (hs D i x H H' hD hlt p (A.yl i H x H' hlt q y))
    cases b with
    | false => exact h
    | true =>
      refine mw _ _ _ _ (fun n1 it1 st1 H4 ⟨Pw, w0, wst, wd, ws⟩ J1 A1 => ?_) h
      refine ⟨fun j k H => k = n1 - j ∧ j ≤ n1 ∧ Pw j H, ⟨n1, by simp, Nat.zero_le _, w0⟩, ?_⟩
      rintro j k H ⟨rfl, hj, pw⟩
      have q1 := wst j H hj pw
      by_cases hlt1 : j < n1
      · exact .inr ⟨A1.go j H hlt1 q1, Pw (j + 1), fun H' p' => ⟨n1 - (j + 1), by omega, rfl, hlt1, p'⟩, fun x H' y => ws j x H H' hlt1 pw (A1.yl j H x H' hlt1 q1 y)⟩
      · have e1 : j = n1 := by omega
        subst e1
        exact .inl ⟨A1.sp H q1, wd H pw⟩
  · have e : i = n := by omega
    subst e
    exact .inl ⟨A.sp H q, hd D H hD p⟩
end
end Ta

set_option Elab.async false
set_option linter.all false
set_option maxRecDepth 100000
set_option maxHeartbeats 2000000
namespace Ta
open PySem PySem.Spec PyProof.Rows L2 He

/-! ### f-strings of texts and whole numbers -/
def digs (i : Int) : List Nat := tl (toString i : Str)
def tFv (te : TE) : TE := fun σ H Q => te σ H fun x H1 => match x with
  | .str y => Lim (tl y).length ∧ Q (.str y) H1
  | .int i => i.natAbs.log2 < 1920 ∧ Q (.str (S (digs i))) H1
  | _ => False
def tFs : List TE → List Nat → St → Hp → (List Nat → Hp → Prop) → Prop
  | [], acc, _, H, Q => Q acc H
  | t :: ts, acc, σ, H, Q => t σ H fun x H1 => match x with
    | .str y => Lim (acc ++ tl y).length ∧ tFs ts (acc ++ tl y) σ H1 Q
    | _ => False
def tFstr (ts : List TE) : TE := fun σ H Q => tFs ts [] σ H fun out H1 => Q (.str (S out)) H1
section
variable {X : Cx}
theorem pfv {e : Expr} {te : TE} {pos : Pos} (he : PE X e te) : PE X (.FormattedValue e (-1) none pos) (tFv te) := by
  refine pe_imp (pe_fmt (te := upE te) (pe_up he)) fun σ H Q h => ⟨_, h, fun x H1 h => ?_⟩
  cases x with
  | str y =>
    obtain ⟨h1, h2⟩ := h
    exact .inl ⟨y, rfl, by rw [len_tl]; exact h1, h2⟩
  | int i =>
    obtain ⟨h1, h2⟩ := h
    exact .inr ⟨i, rfl, h1, h2⟩
  | _ => exact h.elim
inductive PFs (X : Cx) : List Expr → List TE → Prop where
  | nil : PFs X [] []
  | cons {e : Expr} {t : TE} {es : List Expr} {ts : List TE} (h : PE X e t) (r : PFs X es ts) : PFs X (e :: es) (t :: ts)
theorem PFs.up {es : List Expr} {ts : List TE} (h : PFs X es ts) : L2.PJ X es (ts.map upE) := by
  induction h with
  | nil => exact .nil
  | cons h r ih => exact .cons (pe_up h) ih
theorem tFs_e : ∀ {ts : List TE} {acc : Str} {σ : St} {H : Hp} {Q : Str → Hp → Prop}, tFs ts (tl acc) σ H (fun out H1 => Q (S out) H1) → tJs (ts.map upE) acc σ H Q
  | [], acc, σ, H, Q, h => by
    have h : Q (S (tl acc)) H := h
    rw [S_tl] at h
    exact h
  | t :: ts, acc, σ, H, Q, h => by
    refine ⟨_, h, fun x H1 h => ?_⟩
    cases x with
    | str y =>
      obtain ⟨h1, h2⟩ := h
      refine ⟨y, rfl, ?_, tFs_e (acc := acc ++ y) ?_⟩
      · rw [len_tl, add_S]; exact h1
      · rw [add_S]; exact h2
    | _ => exact h.elim
theorem pfstr {v1 v2 : Expr} {rest : List Expr} {ts : List TE} {pos : Pos} (h : PFs X (v1 :: v2 :: rest) ts) : PE X (.JoinedStr (v1 :: v2 :: rest) pos) (tFstr ts) :=
  pe_imp (pe_joined h.up) fun σ H Q h => tFs_e (acc := Str.empty) h
theorem pfstr1 {e : Expr} {te : TE} {pos : Pos} (h : PE X e te) : PE X (.JoinedStr [e] pos) te := pe_joined1 h
end

/-! ### C.m(..), m a classmethod; cls(..) -/
section
variable (P : Program) (w : World) (K : PySem.W.Frag) (mg : Str → Option Value) (base : Heap)
structure Cmt (C : Addr) (m : Str) (lv : Nat) (dvs : List V) (sp : Sp) : Prop where
  ex : ∃ (mc : Value) (p g : Addr) (fd : FuncData) (ps : List Str) (ds : List Value), ClX.CRead K C mc ∧ ClX.CMet K C mc m p g ∧ FnOk P w K mg base (L2.CX P w) lv g fd ps sp ∧ Vals dvs ds ∧ Binds K fd ps ds
end
def tCme (C : Addr) (sp : Sp) (dvs : List V) (W : WX) (ta : TE) (t : TA) : TE := fun σ H Q => ta σ H fun x H1 => match x with
  | .ref a => a = C ∧ t σ H1 fun vs H2 => sp (.ref C :: (vs ++ dvs)) H2 Q fun c d H' => W c d σ H'
  | _ => False
section
variable {X : Cx} {m : Str} {p pos apos : Pos} {e o : Expr} {es : List Expr} {ta : TE} {t : TA} {lv i : Nat} {dvs : List V} {sp : Sp} {W : WX} {C : Addr} {x : Str}
theorem run_fnC {CX : CXT} {k : Nat} {f : Addr} {fd : FuncData} {ps : List Str} {ds : List Value} {E : St → XK} {pins : List (Addr × Obj)} {σ : St} {H : Hp} {s : Shared} {Q : VK} {us : List Value} {vs : List V} (F : FnOk X.prog X.w X.K X.mg X.base CX k f fd ps sp) (rm : Room k X.A) (bn : Binds X.K fd ps ds) (dv : Vals dvs ds)
    (hx : PassesAt CX X σ (E σ)) (I : Inv X pins σ H s) (r : Vals vs us) (h : sp (vs ++ dvs) H Q (E σ)) :
    codeAny (model X.prog X.w) X.A (.call (.ref f) ⟨us, []⟩) (fun r s2 => match r with
      | .ok (.ret v) => EP X pins σ Q v s2
      | .ok _ => False
      | .error e => X.xe e s2) s := by
  have all : Vals (vs ++ dvs) (us ++ ds) := r.append dv
  have lenA : (us ++ ds).length = ps.length := by
    rw [← all.length]
    exact F.len _ _ _ _ h
  refine codeAny_mono (F.run X.A X.stack s H ⟨us, []⟩ _ _ Q (E σ) rm I.env0 (bn s us I.kIn lenA) all h) fun r s2 q => ?_
  match r, q with
  | .error e, q => exact hx pins H s e s2 I q
  | .ok (.ret u), q => exact I.after q
  | .ok .next, q => exact q.elim
  | .ok .brk, q => exact q.elim
  | .ok .cont, q => exact q.elim
theorem pcme {pl : Sem Bool} (F : Cmt X.prog X.w X.K X.mg X.base C m lv dvs sp) (hr : Room lv X.A) (tk : Takes X W) (ho : PE X o ta) (ha : PA X (e :: es) t)
    (hst : starEach (e :: es) X.env = (false, eval e X.env) :: starEach es X.env := by rfl) (hpl : (backTo pos (starEach es X.env)).any (·.1) = false := by rfl)
    (ht : eval (.Call (.Attribute o m apos) (e :: es) [] pos) X.env = (do
      let ov ← eval o X.env
      standAt apos.atName
      let (f, first) ← holding [ov] (getMethod ov m pl)
      callWith pos f first (backTo pos (starEach (e :: es) X.env)) (backToKw pos (keywordEach [] X.env))) := by rfl) :
    PE X (.Call (.Attribute o m apos) (e :: es) [] pos) (tCme C sp dvs W ta t) := by
  obtain ⟨mc, p, g, fd, ps, ds, cr, cm, F2, hd, hb⟩ := F.ex
  refine ⟨fun pins s σ H Q I h => PySem.W.methodCall_KW (pl := pl) (thn (ho.run pins s σ H _ I h) fun u s1 ⟨x, H1, I1, rx, q⟩ => ?_) ht⟩
  cases x with
  | ref a =>
    obtain ⟨rfl, q⟩ := q
    obtain rfl : u = Value.ref a := rx
    refine ClX.getmethcm_ok I1 cr cm fun s2 I2 => ?_
    refine ClX.callwith_cm I2 (ClX.base_none I1 (Nat.le_refl _)) cm.fi (thn (ha.run pos _ s2 σ H1 _ I2 q) fun us s3 ⟨vs, H2, I3, rv, q2⟩ => ⟨⟨ClX.pin_at I3, I3.kIn⟩, ?_⟩) hst hpl
    refine thn (wpAny_call (PySem.W.method_call (ClX.pin_at I3) (run_fnC (E := WE W) (us := .ref a :: us) (vs := .ref a :: vs) F2 hr hb hd (passAt tk σ) I3 (.cons rfl rv) q2))) fun _ _ y => ClX.unpinE y
  | _ => exact q.elim
/-- cls(..), the i-th slot holds the class -/
def tMkL (i : Nat) (C : Addr) (sp : Sp) (dvs : List V) (W : WX) (t : TA) : TE := fun σ H Q => match σ[i]? with
  | some (some (.ref a)) => a = C ∧ tMak C sp dvs W t σ H Q
  | _ => False
theorem pmkl {y : Str} (F : Mks X.prog X.w X.K X.mg X.base y C lv dvs sp) (hr : Room (lv + 1) X.A) (tk : Takes X W) (ha : PA X (e :: es) t) (hN : X.N[i]? = some x := by rfl)
    (hv : Vis X.env.scope x := by first | exact Or.inl rfl | exact Or.inr (Or.inl rfl) | exact Or.inr (Or.inr rfl)) (hdb : (x == ("__debug__" : Str)) = false := by decide +kernel) (hcd : (x == ("__classdict__" : Str)) = false := by decide +kernel)
    (he : starEach (e :: es) X.env = (false, eval e X.env) :: starEach es X.env := by rfl) (hpl : (backTo pos (starEach es X.env)).any (·.1) = false := by rfl) :
    PE X (.Call (.Name x p) (e :: es) [] pos) (tMkL i C sp dvs W t) := by
  obtain ⟨f, fd, ps, ds, F, M, hm, hd, hb⟩ := F.ex
  refine ⟨fun pins s σ H Q I h => ?_⟩
  have h2 : σ[i]? = some (some (.ref C)) ∧ tMak C sp dvs W t σ H Q := by
    unfold tMkL at h
    split at h
    · rename_i a ea
      obtain ⟨rfl, h⟩ := h
      exact ⟨ea, h⟩
    · exact h.elim
  obtain ⟨hs, ht⟩ := h2
  refine wpAny_Call_Name_kw (thn ((pe_var (pos := p) hN hv hdb hcd).run pins s σ H (fun v H1 => v = .ref C ∧ H1 = H) I ⟨.ref C, hs, rfl, rfl⟩) fun u s1 ⟨v, H1, I1, r1, q1⟩ => ?_)
  obtain ⟨rfl, rfl⟩ := q1
  cases r1
  refine PySem.W.callWith_K (h₀ := X.base) I.ok.mod.kin M.kp (thn (ha.run pos pins s1 σ _ _ I1 ht) fun us s2 ⟨vs, H2, I2, r, q⟩ => ⟨I2.kIn, ?_⟩) he hpl
  exact run_makeS M F hr hb hd tk I2 r q
end
def bCm (x m : Str) : BF := fun K => PySem.W.readsIn K (ga K x) (.type "type") && (eqO (PySem.W.specialIn K (.ref (ga K x)) "__getattribute__") (some (some (.builtin "type.__getattribute__"))) &&
  (He5.wrapB K (ga K x) "classmethod" "classmethod.__get__" m && PySem.W.fnIn K (He5.wf K (ga K x) "classmethod" m)))
def cmA (K : PySem.W.Frag) (C : Addr) (m : Str) : Addr := He5.wf K C "classmethod" m
theorem cm_of {K : PySem.W.Frag} {x m : Str} (c : bCm x m K = true) : ClX.CRead K (ga K x) (.type "type") ∧ ClX.CMet K (ga K x) (.type "type") m (ma K (ga K x) m) (cmA K (ga K x) m) := by
  obtain ⟨c1, c⟩ := He.ba c
  obtain ⟨c2, c⟩ := He.ba c
  obtain ⟨c3, c4⟩ := He.ba c
  exact ⟨⟨c1, eqO_ok c2⟩, He5.cmet_of c3 c4⟩
end Ta

set_option Elab.async false
set_option linter.all false
set_option maxRecDepth 100000
set_option maxHeartbeats 2000000
namespace Ta
open PySem PySem.Spec PyProof.Rows L2 He

/-! ### o[i], x in o, ~o by own methods -/
def tSubO (C : Addr) (sp : Sp) (W : WX) (ta tb : TE) : TE := fun σ H Q => ta σ H fun x H1 => tb σ H1 fun y H2 => isIns C x H2 fun a => sp [.ref a, y] H2 Q fun c d H' => W c d σ H'
def boV (v : V) (k : Bool → Prop) : Prop := match v with
  | .bl b => k b
  | _ => False
theorem boV_e {v : V} {k : Bool → Prop} (h : boV v k) : ∃ b, v = .bl b ∧ k b := by
  cases v with
  | bl b => exact ⟨b, rfl, h⟩
  | _ => exact h.elim
def zInO (C : Addr) (sp : Sp) : R2 := fun x y H Q => isIns C y H fun b => sp [.ref b, x] H (fun v H' => boV v fun k => Q (.bl k) H') fun _ _ _ => False
def zNinO (C : Addr) (sp : Sp) : R2 := fun x y H Q => isIns C y H fun b => sp [.ref b, x] H (fun v H' => boV v fun k => Q (.bl (!k)) H') fun _ _ _ => False
/-- the method stands as a def -/
def MethFn (K : PySem.W.Frag) (C : Addr) (m : Str) : Prop := ∃ g, PySem.W.findIn K (.ref C) m = some (some (.ref g)) ∧ PySem.W.fnIn K g = true
def bFnm (x m : Str) : BF := fun K => match PySem.W.findIn K (.ref (ga K x)) m with
  | some (some (.ref g)) => PySem.W.fnIn K g
  | _ => false
theorem fnm_of {K : PySem.W.Frag} {x m : Str} (c : bFnm x m K = true) : MethFn K (ga K x) m := by
  unfold bFnm at c
  split at c
  · rename_i g e
    exact ⟨g, e, c⟩
  · cases c
def zInvO (C : Addr) (sp : Sp) : V → Hp → VK → Prop := fun x H Q => isIns C x H fun a => sp [.ref a] H Q fun _ _ _ => False
section
variable {X : Cx} {a b : Expr} {ta tb : TE} {pos : Pos} {lv : Nat} {sp : Sp} {W : WX} {C : Addr}
theorem psubO (M : Me X.prog X.w X.K X.mg X.base C "__getitem__" lv [] sp) (mf : MethFn X.K C "__getitem__") (hr : Room (lv + 1) X.A) (tk : Takes X W) (ha : PE X a ta) (hb : PE X b tb)
    (hsl : ∀ (x : Addr) (i : Value), subscripted b true (.ref x) i = runValue (.builtin "lifetime.subscript" ⟨[.ref x, i], []⟩) := by intro _ _; with_unfolding_all rfl) : PE X (.Subscript a b pos) (tSubO C sp W ta tb) := by
  refine ⟨fun pins s σ H Q I h => Subscript_ (binT ha hb I h fun v u s2 x y H2 I2 rx ry q => ?_)⟩
  obtain ⟨p, dx, fs, rfl, hp, q⟩ := isIns_e q
  cases rx
  obtain ⟨⟨f, fd, ps, ds, F, hm, hd, bn⟩, cl⟩ := M
  cases hd
  obtain ⟨mA, J, _⟩ := ins_get I2.hok hp
  obtain ⟨od, J, _⟩ := J.look
  obtain ⟨m, fr⟩ := I2.fr
  have isf : PySem.W.fnIn X.K f = true := by
    obtain ⟨g, e1, e2⟩ := mf
    have e3 := hm.at_
    rw [e1] at e3
    cases e3
    exact e2
  exact PySem.W.sub_K fr I2.ok.mod.kin J hm.at_ isf hm.fn (run_in1 (E := WE W) (us := [.ref p, u]) (vs := [.ref p, y]) F hr bn .nil (passAt tk σ) I2 (.cons rfl (.cons ry .nil)) q) (hsl p u)
theorem opinO (M : Me X.prog X.w X.K X.mg X.base C "__contains__" lv [] sp) (hr : Room lv X.A) : OpR X (compareOp .In) (zInO C sp) := by
  intro pins s σ H x y v u Q I rx ry h
  obtain ⟨p, dx, fs, rfl, hp, q⟩ := isIns_e h
  cases ry
  obtain ⟨⟨f, fd, ps, ds, F, hm, hd, bn⟩, cl⟩ := M
  cases hd
  obtain ⟨mA, J, _⟩ := ins_get I.hok hp
  obtain ⟨od, J, _⟩ := J.look
  obtain ⟨m, fr⟩ := I.fr
  refine PySem.W.in_K fr I.ok.mod.kin J hm.at_ hm.fn (wpAny_mono (run_fnSD (E := WE WF) (us := [.ref p, v]) (vs := [.ref p, x]) F hr bn .nil (passAt takes0 σ) I (.cons rfl (.cons rx .nil)) q) (fun r s' q => ?_) fun _ _ z => z)
  obtain ⟨z, H', I', rz, q⟩ := q
  obtain ⟨k, rfl, q⟩ := boV_e q
  cases rz
  exact wpAny_truthy_bool ⟨.bl k, H', I', rfl, q⟩
theorem opninO (M : Me X.prog X.w X.K X.mg X.base C "__contains__" lv [] sp) (hr : Room lv X.A) : OpR X (compareOp .NotIn) (zNinO C sp) := by
  intro pins s σ H x y v u Q I rx ry h
  obtain ⟨p, dx, fs, rfl, hp, q⟩ := isIns_e h
  cases ry
  obtain ⟨⟨f, fd, ps, ds, F, hm, hd, bn⟩, cl⟩ := M
  cases hd
  obtain ⟨mA, J, _⟩ := ins_get I.hok hp
  obtain ⟨od, J, _⟩ := J.look
  obtain ⟨m, fr⟩ := I.fr
  refine PySem.W.notIn_K fr I.ok.mod.kin J hm.at_ hm.fn (wpAny_mono (run_fnSD (E := WE WF) (us := [.ref p, v]) (vs := [.ref p, x]) F hr bn .nil (passAt takes0 σ) I (.cons rfl (.cons rx .nil)) q) (fun r s' q => ?_) fun _ _ z => z)
  obtain ⟨z, H', I', rz, q⟩ := q
  obtain ⟨k, rfl, q⟩ := boV_e q
  cases rz
  exact wpAny_truthy_bool ⟨.bl (!k), H', I', rfl, q⟩
theorem uninvO (M : Me X.prog X.w X.K X.mg X.base C "__invert__" lv [] sp) (hr : Room lv X.A) : UnR X (unaryOp .Invert) (zInvO C sp) := by
  intro pins s σ H x v Q I rx h
  obtain ⟨p, dx, fs, rfl, hp, q⟩ := isIns_e h
  cases rx
  obtain ⟨⟨f, fd, ps, ds, F, hm, hd, bn⟩, cl⟩ := M
  cases hd
  obtain ⟨mA, J, _⟩ := ins_get I.hok hp
  obtain ⟨od, J, _⟩ := J.look
  obtain ⟨m, fr⟩ := I.fr
  exact PySem.W.ksp_inv fr I.ok.mod.kin J hm.at_ hm.fn (run_fnSD (E := WE WF) (us := [.ref p]) (vs := [.ref p]) F hr bn .nil (passAt takes0 σ) I (.cons rfl .nil) q)
end
/-! ### x in a list or tuple of data of any depth -/
structure din (K : PySem.W.Frag) (x y : V) (H : Hp) (Q : Bool → Prop) : Prop where
  out : ∃ d ds, Dp K H x d ∧ SeqAt.shaped d = true ∧ ((Dp K H y (.list ds) ∧ SeqAt.shaped (.list ds) = true) ∨ (Dp K H y (.tuple ds) ∧ SeqAt.shaped (.tuple ds) = true)) ∧ Q (ds.any fun z => PyData.eqv z d)
def zInD (K : PySem.W.Frag) : R2 := fun x y H Q => din K x y H fun k => Q (.bl k) H
def zNinD (K : PySem.W.Frag) : R2 := fun x y H Q => din K x y H fun k => Q (.bl (!k)) H
section
variable {X : Cx}
theorem opind (hu2 : X.A.units + 65 < cLine) : OpR X (compareOp .In) (zInD X.K) := by
  intro pins s σ H x y v u Q I rx ry h
  obtain ⟨d, ds, hd, sd, he, q⟩ := h.out
  obtain ⟨as, r1⟩ := Dp.reads I d x v hd rx
  rcases he with ⟨he, se⟩ | ⟨he, se⟩
  · obtain ⟨bs, r2⟩ := Dp.reads I (.list ds) y u he ry
    exact SeqAt.in_list_reads r2 r1 (SeqAt.canLay_of_shaped se) (SeqAt.canLay_of_shaped sd) (room_in_shaped sd hu2) ⟨.bl _, H, I, rfl, q⟩
  · obtain ⟨bs, r2⟩ := Dp.reads I (.tuple ds) y u he ry
    exact SeqAt.in_tuple_reads r2 r1 (SeqAt.canLay_of_shaped se) (SeqAt.canLay_of_shaped sd) (room_in_shaped sd hu2) ⟨.bl _, H, I, rfl, q⟩
theorem opnind (hu2 : X.A.units + 65 < cLine) : OpR X (compareOp .NotIn) (zNinD X.K) := by
  intro pins s σ H x y v u Q I rx ry h
  obtain ⟨d, ds, hd, sd, he, q⟩ := h.out
  obtain ⟨as, r1⟩ := Dp.reads I d x v hd rx
  rcases he with ⟨he, se⟩ | ⟨he, se⟩
  · obtain ⟨bs, r2⟩ := Dp.reads I (.list ds) y u he ry
    exact SeqAt.notIn_list_reads r2 r1 (SeqAt.canLay_of_shaped se) (SeqAt.canLay_of_shaped sd) (room_in_shaped sd hu2) ⟨.bl _, H, I, rfl, q⟩
  · obtain ⟨bs, r2⟩ := Dp.reads I (.tuple ds) y u he ry
    exact SeqAt.notIn_tuple_reads r2 r1 (SeqAt.canLay_of_shaped se) (SeqAt.canLay_of_shaped sd) (room_in_shaped sd hu2) ⟨.bl _, H, I, rfl, q⟩
end
theorem _root_.L2.Room.units65 {k : Nat} {A : Around} (r : Room k A) : A.units + 65 < cLine := by
  have := r.un
  omega
end Ta

set_option Elab.async false
set_option linter.all false
set_option maxRecDepth 100000
set_option maxHeartbeats 2000000
namespace Ta
open PySem PySem.Spec PyProof.Rows L2
open Builtin.SmallTypes (nextOf)

/-! ### enumerate of an iterator of any kind; of a text -/
section
variable {prog : Program} {w : World} {A : Around} {E : Value → Shared → Prop} {s : Shared} {e it : Addr} {f1 : List Addr} {n : Nat} {S1 : Nat → Heap → Prop} {Y1 : Nat → Value → Prop} {i : Nat} {old : Value}
theorem en_item {Q : Value → Shared → Prop} (N : Nxt prog w it f1 n S1 Y1) (pe : IsEnum s.heap e it i old) (st : S1 i s.heap) (hi : i < n) (ne : e ≠ it) (nf : ∀ b ∈ f1, b ≠ e)
    (hQ : ∀ u h2 t1 t2, Y1 i u → IsEnumOut h2 e it ((i : Int) + 1) u s.heap.objs.size → S1 (i + 1) h2 → h2.get? s.heap.objs.size = some { cls := .type "tuple", data := .seq #[.int i t1, u] } → h2.objs.size = s.heap.objs.size + 1 →
      (∀ b o, b ≠ e → b ≠ it → s.heap.get? b = some o → h2.get? b = some o) → Q (.ref s.heap.objs.size) { s with heap := h2, toks := t2 }) :
    wpAny (model prog w) A (Builtin.«enumerate.__next__» ⟨[.ref e], []⟩) (fun fin s2 => ∃ v, fin = .done (.ret v) ∧ Q v s2) E s := by
  show wpAny _ _ (field (.ref e) 2 >>= _) _ _ _
  refine wpAny_bind (wpAny_field pe rfl (x := .ref it) rfl (wpAny_bind (N.nitem _ _ _ _ _ hi st fun u g1 t1 y1 a1 s1 => ?_)))
  have p1 : IsEnum g1 e it i old := (s1.2 e ne).trans pe
  show wpAny _ _ (field (.ref e) 3 >>= _) _ _ _
  refine wpAny_bind (wpAny_field p1 rfl (x := rawInt i) rfl ?_)
  show wpAny _ _ (field (.ref e) 4 >>= _) _ _ _
  refine wpAny_bind (wpAny_field p1 rfl (x := .none) rfl ?_)
  show wpAny _ _ (mkInt i >>= _) _ _ _
  refine wpAny_bind (wpAny_mkInt ?_)
  show wpAny _ _ (setField (.ref e) 3 (rawInt ((i : Int) + 1)) >>= _) _ _ _
  refine wpAny_bind (wpAny_setField_rec p1 (by simp) fun g2 p2 s2 => ?_)
  replace p2 : IsEnum g2 e it ((i : Int) + 1) old := p2
  show wpAny _ _ (setField (.ref e) 4 .none >>= _) _ _ _
  refine wpAny_bind (wpAny_setField_rec p2 (by simp) fun g3 p3 s3 => ?_)
  replace p3 : IsEnum g3 e it ((i : Int) + 1) old := p3
  show wpAny _ _ (newTuple [.int i t1, u] >>= _) _ _ _
  refine wpAny_bind (wpAny_newTuple ?_)
  have p4 : IsEnum (g3.push { cls := .type "tuple", data := .seq #[.int i t1, u] }) e it ((i : Int) + 1) old := Heap.get?_push_of_some _ p3
  have sz : g3.objs.size = s.heap.objs.size := by rw [s3.1, s2.1, s1.1]
  have el : e < s.heap.objs.size := Heap.lt_size pe
  have t4 : (g3.push { cls := .type "tuple", data := .seq #[.int i t1, u] }).get? s.heap.objs.size = some { cls := .type "tuple", data := .seq #[.int i t1, u] } := by rw [← sz]; exact Heap.get?_push_size _ rfl
  have k4 : ∀ b o, b ≠ e → b ≠ it → s.heap.get? b = some o → (g3.push { cls := .type "tuple", data := .seq #[.int i t1, u] }).get? b = some o := fun b o c1 c2 q =>
    Heap.get?_push_of_some _ (s3.extBut b o c1 (s2.extBut b o c1 (s1.extBut b o c2 q)))
  have a4 : S1 (i + 1) (g3.push { cls := .type "tuple", data := .seq #[.int i t1, u] }) := N.nkeep _ _ _ a1 fun c hc o q => by
    have c1 : c ≠ e := by
      rcases List.mem_cons.mp hc with rfl | hc
      · exact ne.symm
      · exact nf c hc
    exact Heap.get?_push_of_some _ (s3.extBut c o c1 (s2.extBut c o c1 q))
  have z4 : (g3.push { cls := .type "tuple", data := .seq #[.int i t1, u] }).objs.size = s.heap.objs.size + 1 := by rw [Heap.size_push, sz]
  show wpAny _ _ (Builtin.SmallTypes.ownedTupleIsFree (.ref e) >>= _) _ _ _
  rw [sz]
  generalize g3.push { cls := .type "tuple", data := .seq #[.int i t1, u] } = g4 at p4 t4 k4 a4 z4
  refine wpAny_bind ?_; unfold Builtin.SmallTypes.ownedTupleIsFree
  refine wpAny_bind (wpAny_field p4 rfl (x := .none) rfl (wpAny_pure ?_))
  simp only [if_true]
  refine wpAny_bind (wpAny_rule (wpAny_bind (wpAny_field p4 rfl (x := old) rfl (wpAny_bind (wpAny_setField_rec p4 (by simp) fun g5 p5 s5 => ?_)))))
  replace p5 : IsEnum g5 e it ((i : Int) + 1) u := p5
  show wpAny _ _ (Builtin.SmallTypes.ownedTupleHandOut (.ref e) (.ref s.heap.objs.size) >>= _) _ _ _
  refine wpAny_bind ?_; unfold Builtin.SmallTypes.ownedTupleHandOut
  refine wpAny_bind (wpAny_setField_rec p5 (by simp) fun g6 p6 s6 => ?_)
  replace p6 : IsEnumOut g6 e it ((i : Int) + 1) u s.heap.objs.size := p6
  refine wpAny_setField_rec p6 (by simp) fun g7 p7 s7 => ?_
  replace p7 : IsEnumOut g7 e it ((i : Int) + 1) u s.heap.objs.size := p7
  have up : ∀ b o, b ≠ e → g4.get? b = some o → g7.get? b = some o := fun b o c1 q => s7.extBut b o c1 (s6.extBut b o c1 (s5.extBut b o c1 q))
  refine wpAny_bind (wpAny_letGo (wpAny_pure ⟨_, rfl, hQ u g7 t1 _ y1 p7 ?_ (up _ _ (Nat.ne_of_gt el) t4) (by rw [s7.1, s6.1, s5.1, z4]) fun b o c1 c2 q => up b o c1 (k4 b o c1 c2 q)⟩))
  exact N.nkeep _ _ _ a4 fun c hc o q => up c o (by
    rcases List.mem_cons.mp hc with rfl | hc
    · exact ne.symm
    · exact nf c hc) q
theorem pyNext_en_item {Q : Option Value → Shared → Prop} (N : Nxt prog w it f1 n S1 Y1) (pe : IsEnum s.heap e it i old) (st : S1 i s.heap) (hi : i < n) (ne : e ≠ it) (nf : ∀ b ∈ f1, b ≠ e)
    (hQ : ∀ u h2 t1 t2, Y1 i u → IsEnumOut h2 e it ((i : Int) + 1) u s.heap.objs.size → S1 (i + 1) h2 → h2.get? s.heap.objs.size = some { cls := .type "tuple", data := .seq #[.int i t1, u] } → h2.objs.size = s.heap.objs.size + 1 →
      (∀ b o, b ≠ e → b ≠ it → s.heap.get? b = some o → h2.get? b = some o) → Q (some (.ref s.heap.objs.size)) { s with heap := h2, toks := t2 }) :
    wpAny (model prog w) A (pyNext (.ref e)) Q E s := by
  have te : s.TypeIs (.ref e) "enumerate" := ⟨_, pe, rfl⟩
  unfold pyNext
  exact wpAny_bind (wpAny_attempt (wpAny_callSpecial?_slot (name := Str.ofString "__next__") te F.slot_enumerate_next (wpAny_call_entry F.slot_enumerate_next te F.entry_enumerate_next
    (en_item N pe st hi ne nf fun u h2 t1 t2 b1 b2 b3 b4 b5 b6 => wpAny_pure (hQ u h2 t1 t2 b1 b2 b3 b4 b5 b6)) (F.args_enumerate_next_1 _))))
theorem pyNext_en_end {Q : Option Value → Shared → Prop} (hh : A.handled = none) (N : Nxt prog w it f1 n S1 Y1) (pe : IsEnum s.heap e it n old) (st : S1 n s.heap)
    (hQ : ∀ h2, Heap.ExtBut it s.heap h2 → Q none { s with heap := h2 }) : wpAny (model prog w) A (pyNext (.ref e)) Q E s := by
  have te : s.TypeIs (.ref e) "enumerate" := ⟨_, pe, rfl⟩
  unfold pyNext
  refine wpAny_bind (wpAny_attempt (wpAny_callSpecial?_slot (name := Str.ofString "__next__") te F.slot_enumerate_next (wpAny_call_entry F.slot_enumerate_next te F.entry_enumerate_next ?_ (F.args_enumerate_next_1 _))))
  show wpAny _ _ (field (.ref e) 2 >>= _) _ _ _
  refine wpAny_bind (wpAny_field pe rfl (x := .ref it) rfl (wpAny_bind (N.ndone _ _ _ _ hh st fun h2 x up ⟨o, ho, hc⟩ => ?_)))
  exact wpAny_bind (wpAny_isInstance (T := "StopIteration") (b := true) ⟨o, ho, hc⟩ isSubtype_stop (wpAny_pure (hQ _ up)))
end
/-- the signs of x, numbered, in new pairs -/
def Ites (x : Str) : It :=
  ⟨fun i _ => i < x.cps.size, fun i H v H' => ∃ T c, v = .ref T ∧ H T = none ∧ H' = upd H T (.tup [.int (i : Nat), .str ⟨#[c]⟩]) ∧ x.cps[i]? = some c, fun i _ => i = x.cps.size⟩
theorem turn_ens {P : Program} {w : World} {K : PySem.W.Frag} {elts : List Expr} {kk : Nat} {tpos : Pos} {x : Str} {t : Tok} (e it : Addr) :
    Turn P w K (.Tuple elts kk tpos) (Ites x) [e, it] e (fun i h => (∃ old, IsEnum h e it ((i : Nat) : Int) old) ∧ h.IsStrIter it "str_ascii_iterator" x t i ∧ e ≠ it) where
  mem := by simp
  obj := fun i h st b hb => by
    obtain ⟨⟨old, he⟩, ⟨o, ho, hc, hd⟩, _⟩ := st
    simp only [List.mem_cons, List.not_mem_nil, or_false] at hb
    rcases hb with rfl | rfl
    · exact ⟨_, he, fun v q => nomatch q⟩
    · exact ⟨o, ho, fun v q => by rw [hd] at q; cases q⟩
  keep := fun i h h2 st k => by
    obtain ⟨⟨old, he⟩, ⟨o, ho, r⟩, ne⟩ := st
    exact ⟨⟨old, k e (by simp) _ he⟩, ⟨o, k it (by simp) _ ho, r⟩, ne⟩
  item := by
    intro X hP hw hK hc i pins s σ H E I hf st hg
    subst hP hw hK
    obtain ⟨⟨old, he⟩, hit, ne⟩ := st
    have hi : i < x.cps.size := hg
    have ex : x.cps[i]? = some x.cps[i] := by simp [hi]
    have hel : e < s.heap.objs.size := Heap.lt_size he
    have hil : it < s.heap.objs.size := by obtain ⟨_, q, _⟩ := hit; exact Heap.lt_size q
    refine pyNext_en_item nx_ascii he hit hi ne (fun b hb => (nomatch hb)) fun u h2 t1 t2 y1 o2 b2 p2 sz up => ?_
    obtain ⟨c, t', ec, rfl⟩ := y1
    rw [ex] at ec
    cases ec
    refine ⟨_, rfl, wpAny_letOwnedTupleGo_enum (s := { s with heap := h2, toks := t2 }) o2 fun h3 e3 sb => ?_⟩
    have p3 : h3.get? s.heap.objs.size = some { cls := .type "tuple", data := .seq #[.int i t1, .str ⟨#[x.cps[i]]⟩ t'] } := (sb.2 _ (Nat.ne_of_gt hel)).trans p2
    have new : ObjOk X.prog X.w (upd H s.heap.objs.size (.tup [.int (i : Nat), .str ⟨#[x.cps[i]]⟩])) h3 s.heap.objs.size (.tup [.int (i : Nat), .str ⟨#[x.cps[i]]⟩]) :=
      ⟨by show 2 ≤ sizeLine; decide, [.int i t1, .str ⟨#[x.cps[i]]⟩ t'], .cons ⟨_, rfl⟩ (.cons ⟨_, rfl⟩ .nil), ⟨_, p3, rfl, _, rfl⟩⟩
    have J : Inv X pins σ (upd H s.heap.objs.size (.tup [.int (i : Nat), .str ⟨#[x.cps[i]]⟩])) { s with heap := h3, toks := t2 } :=
      I.turnedNew (t' := t2) (ch := [e, it]) (fun b ob hb q => by
        simp only [List.mem_cons, List.not_mem_nil, or_false, not_or] at hb
        exact (sb.2 b hb.1).trans (up b ob hb.1 hb.2 q)) hf (Nat.le_refl _) new
    refine ⟨.ref s.heap.objs.size, _, J, rfl, ⟨_, x.cps[i], rfl, I.hok.fresh (Nat.le_refl _), rfl, ex⟩, ⟨⟨.str ⟨#[x.cps[i]]⟩ t', ?_⟩, ?_, ne⟩, fun b hb => ?_⟩
    · have e1 : ((i + 1 : Nat) : Int) = (i : Int) + 1 := by omega
      rw [e1]; exact e3
    · obtain ⟨o, ho, r⟩ := b2
      exact ⟨o, (sb.2 it (Ne.symm ne)).trans ho, r⟩
    · have hlt : b < s.heap.objs.size := by
        simp only [List.mem_cons, List.not_mem_nil, or_false] at hb
        rcases hb with rfl | rfl
        · exact hel
        · exact hil
      rw [upd_ne (Nat.ne_of_lt hlt)]
      exact (hf b hb).1
  done := by
    intro X hP hw hK hc i pins s σ H E I hf st hg
    subst hP hw hK
    obtain ⟨⟨old, he⟩, hit, ne⟩ := st
    have hi : i = x.cps.size := hg
    subst hi
    obtain ⟨f0, g1, g2, g3, g4, g5⟩ := hf it (by simp)
    exact pyNext_en_end (I.ok.hd hc) nx_ascii he hit fun h2 up => ⟨rfl, I.turned (t' := s.toks) (fun b o hb q => up b o hb q) f0 g1 g3 g4 g5⟩
  self := fun A i s Q E st h => let ⟨⟨_, he⟩, _⟩ := st; wpAny_pyIter_enum he h
def itEs (l : List Nat) : Itm := fun i H v H' => ∃ T c, v = .ref T ∧ H T = none ∧ H' = upd H T (.tup [.int (i : Nat), .str (S [c])]) ∧ l[i]? = some c
def jEs (ta : TA) : TJ := fun σ H R => ta σ H fun vs H1 => one vs fun x => match x with
  | .str z => (tl z).all (· < 128) = true ∧ R (tl z).length (itEs (tl z)) (fun _ => True) H1
  | _ => False
theorem pjes {X : Cx} {e : Expr} {ta : TA} {p pos tpos : Pos} {elts : List Expr} {kk : Nat} (hm : X.mg "enumerate" = none) (ha : PA X [e] ta) (hg : Gl X "enumerate" := by rfl) (hst : starEach [e] X.env = [(false, eval e X.env)] := by rfl) :
    PJ X (.Tuple elts kk tpos) (.Call (.Name "enumerate" p) [e] [] pos) (jEs ta) := by
  refine ⟨fun pins s σ H R I h => ?_⟩
  refine Call_ (ld_blt I hg hm boot_enumerate (PyProof.Rows.callWith_type1 (thn (ha.run pos pins s σ H _ I h) fun us s1 ⟨vs, H1, J, rel, q1⟩ => ?_) hst rfl))
  obtain ⟨x, rfl, q⟩ := one_e q1
  cases x with
  | str z =>
    obtain ⟨q1, q2⟩ := q
    cases rel with
    | cons r rr =>
      cases rr
      obtain ⟨t, rfl⟩ := r
      have asc : z.cps.all (· < 128) = true := by rw [← Array.all_toList]; exact q1
      have ety : strIterType z = "str_ascii_iterator" := by unfold strIterType; rw [asc]; rfl
      have es : z.cps.size = (tl z).length := by simp [tl]
      refine call_enumerate_str fun h2 he hit hsz up => wpAny_pyIter_enum he ?_
      rw [ety] at hit
      have J2 : Inv X pins σ H1 { s1 with heap := h2 } := J.kept (t' := s1.toks) up
      refine ⟨s1.heap.objs.size + 1, [s1.heap.objs.size + 1, s1.heap.objs.size], _, _, H1, rfl, J2, turn_ens (t := t) (s1.heap.objs.size + 1) s1.heap.objs.size, ⟨⟨.none, he⟩, hit, Nat.succ_ne_self _⟩, fun b hb => ?_, q2 (Ites z) ⟨fun i H hi _ => by show i < z.cps.size; omega, fun i H v H' hi _ y => ?_, fun H _ => es.symm⟩⟩
      · have hle : s1.heap.objs.size ≤ b := by
          simp only [List.mem_cons, List.not_mem_nil, or_false] at hb
          rcases hb with rfl | rfl
          · exact Nat.le_add_right _ _
          · exact Nat.le_refl _
        exact J.fpOk hle (J.hok.fresh hle)
      · obtain ⟨T, c, h1, h2, h3, h4⟩ := y
        exact ⟨T, c, h1, h2, h3, by simpa [tl] using h4⟩
  | _ => exact q.elim
end Ta

set_option Elab.async false
set_option linter.all false
set_option maxRecDepth 100000
set_option maxHeartbeats 2000000
namespace Ta
open PySem PySem.Spec PyProof.Rows L2 He

/-! ### return super().m(..), x = super().m(..) -/
section
variable {X : Cx} {body : List Stmt} {e : Expr} {te : TE} {pos pos' : Pos}
theorem pas_ret (h : PAe X body e te) : PAs X body (.Return (some e) pos) (tRet te) := by
  refine ⟨fun pins s σ H D I q => PySem.ks_wpAt_Return_some (PySem.ks_wpAt_mono (h.run pins s σ H _ I q) (fun v s1 h1 => ?_) fun _ _ z => z)⟩
  obtain ⟨x, H1, I1, r1, q1⟩ := h1
  exact ⟨x, σ, H1, I1, r1, q1⟩
theorem pas_set {i : Nat} {x : Str} (hN : X.N.Nodup) (h : PAe X body e te) (hi : X.N[i]? = some x := by rfl) (hx : Loc X.env.scope x := by first | exact Or.inl rfl | exact Or.inr rfl) (hs : swapsWith e (some (.Name x pos')) pos.line X.env = pure false := by rfl)
    (hf : X.fn x = true ∨ X.env.scope.names.lookup x = some .local := by first | exact .inl rfl | exact .inr rfl) : PAs X body (.Assign [.Name x pos'] e pos) (tAsg te (gName i)) := by
  refine ⟨fun pins s σ H D I q => PySem.ks_wpAt_Assign_Name (PySem.ks_wpAt_mono (h.run pins s σ H _ I q) (fun v s1 h1 => ?_) fun _ _ z => z) hs⟩
  obtain ⟨y, H1, I1, r1, q1⟩ := h1
  exact store_ok I1 hN hi hx r1 (fun s2 I2 => ⟨_, H1, I2, q1⟩) hf
end
/-! ### upper -/
def zUpper : V → List V → Hp → VK → Prop := fun x xs H Q => match x with
  | .str a => xs = [] ∧ (tl a).length ≤ 5592405 ∧ Q (.str (Txt.upper a)) H
  | _ => False
theorem mtupper {X : Cx} : MtR X "str.upper" zUpper := mt_imp mt_upper fun x xs H Q h => by
  cases x with
  | str a => exact ⟨a, rfl, h.1, by rw [len_tl]; exact h.2.1, h.2.2⟩
  | _ => exact h.elim
end Ta

set_option Elab.async false
set_option linter.all false
set_option maxRecDepth 100000
set_option maxHeartbeats 2000000
namespace Ta
open PySem PySem.Spec PyProof.Rows L2 He

/-! ### s.m() of a text -/
def tSM0 (r : V → List V → Hp → VK → Prop) (to : TE) : TE := fun σ H Q => to σ H fun x H1 => match x with
  | .str a => r (.str a) [] H1 Q
  | _ => False
theorem psm0 {X : Cx} {o : Expr} {to : TE} {id : String} {name : Str} {apos pos : Pos} {r : V → List V → Hp → VK → Prop} (slot : Slot "str" name id) (ty : typeOf (.builtin id) = pure (.type "method_descriptor")) (rule : MtR X id r) (ho : PE X o to)
    (hbase : attributeBase o name X.env (eval o X.env) = eval o X.env := by rfl) (hline : (apos.endLine == pos.line) = true := by rfl) : PE X (.Call (.Attribute o name apos) [] [] pos) (tSM0 r to) :=
  pe_imp (pe_m0 (to := upE to) slot ty rule (pe_up ho) hbase hline) fun σ H Q h => ⟨_, h, fun x H1 h => by
    cases x with
    | str a => exact ⟨⟨a, rfl⟩, h⟩
    | _ => exact h.elim⟩

/-! ### inherited methods and properties -/
def bSame (x y m : Str) : BF := fun K => decide (ma K (ga K x) m = ma K (ga K y) m)
theorem same_me {K : PySem.W.Frag} {C : Addr} {x y m : Str} (h : Meth K C m (ma K (ga K x) m)) (e : bSame x y m K = true) : Meth K C m (ma K (ga K y) m) := by
  rw [← of_decide_eq_true e]; exact h
def bSameP (x y m : Str) : BF := fun K => decide (prA K (ga K x) m = prA K (ga K y) m)
theorem same_pr {K : PySem.W.Frag} {C p : Addr} {x y m : Str} (h : PropOf K C m p (prA K (ga K x) m)) (e : bSameP x y m K = true) : PropOf K C m p (prA K (ga K y) m) := by
  rw [← of_decide_eq_true e]; exact h
def tPrpM (ms : MS) (ta : TE) : TE := fun σ H Q => ta σ H fun x H1 => match x with
  | .ref a => look H1 a fun ob => (match ob with
    | some (.ins C dx fs) => pick ms C fun _ sp => sp [.ref a] H1 Q fun _ _ _ => False
    | _ => False)
  | _ => False
theorem pprpM {X : Cx} {e : Expr} {ta : TE} {f : Str} {lv : Nat} {ms : MS} {pos : Pos} (F : ∀ z ∈ ms, Pr X.prog X.w X.K X.mg X.base z.1 f lv z.2.2) (hr : Room (lv + 1) X.A) (he : PE X e ta) (hab : attributeBase e f X.env (eval e X.env) = eval e X.env := by rfl) : PE X (.Attribute e f pos) (tPrpM ms ta) := by
  refine ⟨fun pins s σ H Q I h => attr_of hab (thn (he.run pins s σ H _ I h) fun u s1 ⟨x, H1, I1, rx, q⟩ => ?_)⟩
  cases x with
  | ref a =>
    have q1 := look_e q
    clear q
    cases ea : H1 a with
    | none => rw [ea] at q1; exact q1.elim
    | some ob =>
      rw [ea] at q1
      cases ob with
      | ins C' dx fs =>
        obtain ⟨y, hy, e2, q2⟩ := q1.out
        have e2 : y.1 = C' := e2
        subst e2
        obtain ⟨⟨p, g, fd, ps, hp, F1, hb⟩, cl⟩ := F y hy
        obtain rfl : u = Value.ref a := rx
        exact getprop_ok (E := fun _ _ _ => False) I1 ea cl hp F1 hr hb .nil (fun _ _ _ _ _ _ _ z => False.elim (let ⟨_, _, _, _, _, _, _, _, _, _, _, _, z⟩ := z; z)) q2
      | _ => exact q1.elim
  | _ => exact q.elim
/-! ### what super().m is -/
/-- of an object of class x, said in class d, it is the m of class t -/
def bSu (x d m t : Str) : BF := fun K => eqO (PySem.W.ks_superIn K (ga K x) (ga K d) m) (some (some (.ref (ma K (ga K t) m)))) && (decide (PySem.W.typeIn K (.ref (ma K (ga K t) m)) = some (.type "function")) &&
  (PySem.W.fnIn K (ma K (ga K t) m) && (decide (PySem.W.mroIn K (ga K x) (.ref (ga K d)) = some true) && eqO (PySem.W.nsIn K cStatics "thirdparty.any") (some none))))
theorem su_of {P : Program} {w : World} {K : PySem.W.Frag} {mg : Str → Option Value} {base : Heap} {x d m t : Str} {lv : Nat} {dvs : List V} {sp : Sp} {fd : FuncData} {ps : List Str} {ds : List Value} (c : bSu x d m t K = true)
    (O : FnOk P w K mg base (L2.CX P w) lv (ma K (ga K t) m) fd ps sp) (v : Vals dvs ds) (b : Binds K fd ps ds) : Su P w K mg base (ga K d) (ga K x) m lv dvs sp := by
  obtain ⟨c1, c⟩ := He.ba c
  obtain ⟨c2, c⟩ := He.ba c
  obtain ⟨c3, c⟩ := He.ba c
  obtain ⟨c4, c5⟩ := He.ba c
  exact ⟨⟨_, fd, ps, ds, O, eqO_ok c1, of_decide_eq_true c2, c3, v, b⟩, of_decide_eq_true c4, eqO_ok c5⟩
end Ta

set_option Elab.async false
set_option linter.all false
set_option maxRecDepth 100000
set_option maxHeartbeats 2000000
namespace Ta
open PySem PySem.Spec PyProof.Rows L2 He

/-! ### promises of several classes at one level -/
section
variable {P : Program} {w : World} {K : PySem.W.Frag} {mg : Str → Option Value} {base : Heap} {C : Addr} {m x y : Str} {j k : Nat} {dvs : List V} {sp : Sp}
theorem me_up (M : Me P w K mg base C m j dvs sp) (h : j ≤ k) : Me P w K mg base C m k dvs sp := by
  obtain ⟨⟨f, fd, ps, ds, F, r⟩, c⟩ := M
  exact ⟨⟨f, fd, ps, ds, F.mono h, r⟩, c⟩
theorem pr_up (M : Pr P w K mg base C m j sp) (h : j ≤ k) : Pr P w K mg base C m k sp := by
  obtain ⟨⟨p, g, fd, ps, h1, F, b⟩, c⟩ := M
  exact ⟨⟨p, g, fd, ps, h1, F.mono h, b⟩, c⟩
theorem same_mk (h : Mk K C (ma K (ga K x) "__init__")) (e : bSame x y "__init__" K = true) : Mk K C (ma K (ga K y) "__init__") := by
  rw [← of_decide_eq_true e]; exact h
end
/-! ### tuple(x) of a list or a tuple -/
def zTuple (K : PySem.W.Frag) : List V → Hp → VK → Prop := fun xs H Q => one xs fun x => match x with
  | .ref p => look H p fun o => (match o with
    | some (.lst ys) => ∀ l, H l = none → Q (.ref l) (upd H l (.tup ys))
    | some (.tup ys) => Q (.ref p) H
    | _ => False)
  | _ => False
theorem crtuple {X : Cx} : CallR X (.type "tuple") (zTuple X.K) := by
  intro pins s σ H xs us Q I r q
  obtain ⟨x, rfl, q1⟩ := one_e q
  cases x with
  | ref p =>
    obtain ⟨u, eu, rx⟩ := vals1 r
    subst eu
    refine rl_tuple pins s σ H (.ref p) u Q I rx ?_
    have q1 := look_e q1
    cases e : H p with
    | none => rw [e] at q1; exact q1.elim
    | some o =>
      rw [e] at q1
      cases o with
      | lst ys => exact .inl ⟨p, ys, rfl, SqL.of e, q1⟩
      | tup ys => exact .inr ⟨p, ys, rfl, SqT.of e, q1⟩
      | _ => exact q1.elim
  | _ => exact False.elim q1
/-! ### comprehensions of two clauses, without any word on monotony -/
/-- the second source's walk -/
structure inn (J1 : It) (H4 : Hp) (N : Hp → Prop) (D : Addr) (g1 : TG) (tt1 : TT) (te : TE) (vs1 : List Nat) (σ2 : St) : Prop where
  out : ∃ W1 : Nat → Nat → Hp → Prop, (∃ m, W1 0 m H4) ∧ ∀ j k H, W1 j k H →
      (J1.stop j H ∧ N H) ∨ (J1.go j H ∧ ∃ Nx1 : Hp → Prop, (∀ H', Nx1 H' → ∃ k', k' < k ∧ W1 (j + 1) k' H') ∧ ∀ x H', J1.yld j H x H' → g1 x (wipe σ2 vs1) H' fun σ3 H5 => wipe σ3 vs1 = wipe σ2 vs1 ∧ tt1 σ3 H5 fun b H6 =>
        if b = true then te σ3 H6 fun y H7 => ∃ acc, H7 D = some (.lst acc) ∧ acc.length < sizeLine ∧ Nx1 (upd H7 D (.lst (acc ++ [y]))) else Nx1 H6)
theorem inn_eq {J1 : It} {H4 : Hp} {N : Hp → Prop} {D : Addr} {g1 : TG} {tt1 : TT} {te : TE} {vs1 : List Nat} {σ2 : St} : inn J1 H4 N D g1 tt1 te vs1 σ2 = (∃ W1 : Nat → Nat → Hp → Prop, (∃ m, W1 0 m H4) ∧ ∀ j k H, W1 j k H →
      (J1.stop j H ∧ N H) ∨ (J1.go j H ∧ ∃ Nx1 : Hp → Prop, (∀ H', Nx1 H' → ∃ k', k' < k ∧ W1 (j + 1) k' H') ∧ ∀ x H', J1.yld j H x H' → g1 x (wipe σ2 vs1) H' fun σ3 H5 => wipe σ3 vs1 = wipe σ2 vs1 ∧ tt1 σ3 H5 fun b H6 =>
        if b = true then te σ3 H6 fun y H7 => ∃ acc, H7 D = some (.lst acc) ∧ acc.length < sizeLine ∧ Nx1 (upd H7 D (.lst (acc ++ [y]))) else Nx1 H6)) := propext ⟨fun h => h.out, fun h => ⟨h⟩⟩
theorem lc2_j {n : Nat} {it : Itm} {st : Hp → Prop} {g : TG} {tt : TT} {wi1 : TJ} {g1 : TG} {tt1 : TT} {te : TE} {vs vs1 : List Nat} {σ : St} {H1 : Hp} {Q : VK} (Pv : Addr → Nat → Hp → Prop) (h0 : ∀ D, H1 D = none → Pv D 0 (upd H1 D (.lst []))) (hst : ∀ D i H, H1 D = none → i ≤ n → Pv D i H → st H)
    (hs : ∀ D i x H H', H1 D = none → i < n → Pv D i H → it i H x H' → g x (wipe σ vs) H' fun σ2 H2 => wipe σ2 vs = wipe σ vs ∧ tt σ2 H2 fun b H3 =>
      if b = true then toI wi1 σ2 H3 fun J1 H4 => inn J1 H4 (Pv D (i + 1)) D g1 tt1 te vs1 σ2 else Pv D (i + 1) H3)
    (hd : ∀ D H, H1 D = none → Pv D n H → Q (.ref D) H) : lc2 n it st g tt wi1 g1 tt1 te vs vs1 σ H1 Q := by
  refine ⟨?_⟩
  intro J A D hD
  refine ⟨fun i m H => m = n - i ∧ i ≤ n ∧ Pv D i H, ⟨n, by simp, Nat.zero_le _, h0 D hD⟩, ?_⟩
  rintro i m H ⟨rfl, hi, p⟩
  have q := hst D i H hD hi p
  by_cases hlt : i < n
  · refine .inr ⟨A.go i H hlt q, Pv D (i + 1), fun H' p' => ⟨n - (i + 1), by omega, rfl, hlt, p'⟩, fun x H' y => ?_⟩
    have z := hs D i x H H' hD hlt p (A.yl i H x H' hlt q y)
    simp only [inn_eq] at z
    exact z
  · have e : i = n := by omega
    subst e
    exact .inl ⟨A.sp H q, hd D H hD p⟩
theorem inn_i {J1 : It} {n1 : Nat} {it1 : Itm} {st1 : Hp → Prop} {H4 : Hp} {N : Hp → Prop} {D : Addr} {g1 : TG} {tt1 : TT} {te : TE} {vs1 : List Nat} {σ2 : St} (A : Adm J1 n1 it1 st1) (Pw : Nat → Hp → Prop) (w0 : Pw 0 H4) (wst : ∀ j H, j ≤ n1 → Pw j H → st1 H) (wd : ∀ H, Pw n1 H → N H)
    (ws : ∀ j x H H', j < n1 → Pw j H → it1 j H x H' → g1 x (wipe σ2 vs1) H' fun σ3 H5 => wipe σ3 vs1 = wipe σ2 vs1 ∧ tt1 σ3 H5 fun b H6 => if b = true then te σ3 H6 fun y H7 => ∃ acc, H7 D = some (.lst acc) ∧ acc.length < sizeLine ∧ Pw (j + 1) (upd H7 D (.lst (acc ++ [y]))) else Pw (j + 1) H6) : inn J1 H4 N D g1 tt1 te vs1 σ2 := by
  refine ⟨fun j k H => k = n1 - j ∧ j ≤ n1 ∧ Pw j H, ⟨n1, by simp, Nat.zero_le _, w0⟩, ?_⟩
  rintro j k H ⟨rfl, hj, pw⟩
  have q1 := wst j H hj pw
  by_cases hlt1 : j < n1
  · exact .inr ⟨A.go j H hlt1 q1, Pw (j + 1), fun H' p' => ⟨n1 - (j + 1), by omega, rfl, hlt1, p'⟩, fun x H' y => ws j x H H' hlt1 pw (A.yl j H x H' hlt1 q1 y)⟩
  · have e1 : j = n1 := by omega
    subst e1
    exact .inl ⟨A.sp H q1, wd H pw⟩
/-! ### targets that are tuples -/
theorem gtup2 {K : PySem.W.Frag} {T : Addr} {u v : V} {i j : Nat} {σ : St} {H : Hp} {Q : St → Hp → Prop} (h : H T = some (.tup [u, v])) (q : Q ((σ.set i (some u)).set j (some v)) H) : gTup K 2 (gCons (gName i) (gCons (gName j) gNil)) (.ref T) σ H Q :=
  ⟨T, _, rfl, SqT.of h, rfl, u, [v], rfl, v, [], rfl, rfl, q⟩
theorem gtup3 {K : PySem.W.Frag} {T : Addr} {u v w : V} {i j k : Nat} {σ : St} {H : Hp} {Q : St → Hp → Prop} (h : H T = some (.tup [u, v, w])) (q : Q (((σ.set i (some u)).set j (some v)).set k (some w)) H) : gTup K 3 (gCons (gName i) (gCons (gName j) (gCons (gName k) gNil))) (.ref T) σ H Q :=
  ⟨T, _, rfl, SqT.of h, rfl, u, [v, w], rfl, v, [w], rfl, w, [], rfl, rfl, q⟩
/-- i, (a, b) -/
theorem gtup12 {K : PySem.W.Frag} {T T2 : Addr} {u v w : V} {i j k : Nat} {σ : St} {H : Hp} {Q : St → Hp → Prop} (h : H T = some (.tup [u, .ref T2])) (h2 : H T2 = some (.tup [v, w])) (q : Q (((σ.set i (some u)).set j (some v)).set k (some w)) H) : gTup K 2 (gCons (gName i) (gCons (gTup K 2 (gCons (gName j) (gCons (gName k) gNil))) gNil)) (.ref T) σ H Q :=
  ⟨T, _, rfl, SqT.of h, rfl, u, [.ref T2], rfl, .ref T2, [], rfl, gtup2 h2 ⟨rfl, q⟩⟩
end Ta

set_option Elab.async false
set_option linter.all false
set_option maxRecDepth 100000
set_option maxHeartbeats 2000000
namespace Ta
open PySem PySem.Spec PyProof.Rows L2 He

/-! ### a[n:hi].replace(c, '') with written texts -/
structure PE1 (X : Cx) (e : Expr) (t : TE) : Prop where
  run : ∀ (pins : List (Addr × Obj)) (s : Shared) (σ : St) (H : Hp) (Q : VK), Inv X pins σ H s → t σ H Q → wpAny (model X.prog X.w) X.A (eval e X.env) (fun u s' => EP X pins σ Q u s' ∧ 1 ≤ s'.toks) X.xe s
section
variable {X : Cx} {a : Expr} {ta : TE} {t2 : TO} {hi : Option Expr} {p0 p2 pos : Pos} {j : Nat} {n : Int}
theorem psl1 (ha : PE X a ta) (hh : PO X hi t2) : PE1 X (.Subscript a (.Slice (some (.Constant (.int n) j p0)) hi none p2) pos) (tSl (zSlP X.K) ta (tPrt (tC (.int n))) t2) := by
  refine ⟨fun pins s σ H Q I h => ?_⟩
  refine Subscript_ (thn (ha.run pins s σ H _ I h) fun v s1 ⟨x, H1, I1, r1, q1⟩ => ?_)
  have q1 : t2 σ H1 fun u H3 => zSlP X.K x (some n) u H3 Q := q1
  refine wpAny_Slice ?_
  rw [evalPart_some]
  refine wpAny_Constant_int ?_
  have I2 : Inv X pins σ H1 { s1 with toks := s1.toks + 1 } := I1.tok _
  refine wpAny_mono (wpAny_toks_of (n := 1) (Nat.succ_le_succ (Nat.zero_le _)) (hh.run pins _ σ H1 _ I2 q1)) (fun vu s3 ⟨hk, u, H3, I3, pu, q3⟩ => ?_) fun _ _ z => z.2
  rw [evalPart_none]
  refine wpAny_pure ?_
  have I4 : Inv X pins σ H3 { s3 with heap := s3.heap.push { cls := .type "slice", data := .fields #[.int n s1.toks, vu, .none] } } := I3.kept (t' := s3.toks) fun b ob q => Heap.get?_push_of_some _ q
  obtain ⟨T, id, hT, ht, hg⟩ := slp pins { s3 with heap := s3.heap.push { cls := .type "slice", data := .fields #[.int n s1.toks, vu, .none] } } σ H3 x v (.int n s1.toks) vu (some n) u s3.heap.objs.size Q I4 r1 (Heap.IsSliceOf.new ..) (.int n _) pu q3
  exact wpAny_mono (wpAny_toks_of (n := 1) hk (tail_any (ops := [.ref s3.heap.objs.size, v]) ht hT hg (by with_unfolding_all rfl))) (fun u s' z => ⟨z.2, z.1⟩) fun _ _ z => z.2
end
def tRpK (c : Nat) (t : TE) : TE := fun σ H Q => t σ H fun x H1 => match x with
  | .str z => (tl z).length ≤ 1000000 ∧ Q (.str (S (rpE c (tl z)))) H1
  | _ => False
theorem prepK {X : Cx} {e : Expr} {t : TE} {c j1 j2 : Nat} {x1 : Str} {p1 p3 apos pos : Pos} (he : PE1 X e t) (hx : x1 = S [c] := by decide +kernel)
    (hst : starEach [.Constant (.str x1) j1 p1, .Constant (.str (S [])) j2 p3] X.env = [(false, eval (.Constant (.str x1) j1 p1) X.env), (false, eval (.Constant (.str (S [])) j2 p3) X.env)] := by rfl)
    (hbase : attributeBase e "replace" X.env (eval e X.env) = eval e X.env := by rfl) (hline : (apos.endLine == pos.line) = true := by rfl) :
    PE X (.Call (.Attribute e "replace" apos) [.Constant (.str x1) j1 p1, .Constant (.str (S [])) j2 p3] [] pos) (tRpK c t) := by
  subst hx
  refine ⟨fun pins s σ H Q I h => ?_⟩
  refine PySem.Call_method2 hbase hst hline (thn (he.run pins s σ H _ I h) fun v s1 ⟨⟨x, H1, I1, r1, q1⟩, h1⟩ => ?_)
  cases x with
  | str z =>
    obtain ⟨hb, q⟩ := q1
    obtain ⟨tx, rfl⟩ := r1
    refine ⟨"str", _, F.plainAttrs_str, F.slot_str_replace, F.type_str_replace, typeIs_str _ _ _, (fun _ e => nomatch e), Calls.callWith_builtin rfl (Calls.evalArgs_plain (Calls.spliced_cons ?_))⟩
    refine Calls.Constant_str (Calls.spliced_cons (Calls.Constant_str (Calls.spliced_nil ?_)))
    refine PySem.SC.replace (show s1.toks ≠ (0 : Nat) from by omega) (show s1.toks + 1 ≠ (0 : Nat) from by omega) (show s1.toks ≠ s1.toks + 1 from by omega) (by simp only [beq_eq_false_iff_ne]; exact fun z => absurd (congrArg (fun y : Str => (tl y).length) z) (show ¬ (1 = 0) by decide)) (by
      have : (S []).length = 0 := by rw [len_tl]; rfl
      rw [this, len_tl]; omega) fun t' k => ⟨.str (S (rpE c (tl z))), H1, I1.tok k, ⟨t', by rw [repl_SE]⟩, q⟩
  | _ => exact False.elim q1
/-! ### bool(x): any truth, own __bool__ -/
section
variable {prog : Program} {w : World} {A : Around} {E : Value → Shared → Prop} {s : Shared}
theorem bool_meets (v : Value) : MeetsIn prog w (Builtin.«bool.__new__» ⟨[.type "bool", v], []⟩) (fun A R s => wpAny (model prog w) A.in1 (truthy v) (fun k s' => R (.ok (.ret (.bool k))) s') (fun e s' => R (.error e) s') s) := by
  intro A R s h
  unfold Builtin.«bool.__new__»
  refine wpAny_bind (m := isType (.type "bool")) (wpAny_pure ?_)
  refine wpAny_bind (wpAny_of_eq F.conv_sub_bool ?_)
  refine wpAny_bind (m := someArgs "bool" 0 1 _) (wpAny_pure ?_)
  exact wpAny_bind (wpAny_mono h (fun k s' q => wpAny_pure q) fun _ _ q => q)
theorem call_boolG {v : Value} {Q : Value → Shared → Prop} (h : wpAny (model prog w) A.in1.in1 (truthy v) (fun k s' => Q (.bool k) s') E s) : wpAny (model prog w) A (call (.type "bool") [v]) Q E s :=
  callType_newIn F.called_bool F.newNe_bool (F.typeCall_bool_1 v) (F.newCall_bool_1 v) (fun obj => F.args_object_init_2 obj v) F.entry_bool_new (bool_meets v) (wpAny_mono h (fun k s' q => ⟨rfl, q⟩) fun _ _ q => q)
end
def zBoolX (K : PySem.W.Frag) : List V → Hp → VK → Prop := fun xs H Q => one xs fun x => match x with
  | .int i => Q (.bl (!decide (i = 0))) H
  | .bl k => Q (.bl k) H
  | .ref p => look H p fun o => (match o with
    | some (.lst xs) => Q (.bl (!xs.isEmpty)) H
    | some (.tup xs) => Q (.bl (!xs.isEmpty)) H
    | _ => False)
  | _ => False
theorem crboolX {X : Cx} : CallR X (.type "bool") (zBoolX X.K) := fun pins s σ H xs us Q I r h => by
  obtain ⟨x, rfl, h⟩ := one_e h
  cases x with
  | int i => exact call_bool1 pins s σ H _ us Q I r (.inl ⟨i, rfl, by
      have e : (i != 0) = !decide (i = 0) := by simp only [bne]; congr 1
      rw [e]; exact h⟩)
  | bl k => exact call_bool1 pins s σ H _ us Q I r (.inr ⟨k, rfl, h⟩)
  | ref p =>
    obtain ⟨u, rfl, rx⟩ := vals1 r
    cases rx
    have hl := line63
    have h := look_e h
    cases e : H p with
    | none => rw [e] at h; exact h.elim
    | some o =>
      rw [e] at h
      cases o with
      | lst ys =>
        obtain ⟨its, r, pl, hz⟩ := I.list (SqL.of e)
        have hlen := r.length
        exact call_boolG (wpAny_truthy_list pl.isList (by simp only [List.size_toArray]; omega) ⟨.bl _, H, I.tok _, rfl, by rw [isEmpty_of r]; exact h⟩)
      | tup ys =>
        obtain ⟨its, r, pl, hz⟩ := I.tuple (SqT.of e)
        have hlen := r.length
        exact call_boolG (truthy_tuple pl (by simp only [List.size_toArray]; omega) ⟨.bl _, H, I.tok _, rfl, by rw [isEmpty_of r]; exact h⟩)
      | _ => exact h.elim
  | _ => exact h.elim
def zBoolO (C : Addr) (sp : Sp) : List V → Hp → VK → Prop := fun xs H Q => one xs fun x => isIns C x H fun a => sp [.ref a] H (fun v H' => boV v fun k => Q (.bl k) H') fun _ _ _ => False
theorem crboolO {X : Cx} {C : Addr} {lv : Nat} {sp : Sp} (M : Me X.prog X.w X.K X.mg X.base C "__bool__" lv [] sp) (hr : Room (lv + 2) X.A) : CallR X (.type "bool") (zBoolO C sp) := by
  intro pins s σ H xs us Q I r h
  obtain ⟨x, rfl, h⟩ := one_e h
  obtain ⟨u, rfl, rx⟩ := vals1 r
  obtain ⟨a, dx, fs, rfl, ea, h3⟩ := isIns_e h
  cases rx
  obtain ⟨⟨f, fd, ps, ds, F, hm, hd, hb⟩, cl⟩ := M
  cases hd
  obtain ⟨mA, J, _⟩ := ins_get I.hok ea
  obtain ⟨od, J, _⟩ := J.look
  obtain ⟨m, fr⟩ := I.fr
  have hr2 : Room lv X.A.in1.in1 := (hr.in1 (k := lv + 1)).in1
  refine call_boolG (PySem.W.truthy_K fr I.ok.mod.kin J hm.at_ hm.fn ?_)
  have r2 : Vals ([V.ref a] ++ []) ([Value.ref a] ++ []) := .cons rfl .nil
  have hl : ([Value.ref a] ++ []).length = ps.length := by rw [← r2.length]; exact F.len _ _ _ _ h3
  refine wpAny_call (codeAny_mono (F.run X.A.in1.in1 X.stack s H ⟨[.ref a], []⟩ [.ref a] [.ref a] _ (WE WF σ) hr2 I.env0.in1.in1 (hb s [.ref a] I.kIn hl) r2 h3) fun r s' hq => ?_)
  cases r with
  | error e => exact passAt takes0 σ pins H s e s' I hq
  | ok fl =>
    cases fl with
    | ret u =>
      have q0 := I.after hq
      obtain ⟨z, H', I', rz, q⟩ := q0
      obtain ⟨k, rfl, q⟩ := boV_e q
      cases rz
      exact ⟨.bl k, H', I', rfl, q⟩
    | next => exact False.elim hq
    | brk => exact False.elim hq
    | cont => exact False.elim hq
end Ta

set_option Elab.async false
set_option linter.all false
set_option maxRecDepth 100000
set_option maxHeartbeats 2000000
namespace Ta
open PySem PySem.Spec PyProof.Rows L2 He

/-! ### x.split(y), x.startswith(y) -/
theorem ne0_len {b : Str} (h : tl b ≠ []) : (b.length == 0) = false := by
  rw [beq_eq_false_iff_ne, len_tl]
  exact fun e => h (List.length_eq_zero_iff.mp e)
def zSplit : V → List V → Hp → VK → Prop := fun x xs H Q => match x with
  | .str a => one xs fun y => (match y with
    | .str b => (tl b ≠ [] ∧ (tl b).all (· < 256) = true) ∧ (tl a).length ≤ 1000000 ∧ ∀ p, H p = none → Q (.ref p) (upd H p (.lst ((TL.spl (tl b) 0 [] (tl a)).map fun t => V.str (S t))))
    | _ => False)
  | _ => False
theorem mtsplit {X : Cx} : MtR X "str.split" zSplit := mt_imp mt_split fun x xs H Q h => by
  cases x with
  | str a =>
    obtain ⟨y, rfl, h⟩ := one_e h
    cases y with
    | str b =>
      obtain ⟨⟨h0, h1⟩, h2, h⟩ := h
      refine ⟨a, b, rfl, rfl, ne0_len h0, by rw [len_tl, sizeLine_eq]; omega, fun p hp => ?_⟩
      have e := SX.split_S (a := tl a) (b := tl b) h0 h1
      have e' : Txt.split a b = (TL.spl (tl b) 0 [] (tl a)).map SX.S := by
        rw [← e]
      rw [e', List.map_map]
      exact h p hp
    | _ => exact h.elim
  | _ => exact h.elim
def zStarts : V → List V → Hp → VK → Prop := fun x xs H Q => match x with
  | .str a => one xs fun y => (match y with
    | .str b => Q (.bl (decide ((tl a).take (tl b).length = tl b))) H
    | _ => False)
  | _ => False
theorem starts_tl (a b : Str) : Txt.startswith a b = decide ((tl a).take (tl b).length = tl b) := by
  unfold Txt.startswith
  rw [PySem.StrLaws.subAt_eq, len_tl, len_tl]
  show (decide (0 + (tl b).length ≤ (tl a).length) && ((tl a).drop 0).take (tl b).length == tl b) = _
  rw [List.drop_zero, Nat.zero_add]
  by_cases h : (tl a).take (tl b).length = tl b
  · have hl := congrArg List.length h
    rw [List.length_take] at hl
    rw [decide_eq_true h, decide_eq_true (by omega : (tl b).length ≤ (tl a).length), Bool.true_and]
    exact beq_iff_eq.mpr h
  · rw [decide_eq_false h]
    have : ((tl a).take (tl b).length == tl b) = false := beq_eq_false_iff_ne.mpr h
    rw [this, Bool.and_false]
theorem mtstarts {X : Cx} : MtR X "str.startswith" zStarts := mt_imp mt_startswith fun x xs H Q h => by
  cases x with
  | str a =>
    obtain ⟨y, rfl, h⟩ := one_e h
    cases y with
    | str b => exact ⟨a, b, rfl, rfl, by rw [starts_tl]; exact h⟩
    | _ => exact h.elim
  | _ => exact h.elim
/-! ### cuts at one sign -/
def splc (c : Nat) : List Nat → List (List Nat)
  | [] => [[]]
  | a :: l => if a = c then [] :: splc c l else (match splc c l with
    | [] => [[a]]
    | h :: t => (a :: h) :: t)
theorem splc_ne (c : Nat) : ∀ l : List Nat, splc c l ≠ []
  | [] => fun e => nomatch e
  | a :: l => by
    rw [splc]
    split
    · exact fun e => nomatch e
    · split
      · exact fun e => nomatch e
      · exact fun e => nomatch e
theorem splc_miss {c a : Nat} {l h : List Nat} {t : List (List Nat)} (hn : a ≠ c) (e : splc c l = h :: t) : splc c (a :: l) = (a :: h) :: t := by
  rw [splc, if_neg hn, e]
theorem spl_splc (c : Nat) : ∀ (l acc h : List Nat) (t : List (List Nat)), splc c l = h :: t → TL.spl [c] 0 acc l = (acc ++ h) :: t
  | [], acc, h, t, e => by
    rw [splc] at e
    injection e with e1 e2
    subst e1 e2
    rw [TL.spl_nil, List.append_nil]
  | a :: l, acc, h, t, e => by
    by_cases hac : a = c
    · subst hac
      rw [splc, if_pos rfl] at e
      injection e with e1 e2
      subst e1 e2
      rw [TL.spl_hit (by simp [TL.pre]), List.append_nil]
      show acc :: TL.spl [a] 0 [] l = acc :: splc a l
      cases e3 : splc a l with
      | nil => exact absurd e3 (splc_ne a l)
      | cons h' t' => rw [spl_splc a l [] h' t' e3]; rfl
    · rw [TL.spl_miss (by simp [TL.pre, hac])]
      cases e3 : splc c l with
      | nil => exact absurd e3 (splc_ne c l)
      | cons h' t' =>
        rw [splc_miss hac e3] at e
        injection e with e1 e2
        subst e1 e2
        rw [spl_splc c l (acc ++ [a]) h' t' e3, List.append_assoc]; rfl
theorem spl1 (c : Nat) (l : List Nat) : TL.spl [c] 0 [] l = splc c l := by
  cases e3 : splc c l with
  | nil => exact absurd e3 (splc_ne c l)
  | cons h' t' => rw [spl_splc c l [] h' t' e3]; rfl
theorem splc_app {c : Nat} : ∀ {y : List Nat} {r : List Nat}, (∀ a ∈ y, a ≠ c) → splc c (y ++ c :: r) = y :: splc c r
  | [], r, _ => by rw [List.nil_append, splc, if_pos rfl]
  | a :: y, r, h => by rw [List.cons_append]; exact splc_miss (h a List.mem_cons_self) (splc_app fun x hx => h x (List.mem_cons_of_mem _ hx))
theorem splc_one {c : Nat} : ∀ {y : List Nat}, (∀ a ∈ y, a ≠ c) → splc c y = [y]
  | [], _ => rfl
  | a :: y, h => splc_miss (h a List.mem_cons_self) (splc_one fun x hx => h x (List.mem_cons_of_mem _ hx))
/-- what was joined is cut back -/
theorem splc_join {c : Nat} : ∀ {ys : List (List Nat)}, ys ≠ [] → (∀ y ∈ ys, ∀ a ∈ y, a ≠ c) → splc c (TL.joinL [c] ys) = ys
  | [], h, _ => absurd rfl h
  | [y], _, h => splc_one (h y List.mem_cons_self)
  | y :: z :: ys, _, h => by
    show splc c (y ++ ([c] ++ TL.joinL [c] (z :: ys))) = _
    rw [List.singleton_append, splc_app (h y List.mem_cons_self), splc_join (List.cons_ne_nil _ _) fun x hx => h x (List.mem_cons_of_mem _ hx)]
theorem splc_free (c : Nat) : ∀ l : List Nat, ∀ y ∈ splc c l, ∀ a ∈ y, a ≠ c
  | [], y, hy, a, ha => by rw [List.mem_singleton.mp (show y ∈ [([] : List Nat)] from hy)] at ha; cases ha
  | b :: l, y, hy, a, ha => by
    rw [splc] at hy
    split at hy
    · rcases List.mem_cons.mp hy with rfl | hy
      · cases ha
      · exact splc_free c l y hy a ha
    · rename_i hb
      cases e : splc c l with
      | nil => exact absurd e (splc_ne c l)
      | cons h t =>
        rw [e] at hy
        rcases List.mem_cons.mp hy with rfl | hy
        · rcases List.mem_cons.mp ha with rfl | ha
          · exact hb
          · exact splc_free c l h (by rw [e]; exact List.mem_cons_self) a ha
        · exact splc_free c l y (by rw [e]; exact List.mem_cons_of_mem _ hy) a ha
theorem splc_sub (c : Nat) : ∀ l : List Nat, ∀ y ∈ splc c l, ∀ a ∈ y, a ∈ l
  | [], y, hy, a, ha => by rw [List.mem_singleton.mp (show y ∈ [([] : List Nat)] from hy)] at ha; cases ha
  | b :: l, y, hy, a, ha => by
    rw [splc] at hy
    split at hy
    · rcases List.mem_cons.mp hy with rfl | hy
      · cases ha
      · exact List.mem_cons_of_mem _ (splc_sub c l y hy a ha)
    · cases e : splc c l with
      | nil => exact absurd e (splc_ne c l)
      | cons h t =>
        rw [e] at hy
        rcases List.mem_cons.mp hy with rfl | hy
        · rcases List.mem_cons.mp ha with rfl | ha
          · exact List.mem_cons_self
          · exact List.mem_cons_of_mem _ (splc_sub c l h (by rw [e]; exact List.mem_cons_self) a ha)
        · exact List.mem_cons_of_mem _ (splc_sub c l y (by rw [e]; exact List.mem_cons_of_mem _ hy) a ha)
theorem splc_len (c : Nat) : ∀ l : List Nat, ((splc c l).map List.length).sum + (splc c l).length = l.length + 1
  | [] => rfl
  | b :: l => by
    have ih := splc_len c l
    rw [splc]
    split
    · rw [List.map_cons, List.sum_cons, List.length_cons, List.length_cons]; simp only [List.length_nil]; omega
    · cases e : splc c l with
      | nil => exact absurd e (splc_ne c l)
      | cons h t =>
        rw [e] at ih
        simp only [List.map_cons, List.sum_cons, List.length_cons] at ih ⊢
        omega
theorem le_sum : ∀ {ys : List (List Nat)} {y : List Nat}, y ∈ ys → y.length ≤ (ys.map List.length).sum
  | z :: ys, y, h => by
    rw [List.map_cons, List.sum_cons]
    rcases List.mem_cons.mp h with rfl | h
    · omega
    · have := le_sum h; omega
end Ta

set_option Elab.async false
set_option linter.all false
set_option maxRecDepth 100000
set_option maxHeartbeats 4000000
namespace Lw
open PySem PySem.Spec PyProof.Rows L2 Ta
def top (i : Nat) : Stmt := PySem.Challenge.pw_talepost_k20_tables_written.main.body.getD i (.Pass ⟨0, 0, 0, 0⟩)
abbrev s_l_written : Stmt := top 32
abbrev s_in_order : Stmt := top 16
abbrev s_read_entry : Stmt := top 19
abbrev s_is_sign : Stmt := top 14
abbrev s_pairs_of : Stmt := top 20
abbrev s_Table_init : Stmt := inClass (top 22) 0
abbrev s_Table_read : Stmt := inClass (top 22) 4
abbrev s_Alphabet_eq : Stmt := inClass (top 11) 3
abbrev s_Table_eq : Stmt := inClass (top 22) 17
abbrev s_l_right : Stmt := top 40
abbrev s_l_index : Stmt := top 41
abbrev s_l_integer : Stmt := top 28
abbrev s_check_sign : Stmt := top 15
abbrev s_Table_getitem : Stmt := inClass (top 22) 11
abbrev s_Table_contains : Stmt := inClass (top 22) 13
abbrev s_Table_pairs : Stmt := inClass (top 22) 5
abbrev s_Table_len : Stmt := inClass (top 22) 14
abbrev s_Table_bool : Stmt := inClass (top 22) 15
abbrev s_l_truth : Stmt := top 31
abbrev s_Table_total : Stmt := inClass (top 22) 9
abbrev s_Table_exact : Stmt := inClass (top 22) 10
abbrev s_written_entry : Stmt := top 18
abbrev s_Table_str : Stmt := inClass (top 22) 16
abbrev s_l_is : Stmt := top 33
abbrev s_l_reads : Stmt := top 42
abbrev s_l_take : Stmt := top 25
abbrev s_l_changed : Stmt := top 39
abbrev s_l_pairs : Stmt := top 29
abbrev s_l_outs : Stmt := top 30
abbrev s_l_strange : Stmt := top 34
abbrev s_l_no_sign : Stmt := top 35
abbrev s_l_no_pairs : Stmt := top 36
abbrev s_l_bad_pair : Stmt := top 37
abbrev s_Table_identity : Stmt := inClass (top 22) 1
abbrev s_Table_full : Stmt := inClass (top 22) 2
abbrev s_Table_empty : Stmt := inClass (top 22) 3
abbrev s_l_named : Stmt := top 38
abbrev s_l_bag : Stmt := top 24
abbrev s_l_names : Stmt := top 26
abbrev s_l_signs : Stmt := top 27
abbrev s_all_different : Stmt := top 10
abbrev s_Alphabet_init : Stmt := inClass (top 11) 2
abbrev s_law : Stmt := top 43
end Lw

set_option Elab.async false
set_option linter.all false
set_option maxRecDepth 100000
set_option maxHeartbeats 4000000
namespace Lw
open PySem PySem.Spec PyProof.Rows L2 Ta
abbrev PP : Program := PySem.Challenge.rw_talepost_k20_tables_written.prog
abbrev R : PySem.W.OpenRow := PySem.W.OpenLaw.row PySem.Challenge.rw_talepost_k20_tables_written
def fa : List BF := [bFree "ValueError", bFree "all", bFree "bool", bFree "enumerate", bFree "int", bFree "isinstance", bFree "len", bFree "list", bFree "range", bFree "set", bFree "sorted", bFree "str", bFree "tuple", bFree "zip", bGlo "Alphabet", bGlo "BadEntry", bGlo "BadPair", bVal "SMALL" (.str (S [97, 98, 99, 100, 101, 102, 103, 104, 105, 106, 107, 108, 109, 110, 111, 112, 113, 114, 115, 116, 117, 118, 119, 120, 121, 122])), bGlo "Table", bGlo "TaleError", bGlo "UnknownSign", bCC "Alphabet" "JOINT" (.str (S [45])), bCC "Alphabet" "MOST" (.int 4), bCls "Alphabet", bCls "Table", bIsc "Alphabet", bNo "Alphabet" "letters", bNo "Alphabet" "vowels", bNo "Alphabet" "consonants", bNo "Alphabet" "signs", bKit "Alphabet" "Alphabet" true, bKit "Table" "Table" true, bIsc "Table", bNo "Table" "alphabet", bNo "Table" "columns", bNo "Table" "cells", bXc "UnknownSign", bNo "UnknownSign" "sign", bXc "BadPair", bNo "BadPair" "index", bKit "Table" "Alphabet" false, bKit "UnknownSign" "TaleError" true, bKitT "UnknownSign" "ValueError" true, bKit "UnknownSign" "BadPair" false, bKit "BadPair" "TaleError" true, bKitT "BadPair" "ValueError" true, bKit "BadPair" "BadEntry" false, bKit "BadEntry" "TaleError" true, bKitT "BadEntry" "ValueError" true, bKit "BadEntry" "BadPair" false, bExm "UnknownSign" "UnknownSign" true, bExm "BadPair" "BadPair" true, bExm "BadEntry" "BadEntry" true, bXc "BadEntry", bNo "BadEntry" "index", bFnm "Table" "__getitem__", bNo "BadAlphabet" "part", bOex "BadAlphabet", bSup "BadAlphabet" "BadAlphabet", bFree "super", bGlo "BadAlphabet", bOex "BadEntry", bSup "BadEntry" "BadEntry", bOex "BadPair", bSup "BadPair" "BadPair", bOex "UnknownSign", bSup "UnknownSign" "UnknownSign", bGlo "_law_written", bGlo "in_order", bGlo "read_entry", bGlo "is_sign", bGlo "pairs_of", bMk "Table", bCm "Table" "read", bMe "Alphabet" "__eq__", bMe "Table" "__eq__", bGlo "_law_right", bGlo "_law_index", bGlo "_law_integer", bGlo "check_sign", bMe "Table" "__getitem__", bMe "Table" "__contains__", bMe "Table" "pairs", bMe "Table" "__len__", bMe "Table" "__bool__", bGlo "_law_truth", bPrp "Table" "total", bPrp "Table" "exact", bGlo "written_entry", bMe "Table" "__str__", bGlo "_law_is", bGlo "_law_reads", bGlo "_law_take", bGlo "_law_changed", bGlo "_law_pairs", bGlo "_law_outs", bGlo "_law_strange", bGlo "_law_no_sign", bGlo "_law_no_pairs", bGlo "_law_bad_pair", bCm "Table" "identity", bCm "Table" "full", bCm "Table" "empty", bGlo "_law_named", bGlo "_law_bag", bGlo "_law_names", bGlo "_law_signs", bGlo "all_different", bMk "Alphabet", bNoL, bGlo "law"]
def dd_l_written : XD := ⟨fun K => (He.fAd K ("_law_written", none)), "_law_written", "_law_written", defArgs s_l_written, defBody s_l_written, defScope s_l_written, [], []⟩
def dd_in_order : XD := ⟨fun K => (He.fAd K ("in_order", none)), "in_order", "in_order", defArgs s_in_order, defBody s_in_order, defScope s_in_order, [], []⟩
def dd_read_entry : XD := ⟨fun K => (He.fAd K ("read_entry", none)), "read_entry", "read_entry", defArgs s_read_entry, defBody s_read_entry, defScope s_read_entry, [], []⟩
def dd_is_sign : XD := ⟨fun K => (He.fAd K ("is_sign", none)), "is_sign", "is_sign", defArgs s_is_sign, defBody s_is_sign, defScope s_is_sign, [], []⟩
def dd_pairs_of : XD := ⟨fun K => (He.fAd K ("pairs_of", none)), "pairs_of", "pairs_of", defArgs s_pairs_of, defBody s_pairs_of, defScope s_pairs_of, [], []⟩
def dd_Table_init : XD := ⟨fun K => (He.fAd K ("Table", some "__init__")), "__init__", "Table.__init__", defArgs s_Table_init, defBody s_Table_init, defScope s_Table_init, [], []⟩
def dd_Table_read : XD := ⟨fun K => (cmA K (He.ga K "Table") "read"), "read", "Table.read", defArgs s_Table_read, defBody s_Table_read, defScope s_Table_read, [], []⟩
def dd_Alphabet_eq : XD := ⟨fun K => (He.fAd K ("Alphabet", some "__eq__")), "__eq__", "Alphabet.__eq__", defArgs s_Alphabet_eq, defBody s_Alphabet_eq, defScope s_Alphabet_eq, [], []⟩
def dd_Table_eq : XD := ⟨fun K => (He.fAd K ("Table", some "__eq__")), "__eq__", "Table.__eq__", defArgs s_Table_eq, defBody s_Table_eq, defScope s_Table_eq, [], []⟩
def dd_l_right : XD := ⟨fun K => (He.fAd K ("_law_right", none)), "_law_right", "_law_right", defArgs s_l_right, defBody s_l_right, defScope s_l_right, [], []⟩
def dd_l_index : XD := ⟨fun K => (He.fAd K ("_law_index", none)), "_law_index", "_law_index", defArgs s_l_index, defBody s_l_index, defScope s_l_index, [], []⟩
def dd_l_integer : XD := ⟨fun K => (He.fAd K ("_law_integer", none)), "_law_integer", "_law_integer", defArgs s_l_integer, defBody s_l_integer, defScope s_l_integer, [], []⟩
def dd_check_sign : XD := ⟨fun K => (He.fAd K ("check_sign", none)), "check_sign", "check_sign", defArgs s_check_sign, defBody s_check_sign, defScope s_check_sign, [], []⟩
def dd_Table_getitem : XD := ⟨fun K => (He.fAd K ("Table", some "__getitem__")), "__getitem__", "Table.__getitem__", defArgs s_Table_getitem, defBody s_Table_getitem, defScope s_Table_getitem, [], []⟩
def dd_Table_contains : XD := ⟨fun K => (He.fAd K ("Table", some "__contains__")), "__contains__", "Table.__contains__", defArgs s_Table_contains, defBody s_Table_contains, defScope s_Table_contains, [], []⟩
def dd_Table_pairs : XD := ⟨fun K => (He.fAd K ("Table", some "pairs")), "pairs", "Table.pairs", defArgs s_Table_pairs, defBody s_Table_pairs, defScope s_Table_pairs, [], []⟩
def dd_Table_len : XD := ⟨fun K => (He.fAd K ("Table", some "__len__")), "__len__", "Table.__len__", defArgs s_Table_len, defBody s_Table_len, defScope s_Table_len, [], []⟩
def dd_Table_bool : XD := ⟨fun K => (He.fAd K ("Table", some "__bool__")), "__bool__", "Table.__bool__", defArgs s_Table_bool, defBody s_Table_bool, defScope s_Table_bool, [], []⟩
def dd_l_truth : XD := ⟨fun K => (He.fAd K ("_law_truth", none)), "_law_truth", "_law_truth", defArgs s_l_truth, defBody s_l_truth, defScope s_l_truth, [], []⟩
def dd_Table_total : XD := ⟨fun K => (prA K (He.ga K "Table") "total"), "total", "Table.total", defArgs s_Table_total, defBody s_Table_total, defScope s_Table_total, [], []⟩
def dd_Table_exact : XD := ⟨fun K => (prA K (He.ga K "Table") "exact"), "exact", "Table.exact", defArgs s_Table_exact, defBody s_Table_exact, defScope s_Table_exact, [], []⟩
def dd_written_entry : XD := ⟨fun K => (He.fAd K ("written_entry", none)), "written_entry", "written_entry", defArgs s_written_entry, defBody s_written_entry, defScope s_written_entry, [], []⟩
def dd_Table_str : XD := ⟨fun K => (He.fAd K ("Table", some "__str__")), "__str__", "Table.__str__", defArgs s_Table_str, defBody s_Table_str, defScope s_Table_str, [], []⟩
def dd_l_is : XD := ⟨fun K => (He.fAd K ("_law_is", none)), "_law_is", "_law_is", defArgs s_l_is, defBody s_l_is, defScope s_l_is, [], []⟩
def dd_l_reads : XD := ⟨fun K => (He.fAd K ("_law_reads", none)), "_law_reads", "_law_reads", defArgs s_l_reads, defBody s_l_reads, defScope s_l_reads, [], []⟩
def dd_l_take : XD := ⟨fun K => (He.fAd K ("_law_take", none)), "_law_take", "_law_take", defArgs s_l_take, defBody s_l_take, defScope s_l_take, [], []⟩
def dd_l_changed : XD := ⟨fun K => (He.fAd K ("_law_changed", none)), "_law_changed", "_law_changed", defArgs s_l_changed, defBody s_l_changed, defScope s_l_changed, [], []⟩
def dd_l_pairs : XD := ⟨fun K => (He.fAd K ("_law_pairs", none)), "_law_pairs", "_law_pairs", defArgs s_l_pairs, defBody s_l_pairs, defScope s_l_pairs, [], []⟩
def dd_l_outs : XD := ⟨fun K => (He.fAd K ("_law_outs", none)), "_law_outs", "_law_outs", defArgs s_l_outs, defBody s_l_outs, defScope s_l_outs, [], []⟩
def dd_l_strange : XD := ⟨fun K => (He.fAd K ("_law_strange", none)), "_law_strange", "_law_strange", defArgs s_l_strange, defBody s_l_strange, defScope s_l_strange, [], []⟩
def dd_l_no_sign : XD := ⟨fun K => (He.fAd K ("_law_no_sign", none)), "_law_no_sign", "_law_no_sign", defArgs s_l_no_sign, defBody s_l_no_sign, defScope s_l_no_sign, [], []⟩
def dd_l_no_pairs : XD := ⟨fun K => (He.fAd K ("_law_no_pairs", none)), "_law_no_pairs", "_law_no_pairs", defArgs s_l_no_pairs, defBody s_l_no_pairs, defScope s_l_no_pairs, [], []⟩
def dd_l_bad_pair : XD := ⟨fun K => (He.fAd K ("_law_bad_pair", none)), "_law_bad_pair", "_law_bad_pair", defArgs s_l_bad_pair, defBody s_l_bad_pair, defScope s_l_bad_pair, [], []⟩
def dd_Table_identity : XD := ⟨fun K => (cmA K (He.ga K "Table") "identity"), "identity", "Table.identity", defArgs s_Table_identity, defBody s_Table_identity, defScope s_Table_identity, [], []⟩
def dd_Table_full : XD := ⟨fun K => (cmA K (He.ga K "Table") "full"), "full", "Table.full", defArgs s_Table_full, defBody s_Table_full, defScope s_Table_full, [], []⟩
def dd_Table_empty : XD := ⟨fun K => (cmA K (He.ga K "Table") "empty"), "empty", "Table.empty", defArgs s_Table_empty, defBody s_Table_empty, defScope s_Table_empty, [], []⟩
def dd_l_named : XD := ⟨fun K => (He.fAd K ("_law_named", none)), "_law_named", "_law_named", defArgs s_l_named, defBody s_l_named, defScope s_l_named, [], []⟩
def dd_l_bag : XD := ⟨fun K => (He.fAd K ("_law_bag", none)), "_law_bag", "_law_bag", defArgs s_l_bag, defBody s_l_bag, defScope s_l_bag, [], []⟩
def dd_l_names : XD := ⟨fun K => (He.fAd K ("_law_names", none)), "_law_names", "_law_names", defArgs s_l_names, defBody s_l_names, defScope s_l_names, [], []⟩
def dd_l_signs : XD := ⟨fun K => (He.fAd K ("_law_signs", none)), "_law_signs", "_law_signs", defArgs s_l_signs, defBody s_l_signs, defScope s_l_signs, [], []⟩
def dd_all_different : XD := ⟨fun K => (He.fAd K ("all_different", none)), "all_different", "all_different", defArgs s_all_different, defBody s_all_different, defScope s_all_different, [], []⟩
def dd_Alphabet_init : XD := ⟨fun K => (He.fAd K ("Alphabet", some "__init__")), "__init__", "Alphabet.__init__", defArgs s_Alphabet_init, defBody s_Alphabet_init, defScope s_Alphabet_init, [.str (S [])], []⟩
def dd_law : XD := ⟨fun K => (He.fAd K ("law", none)), "law", "law", defArgs s_law, defBody s_law, defScope s_law, [], []⟩
def sd_BadAlphabet : SupD := ⟨"BadAlphabet", "__init__", "BadAlphabet.__init__", defArgs (inClass (top 4) 0), defBody (inClass (top 4) 0), defScope (inClass (top 4) 0)⟩
def sd_BadEntry : SupD := ⟨"BadEntry", "__init__", "BadEntry.__init__", defArgs (inClass (top 7) 0), defBody (inClass (top 7) 0), defScope (inClass (top 7) 0)⟩
def sd_BadPair : SupD := ⟨"BadPair", "__init__", "BadPair.__init__", defArgs (inClass (top 5) 0), defBody (inClass (top 5) 0), defScope (inClass (top 5) 0)⟩
def sd_UnknownSign : SupD := ⟨"UnknownSign", "__init__", "UnknownSign.__init__", defArgs (inClass (top 6) 0), defBody (inClass (top 6) 0), defScope (inClass (top 6) 0)⟩
def fn : List XD := [dd_l_written, dd_in_order, dd_read_entry, dd_is_sign, dd_pairs_of, dd_Table_init, dd_Table_read, dd_Alphabet_eq, dd_Table_eq, dd_l_right, dd_l_index, dd_l_integer, dd_check_sign, dd_Table_getitem, dd_Table_contains, dd_Table_pairs, dd_Table_len, dd_Table_bool, dd_l_truth, dd_Table_total, dd_Table_exact, dd_written_entry, dd_Table_str, dd_l_is, dd_l_reads, dd_l_take, dd_l_changed, dd_l_pairs, dd_l_outs, dd_l_strange, dd_l_no_sign, dd_l_no_pairs, dd_l_bad_pair, dd_Table_identity, dd_Table_full, dd_Table_empty, dd_l_named, dd_l_bag, dd_l_names, dd_l_signs, dd_all_different, dd_Alphabet_init, dd_law]
def sn : List SupD := [sd_BadAlphabet, sd_BadEntry, sd_BadPair, sd_UnknownSign]
def loose : List Str := (["_wall", "TaleError", "Mixed", "BadAlphabet", "BadPair", "UnknownSign", "BadEntry", "SMALL", "all_different", "Alphabet", "check_alphabets", "is_sign", "check_sign", "in_order", "product_columns", "written_entry"] : List Str) ++ (["read_entry", "pairs_of", "table_of", "Table", "_law_bag", "_law_take", "_law_names", "_law_signs", "_law_integer", "_law_pairs", "_law_outs", "_law_truth", "_law_written", "_law_is", "_law_strange", "_law_no_sign"] : List Str) ++ (["_law_no_pairs", "_law_bad_pair", "_law_named", "_law_changed", "_law_right", "_law_index", "_law_reads"] : List Str)
abbrev hk : PySem.W.Hook := hookX 5 PP.main.file fa fn sn
def ob (s : PySem.W.SharedT) : AlX := obsXG 5 PP.main.file fa fn sn (HandSHeadRun.getT s)
theorem ob_eq (s : PySem.W.SharedT) : ob s = hk.obs s.abs := obsXG_eq (HandSHeadRun.getT_eq s)
theorem run (w : World) : HandSHeadRun.RunEq R (PySem.W.view R.prog [43]) hk ob 12000 loose w := by
  intro os
  kernel_rfl

end Lw

set_option Elab.async false
set_option linter.all false
set_option maxRecDepth 100000
set_option maxHeartbeats 4000000
namespace Lw
open PySem PySem.Spec PyProof.Rows L2 Ta
structure Tx (K : PySem.W.Frag) (mg : Str → Option Value) : Prop where
  f_ValueError : mg "ValueError" = none
  f_all : mg "all" = none
  f_bool : mg "bool" = none
  f_enumerate : mg "enumerate" = none
  f_int : mg "int" = none
  f_isinstance : mg "isinstance" = none
  f_len : mg "len" = none
  f_list : mg "list" = none
  f_range : mg "range" = none
  f_set : mg "set" = none
  f_sorted : mg "sorted" = none
  f_str : mg "str" = none
  f_tuple : mg "tuple" = none
  f_zip : mg "zip" = none
  v_Alphabet : GlobV mg "Alphabet" (.ref (He.ga K "Alphabet"))
  v_BadEntry : GlobV mg "BadEntry" (.ref (He.ga K "BadEntry"))
  v_BadPair : GlobV mg "BadPair" (.ref (He.ga K "BadPair"))
  v_SMALL : GlobV mg "SMALL" (.str (S [97, 98, 99, 100, 101, 102, 103, 104, 105, 106, 107, 108, 109, 110, 111, 112, 113, 114, 115, 116, 117, 118, 119, 120, 121, 122]))
  v_Table : GlobV mg "Table" (.ref (He.ga K "Table"))
  v_TaleError : GlobV mg "TaleError" (.ref (He.ga K "TaleError"))
  v_UnknownSign : GlobV mg "UnknownSign" (.ref (He.ga K "UnknownSign"))
  cc_Alphabet_JOINT : ClsConst K mg "Alphabet" "JOINT" (.str (S [45]))
  cc_Alphabet_MOST : ClsConst K mg "Alphabet" "MOST" (.int 4)
  k_Alphabet : Cls K (He.ga K "Alphabet")
  k_Table : Cls K (He.ga K "Table")
  i_Alphabet : IsC K (He.ga K "Alphabet")
  n_Alphabet_letters : NoAttr K (He.ga K "Alphabet") "letters"
  n_Alphabet_vowels : NoAttr K (He.ga K "Alphabet") "vowels"
  n_Alphabet_consonants : NoAttr K (He.ga K "Alphabet") "consonants"
  n_Alphabet_signs : NoAttr K (He.ga K "Alphabet") "signs"
  o_Alphabet_Alphabet : PySem.W.kitOne K (.ref (He.ga K "Alphabet")) (.ref (He.ga K "Alphabet")) = some true
  o_Table_Table : PySem.W.kitOne K (.ref (He.ga K "Table")) (.ref (He.ga K "Table")) = some true
  i_Table : IsC K (He.ga K "Table")
  n_Table_alphabet : NoAttr K (He.ga K "Table") "alphabet"
  n_Table_columns : NoAttr K (He.ga K "Table") "columns"
  n_Table_cells : NoAttr K (He.ga K "Table") "cells"
  x_UnknownSign : XC K (He.ga K "UnknownSign")
  nx_UnknownSign_sign : PySem.W.findIn K (.ref (He.ga K "UnknownSign")) "sign" = some none
  x_BadPair : XC K (He.ga K "BadPair")
  nx_BadPair_index : PySem.W.findIn K (.ref (He.ga K "BadPair")) "index" = some none
  o_Table_Alphabet : PySem.W.kitOne K (.ref (He.ga K "Table")) (.ref (He.ga K "Alphabet")) = some false
  o_UnknownSign_TaleError : PySem.W.kitOne K (.ref (He.ga K "UnknownSign")) (.ref (He.ga K "TaleError")) = some true
  o_UnknownSign_ValueError : PySem.W.kitOne K (.ref (He.ga K "UnknownSign")) (.type "ValueError") = some true
  o_UnknownSign_BadPair : PySem.W.kitOne K (.ref (He.ga K "UnknownSign")) (.ref (He.ga K "BadPair")) = some false
  o_BadPair_TaleError : PySem.W.kitOne K (.ref (He.ga K "BadPair")) (.ref (He.ga K "TaleError")) = some true
  o_BadPair_ValueError : PySem.W.kitOne K (.ref (He.ga K "BadPair")) (.type "ValueError") = some true
  o_BadPair_BadEntry : PySem.W.kitOne K (.ref (He.ga K "BadPair")) (.ref (He.ga K "BadEntry")) = some false
  o_BadEntry_TaleError : PySem.W.kitOne K (.ref (He.ga K "BadEntry")) (.ref (He.ga K "TaleError")) = some true
  o_BadEntry_ValueError : PySem.W.kitOne K (.ref (He.ga K "BadEntry")) (.type "ValueError") = some true
  o_BadEntry_BadPair : PySem.W.kitOne K (.ref (He.ga K "BadEntry")) (.ref (He.ga K "BadPair")) = some false
  e_UnknownSign_UnknownSign : PySem.W.exmOne K (.ref (He.ga K "UnknownSign")) (.ref (He.ga K "UnknownSign")) = some true
  e_BadPair_BadPair : PySem.W.exmOne K (.ref (He.ga K "BadPair")) (.ref (He.ga K "BadPair")) = some true
  e_BadEntry_BadEntry : PySem.W.exmOne K (.ref (He.ga K "BadEntry")) (.ref (He.ga K "BadEntry")) = some true
  x_BadEntry : XC K (He.ga K "BadEntry")
  nx_BadEntry_index : PySem.W.findIn K (.ref (He.ga K "BadEntry")) "index" = some none
  fm_Table___getitem__ : MethFn K (He.ga K "Table") "__getitem__"
abbrev pr (a b : Int) : HO := .lst [.int a, .int b]
abbrev scr (ob : Obj) (ns : List Int) : HO := .frz ob (.lst (ns.map V.int))
abbrev AZ : List Nat := [97, 98, 99, 100, 101, 102, 103, 104, 105, 106, 107, 108, 109, 110, 111, 112, 113, 114, 115, 116, 117, 118, 119, 120, 121, 122]
def dif (l : List Nat) : Bool := decide ((dn l : Int) = (l.length : Int))
def badL (l : List Nat) : Bool := l.any (fun c => !decide (c ∈ AZ)) || !(decide (1 ≤ l.length ∧ l.length ≤ 4)) || !dif l
def badV (l v : List Nat) : Bool := v.any (fun c => !decide (c ∈ l)) || !dif v
abbrev tLet : List Nat := [108, 101, 116, 116, 101, 114, 115]
abbrev tVow : List Nat := [118, 111, 119, 101, 108, 115]
def alf (l v : List Nat) : List (Str × V) := [("letters", .str (S (srt l))), ("vowels", .str (S (srt v))), ("consonants", .str (S ((srt l).filter fun c => !decide (c ∈ v)))), ("signs", .str (S (45 :: srt l)))]
theorem badL1 {l : List Nat} (h : (sgn (l.filter fun c => !decide (c ∈ AZ))).isEmpty = false) : badL l = true := by
  rw [sgn_fe] at h
  unfold badL
  simp only [Bool.not_eq_false'] at h
  rw [h, Bool.true_or, Bool.true_or]
theorem badL2 {l : List Nat} (h : ¬ (1 : Int) ≤ (l.length : Int)) : badL l = true := by
  unfold badL
  rw [decide_eq_false (by omega : ¬ (1 ≤ l.length ∧ l.length ≤ 4)), Bool.not_false, Bool.or_true, Bool.true_or]
theorem badL3 {l : List Nat} (h : ¬ (l.length : Int) ≤ 4) : badL l = true := by
  unfold badL
  rw [decide_eq_false (by omega : ¬ (1 ≤ l.length ∧ l.length ≤ 4)), Bool.not_false, Bool.or_true, Bool.true_or]
theorem badL4 {l : List Nat} (h : ¬ (dn l : Int) = (l.length : Int)) : badL l = true := by
  unfold badL dif
  rw [decide_eq_false h, Bool.not_false, Bool.or_true]
theorem badL0 {l : List Nat} (h : (sgn (l.filter fun c => !decide (c ∈ AZ))).isEmpty = true) (h1 : (1 : Int) ≤ (l.length : Int)) (h2 : (l.length : Int) ≤ 4) (h3 : (dn l : Int) = (l.length : Int)) : badL l = false := by
  rw [sgn_fe] at h
  unfold badL dif
  simp only [Bool.not_eq_true'] at h
  rw [h, decide_eq_true (by omega : 1 ≤ l.length ∧ l.length ≤ 4), decide_eq_true h3]; rfl
theorem badV1 {l v : List Nat} (h : (sgn (v.filter fun c => !decide (c ∈ l))).isEmpty = false) : badV l v = true := by
  rw [sgn_fe] at h
  unfold badV
  simp only [Bool.not_eq_false'] at h
  rw [h, Bool.true_or]
theorem badV2 {l v : List Nat} (h : ¬ (dn v : Int) = (v.length : Int)) : badV l v = true := by
  unfold badV dif
  rw [decide_eq_false h, Bool.not_false, Bool.or_true]
theorem badV0 {l v : List Nat} (h : (sgn (v.filter fun c => !decide (c ∈ l))).isEmpty = true) (h3 : (dn v : Int) = (v.length : Int)) : badV l v = false := by
  rw [sgn_fe] at h
  unfold badV dif
  simp only [Bool.not_eq_true'] at h
  rw [h, decide_eq_true h3]; rfl
theorem dif_nd (l : List Nat) : dif l = true ↔ l.Nodup := by
  unfold dif
  rw [decide_eq_true_iff, ← dn_nodup]
  omega
theorem badL_any {l : List Nat} {c : Nat} (h : c ∈ l) (hc : ¬ c ∈ AZ) : badL l = true := by
  unfold badL
  have z : (l.any fun c => !decide (c ∈ AZ)) = true := List.any_eq_true.mpr ⟨c, h, by rw [decide_eq_false hc]; rfl⟩
  rw [z, Bool.true_or, Bool.true_or]
theorem badL_nd {l : List Nat} (h : ¬ l.Nodup) : badL l = true := by
  unfold badL
  have z : dif l = false := by
    cases e : dif l with
    | false => rfl
    | true => exact absurd ((dif_nd l).mp e) h
  rw [z, Bool.not_false, Bool.or_true]
theorem badV_any {l v : List Nat} {c : Nat} (h : c ∈ v) (hc : ¬ c ∈ l) : badV l v = true := by
  unfold badV
  have z : (v.any fun c => !decide (c ∈ l)) = true := List.any_eq_true.mpr ⟨c, h, by rw [decide_eq_false hc]; rfl⟩
  rw [z, Bool.true_or]
theorem badV_nd {l v : List Nat} (h : ¬ v.Nodup) : badV l v = true := by
  unfold badV
  have z : dif v = false := by
    cases e : dif v with
    | false => rfl
    | true => exact absurd ((dif_nd v).mp e) h
  rw [z, Bool.not_false, Bool.or_true]
theorem badL_ok {l : List Nat} (h1 : 1 ≤ l.length) (h2 : l.length ≤ 4) (h3 : l.Nodup) (h4 : ∀ c ∈ l, c ∈ AZ) : badL l = false := by
  unfold badL
  have z : (l.any fun c => !decide (c ∈ AZ)) = false := List.any_eq_false.mpr fun c hc => by rw [decide_eq_true (h4 c hc)]; decide
  rw [z, (dif_nd l).mpr h3, decide_eq_true ⟨h1, h2⟩]; rfl
theorem badV_ok {l v : List Nat} (h3 : v.Nodup) (h4 : ∀ c ∈ v, c ∈ l) : badV l v = false := by
  unfold badV
  have z : (v.any fun c => !decide (c ∈ l)) = false := List.any_eq_false.mpr fun c hc => by rw [decide_eq_true (h4 c hc)]; decide
  rw [z, (dif_nd v).mpr h3]; rfl
theorem nd_at {l : List Nat} {j : Nat} (hj : j < l.length) (h : l[j] ∈ l.take j) : ¬ l.Nodup := fun nd => by
  obtain ⟨i, hi, e⟩ := List.mem_iff_getElem.mp h
  have hi2 : i < j := by rw [List.length_take] at hi; omega
  rw [List.getElem_take] at e
  exact absurd ((List.getElem_inj nd).mp e) (by omega)
theorem nd_take {l : List Nat} {j : Nat} (hj : j < l.length) (h : ¬ l[j] ∈ l.take j) (nd : (l.take j).Nodup) : (l.take (j + 1)).Nodup := by
  rw [List.take_succ_eq_append_getElem hj]
  refine List.nodup_append.mpr ⟨nd, by simp, fun a ha b hb => ?_⟩
  rw [List.mem_singleton.mp hb]
  exact fun e => h (e ▸ ha)
theorem al_take {l m : List Nat} {j : Nat} (hj : j < l.length) (h : l[j] ∈ m) (al : ∀ c ∈ l.take j, c ∈ m) : ∀ c ∈ l.take (j + 1), c ∈ m := fun c hc => by
  rw [List.take_succ_eq_append_getElem hj] at hc
  rcases List.mem_append.mp hc with z | z
  · exact al c z
  · rw [List.mem_singleton.mp z]; exact h
/-- letters and vowels that an alphabet takes -/
def good (l v : List Nat) : Prop := badL l = false ∧ badV l v = false
abbrev alo (K : PySem.W.Frag) (dA : Addr) (l v : List Nat) : HO := .ins (He.ga K "Alphabet") dA (alf l v)
abbrev wb (g s : Addr) (n x : Int) : HO := .lst [.ref g, .ref s, .int n, .int x]
abbrev cel (cs : List Int) : HO := .lst (cs.map V.int)
abbrev txs (ss : List (List Nat)) : List V := ss.map fun t => V.str (S t)
/-- the bag of a script's cells -/
structure bx (H : Hp) (b g s : Addr) (n : Int) : Prop where
  out : ∃ (x : Int) (gs ss : List Int), H b = some (wb g s n x) ∧ H g = some (cel gs) ∧ H s = some (cel ss) ∧ gs.length < 1000 ∧ ss.length < 1000 ∧ g ≠ b ∧ s ≠ b ∧ s ≠ g ∧ 0 ≤ n
theorem bx.kp {H H' : Hp} {b g s : Addr} {n : Int} (h : bx H b g s n) (k : Kp [] H H') : bx H' b g s n := by
  obtain ⟨x, gs, ss, h1, h2, h3, r⟩ := h.out
  exact ⟨x, gs, ss, k.get0 h1, k.get0 h2, k.get0 h3, r⟩
theorem bx.nn {H : Hp} {b g s p : Addr} {n : Int} (h : bx H b g s n) (hp : H p = none) : p ≠ b ∧ p ≠ g ∧ p ≠ s := by
  obtain ⟨x, gs, ss, h1, h2, h3, r⟩ := h.out
  exact ⟨ne_none' h1 hp, ne_none' h2 hp, ne_none' h3 hp⟩
def HO.isl : HO → Bool
  | .lst _ => true
  | _ => false
theorem bx.no {H : Hp} {b g s p : Addr} {n : Int} {o : HO} (h : bx H b g s n) (hp : H p = some o) (ho : HO.isl o = false) : p ≠ b ∧ p ≠ g ∧ p ≠ s := by
  obtain ⟨x, gs, ss, h1, h2, h3, r⟩ := h.out
  have nl : ∀ xs, o ≠ .lst xs := fun xs e => by rw [e] at ho; cases ho
  exact ⟨ne_ho hp h1 (nl _), ne_ho hp h2 (nl _), ne_ho hp h3 (nl _)⟩
theorem bx.off {H : Hp} {b g s p : Addr} {n : Int} {o : HO} (h : bx H b g s n) (hp : p ≠ b ∧ p ≠ g ∧ p ≠ s) : bx (upd H p o) b g s n := by
  obtain ⟨x, gs, ss, h1, h2, h3, r⟩ := h.out
  exact ⟨x, gs, ss, upd_off hp.1.symm h1, upd_off hp.2.1.symm h2, upd_off hp.2.2.symm h3, r⟩
theorem bx_b {H : Hp} {b g s p : Addr} {n : Int} (h : bx H b g s n) (hp : H p = none) : p ≠ b := (h.nn hp).1
theorem bx_g {H : Hp} {b g s p : Addr} {n : Int} (h : bx H b g s n) (hp : H p = none) : p ≠ g := (h.nn hp).2.1
theorem bx_bo {H : Hp} {b g s p : Addr} {n : Int} {o : HO} (h : bx H b g s n) (hp : H p = some o) (ho : HO.isl o = false) : p ≠ b := (h.no hp ho).1
theorem bx_go {H : Hp} {b g s p : Addr} {n : Int} {o : HO} (h : bx H b g s n) (hp : H p = some o) (ho : HO.isl o = false) : p ≠ g := (h.no hp ho).2.1
abbrev sg (l : List Nat) : List Nat := 45 :: srt l
/-- those of the signs that occur -/
def io (g m : List Nat) : List Nat := g.filter fun c => decide (c ∈ m)
def isG (g t : List Nat) : Bool := t.all fun c => decide (c ∈ g)
def isS (g t : List Nat) : Bool := match t with
  | [c] => decide (c ∈ g)
  | _ => false
theorem isS_i {g t : List Nat} (h : isS g t = true) : ∃ c, t = [c] ∧ c ∈ g := by
  match t, h with
  | [c], h => exact ⟨c, rfl, of_decide_eq_true h⟩
abbrev Pr2 := List Nat × List Nat
def pairP (H : Hp) (v : V) (a : Pr2) : Prop := ∃ q, v = .ref q ∧ H q = some (.tup [.str (S a.1), .str (S a.2)])
/-- the pairs of a table with these columns -/
def prs (g : List Nat) (cols : List (List Nat)) : List Pr2 := (g.zip cols).flatMap fun x => x.2.map fun b => ([x.1], [b])
/-- the columns of pairs -/
def colsP (g : List Nat) (R : List Pr2) : List (List Nat) := g.map fun c => io g ((R.filter fun p => decide (p.1 = [c])).flatMap fun p => p.2)
def badP (g : List Nat) : List Pr2 → Nat → Option Int
  | [], _ => none
  | p :: R, i => if isS g p.1 = true ∧ isS g p.2 = true then badP g R (i + 1) else some (i : Int)
theorem pairP.kp {H H' : Hp} {v : V} {a : Pr2} (h : pairP H v a) (k : Kp [] H H') : pairP H' v a := by
  obtain ⟨q, e, h⟩ := h
  exact ⟨q, e, k.get0 h⟩
theorem pmem {α β : Type} {F G : α → β → Prop} : ∀ {l₁ : List α} {l₂ : List β}, Paired F l₁ l₂ → (∀ a b, a ∈ l₁ → F a b → G a b) → Paired G l₁ l₂
  | _, _, .nil, _ => .nil
  | _, _, .cons h t, g => .cons (g _ _ List.mem_cons_self h) (pmem t fun a b ha => g a b (List.mem_cons_of_mem _ ha))
theorem prP_kp {H H' : Hp} {xs : List V} {R : List Pr2} (h : Paired (pairP H) xs R) (k : Kp [] H H') : Paired (pairP H') xs R := pmem h fun _ _ _ z => z.kp k
/-- a table object -/
structure tabAt (K : PySem.W.Frag) (H : Hp) (t A : Addr) (g : List Nat) (cols : List (List Nat)) : Prop where
  out : ∃ (d c p : Addr) (xs : List V), H t = some (.ins (He.ga K "Table") d [("alphabet", .ref A), ("columns", .ref c), ("cells", .ref p)]) ∧ H c = some (.tup (txs cols)) ∧ H p = some (.tup xs) ∧ Paired (pairP H) xs (prs g cols)
theorem tabAt.kp {K : PySem.W.Frag} {H H' : Hp} {t A : Addr} {g : List Nat} {cols : List (List Nat)} (h : tabAt K H t A g cols) (k : Kp [] H H') : tabAt K H' t A g cols := by
  obtain ⟨d, c, p, xs, h1, h2, h3, h4⟩ := h.out
  exact ⟨d, c, p, xs, k.get0 h1, k.get0 h2, k.get0 h3, prP_kp h4 k⟩
/-- an own error with one value -/
structure errK (K : PySem.W.Frag) (x f : Str) (u : V) (H : Hp) (E : XK) : Prop where
  out : ∀ H' d, Kp [] H H' → H' d = none → E (.ref (He.ga K x)) (some d) (upd H' d (.xd [(f, u)]))
def okR (g : List Nat) (R : List Pr2) : Prop := ∀ r ∈ R, ∃ a b, a ∈ g ∧ b ∈ g ∧ r = ([a], [b])
def lowT (t : List Nat) : Prop := ∀ c ∈ t, c < 128
structure okC (g : List Nat) (cols : List (List Nat)) : Prop where
  n : cols.length = g.length
  i : ∀ t ∈ cols, io g t = t
def went (c : Nat) (t : List Nat) : List Nat := [c, 62] ++ (if t = [] then [46] else t)
def wents (g : List Nat) (cols : List (List Nat)) : List (List Nat) := (g.zip cols).map fun x => went x.1 x.2
abbrev ents (w : List Nat) : List (List Nat) := TL.spl [32] 0 [] w
/-- an entry that is right for a sign -/
def rgt (G : List Nat) (c : Nat) (e : List Nat) : Bool := decide (e.take 2 = [c, 62] ∧ ¬ e.drop 2 = [] ∧ (e.drop 2 = [46] ∨ e.drop 2 = io G (e.drop 2)))
def colE (e : List Nat) : List Nat := if e.drop 2 = [46] then [] else e.drop 2
/-- the first wrong entry -/
def rdx (G : List Nat) : List Nat → List (List Nat) → Nat → Option Int
  | [], [], _ => none
  | [], _ :: _, i => some (i : Int)
  | _ :: _, [], i => some (i : Int)
  | c :: cs, e :: es, i => if rgt G c e = true then rdx G cs es (i + 1) else some (i : Int)

/-! _law_written -/
theorem sc_l_written : FnScope ["_law_signs_here", "_law_outs_here", "_law_k"] ["_law_signs_here", "_law_outs_here"] (defScope s_l_written) := ⟨rfl, rfl, rfl, by decide +kernel, rfl, by decide +kernel, by decide +kernel⟩
structure sp_l_written (K : PySem.W.Frag) (vs : List V) (H : Hp) (Q : VK) (E : XK) : Prop where
  out : ∃ (G : List Nat) (r : Addr) (cols : List (List Nat)), vs = [.str (S G), .ref r] ∧ (H r = some (.lst (txs cols))) ∧ (cols.length = G.length ∧ G.length ≤ 5) ∧ (∀ t ∈ cols, t.length < 1000) ∧ (∀ p H', Kp [] H H' → H p = none → H' p = some (.lst (txs (wents G cols))) → Q (.ref p) H')
theorem i_l_written {K : PySem.W.Frag} {G : List Nat} {r : Addr} {cols : List (List Nat)} {H : Hp} {Q : VK} {E : XK} (hr : H r = some (.lst (txs cols))) (hn : cols.length = G.length ∧ G.length ≤ 5) (h1 : ∀ t ∈ cols, t.length < 1000) (q1 : ∀ p H', Kp [] H H' → H p = none → H' p = some (.lst (txs (wents G cols))) → Q (.ref p) H') : sp_l_written K [.str (S G), .ref r] H Q E := by
  exact ⟨⟨G, r, cols, rfl, hr, hn, h1, q1⟩⟩
theorem d_l_written {K : PySem.W.Frag} {vs : List V} {H : Hp} {Q : VK} {E : XK} (h : sp_l_written K vs H Q E) : sp_l_written K vs H Q E := h


def t_l_written (K : PySem.W.Frag) (W : WX) : TS :=
  (tRet (tLcP (jR1 (tCons (tCB (zLen K) (tCons (tV 0) tNil)) tNil)) (gName 2) tYes (tOp zAdd (tOp zAdd (tOp (zIxP K) (tV 0) (tV 2)) (tC (.str (S [62])))) (tIfE (tTst (tOp (zNeP K) (tOp (zIxP K) (tV 1) (tV 2)) (tC (.str (S []))))) (tOp (zIxP K) (tV 1) (tV 2)) (tC (.str (S [46]))))) [2]))
theorem tm_l_written {P : Program} {w : World} {K : PySem.W.Frag} {mg : Str → Option Value} {base : Heap} {f : Addr} {cdv : Value} {A : Around} {outer : List Env} {s : Shared} {H : Hp} {E : XK} (T : Tx K mg) (hr : Room 4 (A.deeper (envOfC "_law_written" (defScope s_l_written) s.heap.objs.size f cdv))) :
    PSs (cxOf (L2.CX P w) P w K mg base ["_law_signs_here", "_law_outs_here", "_law_k"] "_law_written" (defScope s_l_written) f cdv A outer s H E) (defBody s_l_written) (t_l_written K (WD E)) :=
  (pss_one (ps_ret (plc [("_law_k", 2)] rfl sc_l_written.nd (pjr1 T.f_range (pa_cons (pcb (crlen) T.f_len (pa_cons (Ta.pv 0) pa_nil)) pa_nil)) (by kernel_rfl) (fun _ _ _ _ _ => (pgn 2 sc_l_written.nd)) (fun _ _ _ _ _ => pts_nil) (fun _ _ _ _ _ => (pe_op opadd (pe_op opadd (pix (Ta.pv 0) (Ta.pv 2)) (pstr [62])) (peif (ptcmp (opne hr.units) (pix (Ta.pv 1) (Ta.pv 2)) (pstr [])) (pix (Ta.pv 1) (Ta.pv 2)) (pstr [46])))))))
/-! in_order -/
theorem sc_in_order : FnScope ["signs", "string", "sign"] ["signs", "string"] (defScope s_in_order) := ⟨rfl, rfl, rfl, by decide +kernel, rfl, by decide +kernel, by decide +kernel⟩
structure sp_in_order (K : PySem.W.Frag) (vs : List V) (H : Hp) (Q : VK) (E : XK) : Prop where
  out : ∃ (g m : List Nat), vs = [.str (S g), .str (S m)] ∧ (g.length < 1000) ∧ (∀ H', Kp [] H H' → Q (.str (S (io g m))) H')
theorem i_in_order {K : PySem.W.Frag} {g m : List Nat} {H : Hp} {Q : VK} {E : XK} (h1 : g.length < 1000) (q1 : ∀ H', Kp [] H H' → Q (.str (S (io g m))) H') : sp_in_order K [.str (S g), .str (S m)] H Q E := by
  exact ⟨⟨g, m, rfl, h1, q1⟩⟩
theorem d_in_order {K : PySem.W.Frag} {vs : List V} {H : Hp} {Q : VK} {E : XK} (h : sp_in_order K vs H Q E) : sp_in_order K vs H Q E := h


def t_in_order (K : PySem.W.Frag) (W : WX) : TS :=
  (tRet (tSM (zJoin K) (tC (.str (S []))) (tCons (tLcP (jA K (tV 0)) (gName 2) (tTst (tOp (zInP K) (tV 2) (tV 1))) (tV 2) [2]) tNil)))
theorem tm_in_order {P : Program} {w : World} {K : PySem.W.Frag} {mg : Str → Option Value} {base : Heap} {f : Addr} {cdv : Value} {A : Around} {outer : List Env} {s : Shared} {H : Hp} {E : XK} (T : Tx K mg) (hr : Room 4 (A.deeper (envOfC "in_order" (defScope s_in_order) s.heap.objs.size f cdv))) :
    PSs (cxOf (L2.CX P w) P w K mg base ["signs", "string", "sign"] "in_order" (defScope s_in_order) f cdv A outer s H E) (defBody s_in_order) (t_in_order K (WD E)) :=
  (pss_one (ps_ret (psm PySem.F.slot_str_join PySem.F.type_str_join mtjoin (pstr []) (pa_cons (plc [("sign", 2)] rfl sc_in_order.nd (pja (Ta.pv 0)) (by kernel_rfl) (fun _ _ _ _ _ => (pgn 2 sc_in_order.nd)) (fun _ _ _ _ _ => (pts_one (ptcmp opin (Ta.pv 2) (Ta.pv 1)))) (fun _ _ _ _ _ => (Ta.pv 2))) pa_nil))))
/-! read_entry -/
theorem sc_read_entry : FnScope ["signs", "sign", "entry", "start", "column"] ["signs", "sign", "entry"] (defScope s_read_entry) := ⟨rfl, rfl, rfl, by decide +kernel, rfl, by decide +kernel, by decide +kernel⟩
structure sp_read_entry (K : PySem.W.Frag) (vs : List V) (H : Hp) (Q : VK) (E : XK) : Prop where
  out : ∃ (G e : List Nat) (c : Nat), vs = [.str (S G), .str (S [c]), .str (S e)] ∧ (G.length < 1000) ∧ (e.length < 100000) ∧ (rgt G c e = true → ∀ H', Kp [] H H' → Q (.str (S (colE e))) H') ∧ (rgt G c e = false → ∀ H', Kp [] H H' → Q .non H')
theorem i_read_entry {K : PySem.W.Frag} {G e : List Nat} {c : Nat} {H : Hp} {Q : VK} {E : XK} (h1 : G.length < 1000) (h2 : e.length < 100000) (q1 : rgt G c e = true → ∀ H', Kp [] H H' → Q (.str (S (colE e))) H') (q2 : rgt G c e = false → ∀ H', Kp [] H H' → Q .non H') : sp_read_entry K [.str (S G), .str (S [c]), .str (S e)] H Q E := by
  exact ⟨⟨G, e, c, rfl, h1, h2, q1, q2⟩⟩
theorem d_read_entry {K : PySem.W.Frag} {vs : List V} {H : Hp} {Q : VK} {E : XK} (h : sp_read_entry K vs H Q E) : sp_read_entry K vs H Q E := h


def t_read_entry (K : PySem.W.Frag) (W : WX) : TS :=
  (tSeq (tAsg (tFstr [(tFv (tV 1)), (tC (.str (S [62])))]) (gName 3))
  (tSeq (tIfP (tNot (tTru K (tSM (zStarts) (tV 2) (tCons (tV 3) tNil)))) (tRet (tC .non)) tNext)
  (tSeq (tAsg (tSl (zSlP K) (tV 2) (tPrt (tCB (zLen K) (tCons (tV 3) tNil))) tNoPart) (gName 4))
  (tSeq (tIfP (tTst (tOp (zEqP K) (tV 4) (tC (.str (S [46]))))) (tRet (tC (.str (S [])))) tNext)
  (tSeq (tIfP (tOrP (tTst (tOp (zEqP K) (tV 4) (tC (.str (S []))))) (tTst (tOp (zNeP K) (tV 4) (tCal (sp_in_order K) [] W (tCons (tV 0) (tCons (tV 4) tNil)))))) (tRet (tC .non)) tNext)
  (tRet (tV 4)))))))
theorem tm_read_entry {P : Program} {w : World} {K : PySem.W.Frag} {mg : Str → Option Value} {base : Heap} {f : Addr} {cdv : Value} {A : Around} {outer : List Env} {s : Shared} {H : Hp} {E : XK} (T : Tx K mg) (G_in_order : Fn P w K mg base "in_order" 5 [] (sp_in_order K)) (hr : Room 6 (A.deeper (envOfC "read_entry" (defScope s_read_entry) s.heap.objs.size f cdv))) :
    PSs (cxOf (L2.CX P w) P w K mg base ["signs", "sign", "entry", "start", "column"] "read_entry" (defScope s_read_entry) f cdv A outer s H E) (defBody s_read_entry) (t_read_entry K (WD E)) :=
  (pss_cons (pset 3 sc_read_entry.nd (pfstr (PFs.cons (pfv (Ta.pv 1)) (PFs.cons (pstr [62]) PFs.nil))))
  (pss_cons (psif (pt_not (ptru (psm PySem.F.slot_str_startswith PySem.F.type_str_startswith mtstarts (Ta.pv 2) (pa_cons (Ta.pv 3) pa_nil)))) (pss_one (ps_ret pe_non)) pss_nil)
  (pss_cons (pset 4 sc_read_entry.nd (psl (Ta.pv 2) (posome (pcb (crlen) T.f_len (pa_cons (Ta.pv 3) pa_nil))) po_none))
  (pss_cons (psif (ptcmp (opeq hr.units) (Ta.pv 4) (pstr [46])) (pss_one (ps_ret (pstr []))) pss_nil)
  (pss_cons (psif (PW.pt (pwor (ptcmp (opeq hr.units) (Ta.pv 4) (pstr [])) (pw_or1 (ptcmp (opne hr.units) (Ta.pv 4) (pcall G_in_order (hr.mono (by decide)) takesD (pa_cons (Ta.pv 0) (pa_cons (Ta.pv 4) pa_nil))))))) (pss_one (ps_ret pe_non)) pss_nil)
  (pss_one (ps_ret (Ta.pv 4))))))))
/-! is_sign -/
theorem sc_is_sign : FnScope ["alphabet", "string"] ["alphabet", "string"] (defScope s_is_sign) := ⟨rfl, rfl, rfl, by decide +kernel, rfl, by decide +kernel, by decide +kernel⟩
structure sp_is_sign (K : PySem.W.Frag) (vs : List V) (H : Hp) (Q : VK) (E : XK) : Prop where
  out : ∃ (A dA : Addr) (l v t : List Nat), vs = [.ref A, .str (S t)] ∧ (H A = some (alo K dA l v)) ∧ (t.length < 1000) ∧ (Q (.bl (isS (sg l) t)) H)
theorem i_is_sign {K : PySem.W.Frag} {A dA : Addr} {l v t : List Nat} {H : Hp} {Q : VK} {E : XK} (hA : H A = some (alo K dA l v)) (h1 : t.length < 1000) (q : Q (.bl (isS (sg l) t)) H) : sp_is_sign K [.ref A, .str (S t)] H Q E := by
  exact ⟨⟨A, dA, l, v, t, rfl, hA, h1, q⟩⟩
theorem d_is_sign {K : PySem.W.Frag} {vs : List V} {H : Hp} {Q : VK} {E : XK} (h : sp_is_sign K vs H Q E) : sp_is_sign K vs H Q E := h


def t_is_sign (K : PySem.W.Frag) (W : WX) : TS :=
  (tRet (tAndE K (tOp (zEqP K) (tCB (zLen K) (tCons (tV 1) tNil)) (tC (.int 1))) (tOp (zInP K) (tV 1) (tAt K (tV 0) "signs"))))
theorem tm_is_sign {P : Program} {w : World} {K : PySem.W.Frag} {mg : Str → Option Value} {base : Heap} {f : Addr} {cdv : Value} {A : Around} {outer : List Env} {s : Shared} {H : Hp} {E : XK} (T : Tx K mg) (hr : Room 4 (A.deeper (envOfC "is_sign" (defScope s_is_sign) s.heap.objs.size f cdv))) :
    PSs (cxOf (L2.CX P w) P w K mg base ["alphabet", "string"] "is_sign" (defScope s_is_sign) f cdv A outer s H E) (defBody s_is_sign) (t_is_sign K (WD E)) :=
  (pss_one (ps_ret (peand (pe_cmpR (opeq hr.units) (pcb (crlen) T.f_len (pa_cons (Ta.pv 1) pa_nil)) pe_int rfl) (pe_one (pe_cmpR opin (Ta.pv 1) (patt (Ta.pv 0)) rfl)))))
/-! pairs_of -/
theorem sc_pairs_of : FnScope ["signs", "columns", "told", "column", "out"] ["signs", "columns"] (defScope s_pairs_of) := ⟨rfl, rfl, rfl, by decide +kernel, rfl, by decide +kernel, by decide +kernel⟩
structure sp_pairs_of (K : PySem.W.Frag) (vs : List V) (H : Hp) (Q : VK) (E : XK) : Prop where
  out : ∃ (g : List Nat) (c : Addr) (cols : List (List Nat)), vs = [.str (S g), .ref c] ∧ (H c = some (.tup (txs cols)) ∨ H c = some (.lst (txs cols))) ∧ (cols.length = g.length ∧ g.length < 100) ∧ (∀ c ∈ g, c < 128) ∧ (∀ t ∈ cols, t.length < 100) ∧ (∀ p xs H', Kp [] H H' → H p = none → H' p = some (.lst xs) → Paired (pairP H') xs (prs g cols) → Q (.ref p) H')
theorem i_pairs_of {K : PySem.W.Frag} {g : List Nat} {c : Addr} {cols : List (List Nat)} {H : Hp} {Q : VK} {E : XK} (hc : H c = some (.tup (txs cols)) ∨ H c = some (.lst (txs cols))) (h1 : cols.length = g.length ∧ g.length < 100) (h2 : ∀ c ∈ g, c < 128) (h3 : ∀ t ∈ cols, t.length < 100) (q1 : ∀ p xs H', Kp [] H H' → H p = none → H' p = some (.lst xs) → Paired (pairP H') xs (prs g cols) → Q (.ref p) H') : sp_pairs_of K [.str (S g), .ref c] H Q E := by
  exact ⟨⟨g, c, cols, rfl, hc, h1, h2, h3, q1⟩⟩
theorem d_pairs_of {K : PySem.W.Frag} {vs : List V} {H : Hp} {Q : VK} {E : XK} (h : sp_pairs_of K vs H Q E) : sp_pairs_of K vs H Q E := h


def t_pairs_of (K : PySem.W.Frag) (W : WX) : TS :=
  (tRet (tLc2P (jZq (tCons (tV 0) (tCons (tV 1) tNil))) (gTup K 2 (gCons (gName 2) (gCons (gName 3) gNil))) tYes (jA K (tV 3)) (gName 4) tYes (tTup (tCons (tV 2) (tCons (tV 4) tNil))) [2, 3, 4] [4]))
theorem tm_pairs_of {P : Program} {w : World} {K : PySem.W.Frag} {mg : Str → Option Value} {base : Heap} {f : Addr} {cdv : Value} {A : Around} {outer : List Env} {s : Shared} {H : Hp} {E : XK} (T : Tx K mg) (hr : Room 4 (A.deeper (envOfC "pairs_of" (defScope s_pairs_of) s.heap.objs.size f cdv))) :
    PSs (cxOf (L2.CX P w) P w K mg base ["signs", "columns", "told", "column", "out"] "pairs_of" (defScope s_pairs_of) f cdv A outer s H E) (defBody s_pairs_of) (t_pairs_of K (WD E)) :=
  (pss_one (ps_ret (plc2 [("told", 2), ("column", 3), ("out", 4)] [4] rfl sc_pairs_of.nd (pjzq T.f_zip (pa_cons (Ta.pv 0) (pa_cons (Ta.pv 1) pa_nil))) (by kernel_rfl) (by decide) (fun _ _ _ _ _ => (pg_tup rfl (pgs_cons (pgn 2 sc_pairs_of.nd) (pgs_cons (pgn 3 sc_pairs_of.nd) pgs_nil)))) (fun _ _ _ _ _ => pts_nil) (fun _ _ _ _ _ => (pja (Ta.pv 3))) (fun _ _ _ _ _ => (pgn 4 sc_pairs_of.nd)) (fun _ _ _ _ _ => pts_nil) (fun _ _ _ _ _ => (pe_tup (pa_cons (Ta.pv 2) (pa_cons (Ta.pv 4) pa_nil)))))))
/-! Table___init__ -/
theorem sc_Table_init : FnScope ["self", "alphabet", "pairs", "index", "first", "second", "signs", "gathered", "told", "out", "sign", "string"] ["self", "alphabet", "pairs"] (defScope s_Table_init) := ⟨rfl, rfl, rfl, by decide +kernel, rfl, by decide +kernel, by decide +kernel⟩
structure sp_Table_init (K : PySem.W.Frag) (vs : List V) (H : Hp) (Q : VK) (E : XK) : Prop where
  out : ∃ (t dt A dA p : Addr) (l v : List Nat) (xs : List V) (R : List Pr2), vs = [.ref t, .ref A, .ref p] ∧ (H t = some (.ins (He.ga K "Table") dt [])) ∧ (H A = some (alo K dA l v)) ∧ (good l v) ∧ (H p = some (.lst xs)) ∧ (Paired (pairP H) xs R) ∧ (R.length < 1000) ∧ (∀ p ∈ R, p.1.length < 100 ∧ p.2.length < 100) ∧ (badP (sg l) R 0 = none → ∀ H', Kp [t] H H' → tabAt K H' t A (sg l) (colsP (sg l) R) → Q .non H') ∧ (∀ k, badP (sg l) R 0 = some k → errK K "BadPair" "index" (.int k) H E)
theorem i_Table_init {K : PySem.W.Frag} {t dt A dA p : Addr} {l v : List Nat} {xs : List V} {R : List Pr2} {H : Hp} {Q : VK} {E : XK} (ht : H t = some (.ins (He.ga K "Table") dt [])) (hA : H A = some (alo K dA l v)) (hl : good l v) (hp : H p = some (.lst xs)) (hx : Paired (pairP H) xs R) (hn : R.length < 1000) (hq : ∀ p ∈ R, p.1.length < 100 ∧ p.2.length < 100) (q1 : badP (sg l) R 0 = none → ∀ H', Kp [t] H H' → tabAt K H' t A (sg l) (colsP (sg l) R) → Q .non H') (q2 : ∀ k, badP (sg l) R 0 = some k → errK K "BadPair" "index" (.int k) H E) : sp_Table_init K [.ref t, .ref A, .ref p] H Q E := by
  exact ⟨⟨t, dt, A, dA, p, l, v, xs, R, rfl, ht, hA, hl, hp, hx, hn, hq, q1, q2⟩⟩
theorem d_Table_init {K : PySem.W.Frag} {vs : List V} {H : Hp} {Q : VK} {E : XK} (h : sp_Table_init K vs H Q E) : sp_Table_init K vs H Q E := h


def b_Table_init_1 (K : PySem.W.Frag) (W : WX) : TS :=
  (tIfP (tOrP (tNot (tTru K (tCal (sp_is_sign K) [] W (tCons (tV 1) (tCons (tV 4) tNil))))) (tNot (tTru K (tCal (sp_is_sign K) [] W (tCons (tV 1) (tCons (tV 5) tNil)))))) (tRs (He.ga K "BadPair") ["index"] W (tCons (tV 3) tNil)) tNext)
def t_Table_init (K : PySem.W.Frag) (W : WX) : TS :=
  (tSeq (tForP (jEn K (tCons (tV 2) tNil)) (gTup K 2 (gCons (gName 3) (gCons (gTup K 2 (gCons (gName 4) (gCons (gName 5) gNil))) gNil))) (b_Table_init_1 K W))
  (tSeq (tAsg (tAt K (tV 1) "signs") (gName 6))
  (tSeq (tAsg (tLcP (jA K (tV 6)) (gName 10) tYes (tSM (zJoin K) (tC (.str (S []))) (tCons (tLcP (jA K (tV 2)) (gTup K 2 (gCons (gName 8) (gCons (gName 9) gNil))) (tTst (tOp (zEqP K) (tV 8) (tV 10))) (tV 9) [8, 9]) tNil)) [10]) (gName 7))
  (tSeq (sAt K (tV 0) (tV 1) "alphabet")
  (tSeq (sAt K (tV 0) (tCB (zTuple K) (tCons (tLcP (jA K (tV 7)) (gName 11) tYes (tCal (sp_in_order K) [] WF (tCons (tV 6) (tCons (tV 11) tNil))) [11]) tNil)) "columns")
  (sAt K (tV 0) (tCB (zTuple K) (tCons (tCal (sp_pairs_of K) [] W (tCons (tV 6) (tCons (tAt K (tV 0) "columns") tNil))) tNil)) "cells"))))))
theorem tm_Table_init {P : Program} {w : World} {K : PySem.W.Frag} {mg : Str → Option Value} {base : Heap} {f : Addr} {cdv : Value} {A : Around} {outer : List Env} {s : Shared} {H : Hp} {E : XK} (T : Tx K mg) (G_in_order : Fn P w K mg base "in_order" 5 [] (sp_in_order K)) (G_is_sign : Fn P w K mg base "is_sign" 5 [] (sp_is_sign K)) (G_pairs_of : Fn P w K mg base "pairs_of" 5 [] (sp_pairs_of K)) (X_BadPair : Ex P w K mg base "BadPair" (He.ga K "BadPair") ["index"]) (hr : Room 6 (A.deeper (envOfC "Table.__init__" (defScope s_Table_init) s.heap.objs.size f cdv))) :
    PSs (cxOf (L2.CX P w) P w K mg base ["self", "alphabet", "pairs", "index", "first", "second", "signs", "gathered", "told", "out", "sign", "string"] "Table.__init__" (defScope s_Table_init) f cdv A outer s H E) (defBody s_Table_init) (t_Table_init K (WD E)) :=
  (pss_cons (psfor ownD rfl (pjen T.f_enumerate (pa_cons (Ta.pv 2) pa_nil)) (pg_tup rfl (pgs_cons (pgn 3 sc_Table_init.nd) (pgs_cons (pg_tup rfl (pgs_cons (pgn 4 sc_Table_init.nd) (pgs_cons (pgn 5 sc_Table_init.nd) pgs_nil))) pgs_nil))) (pss_one (psif (PW.pt (pwor (pt_not (ptru (pcall G_is_sign (hr.mono (by decide)) takesD (pa_cons (Ta.pv 1) (pa_cons (Ta.pv 4) pa_nil))))) (pw_or1 (pt_not (ptru (pcall G_is_sign (hr.mono (by decide)) takesD (pa_cons (Ta.pv 1) (pa_cons (Ta.pv 5) pa_nil)))))))) (pss_one (praise X_BadPair (hr.mono (by decide)) takesD (pa_cons (Ta.pv 3) pa_nil))) pss_nil)))
  (pss_cons (pset 6 sc_Table_init.nd (patt (Ta.pv 1)))
  (pss_cons (pslc (i := 7) [("sign", 10)] rfl sc_Table_init.nd rfl rfl (sw_true rfl rfl rfl (by decide +kernel)) (pja (Ta.pv 6)) (by kernel_rfl) (fun _ _ _ _ _ => (pgn 10 sc_Table_init.nd)) (fun _ _ _ _ _ => pts_nil) (fun _ _ _ _ _ => (psm PySem.F.slot_str_join PySem.F.type_str_join mtjoin (pstr []) (pa_cons (plc [("told", 8), ("out", 9)] rfl sc_Table_init.nd (pja (Ta.pv 2)) (by kernel_rfl) (fun _ _ _ _ _ => (pg_tup rfl (pgs_cons (pgn 8 sc_Table_init.nd) (pgs_cons (pgn 9 sc_Table_init.nd) pgs_nil)))) (fun _ _ _ _ _ => (pts_one (ptcmp (opeq hr.units) (Ta.pv 8) (Ta.pv 10)))) (fun _ _ _ _ _ => (Ta.pv 9))) pa_nil))))
  (pss_cons (psat (Ta.pv 0) (Ta.pv 1))
  (pss_cons (psat (Ta.pv 0) (pct (crtuple) T.f_tuple (pa_cons (plc [("string", 11)] rfl sc_Table_init.nd (pja (Ta.pv 7)) (by kernel_rfl) (fun _ _ _ _ _ => (pgn 11 sc_Table_init.nd)) (fun _ _ _ _ _ => pts_nil) (fun _ _ _ _ _ => (pcall G_in_order (hr.mono (by decide)) takes0 (pa_cons (Ta.pv 6) (pa_cons (Ta.pv 11) pa_nil))))) pa_nil)))
  (pss_one (psat (Ta.pv 0) (pct (crtuple) T.f_tuple (pa_cons (pcall G_pairs_of (hr.mono (by decide)) takesD (pa_cons (Ta.pv 6) (pa_cons (patt (Ta.pv 0)) pa_nil))) pa_nil)))))))))
/-! Table_read -/
theorem sc_Table_read : FnScope ["cls", "alphabet", "written", "signs", "entries", "columns", "index", "sign", "column"] ["cls", "alphabet", "written"] (defScope s_Table_read) := ⟨rfl, rfl, rfl, by decide +kernel, rfl, by decide +kernel, by decide +kernel⟩
structure sp_Table_read (K : PySem.W.Frag) (vs : List V) (H : Hp) (Q : VK) (E : XK) : Prop where
  out : ∃ (A dA : Addr) (l v w : List Nat), vs = [.ref (He.ga K "Table"), .ref A, .str (S w)] ∧ (H A = some (alo K dA l v)) ∧ (good l v) ∧ (w.length < 100000) ∧ (rdx (sg l) (sg l) (ents w) 0 = none → ∀ t H', Kp [] H H' → tabAt K H' t A (sg l) ((ents w).map colE) → Q (.ref t) H') ∧ (∀ k, rdx (sg l) (sg l) (ents w) 0 = some k → errK K "BadEntry" "index" (.int k) H E)
theorem i_Table_read {K : PySem.W.Frag} {A dA : Addr} {l v w : List Nat} {H : Hp} {Q : VK} {E : XK} (hA : H A = some (alo K dA l v)) (hl : good l v) (hw : w.length < 100000) (q1 : rdx (sg l) (sg l) (ents w) 0 = none → ∀ t H', Kp [] H H' → tabAt K H' t A (sg l) ((ents w).map colE) → Q (.ref t) H') (q2 : ∀ k, rdx (sg l) (sg l) (ents w) 0 = some k → errK K "BadEntry" "index" (.int k) H E) : sp_Table_read K [.ref (He.ga K "Table"), .ref A, .str (S w)] H Q E := by
  exact ⟨⟨A, dA, l, v, w, rfl, hA, hl, hw, q1, q2⟩⟩
theorem d_Table_read {K : PySem.W.Frag} {vs : List V} {H : Hp} {Q : VK} {E : XK} (h : sp_Table_read K vs H Q E) : sp_Table_read K vs H Q E := h


def b_Table_read_1 (K : PySem.W.Frag) (W : WX) : TS :=
  (tSeq (tIfP (tTst (tOp zGe (tV 6) (tCB (zLen K) (tCons (tV 4) tNil)))) (tRs (He.ga K "BadEntry") ["index"] W (tCons (tV 6) tNil)) tNext)
  (tSeq (tAsg (tCal (sp_read_entry K) [] W (tCons (tV 3) (tCons (tV 7) (tCons (tOp (zIxP K) (tV 4) (tV 6)) tNil)))) (gName 8))
  (tSeq (tIfP (tTst (tOp zIsB (tV 8) (tC .non))) (tRs (He.ga K "BadEntry") ["index"] W (tCons (tV 6) tNil)) tNext)
  (tDrop (tLM zAppP (tV 5) (tCons (tV 8) tNil))))))
def t_Table_read (K : PySem.W.Frag) (W : WX) : TS :=
  (tSeq (tAsg (tAt K (tV 1) "signs") (gName 3))
  (tSeq (tAsg (tSM (zSplit) (tV 2) (tCons (tC (.str (S [32]))) tNil)) (gName 4))
  (tSeq (tAsg (tLst tNil) (gName 5))
  (tSeq (tForP (jEs (tCons (tV 3) tNil)) (gTup K 2 (gCons (gName 6) (gCons (gName 7) gNil))) (b_Table_read_1 K W))
  (tSeq (tIfP (tTst (tOp zGt (tCB (zLen K) (tCons (tV 4) tNil)) (tCB (zLen K) (tCons (tV 3) tNil)))) (tRs (He.ga K "BadEntry") ["index"] W (tCons (tCB (zLen K) (tCons (tV 3) tNil)) tNil)) tNext)
  (tRet (tMkL 0 (He.ga K "Table") (sp_Table_init K) [] W (tCons (tV 1) (tCons (tCal (sp_pairs_of K) [] W (tCons (tV 3) (tCons (tV 5) tNil))) tNil)))))))))
theorem tm_Table_read {P : Program} {w : World} {K : PySem.W.Frag} {mg : Str → Option Value} {base : Heap} {f : Addr} {cdv : Value} {A : Around} {outer : List Env} {s : Shared} {H : Hp} {E : XK} (T : Tx K mg) (G_Table : Mks P w K mg base "Table" (He.ga K "Table") 7 [] (sp_Table_init K)) (G_pairs_of : Fn P w K mg base "pairs_of" 5 [] (sp_pairs_of K)) (G_read_entry : Fn P w K mg base "read_entry" 7 [] (sp_read_entry K)) (X_BadEntry : Ex P w K mg base "BadEntry" (He.ga K "BadEntry") ["index"]) (hr : Room 8 (A.deeper (envOfC "Table.read" (defScope s_Table_read) s.heap.objs.size f cdv))) :
    PSs (cxOf (L2.CX P w) P w K mg base ["cls", "alphabet", "written", "signs", "entries", "columns", "index", "sign", "column"] "Table.read" (defScope s_Table_read) f cdv A outer s H E) (defBody s_Table_read) (t_Table_read K (WD E)) :=
  (pss_cons (pset 3 sc_Table_read.nd (patt (Ta.pv 1)))
  (pss_cons (pset 4 sc_Table_read.nd (psm PySem.F.slot_str_split PySem.F.type_str_split mtsplit (Ta.pv 2) (pa_cons (pstr [32]) pa_nil)))
  (pss_cons (pset 5 sc_Table_read.nd (pe_lst pa_nil))
  (pss_cons (psfor ownD rfl (pjes T.f_enumerate (pa_cons (Ta.pv 3) pa_nil)) (pg_tup rfl (pgs_cons (pgn 6 sc_Table_read.nd) (pgs_cons (pgn 7 sc_Table_read.nd) pgs_nil))) (pss_cons (psif (ptcmp opge (Ta.pv 6) (pcb (crlen) T.f_len (pa_cons (Ta.pv 4) pa_nil))) (pss_one (praise X_BadEntry (hr.mono (by decide)) takesD (pa_cons (Ta.pv 6) pa_nil))) pss_nil)
  (pss_cons (pset 8 sc_Table_read.nd (pcall G_read_entry (hr.mono (by decide)) takesD (pa_cons (Ta.pv 3) (pa_cons (Ta.pv 7) (pa_cons (pix (Ta.pv 4) (Ta.pv 6)) pa_nil)))))
  (pss_cons (psif (ptcmp opisb (Ta.pv 8) pe_non) (pss_one (praise X_BadEntry (hr.mono (by decide)) takesD (pa_cons (Ta.pv 6) pa_nil))) pss_nil)
  (pss_one (ps_expr (plm PySem.F.slot_list_append PySem.F.type_list_append mtapp (Ta.pv 5) (pa_cons (Ta.pv 8) pa_nil))))))))
  (pss_cons (psif (ptcmp opgt (pcb (crlen) T.f_len (pa_cons (Ta.pv 4) pa_nil)) (pcb (crlen) T.f_len (pa_cons (Ta.pv 3) pa_nil))) (pss_one (praise X_BadEntry (hr.mono (by decide)) takesD (pa_cons (pcb (crlen) T.f_len (pa_cons (Ta.pv 3) pa_nil)) pa_nil))) pss_nil)
  (pss_one (ps_ret (pmkl (i := 0) G_Table (hr.mono (by decide)) takesD (pa_cons (Ta.pv 1) (pa_cons (pcall G_pairs_of (hr.mono (by decide)) takesD (pa_cons (Ta.pv 3) (pa_cons (Ta.pv 5) pa_nil))) pa_nil))))))))))
/-! Alphabet___eq__ -/
theorem sc_Alphabet_eq : FnScope ["self", "other"] ["self", "other"] (defScope s_Alphabet_eq) := ⟨rfl, rfl, rfl, by decide +kernel, rfl, by decide +kernel, by decide +kernel⟩
structure sp_Alphabet_eq (K : PySem.W.Frag) (vs : List V) (H : Hp) (Q : VK) (E : XK) : Prop where
  out : ∃ a b dx dy l v m u, vs = [.ref a, .ref b] ∧ H a = some (.ins (He.ga K "Alphabet") dx (alf l v)) ∧ H b = some (.ins (He.ga K "Alphabet") dy (alf m u)) ∧ Q (.bl (decide (srt l = srt m) && decide (srt v = srt u))) H
theorem i_Alphabet_eq {K : PySem.W.Frag} {a b dx dy : Addr} {l v m u : List Nat} {H : Hp} {Q : VK} {E : XK} (ha : H a = some (.ins (He.ga K "Alphabet") dx (alf l v))) (hb : H b = some (.ins (He.ga K "Alphabet") dy (alf m u))) (q : Q (.bl (decide (srt l = srt m) && decide (srt v = srt u))) H) : sp_Alphabet_eq K [.ref a, .ref b] H Q E := by
  exact ⟨⟨a, b, dx, dy, l, v, m, u, rfl, ha, hb, q⟩⟩
theorem i_Alphabet_eqS {K : PySem.W.Frag} {a dx : Addr} {l v : List Nat} {H : Hp} {Q : VK} {E : XK} (ha : H a = some (.ins (He.ga K "Alphabet") dx (alf l v))) (q : Q (.bl true) H) : sp_Alphabet_eq K [.ref a, .ref a] H Q E :=
  i_Alphabet_eq ha ha (by rw [decide_eq_true rfl, decide_eq_true rfl]; exact q)

def t_Alphabet_eq (K : PySem.W.Frag) (W : WX) : TS :=
  (tRet (tAndE K (tCB (zIsa K) (tCons (tV 1) (tCons (tC (.ref (He.ga K "Alphabet"))) tNil))) (tAndE K (tOp (zEqP K) (tAt K (tV 0) "letters") (tAt K (tV 1) "letters")) (tOp (zEqP K) (tAt K (tV 0) "vowels") (tAt K (tV 1) "vowels")))))
theorem tm_Alphabet_eq {P : Program} {w : World} {K : PySem.W.Frag} {mg : Str → Option Value} {base : Heap} {f : Addr} {cdv : Value} {A : Around} {outer : List Env} {s : Shared} {H : Hp} {E : XK} (T : Tx K mg) (hr : Room 4 (A.deeper (envOfC "Alphabet.__eq__" (defScope s_Alphabet_eq) s.heap.objs.size f cdv))) :
    PSs (cxOf (L2.CX P w) P w K mg base ["self", "other"] "Alphabet.__eq__" (defScope s_Alphabet_eq) f cdv A outer s H E) (defBody s_Alphabet_eq) (t_Alphabet_eq K (WD E)) :=
  (pss_one (ps_ret (peand (pcb (crisa) T.f_isinstance (pa_cons (Ta.pv 1) (pa_cons (pglo T.v_Alphabet) pa_nil))) (peand (pe_cmpR (opeq hr.units) (patt (Ta.pv 0)) (patt (Ta.pv 1)) rfl) (pe_one (pe_cmpR (opeq hr.units) (patt (Ta.pv 0)) (patt (Ta.pv 1)) rfl))))))
/-! Table___eq__ -/
theorem sc_Table_eq : FnScope ["self", "other"] ["self", "other"] (defScope s_Table_eq) := ⟨rfl, rfl, rfl, by decide +kernel, rfl, by decide +kernel, by decide +kernel⟩
structure sp_Table_eq (K : PySem.W.Frag) (vs : List V) (H : Hp) (Q : VK) (E : XK) : Prop where
  out : ∃ (t t2 A A2 dA dA2 : Addr) (l v m u : List Nat) (cols cols2 : List (List Nat)), vs = [.ref t, .ref t2] ∧ (tabAt K H t A (sg l) cols) ∧ (tabAt K H t2 A2 (sg m) cols2) ∧ (H A = some (alo K dA l v)) ∧ (H A2 = some (alo K dA2 m u)) ∧ (∀ t ∈ cols, lowT t) ∧ (∀ t ∈ cols2, lowT t) ∧ (Q (.bl (decide (srt l = srt m ∧ srt v = srt u ∧ cols = cols2))) H)
theorem i_Table_eq {K : PySem.W.Frag} {t t2 A A2 dA dA2 : Addr} {l v m u : List Nat} {cols cols2 : List (List Nat)} {H : Hp} {Q : VK} {E : XK} (ht : tabAt K H t A (sg l) cols) (ht2 : tabAt K H t2 A2 (sg m) cols2) (hA : H A = some (alo K dA l v)) (hA2 : H A2 = some (alo K dA2 m u)) (hc : ∀ t ∈ cols, lowT t) (hc2 : ∀ t ∈ cols2, lowT t) (q1 : Q (.bl (decide (srt l = srt m ∧ srt v = srt u ∧ cols = cols2))) H) : sp_Table_eq K [.ref t, .ref t2] H Q E := by
  exact ⟨⟨t, t2, A, A2, dA, dA2, l, v, m, u, cols, cols2, rfl, ht, ht2, hA, hA2, hc, hc2, q1⟩⟩
theorem d_Table_eq {K : PySem.W.Frag} {vs : List V} {H : Hp} {Q : VK} {E : XK} (h : sp_Table_eq K vs H Q E) : sp_Table_eq K vs H Q E := h


def t_Table_eq (K : PySem.W.Frag) (W : WX) : TS :=
  (tRet (tAndE K (tCB (zIsa K) (tCons (tV 1) (tCons (tC (.ref (He.ga K "Table"))) tNil))) (tAndE K (tOp (zOwn (He.ga K "Alphabet") (sp_Alphabet_eq K)) (tAt K (tV 0) "alphabet") (tAt K (tV 1) "alphabet")) (tOp (zEqP K) (tAt K (tV 0) "columns") (tAt K (tV 1) "columns")))))
theorem tm_Table_eq {P : Program} {w : World} {K : PySem.W.Frag} {mg : Str → Option Value} {base : Heap} {f : Addr} {cdv : Value} {A : Around} {outer : List Env} {s : Shared} {H : Hp} {E : XK} (T : Tx K mg) (G_Alphabet___eq__ : Me P w K mg base (He.ga K "Alphabet") "__eq__" 5 [] (sp_Alphabet_eq K)) (hr : Room 6 (A.deeper (envOfC "Table.__eq__" (defScope s_Table_eq) s.heap.objs.size f cdv))) :
    PSs (cxOf (L2.CX P w) P w K mg base ["self", "other"] "Table.__eq__" (defScope s_Table_eq) f cdv A outer s H E) (defBody s_Table_eq) (t_Table_eq K (WD E)) :=
  (pss_one (ps_ret (peand (pcb (crisa) T.f_isinstance (pa_cons (Ta.pv 1) (pa_cons (pglo T.v_Table) pa_nil))) (peand (pe_cmpR (opown G_Alphabet___eq__ (hr.mono (by decide))) (patt (Ta.pv 0)) (patt (Ta.pv 1)) rfl) (pe_one (pe_cmpR (opeq hr.units) (patt (Ta.pv 0)) (patt (Ta.pv 1)) rfl))))))
/-! _law_right -/
theorem sc_l_right : FnScope ["_law_entry", "_law_sign", "_law_signs_here", "_law_last", "_law_one"] ["_law_entry", "_law_sign", "_law_signs_here"] (defScope s_l_right) := ⟨rfl, rfl, rfl, by decide +kernel, rfl, by decide +kernel, by decide +kernel⟩
structure sp_l_right (K : PySem.W.Frag) (vs : List V) (H : Hp) (Q : VK) (E : XK) : Prop where
  out : ∃ (G e : List Nat) (c : Nat), vs = [.str (S e), .str (S [c]), .str (S G)] ∧ (e.length < 100000) ∧ (G.Nodup) ∧ (Q (.bl (rgt G c e)) H)
theorem i_l_right {K : PySem.W.Frag} {G e : List Nat} {c : Nat} {H : Hp} {Q : VK} {E : XK} (h1 : e.length < 100000) (hn : G.Nodup) (q1 : Q (.bl (rgt G c e)) H) : sp_l_right K [.str (S e), .str (S [c]), .str (S G)] H Q E := by
  exact ⟨⟨G, e, c, rfl, h1, hn, q1⟩⟩
theorem d_l_right {K : PySem.W.Frag} {vs : List V} {H : Hp} {Q : VK} {E : XK} (h : sp_l_right K vs H Q E) : sp_l_right K vs H Q E := h


def b_l_right_1 (K : PySem.W.Frag) (W : WX) : TS :=
  (tSeq (tIfP (tAndP (tTst (tOp zLe (tSM (zFind) (tV 2) (tCons (tV 4) tNil)) (tV 3))) (tTst (tOp (zNeP K) (tSl (zSlP K) (tV 0) (tPrt (tC (.int 2))) tNoPart) (tC (.str (S [46])))))) (tRet (tC (.bl false))) tNext)
  (tAsg (tSM (zFind) (tV 2) (tCons (tV 4) tNil)) (gName 3)))
def t_l_right (K : PySem.W.Frag) (W : WX) : TS :=
  (tSeq (tIfP (tOrP (tTst (tOp (zNeP K) (tSl (zSlP K) (tV 0) tNoPart (tPrt (tC (.int 2)))) (tOp zAdd (tV 1) (tC (.str (S [62])))))) (tTst (tOp zLt (tCB (zLen K) (tCons (tV 0) tNil)) (tC (.int 3))))) (tRet (tC (.bl false))) tNext)
  (tSeq (tAsg (tUn zNeg (tC (.int 1))) (gName 3))
  (tSeq (tForP (jA K (tSl (zSlP K) (tV 0) (tPrt (tC (.int 2))) tNoPart)) (gName 4) (b_l_right_1 K W))
  (tRet (tC (.bl true))))))
theorem tm_l_right {P : Program} {w : World} {K : PySem.W.Frag} {mg : Str → Option Value} {base : Heap} {f : Addr} {cdv : Value} {A : Around} {outer : List Env} {s : Shared} {H : Hp} {E : XK} (T : Tx K mg) (hr : Room 4 (A.deeper (envOfC "_law_right" (defScope s_l_right) s.heap.objs.size f cdv))) :
    PSs (cxOf (L2.CX P w) P w K mg base ["_law_entry", "_law_sign", "_law_signs_here", "_law_last", "_law_one"] "_law_right" (defScope s_l_right) f cdv A outer s H E) (defBody s_l_right) (t_l_right K (WD E)) :=
  (pss_cons (psif (PW.pt (pwor (ptcmp (opne hr.units) (psl (Ta.pv 0) po_none (posome pe_int)) (pe_op opadd (Ta.pv 1) (pstr [62]))) (pw_or1 (ptcmp oplt (pcb (crlen) T.f_len (pa_cons (Ta.pv 0) pa_nil)) pe_int)))) (pss_one (ps_ret pe_bl)) pss_nil)
  (pss_cons (pset 3 sc_l_right.nd (pe_un unneg pe_int))
  (pss_cons (psfor ownD rfl (pja (psl (Ta.pv 0) (posome pe_int) po_none)) (pgn 4 sc_l_right.nd) (pss_cons (psif (PW.pt (pwand (ptcmp ople (psm PySem.F.slot_str_find PySem.F.type_str_find mtfind (Ta.pv 2) (pa_cons (Ta.pv 4) pa_nil)) (Ta.pv 3)) (pw_and1 (ptcmp (opne hr.units) (psl (Ta.pv 0) (posome pe_int) po_none) (pstr [46]))))) (pss_one (ps_ret pe_bl)) pss_nil)
  (pss_one (pset 3 sc_l_right.nd (psm PySem.F.slot_str_find PySem.F.type_str_find mtfind (Ta.pv 2) (pa_cons (Ta.pv 4) pa_nil))))))
  (pss_one (ps_ret pe_bl)))))
/-! _law_index -/
theorem sc_l_index : FnScope ["_law_entries", "_law_signs_here", "_law_k"] ["_law_entries", "_law_signs_here"] (defScope s_l_index) := ⟨rfl, rfl, rfl, by decide +kernel, rfl, by decide +kernel, by decide +kernel⟩
structure sp_l_index (K : PySem.W.Frag) (vs : List V) (H : Hp) (Q : VK) (E : XK) : Prop where
  out : ∃ (G : List Nat) (r : Addr) (es : List (List Nat)), vs = [.ref r, .str (S G)] ∧ (H r = some (.lst (txs es))) ∧ (∀ t ∈ es, t.length < 100000) ∧ (es.length < 100000) ∧ (G.Nodup) ∧ (G.length ≤ 5) ∧ (Q (.int ((rdx G G es 0).getD (-1))) H)
theorem i_l_index {K : PySem.W.Frag} {G : List Nat} {r : Addr} {es : List (List Nat)} {H : Hp} {Q : VK} {E : XK} (hr : H r = some (.lst (txs es))) (h1 : ∀ t ∈ es, t.length < 100000) (h2 : es.length < 100000) (hn : G.Nodup) (hG : G.length ≤ 5) (q1 : Q (.int ((rdx G G es 0).getD (-1))) H) : sp_l_index K [.ref r, .str (S G)] H Q E := by
  exact ⟨⟨G, r, es, rfl, hr, h1, h2, hn, hG, q1⟩⟩
theorem d_l_index {K : PySem.W.Frag} {vs : List V} {H : Hp} {Q : VK} {E : XK} (h : sp_l_index K vs H Q E) : sp_l_index K vs H Q E := h


def b_l_index_1 (K : PySem.W.Frag) (W : WX) : TS :=
  (tIfP (tAndP (tTst (tOp zLt (tV 2) (tCB (zLen K) (tCons (tV 0) tNil)))) (tNot (tTru K (tCal (sp_l_right K) [] W (tCons (tOp (zIxP K) (tV 0) (tV 2)) (tCons (tOp (zIxP K) (tV 1) (tV 2)) (tCons (tV 1) tNil))))))) (tRet (tV 2)) tNext)
def t_l_index (K : PySem.W.Frag) (W : WX) : TS :=
  (tSeq (tForP (jR1 (tCons (tCB (zLen K) (tCons (tV 1) tNil)) tNil)) (gName 2) (b_l_index_1 K W))
  (tSeq (tIfP (tTst (tOp zLt (tCB (zLen K) (tCons (tV 0) tNil)) (tCB (zLen K) (tCons (tV 1) tNil)))) (tRet (tCB (zLen K) (tCons (tV 0) tNil))) tNext)
  (tSeq (tIfP (tTst (tOp zGt (tCB (zLen K) (tCons (tV 0) tNil)) (tCB (zLen K) (tCons (tV 1) tNil)))) (tRet (tCB (zLen K) (tCons (tV 1) tNil))) tNext)
  (tRet (tUn zNeg (tC (.int 1)))))))
theorem tm_l_index {P : Program} {w : World} {K : PySem.W.Frag} {mg : Str → Option Value} {base : Heap} {f : Addr} {cdv : Value} {A : Around} {outer : List Env} {s : Shared} {H : Hp} {E : XK} (T : Tx K mg) (G_l_right : Fn P w K mg base "_law_right" 5 [] (sp_l_right K)) (hr : Room 6 (A.deeper (envOfC "_law_index" (defScope s_l_index) s.heap.objs.size f cdv))) :
    PSs (cxOf (L2.CX P w) P w K mg base ["_law_entries", "_law_signs_here", "_law_k"] "_law_index" (defScope s_l_index) f cdv A outer s H E) (defBody s_l_index) (t_l_index K (WD E)) :=
  (pss_cons (psfor ownD rfl (pjr1 T.f_range (pa_cons (pcb (crlen) T.f_len (pa_cons (Ta.pv 1) pa_nil)) pa_nil)) (pgn 2 sc_l_index.nd) (pss_one (psif (PW.pt (pwand (ptcmp oplt (Ta.pv 2) (pcb (crlen) T.f_len (pa_cons (Ta.pv 0) pa_nil))) (pw_and1 (pt_not (ptru (pcall G_l_right (hr.mono (by decide)) takesD (pa_cons (pix (Ta.pv 0) (Ta.pv 2)) (pa_cons (pix (Ta.pv 1) (Ta.pv 2)) (pa_cons (Ta.pv 1) pa_nil))))))))) (pss_one (ps_ret (Ta.pv 2))) pss_nil)))
  (pss_cons (psif (ptcmp oplt (pcb (crlen) T.f_len (pa_cons (Ta.pv 0) pa_nil)) (pcb (crlen) T.f_len (pa_cons (Ta.pv 1) pa_nil))) (pss_one (ps_ret (pcb (crlen) T.f_len (pa_cons (Ta.pv 0) pa_nil)))) pss_nil)
  (pss_cons (psif (ptcmp opgt (pcb (crlen) T.f_len (pa_cons (Ta.pv 0) pa_nil)) (pcb (crlen) T.f_len (pa_cons (Ta.pv 1) pa_nil))) (pss_one (ps_ret (pcb (crlen) T.f_len (pa_cons (Ta.pv 1) pa_nil)))) pss_nil)
  (pss_one (ps_ret (pe_un unneg pe_int))))))
/-! _law_integer -/
theorem sc_l_integer : FnScope ["_law_told"] ["_law_told"] (defScope s_l_integer) := ⟨rfl, rfl, rfl, by decide +kernel, rfl, by decide +kernel, by decide +kernel⟩
structure sp_l_integer (K : PySem.W.Frag) (vs : List V) (H : Hp) (Q : VK) (E : XK) : Prop where
  out : ∃ (i : Int), vs = [.int i] ∧ (Q (.bl true) H)
theorem i_l_integer {K : PySem.W.Frag} {i : Int} {H : Hp} {Q : VK} {E : XK} (q : Q (.bl true) H) : sp_l_integer K [.int i] H Q E := by
  exact ⟨⟨i, rfl, q⟩⟩
theorem d_l_integer {K : PySem.W.Frag} {vs : List V} {H : Hp} {Q : VK} {E : XK} (h : sp_l_integer K vs H Q E) : sp_l_integer K vs H Q E := h


def t_l_integer (K : PySem.W.Frag) (W : WX) : TS :=
  (tRet (tAndE K (tCB (zIsa K) (tCons (tV 0) (tCons (tC (.ty "int")) tNil))) (tNotE K (tCB (zIsa K) (tCons (tV 0) (tCons (tC (.ty "bool")) tNil))))))
theorem tm_l_integer {P : Program} {w : World} {K : PySem.W.Frag} {mg : Str → Option Value} {base : Heap} {f : Addr} {cdv : Value} {A : Around} {outer : List Env} {s : Shared} {H : Hp} {E : XK} (T : Tx K mg) (hr : Room 4 (A.deeper (envOfC "_law_integer" (defScope s_l_integer) s.heap.objs.size f cdv))) :
    PSs (cxOf (L2.CX P w) P w K mg base ["_law_told"] "_law_integer" (defScope s_l_integer) f cdv A outer s H E) (defBody s_l_integer) (t_l_integer K (WD E)) :=
  (pss_one (ps_ret (peand (pcb (crisa) T.f_isinstance (pa_cons (Ta.pv 0) (pa_cons (pbty T.f_int) pa_nil))) (pe_one (penot (pcb (crisa) T.f_isinstance (pa_cons (Ta.pv 0) (pa_cons (pbty T.f_bool) pa_nil))))))))
theorem tmq_l_integer {P : Program} {w : World} {K : PySem.W.Frag} {mg : Str → Option Value} {base : Heap} {f : Addr} {cdv : Value} {A : Around} {outer : List Env} {s : Shared} {H : Hp} {E : XK} {z : Addr × Obj} (T : Tx K mg) (hr : L2H.RoomH 4 (A.deeper (envOfC "_law_integer" (defScope s_l_integer) s.heap.objs.size f cdv))) :
    PSs (L2H.cxH (L2.CX P w) P w K mg base ["_law_told"] "_law_integer" (defScope s_l_integer) f cdv A outer s H E z) (defBody s_l_integer) (t_l_integer K (WD E)) :=
  (pss_one (ps_ret (peand (pcb (crisa) T.f_isinstance (pa_cons (Ta.pv 0) (pa_cons (pbty T.f_int) pa_nil))) (pe_one (penot (pcb (crisa) T.f_isinstance (pa_cons (Ta.pv 0) (pa_cons (pbty T.f_bool) pa_nil))))))))
/-! check_sign -/
theorem sc_check_sign : FnScope ["alphabet", "string"] ["alphabet", "string"] (defScope s_check_sign) := ⟨rfl, rfl, rfl, by decide +kernel, rfl, by decide +kernel, by decide +kernel⟩
structure sp_check_sign (K : PySem.W.Frag) (vs : List V) (H : Hp) (Q : VK) (E : XK) : Prop where
  out : ∃ (A dA : Addr) (l v t : List Nat), vs = [.ref A, .str (S t)] ∧ (H A = some (alo K dA l v)) ∧ (t.length < 1000) ∧ (isS (sg l) t = true → Q .non H) ∧ (isS (sg l) t = false → errK K "UnknownSign" "sign" (.str (S t)) H E)
theorem i_check_sign {K : PySem.W.Frag} {A dA : Addr} {l v t : List Nat} {H : Hp} {Q : VK} {E : XK} (hA : H A = some (alo K dA l v)) (h1 : t.length < 1000) (q1 : isS (sg l) t = true → Q .non H) (q2 : isS (sg l) t = false → errK K "UnknownSign" "sign" (.str (S t)) H E) : sp_check_sign K [.ref A, .str (S t)] H Q E := by
  exact ⟨⟨A, dA, l, v, t, rfl, hA, h1, q1, q2⟩⟩
theorem d_check_sign {K : PySem.W.Frag} {vs : List V} {H : Hp} {Q : VK} {E : XK} (h : sp_check_sign K vs H Q E) : sp_check_sign K vs H Q E := h


def t_check_sign (K : PySem.W.Frag) (W : WX) : TS :=
  (tIfP (tNot (tTru K (tCal (sp_is_sign K) [] W (tCons (tV 0) (tCons (tV 1) tNil))))) (tRs (He.ga K "UnknownSign") ["sign"] W (tCons (tV 1) tNil)) tNext)
theorem tm_check_sign {P : Program} {w : World} {K : PySem.W.Frag} {mg : Str → Option Value} {base : Heap} {f : Addr} {cdv : Value} {A : Around} {outer : List Env} {s : Shared} {H : Hp} {E : XK} (T : Tx K mg) (G_is_sign : Fn P w K mg base "is_sign" 5 [] (sp_is_sign K)) (X_UnknownSign : Ex P w K mg base "UnknownSign" (He.ga K "UnknownSign") ["sign"]) (hr : Room 6 (A.deeper (envOfC "check_sign" (defScope s_check_sign) s.heap.objs.size f cdv))) :
    PSs (cxOf (L2.CX P w) P w K mg base ["alphabet", "string"] "check_sign" (defScope s_check_sign) f cdv A outer s H E) (defBody s_check_sign) (t_check_sign K (WD E)) :=
  (pss_one (psif (pt_not (ptru (pcall G_is_sign (hr.mono (by decide)) takesD (pa_cons (Ta.pv 0) (pa_cons (Ta.pv 1) pa_nil))))) (pss_one (praise X_UnknownSign (hr.mono (by decide)) takesD (pa_cons (Ta.pv 1) pa_nil))) pss_nil))
/-! Table___getitem__ -/
theorem sc_Table_getitem : FnScope ["self", "sign"] ["self", "sign"] (defScope s_Table_getitem) := ⟨rfl, rfl, rfl, by decide +kernel, rfl, by decide +kernel, by decide +kernel⟩
structure sp_Table_getitem (K : PySem.W.Frag) (vs : List V) (H : Hp) (Q : VK) (E : XK) : Prop where
  out : ∃ (t A dA : Addr) (l v : List Nat) (cols : List (List Nat)) (s : List Nat), vs = [.ref t, .str (S s)] ∧ (tabAt K H t A (sg l) cols) ∧ (H A = some (alo K dA l v)) ∧ (cols.length = (sg l).length) ∧ (s.length < 1000) ∧ (∀ (c j : Nat), s = [c] → c ∈ sg l → fnd c (sg l) = (j : Int) → (hj : j < cols.length) → Q (.str (S cols[j])) H) ∧ (isS (sg l) s = false → errK K "UnknownSign" "sign" (.str (S s)) H E)
theorem i_Table_getitem {K : PySem.W.Frag} {t A dA : Addr} {l v : List Nat} {cols : List (List Nat)} {s : List Nat} {H : Hp} {Q : VK} {E : XK} (ht : tabAt K H t A (sg l) cols) (hA : H A = some (alo K dA l v)) (hl : cols.length = (sg l).length) (h1 : s.length < 1000) (q1 : ∀ (c j : Nat), s = [c] → c ∈ sg l → fnd c (sg l) = (j : Int) → (hj : j < cols.length) → Q (.str (S cols[j])) H) (q2 : isS (sg l) s = false → errK K "UnknownSign" "sign" (.str (S s)) H E) : sp_Table_getitem K [.ref t, .str (S s)] H Q E := by
  exact ⟨⟨t, A, dA, l, v, cols, s, rfl, ht, hA, hl, h1, q1, q2⟩⟩
theorem d_Table_getitem {K : PySem.W.Frag} {vs : List V} {H : Hp} {Q : VK} {E : XK} (h : sp_Table_getitem K vs H Q E) : sp_Table_getitem K vs H Q E := h


def t_Table_getitem (K : PySem.W.Frag) (W : WX) : TS :=
  (tSeq (tDrop (tCal (sp_check_sign K) [] W (tCons (tAt K (tV 0) "alphabet") (tCons (tV 1) tNil))))
  (tRet (tOp (zIxP K) (tAt K (tV 0) "columns") (tSM (zFind) (tAt K (tAt K (tV 0) "alphabet") "signs") (tCons (tV 1) tNil)))))
theorem tm_Table_getitem {P : Program} {w : World} {K : PySem.W.Frag} {mg : Str → Option Value} {base : Heap} {f : Addr} {cdv : Value} {A : Around} {outer : List Env} {s : Shared} {H : Hp} {E : XK} (T : Tx K mg) (G_check_sign : Fn P w K mg base "check_sign" 7 [] (sp_check_sign K)) (hr : Room 8 (A.deeper (envOfC "Table.__getitem__" (defScope s_Table_getitem) s.heap.objs.size f cdv))) :
    PSs (cxOf (L2.CX P w) P w K mg base ["self", "sign"] "Table.__getitem__" (defScope s_Table_getitem) f cdv A outer s H E) (defBody s_Table_getitem) (t_Table_getitem K (WD E)) :=
  (pss_cons (ps_expr (pcall G_check_sign (hr.mono (by decide)) takesD (pa_cons (patt (Ta.pv 0)) (pa_cons (Ta.pv 1) pa_nil))))
  (pss_one (ps_ret (pix (patt (Ta.pv 0)) (psm PySem.F.slot_str_find PySem.F.type_str_find mtfind (patt (patt (Ta.pv 0))) (pa_cons (Ta.pv 1) pa_nil))))))
/-! Table___contains__ -/
theorem sc_Table_contains : FnScope ["self", "pair"] ["self", "pair"] (defScope s_Table_contains) := ⟨rfl, rfl, rfl, by decide +kernel, rfl, by decide +kernel, by decide +kernel⟩
structure sp_Table_contains (K : PySem.W.Frag) (vs : List V) (H : Hp) (Q : VK) (E : XK) : Prop where
  out : ∃ (t A q : Addr) (g x y : List Nat) (cols : List (List Nat)), vs = [.ref t, .ref q] ∧ (tabAt K H t A g cols) ∧ (H q = some (.tup [.str (S x), .str (S y)])) ∧ (lowT x ∧ lowT y) ∧ (∀ a ∈ prs g cols, lowT a.1 ∧ lowT a.2) ∧ (Q (.bl (decide ((x, y) ∈ prs g cols))) H)
theorem i_Table_contains {K : PySem.W.Frag} {t A q : Addr} {g x y : List Nat} {cols : List (List Nat)} {H : Hp} {Q : VK} {E : XK} (ht : tabAt K H t A g cols) (hq : H q = some (.tup [.str (S x), .str (S y)])) (hx : lowT x ∧ lowT y) (hp : ∀ a ∈ prs g cols, lowT a.1 ∧ lowT a.2) (q1 : Q (.bl (decide ((x, y) ∈ prs g cols))) H) : sp_Table_contains K [.ref t, .ref q] H Q E := by
  exact ⟨⟨t, A, q, g, x, y, cols, rfl, ht, hq, hx, hp, q1⟩⟩
theorem d_Table_contains {K : PySem.W.Frag} {vs : List V} {H : Hp} {Q : VK} {E : XK} (h : sp_Table_contains K vs H Q E) : sp_Table_contains K vs H Q E := h


def t_Table_contains (K : PySem.W.Frag) (W : WX) : TS :=
  (tRet (tOp (zInD K) (tV 1) (tAt K (tV 0) "cells")))
theorem tm_Table_contains {P : Program} {w : World} {K : PySem.W.Frag} {mg : Str → Option Value} {base : Heap} {f : Addr} {cdv : Value} {A : Around} {outer : List Env} {s : Shared} {H : Hp} {E : XK} (T : Tx K mg) (hr : Room 4 (A.deeper (envOfC "Table.__contains__" (defScope s_Table_contains) s.heap.objs.size f cdv))) :
    PSs (cxOf (L2.CX P w) P w K mg base ["self", "pair"] "Table.__contains__" (defScope s_Table_contains) f cdv A outer s H E) (defBody s_Table_contains) (t_Table_contains K (WD E)) :=
  (pss_one (ps_ret (pe_cmpR (opind hr.units65) (Ta.pv 1) (patt (Ta.pv 0)) rfl)))
/-! Table_pairs -/
theorem sc_Table_pairs : FnScope ["self"] ["self"] (defScope s_Table_pairs) := ⟨rfl, rfl, rfl, by decide +kernel, rfl, by decide +kernel, by decide +kernel⟩
structure sp_Table_pairs (K : PySem.W.Frag) (vs : List V) (H : Hp) (Q : VK) (E : XK) : Prop where
  out : ∃ (t A : Addr) (g : List Nat) (cols : List (List Nat)), vs = [.ref t] ∧ (tabAt K H t A g cols) ∧ (∀ p xs H', Kp [] H H' → H p = none → H' p = some (.lst xs) → Paired (pairP H') xs (prs g cols) → Q (.ref p) H')
theorem i_Table_pairs {K : PySem.W.Frag} {t A : Addr} {g : List Nat} {cols : List (List Nat)} {H : Hp} {Q : VK} {E : XK} (ht : tabAt K H t A g cols) (q1 : ∀ p xs H', Kp [] H H' → H p = none → H' p = some (.lst xs) → Paired (pairP H') xs (prs g cols) → Q (.ref p) H') : sp_Table_pairs K [.ref t] H Q E := by
  exact ⟨⟨t, A, g, cols, rfl, ht, q1⟩⟩
theorem d_Table_pairs {K : PySem.W.Frag} {vs : List V} {H : Hp} {Q : VK} {E : XK} (h : sp_Table_pairs K vs H Q E) : sp_Table_pairs K vs H Q E := h


def t_Table_pairs (K : PySem.W.Frag) (W : WX) : TS :=
  (tRet (tCB (zListX K) (tCons (tAt K (tV 0) "cells") tNil)))
theorem tm_Table_pairs {P : Program} {w : World} {K : PySem.W.Frag} {mg : Str → Option Value} {base : Heap} {f : Addr} {cdv : Value} {A : Around} {outer : List Env} {s : Shared} {H : Hp} {E : XK} (T : Tx K mg) (hr : Room 4 (A.deeper (envOfC "Table.pairs" (defScope s_Table_pairs) s.heap.objs.size f cdv))) :
    PSs (cxOf (L2.CX P w) P w K mg base ["self"] "Table.pairs" (defScope s_Table_pairs) f cdv A outer s H E) (defBody s_Table_pairs) (t_Table_pairs K (WD E)) :=
  (pss_one (ps_ret (pct (crlistX rfl) T.f_list (pa_cons (patt (Ta.pv 0)) pa_nil))))
/-! Table___len__ -/
theorem sc_Table_len : FnScope ["self"] ["self"] (defScope s_Table_len) := ⟨rfl, rfl, rfl, by decide +kernel, rfl, by decide +kernel, by decide +kernel⟩
structure sp_Table_len (K : PySem.W.Frag) (vs : List V) (H : Hp) (Q : VK) (E : XK) : Prop where
  out : ∃ (t A : Addr) (g : List Nat) (cols : List (List Nat)), vs = [.ref t] ∧ (tabAt K H t A g cols) ∧ ((prs g cols).length < 1000) ∧ (Q (.int (prs g cols).length) H)
theorem i_Table_len {K : PySem.W.Frag} {t A : Addr} {g : List Nat} {cols : List (List Nat)} {H : Hp} {Q : VK} {E : XK} (ht : tabAt K H t A g cols) (hn : (prs g cols).length < 1000) (q : Q (.int (prs g cols).length) H) : sp_Table_len K [.ref t] H Q E := by
  exact ⟨⟨t, A, g, cols, rfl, ht, hn, q⟩⟩
theorem d_Table_len {K : PySem.W.Frag} {vs : List V} {H : Hp} {Q : VK} {E : XK} (h : sp_Table_len K vs H Q E) : sp_Table_len K vs H Q E := h


def t_Table_len (K : PySem.W.Frag) (W : WX) : TS :=
  (tRet (tCB (zLen K) (tCons (tAt K (tV 0) "cells") tNil)))
theorem tm_Table_len {P : Program} {w : World} {K : PySem.W.Frag} {mg : Str → Option Value} {base : Heap} {f : Addr} {cdv : Value} {A : Around} {outer : List Env} {s : Shared} {H : Hp} {E : XK} (T : Tx K mg) (hr : Room 4 (A.deeper (envOfC "Table.__len__" (defScope s_Table_len) s.heap.objs.size f cdv))) :
    PSs (cxOf (L2.CX P w) P w K mg base ["self"] "Table.__len__" (defScope s_Table_len) f cdv A outer s H E) (defBody s_Table_len) (t_Table_len K (WD E)) :=
  (pss_one (ps_ret (pcb (crlen) T.f_len (pa_cons (patt (Ta.pv 0)) pa_nil))))
/-! Table___bool__ -/
theorem sc_Table_bool : FnScope ["self"] ["self"] (defScope s_Table_bool) := ⟨rfl, rfl, rfl, by decide +kernel, rfl, by decide +kernel, by decide +kernel⟩
structure sp_Table_bool (K : PySem.W.Frag) (vs : List V) (H : Hp) (Q : VK) (E : XK) : Prop where
  out : ∃ (t A : Addr) (g : List Nat) (cols : List (List Nat)), vs = [.ref t] ∧ (tabAt K H t A g cols) ∧ (Q (.bl (!(prs g cols).isEmpty)) H)
theorem i_Table_bool {K : PySem.W.Frag} {t A : Addr} {g : List Nat} {cols : List (List Nat)} {H : Hp} {Q : VK} {E : XK} (ht : tabAt K H t A g cols) (q : Q (.bl (!(prs g cols).isEmpty)) H) : sp_Table_bool K [.ref t] H Q E := by
  exact ⟨⟨t, A, g, cols, rfl, ht, q⟩⟩
theorem d_Table_bool {K : PySem.W.Frag} {vs : List V} {H : Hp} {Q : VK} {E : XK} (h : sp_Table_bool K vs H Q E) : sp_Table_bool K vs H Q E := h


def t_Table_bool (K : PySem.W.Frag) (W : WX) : TS :=
  (tRet (tCB (zBoolX K) (tCons (tAt K (tV 0) "cells") tNil)))
theorem tm_Table_bool {P : Program} {w : World} {K : PySem.W.Frag} {mg : Str → Option Value} {base : Heap} {f : Addr} {cdv : Value} {A : Around} {outer : List Env} {s : Shared} {H : Hp} {E : XK} (T : Tx K mg) (hr : Room 4 (A.deeper (envOfC "Table.__bool__" (defScope s_Table_bool) s.heap.objs.size f cdv))) :
    PSs (cxOf (L2.CX P w) P w K mg base ["self"] "Table.__bool__" (defScope s_Table_bool) f cdv A outer s H E) (defBody s_Table_bool) (t_Table_bool K (WD E)) :=
  (pss_one (ps_ret (pct (crboolX) T.f_bool (pa_cons (patt (Ta.pv 0)) pa_nil))))
/-! _law_truth -/
theorem sc_l_truth : FnScope ["_law_told", "_law_due"] ["_law_told", "_law_due"] (defScope s_l_truth) := ⟨rfl, rfl, rfl, by decide +kernel, rfl, by decide +kernel, by decide +kernel⟩
structure sp_l_truth (K : PySem.W.Frag) (vs : List V) (H : Hp) (Q : VK) (E : XK) : Prop where
  out : ∃ (a b : Bool), vs = [.bl a, .bl b] ∧ (Q (.bl (decide (a = b))) H)
theorem i_l_truth {K : PySem.W.Frag} {a b : Bool} {H : Hp} {Q : VK} {E : XK} (q : Q (.bl (decide (a = b))) H) : sp_l_truth K [.bl a, .bl b] H Q E := by
  exact ⟨⟨a, b, rfl, q⟩⟩
theorem d_l_truth {K : PySem.W.Frag} {vs : List V} {H : Hp} {Q : VK} {E : XK} (h : sp_l_truth K vs H Q E) : sp_l_truth K vs H Q E := h


def t_l_truth (K : PySem.W.Frag) (W : WX) : TS :=
  (tRet (tAndE K (tCB (zIsa K) (tCons (tV 0) (tCons (tC (.ty "bool")) tNil))) (tOp (zEqP K) (tV 0) (tV 1))))
theorem tm_l_truth {P : Program} {w : World} {K : PySem.W.Frag} {mg : Str → Option Value} {base : Heap} {f : Addr} {cdv : Value} {A : Around} {outer : List Env} {s : Shared} {H : Hp} {E : XK} (T : Tx K mg) (hr : Room 4 (A.deeper (envOfC "_law_truth" (defScope s_l_truth) s.heap.objs.size f cdv))) :
    PSs (cxOf (L2.CX P w) P w K mg base ["_law_told", "_law_due"] "_law_truth" (defScope s_l_truth) f cdv A outer s H E) (defBody s_l_truth) (t_l_truth K (WD E)) :=
  (pss_one (ps_ret (peand (pcb (crisa) T.f_isinstance (pa_cons (Ta.pv 0) (pa_cons (pbty T.f_bool) pa_nil))) (pe_one (pe_cmpR (opeq hr.units) (Ta.pv 0) (Ta.pv 1) rfl)))))
/-! Table_total -/
theorem sc_Table_total : FnScope ["self"] ["self"] (defScope s_Table_total) := ⟨rfl, rfl, rfl, by decide +kernel, rfl, by decide +kernel, by decide +kernel⟩
structure sp_Table_total (K : PySem.W.Frag) (vs : List V) (H : Hp) (Q : VK) (E : XK) : Prop where
  out : ∃ (t A : Addr) (g : List Nat) (cols : List (List Nat)), vs = [.ref t] ∧ (tabAt K H t A g cols) ∧ (Q (.bl (!decide ([] ∈ cols))) H)
theorem i_Table_total {K : PySem.W.Frag} {t A : Addr} {g : List Nat} {cols : List (List Nat)} {H : Hp} {Q : VK} {E : XK} (ht : tabAt K H t A g cols) (q : Q (.bl (!decide ([] ∈ cols))) H) : sp_Table_total K [.ref t] H Q E := by
  exact ⟨⟨t, A, g, cols, rfl, ht, q⟩⟩
theorem d_Table_total {K : PySem.W.Frag} {vs : List V} {H : Hp} {Q : VK} {E : XK} (h : sp_Table_total K vs H Q E) : sp_Table_total K vs H Q E := h


def t_Table_total (K : PySem.W.Frag) (W : WX) : TS :=
  (tRet (tOp (zNinP K) (tC (.str (S []))) (tAt K (tV 0) "columns")))
theorem tm_Table_total {P : Program} {w : World} {K : PySem.W.Frag} {mg : Str → Option Value} {base : Heap} {f : Addr} {cdv : Value} {A : Around} {outer : List Env} {s : Shared} {H : Hp} {E : XK} (T : Tx K mg) (hr : Room 4 (A.deeper (envOfC "Table.total" (defScope s_Table_total) s.heap.objs.size f cdv))) :
    PSs (cxOf (L2.CX P w) P w K mg base ["self"] "Table.total" (defScope s_Table_total) f cdv A outer s H E) (defBody s_Table_total) (t_Table_total K (WD E)) :=
  (pss_one (ps_ret (pe_cmpR opnin (pstr []) (patt (Ta.pv 0)) rfl)))
/-! Table_exact -/
theorem sc_Table_exact : FnScope ["self", "column"] ["self"] (defScope s_Table_exact) := ⟨rfl, rfl, rfl, by decide +kernel, rfl, by decide +kernel, by decide +kernel⟩
structure sp_Table_exact (K : PySem.W.Frag) (vs : List V) (H : Hp) (Q : VK) (E : XK) : Prop where
  out : ∃ (t A : Addr) (g : List Nat) (cols : List (List Nat)), vs = [.ref t] ∧ (tabAt K H t A g cols) ∧ (cols.length < 1000) ∧ (∀ t ∈ cols, t.length < 1000) ∧ (∀ H', Kp [] H H' → Q (.bl (cols.all fun t => decide ((t.length : Int) ≤ 1))) H')
theorem i_Table_exact {K : PySem.W.Frag} {t A : Addr} {g : List Nat} {cols : List (List Nat)} {H : Hp} {Q : VK} {E : XK} (ht : tabAt K H t A g cols) (hc : cols.length < 1000) (h1 : ∀ t ∈ cols, t.length < 1000) (q1 : ∀ H', Kp [] H H' → Q (.bl (cols.all fun t => decide ((t.length : Int) ≤ 1))) H') : sp_Table_exact K [.ref t] H Q E := by
  exact ⟨⟨t, A, g, cols, rfl, ht, hc, h1, q1⟩⟩
theorem d_Table_exact {K : PySem.W.Frag} {vs : List V} {H : Hp} {Q : VK} {E : XK} (h : sp_Table_exact K vs H Q E) : sp_Table_exact K vs H Q E := h


def t_Table_exact (K : PySem.W.Frag) (W : WX) : TS :=
  (tRet (tCB (zAllP K) (tCons (tLcP (jA K (tAt K (tV 0) "columns")) (gName 1) tYes (tOp zLe (tCB (zLen K) (tCons (tV 1) tNil)) (tC (.int 1))) [1]) tNil)))
theorem tm_Table_exact {P : Program} {w : World} {K : PySem.W.Frag} {mg : Str → Option Value} {base : Heap} {f : Addr} {cdv : Value} {A : Around} {outer : List Env} {s : Shared} {H : Hp} {E : XK} (T : Tx K mg) (hr : Room 4 (A.deeper (envOfC "Table.exact" (defScope s_Table_exact) s.heap.objs.size f cdv))) :
    PSs (cxOf (L2.CX P w) P w K mg base ["self", "column"] "Table.exact" (defScope s_Table_exact) f cdv A outer s H E) (defBody s_Table_exact) (t_Table_exact K (WD E)) :=
  (pss_one (ps_ret (pcb (crall rfl) T.f_all (pa_cons (plc [("column", 1)] rfl sc_Table_exact.nd (pja (patt (Ta.pv 0))) (by kernel_rfl) (fun _ _ _ _ _ => (pgn 1 sc_Table_exact.nd)) (fun _ _ _ _ _ => pts_nil) (fun _ _ _ _ _ => (pe_cmpR ople (pcb (crlen) T.f_len (pa_cons (Ta.pv 1) pa_nil)) pe_int rfl))) pa_nil))))
/-! written_entry -/
theorem sc_written_entry : FnScope ["sign", "column"] ["sign", "column"] (defScope s_written_entry) := ⟨rfl, rfl, rfl, by decide +kernel, rfl, by decide +kernel, by decide +kernel⟩
structure sp_written_entry (K : PySem.W.Frag) (vs : List V) (H : Hp) (Q : VK) (E : XK) : Prop where
  out : ∃ (c : Nat) (t : List Nat), vs = [.str (S [c]), .str (S t)] ∧ (t.length < 1000) ∧ (Q (.str (S (went c t))) H)
theorem i_written_entry {K : PySem.W.Frag} {c : Nat} {t : List Nat} {H : Hp} {Q : VK} {E : XK} (h1 : t.length < 1000) (q : Q (.str (S (went c t))) H) : sp_written_entry K [.str (S [c]), .str (S t)] H Q E := by
  exact ⟨⟨c, t, rfl, h1, q⟩⟩
theorem d_written_entry {K : PySem.W.Frag} {vs : List V} {H : Hp} {Q : VK} {E : XK} (h : sp_written_entry K vs H Q E) : sp_written_entry K vs H Q E := h


def t_written_entry (K : PySem.W.Frag) (W : WX) : TS :=
  (tSeq (tIfP (tTst (tOp (zEqP K) (tV 1) (tC (.str (S []))))) (tRet (tFstr [(tFv (tV 0)), (tC (.str (S [62, 46])))])) tNext)
  (tRet (tFstr [(tFv (tV 0)), (tC (.str (S [62]))), (tFv (tV 1))])))
theorem tm_written_entry {P : Program} {w : World} {K : PySem.W.Frag} {mg : Str → Option Value} {base : Heap} {f : Addr} {cdv : Value} {A : Around} {outer : List Env} {s : Shared} {H : Hp} {E : XK} (T : Tx K mg) (hr : Room 4 (A.deeper (envOfC "written_entry" (defScope s_written_entry) s.heap.objs.size f cdv))) :
    PSs (cxOf (L2.CX P w) P w K mg base ["sign", "column"] "written_entry" (defScope s_written_entry) f cdv A outer s H E) (defBody s_written_entry) (t_written_entry K (WD E)) :=
  (pss_cons (psif (ptcmp (opeq hr.units) (Ta.pv 1) (pstr [])) (pss_one (ps_ret (pfstr (PFs.cons (pfv (Ta.pv 0)) (PFs.cons (pstr [62, 46]) PFs.nil))))) pss_nil)
  (pss_one (ps_ret (pfstr (PFs.cons (pfv (Ta.pv 0)) (PFs.cons (pstr [62]) (PFs.cons (pfv (Ta.pv 1)) PFs.nil)))))))
/-! Table___str__ -/
theorem sc_Table_str : FnScope ["self", "sign", "column"] ["self"] (defScope s_Table_str) := ⟨rfl, rfl, rfl, by decide +kernel, rfl, by decide +kernel, by decide +kernel⟩
structure sp_Table_str (K : PySem.W.Frag) (vs : List V) (H : Hp) (Q : VK) (E : XK) : Prop where
  out : ∃ (t A dA : Addr) (l v : List Nat) (cols : List (List Nat)), vs = [.ref t] ∧ (tabAt K H t A (sg l) cols) ∧ (H A = some (alo K dA l v)) ∧ (good l v) ∧ (cols.length = (sg l).length) ∧ (∀ t ∈ cols, t.length < 1000) ∧ (∀ H', Kp [] H H' → Q (.str (S (TL.joinL [32] (wents (sg l) cols)))) H')
theorem i_Table_str {K : PySem.W.Frag} {t A dA : Addr} {l v : List Nat} {cols : List (List Nat)} {H : Hp} {Q : VK} {E : XK} (ht : tabAt K H t A (sg l) cols) (hA : H A = some (alo K dA l v)) (hl : good l v) (hn : cols.length = (sg l).length) (h1 : ∀ t ∈ cols, t.length < 1000) (q1 : ∀ H', Kp [] H H' → Q (.str (S (TL.joinL [32] (wents (sg l) cols)))) H') : sp_Table_str K [.ref t] H Q E := by
  exact ⟨⟨t, A, dA, l, v, cols, rfl, ht, hA, hl, hn, h1, q1⟩⟩
theorem d_Table_str {K : PySem.W.Frag} {vs : List V} {H : Hp} {Q : VK} {E : XK} (h : sp_Table_str K vs H Q E) : sp_Table_str K vs H Q E := h


def t_Table_str (K : PySem.W.Frag) (W : WX) : TS :=
  (tRet (tSM (zJoin K) (tC (.str (S [32]))) (tCons (tLcP (jZq (tCons (tAt K (tAt K (tV 0) "alphabet") "signs") (tCons (tAt K (tV 0) "columns") tNil))) (gTup K 2 (gCons (gName 1) (gCons (gName 2) gNil))) tYes (tCal (sp_written_entry K) [] WF (tCons (tV 1) (tCons (tV 2) tNil))) [1, 2]) tNil)))
theorem tm_Table_str {P : Program} {w : World} {K : PySem.W.Frag} {mg : Str → Option Value} {base : Heap} {f : Addr} {cdv : Value} {A : Around} {outer : List Env} {s : Shared} {H : Hp} {E : XK} (T : Tx K mg) (G_written_entry : Fn P w K mg base "written_entry" 5 [] (sp_written_entry K)) (hr : Room 6 (A.deeper (envOfC "Table.__str__" (defScope s_Table_str) s.heap.objs.size f cdv))) :
    PSs (cxOf (L2.CX P w) P w K mg base ["self", "sign", "column"] "Table.__str__" (defScope s_Table_str) f cdv A outer s H E) (defBody s_Table_str) (t_Table_str K (WD E)) :=
  (pss_one (ps_ret (psm PySem.F.slot_str_join PySem.F.type_str_join mtjoin (pstr [32]) (pa_cons (plc [("sign", 1), ("column", 2)] rfl sc_Table_str.nd (pjzq T.f_zip (pa_cons (patt (patt (Ta.pv 0))) (pa_cons (patt (Ta.pv 0)) pa_nil))) (by kernel_rfl) (fun _ _ _ _ _ => (pg_tup rfl (pgs_cons (pgn 1 sc_Table_str.nd) (pgs_cons (pgn 2 sc_Table_str.nd) pgs_nil)))) (fun _ _ _ _ _ => pts_nil) (fun _ _ _ _ _ => (pcall G_written_entry (hr.mono (by decide)) takes0 (pa_cons (Ta.pv 1) (pa_cons (Ta.pv 2) pa_nil))))) pa_nil))))
/-! _law_is -/
theorem sc_l_is : FnScope ["_law_table", "_law_signs_here", "_law_outs_here", "_law_rows", "_law_k", "_law_told", "_law_out", "_law_one", "_law_exact", "_law_row"] ["_law_table", "_law_signs_here", "_law_outs_here"] (defScope s_l_is) := ⟨rfl, rfl, rfl, by decide +kernel, rfl, by decide +kernel, by decide +kernel⟩
structure sp_l_is (K : PySem.W.Frag) (vs : List V) (H : Hp) (Q : VK) (E : XK) : Prop where
  out : ∃ (t A dA r : Addr) (l v : List Nat) (cols : List (List Nat)), vs = [.ref t, .str (S (sg l)), .ref r] ∧ (tabAt K H t A (sg l) cols) ∧ (H A = some (alo K dA l v)) ∧ (good l v) ∧ (H r = some (.lst (txs cols))) ∧ (okC (sg l) cols) ∧ (∀ H', Kp [] H H' → Q (.bl true) H')
theorem i_l_is {K : PySem.W.Frag} {t A dA r : Addr} {l v : List Nat} {cols : List (List Nat)} {H : Hp} {Q : VK} {E : XK} (ht : tabAt K H t A (sg l) cols) (hA : H A = some (alo K dA l v)) (hl : good l v) (hr : H r = some (.lst (txs cols))) (hc : okC (sg l) cols) (q1 : ∀ H', Kp [] H H' → Q (.bl true) H') : sp_l_is K [.ref t, .str (S (sg l)), .ref r] H Q E := by
  exact ⟨⟨t, A, dA, r, l, v, cols, rfl, ht, hA, hl, hr, hc, q1⟩⟩
theorem d_l_is {K : PySem.W.Frag} {vs : List V} {H : Hp} {Q : VK} {E : XK} (h : sp_l_is K vs H Q E) : sp_l_is K vs H Q E := h


def b_l_is_2 (K : PySem.W.Frag) (W : WX) : TS :=
  (tIfP (tTst (tOp (zNeP K) (tOp (zInO (He.ga K "Table") (sp_Table_contains K)) (tTup (tCons (tOp (zIxP K) (tV 1) (tV 4)) (tCons (tV 6) tNil))) (tV 0)) (tOp (zInP K) (tV 6) (tOp (zIxP K) (tV 2) (tV 4))))) (tRet (tC (.bl false))) tNext)
def b_l_is_1 (K : PySem.W.Frag) (W : WX) : TS :=
  (tSeq (tAsg (tSubO (He.ga K "Table") (sp_Table_getitem K) W (tV 0) (tOp (zIxP K) (tV 1) (tV 4))) (gName 5))
  (tSeq (tIfP (tOrP (tNot (tTru K (tCB (zIsa K) (tCons (tV 5) (tCons (tC (.ty "str")) tNil))))) (tTst (tOp (zNeP K) (tV 5) (tOp (zIxP K) (tV 2) (tV 4))))) (tRet (tC (.bl false))) tNext)
  (tSeq (tAsg (tOp zAdd (tV 3) (tLcP (jA K (tOp (zIxP K) (tV 2) (tV 4))) (gName 6) tYes (tTup (tCons (tOp (zIxP K) (tV 1) (tV 4)) (tCons (tV 6) tNil))) [6])) (gName 3))
  (tForP (jA K (tV 1)) (gName 6) (b_l_is_2 K W)))))
def t_l_is (K : PySem.W.Frag) (W : WX) : TS :=
  (tSeq (tIfP (tNot (tTru K (tCB (zIsa K) (tCons (tV 0) (tCons (tC (.ref (He.ga K "Table"))) tNil))))) (tRet (tC (.bl false))) tNext)
  (tSeq (tAsg (tLst tNil) (gName 3))
  (tSeq (tForP (jR1 (tCons (tCB (zLen K) (tCons (tV 1) tNil)) tNil)) (gName 4) (b_l_is_1 K W))
  (tSeq (tAsg (tMe [(He.ga K "Table", [], sp_Table_pairs K)] "pairs" W (tV 0) tNil) (gName 5))
  (tSeq (tIfP (tOrP (tNot (tTru K (tCB (zIsa K) (tCons (tV 5) (tCons (tC (.ty "list")) tNil))))) (tOrP (tTst (tOp (zNeP K) (tCB (zLen K) (tCons (tLcP (jA K (tV 5)) (gName 7) (tTru K (tCB (zIsa K) (tCons (tV 7) (tCons (tC (.ty "tuple")) tNil)))) (tV 7) [7]) tNil)) (tCB (zLen K) (tCons (tV 5) tNil)))) (tTst (tOp (zNeP K) (tV 5) (tV 3))))) (tRet (tC (.bl false))) tNext)
  (tSeq (tIfP (tOrP (tNot (tTru K (tCal (sp_l_integer K) [] W (tCons (tCB (zLenO (He.ga K "Table") (sp_Table_len K)) (tCons (tV 0) tNil)) tNil)))) (tOrP (tTst (tOp (zNeP K) (tCB (zLenO (He.ga K "Table") (sp_Table_len K)) (tCons (tV 0) tNil)) (tCB (zLen K) (tCons (tV 3) tNil)))) (tTst (tOp (zNeP K) (tCB (zBoolO (He.ga K "Table") (sp_Table_bool K)) (tCons (tV 0) tNil)) (tOp zGt (tCB (zLen K) (tCons (tV 3) tNil)) (tC (.int 0))))))) (tRet (tC (.bl false))) tNext)
  (tSeq (tAsg (tOp (zEqP K) (tLcP (jA K (tV 2)) (gName 9) (tTst (tOp zGt (tCB (zLen K) (tCons (tV 9) tNil)) (tC (.int 1)))) (tV 9) [9]) (tLst tNil)) (gName 8))
  (tSeq (tIfP (tOrP (tNot (tTru K (tCal (sp_l_truth K) [] W (tCons (tPrp (He.ga K "Table") (sp_Table_total K) (tV 0)) (tCons (tOp (zNinP K) (tC (.str (S []))) (tV 2)) tNil))))) (tNot (tTru K (tCal (sp_l_truth K) [] W (tCons (tPrp (He.ga K "Table") (sp_Table_exact K) (tV 0)) (tCons (tV 8) tNil)))))) (tRet (tC (.bl false))) tNext)
  (tRet (tOp (zEqP K) (tCB (zStrO (He.ga K "Table") (sp_Table_str K)) (tCons (tV 0) tNil)) (tSM (zJoin K) (tC (.str (S [32]))) (tCons (tCal (sp_l_written K) [] W (tCons (tV 1) (tCons (tV 2) tNil))) tNil))))))))))))
theorem tm_l_is {P : Program} {w : World} {K : PySem.W.Frag} {mg : Str → Option Value} {base : Heap} {f : Addr} {cdv : Value} {A : Around} {outer : List Env} {s : Shared} {H : Hp} {E : XK} (T : Tx K mg) (G_Table___bool__ : Me P w K mg base (He.ga K "Table") "__bool__" 5 [] (sp_Table_bool K)) (G_Table___contains__ : Me P w K mg base (He.ga K "Table") "__contains__" 5 [] (sp_Table_contains K)) (G_Table___getitem__ : Me P w K mg base (He.ga K "Table") "__getitem__" 9 [] (sp_Table_getitem K)) (G_Table___len__ : Me P w K mg base (He.ga K "Table") "__len__" 5 [] (sp_Table_len K)) (G_Table___str__ : Me P w K mg base (He.ga K "Table") "__str__" 7 [] (sp_Table_str K)) (G_Table_exact : Pr P w K mg base (He.ga K "Table") "exact" 5 (sp_Table_exact K)) (G_Table_pairs : Me P w K mg base (He.ga K "Table") "pairs" 5 [] (sp_Table_pairs K)) (G_Table_total : Pr P w K mg base (He.ga K "Table") "total" 5 (sp_Table_total K)) (G_l_integer : Fn P w K mg base "_law_integer" 5 [] (sp_l_integer K)) (G_l_truth : Fn P w K mg base "_law_truth" 5 [] (sp_l_truth K)) (G_l_written : Fn P w K mg base "_law_written" 5 [] (sp_l_written K)) (hr : Room 11 (A.deeper (envOfC "_law_is" (defScope s_l_is) s.heap.objs.size f cdv))) :
    PSs (cxOf (L2.CX P w) P w K mg base ["_law_table", "_law_signs_here", "_law_outs_here", "_law_rows", "_law_k", "_law_told", "_law_out", "_law_one", "_law_exact", "_law_row"] "_law_is" (defScope s_l_is) f cdv A outer s H E) (defBody s_l_is) (t_l_is K (WD E)) :=
  (pss_cons (psif (pt_not (ptru (pcb (crisa) T.f_isinstance (pa_cons (Ta.pv 0) (pa_cons (pglo T.v_Table) pa_nil))))) (pss_one (ps_ret pe_bl)) pss_nil)
  (pss_cons (pset 3 sc_l_is.nd (pe_lst pa_nil))
  (pss_cons (psfor ownD rfl (pjr1 T.f_range (pa_cons (pcb (crlen) T.f_len (pa_cons (Ta.pv 1) pa_nil)) pa_nil)) (pgn 4 sc_l_is.nd) (pss_cons (pset 5 sc_l_is.nd (psubO G_Table___getitem__ T.fm_Table___getitem__ (hr.mono (by decide)) takesD (Ta.pv 0) (pix (Ta.pv 1) (Ta.pv 4))))
  (pss_cons (psif (PW.pt (pwor (pt_not (ptru (pcb (crisa) T.f_isinstance (pa_cons (Ta.pv 5) (pa_cons (pbty T.f_str) pa_nil))))) (pw_or1 (ptcmp (opne hr.units) (Ta.pv 5) (pix (Ta.pv 2) (Ta.pv 4)))))) (pss_one (ps_ret pe_bl)) pss_nil)
  (pss_cons (pset 3 sc_l_is.nd (pe_op opadd (Ta.pv 3) (plc [("_law_out", 6)] rfl sc_l_is.nd (pja (pix (Ta.pv 2) (Ta.pv 4))) (by kernel_rfl) (fun _ _ _ _ _ => (pgn 6 sc_l_is.nd)) (fun _ _ _ _ _ => pts_nil) (fun _ _ _ _ _ => (pe_tup (pa_cons (pix (Ta.pv 1) (Ta.pv 4)) (pa_cons (Ta.pv 6) pa_nil)))))))
  (pss_one (psfor ownD rfl (pja (Ta.pv 1)) (pgn 6 sc_l_is.nd) (pss_one (psif (ptcmp (opne hr.units) (pe_cmpR (opinO G_Table___contains__ (hr.mono (by decide))) (pe_tup (pa_cons (pix (Ta.pv 1) (Ta.pv 4)) (pa_cons (Ta.pv 6) pa_nil))) (Ta.pv 0) rfl) (pe_cmpR opin (Ta.pv 6) (pix (Ta.pv 2) (Ta.pv 4)) rfl)) (pss_one (ps_ret pe_bl)) pss_nil))))))))
  (pss_cons (pset 5 sc_l_is.nd (pmeth0 (ms := [(He.ga K "Table", [], sp_Table_pairs K)]) (fun e he => by obtain rfl := List.mem_singleton.mp he; exact G_Table_pairs) (hr.mono (by decide)) takesD (Ta.pv 0)))
  (pss_cons (psif (PW.pt (pwor (pt_not (ptru (pcb (crisa) T.f_isinstance (pa_cons (Ta.pv 5) (pa_cons (pbty T.f_list) pa_nil))))) (pwor (ptcmp (opne hr.units) (pcb (crlen) T.f_len (pa_cons (plc [("_law_one", 7)] rfl sc_l_is.nd (pja (Ta.pv 5)) (by kernel_rfl) (fun _ _ _ _ _ => (pgn 7 sc_l_is.nd)) (fun _ _ _ _ _ => (pts_one (ptru (pcb (crisa) T.f_isinstance (pa_cons (Ta.pv 7) (pa_cons (pbty T.f_tuple) pa_nil)))))) (fun _ _ _ _ _ => (Ta.pv 7))) pa_nil)) (pcb (crlen) T.f_len (pa_cons (Ta.pv 5) pa_nil))) (pw_or1 (ptcmp (opne hr.units) (Ta.pv 5) (Ta.pv 3)))))) (pss_one (ps_ret pe_bl)) pss_nil)
  (pss_cons (psif (PW.pt (pwor (pt_not (ptru (pcall G_l_integer (hr.mono (by decide)) takesD (pa_cons (pcb (crlenO G_Table___len__ (hr.mono (by decide))) T.f_len (pa_cons (Ta.pv 0) pa_nil)) pa_nil)))) (pwor (ptcmp (opne hr.units) (pcb (crlenO G_Table___len__ (hr.mono (by decide))) T.f_len (pa_cons (Ta.pv 0) pa_nil)) (pcb (crlen) T.f_len (pa_cons (Ta.pv 3) pa_nil))) (pw_or1 (ptcmp (opne hr.units) (pct (crboolO G_Table___bool__ (hr.mono (by decide))) T.f_bool (pa_cons (Ta.pv 0) pa_nil)) (pe_cmpR opgt (pcb (crlen) T.f_len (pa_cons (Ta.pv 3) pa_nil)) pe_int rfl)))))) (pss_one (ps_ret pe_bl)) pss_nil)
  (pss_cons (pset 8 sc_l_is.nd (pe_cmpR (opeq hr.units) (plc [("_law_row", 9)] rfl sc_l_is.nd (pja (Ta.pv 2)) (by kernel_rfl) (fun _ _ _ _ _ => (pgn 9 sc_l_is.nd)) (fun _ _ _ _ _ => (pts_one (ptcmp opgt (pcb (crlen) T.f_len (pa_cons (Ta.pv 9) pa_nil)) pe_int))) (fun _ _ _ _ _ => (Ta.pv 9))) (pe_lst pa_nil) rfl))
  (pss_cons (psif (PW.pt (pwor (pt_not (ptru (pcall G_l_truth (hr.mono (by decide)) takesD (pa_cons (pprp G_Table_total (hr.mono (by decide)) (Ta.pv 0)) (pa_cons (pe_cmpR opnin (pstr []) (Ta.pv 2) rfl) pa_nil))))) (pw_or1 (pt_not (ptru (pcall G_l_truth (hr.mono (by decide)) takesD (pa_cons (pprp G_Table_exact (hr.mono (by decide)) (Ta.pv 0)) (pa_cons (Ta.pv 8) pa_nil)))))))) (pss_one (ps_ret pe_bl)) pss_nil)
  (pss_one (ps_ret (pe_cmpR (opeq hr.units) (pct (crstrO G_Table___str__ (hr.mono (by decide))) T.f_str (pa_cons (Ta.pv 0) pa_nil)) (psm PySem.F.slot_str_join PySem.F.type_str_join mtjoin (pstr [32]) (pa_cons (pcall G_l_written (hr.mono (by decide)) takesD (pa_cons (Ta.pv 1) (pa_cons (Ta.pv 2) pa_nil))) pa_nil)) rfl)))))))))))
/-! _law_reads -/
theorem sc_l_reads : FnScope ["_law_alphabet", "_law_signs_here", "_law_written_here", "_law_entries", "_law_due", "_law_told", "e", "_law_entry"] ["_law_alphabet", "_law_signs_here", "_law_written_here"] (defScope s_l_reads) := ⟨rfl, rfl, rfl, by decide +kernel, rfl, by decide +kernel, by decide +kernel⟩
structure sp_l_reads (K : PySem.W.Frag) (vs : List V) (H : Hp) (Q : VK) (E : XK) : Prop where
  out : ∃ (A dA : Addr) (l v w : List Nat), vs = [.ref A, .str (S (sg l)), .str (S w)] ∧ (H A = some (alo K dA l v)) ∧ (good l v) ∧ (w.length < 10000) ∧ (∀ H', Kp [] H H' → Q (.bl true) H')
theorem i_l_reads {K : PySem.W.Frag} {A dA : Addr} {l v w : List Nat} {H : Hp} {Q : VK} {E : XK} (hA : H A = some (alo K dA l v)) (hl : good l v) (hw : w.length < 10000) (q1 : ∀ H', Kp [] H H' → Q (.bl true) H') : sp_l_reads K [.ref A, .str (S (sg l)), .str (S w)] H Q E := by
  exact ⟨⟨A, dA, l, v, w, rfl, hA, hl, hw, q1⟩⟩
theorem d_l_reads {K : PySem.W.Frag} {vs : List V} {H : Hp} {Q : VK} {E : XK} (h : sp_l_reads K vs H Q E) : sp_l_reads K vs H Q E := h


def t_l_reads (K : PySem.W.Frag) (W : WX) : TS :=
  (tSeq (tAsg (tSM (zSplit) (tV 2) (tCons (tC (.str (S [32]))) tNil)) (gName 3))
  (tSeq (tAsg (tCal (sp_l_index K) [] W (tCons (tV 3) (tCons (tV 1) tNil))) (gName 4))
  (tSeq (fun D0 σ0 H0 => (fun (W1 : WX) => (tAsg (tCme (He.ga K "Table") (sp_Table_read K) [] W1 (tC (.ref (He.ga K "Table"))) (tCons (tV 0) (tCons (tV 2) tNil))) (gName 5))) (wAs K (.ref (He.ga K "BadEntry")) 6 (fun a cls d => (tSeq (tIfP (tOrP (tNot (tTru K (tCB (zIsX K a cls d) (tCons (tV 6) (tCons (tC (.ref (He.ga K "TaleError"))) tNil))))) (tOrP (tNot (tTru K (tCB (zIsX K a cls d) (tCons (tV 6) (tCons (tC (.ty "ValueError")) tNil))))) (tTru K (tCB (zIsX K a cls d) (tCons (tV 6) (tCons (tC (.ref (He.ga K "BadPair"))) tNil)))))) (tRet (tC (.bl false))) tNext)
  (tRet (tAndE K (tCal (sp_l_integer K) [] WF (tCons (tXat K a cls d "index" (tV 6)) tNil)) (tOp (zEqP K) (tXat K a cls d "index" (tV 6)) (tV 4)))))) W D0) D0 σ0 H0)
  (tRet (tAndE K (tOp (zEqP K) (tV 4) (tUn zNeg (tC (.int 1)))) (tCal (sp_l_is K) [] W (tCons (tV 5) (tCons (tV 1) (tCons (tLcP (jA K (tV 3)) (gName 7) tYes (tRpK 46 (tSl (zSlP K) (tV 7) (tPrt (tC (.int 2))) tNoPart)) [7]) tNil)))))))))
theorem tm_l_reads {P : Program} {w : World} {K : PySem.W.Frag} {mg : Str → Option Value} {base : Heap} {f : Addr} {cdv : Value} {A : Around} {outer : List Env} {s : Shared} {H : Hp} {E : XK} (T : Tx K mg) (GQ_l_integer : FnQu P w K mg base "_law_integer" 5 (sp_l_integer K)) (G_Table_read : Cmt P w K mg base (He.ga K "Table") "read" 9 [] (sp_Table_read K)) (G_l_index : Fn P w K mg base "_law_index" 7 [] (sp_l_index K)) (G_l_is : Fn P w K mg base "_law_is" 12 [] (sp_l_is K)) (hr : Room 13 (A.deeper (envOfC "_law_reads" (defScope s_l_reads) s.heap.objs.size f cdv))) :
    PSs (cxOf (L2.CX P w) P w K mg base ["_law_alphabet", "_law_signs_here", "_law_written_here", "_law_entries", "_law_due", "_law_told", "e", "_law_entry"] "_law_reads" (defScope s_l_reads) f cdv A outer s H E) (defBody s_l_reads) (t_l_reads K (WD E)) :=
  (pss_cons (pset 3 sc_l_reads.nd (psm PySem.F.slot_str_split PySem.F.type_str_split mtsplit (Ta.pv 2) (pa_cons (pstr [32]) pa_nil)))
  (pss_cons (pset 4 sc_l_reads.nd (pcall G_l_index (hr.mono (by decide)) takesD (pa_cons (Ta.pv 3) (pa_cons (Ta.pv 1) pa_nil))))
  (pss_cons (ps_try_as (i := 6) rfl rfl sc_l_reads.nd rfl rfl (names_of T.v_BadEntry) takesD (tb := fun W1 => (tAsg (tCme (He.ga K "Table") (sp_Table_read K) [] W1 (tC (.ref (He.ga K "Table"))) (tCons (tV 0) (tCons (tV 2) tNil))) (gName 5))) (ts := fun a cls d => (tSeq (tIfP (tOrP (tNot (tTru K (tCB (zIsX K a cls d) (tCons (tV 6) (tCons (tC (.ref (He.ga K "TaleError"))) tNil))))) (tOrP (tNot (tTru K (tCB (zIsX K a cls d) (tCons (tV 6) (tCons (tC (.ty "ValueError")) tNil))))) (tTru K (tCB (zIsX K a cls d) (tCons (tV 6) (tCons (tC (.ref (He.ga K "BadPair"))) tNil)))))) (tRet (tC (.bl false))) tNext)
  (tRet (tAndE K (tCal (sp_l_integer K) [] WF (tCons (tXat K a cls d "index" (tV 6)) tNil)) (tOp (zEqP K) (tXat K a cls d "index" (tV 6)) (tV 4)))))) (fun W1 pn xe tk1 _ => (pss_one (pset 5 sc_l_reads.nd (pcme G_Table_read (hr.mono (by decide)) tk1 (pglo T.v_Table) (pa_cons (Ta.pv 0) (pa_cons (Ta.pv 2) pa_nil)))))) (fun a oe cls d pn hz hf => (pss_cons (psif (PW.pt (pwor (pt_not (ptru (pcb (crisx hz hf) T.f_isinstance (pa_cons (Ta.pv 6) (pa_cons (pglo T.v_TaleError) pa_nil))))) (pwor (pt_not (ptru (pcb (crisx hz hf) T.f_isinstance (pa_cons (Ta.pv 6) (pa_cons (pbty T.f_ValueError) pa_nil))))) (pw_or1 (ptru (pcb (crisx hz hf) T.f_isinstance (pa_cons (Ta.pv 6) (pa_cons (pglo T.v_BadPair) pa_nil)))))))) (pss_one (ps_ret pe_bl)) pss_nil)
  (pss_one (ps_ret (peand (pcallQ GQ_l_integer (roomQ hr (by decide)) ⟨_, List.mem_cons_self⟩ takes0 (pa_cons (pxat hz hf (Ta.pv 6)) pa_nil)) (pe_one (pe_cmpR (opeq hr.units) (pxat hz hf (Ta.pv 6)) (Ta.pv 4) rfl))))))))
  (pss_one (ps_ret (peand (pe_cmpR (opeq hr.units) (Ta.pv 4) (pe_un unneg pe_int) rfl) (pe_one (pcall G_l_is (hr.mono (by decide)) takesD (pa_cons (Ta.pv 5) (pa_cons (Ta.pv 1) (pa_cons (plc [("_law_entry", 7)] rfl sc_l_reads.nd (pja (Ta.pv 3)) (by kernel_rfl) (fun _ _ _ _ _ => (pgn 7 sc_l_reads.nd)) (fun _ _ _ _ _ => pts_nil) (fun _ _ _ _ _ => (prepK (psl1 (Ta.pv 7) po_none)))) pa_nil)))))))))))
/-! _law_take -/
theorem sc_l_take : FnScope ["_law_bag_here", "_law_size", "_law_left", "_law_cell"] ["_law_bag_here", "_law_size"] (defScope s_l_take) := ⟨rfl, rfl, rfl, by decide +kernel, rfl, by decide +kernel, by decide +kernel⟩
structure sp_l_take (K : PySem.W.Frag) (vs : List V) (H : Hp) (Q : VK) (E : XK) : Prop where
  out : ∃ (b g s : Addr) (n z : Int), vs = [.ref b, .int z] ∧ (bx H b g s n) ∧ (n < 900000) ∧ (0 < z ∧ z ≤ 1000000000000000000000000000000) ∧ (∀ r H', 0 ≤ r → r < z → Kp [b, g] H H' → bx H' b g s (n + 1) → Q (.int r) H')
theorem i_l_take {K : PySem.W.Frag} {b g s : Addr} {n z : Int} {H : Hp} {Q : VK} {E : XK} (hb : bx H b g s n) (hk : n < 900000) (hz : 0 < z ∧ z ≤ 1000000000000000000000000000000) (q1 : ∀ r H', 0 ≤ r → r < z → Kp [b, g] H H' → bx H' b g s (n + 1) → Q (.int r) H') : sp_l_take K [.ref b, .int z] H Q E := by
  exact ⟨⟨b, g, s, n, z, rfl, hb, hk, hz, q1⟩⟩
theorem d_l_take {K : PySem.W.Frag} {vs : List V} {H : Hp} {Q : VK} {E : XK} (h : sp_l_take K vs H Q E) : sp_l_take K vs H Q E := h


def t_l_take (K : PySem.W.Frag) (W : WX) : TS :=
  (tSeq (tAsg (tOp zAdd (tOp (zIxP K) (tV 0) (tC (.int 2))) (tC (.int 1))) (gSub (tV 0) (tC (.int 2)) zSetP))
  (tSeq (tIfP (tTst (tOp zGt (tCB (zLen K) (tCons (tOp (zIxP K) (tV 0) (tC (.int 0))) tNil)) (tC (.int 0)))) (tSeq (tAsg (tCB (zInt) (tCons (tOp (zIxP K) (tOp (zIxP K) (tV 0) (tC (.int 0))) (tC (.int 0))) tNil)) (gName 2))
  (tSeq (tAsg (tOp zDivW (tV 2) (tV 1)) (gSub (tOp (zIxP K) (tV 0) (tC (.int 0))) (tC (.int 0)) zSetP))
  (tSeq (tIfP (tTst (tOp (zEqP K) (tOp zDivW (tV 2) (tV 1)) (tC (.int 0)))) (tDrop (tLM zPopAtP (tOp (zIxP K) (tV 0) (tC (.int 0))) (tCons (tC (.int 0)) tNil))) tNext)
  (tRet (tOp zMod (tCB (zInt) (tCons (tV 2) tNil)) (tV 1)))))) tNext)
  (tSeq (tIfP (tTst (tOp (zEqP K) (tCB (zLen K) (tCons (tOp (zIxP K) (tV 0) (tC (.int 1))) tNil)) (tC (.int 0)))) (tRet (tOp zMod (tCB (zInt) (tCons (tOp (zIxP K) (tV 0) (tC (.int 2))) tNil)) (tV 1))) tNext)
  (tSeq (tAsg (tOp (zIxP K) (tOp (zIxP K) (tV 0) (tC (.int 1))) (tOp zMod (tCB (zInt) (tCons (tOp (zIxP K) (tV 0) (tC (.int 2))) tNil)) (tCB (zLen K) (tCons (tOp (zIxP K) (tV 0) (tC (.int 1))) tNil)))) (gName 3))
  (tSeq (tAsg (tOp zMod (tCB (zInt) (tCons (tOp zAdd (tOp zAdd (tOp zMul (tCB (zInt) (tCons (tOp (zIxP K) (tV 0) (tC (.int 3))) tNil)) (tC (.int 48271))) (tV 3)) (tOp (zIxP K) (tV 0) (tC (.int 2)))) tNil)) (tC (.int 2147483647))) (gSub (tV 0) (tC (.int 3)) zSetP))
  (tRet (tOp zMod (tOp zDivW (tOp zMod (tCB (zInt) (tCons (tOp zAdd (tOp zMul (tCB (zInt) (tCons (tOp (zIxP K) (tV 0) (tC (.int 3))) tNil)) (tC (.int 69621))) (tOp zMul (tOp (zIxP K) (tV 0) (tC (.int 2))) (tC (.int 7919)))) tNil)) (tC (.int 1000000007))) (tC (.int 16))) (tV 1))))))))
theorem tm_l_take {P : Program} {w : World} {K : PySem.W.Frag} {mg : Str → Option Value} {base : Heap} {f : Addr} {cdv : Value} {A : Around} {outer : List Env} {s : Shared} {H : Hp} {E : XK} (T : Tx K mg) (hr : Room 4 (A.deeper (envOfC "_law_take" (defScope s_l_take) s.heap.objs.size f cdv))) :
    PSs (cxOf (L2.CX P w) P w K mg base ["_law_bag_here", "_law_size", "_law_left", "_law_cell"] "_law_take" (defScope s_l_take) f cdv A outer s H E) (defBody s_l_take) (t_l_take K (WD E)) :=
  (pss_cons (psub (pe_op opadd (pix (Ta.pv 0) pe_int) pe_int) (Ta.pv 0) pe_int)
  (pss_cons (psif (ptcmp opgt (pcb (crlen) T.f_len (pa_cons (pix (Ta.pv 0) pe_int) pa_nil)) pe_int) (pss_cons (pset 2 sc_l_take.nd (pct (crint) T.f_int (pa_cons (pix (pix (Ta.pv 0) pe_int) pe_int) pa_nil)))
  (pss_cons (psub (pe_op opdivW (Ta.pv 2) (Ta.pv 1)) (pix (Ta.pv 0) pe_int) pe_int)
  (pss_cons (psif (ptcmp (opeq hr.units) (pe_op opdivW (Ta.pv 2) (Ta.pv 1)) pe_int) (pss_one (ps_expr (plm PySem.F.slot_list_pop PySem.F.type_list_pop mtpopat (pix (Ta.pv 0) pe_int) (pa_cons pe_int pa_nil)))) pss_nil)
  (pss_one (ps_ret (pe_op opmod (pct (crint) T.f_int (pa_cons (Ta.pv 2) pa_nil)) (Ta.pv 1))))))) pss_nil)
  (pss_cons (psif (ptcmp (opeq hr.units) (pcb (crlen) T.f_len (pa_cons (pix (Ta.pv 0) pe_int) pa_nil)) pe_int) (pss_one (ps_ret (pe_op opmod (pct (crint) T.f_int (pa_cons (pix (Ta.pv 0) pe_int) pa_nil)) (Ta.pv 1)))) pss_nil)
  (pss_cons (pset 3 sc_l_take.nd (pix (pix (Ta.pv 0) pe_int) (pe_op opmod (pct (crint) T.f_int (pa_cons (pix (Ta.pv 0) pe_int) pa_nil)) (pcb (crlen) T.f_len (pa_cons (pix (Ta.pv 0) pe_int) pa_nil)))))
  (pss_cons (psub (pe_op opmod (pct (crint) T.f_int (pa_cons (pe_op opadd (pe_op opadd (pe_op opmul (pct (crint) T.f_int (pa_cons (pix (Ta.pv 0) pe_int) pa_nil)) pe_int) (Ta.pv 3)) (pix (Ta.pv 0) pe_int)) pa_nil)) pe_int) (Ta.pv 0) pe_int)
  (pss_one (ps_ret (pe_op opmod (pe_op opdivW (pe_op opmod (pct (crint) T.f_int (pa_cons (pe_op opadd (pe_op opmul (pct (crint) T.f_int (pa_cons (pix (Ta.pv 0) pe_int) pa_nil)) pe_int) (pe_op opmul (pix (Ta.pv 0) pe_int) pe_int)) pa_nil)) pe_int) pe_int) (Ta.pv 1)))))))))
/-! _law_changed -/
theorem sc_l_changed : FnScope ["_law_bag_here", "_law_change", "_law_entries", "_law_signs_here", "_law_at", "_law_rest", "_law_one", "_law_other", "_law_head", "_law_tail", "_law_menu", "_law_rows", "_law_lists"] ["_law_bag_here", "_law_change", "_law_entries", "_law_signs_here"] (defScope s_l_changed) := ⟨rfl, rfl, rfl, by decide +kernel, rfl, by decide +kernel, by decide +kernel⟩
structure sp_l_changed (K : PySem.W.Frag) (vs : List V) (H : Hp) (Q : VK) (E : XK) : Prop where
  out : ∃ (b g s r : Addr) (n c : Int) (G : List Nat) (ss : List (List Nat)), vs = [.ref b, .int c, .ref r, .str (S G)] ∧ (bx H b g s n) ∧ (n < 800000) ∧ (0 ≤ c ∧ c < 24) ∧ (H r = some (.lst (txs ss))) ∧ (r ≠ b ∧ r ≠ g) ∧ (2 ≤ G.length ∧ G.length ≤ 5) ∧ (ss.length = G.length) ∧ (∀ t ∈ ss, 3 ≤ t.length ∧ t.length ≤ 10) ∧ (∀ p ss' H', ss'.length ≤ 12 → (∀ t ∈ ss', t.length ≤ 100) → Kp [b, g] H H' → bx H' b g s (n + 2) → H' p = some (.lst (txs ss')) → Q (.ref p) H')
theorem i_l_changed {K : PySem.W.Frag} {b g s r : Addr} {n c : Int} {G : List Nat} {ss : List (List Nat)} {H : Hp} {Q : VK} {E : XK} (hb : bx H b g s n) (hk : n < 800000) (hc : 0 ≤ c ∧ c < 24) (hr : H r = some (.lst (txs ss))) (hrb : r ≠ b ∧ r ≠ g) (hG : 2 ≤ G.length ∧ G.length ≤ 5) (hn : ss.length = G.length) (h1 : ∀ t ∈ ss, 3 ≤ t.length ∧ t.length ≤ 10) (q1 : ∀ p ss' H', ss'.length ≤ 12 → (∀ t ∈ ss', t.length ≤ 100) → Kp [b, g] H H' → bx H' b g s (n + 2) → H' p = some (.lst (txs ss')) → Q (.ref p) H') : sp_l_changed K [.ref b, .int c, .ref r, .str (S G)] H Q E := by
  exact ⟨⟨b, g, s, r, n, c, G, ss, rfl, hb, hk, hc, hr, hrb, hG, hn, h1, q1⟩⟩
theorem d_l_changed {K : PySem.W.Frag} {vs : List V} {H : Hp} {Q : VK} {E : XK} (h : sp_l_changed K vs H Q E) : sp_l_changed K vs H Q E := h


structure t_l_changed_11 (K : PySem.W.Frag) (W : WX) (D : Ends) (σ : L2.St) (H : Hp) : Prop where
  out : (tRet (tIfE (tTst (tOp zLt (tV 1) (tC (.int 15)))) (tV 11) (tOp (zIxP K) (tV 12) (tOp zSub (tV 1) (tC (.int 15)))))) D σ H
structure t_l_changed_10 (K : PySem.W.Frag) (W : WX) (D : Ends) (σ : L2.St) (H : Hp) : Prop where
  out : (tSeq (tAsg (tOp zAdd (tV 12) (tLst (tCons (tOp zAdd (tV 2) (tLst (tCons (tOp (zIxP K) (tV 2) (tV 4)) tNil))) (tCons (tOp zAdd (tSl (zSlP K) (tV 2) tNoPart (tPrt (tV 4))) (tSl (zSlP K) (tV 2) (tPrt (tOp zAdd (tV 4) (tC (.int 1)))) tNoPart)) (tCons (tRev (tV 2)) tNil))))) (gName 12))
  (t_l_changed_11 K W)) D σ H
structure t_l_changed_9 (K : PySem.W.Frag) (W : WX) (D : Ends) (σ : L2.St) (H : Hp) : Prop where
  out : (tSeq (tAsg (tLst (tCons (tSl (zSlP K) (tV 2) tNoPart (tPrt (tUn zNeg (tC (.int 1))))) (tCons (tSl (zSlP K) (tV 2) (tPrt (tC (.int 1))) tNoPart) (tCons (tLst (tCons (tC (.str (S []))) tNil)) (tCons (tOp zAdd (tV 2) (tLst (tCons (tC (.str (S []))) tNil))) (tCons (tOp zAdd (tLst (tCons (tC (.str (S []))) tNil)) (tV 2)) (tCons (tOp zAdd (tOp zAdd (tSl (zSlP K) (tV 2) tNoPart (tPrt (tV 4))) (tLst (tCons (tC (.str (S []))) tNil))) (tSl (zSlP K) (tV 2) (tPrt (tV 4)) tNoPart)) tNil))))))) (gName 12))
  (t_l_changed_10 K W)) D σ H
structure t_l_changed_8 (K : PySem.W.Frag) (W : WX) (D : Ends) (σ : L2.St) (H : Hp) : Prop where
  out : (tSeq (tAsg (tOp zAdd (tOp zAdd (tSl (zSlP K) (tV 2) tNoPart (tPrt (tV 4))) (tLst (tCons (tIfE (tTst (tOp zLt (tV 1) (tC (.int 15)))) (tOp (zIxP K) (tV 10) (tV 1)) (tOp (zIxP K) (tV 10) (tC (.int 0)))) tNil))) (tSl (zSlP K) (tV 2) (tPrt (tOp zAdd (tV 4) (tC (.int 1)))) tNoPart)) (gName 11))
  (t_l_changed_9 K W)) D σ H
structure t_l_changed_3 (K : PySem.W.Frag) (W : WX) (D : Ends) (σ : L2.St) (H : Hp) : Prop where
  out : (tSeq (tAsg (tSl (zSlP K) (tOp (zIxP K) (tV 2) (tV 4)) tNoPart (tPrt (tC (.int 2)))) (gName 8))
  (tSeq (tAsg (tSl (zSlP K) (tOp (zIxP K) (tV 2) (tV 4)) (tPrt (tC (.int 2))) tNoPart) (gName 9))
  (tSeq (tAsg (tLst (tCons (tOp zAdd (tV 8) (tV 9)) (tCons (tOp zAdd (tOp zAdd (tV 7) (tC (.str (S [62])))) (tV 9)) (tCons (tV 9) (tCons (tOp zAdd (tV 8) (tRev (tV 9))) (tCons (tOp zAdd (tOp zAdd (tV 8) (tV 9)) (tOp (zIxP K) (tV 9) (tUn zNeg (tC (.int 1))))) (tCons (tOp zAdd (tOp zAdd (tV 8) (tV 9)) (tC (.str (S [46])))) (tCons (tV 8) tNil)))))))) (gName 10))
  (tSeq (tAsg (tOp zAdd (tV 10) (tLst (tCons (tOp zAdd (tOp zAdd (tOp (zIxP K) (tV 8) (tC (.int 0))) (tC (.str (S [58])))) (tV 9)) (tCons (tOp zAdd (tOp zAdd (tV 8) (tV 9)) (tC (.str (S [10])))) (tCons (tSM0 zUpper (tOp zAdd (tV 8) (tV 9))) (tCons (tOp zAdd (tOp zAdd (tV 8) (tV 9)) (tV 7)) (tCons (tOp zAdd (tV 8) (tV 3)) tNil))))))) (gName 10))
  (tSeq (tAsg (tOp zAdd (tV 10) (tLst (tCons (tOp zAdd (tV 8) (tC (.str (S [46])))) (tCons (tOp zAdd (tV 8) (tSl (zSlP K) (tV 3) (tPrt (tV 4)) tNoPart)) (tCons (tOp zAdd (tOp zAdd (tV 8) (tSl (zSlP K) (tV 3) tNoPart (tPrt (tOp zAdd (tV 4) (tC (.int 1)))))) (tOp (zIxP K) (tV 3) (tV 4))) tNil))))) (gName 10))
  (t_l_changed_8 K W)))))) D σ H
def t_l_changed (K : PySem.W.Frag) (W : WX) : TS :=
  (tSeq (tAsg (tCal (sp_l_take K) [] W (tCons (tV 0) (tCons (tCB (zLen K) (tCons (tV 2) tNil)) tNil))) (gName 4))
  (tSeq (tAsg (tLcP (jA K (tC (.str (S [97, 98, 99, 100, 101, 102, 103, 104, 105, 106, 107, 108, 109, 110, 111, 112, 113, 114, 115, 116, 117, 118, 119, 120, 121, 122])))) (gName 6) (tTst (tOp (zNinP K) (tV 6) (tV 3))) (tV 6) [6]) (gName 5))
  (tSeq (tAsg (tOp (zIxP K) (tV 5) (tCal (sp_l_take K) [] W (tCons (tV 0) (tCons (tCB (zLen K) (tCons (tV 5) tNil)) tNil)))) (gName 7))
  (t_l_changed_3 K W))))
theorem tm_l_changed {P : Program} {w : World} {K : PySem.W.Frag} {mg : Str → Option Value} {base : Heap} {f : Addr} {cdv : Value} {A : Around} {outer : List Env} {s : Shared} {H : Hp} {E : XK} (T : Tx K mg) (G_l_take : Fn P w K mg base "_law_take" 5 [] (sp_l_take K)) (hr : Room 6 (A.deeper (envOfC "_law_changed" (defScope s_l_changed) s.heap.objs.size f cdv))) :
    PSs (cxOf (L2.CX P w) P w K mg base ["_law_bag_here", "_law_change", "_law_entries", "_law_signs_here", "_law_at", "_law_rest", "_law_one", "_law_other", "_law_head", "_law_tail", "_law_menu", "_law_rows", "_law_lists"] "_law_changed" (defScope s_l_changed) f cdv A outer s H E) (defBody s_l_changed) (t_l_changed K (WD E)) :=
  (pss_cons (pset 4 sc_l_changed.nd (pcall G_l_take (hr.mono (by decide)) takesD (pa_cons (Ta.pv 0) (pa_cons (pcb (crlen) T.f_len (pa_cons (Ta.pv 2) pa_nil)) pa_nil))))
  (pss_cons (pslc (i := 5) [("_law_one", 6)] rfl sc_l_changed.nd rfl rfl (sw_true rfl rfl rfl (by decide +kernel)) (pja (pstr [97, 98, 99, 100, 101, 102, 103, 104, 105, 106, 107, 108, 109, 110, 111, 112, 113, 114, 115, 116, 117, 118, 119, 120, 121, 122])) (by kernel_rfl) (fun _ _ _ _ _ => (pgn 6 sc_l_changed.nd)) (fun _ _ _ _ _ => (pts_one (ptcmp opnin (Ta.pv 6) (Ta.pv 3)))) (fun _ _ _ _ _ => (Ta.pv 6)))
  (pss_cons (pset 7 sc_l_changed.nd (pix (Ta.pv 5) (pcall G_l_take (hr.mono (by decide)) takesD (pa_cons (Ta.pv 0) (pa_cons (pcb (crlen) T.f_len (pa_cons (Ta.pv 5) pa_nil)) pa_nil)))))
  (pss_imp (pss_cons (pset 8 sc_l_changed.nd (psl (pix (Ta.pv 2) (Ta.pv 4)) po_none (posome pe_int)))
  (pss_cons (pset 9 sc_l_changed.nd (psl (pix (Ta.pv 2) (Ta.pv 4)) (posome pe_int) po_none))
  (pss_cons (pset 10 sc_l_changed.nd (pe_lst (pa_cons (pe_op opadd (Ta.pv 8) (Ta.pv 9)) (pa_cons (pe_op opadd (pe_op opadd (Ta.pv 7) (pstr [62])) (Ta.pv 9)) (pa_cons (Ta.pv 9) (pa_cons (pe_op opadd (Ta.pv 8) (prev (Ta.pv 9))) (pa_cons (pe_op opadd (pe_op opadd (Ta.pv 8) (Ta.pv 9)) (pix (Ta.pv 9) (pe_un unneg pe_int))) (pa_cons (pe_op opadd (pe_op opadd (Ta.pv 8) (Ta.pv 9)) (pstr [46])) (pa_cons (Ta.pv 8) pa_nil)))))))))
  (pss_cons (pset 10 sc_l_changed.nd (pe_op opadd (Ta.pv 10) (pe_lst (pa_cons (pe_op opadd (pe_op opadd (pix (Ta.pv 8) pe_int) (pstr [58])) (Ta.pv 9)) (pa_cons (pe_op opadd (pe_op opadd (Ta.pv 8) (Ta.pv 9)) (pstr [10])) (pa_cons (psm0 PySem.F.slot_str_upper PySem.F.type_str_upper mtupper (pe_op opadd (Ta.pv 8) (Ta.pv 9))) (pa_cons (pe_op opadd (pe_op opadd (Ta.pv 8) (Ta.pv 9)) (Ta.pv 7)) (pa_cons (pe_op opadd (Ta.pv 8) (Ta.pv 3)) pa_nil))))))))
  (pss_cons (pset 10 sc_l_changed.nd (pe_op opadd (Ta.pv 10) (pe_lst (pa_cons (pe_op opadd (Ta.pv 8) (pstr [46])) (pa_cons (pe_op opadd (Ta.pv 8) (psl (Ta.pv 3) (posome (Ta.pv 4)) po_none)) (pa_cons (pe_op opadd (pe_op opadd (Ta.pv 8) (psl (Ta.pv 3) po_none (posome (pe_op opadd (Ta.pv 4) pe_int)))) (pix (Ta.pv 3) (Ta.pv 4))) pa_nil))))))
  (pss_imp (pss_cons (pset 11 sc_l_changed.nd (pe_op opadd (pe_op opadd (psl (Ta.pv 2) po_none (posome (Ta.pv 4))) (pe_lst (pa_cons (peif (ptcmp oplt (Ta.pv 1) pe_int) (pix (Ta.pv 10) (Ta.pv 1)) (pix (Ta.pv 10) pe_int)) pa_nil))) (psl (Ta.pv 2) (posome (pe_op opadd (Ta.pv 4) pe_int)) po_none)))
  (pss_imp (pss_cons (pset 12 sc_l_changed.nd (pe_lst (pa_cons (psl (Ta.pv 2) po_none (posome (pe_un unneg pe_int))) (pa_cons (psl (Ta.pv 2) (posome pe_int) po_none) (pa_cons (pe_lst (pa_cons (pstr []) pa_nil)) (pa_cons (pe_op opadd (Ta.pv 2) (pe_lst (pa_cons (pstr []) pa_nil))) (pa_cons (pe_op opadd (pe_lst (pa_cons (pstr []) pa_nil)) (Ta.pv 2)) (pa_cons (pe_op opadd (pe_op opadd (psl (Ta.pv 2) po_none (posome (Ta.pv 4))) (pe_lst (pa_cons (pstr []) pa_nil))) (psl (Ta.pv 2) (posome (Ta.pv 4)) po_none)) pa_nil))))))))
  (pss_imp (pss_cons (pset 12 sc_l_changed.nd (pe_op opadd (Ta.pv 12) (pe_lst (pa_cons (pe_op opadd (Ta.pv 2) (pe_lst (pa_cons (pix (Ta.pv 2) (Ta.pv 4)) pa_nil))) (pa_cons (pe_op opadd (psl (Ta.pv 2) po_none (posome (Ta.pv 4))) (psl (Ta.pv 2) (posome (pe_op opadd (Ta.pv 4) pe_int)) po_none)) (pa_cons (prev (Ta.pv 2)) pa_nil))))))
  (pss_imp (pss_one (ps_ret (peif (ptcmp oplt (Ta.pv 1) pe_int) (Ta.pv 11) (pix (Ta.pv 12) (pe_op opsub (Ta.pv 1) pe_int))))) fun _ _ _ h => h.out)) fun _ _ _ h => h.out)) fun _ _ _ h => h.out)) fun _ _ _ h => h.out)))))) fun _ _ _ h => h.out))))
/-! _law_pairs -/
theorem sc_l_pairs : FnScope ["_law_bag_here", "_law_signs_here", "_law_count", "_law_pairs_here", "_law_k", "_law_told"] ["_law_bag_here", "_law_signs_here", "_law_count"] (defScope s_l_pairs) := ⟨rfl, rfl, rfl, by decide +kernel, rfl, by decide +kernel, by decide +kernel⟩
structure sp_l_pairs (K : PySem.W.Frag) (vs : List V) (H : Hp) (Q : VK) (E : XK) : Prop where
  out : ∃ (b g s : Addr) (n : Int) (G : List Nat) (c : Nat), vs = [.ref b, .str (S G), .int (c : Int)] ∧ (bx H b g s n) ∧ (n < 700000) ∧ (1 ≤ G.length ∧ G.length ≤ 5) ∧ (c ≤ 40) ∧ (∀ p xs R n' H', R.length = c → okR G R → Kp [b, g] H H' → n ≤ n' → n' ≤ n + 80 → bx H' b g s n' → H p = none → H' p = some (.lst xs) → Paired (pairP H') xs R → Q (.ref p) H')
theorem i_l_pairs {K : PySem.W.Frag} {b g s : Addr} {n : Int} {G : List Nat} {c : Nat} {u0 : Int} {H : Hp} {Q : VK} {E : XK} (e_u0 : u0 = (c : Int)) (hb : bx H b g s n) (hk : n < 700000) (hG : 1 ≤ G.length ∧ G.length ≤ 5) (hz : c ≤ 40) (q1 : ∀ p xs R n' H', R.length = c → okR G R → Kp [b, g] H H' → n ≤ n' → n' ≤ n + 80 → bx H' b g s n' → H p = none → H' p = some (.lst xs) → Paired (pairP H') xs R → Q (.ref p) H') : sp_l_pairs K [.ref b, .str (S G), .int u0] H Q E := by
  subst e_u0; exact ⟨⟨b, g, s, n, G, c, rfl, hb, hk, hG, hz, q1⟩⟩
theorem d_l_pairs {K : PySem.W.Frag} {vs : List V} {H : Hp} {Q : VK} {E : XK} (h : sp_l_pairs K vs H Q E) : sp_l_pairs K vs H Q E := h


def b_l_pairs_1 (K : PySem.W.Frag) (W : WX) : TS :=
  (tSeq (tAsg (tOp (zIxP K) (tV 1) (tCal (sp_l_take K) [] W (tCons (tV 0) (tCons (tCB (zLen K) (tCons (tV 1) tNil)) tNil)))) (gName 5))
  (tDrop (tLM zAppP (tV 3) (tCons (tTup (tCons (tV 5) (tCons (tOp (zIxP K) (tV 1) (tCal (sp_l_take K) [] W (tCons (tV 0) (tCons (tCB (zLen K) (tCons (tV 1) tNil)) tNil)))) tNil))) tNil))))
def t_l_pairs (K : PySem.W.Frag) (W : WX) : TS :=
  (tSeq (tAsg (tLst tNil) (gName 3))
  (tSeq (tForP (jR1 (tCons (tV 2) tNil)) (gName 4) (b_l_pairs_1 K W))
  (tRet (tV 3))))
theorem tm_l_pairs {P : Program} {w : World} {K : PySem.W.Frag} {mg : Str → Option Value} {base : Heap} {f : Addr} {cdv : Value} {A : Around} {outer : List Env} {s : Shared} {H : Hp} {E : XK} (T : Tx K mg) (G_l_take : Fn P w K mg base "_law_take" 5 [] (sp_l_take K)) (hr : Room 6 (A.deeper (envOfC "_law_pairs" (defScope s_l_pairs) s.heap.objs.size f cdv))) :
    PSs (cxOf (L2.CX P w) P w K mg base ["_law_bag_here", "_law_signs_here", "_law_count", "_law_pairs_here", "_law_k", "_law_told"] "_law_pairs" (defScope s_l_pairs) f cdv A outer s H E) (defBody s_l_pairs) (t_l_pairs K (WD E)) :=
  (pss_cons (pset 3 sc_l_pairs.nd (pe_lst pa_nil))
  (pss_cons (psfor ownD rfl (pjr1 T.f_range (pa_cons (Ta.pv 2) pa_nil)) (pgn 4 sc_l_pairs.nd) (pss_cons (pset 5 sc_l_pairs.nd (pix (Ta.pv 1) (pcall G_l_take (hr.mono (by decide)) takesD (pa_cons (Ta.pv 0) (pa_cons (pcb (crlen) T.f_len (pa_cons (Ta.pv 1) pa_nil)) pa_nil)))))
  (pss_one (ps_expr (plm PySem.F.slot_list_append PySem.F.type_list_append mtapp (Ta.pv 3) (pa_cons (pe_tup (pa_cons (Ta.pv 5) (pa_cons (pix (Ta.pv 1) (pcall G_l_take (hr.mono (by decide)) takesD (pa_cons (Ta.pv 0) (pa_cons (pcb (crlen) T.f_len (pa_cons (Ta.pv 1) pa_nil)) pa_nil)))) pa_nil))) pa_nil))))))
  (pss_one (ps_ret (Ta.pv 3)))))
/-! _law_outs -/
theorem sc_l_outs : FnScope ["_law_signs_here", "_law_pairs_here", "_law_rows", "_law_told", "_law_out"] ["_law_signs_here", "_law_pairs_here"] (defScope s_l_outs) := ⟨rfl, rfl, rfl, by decide +kernel, rfl, by decide +kernel, by decide +kernel⟩
structure sp_l_outs (K : PySem.W.Frag) (vs : List V) (H : Hp) (Q : VK) (E : XK) : Prop where
  out : ∃ (G : List Nat) (p : Addr) (xs : List V) (R : List Pr2), vs = [.str (S G), .ref p] ∧ (H p = some (.lst xs)) ∧ (Paired (pairP H) xs R) ∧ (okR G R) ∧ (G.length ≤ 5) ∧ (lowT G) ∧ (∀ r H', Kp [] H H' → H r = none → H' r = some (.lst (txs (colsP G R))) → Q (.ref r) H')
theorem i_l_outs {K : PySem.W.Frag} {G : List Nat} {p : Addr} {xs : List V} {R : List Pr2} {H : Hp} {Q : VK} {E : XK} (hp : H p = some (.lst xs)) (hx : Paired (pairP H) xs R) (hR : okR G R) (hG : G.length ≤ 5) (hl : lowT G) (q1 : ∀ r H', Kp [] H H' → H r = none → H' r = some (.lst (txs (colsP G R))) → Q (.ref r) H') : sp_l_outs K [.str (S G), .ref p] H Q E := by
  exact ⟨⟨G, p, xs, R, rfl, hp, hx, hR, hG, hl, q1⟩⟩
theorem d_l_outs {K : PySem.W.Frag} {vs : List V} {H : Hp} {Q : VK} {E : XK} (h : sp_l_outs K vs H Q E) : sp_l_outs K vs H Q E := h


def b_l_outs_1 (K : PySem.W.Frag) (W : WX) : TS :=
  (tDrop (tLM zAppP (tV 2) (tCons (tSM (zJoin K) (tC (.str (S []))) (tCons (tLcP (jA K (tV 0)) (gName 4) (tTst (tOp (zInD K) (tTup (tCons (tV 3) (tCons (tV 4) tNil))) (tV 1))) (tV 4) [4]) tNil)) tNil)))
def t_l_outs (K : PySem.W.Frag) (W : WX) : TS :=
  (tSeq (tAsg (tLst tNil) (gName 2))
  (tSeq (tForP (jA K (tV 0)) (gName 3) (b_l_outs_1 K W))
  (tRet (tV 2))))
theorem tm_l_outs {P : Program} {w : World} {K : PySem.W.Frag} {mg : Str → Option Value} {base : Heap} {f : Addr} {cdv : Value} {A : Around} {outer : List Env} {s : Shared} {H : Hp} {E : XK} (T : Tx K mg) (hr : Room 4 (A.deeper (envOfC "_law_outs" (defScope s_l_outs) s.heap.objs.size f cdv))) :
    PSs (cxOf (L2.CX P w) P w K mg base ["_law_signs_here", "_law_pairs_here", "_law_rows", "_law_told", "_law_out"] "_law_outs" (defScope s_l_outs) f cdv A outer s H E) (defBody s_l_outs) (t_l_outs K (WD E)) :=
  (pss_cons (pset 2 sc_l_outs.nd (pe_lst pa_nil))
  (pss_cons (psfor ownD rfl (pja (Ta.pv 0)) (pgn 3 sc_l_outs.nd) (pss_one (ps_expr (plm PySem.F.slot_list_append PySem.F.type_list_append mtapp (Ta.pv 2) (pa_cons (psm PySem.F.slot_str_join PySem.F.type_str_join mtjoin (pstr []) (pa_cons (plc [("_law_out", 4)] rfl sc_l_outs.nd (pja (Ta.pv 0)) (by kernel_rfl) (fun _ _ _ _ _ => (pgn 4 sc_l_outs.nd)) (fun _ _ _ _ _ => (pts_one (ptcmp (opind hr.units65) (pe_tup (pa_cons (Ta.pv 3) (pa_cons (Ta.pv 4) pa_nil))) (Ta.pv 1)))) (fun _ _ _ _ _ => (Ta.pv 4))) pa_nil)) pa_nil)))))
  (pss_one (ps_ret (Ta.pv 2)))))
/-! _law_strange -/
theorem sc_l_strange : FnScope ["_law_bag_here", "_law_signs_here", "_law_sign", "_law_rest", "_law_one", "_law_other", "_law_menu"] ["_law_bag_here", "_law_signs_here"] (defScope s_l_strange) := ⟨rfl, rfl, rfl, by decide +kernel, rfl, by decide +kernel, by decide +kernel⟩
structure sp_l_strange (K : PySem.W.Frag) (vs : List V) (H : Hp) (Q : VK) (E : XK) : Prop where
  out : ∃ (b g s : Addr) (n : Int) (G : List Nat), vs = [.ref b, .str (S G)] ∧ (bx H b g s n) ∧ (n < 800000) ∧ (2 ≤ G.length ∧ G.length ≤ 5) ∧ (∀ c ∈ G, c = 45 ∨ c ∈ AZ) ∧ (∀ t H', isS G t = false → t.length ≤ 5 → lowT t → Kp [b, g] H H' → bx H' b g s (n + 3) → Q (.str (S t)) H')
theorem i_l_strange {K : PySem.W.Frag} {b g s : Addr} {n : Int} {G : List Nat} {H : Hp} {Q : VK} {E : XK} (hb : bx H b g s n) (hk : n < 800000) (hG : 2 ≤ G.length ∧ G.length ≤ 5) (hc : ∀ c ∈ G, c = 45 ∨ c ∈ AZ) (q1 : ∀ t H', isS G t = false → t.length ≤ 5 → lowT t → Kp [b, g] H H' → bx H' b g s (n + 3) → Q (.str (S t)) H') : sp_l_strange K [.ref b, .str (S G)] H Q E := by
  exact ⟨⟨b, g, s, n, G, rfl, hb, hk, hG, hc, q1⟩⟩
theorem d_l_strange {K : PySem.W.Frag} {vs : List V} {H : Hp} {Q : VK} {E : XK} (h : sp_l_strange K vs H Q E) : sp_l_strange K vs H Q E := h


def t_l_strange (K : PySem.W.Frag) (W : WX) : TS :=
  (tSeq (tAsg (tOp (zIxP K) (tV 1) (tCal (sp_l_take K) [] W (tCons (tV 0) (tCons (tCB (zLen K) (tCons (tV 1) tNil)) tNil)))) (gName 2))
  (tSeq (tAsg (tLcP (jA K (tC (.str (S [97, 98, 99, 100, 101, 102, 103, 104, 105, 106, 107, 108, 109, 110, 111, 112, 113, 114, 115, 116, 117, 118, 119, 120, 121, 122])))) (gName 4) (tTst (tOp (zNinP K) (tV 4) (tV 1))) (tV 4) [4]) (gName 3))
  (tSeq (tAsg (tOp (zIxP K) (tV 3) (tCal (sp_l_take K) [] W (tCons (tV 0) (tCons (tCB (zLen K) (tCons (tV 3) tNil)) tNil)))) (gName 5))
  (tSeq (tAsg (tLst (tCons (tC (.str (S []))) (tCons (tOp zAdd (tV 2) (tV 2)) (tCons (tV 1) (tCons (tV 5) (tCons (tSM0 zUpper (tV 5)) (tCons (tOp zAdd (tV 2) (tC (.str (S [32])))) (tCons (tC (.str (S [32]))) (tCons (tC (.str (S [46]))) (tCons (tC (.str (S [62]))) (tCons (tOp zAdd (tV 2) (tC (.str (S [10])))) tNil))))))))))) (gName 6))
  (tRet (tOp (zIxP K) (tV 6) (tCal (sp_l_take K) [] W (tCons (tV 0) (tCons (tC (.int 10)) tNil)))))))))
theorem tm_l_strange {P : Program} {w : World} {K : PySem.W.Frag} {mg : Str → Option Value} {base : Heap} {f : Addr} {cdv : Value} {A : Around} {outer : List Env} {s : Shared} {H : Hp} {E : XK} (T : Tx K mg) (G_l_take : Fn P w K mg base "_law_take" 5 [] (sp_l_take K)) (hr : Room 6 (A.deeper (envOfC "_law_strange" (defScope s_l_strange) s.heap.objs.size f cdv))) :
    PSs (cxOf (L2.CX P w) P w K mg base ["_law_bag_here", "_law_signs_here", "_law_sign", "_law_rest", "_law_one", "_law_other", "_law_menu"] "_law_strange" (defScope s_l_strange) f cdv A outer s H E) (defBody s_l_strange) (t_l_strange K (WD E)) :=
  (pss_cons (pset 2 sc_l_strange.nd (pix (Ta.pv 1) (pcall G_l_take (hr.mono (by decide)) takesD (pa_cons (Ta.pv 0) (pa_cons (pcb (crlen) T.f_len (pa_cons (Ta.pv 1) pa_nil)) pa_nil)))))
  (pss_cons (pslc (i := 3) [("_law_one", 4)] rfl sc_l_strange.nd rfl rfl (sw_true rfl rfl rfl (by decide +kernel)) (pja (pstr [97, 98, 99, 100, 101, 102, 103, 104, 105, 106, 107, 108, 109, 110, 111, 112, 113, 114, 115, 116, 117, 118, 119, 120, 121, 122])) (by kernel_rfl) (fun _ _ _ _ _ => (pgn 4 sc_l_strange.nd)) (fun _ _ _ _ _ => (pts_one (ptcmp opnin (Ta.pv 4) (Ta.pv 1)))) (fun _ _ _ _ _ => (Ta.pv 4)))
  (pss_cons (pset 5 sc_l_strange.nd (pix (Ta.pv 3) (pcall G_l_take (hr.mono (by decide)) takesD (pa_cons (Ta.pv 0) (pa_cons (pcb (crlen) T.f_len (pa_cons (Ta.pv 3) pa_nil)) pa_nil)))))
  (pss_cons (pset 6 sc_l_strange.nd (pe_lst (pa_cons (pstr []) (pa_cons (pe_op opadd (Ta.pv 2) (Ta.pv 2)) (pa_cons (Ta.pv 1) (pa_cons (Ta.pv 5) (pa_cons (psm0 PySem.F.slot_str_upper PySem.F.type_str_upper mtupper (Ta.pv 5)) (pa_cons (pe_op opadd (Ta.pv 2) (pstr [32])) (pa_cons (pstr [32]) (pa_cons (pstr [46]) (pa_cons (pstr [62]) (pa_cons (pe_op opadd (Ta.pv 2) (pstr [10])) pa_nil))))))))))))
  (pss_one (ps_ret (pix (Ta.pv 6) (pcall G_l_take (hr.mono (by decide)) takesD (pa_cons (Ta.pv 0) (pa_cons pe_int pa_nil))))))))))
/-! _law_no_sign -/
theorem sc_l_no_sign : FnScope ["_law_table", "_law_strange_here", "_law_told", "e"] ["_law_table", "_law_strange_here"] (defScope s_l_no_sign) := ⟨rfl, rfl, rfl, by decide +kernel, rfl, by decide +kernel, by decide +kernel⟩
structure sp_l_no_sign (K : PySem.W.Frag) (vs : List V) (H : Hp) (Q : VK) (E : XK) : Prop where
  out : ∃ (t A dA : Addr) (l v x : List Nat) (cols : List (List Nat)), vs = [.ref t, .str (S x)] ∧ (tabAt K H t A (sg l) cols) ∧ (H A = some (alo K dA l v)) ∧ (cols.length = (sg l).length) ∧ (x.length ≤ 5) ∧ (isS (sg l) x = false) ∧ (∀ H', Kp [] H H' → Q (.bl true) H')
theorem i_l_no_sign {K : PySem.W.Frag} {t A dA : Addr} {l v x : List Nat} {cols : List (List Nat)} {H : Hp} {Q : VK} {E : XK} (ht : tabAt K H t A (sg l) cols) (hA : H A = some (alo K dA l v)) (hn : cols.length = (sg l).length) (hx : x.length ≤ 5) (hs : isS (sg l) x = false) (q1 : ∀ H', Kp [] H H' → Q (.bl true) H') : sp_l_no_sign K [.ref t, .str (S x)] H Q E := by
  exact ⟨⟨t, A, dA, l, v, x, cols, rfl, ht, hA, hn, hx, hs, q1⟩⟩
theorem d_l_no_sign {K : PySem.W.Frag} {vs : List V} {H : Hp} {Q : VK} {E : XK} (h : sp_l_no_sign K vs H Q E) : sp_l_no_sign K vs H Q E := h


def t_l_no_sign (K : PySem.W.Frag) (W : WX) : TS :=
  (tSeq (fun D0 σ0 H0 => (fun (W1 : WX) => (tAsg (tSubO (He.ga K "Table") (sp_Table_getitem K) W1 (tV 0) (tV 1)) (gName 2))) (wAs K (.ref (He.ga K "UnknownSign")) 3 (fun a cls d => (tRet (tAndE K (tOp (zEqP K) (tXat K a cls d "sign" (tV 3)) (tV 1)) (tAndE K (tCB (zIsX K a cls d) (tCons (tV 3) (tCons (tC (.ref (He.ga K "TaleError"))) tNil))) (tAndE K (tCB (zIsX K a cls d) (tCons (tV 3) (tCons (tC (.ty "ValueError")) tNil))) (tNotE K (tCB (zIsX K a cls d) (tCons (tV 3) (tCons (tC (.ref (He.ga K "BadPair"))) tNil))))))))) W D0) D0 σ0 H0)
  (tRet (tC (.bl false))))
theorem tm_l_no_sign {P : Program} {w : World} {K : PySem.W.Frag} {mg : Str → Option Value} {base : Heap} {f : Addr} {cdv : Value} {A : Around} {outer : List Env} {s : Shared} {H : Hp} {E : XK} (T : Tx K mg) (G_Table___getitem__ : Me P w K mg base (He.ga K "Table") "__getitem__" 9 [] (sp_Table_getitem K)) (hr : Room 11 (A.deeper (envOfC "_law_no_sign" (defScope s_l_no_sign) s.heap.objs.size f cdv))) :
    PSs (cxOf (L2.CX P w) P w K mg base ["_law_table", "_law_strange_here", "_law_told", "e"] "_law_no_sign" (defScope s_l_no_sign) f cdv A outer s H E) (defBody s_l_no_sign) (t_l_no_sign K (WD E)) :=
  (pss_cons (ps_try_as (i := 3) rfl rfl sc_l_no_sign.nd rfl rfl (names_of T.v_UnknownSign) takesD (tb := fun W1 => (tAsg (tSubO (He.ga K "Table") (sp_Table_getitem K) W1 (tV 0) (tV 1)) (gName 2))) (ts := fun a cls d => (tRet (tAndE K (tOp (zEqP K) (tXat K a cls d "sign" (tV 3)) (tV 1)) (tAndE K (tCB (zIsX K a cls d) (tCons (tV 3) (tCons (tC (.ref (He.ga K "TaleError"))) tNil))) (tAndE K (tCB (zIsX K a cls d) (tCons (tV 3) (tCons (tC (.ty "ValueError")) tNil))) (tNotE K (tCB (zIsX K a cls d) (tCons (tV 3) (tCons (tC (.ref (He.ga K "BadPair"))) tNil))))))))) (fun W1 pn xe tk1 _ => (pss_one (pset 2 sc_l_no_sign.nd (psubO G_Table___getitem__ T.fm_Table___getitem__ (hr.mono (by decide)) tk1 (Ta.pv 0) (Ta.pv 1))))) (fun a oe cls d pn hz hf => (pss_one (ps_ret (peand (pe_cmpR (opeq hr.units) (pxat hz hf (Ta.pv 3)) (Ta.pv 1) rfl) (peand (pcb (crisx hz hf) T.f_isinstance (pa_cons (Ta.pv 3) (pa_cons (pglo T.v_TaleError) pa_nil))) (peand (pcb (crisx hz hf) T.f_isinstance (pa_cons (Ta.pv 3) (pa_cons (pbty T.f_ValueError) pa_nil))) (pe_one (penot (pcb (crisx hz hf) T.f_isinstance (pa_cons (Ta.pv 3) (pa_cons (pglo T.v_BadPair) pa_nil))))))))))))
  (pss_one (ps_ret pe_bl)))
/-! _law_no_pairs -/
theorem sc_l_no_pairs : FnScope ["_law_table", "_law_signs_here", "_law_strange_here", "_law_sign", "_law_out"] ["_law_table", "_law_signs_here", "_law_strange_here"] (defScope s_l_no_pairs) := ⟨rfl, rfl, rfl, by decide +kernel, rfl, by decide +kernel, by decide +kernel⟩
structure sp_l_no_pairs (K : PySem.W.Frag) (vs : List V) (H : Hp) (Q : VK) (E : XK) : Prop where
  out : ∃ (t A : Addr) (l v x : List Nat) (cols : List (List Nat)), vs = [.ref t, .str (S (sg l)), .str (S x)] ∧ (tabAt K H t A (sg l) cols) ∧ (good l v) ∧ (okC (sg l) cols) ∧ (x.length ≤ 5) ∧ (lowT x) ∧ (isS (sg l) x = false) ∧ (∀ H', Kp [] H H' → Q (.bl true) H')
theorem i_l_no_pairs {K : PySem.W.Frag} {t A : Addr} {l v x : List Nat} {cols : List (List Nat)} {H : Hp} {Q : VK} {E : XK} (ht : tabAt K H t A (sg l) cols) (hl : good l v) (hc : okC (sg l) cols) (hx : x.length ≤ 5) (hlx : lowT x) (hs : isS (sg l) x = false) (q1 : ∀ H', Kp [] H H' → Q (.bl true) H') : sp_l_no_pairs K [.ref t, .str (S (sg l)), .str (S x)] H Q E := by
  exact ⟨⟨t, A, l, v, x, cols, rfl, ht, hl, hc, hx, hlx, hs, q1⟩⟩
theorem d_l_no_pairs {K : PySem.W.Frag} {vs : List V} {H : Hp} {Q : VK} {E : XK} (h : sp_l_no_pairs K vs H Q E) : sp_l_no_pairs K vs H Q E := h


def b_l_no_pairs_2 (K : PySem.W.Frag) (W : WX) : TS :=
  (tIfP (tOrP (tTst (tOp (zInO (He.ga K "Table") (sp_Table_contains K)) (tTup (tCons (tOp zAdd (tV 3) (tV 4)) (tCons (tC (.str (S []))) tNil))) (tV 0))) (tTst (tOp (zInO (He.ga K "Table") (sp_Table_contains K)) (tTup (tCons (tC (.str (S []))) (tCons (tOp zAdd (tV 3) (tV 4)) tNil))) (tV 0)))) (tRet (tC (.bl false))) tNext)
def b_l_no_pairs_1 (K : PySem.W.Frag) (W : WX) : TS :=
  (tSeq (tIfP (tOrP (tTst (tOp (zInO (He.ga K "Table") (sp_Table_contains K)) (tTup (tCons (tV 2) (tCons (tV 3) tNil))) (tV 0))) (tTst (tOp (zInO (He.ga K "Table") (sp_Table_contains K)) (tTup (tCons (tV 3) (tCons (tV 2) tNil))) (tV 0)))) (tRet (tC (.bl false))) tNext)
  (tForP (jA K (tV 1)) (gName 4) (b_l_no_pairs_2 K W)))
def t_l_no_pairs (K : PySem.W.Frag) (W : WX) : TS :=
  (tSeq (tIfP (tOrP (tTst (tOp (zInO (He.ga K "Table") (sp_Table_contains K)) (tTup (tCons (tV 2) (tCons (tV 2) tNil))) (tV 0))) (tTst (tOp (zInO (He.ga K "Table") (sp_Table_contains K)) (tTup (tCons (tC (.str (S []))) (tCons (tC (.str (S []))) tNil))) (tV 0)))) (tRet (tC (.bl false))) tNext)
  (tSeq (tForP (jA K (tV 1)) (gName 3) (b_l_no_pairs_1 K W))
  (tRet (tC (.bl true)))))
theorem tm_l_no_pairs {P : Program} {w : World} {K : PySem.W.Frag} {mg : Str → Option Value} {base : Heap} {f : Addr} {cdv : Value} {A : Around} {outer : List Env} {s : Shared} {H : Hp} {E : XK} (T : Tx K mg) (G_Table___contains__ : Me P w K mg base (He.ga K "Table") "__contains__" 5 [] (sp_Table_contains K)) (hr : Room 6 (A.deeper (envOfC "_law_no_pairs" (defScope s_l_no_pairs) s.heap.objs.size f cdv))) :
    PSs (cxOf (L2.CX P w) P w K mg base ["_law_table", "_law_signs_here", "_law_strange_here", "_law_sign", "_law_out"] "_law_no_pairs" (defScope s_l_no_pairs) f cdv A outer s H E) (defBody s_l_no_pairs) (t_l_no_pairs K (WD E)) :=
  (pss_cons (psif (PW.pt (pwor (ptcmp (opinO G_Table___contains__ (hr.mono (by decide))) (pe_tup (pa_cons (Ta.pv 2) (pa_cons (Ta.pv 2) pa_nil))) (Ta.pv 0)) (pw_or1 (ptcmp (opinO G_Table___contains__ (hr.mono (by decide))) (pe_tup (pa_cons (pstr []) (pa_cons (pstr []) pa_nil))) (Ta.pv 0))))) (pss_one (ps_ret pe_bl)) pss_nil)
  (pss_cons (psfor ownD rfl (pja (Ta.pv 1)) (pgn 3 sc_l_no_pairs.nd) (pss_cons (psif (PW.pt (pwor (ptcmp (opinO G_Table___contains__ (hr.mono (by decide))) (pe_tup (pa_cons (Ta.pv 2) (pa_cons (Ta.pv 3) pa_nil))) (Ta.pv 0)) (pw_or1 (ptcmp (opinO G_Table___contains__ (hr.mono (by decide))) (pe_tup (pa_cons (Ta.pv 3) (pa_cons (Ta.pv 2) pa_nil))) (Ta.pv 0))))) (pss_one (ps_ret pe_bl)) pss_nil)
  (pss_one (psfor ownD rfl (pja (Ta.pv 1)) (pgn 4 sc_l_no_pairs.nd) (pss_one (psif (PW.pt (pwor (ptcmp (opinO G_Table___contains__ (hr.mono (by decide))) (pe_tup (pa_cons (pe_op opadd (Ta.pv 3) (Ta.pv 4)) (pa_cons (pstr []) pa_nil))) (Ta.pv 0)) (pw_or1 (ptcmp (opinO G_Table___contains__ (hr.mono (by decide))) (pe_tup (pa_cons (pstr []) (pa_cons (pe_op opadd (Ta.pv 3) (Ta.pv 4)) pa_nil))) (Ta.pv 0))))) (pss_one (ps_ret pe_bl)) pss_nil))))))
  (pss_one (ps_ret pe_bl))))
/-! _law_bad_pair -/
theorem sc_l_bad_pair : FnScope ["_law_bag_here", "_law_alphabet", "_law_signs_here", "_law_pairs_here", "_law_sign", "_law_strange_here", "_law_bad", "_law_at", "_law_rows", "_law_kept", "_law_told", "e"] ["_law_bag_here", "_law_alphabet", "_law_signs_here", "_law_pairs_here"] (defScope s_l_bad_pair) := ⟨rfl, rfl, rfl, by decide +kernel, rfl, by decide +kernel, by decide +kernel⟩
structure sp_l_bad_pair (K : PySem.W.Frag) (vs : List V) (H : Hp) (Q : VK) (E : XK) : Prop where
  out : ∃ (b g s A dA p : Addr) (n : Int) (l v : List Nat) (xs : List V) (R : List Pr2), vs = [.ref b, .ref A, .str (S (sg l)), .ref p] ∧ (bx H b g s n) ∧ (n < 700000) ∧ (H A = some (alo K dA l v)) ∧ (good l v) ∧ (H p = some (.lst xs)) ∧ (p ≠ b ∧ p ≠ g) ∧ (Paired (pairP H) xs R) ∧ (okR (sg l) R) ∧ (R.length ≤ 40) ∧ (∀ n' H', Kp [b, g] H H' → n ≤ n' → n' ≤ n + 20 → bx H' b g s n' → Q (.bl true) H')
theorem i_l_bad_pair {K : PySem.W.Frag} {b g s A dA p : Addr} {n : Int} {l v : List Nat} {xs : List V} {R : List Pr2} {H : Hp} {Q : VK} {E : XK} (hb : bx H b g s n) (hk : n < 700000) (hA : H A = some (alo K dA l v)) (hl : good l v) (hp : H p = some (.lst xs)) (hpb : p ≠ b ∧ p ≠ g) (hx : Paired (pairP H) xs R) (hR : okR (sg l) R) (hn : R.length ≤ 40) (q1 : ∀ n' H', Kp [b, g] H H' → n ≤ n' → n' ≤ n + 20 → bx H' b g s n' → Q (.bl true) H') : sp_l_bad_pair K [.ref b, .ref A, .str (S (sg l)), .ref p] H Q E := by
  exact ⟨⟨b, g, s, A, dA, p, n, l, v, xs, R, rfl, hb, hk, hA, hl, hp, hpb, hx, hR, hn, q1⟩⟩
theorem d_l_bad_pair {K : PySem.W.Frag} {vs : List V} {H : Hp} {Q : VK} {E : XK} (h : sp_l_bad_pair K vs H Q E) : sp_l_bad_pair K vs H Q E := h


structure t_l_bad_pair_6 (K : PySem.W.Frag) (W : WX) (D : Ends) (σ : L2.St) (H : Hp) : Prop where
  out : (tSeq (tAsg (tCB (zListX K) (tCons (tV 8) tNil)) (gName 9))
  (tSeq (fun D0 σ0 H0 => (fun (W1 : WX) => (tAsg (tMak (He.ga K "Table") (sp_Table_init K) [] W1 (tCons (tV 1) (tCons (tV 8) tNil))) (gName 10))) (wAs K (.ref (He.ga K "BadPair")) 11 (fun a cls d => (tSeq (tIfP (tOrP (tNot (tTru K (tCB (zIsX K a cls d) (tCons (tV 11) (tCons (tC (.ref (He.ga K "TaleError"))) tNil))))) (tOrP (tNot (tTru K (tCB (zIsX K a cls d) (tCons (tV 11) (tCons (tC (.ty "ValueError")) tNil))))) (tTru K (tCB (zIsX K a cls d) (tCons (tV 11) (tCons (tC (.ref (He.ga K "BadEntry"))) tNil)))))) (tRet (tC (.bl false))) tNext)
  (tRet (tAndE K (tOp (zEqP K) (tV 8) (tV 9)) (tAndE K (tCal (sp_l_integer K) [] WF (tCons (tXat K a cls d "index" (tV 11)) tNil)) (tOp (zEqP K) (tXat K a cls d "index" (tV 11)) (tV 7))))))) W D0) D0 σ0 H0)
  (tRet (tC (.bl false))))) D σ H
structure t_l_bad_pair_5 (K : PySem.W.Frag) (W : WX) (D : Ends) (σ : L2.St) (H : Hp) : Prop where
  out : (tSeq (tIfP (tTst (tOp (zEqP K) (tCal (sp_l_take K) [] W (tCons (tV 0) (tCons (tC (.int 2)) tNil))) (tC (.int 1)))) (tDrop (tLM zAppP (tV 8) (tCons (tTup (tCons (tCal (sp_l_strange K) [] W (tCons (tV 0) (tCons (tV 2) tNil))) (tCons (tV 4) tNil))) tNil))) tNext)
  (t_l_bad_pair_6 K W)) D σ H
structure t_l_bad_pair_3 (K : PySem.W.Frag) (W : WX) (D : Ends) (σ : L2.St) (H : Hp) : Prop where
  out : (tSeq (tAsg (tCal (sp_l_take K) [] W (tCons (tV 0) (tCons (tOp zAdd (tCB (zLen K) (tCons (tV 3) tNil)) (tC (.int 1))) tNil))) (gName 7))
  (tSeq (tAsg (tOp zAdd (tOp zAdd (tSl (zSlP K) (tV 3) tNoPart (tPrt (tV 7))) (tLst (tCons (tV 6) tNil))) (tSl (zSlP K) (tV 3) (tPrt (tV 7)) tNoPart)) (gName 8))
  (t_l_bad_pair_5 K W))) D σ H
structure t_l_bad_pair_2 (K : PySem.W.Frag) (W : WX) (D : Ends) (σ : L2.St) (H : Hp) : Prop where
  out : (tSeq (tAsg (tOp (zIxP K) (tLst (tCons (tTup (tCons (tV 5) (tCons (tV 4) tNil))) (tCons (tTup (tCons (tV 4) (tCons (tV 5) tNil))) (tCons (tTup (tCons (tV 5) (tCons (tV 5) tNil))) tNil)))) (tCal (sp_l_take K) [] W (tCons (tV 0) (tCons (tC (.int 3)) tNil)))) (gName 6))
  (t_l_bad_pair_3 K W)) D σ H
def t_l_bad_pair (K : PySem.W.Frag) (W : WX) : TS :=
  (tSeq (tAsg (tOp (zIxP K) (tV 2) (tCal (sp_l_take K) [] W (tCons (tV 0) (tCons (tCB (zLen K) (tCons (tV 2) tNil)) tNil)))) (gName 4))
  (tSeq (tAsg (tCal (sp_l_strange K) [] W (tCons (tV 0) (tCons (tV 2) tNil))) (gName 5))
  (t_l_bad_pair_2 K W)))
theorem tm_l_bad_pair {P : Program} {w : World} {K : PySem.W.Frag} {mg : Str → Option Value} {base : Heap} {f : Addr} {cdv : Value} {A : Around} {outer : List Env} {s : Shared} {H : Hp} {E : XK} (T : Tx K mg) (GQ_l_integer : FnQu P w K mg base "_law_integer" 5 (sp_l_integer K)) (G_Table : Mks P w K mg base "Table" (He.ga K "Table") 7 [] (sp_Table_init K)) (G_l_strange : Fn P w K mg base "_law_strange" 7 [] (sp_l_strange K)) (G_l_take : Fn P w K mg base "_law_take" 5 [] (sp_l_take K)) (hr : Room 8 (A.deeper (envOfC "_law_bad_pair" (defScope s_l_bad_pair) s.heap.objs.size f cdv))) :
    PSs (cxOf (L2.CX P w) P w K mg base ["_law_bag_here", "_law_alphabet", "_law_signs_here", "_law_pairs_here", "_law_sign", "_law_strange_here", "_law_bad", "_law_at", "_law_rows", "_law_kept", "_law_told", "e"] "_law_bad_pair" (defScope s_l_bad_pair) f cdv A outer s H E) (defBody s_l_bad_pair) (t_l_bad_pair K (WD E)) :=
  (pss_cons (pset 4 sc_l_bad_pair.nd (pix (Ta.pv 2) (pcall G_l_take (hr.mono (by decide)) takesD (pa_cons (Ta.pv 0) (pa_cons (pcb (crlen) T.f_len (pa_cons (Ta.pv 2) pa_nil)) pa_nil)))))
  (pss_cons (pset 5 sc_l_bad_pair.nd (pcall G_l_strange (hr.mono (by decide)) takesD (pa_cons (Ta.pv 0) (pa_cons (Ta.pv 2) pa_nil))))
  (pss_imp (pss_cons (pset 6 sc_l_bad_pair.nd (pix (pe_lst (pa_cons (pe_tup (pa_cons (Ta.pv 5) (pa_cons (Ta.pv 4) pa_nil))) (pa_cons (pe_tup (pa_cons (Ta.pv 4) (pa_cons (Ta.pv 5) pa_nil))) (pa_cons (pe_tup (pa_cons (Ta.pv 5) (pa_cons (Ta.pv 5) pa_nil))) pa_nil)))) (pcall G_l_take (hr.mono (by decide)) takesD (pa_cons (Ta.pv 0) (pa_cons pe_int pa_nil)))))
  (pss_imp (pss_cons (pset 7 sc_l_bad_pair.nd (pcall G_l_take (hr.mono (by decide)) takesD (pa_cons (Ta.pv 0) (pa_cons (pe_op opadd (pcb (crlen) T.f_len (pa_cons (Ta.pv 3) pa_nil)) pe_int) pa_nil))))
  (pss_cons (pset 8 sc_l_bad_pair.nd (pe_op opadd (pe_op opadd (psl (Ta.pv 3) po_none (posome (Ta.pv 7))) (pe_lst (pa_cons (Ta.pv 6) pa_nil))) (psl (Ta.pv 3) (posome (Ta.pv 7)) po_none)))
  (pss_imp (pss_cons (psif (ptcmp (opeq hr.units) (pcall G_l_take (hr.mono (by decide)) takesD (pa_cons (Ta.pv 0) (pa_cons pe_int pa_nil))) pe_int) (pss_one (ps_expr (plm PySem.F.slot_list_append PySem.F.type_list_append mtapp (Ta.pv 8) (pa_cons (pe_tup (pa_cons (pcall G_l_strange (hr.mono (by decide)) takesD (pa_cons (Ta.pv 0) (pa_cons (Ta.pv 2) pa_nil))) (pa_cons (Ta.pv 4) pa_nil))) pa_nil)))) pss_nil)
  (pss_imp (pss_cons (pset 9 sc_l_bad_pair.nd (pct (crlistX rfl) T.f_list (pa_cons (Ta.pv 8) pa_nil)))
  (pss_cons (ps_try_as (i := 11) rfl rfl sc_l_bad_pair.nd rfl rfl (names_of T.v_BadPair) takesD (tb := fun W1 => (tAsg (tMak (He.ga K "Table") (sp_Table_init K) [] W1 (tCons (tV 1) (tCons (tV 8) tNil))) (gName 10))) (ts := fun a cls d => (tSeq (tIfP (tOrP (tNot (tTru K (tCB (zIsX K a cls d) (tCons (tV 11) (tCons (tC (.ref (He.ga K "TaleError"))) tNil))))) (tOrP (tNot (tTru K (tCB (zIsX K a cls d) (tCons (tV 11) (tCons (tC (.ty "ValueError")) tNil))))) (tTru K (tCB (zIsX K a cls d) (tCons (tV 11) (tCons (tC (.ref (He.ga K "BadEntry"))) tNil)))))) (tRet (tC (.bl false))) tNext)
  (tRet (tAndE K (tOp (zEqP K) (tV 8) (tV 9)) (tAndE K (tCal (sp_l_integer K) [] WF (tCons (tXat K a cls d "index" (tV 11)) tNil)) (tOp (zEqP K) (tXat K a cls d "index" (tV 11)) (tV 7))))))) (fun W1 pn xe tk1 _ => (pss_one (pset 10 sc_l_bad_pair.nd (pmak G_Table (hr.mono (by decide)) tk1 (pa_cons (Ta.pv 1) (pa_cons (Ta.pv 8) pa_nil)))))) (fun a oe cls d pn hz hf => (pss_cons (psif (PW.pt (pwor (pt_not (ptru (pcb (crisx hz hf) T.f_isinstance (pa_cons (Ta.pv 11) (pa_cons (pglo T.v_TaleError) pa_nil))))) (pwor (pt_not (ptru (pcb (crisx hz hf) T.f_isinstance (pa_cons (Ta.pv 11) (pa_cons (pbty T.f_ValueError) pa_nil))))) (pw_or1 (ptru (pcb (crisx hz hf) T.f_isinstance (pa_cons (Ta.pv 11) (pa_cons (pglo T.v_BadEntry) pa_nil)))))))) (pss_one (ps_ret pe_bl)) pss_nil)
  (pss_one (ps_ret (peand (pe_cmpR (opeq hr.units) (Ta.pv 8) (Ta.pv 9) rfl) (peand (pcallQ GQ_l_integer (roomQ hr (by decide)) ⟨_, List.mem_cons_self⟩ takes0 (pa_cons (pxat hz hf (Ta.pv 11)) pa_nil)) (pe_one (pe_cmpR (opeq hr.units) (pxat hz hf (Ta.pv 11)) (Ta.pv 7) rfl)))))))))
  (pss_one (ps_ret pe_bl)))) fun _ _ _ h => h.out)) fun _ _ _ h => h.out))) fun _ _ _ h => h.out)) fun _ _ _ h => h.out)))
/-! Table_identity -/
theorem sc_Table_identity : FnScope ["cls", "alphabet", "sign"] ["cls", "alphabet"] (defScope s_Table_identity) := ⟨rfl, rfl, rfl, by decide +kernel, rfl, by decide +kernel, by decide +kernel⟩
structure sp_Table_identity (K : PySem.W.Frag) (vs : List V) (H : Hp) (Q : VK) (E : XK) : Prop where
  out : ∃ (A dA : Addr) (l v : List Nat), vs = [.ref (He.ga K "Table"), .ref A] ∧ (H A = some (alo K dA l v)) ∧ (good l v) ∧ (∀ t H', Kp [] H H' → tabAt K H' t A (sg l) ((sg l).map fun c => [c]) → Q (.ref t) H')
theorem i_Table_identity {K : PySem.W.Frag} {A dA : Addr} {l v : List Nat} {H : Hp} {Q : VK} {E : XK} (hA : H A = some (alo K dA l v)) (hl : good l v) (q1 : ∀ t H', Kp [] H H' → tabAt K H' t A (sg l) ((sg l).map fun c => [c]) → Q (.ref t) H') : sp_Table_identity K [.ref (He.ga K "Table"), .ref A] H Q E := by
  exact ⟨⟨A, dA, l, v, rfl, hA, hl, q1⟩⟩
theorem d_Table_identity {K : PySem.W.Frag} {vs : List V} {H : Hp} {Q : VK} {E : XK} (h : sp_Table_identity K vs H Q E) : sp_Table_identity K vs H Q E := h


def t_Table_identity (K : PySem.W.Frag) (W : WX) : TS :=
  (tRet (tMkL 0 (He.ga K "Table") (sp_Table_init K) [] W (tCons (tV 1) (tCons (tLcP (jA K (tAt K (tV 1) "signs")) (gName 2) tYes (tTup (tCons (tV 2) (tCons (tV 2) tNil))) [2]) tNil))))
theorem tm_Table_identity {P : Program} {w : World} {K : PySem.W.Frag} {mg : Str → Option Value} {base : Heap} {f : Addr} {cdv : Value} {A : Around} {outer : List Env} {s : Shared} {H : Hp} {E : XK} (T : Tx K mg) (G_Table : Mks P w K mg base "Table" (He.ga K "Table") 7 [] (sp_Table_init K)) (hr : Room 8 (A.deeper (envOfC "Table.identity" (defScope s_Table_identity) s.heap.objs.size f cdv))) :
    PSs (cxOf (L2.CX P w) P w K mg base ["cls", "alphabet", "sign"] "Table.identity" (defScope s_Table_identity) f cdv A outer s H E) (defBody s_Table_identity) (t_Table_identity K (WD E)) :=
  (pss_one (ps_ret (pmkl (i := 0) G_Table (hr.mono (by decide)) takesD (pa_cons (Ta.pv 1) (pa_cons (plc [("sign", 2)] rfl sc_Table_identity.nd (pja (patt (Ta.pv 1))) (by kernel_rfl) (fun _ _ _ _ _ => (pgn 2 sc_Table_identity.nd)) (fun _ _ _ _ _ => pts_nil) (fun _ _ _ _ _ => (pe_tup (pa_cons (Ta.pv 2) (pa_cons (Ta.pv 2) pa_nil))))) pa_nil)))))
/-! Table_full -/
theorem sc_Table_full : FnScope ["cls", "alphabet", "told", "out"] ["cls", "alphabet"] (defScope s_Table_full) := ⟨rfl, rfl, rfl, by decide +kernel, rfl, by decide +kernel, by decide +kernel⟩
structure sp_Table_full (K : PySem.W.Frag) (vs : List V) (H : Hp) (Q : VK) (E : XK) : Prop where
  out : ∃ (A dA : Addr) (l v : List Nat), vs = [.ref (He.ga K "Table"), .ref A] ∧ (H A = some (alo K dA l v)) ∧ (good l v) ∧ (∀ t H', Kp [] H H' → tabAt K H' t A (sg l) ((sg l).map fun _ => sg l) → Q (.ref t) H')
theorem i_Table_full {K : PySem.W.Frag} {A dA : Addr} {l v : List Nat} {H : Hp} {Q : VK} {E : XK} (hA : H A = some (alo K dA l v)) (hl : good l v) (q1 : ∀ t H', Kp [] H H' → tabAt K H' t A (sg l) ((sg l).map fun _ => sg l) → Q (.ref t) H') : sp_Table_full K [.ref (He.ga K "Table"), .ref A] H Q E := by
  exact ⟨⟨A, dA, l, v, rfl, hA, hl, q1⟩⟩
theorem d_Table_full {K : PySem.W.Frag} {vs : List V} {H : Hp} {Q : VK} {E : XK} (h : sp_Table_full K vs H Q E) : sp_Table_full K vs H Q E := h


def t_Table_full (K : PySem.W.Frag) (W : WX) : TS :=
  (tRet (tMkL 0 (He.ga K "Table") (sp_Table_init K) [] W (tCons (tV 1) (tCons (tLc2P (jA K (tAt K (tV 1) "signs")) (gName 2) tYes (jA K (tAt K (tV 1) "signs")) (gName 3) tYes (tTup (tCons (tV 2) (tCons (tV 3) tNil))) [2, 3] [3]) tNil))))
theorem tm_Table_full {P : Program} {w : World} {K : PySem.W.Frag} {mg : Str → Option Value} {base : Heap} {f : Addr} {cdv : Value} {A : Around} {outer : List Env} {s : Shared} {H : Hp} {E : XK} (T : Tx K mg) (G_Table : Mks P w K mg base "Table" (He.ga K "Table") 7 [] (sp_Table_init K)) (hr : Room 8 (A.deeper (envOfC "Table.full" (defScope s_Table_full) s.heap.objs.size f cdv))) :
    PSs (cxOf (L2.CX P w) P w K mg base ["cls", "alphabet", "told", "out"] "Table.full" (defScope s_Table_full) f cdv A outer s H E) (defBody s_Table_full) (t_Table_full K (WD E)) :=
  (pss_one (ps_ret (pmkl (i := 0) G_Table (hr.mono (by decide)) takesD (pa_cons (Ta.pv 1) (pa_cons (plc2 [("told", 2), ("out", 3)] [3] rfl sc_Table_full.nd (pja (patt (Ta.pv 1))) (by kernel_rfl) (by decide) (fun _ _ _ _ _ => (pgn 2 sc_Table_full.nd)) (fun _ _ _ _ _ => pts_nil) (fun _ _ _ _ _ => (pja (patt (Ta.pv 1)))) (fun _ _ _ _ _ => (pgn 3 sc_Table_full.nd)) (fun _ _ _ _ _ => pts_nil) (fun _ _ _ _ _ => (pe_tup (pa_cons (Ta.pv 2) (pa_cons (Ta.pv 3) pa_nil))))) pa_nil)))))
/-! Table_empty -/
theorem sc_Table_empty : FnScope ["cls", "alphabet"] ["cls", "alphabet"] (defScope s_Table_empty) := ⟨rfl, rfl, rfl, by decide +kernel, rfl, by decide +kernel, by decide +kernel⟩
structure sp_Table_empty (K : PySem.W.Frag) (vs : List V) (H : Hp) (Q : VK) (E : XK) : Prop where
  out : ∃ (A dA : Addr) (l v : List Nat), vs = [.ref (He.ga K "Table"), .ref A] ∧ (H A = some (alo K dA l v)) ∧ (good l v) ∧ (∀ t H', Kp [] H H' → tabAt K H' t A (sg l) ((sg l).map fun _ => []) → Q (.ref t) H')
theorem i_Table_empty {K : PySem.W.Frag} {A dA : Addr} {l v : List Nat} {H : Hp} {Q : VK} {E : XK} (hA : H A = some (alo K dA l v)) (hl : good l v) (q1 : ∀ t H', Kp [] H H' → tabAt K H' t A (sg l) ((sg l).map fun _ => []) → Q (.ref t) H') : sp_Table_empty K [.ref (He.ga K "Table"), .ref A] H Q E := by
  exact ⟨⟨A, dA, l, v, rfl, hA, hl, q1⟩⟩
theorem d_Table_empty {K : PySem.W.Frag} {vs : List V} {H : Hp} {Q : VK} {E : XK} (h : sp_Table_empty K vs H Q E) : sp_Table_empty K vs H Q E := h


def t_Table_empty (K : PySem.W.Frag) (W : WX) : TS :=
  (tRet (tMkL 0 (He.ga K "Table") (sp_Table_init K) [] W (tCons (tV 1) (tCons (tLst tNil) tNil))))
theorem tm_Table_empty {P : Program} {w : World} {K : PySem.W.Frag} {mg : Str → Option Value} {base : Heap} {f : Addr} {cdv : Value} {A : Around} {outer : List Env} {s : Shared} {H : Hp} {E : XK} (T : Tx K mg) (G_Table : Mks P w K mg base "Table" (He.ga K "Table") 7 [] (sp_Table_init K)) (hr : Room 8 (A.deeper (envOfC "Table.empty" (defScope s_Table_empty) s.heap.objs.size f cdv))) :
    PSs (cxOf (L2.CX P w) P w K mg base ["cls", "alphabet"] "Table.empty" (defScope s_Table_empty) f cdv A outer s H E) (defBody s_Table_empty) (t_Table_empty K (WD E)) :=
  (pss_one (ps_ret (pmkl (i := 0) G_Table (hr.mono (by decide)) takesD (pa_cons (Ta.pv 1) (pa_cons (pe_lst pa_nil) pa_nil)))))
/-! _law_named -/
theorem sc_l_named : FnScope ["_law_alphabet", "_law_signs_here", "_law_sign"] ["_law_alphabet", "_law_signs_here"] (defScope s_l_named) := ⟨rfl, rfl, rfl, by decide +kernel, rfl, by decide +kernel, by decide +kernel⟩
structure sp_l_named (K : PySem.W.Frag) (vs : List V) (H : Hp) (Q : VK) (E : XK) : Prop where
  out : ∃ (A dA : Addr) (l v : List Nat), vs = [.ref A, .str (S (sg l))] ∧ (H A = some (alo K dA l v)) ∧ (good l v) ∧ (∀ H', Kp [] H H' → Q (.bl true) H')
theorem i_l_named {K : PySem.W.Frag} {A dA : Addr} {l v : List Nat} {H : Hp} {Q : VK} {E : XK} (hA : H A = some (alo K dA l v)) (hl : good l v) (q1 : ∀ H', Kp [] H H' → Q (.bl true) H') : sp_l_named K [.ref A, .str (S (sg l))] H Q E := by
  exact ⟨⟨A, dA, l, v, rfl, hA, hl, q1⟩⟩
theorem d_l_named {K : PySem.W.Frag} {vs : List V} {H : Hp} {Q : VK} {E : XK} (h : sp_l_named K vs H Q E) : sp_l_named K vs H Q E := h


def t_l_named (K : PySem.W.Frag) (W : WX) : TS :=
  (tSeq (tIfP (tNot (tTru K (tCal (sp_l_is K) [] W (tCons (tCme (He.ga K "Table") (sp_Table_identity K) [] W (tC (.ref (He.ga K "Table"))) (tCons (tV 0) tNil)) (tCons (tV 1) (tCons (tLcP (jA K (tV 1)) (gName 2) tYes (tV 2) [2]) tNil)))))) (tRet (tC (.bl false))) tNext)
  (tSeq (tIfP (tNot (tTru K (tCal (sp_l_is K) [] W (tCons (tCme (He.ga K "Table") (sp_Table_full K) [] W (tC (.ref (He.ga K "Table"))) (tCons (tV 0) tNil)) (tCons (tV 1) (tCons (tLcP (jA K (tV 1)) (gName 2) tYes (tV 1) [2]) tNil)))))) (tRet (tC (.bl false))) tNext)
  (tRet (tCal (sp_l_is K) [] W (tCons (tCme (He.ga K "Table") (sp_Table_empty K) [] W (tC (.ref (He.ga K "Table"))) (tCons (tV 0) tNil)) (tCons (tV 1) (tCons (tLcP (jA K (tV 1)) (gName 2) tYes (tC (.str (S []))) [2]) tNil)))))))
theorem tm_l_named {P : Program} {w : World} {K : PySem.W.Frag} {mg : Str → Option Value} {base : Heap} {f : Addr} {cdv : Value} {A : Around} {outer : List Env} {s : Shared} {H : Hp} {E : XK} (T : Tx K mg) (G_Table_empty : Cmt P w K mg base (He.ga K "Table") "empty" 9 [] (sp_Table_empty K)) (G_Table_full : Cmt P w K mg base (He.ga K "Table") "full" 9 [] (sp_Table_full K)) (G_Table_identity : Cmt P w K mg base (He.ga K "Table") "identity" 9 [] (sp_Table_identity K)) (G_l_is : Fn P w K mg base "_law_is" 12 [] (sp_l_is K)) (hr : Room 13 (A.deeper (envOfC "_law_named" (defScope s_l_named) s.heap.objs.size f cdv))) :
    PSs (cxOf (L2.CX P w) P w K mg base ["_law_alphabet", "_law_signs_here", "_law_sign"] "_law_named" (defScope s_l_named) f cdv A outer s H E) (defBody s_l_named) (t_l_named K (WD E)) :=
  (pss_cons (psif (pt_not (ptru (pcall G_l_is (hr.mono (by decide)) takesD (pa_cons (pcme G_Table_identity (hr.mono (by decide)) takesD (pglo T.v_Table) (pa_cons (Ta.pv 0) pa_nil)) (pa_cons (Ta.pv 1) (pa_cons (plc [("_law_sign", 2)] rfl sc_l_named.nd (pja (Ta.pv 1)) (by kernel_rfl) (fun _ _ _ _ _ => (pgn 2 sc_l_named.nd)) (fun _ _ _ _ _ => pts_nil) (fun _ _ _ _ _ => (Ta.pv 2))) pa_nil)))))) (pss_one (ps_ret pe_bl)) pss_nil)
  (pss_cons (psif (pt_not (ptru (pcall G_l_is (hr.mono (by decide)) takesD (pa_cons (pcme G_Table_full (hr.mono (by decide)) takesD (pglo T.v_Table) (pa_cons (Ta.pv 0) pa_nil)) (pa_cons (Ta.pv 1) (pa_cons (plc [("_law_sign", 2)] rfl sc_l_named.nd (pja (Ta.pv 1)) (by kernel_rfl) (fun _ _ _ _ _ => (pgn 2 sc_l_named.nd)) (fun _ _ _ _ _ => pts_nil) (fun _ _ _ _ _ => (Ta.pv 1))) pa_nil)))))) (pss_one (ps_ret pe_bl)) pss_nil)
  (pss_one (ps_ret (pcall G_l_is (hr.mono (by decide)) takesD (pa_cons (pcme G_Table_empty (hr.mono (by decide)) takesD (pglo T.v_Table) (pa_cons (Ta.pv 0) pa_nil)) (pa_cons (Ta.pv 1) (pa_cons (plc [("_law_sign", 2)] rfl sc_l_named.nd (pja (Ta.pv 1)) (by kernel_rfl) (fun _ _ _ _ _ => (pgn 2 sc_l_named.nd)) (fun _ _ _ _ _ => pts_nil) (fun _ _ _ _ _ => (pstr []))) pa_nil))))))))
/-! _law_bag -/
theorem sc_l_bag : FnScope ["_law_script", "_law_great", "_law_cell", "_law_small"] ["_law_script"] (defScope s_l_bag) := ⟨rfl, rfl, rfl, by decide +kernel, rfl, by decide +kernel, by decide +kernel⟩
structure sp_l_bag (K : PySem.W.Frag) (vs : List V) (H : Hp) (Q : VK) (E : XK) : Prop where
  out : ∃ (p : Addr) (ob : Obj) (ns : List Int), vs = [.ref p] ∧ (H p = some (scr ob ns)) ∧ (ns.length < 1000) ∧ (∀ b g s H', Kp [] H H' → H b = none → H g = none → H s = none → bx H' b g s 0 → Q (.ref b) H')
theorem i_l_bag {K : PySem.W.Frag} {p : Addr} {ob : Obj} {ns : List Int} {H : Hp} {Q : VK} {E : XK} (hp : H p = some (scr ob ns)) (h1 : ns.length < 1000) (q1 : ∀ b g s H', Kp [] H H' → H b = none → H g = none → H s = none → bx H' b g s 0 → Q (.ref b) H') : sp_l_bag K [.ref p] H Q E := by
  exact ⟨⟨p, ob, ns, rfl, hp, h1, q1⟩⟩
theorem d_l_bag {K : PySem.W.Frag} {vs : List V} {H : Hp} {Q : VK} {E : XK} (h : sp_l_bag K vs H Q E) : sp_l_bag K vs H Q E := h


def t_l_bag (K : PySem.W.Frag) (W : WX) : TS :=
  (tSeq (tAsg (tLcP (jA K (tSl (zSlP K) (tV 0) tNoPart (tPrt (tC (.int 63))))) (gName 2) (tTst (tOp zGt (tV 2) (tOp zPow (tC (.int 10)) (tC (.int 18))))) (tOp zSub (tCB (zInt) (tCons (tV 2) tNil)) (tOp zPow (tC (.int 10)) (tC (.int 18)))) [2]) (gName 1))
  (tSeq (tAsg (tLcP (jA K (tSl (zSlP K) (tV 0) tNoPart (tPrt (tC (.int 63))))) (gName 2) (tTst (tOp zLe (tV 2) (tOp zPow (tC (.int 10)) (tC (.int 18))))) (tOp zMod (tCB (zInt) (tCons (tV 2) tNil)) (tC (.int 2147483647))) [2]) (gName 3))
  (tRet (tLst (tCons (tV 1) (tCons (tV 3) (tCons (tC (.int 0)) (tCons (tC (.int 11)) tNil))))))))
theorem tm_l_bag {P : Program} {w : World} {K : PySem.W.Frag} {mg : Str → Option Value} {base : Heap} {f : Addr} {cdv : Value} {A : Around} {outer : List Env} {s : Shared} {H : Hp} {E : XK} (T : Tx K mg) (hr : Room 4 (A.deeper (envOfC "_law_bag" (defScope s_l_bag) s.heap.objs.size f cdv))) :
    PSs (cxOf (L2.CX P w) P w K mg base ["_law_script", "_law_great", "_law_cell", "_law_small"] "_law_bag" (defScope s_l_bag) f cdv A outer s H E) (defBody s_l_bag) (t_l_bag K (WD E)) :=
  (pss_cons (pslc (i := 1) [("_law_cell", 2)] rfl sc_l_bag.nd rfl rfl (sw_true rfl rfl rfl (by decide +kernel)) (pja (psl (Ta.pv 0) po_none (posome pe_int))) (by kernel_rfl) (fun _ _ _ _ _ => (pgn 2 sc_l_bag.nd)) (fun _ _ _ _ _ => (pts_one (ptcmp opgt (Ta.pv 2) (pe_op oppow pe_int pe_int)))) (fun _ _ _ _ _ => (pe_op opsub (pct (crint) T.f_int (pa_cons (Ta.pv 2) pa_nil)) (pe_op oppow pe_int pe_int))))
  (pss_cons (pslc (i := 3) [("_law_cell", 2)] rfl sc_l_bag.nd rfl rfl (sw_true rfl rfl rfl (by decide +kernel)) (pja (psl (Ta.pv 0) po_none (posome pe_int))) (by kernel_rfl) (fun _ _ _ _ _ => (pgn 2 sc_l_bag.nd)) (fun _ _ _ _ _ => (pts_one (ptcmp ople (Ta.pv 2) (pe_op oppow pe_int pe_int)))) (fun _ _ _ _ _ => (pe_op opmod (pct (crint) T.f_int (pa_cons (Ta.pv 2) pa_nil)) pe_int)))
  (pss_one (ps_ret (pe_lst (pa_cons (Ta.pv 1) (pa_cons (Ta.pv 3) (pa_cons pe_int (pa_cons pe_int pa_nil)))))))))
/-! _law_names -/
theorem sc_l_names : FnScope ["_law_bag_here", "_law_count", "_law_rest", "_law_letters", "_law_vowels", "_law_k", "_law_at"] ["_law_bag_here", "_law_count"] (defScope s_l_names) := ⟨rfl, rfl, rfl, by decide +kernel, rfl, by decide +kernel, by decide +kernel⟩
structure sp_l_names (K : PySem.W.Frag) (vs : List V) (H : Hp) (Q : VK) (E : XK) : Prop where
  out : ∃ (b g s : Addr) (n : Int) (c : Nat), vs = [.ref b, .int (c : Int)] ∧ (bx H b g s n) ∧ (n < 800000) ∧ (1 ≤ c ∧ c ≤ 4) ∧ (∀ r l v n' H', good l v → l.length = c → Kp [b, g] H H' → n ≤ n' → n' ≤ n + 8 → bx H' b g s n' → H r = none → H' r = some (.lst [.str (S l), .str (S v)]) → Q (.ref r) H')
theorem i_l_names {K : PySem.W.Frag} {b g s : Addr} {n : Int} {c : Nat} {u0 : Int} {H : Hp} {Q : VK} {E : XK} (e_u0 : u0 = (c : Int)) (hb : bx H b g s n) (hk : n < 800000) (hz : 1 ≤ c ∧ c ≤ 4) (q1 : ∀ r l v n' H', good l v → l.length = c → Kp [b, g] H H' → n ≤ n' → n' ≤ n + 8 → bx H' b g s n' → H r = none → H' r = some (.lst [.str (S l), .str (S v)]) → Q (.ref r) H') : sp_l_names K [.ref b, .int u0] H Q E := by
  subst e_u0; exact ⟨⟨b, g, s, n, c, rfl, hb, hk, hz, q1⟩⟩
theorem d_l_names {K : PySem.W.Frag} {vs : List V} {H : Hp} {Q : VK} {E : XK} (h : sp_l_names K vs H Q E) : sp_l_names K vs H Q E := h


def b_l_names_1 (K : PySem.W.Frag) (W : WX) : TS :=
  (tSeq (tAsg (tCal (sp_l_take K) [] W (tCons (tV 0) (tCons (tCB (zLen K) (tCons (tV 2) tNil)) tNil))) (gName 6))
  (tSeq (tAsg (tOp zAdd (tV 3) (tOp (zIxP K) (tV 2) (tV 6))) (gName 3))
  (tSeq (tIfP (tTst (tOp (zEqP K) (tCal (sp_l_take K) [] W (tCons (tV 0) (tCons (tC (.int 2)) tNil))) (tC (.int 1)))) (tAsg (tOp zAdd (tOp (zIxP K) (tV 2) (tV 6)) (tV 4)) (gName 4)) tNext)
  (tAsg (tOp zAdd (tSl (zSlP K) (tV 2) tNoPart (tPrt (tV 6))) (tSl (zSlP K) (tV 2) (tPrt (tOp zAdd (tV 6) (tC (.int 1)))) tNoPart)) (gName 2)))))
def t_l_names (K : PySem.W.Frag) (W : WX) : TS :=
  (tSeq (tAsg (tC (.str (S [97, 98, 99, 100, 101, 102, 103, 104, 105, 106, 107, 108, 109, 110, 111, 112, 113, 114, 115, 116, 117, 118, 119, 120, 121, 122]))) (gName 2))
  (tSeq (tAsg (tC (.str (S []))) (gName 3))
  (tSeq (tAsg (tC (.str (S []))) (gName 4))
  (tSeq (tForP (jR1 (tCons (tV 1) tNil)) (gName 5) (b_l_names_1 K W))
  (tRet (tLst (tCons (tV 3) (tCons (tV 4) tNil))))))))
theorem tm_l_names {P : Program} {w : World} {K : PySem.W.Frag} {mg : Str → Option Value} {base : Heap} {f : Addr} {cdv : Value} {A : Around} {outer : List Env} {s : Shared} {H : Hp} {E : XK} (T : Tx K mg) (G_l_take : Fn P w K mg base "_law_take" 5 [] (sp_l_take K)) (hr : Room 6 (A.deeper (envOfC "_law_names" (defScope s_l_names) s.heap.objs.size f cdv))) :
    PSs (cxOf (L2.CX P w) P w K mg base ["_law_bag_here", "_law_count", "_law_rest", "_law_letters", "_law_vowels", "_law_k", "_law_at"] "_law_names" (defScope s_l_names) f cdv A outer s H E) (defBody s_l_names) (t_l_names K (WD E)) :=
  (pss_cons (pset 2 sc_l_names.nd (pstr [97, 98, 99, 100, 101, 102, 103, 104, 105, 106, 107, 108, 109, 110, 111, 112, 113, 114, 115, 116, 117, 118, 119, 120, 121, 122]))
  (pss_cons (pset 3 sc_l_names.nd (pstr []))
  (pss_cons (pset 4 sc_l_names.nd (pstr []))
  (pss_cons (psfor ownD rfl (pjr1 T.f_range (pa_cons (Ta.pv 1) pa_nil)) (pgn 5 sc_l_names.nd) (pss_cons (pset 6 sc_l_names.nd (pcall G_l_take (hr.mono (by decide)) takesD (pa_cons (Ta.pv 0) (pa_cons (pcb (crlen) T.f_len (pa_cons (Ta.pv 2) pa_nil)) pa_nil))))
  (pss_cons (pset 3 sc_l_names.nd (pe_op opadd (Ta.pv 3) (pix (Ta.pv 2) (Ta.pv 6))))
  (pss_cons (psif (ptcmp (opeq hr.units) (pcall G_l_take (hr.mono (by decide)) takesD (pa_cons (Ta.pv 0) (pa_cons pe_int pa_nil))) pe_int) (pss_one (pset 4 sc_l_names.nd (pe_op opadd (pix (Ta.pv 2) (Ta.pv 6)) (Ta.pv 4)))) pss_nil)
  (pss_one (pset 2 sc_l_names.nd (pe_op opadd (psl (Ta.pv 2) po_none (posome (Ta.pv 6))) (psl (Ta.pv 2) (posome (pe_op opadd (Ta.pv 6) pe_int)) po_none))))))))
  (pss_one (ps_ret (pe_lst (pa_cons (Ta.pv 3) (pa_cons (Ta.pv 4) pa_nil)))))))))
/-! _law_signs -/
theorem sc_l_signs : FnScope ["_law_letters", "_law_one"] ["_law_letters"] (defScope s_l_signs) := ⟨rfl, rfl, rfl, by decide +kernel, rfl, by decide +kernel, by decide +kernel⟩
structure sp_l_signs (K : PySem.W.Frag) (vs : List V) (H : Hp) (Q : VK) (E : XK) : Prop where
  out : ∃ (l : List Nat), vs = [.str (S l)] ∧ (l.length < 60) ∧ (∀ H', Kp [] H H' → Q (.str (S (sg l))) H')
theorem i_l_signs {K : PySem.W.Frag} {l : List Nat} {H : Hp} {Q : VK} {E : XK} (h1 : l.length < 60) (q1 : ∀ H', Kp [] H H' → Q (.str (S (sg l))) H') : sp_l_signs K [.str (S l)] H Q E := by
  exact ⟨⟨l, rfl, h1, q1⟩⟩
theorem d_l_signs {K : PySem.W.Frag} {vs : List V} {H : Hp} {Q : VK} {E : XK} (h : sp_l_signs K vs H Q E) : sp_l_signs K vs H Q E := h


def t_l_signs (K : PySem.W.Frag) (W : WX) : TS :=
  (tRet (tOp zAdd (tC (.str (S [45]))) (tSM (zJoin K) (tC (.str (S []))) (tCons (tCB (zSort2) (tCons (tLcP (jA K (tV 0)) (gName 1) tYes (tCB (zStr K) (tCons (tV 1) tNil)) [1]) tNil)) tNil))))
theorem tm_l_signs {P : Program} {w : World} {K : PySem.W.Frag} {mg : Str → Option Value} {base : Heap} {f : Addr} {cdv : Value} {A : Around} {outer : List Env} {s : Shared} {H : Hp} {E : XK} (T : Tx K mg) (hr : Room 4 (A.deeper (envOfC "_law_signs" (defScope s_l_signs) s.heap.objs.size f cdv))) :
    PSs (cxOf (L2.CX P w) P w K mg base ["_law_letters", "_law_one"] "_law_signs" (defScope s_l_signs) f cdv A outer s H E) (defBody s_l_signs) (t_l_signs K (WD E)) :=
  (pss_one (ps_ret (pe_op opadd (pstr [45]) (psm PySem.F.slot_str_join PySem.F.type_str_join mtjoin (pstr []) (pa_cons (pcb (crsort2 rfl) T.f_sorted (pa_cons (plc [("_law_one", 1)] rfl sc_l_signs.nd (pja (Ta.pv 0)) (by kernel_rfl) (fun _ _ _ _ _ => (pgn 1 sc_l_signs.nd)) (fun _ _ _ _ _ => pts_nil) (fun _ _ _ _ _ => (pct (crstr) T.f_str (pa_cons (Ta.pv 1) pa_nil)))) pa_nil)) pa_nil)))))
/-! all_different -/
theorem sc_all_different : FnScope ["string"] ["string"] (defScope s_all_different) := ⟨rfl, rfl, rfl, by decide +kernel, rfl, by decide +kernel, by decide +kernel⟩
structure sp_all_different (K : PySem.W.Frag) (vs : List V) (H : Hp) (Q : VK) (E : XK) : Prop where
  out : ∃ (l : List Nat), vs = [.str (S l)] ∧ l.length < 4000 ∧ Q (.bl (dif l)) H
theorem i_all_different {K : PySem.W.Frag} {l : List Nat} {H : Hp} {Q : VK} {E : XK} (h : l.length < 4000) (q : Q (.bl (dif l)) H) : sp_all_different K [.str (S l)] H Q E := by
  exact ⟨⟨l, rfl, h, q⟩⟩

def t_all_different (K : PySem.W.Frag) (W : WX) : TS :=
  (tRet (tOp (zEqP K) (tLset (tV 0)) (tCB (zLen K) (tCons (tV 0) tNil))))
theorem tm_all_different {P : Program} {w : World} {K : PySem.W.Frag} {mg : Str → Option Value} {base : Heap} {f : Addr} {cdv : Value} {A : Around} {outer : List Env} {s : Shared} {H : Hp} {E : XK} (T : Tx K mg) (hr : Room 4 (A.deeper (envOfC "all_different" (defScope s_all_different) s.heap.objs.size f cdv))) :
    PSs (cxOf (L2.CX P w) P w K mg base ["string"] "all_different" (defScope s_all_different) f cdv A outer s H E) (defBody s_all_different) (t_all_different K (WD E)) :=
  (pss_one (ps_ret (pe_cmpR (opeq hr.units) (plset rfl T.f_len T.f_set (Ta.pv 0)) (pcb (crlen) T.f_len (pa_cons (Ta.pv 0) pa_nil)) rfl)))
/-! Alphabet___init__ -/
theorem sc_Alphabet_init : FnScope ["self", "letters", "vowels", "foreign", "sign"] ["self", "letters", "vowels"] (defScope s_Alphabet_init) := ⟨rfl, rfl, rfl, by decide +kernel, rfl, by decide +kernel, by decide +kernel⟩
structure sp_Alphabet_init (K : PySem.W.Frag) (vs : List V) (H : Hp) (Q : VK) (E : XK) : Prop where
  out : ∃ (a dx : Addr) (l v : List Nat), vs = [.ref a, .str (S l), .str (S v)] ∧ H a = some (.ins (He.ga K "Alphabet") dx []) ∧ l.length < 64 ∧ v.length < 64 ∧
  (badL l = true → ∀ H' d, Kp [] H H' → H' d = none → E (.ref (He.ga K "BadAlphabet")) (some d) (upd H' d (.xd [("part", .str (S tLet))]))) ∧
  (badL l = false → badV l v = true → ∀ H' d, Kp [] H H' → H' d = none → E (.ref (He.ga K "BadAlphabet")) (some d) (upd H' d (.xd [("part", .str (S tVow))]))) ∧
  (badL l = false → badV l v = false → ∀ H', Kp [a] H H' → H' a = some (.ins (He.ga K "Alphabet") dx (alf l v)) → Q .non H')
theorem i_Alphabet_init {K : PySem.W.Frag} {a dx : Addr} {l v : List Nat} {H : Hp} {Q : VK} {E : XK} (ha : H a = some (.ins (He.ga K "Alphabet") dx [])) (h1 : l.length < 64) (h2 : v.length < 64)
  (q1 : badL l = true → ∀ H' d, Kp [] H H' → H' d = none → E (.ref (He.ga K "BadAlphabet")) (some d) (upd H' d (.xd [("part", .str (S tLet))])))
  (q2 : badL l = false → badV l v = true → ∀ H' d, Kp [] H H' → H' d = none → E (.ref (He.ga K "BadAlphabet")) (some d) (upd H' d (.xd [("part", .str (S tVow))])))
  (q3 : badL l = false → badV l v = false → ∀ H', Kp [a] H H' → H' a = some (.ins (He.ga K "Alphabet") dx (alf l v)) → Q .non H') : sp_Alphabet_init K [.ref a, .str (S l), .str (S v)] H Q E := by
  exact ⟨⟨a, dx, l, v, rfl, ha, h1, h2, q1, q2, q3⟩⟩
/-- good letters and vowels -/
theorem g_Alphabet_init {K : PySem.W.Frag} {a dx : Addr} {l v : List Nat} {H : Hp} {Q : VK} {E : XK} (ha : H a = some (.ins (He.ga K "Alphabet") dx [])) (h1 : l.length < 64) (h2 : v.length < 64) (e1 : badL l = false) (e2 : badV l v = false)
  (q3 : ∀ H', Kp [a] H H' → H' a = some (.ins (He.ga K "Alphabet") dx (alf l v)) → Q .non H') : sp_Alphabet_init K [.ref a, .str (S l), .str (S v)] H Q E := by
  refine i_Alphabet_init ha h1 h2 (fun z => ?_) (fun _ z => ?_) fun _ _ => q3
  · rw [e1] at z; cases z
  · rw [e2] at z; cases z

def t_Alphabet_init (K : PySem.W.Frag) (W : WX) : TS :=
  (tSeq (tAsg (tLcP (jA K (tV 1)) (gName 4) (tTst (tOp (zNinP K) (tV 4) (tC (.str (S [97, 98, 99, 100, 101, 102, 103, 104, 105, 106, 107, 108, 109, 110, 111, 112, 113, 114, 115, 116, 117, 118, 119, 120, 121, 122]))))) (tV 4) [4]) (gName 3))
  (tSeq (tIfP (tOrP (tTru K (tV 3)) (tOrP (tNot (tTst (tChn zLe zLe (tC (.int 1)) (tCB (zLen K) (tCons (tV 1) tNil)) (tC (.int 4))))) (tNot (tTru K (tCal (sp_all_different K) [] W (tCons (tV 1) tNil)))))) (tRs (He.ga K "BadAlphabet") ["part"] W (tCons (tC (.str (S [108, 101, 116, 116, 101, 114, 115]))) tNil)) tNext)
  (tSeq (tIfP (tOrP (tTru K (tLcP (jA K (tV 2)) (gName 4) (tTst (tOp (zNinP K) (tV 4) (tV 1))) (tV 4) [4])) (tNot (tTru K (tCal (sp_all_different K) [] W (tCons (tV 2) tNil))))) (tRs (He.ga K "BadAlphabet") ["part"] W (tCons (tC (.str (S [118, 111, 119, 101, 108, 115]))) tNil)) tNext)
  (tSeq (sAt K (tV 0) (tSM (zJoin K) (tC (.str (S []))) (tCons (tCB (zSort1) (tCons (tV 1) tNil)) tNil)) "letters")
  (tSeq (sAt K (tV 0) (tSM (zJoin K) (tC (.str (S []))) (tCons (tCB (zSort1) (tCons (tV 2) tNil)) tNil)) "vowels")
  (tSeq (sAt K (tV 0) (tSM (zJoin K) (tC (.str (S []))) (tCons (tLcP (jA K (tCB (zSort1) (tCons (tV 1) tNil))) (gName 4) (tTst (tOp (zNinP K) (tV 4) (tV 2))) (tV 4) [4]) tNil)) "consonants")
  (sAt K (tV 0) (tOp zAdd (tC (.str (S [45]))) (tAt K (tV 0) "letters")) "signs")))))))
theorem tm_Alphabet_init {P : Program} {w : World} {K : PySem.W.Frag} {mg : Str → Option Value} {base : Heap} {f : Addr} {cdv : Value} {A : Around} {outer : List Env} {s : Shared} {H : Hp} {E : XK} (T : Tx K mg) (G_all_different : Fn P w K mg base "all_different" 5 [] (sp_all_different K)) (X_BadAlphabet : Ex P w K mg base "BadAlphabet" (He.ga K "BadAlphabet") ["part"]) (hr : Room 6 (A.deeper (envOfC "Alphabet.__init__" (defScope s_Alphabet_init) s.heap.objs.size f cdv))) :
    PSs (cxOf (L2.CX P w) P w K mg base ["self", "letters", "vowels", "foreign", "sign"] "Alphabet.__init__" (defScope s_Alphabet_init) f cdv A outer s H E) (defBody s_Alphabet_init) (t_Alphabet_init K (WD E)) :=
  (pss_cons (pslc (i := 3) [("sign", 4)] rfl sc_Alphabet_init.nd rfl rfl (sw_true rfl rfl rfl (by decide +kernel)) (pja (Ta.pv 1)) (by kernel_rfl) (fun _ _ _ _ _ => (pgn 4 sc_Alphabet_init.nd)) (fun _ _ _ _ _ => (pts_one (ptcmp opnin (Ta.pv 4) (pglo T.v_SMALL)))) (fun _ _ _ _ _ => (Ta.pv 4)))
  (pss_cons (psif (PW.pt (pwor (ptru (Ta.pv 3)) (pwor (pt_not (ptchn ople ople pe_int (pcb (crlen) T.f_len (pa_cons (Ta.pv 1) pa_nil)) (pclv T.cc_Alphabet_MOST))) (pw_or1 (pt_not (ptru (pcall G_all_different (hr.mono (by decide)) takesD (pa_cons (Ta.pv 1) pa_nil)))))))) (pss_one (praise X_BadAlphabet (hr.mono (by decide)) takesD (pa_cons (pstr [108, 101, 116, 116, 101, 114, 115]) pa_nil))) pss_nil)
  (pss_cons (psif (PW.pt (pwor (ptru (plc [("sign", 4)] rfl sc_Alphabet_init.nd (pja (Ta.pv 2)) (by kernel_rfl) (fun _ _ _ _ _ => (pgn 4 sc_Alphabet_init.nd)) (fun _ _ _ _ _ => (pts_one (ptcmp opnin (Ta.pv 4) (Ta.pv 1)))) (fun _ _ _ _ _ => (Ta.pv 4)))) (pw_or1 (pt_not (ptru (pcall G_all_different (hr.mono (by decide)) takesD (pa_cons (Ta.pv 2) pa_nil))))))) (pss_one (praise X_BadAlphabet (hr.mono (by decide)) takesD (pa_cons (pstr [118, 111, 119, 101, 108, 115]) pa_nil))) pss_nil)
  (pss_cons (psat (Ta.pv 0) (psm PySem.F.slot_str_join PySem.F.type_str_join mtjoin (pstr []) (pa_cons (pcb (crsort rfl) T.f_sorted (pa_cons (Ta.pv 1) pa_nil)) pa_nil)))
  (pss_cons (psat (Ta.pv 0) (psm PySem.F.slot_str_join PySem.F.type_str_join mtjoin (pstr []) (pa_cons (pcb (crsort rfl) T.f_sorted (pa_cons (Ta.pv 2) pa_nil)) pa_nil)))
  (pss_cons (psat (Ta.pv 0) (psm PySem.F.slot_str_join PySem.F.type_str_join mtjoin (pstr []) (pa_cons (plc [("sign", 4)] rfl sc_Alphabet_init.nd (pja (pcb (crsort rfl) T.f_sorted (pa_cons (Ta.pv 1) pa_nil))) (by kernel_rfl) (fun _ _ _ _ _ => (pgn 4 sc_Alphabet_init.nd)) (fun _ _ _ _ _ => (pts_one (ptcmp opnin (Ta.pv 4) (Ta.pv 2)))) (fun _ _ _ _ _ => (Ta.pv 4))) pa_nil)))
  (pss_one (psat (Ta.pv 0) (pe_op opadd (pclv T.cc_Alphabet_JOINT) (patt (Ta.pv 0)))))))))))
/-! law -/
theorem sc_law : FnScope ["_law_script", "_law_bag_here", "_law_change", "_law_many", "_law_beside", "_law_names_here", "_law_signs_here", "_law_alphabet", "_law_pairs_here", "_law_outs_here", "_law_handed", "_law_table", "_law_told", "_law_more", "_law_strange_here", "_law_entries", "_law_written_here"] ["_law_script"] (defScope s_law) := ⟨rfl, rfl, rfl, by decide +kernel, rfl, by decide +kernel, by decide +kernel⟩
structure sp_law (K : PySem.W.Frag) (vs : List V) (H : Hp) (Q : VK) (E : XK) : Prop where
  out : ∃ (p : Addr) (ob : Obj) (ns : List Int), vs = [.ref p] ∧ H p = some (scr ob ns) ∧ ns.length < 1000 ∧ ∀ H', Q (.bl true) H'

structure t_law_23 (K : PySem.W.Frag) (W : WX) (D : Ends) (σ : L2.St) (H : Hp) : Prop where
  out : (tSeq (tAsg (tCal (sp_l_written K) [] W (tCons (tV 6) (tCons (tV 9) tNil))) (gName 15))
  (tSeq (tIfP (tOrP (tNot (tTst (tOp (zOwn (He.ga K "Table") (sp_Table_eq K)) (tCme (He.ga K "Table") (sp_Table_read K) [] W (tC (.ref (He.ga K "Table"))) (tCons (tV 7) (tCons (tSM (zJoin K) (tC (.str (S [32]))) (tCons (tV 15) tNil)) tNil))) (tV 11)))) (tNot (tTru K (tCal (sp_l_reads K) [] W (tCons (tV 7) (tCons (tV 6) (tCons (tSM (zJoin K) (tC (.str (S [32]))) (tCons (tV 15) tNil)) tNil))))))) (tRet (tC (.bl false))) tNext)
  (tSeq (tAsg (tSM (zJoin K) (tC (.str (S [32]))) (tCons (tCal (sp_l_changed K) [] W (tCons (tV 1) (tCons (tV 2) (tCons (tV 15) (tCons (tV 6) tNil))))) tNil)) (gName 16))
  (tRet (tAndE K (tCal (sp_l_reads K) [] W (tCons (tV 7) (tCons (tV 6) (tCons (tV 16) tNil)))) (tCal (sp_l_is K) [] W (tCons (tV 11) (tCons (tV 6) (tCons (tV 9) tNil))))))))) D σ H
structure t_law_18 (K : PySem.W.Frag) (W : WX) (D : Ends) (σ : L2.St) (H : Hp) : Prop where
  out : (tSeq (tAsg (tCal (sp_l_pairs K) [] W (tCons (tV 1) (tCons (tV 6) (tCons (tV 4) tNil)))) (gName 13))
  (tSeq (tIfP (tNot (tTru K (tCal (sp_l_is K) [] W (tCons (tMak (He.ga K "Table") (sp_Table_init K) [] W (tCons (tV 7) (tCons (tV 13) tNil))) (tCons (tV 6) (tCons (tCal (sp_l_outs K) [] W (tCons (tV 6) (tCons (tV 13) tNil))) tNil)))))) (tRet (tC (.bl false))) tNext)
  (tSeq (tAsg (tCal (sp_l_strange K) [] W (tCons (tV 1) (tCons (tV 6) tNil))) (gName 14))
  (tSeq (tIfP (tOrP (tNot (tTru K (tCal (sp_l_no_sign K) [] W (tCons (tV 11) (tCons (tV 14) tNil))))) (tNot (tTru K (tCal (sp_l_no_pairs K) [] W (tCons (tV 11) (tCons (tV 6) (tCons (tV 14) tNil))))))) (tRet (tC (.bl false))) tNext)
  (tSeq (tIfP (tOrP (tNot (tTru K (tCal (sp_l_bad_pair K) [] W (tCons (tV 1) (tCons (tV 7) (tCons (tV 6) (tCons (tV 8) tNil))))))) (tNot (tTru K (tCal (sp_l_named K) [] W (tCons (tV 7) (tCons (tV 6) tNil)))))) (tRet (tC (.bl false))) tNext)
  (t_law_23 K W)))))) D σ H
structure t_law_11 (K : PySem.W.Frag) (W : WX) (D : Ends) (σ : L2.St) (H : Hp) : Prop where
  out : (tSeq (tIfP (tOrP (tTst (tOp (zNeP K) (tV 10) (tV 8))) (tNot (tTst (tOp (zOwn (He.ga K "Alphabet") (sp_Alphabet_eq K)) (tAt K (tV 11) "alphabet") (tV 7))))) (tRet (tC (.bl false))) tNext)
  (tSeq (tDrop (tLM zAppP (tV 10) (tCons (tTup (tCons (tOp (zIxP K) (tV 6) (tC (.int 0))) (tCons (tOp (zIxP K) (tV 6) (tC (.int 1))) tNil))) tNil)))
  (tSeq (tDrop (tLM0 zRevP (tV 10)))
  (tSeq (tIfP (tNot (tTru K (tCal (sp_l_is K) [] W (tCons (tV 11) (tCons (tV 6) (tCons (tV 9) tNil)))))) (tRet (tC (.bl false))) tNext)
  (tSeq (tAsg (tMe [(He.ga K "Table", [], sp_Table_pairs K)] "pairs" W (tV 11) tNil) (gName 12))
  (tSeq (tDrop (tLM zAppP (tV 12) (tCons (tTup (tCons (tOp (zIxP K) (tV 6) (tC (.int 0))) (tCons (tOp (zIxP K) (tV 6) (tC (.int 0))) tNil))) tNil)))
  (tSeq (tDrop (tLM0 zRevP (tV 12)))
  (t_law_18 K W)))))))) D σ H
structure t_law_7 (K : PySem.W.Frag) (W : WX) (D : Ends) (σ : L2.St) (H : Hp) : Prop where
  out : (tSeq (tAsg (tCal (sp_l_pairs K) [] W (tCons (tV 1) (tCons (tV 6) (tCons (tV 3) tNil)))) (gName 8))
  (tSeq (tAsg (tCal (sp_l_outs K) [] W (tCons (tV 6) (tCons (tV 8) tNil))) (gName 9))
  (tSeq (tAsg (tCB (zListX K) (tCons (tV 8) tNil)) (gName 10))
  (tSeq (tAsg (tMak (He.ga K "Table") (sp_Table_init K) [] W (tCons (tV 7) (tCons (tV 10) tNil))) (gName 11))
  (t_law_11 K W))))) D σ H
def t_law (K : PySem.W.Frag) (W : WX) : TS :=
  (tSeq (tAsg (tCal (sp_l_bag K) [] W (tCons (tV 0) tNil)) (gName 1))
  (tSeq (tAsg (tCal (sp_l_take K) [] W (tCons (tV 1) (tCons (tC (.int 24)) tNil))) (gName 2))
  (tSeq (tAsg (tCal (sp_l_take K) [] W (tCons (tV 1) (tCons (tC (.int 31)) tNil))) (gName 3))
  (tSeq (tAsg (tCal (sp_l_take K) [] W (tCons (tV 1) (tCons (tC (.int 12)) tNil))) (gName 4))
  (tSeq (tAsg (tCal (sp_l_names K) [] W (tCons (tV 1) (tCons (tOp zAdd (tC (.int 1)) (tCal (sp_l_take K) [] W (tCons (tV 1) (tCons (tC (.int 4)) tNil)))) tNil))) (gName 5))
  (tSeq (tAsg (tCal (sp_l_signs K) [] W (tCons (tOp (zIxP K) (tV 5) (tC (.int 0))) tNil)) (gName 6))
  (tSeq (tAsg (tMak (He.ga K "Alphabet") (sp_Alphabet_init K) [] W (tCons (tOp (zIxP K) (tV 5) (tC (.int 0))) (tCons (tOp (zIxP K) (tV 5) (tC (.int 1))) tNil))) (gName 7))
  (t_law_7 K W))))))))
theorem tm_law {P : Program} {w : World} {K : PySem.W.Frag} {mg : Str → Option Value} {base : Heap} {f : Addr} {cdv : Value} {A : Around} {outer : List Env} {s : Shared} {H : Hp} {E : XK} (T : Tx K mg) (G_Alphabet : Mks P w K mg base "Alphabet" (He.ga K "Alphabet") 7 [] (sp_Alphabet_init K)) (G_Alphabet___eq__ : Me P w K mg base (He.ga K "Alphabet") "__eq__" 5 [] (sp_Alphabet_eq K)) (G_Table : Mks P w K mg base "Table" (He.ga K "Table") 7 [] (sp_Table_init K)) (G_Table___eq__ : Me P w K mg base (He.ga K "Table") "__eq__" 7 [] (sp_Table_eq K)) (G_Table_pairs : Me P w K mg base (He.ga K "Table") "pairs" 5 [] (sp_Table_pairs K)) (G_Table_read : Cmt P w K mg base (He.ga K "Table") "read" 9 [] (sp_Table_read K)) (G_l_bad_pair : Fn P w K mg base "_law_bad_pair" 9 [] (sp_l_bad_pair K)) (G_l_bag : Fn P w K mg base "_law_bag" 5 [] (sp_l_bag K)) (G_l_changed : Fn P w K mg base "_law_changed" 7 [] (sp_l_changed K)) (G_l_is : Fn P w K mg base "_law_is" 12 [] (sp_l_is K)) (G_l_named : Fn P w K mg base "_law_named" 14 [] (sp_l_named K)) (G_l_names : Fn P w K mg base "_law_names" 7 [] (sp_l_names K)) (G_l_no_pairs : Fn P w K mg base "_law_no_pairs" 7 [] (sp_l_no_pairs K)) (G_l_no_sign : Fn P w K mg base "_law_no_sign" 12 [] (sp_l_no_sign K)) (G_l_outs : Fn P w K mg base "_law_outs" 5 [] (sp_l_outs K)) (G_l_pairs : Fn P w K mg base "_law_pairs" 7 [] (sp_l_pairs K)) (G_l_reads : Fn P w K mg base "_law_reads" 14 [] (sp_l_reads K)) (G_l_signs : Fn P w K mg base "_law_signs" 5 [] (sp_l_signs K)) (G_l_strange : Fn P w K mg base "_law_strange" 7 [] (sp_l_strange K)) (G_l_take : Fn P w K mg base "_law_take" 5 [] (sp_l_take K)) (G_l_written : Fn P w K mg base "_law_written" 5 [] (sp_l_written K)) (hr : Room 15 (A.deeper (envOfC "law" (defScope s_law) s.heap.objs.size f cdv))) :
    PSs (cxOf (L2.CX P w) P w K mg base ["_law_script", "_law_bag_here", "_law_change", "_law_many", "_law_beside", "_law_names_here", "_law_signs_here", "_law_alphabet", "_law_pairs_here", "_law_outs_here", "_law_handed", "_law_table", "_law_told", "_law_more", "_law_strange_here", "_law_entries", "_law_written_here"] "law" (defScope s_law) f cdv A outer s H E) (defBody s_law) (t_law K (WD E)) :=
  (pss_cons (pset 1 sc_law.nd (pcall G_l_bag (hr.mono (by decide)) takesD (pa_cons (Ta.pv 0) pa_nil)))
  (pss_cons (pset 2 sc_law.nd (pcall G_l_take (hr.mono (by decide)) takesD (pa_cons (Ta.pv 1) (pa_cons pe_int pa_nil))))
  (pss_cons (pset 3 sc_law.nd (pcall G_l_take (hr.mono (by decide)) takesD (pa_cons (Ta.pv 1) (pa_cons pe_int pa_nil))))
  (pss_cons (pset 4 sc_law.nd (pcall G_l_take (hr.mono (by decide)) takesD (pa_cons (Ta.pv 1) (pa_cons pe_int pa_nil))))
  (pss_cons (pset 5 sc_law.nd (pcall G_l_names (hr.mono (by decide)) takesD (pa_cons (Ta.pv 1) (pa_cons (pe_op opadd pe_int (pcall G_l_take (hr.mono (by decide)) takesD (pa_cons (Ta.pv 1) (pa_cons pe_int pa_nil)))) pa_nil))))
  (pss_cons (pset 6 sc_law.nd (pcall G_l_signs (hr.mono (by decide)) takesD (pa_cons (pix (Ta.pv 5) pe_int) pa_nil)))
  (pss_cons (pset 7 sc_law.nd (pmak G_Alphabet (hr.mono (by decide)) takesD (pa_cons (pix (Ta.pv 5) pe_int) (pa_cons (pix (Ta.pv 5) pe_int) pa_nil))))
  (pss_imp (pss_cons (pset 8 sc_law.nd (pcall G_l_pairs (hr.mono (by decide)) takesD (pa_cons (Ta.pv 1) (pa_cons (Ta.pv 6) (pa_cons (Ta.pv 3) pa_nil)))))
  (pss_cons (pset 9 sc_law.nd (pcall G_l_outs (hr.mono (by decide)) takesD (pa_cons (Ta.pv 6) (pa_cons (Ta.pv 8) pa_nil))))
  (pss_cons (pset 10 sc_law.nd (pct (crlistX rfl) T.f_list (pa_cons (Ta.pv 8) pa_nil)))
  (pss_cons (pset 11 sc_law.nd (pmak G_Table (hr.mono (by decide)) takesD (pa_cons (Ta.pv 7) (pa_cons (Ta.pv 10) pa_nil))))
  (pss_imp (pss_cons (psif (PW.pt (pwor (ptcmp (opne hr.units) (Ta.pv 10) (Ta.pv 8)) (pw_or1 (pt_not (ptcmp (opown G_Alphabet___eq__ (hr.mono (by decide))) (patt (Ta.pv 11)) (Ta.pv 7)))))) (pss_one (ps_ret pe_bl)) pss_nil)
  (pss_cons (ps_expr (plm PySem.F.slot_list_append PySem.F.type_list_append mtapp (Ta.pv 10) (pa_cons (pe_tup (pa_cons (pix (Ta.pv 6) pe_int) (pa_cons (pix (Ta.pv 6) pe_int) pa_nil))) pa_nil)))
  (pss_cons (ps_expr (plm0 PySem.F.slot_list_reverse PySem.F.type_list_reverse mtrev (Ta.pv 10)))
  (pss_cons (psif (pt_not (ptru (pcall G_l_is (hr.mono (by decide)) takesD (pa_cons (Ta.pv 11) (pa_cons (Ta.pv 6) (pa_cons (Ta.pv 9) pa_nil)))))) (pss_one (ps_ret pe_bl)) pss_nil)
  (pss_cons (pset 12 sc_law.nd (pmeth0 (ms := [(He.ga K "Table", [], sp_Table_pairs K)]) (fun e he => by obtain rfl := List.mem_singleton.mp he; exact G_Table_pairs) (hr.mono (by decide)) takesD (Ta.pv 11)))
  (pss_cons (ps_expr (plm PySem.F.slot_list_append PySem.F.type_list_append mtapp (Ta.pv 12) (pa_cons (pe_tup (pa_cons (pix (Ta.pv 6) pe_int) (pa_cons (pix (Ta.pv 6) pe_int) pa_nil))) pa_nil)))
  (pss_cons (ps_expr (plm0 PySem.F.slot_list_reverse PySem.F.type_list_reverse mtrev (Ta.pv 12)))
  (pss_imp (pss_cons (pset 13 sc_law.nd (pcall G_l_pairs (hr.mono (by decide)) takesD (pa_cons (Ta.pv 1) (pa_cons (Ta.pv 6) (pa_cons (Ta.pv 4) pa_nil)))))
  (pss_cons (psif (pt_not (ptru (pcall G_l_is (hr.mono (by decide)) takesD (pa_cons (pmak G_Table (hr.mono (by decide)) takesD (pa_cons (Ta.pv 7) (pa_cons (Ta.pv 13) pa_nil))) (pa_cons (Ta.pv 6) (pa_cons (pcall G_l_outs (hr.mono (by decide)) takesD (pa_cons (Ta.pv 6) (pa_cons (Ta.pv 13) pa_nil))) pa_nil)))))) (pss_one (ps_ret pe_bl)) pss_nil)
  (pss_cons (pset 14 sc_law.nd (pcall G_l_strange (hr.mono (by decide)) takesD (pa_cons (Ta.pv 1) (pa_cons (Ta.pv 6) pa_nil))))
  (pss_cons (psif (PW.pt (pwor (pt_not (ptru (pcall G_l_no_sign (hr.mono (by decide)) takesD (pa_cons (Ta.pv 11) (pa_cons (Ta.pv 14) pa_nil))))) (pw_or1 (pt_not (ptru (pcall G_l_no_pairs (hr.mono (by decide)) takesD (pa_cons (Ta.pv 11) (pa_cons (Ta.pv 6) (pa_cons (Ta.pv 14) pa_nil))))))))) (pss_one (ps_ret pe_bl)) pss_nil)
  (pss_cons (psif (PW.pt (pwor (pt_not (ptru (pcall G_l_bad_pair (hr.mono (by decide)) takesD (pa_cons (Ta.pv 1) (pa_cons (Ta.pv 7) (pa_cons (Ta.pv 6) (pa_cons (Ta.pv 8) pa_nil))))))) (pw_or1 (pt_not (ptru (pcall G_l_named (hr.mono (by decide)) takesD (pa_cons (Ta.pv 7) (pa_cons (Ta.pv 6) pa_nil)))))))) (pss_one (ps_ret pe_bl)) pss_nil)
  (pss_imp (pss_cons (pset 15 sc_law.nd (pcall G_l_written (hr.mono (by decide)) takesD (pa_cons (Ta.pv 6) (pa_cons (Ta.pv 9) pa_nil))))
  (pss_cons (psif (PW.pt (pwor (pt_not (ptcmp (opown G_Table___eq__ (hr.mono (by decide))) (pcme G_Table_read (hr.mono (by decide)) takesD (pglo T.v_Table) (pa_cons (Ta.pv 7) (pa_cons (psm PySem.F.slot_str_join PySem.F.type_str_join mtjoin (pstr [32]) (pa_cons (Ta.pv 15) pa_nil)) pa_nil))) (Ta.pv 11))) (pw_or1 (pt_not (ptru (pcall G_l_reads (hr.mono (by decide)) takesD (pa_cons (Ta.pv 7) (pa_cons (Ta.pv 6) (pa_cons (psm PySem.F.slot_str_join PySem.F.type_str_join mtjoin (pstr [32]) (pa_cons (Ta.pv 15) pa_nil)) pa_nil))))))))) (pss_one (ps_ret pe_bl)) pss_nil)
  (pss_cons (pset 16 sc_law.nd (psm PySem.F.slot_str_join PySem.F.type_str_join mtjoin (pstr [32]) (pa_cons (pcall G_l_changed (hr.mono (by decide)) takesD (pa_cons (Ta.pv 1) (pa_cons (Ta.pv 2) (pa_cons (Ta.pv 15) (pa_cons (Ta.pv 6) pa_nil))))) pa_nil)))
  (pss_one (ps_ret (peand (pcall G_l_reads (hr.mono (by decide)) takesD (pa_cons (Ta.pv 7) (pa_cons (Ta.pv 6) (pa_cons (Ta.pv 16) pa_nil)))) (pe_one (pcall G_l_is (hr.mono (by decide)) takesD (pa_cons (Ta.pv 11) (pa_cons (Ta.pv 6) (pa_cons (Ta.pv 9) pa_nil))))))))))) fun _ _ _ h => h.out)))))) fun _ _ _ h => h.out)))))))) fun _ _ _ h => h.out))))) fun _ _ _ h => h.out))))))))
end Lw

set_option Elab.async false
set_option linter.all false
set_option maxRecDepth 100000
set_option maxHeartbeats 4000000
namespace Lw
open PySem PySem.Spec PyProof.Rows L2 Ta
theorem nd_len {l m : List Nat} (hn : l.Nodup) (hs : ∀ c ∈ l, c ∈ m) : l.length ≤ m.length := by
  induction l generalizing m with
  | nil => exact Nat.zero_le _
  | cons a l ih =>
    obtain ⟨h1, h2⟩ := List.nodup_cons.mp hn
    have ha := hs a List.mem_cons_self
    have := ih (m := m.erase a) h2 fun c hc => (List.mem_erase_of_ne (fun e : c = a => h1 (by rw [← e]; exact hc))).mpr (hs c (List.mem_cons_of_mem _ hc))
    rw [List.length_erase_of_mem ha] at this
    have hp : 0 < m.length := List.length_pos_of_mem ha
    rw [List.length_cons]
    omega
theorem badL_inv {l : List Nat} (h : badL l = false) : 1 ≤ l.length ∧ l.length ≤ 4 ∧ l.Nodup ∧ ∀ c ∈ l, c ∈ AZ := by
  unfold badL at h
  simp only [Bool.or_eq_false_iff, Bool.not_eq_false', decide_eq_true_eq, List.any_eq_false] at h
  obtain ⟨⟨h1, h2⟩, h3⟩ := h
  refine ⟨h2.1, h2.2, (dif_nd l).mp h3, fun c hc => ?_⟩
  have z := h1 c hc
  exact Decidable.byContradiction fun hn => z (by rw [decide_eq_false hn]; rfl)
theorem badV_inv {l v : List Nat} (h : badV l v = false) : v.Nodup ∧ ∀ c ∈ v, c ∈ l := by
  unfold badV at h
  simp only [Bool.or_eq_false_iff, Bool.not_eq_false', List.any_eq_false] at h
  obtain ⟨h1, h3⟩ := h
  refine ⟨(dif_nd v).mp h3, fun c hc => ?_⟩
  have z := h1 c hc
  simpa using z
theorem good_v {l v : List Nat} (h : good l v) : v.length ≤ 4 := by
  have h1 := badL_inv h.1
  have h2 := badV_inv h.2
  have := nd_len h2.1 h2.2
  omega
theorem pick_sub {m r s : List Nat} (hp : (m ++ r).Perm s) (hn : s.Nodup) : m.Nodup ∧ ∀ c ∈ m, c ∈ s := by
  have h := hp.nodup_iff.mpr hn
  exact ⟨(List.nodup_append.mp h).1, fun c hc => hp.mem_iff.mp (List.mem_append_left _ hc)⟩
theorem pick_all {m r s : List Nat} (hp : (m ++ r).Perm s) (hl : m.length = s.length) : m.Perm s := by
  have e := hp.length_eq
  rw [List.length_append] at e
  have : r = [] := List.length_eq_zero_iff.mp (by omega)
  rw [this, List.append_nil] at hp
  exact hp
theorem good_perm {l v m u : List Nat} (h : good l v) (hm : m.Perm l) (hu : u.Perm v) : good m u := by
  obtain ⟨a1, a2, a3, a4⟩ := badL_inv h.1
  obtain ⟨b1, b2⟩ := badV_inv h.2
  have e := hm.length_eq
  exact ⟨badL_ok (by omega) (by omega) (hm.nodup_iff.mpr a3) fun c hc => a4 c (hm.mem_iff.mp hc), badV_ok (hu.nodup_iff.mpr b1) fun c hc => hm.mem_iff.mpr (b2 c (hu.mem_iff.mp hc))⟩
theorem good_sub {l u r : List Nat} (h : badL l = false) (hu : (u ++ r).Perm l) : good l u := by
  obtain ⟨a1, a2, a3, a4⟩ := badL_inv h
  obtain ⟨b1, b2⟩ := pick_sub hu a3
  exact ⟨h, badV_ok b1 b2⟩
theorem good_new {m r : List Nat} (h1 : 1 ≤ m.length) (h2 : m.length ≤ 4) (hm : (m ++ r).Perm AZ) : badL m = false := by
  obtain ⟨b1, b2⟩ := pick_sub hm (by decide)
  exact badL_ok h1 h2 b1 b2
abbrev oth (l : List Nat) : List Nat := AZ.filter fun c => !decide (c ∈ l)
theorem oth_mem {l : List Nat} {d : Nat} (h : d ∈ oth l) : d ∈ AZ ∧ ¬ d ∈ l := by
  have := List.mem_filter.mp h
  simpa using this
theorem flt_len (f : Nat → Bool) : ∀ s : List Nat, (s.filter f).length + (s.filter fun c => !f c).length = s.length
  | [] => rfl
  | a :: s => by
    have ih := flt_len f s
    rw [List.filter_cons, List.filter_cons]
    cases f a with
    | true => simp only [Bool.not_true, List.length_cons, if_true]; simp; omega
    | false => simp only [Bool.not_false, List.length_cons, if_true]; simp; omega
theorem oth_len {l : List Nat} (h : l.length ≤ 4) : 22 ≤ (oth l).length ∧ (oth l).length ≤ 26 := by
  have h1 : (AZ.filter fun c => decide (c ∈ l)).length ≤ l.length := nd_len (List.Pairwise.filter _ (by decide : AZ.Nodup)) fun c hc => by
    have := (List.mem_filter.mp hc).2
    simpa using this
  have h2 := flt_len (fun c => decide (c ∈ l)) AZ
  have h3 : AZ.length = 26 := rfl
  show 22 ≤ (AZ.filter fun c => !decide (c ∈ l)).length ∧ (AZ.filter fun c => !decide (c ∈ l)).length ≤ 26
  have h4 := List.length_filter_le (fun c => !decide (c ∈ l)) AZ
  omega
theorem good_rp {l v : List Nat} {c d : Nat} (h : good l v) (hc : c ∈ l) (hd : d ∈ oth l) : good (rp c d l) (rp c d v) := by
  obtain ⟨a1, a2, a3, a4⟩ := badL_inv h.1
  obtain ⟨b1, b2⟩ := badV_inv h.2
  obtain ⟨d1, d2⟩ := oth_mem hd
  have inj : ∀ s : List Nat, s.Nodup → (∀ x ∈ s, x ∈ l) → (rp c d s).Nodup := fun s => by
    induction s with
    | nil => exact fun _ _ => .nil
    | cons x s ih =>
      intro hn hs
      obtain ⟨n1, n2⟩ := List.nodup_cons.mp hn
      have hx := hs x List.mem_cons_self
      show ((if x = c then d else x) :: rp c d s).Nodup
      refine List.nodup_cons.mpr ⟨fun hm => ?_, ih n2 fun y hy => hs y (List.mem_cons_of_mem _ hy)⟩
      obtain ⟨y, hy, e⟩ := List.mem_map.mp hm
      have hyl := hs y (List.mem_cons_of_mem _ hy)
      by_cases e1 : x = c
      · rw [if_pos e1] at e
        by_cases e2 : y = c
        · exact n1 (by rw [e1, ← e2]; exact hy)
        · rw [if_neg e2] at e; exact d2 (e ▸ hyl)
      · rw [if_neg e1] at e
        by_cases e2 : y = c
        · rw [if_pos e2] at e; exact d2 (e ▸ hx)
        · rw [if_neg e2] at e; exact n1 (e ▸ hy)
  have len : (rp c d l).length = l.length := List.length_map _
  refine ⟨badL_ok (by omega) (by omega) (inj l a3 fun _ h => h) fun x hx => ?_, badV_ok (inj v b1 b2) fun x hx => ?_⟩
  · obtain ⟨y, hy, e⟩ := List.mem_map.mp hx
    rw [← e]
    split
    · exact d1
    · exact a4 y hy
  · obtain ⟨y, hy, e⟩ := List.mem_map.mp hx
    exact List.mem_map.mpr ⟨y, b2 y hy, e⟩
theorem good_cons {l v : List Nat} {d : Nat} (h : good l v) (hl : l.length < 4) (hd : d ∈ oth l) : good (d :: l) v := by
  obtain ⟨a1, a2, a3, a4⟩ := badL_inv h.1
  obtain ⟨b1, b2⟩ := badV_inv h.2
  obtain ⟨d1, d2⟩ := oth_mem hd
  refine ⟨badL_ok (by simp) (by simp; omega) (List.nodup_cons.mpr ⟨d2, a3⟩) fun x hx => ?_, badV_ok b1 fun x hx => List.mem_cons_of_mem _ (b2 x hx)⟩
  rcases List.mem_cons.mp hx with rfl | hx
  · exact d1
  · exact a4 x hx
theorem fnd_at {c : Nat} {G : List Nat} (h : c ∈ G) : fnd c G = ((bef c G).length : Int) ∧ (bef c G).length < G.length := by
  refine ⟨by unfold fnd; rw [if_pos h], ?_⟩
  induction G with
  | nil => cases h
  | cons a G ih =>
    unfold bef
    rw [List.takeWhile_cons]
    by_cases e : a = c
    · rw [decide_eq_true e]; exact Nat.succ_pos _
    · rw [decide_eq_false e]
      rcases List.mem_cons.mp h with h | h
      · exact absurd h.symm e
      · exact Nat.succ_lt_succ (ih h)
theorem prP_lst {H : Hp} {xs : List V} {R : List Pr2} {D : Addr} {ys : List V} {o : HO} (h : Paired (pairP H) xs R) (hD : H D = some (.lst ys)) : Paired (pairP (upd H D o)) xs R := pmem h fun v a _ ⟨q, e, z⟩ => ⟨q, e, upd_off (fun e => by rw [e, hD] at z; cases z) z⟩
local macro_rules | `(tactic| and_intros) => `(tactic| first
  | (apply bx_b; (focus assumption); (focus assumption))
  | (apply bx_g; (focus assumption); (focus assumption))
  | (apply bx_bo; (focus assumption); (focus assumption); (focus rfl))
  | (apply bx_go; (focus assumption); (focus assumption); (focus rfl)))
theorem plen {α β : Type} {F : α → β → Prop} : ∀ {l₁ : List α} {l₂ : List β}, Paired F l₁ l₂ → l₁.length = l₂.length
  | _, _, .nil => rfl
  | _, _, .cons _ t => congrArg (· + 1) (plen t)
theorem pget {α β : Type} {F : α → β → Prop} : ∀ {l₁ : List α} {l₂ : List β} {i : Nat} (h : i < l₁.length) (h2 : i < l₂.length), Paired F l₁ l₂ → F l₁[i] l₂[i]
  | _, _, 0, _, _, .cons h _ => h
  | _, _, i + 1, h1, h2, .cons _ t => pget (i := i) (Nat.lt_of_succ_lt_succ h1) (Nat.lt_of_succ_lt_succ h2) t
theorem papp {α β : Type} {F : α → β → Prop} : ∀ {l₁ m₁ : List α} {l₂ m₂ : List β}, Paired F l₁ l₂ → Paired F m₁ m₂ → Paired F (l₁ ++ m₁) (l₂ ++ m₂)
  | _, _, _, _, .nil, h => h
  | _, _, _, _, .cons h t, g => .cons h (papp t g)
theorem joinL_nil : ∀ ys : List (List Nat), TL.joinL [] ys = ys.flatten
  | [] => rfl
  | [a] => by simp [TL.joinL]
  | a :: b :: ys => by
    show a ++ ([] ++ TL.joinL [] (b :: ys)) = _
    rw [joinL_nil (b :: ys)]; rfl
theorem joi_t {ys : List (List Nat)} {k : List Nat → Prop} (h : (ys.map List.length).sum ≤ 1000000) (q : k ys.flatten) : joi (txs ys) (tl (S [])) k := by
  refine ⟨ys, rfl, ?_, ?_⟩
  · show _ + _ * 0 ≤ _; omega
  · show k (TL.joinL [] _); rw [joinL_nil]; exact q
theorem sum_le {m : Nat} : ∀ {ys : List (List Nat)}, (∀ y ∈ ys, y.length ≤ m) → (ys.map List.length).sum ≤ m * ys.length
  | [], _ => Nat.zero_le _
  | y :: ys, h => by
    have h1 := h y List.mem_cons_self
    have h2 := sum_le fun z hz => h z (List.mem_cons_of_mem _ hz)
    simp only [List.map_cons, List.sum_cons, List.length_cons]
    rw [Nat.mul_succ]; omega
theorem badP_take {g : List Nat} : ∀ (i : Nat) {R : List Pr2} {s : Nat}, (∀ r ∈ R.take i, isS g r.1 = true ∧ isS g r.2 = true) → i ≤ R.length → badP g R s = badP g (R.drop i) (s + i)
  | 0, _, _, _, _ => rfl
  | i + 1, [], _, _, h => absurd h (by simp)
  | i + 1, r :: R, s, h, hl => by
    have h1 := h r List.mem_cons_self
    show (if isS g r.1 = true ∧ isS g r.2 = true then badP g R (s + 1) else some (s : Int)) = badP g (R.drop i) (s + (i + 1))
    rw [if_pos h1, badP_take i (fun x hx => h x (List.mem_cons_of_mem _ hx)) (Nat.le_of_succ_le_succ hl), Nat.add_assoc, Nat.add_comm 1 i]
theorem badP_at {g : List Nat} {i : Nat} {R : List Pr2} (hi : i < R.length) (h : ∀ r ∈ R.take i, isS g r.1 = true ∧ isS g r.2 = true) (hb : ¬ (isS g R[i].1 = true ∧ isS g R[i].2 = true)) : badP g R 0 = some (i : Int) := by
  rw [badP_take i h (by omega), List.drop_eq_getElem_cons hi]
  show (if isS g R[i].1 = true ∧ isS g R[i].2 = true then _ else some ((0 + i : Nat) : Int)) = _
  rw [if_neg hb, Nat.zero_add]
theorem badP_no {g : List Nat} {R : List Pr2} (h : ∀ r ∈ R, isS g r.1 = true ∧ isS g r.2 = true) : badP g R 0 = none := by
  rw [badP_take R.length (by rw [List.take_length]; exact h) (Nat.le_refl _), List.drop_length]; rfl
theorem ite_b {b : Bool} {p q : Prop} (h1 : b = true → p) (h2 : b = false → q) : if b = true then p else q := by
  cases b with
  | true => exact h1 rfl
  | false => exact h2 rfl
/-- the outs that go with one sign -/
theorem lcp_gath {K : PySem.W.Frag} {p : Addr} {xs : List V} {R : List Pr2} {H1 : Hp} {Q : VK} {c : Nat} {a0 a1 a2 a3 a4 a5 a6 a7 a8 a9 a11 : Option V} (hp : H1 p = some (.lst xs)) (hx : Paired (pairP H1) xs R) (hn : R.length < 1000)
    (q : ∀ D, H1 D = none → Q (.ref D) (upd H1 D (.lst (txs ((R.filter fun p => decide (p.1 = [c])).map fun p => p.2))))) :
    lcp xs.length (itL xs) (fun H' => H' p = some (.lst xs)) (gTup K 2 (gCons (gName 8) (gCons (gName 9) gNil))) (tTst (tOp (zEqP K) (tV 8) (tV 10))) (tV 9) [8, 9] [a0, a1, a2, a3, a4, a5, a6, a7, a8, a9, some (.str (S [c])), a11] H1 Q := by
  have hl := plen hx
  refine lcp_i (fun D k H => H = upd H1 D (.lst (txs (((R.take k).filter fun p => decide (p.1 = [c])).map fun p => p.2)))) (fun D hD => rfl) (fun D k H hD _ e => by rw [e]; exact upd_fr hD hp) ?_ ?_
  · rintro D k x H H' hD hk rfl ⟨rfl, hc⟩
    have hkR : k < R.length := by omega
    obtain ⟨q0, e0, hq0⟩ := pget hk hkR hx
    rw [List.getElem?_eq_getElem hk] at hc
    obtain rfl := Option.some.inj hc
    rw [e0]
    refine gtup2 (upd_off (fun e => by rw [e, hD] at hq0; cases hq0) hq0) ⟨rfl, ?_⟩
    conv => whnf
    refine ite_b (b := decide (R[k].1 = [c])) (fun h => ?_) (fun h => ?_)
    · refine ⟨_, upd_at, ?_, ?_⟩
      · have h1 := List.length_filter_le (fun p : Pr2 => decide (p.1 = [c])) (R.take k)
        rw [List.length_take] at h1
        rw [List.length_map, List.length_map, sizeLine_eq]; omega
      · rw [upd_tw, filter_takeA (List.getElem?_eq_getElem hkR), if_pos h, List.map_append]
        show _ = upd H1 D (.lst (List.map _ _))
        rw [List.map_append]; rfl
    · rw [filter_takeA (List.getElem?_eq_getElem hkR), if_neg (by rw [h]; decide), List.append_nil]
  · rintro D H hD rfl
    rw [List.take_of_length_le (by omega)]
    exact q D hD
/-- data that is equal to itself -/
structure selfD (d : PyData) (n : Nat) : Prop where
  c : d.canLay0 = true
  dd : d.depth ≤ n
  e : PyData.eqv d d = true
theorem selfD_all {n : Nat} : ∀ {ds : List PyData}, (∀ d ∈ ds, selfD d n) → PyData.canLayAll0 ds = true ∧ PyData.depthAll ds ≤ n ∧ PyData.eqvAll ds ds = true
  | [], _ => ⟨by rw [PyData.canLayAll0], by rw [PyData.depthAll]; omega, by rw [PyData.eqvAll]⟩
  | d :: ds, h => by
    obtain ⟨a1, a2, a3⟩ := selfD_all fun x hx => h x (List.mem_cons_of_mem _ hx)
    obtain ⟨b1, b2, b3⟩ := h d List.mem_cons_self
    exact ⟨by rw [PyData.canLayAll0, b1, a1]; rfl, by rw [PyData.depthAll]; omega, by rw [PyData.eqvAll, b3, a3]; rfl⟩
theorem selfD_l {n : Nat} {ds : List PyData} (h : ∀ d ∈ ds, selfD d n) : selfD (.list ds) (n + 1) := by
  obtain ⟨a1, a2, a3⟩ := selfD_all h
  exact ⟨by rw [PyData.canLay0, a1], by rw [PyData.depth]; omega, by rw [PyData.eqv, a3]⟩
theorem selfD_t {n : Nat} {ds : List PyData} (h : ∀ d ∈ ds, selfD d n) : selfD (.tuple ds) (n + 1) := by
  obtain ⟨a1, a2, a3⟩ := selfD_all h
  exact ⟨by rw [PyData.canLay0, a1], by rw [PyData.depth]; omega, by rw [PyData.eqv, a3]⟩
theorem selfD_s {l : List Nat} (h : ∀ c ∈ l, c < 128) : selfD (.str (S l)) 0 := ⟨by rw [PyData.canLay0]; exact ascii_ok h, by rw [PyData.depth]; omega, by rw [PyData.eqv]; simp⟩
theorem pair_dp {α : Type} {K : PySem.W.Frag} {H : Hp} {F : V → α → Prop} {f : α → PyData} (hf : ∀ v a, F v a → Dp K H v (f a)) : ∀ {xs : List V} {r : List α}, Paired F xs r → DpAll K H xs (r.map f)
  | _, _, .nil => .nil
  | _, _, .cons h t => .cons (hf _ _ h) (pair_dp hf t)
theorem self_sh {d : PyData} {n : Nat} (h : selfD d n) (hn : n ≤ 64) : SeqAt.shaped d = true := by
  unfold SeqAt.shaped
  rw [h.c, decide_eq_true (Nat.le_trans h.dd hn)]; rfl
def prD (a : Pr2) : PyData := .tuple [.str (S a.1), .str (S a.2)]
theorem prD_dp {K : PySem.W.Frag} {H : Hp} {v : V} {a : Pr2} (h : pairP H v a) : Dp K H v (prD a) := by
  obtain ⟨q, rfl, h⟩ := h
  exact .tup (SqT.of h) (.cons (.str _) (.cons (.str _) .nil))
theorem prD_self {R : List Pr2} (h : ∀ a ∈ R, (∀ c ∈ a.1, c < 128) ∧ ∀ c ∈ a.2, c < 128) : selfD (.list (R.map prD)) 2 := selfD_l fun d hd => by
  obtain ⟨a, ha, rfl⟩ := List.mem_map.mp hd
  refine selfD_t fun d hd => ?_
  simp only [List.mem_cons, List.not_mem_nil, or_false] at hd
  rcases hd with rfl | rfl
  · exact selfD_s (h a ha).1
  · exact selfD_s (h a ha).2
theorem eq_prs {K : PySem.W.Frag} {H : Hp} {p p' : Addr} {xs ys : List V} {R : List Pr2} {k : Bool → Prop} (h1 : H p = some (.lst xs)) (h2 : H p' = some (.lst ys)) (p1 : Paired (pairP H) xs R) (p2 : Paired (pairP H) ys R) (h : ∀ a ∈ R, (∀ c ∈ a.1, c < 128) ∧ ∀ c ∈ a.2, c < 128) (q : k true) : dpq K (.ref p) (.ref p') H k := by
  have s := prD_self h
  exact dpq_i (.lst (SqL.of h1) (pair_dp (f := prD) (fun _ _ => prD_dp) p1)) (.lst (SqL.of h2) (pair_dp (f := prD) (fun _ _ => prD_dp) p2)) (self_sh s (by decide)) (self_sh s (by decide)) (by rw [s.e]; exact q)
theorem txs_dp {K : PySem.W.Frag} {H : Hp} : ∀ ss : List (List Nat), DpAll K H (txs ss) (ss.map fun t => PyData.str (S t))
  | [] => .nil
  | _ :: ss => .cons (.str _) (txs_dp ss)
theorem eq_txs {K : PySem.W.Frag} {H : Hp} {p p' : Addr} {ss : List (List Nat)} {k : Bool → Prop} (h1 : H p = some (.lst (txs ss))) (h2 : H p' = some (.lst (txs ss))) (h : ∀ t ∈ ss, ∀ c ∈ t, c < 128) (q : k true) : dpq K (.ref p) (.ref p') H k := by
  have s : selfD (.list (ss.map fun t => PyData.str (S t))) 1 := selfD_l fun d hd => by
    obtain ⟨a, ha, rfl⟩ := List.mem_map.mp hd
    exact selfD_s (h a ha)
  exact dpq_i (.lst (SqL.of h1) (txs_dp ss)) (.lst (SqL.of h2) (txs_dp ss)) (self_sh s (by decide)) (self_sh s (by decide)) (by rw [s.e]; exact q)
/-- [(x, out) for out in text] -/
theorem lcp_row {a : Nat} {t : List Nat} {te : TE} {σ : L2.St} {H1 : Hp} {Q : VK} {vs : List Nat} {i : Nat} (ht : t.length ≤ 5) (hw : ∀ v, wipe ((wipe σ vs).set i v) vs = wipe σ vs)
    (he : ∀ b H' Q', b ∈ t → Kp [] H1 H' → (∀ r, H' r = none → Q' (.ref r) (upd H' r (.tup [.str (S [a]), .str (S [b])]))) → te ((wipe σ vs).set i (some (.str (S [b])))) H' Q')
    (q : ∀ D ys H', H1 D = none → Kp [] H1 H' → H' D = some (.lst ys) → Paired (pairP H') ys (t.map fun b => ([a], [b])) → Q (.ref D) H') : lcp t.length (itS t) (fun _ => True) (gName i) tYes te vs σ H1 Q := by
  refine lcp_i (fun D j H' => ∃ ys, Kp [] H1 H' ∧ H' D = some (.lst ys) ∧ Paired (pairP H') ys ((t.take j).map fun b => ([a], [b])) ∧ ys.length = j) ?_ (fun _ _ _ _ _ _ => trivial) ?_ ?_
  · exact fun D hD => ⟨[], Kp.rfl'.new hD, upd_at, .nil, rfl⟩
  · rintro D j x H' H'' hD hj ⟨ys, k1, d1, p1, l1⟩ ⟨rfl, c, hc, rfl⟩
    have hc2 : c = t[j] := by
      rw [List.getElem?_eq_getElem hj] at hc
      exact (Option.some.inj hc).symm
    subst hc2
    refine ⟨hw _, ?_⟩
    unfold tYes; dsimp only
    rw [if_pos rfl]
    refine he _ _ _ (List.getElem_mem hj) k1 fun r hr => ?_
    have d2 := upd_fr (o' := .tup [V.str (S [a]), V.str (S [t[j]])]) hr d1
    refine ⟨ys, d2, by rw [sizeLine_eq]; omega, ys ++ [.ref r], (k1.new hr).own hD, upd_at, ?_, by rw [List.length_append, l1]; rfl⟩
    rw [List.take_succ_eq_append_getElem hj, List.map_append]
    exact papp (prP_lst (prP_kp p1 (Kp.rfl'.new hr)) d2) (.cons ⟨r, rfl, upd_off (ne_none d1 hr).symm upd_at⟩ .nil)
  · rintro D H' hD ⟨ys, k1, d1, p1, l1⟩
    rw [List.take_length] at p1
    exact q D ys H' hD k1 d1 p1
theorem bef_nd {g : List Nat} (nd : g.Nodup) {j : Nat} (hj : j < g.length) : (bef g[j] g).length = j :=
  (bef_at (List.getElem?_eq_getElem hj) fun k hk e => by
    rw [List.getElem?_eq_getElem (by omega)] at e
    have := (List.getElem_inj nd).mp (Option.some.inj e)
    omega).1
theorem prs_len {g : List Nat} {cols : List (List Nat)} (h : ∀ t ∈ cols, t.length ≤ 5) : (prs g cols).length ≤ 5 * cols.length := by
  unfold prs
  induction cols generalizing g with
  | nil => rw [List.zip_nil_right]; exact Nat.zero_le _
  | cons t cols ih =>
    cases g with
    | nil => exact Nat.zero_le _
    | cons a g =>
      have h1 := h t List.mem_cons_self
      have h2 := ih (g := g) fun x hx => h x (List.mem_cons_of_mem _ hx)
      rw [List.zip_cons_cons, List.flatMap_cons, List.length_append, List.length_map, List.length_cons]
      have h3 : (a, t).2.length ≤ 5 := h1
      omega
theorem prs_low {g : List Nat} {cols : List (List Nat)} (hg : ∀ c ∈ g, c < 128) (h : ∀ t ∈ cols, ∀ c ∈ t, c ∈ g) : ∀ a ∈ prs g cols, (∀ c ∈ a.1, c < 128) ∧ ∀ c ∈ a.2, c < 128 := fun a ha => by
  obtain ⟨⟨x, t⟩, hx, ha⟩ := List.mem_flatMap.mp ha
  obtain ⟨b, hb, rfl⟩ := List.mem_map.mp ha
  have h1 := List.of_mem_zip hx
  exact ⟨fun c hc => by rw [List.mem_singleton.mp hc]; exact hg _ h1.1, fun c hc => by rw [List.mem_singleton.mp hc]; exact hg _ (h t h1.2 b hb)⟩
theorem getD_at {α : Type} {l : List α} {j : Nat} {d : α} (h : j < l.length) : l.getD j d = l[j] := by
  rw [List.getD_eq_getElem?_getD, List.getElem?_eq_getElem h]; rfl
theorem sg_nd {l v : List Nat} (h : good l v) : (45 :: srt l).Nodup := by
  have h1 := badL_inv h.1
  refine List.nodup_cons.mpr ⟨fun z => ?_, (srt_perm l).nodup_iff.mpr h1.2.2.1⟩
  have := h1.2.2.2 45 ((srt_perm l).mem_iff.mp z)
  revert this; decide
abbrev prF (g : List Nat) (f : Nat → List Nat) : List Pr2 := g.flatMap fun c => (f c).map fun b => ([c], [b])
theorem filt_no {f : Nat → List Nat} {c : Nat} : ∀ {g : List Nat}, ¬ c ∈ g → ((prF g f).filter fun p => decide (p.1 = [c])) = []
  | g, h => List.filter_eq_nil_iff.mpr fun p hp => by
    obtain ⟨a, ha, hp⟩ := List.mem_flatMap.mp hp
    obtain ⟨b, _, rfl⟩ := List.mem_map.mp hp
    have : ¬ ([a] : List Nat) = [c] := fun e => h (by injection e with e; rw [← e]; exact ha)
    simp only [decide_eq_false this]; decide
theorem filt_at {f : Nat → List Nat} {c : Nat} : ∀ {g : List Nat}, g.Nodup → c ∈ g → ((prF g f).filter fun p => decide (p.1 = [c])).flatMap (fun p => p.2) = f c
  | [], _, h => nomatch h
  | a :: g, nd, h => by
    obtain ⟨n1, n2⟩ := List.nodup_cons.mp nd
    show (((f a).map (fun b => ([a], [b])) ++ prF g f).filter _).flatMap _ = _
    rw [List.filter_append, List.flatMap_append]
    by_cases e : a = c
    · subst e
      rw [filt_no n1, List.flatMap_nil, List.append_nil, List.filter_eq_self.mpr (fun p hp => by obtain ⟨b, _, rfl⟩ := List.mem_map.mp hp; exact decide_eq_true rfl)]
      generalize f a = l
      induction l with
      | nil => rfl
      | cons b l ih => rw [List.map_cons, List.flatMap_cons, ih]; rfl
    · rcases List.mem_cons.mp h with h | h
      · exact absurd h.symm e
      · rw [filt_at n2 h, List.filter_eq_nil_iff.mpr (fun p hp => by
          obtain ⟨b, _, rfl⟩ := List.mem_map.mp hp
          have : ¬ ([a] : List Nat) = [c] := fun z => e (by injection z)
          simp only [decide_eq_false this]; decide)]
        rfl
theorem cols_at {g : List Nat} {f : Nat → List Nat} (nd : g.Nodup) (hi : ∀ c ∈ g, io g (f c) = f c) : colsP g (prF g f) = g.map f := by
  unfold colsP
  refine List.map_congr_left fun c hc => ?_
  rw [filt_at nd hc, hi c hc]
theorem io_sub {g m : List Nat} {b : Nat} (h : b ∈ io g m) : b ∈ g := (List.mem_filter.mp h).1
theorem bad_at {g : List Nat} {f : Nat → List Nat} (hi : ∀ c ∈ g, io g (f c) = f c) : badP g (prF g f) 0 = none := badP_no fun r hr => by
  obtain ⟨c, hc, hr⟩ := List.mem_flatMap.mp hr
  obtain ⟨b, hb, rfl⟩ := List.mem_map.mp hr
  rw [← hi c hc] at hb
  exact ⟨decide_eq_true hc, decide_eq_true (io_sub hb)⟩
theorem errK.kp {K : PySem.W.Frag} {x f : Str} {u : V} {H H' : Hp} {E : XK} (e : errK K x f u H E) (k : Kp [] H H') : errK K x f u H' E := ⟨fun H2 d k2 hd => e.out H2 d (k.trans k2) hd⟩
theorem prF_len {g : List Nat} {f : Nat → List Nat} (h : ∀ c ∈ g, (f c).length ≤ 5) : (prF g f).length ≤ 5 * g.length := by
  induction g with
  | nil => exact Nat.zero_le _
  | cons a g ih =>
    have h1 := h a List.mem_cons_self
    have h2 := ih fun c hc => h c (List.mem_cons_of_mem _ hc)
    show ((f a).map _ ++ prF g f).length ≤ _
    rw [List.length_append, List.length_map, List.length_cons]; omega
theorem prF_small {g : List Nat} {f : Nat → List Nat} : ∀ p ∈ prF g f, p.1.length < 100 ∧ p.2.length < 100 := fun p hp => by
  obtain ⟨c, hc, hp⟩ := List.mem_flatMap.mp hp
  obtain ⟨b, hb, rfl⟩ := List.mem_map.mp hp
  exact ⟨by simp, by simp⟩
theorem sg_low {l v : List Nat} (h : good l v) : ∀ c ∈ 45 :: srt l, c < 128 := fun c hc => by
  rcases List.mem_cons.mp hc with rfl | hc
  · decide
  · have h1 := (badL_inv h.1).2.2.2 c ((srt_perm l).mem_iff.mp hc)
    have h3 : ∀ c ∈ AZ, c < 128 := by decide
    exact h3 c h1
abbrev LW : List Nat := [97, 98, 99, 100, 101, 102, 103, 104, 105, 106, 107, 108, 109, 110, 111, 112, 113, 114, 115, 116, 117, 118, 119, 120, 121, 122]
/-- [one for one in the letters if one not in the signs] -/
theorem lcp_oth {K : PySem.W.Frag} {G : List Nat} {H1 : Hp} {Q : VK} {i : Nat} {vs : List Nat} {σ : L2.St} (hn : ∀ c D H' Q', H1 D = none → c ∈ LW → (∃ xs, H' = upd H1 D (.lst xs)) → Q' (!decide (c ∈ G)) H' → tTst (tOp (zNinP K) (tV i) (tV 1)) ((wipe σ vs).set i (some (.str (S [c])))) H' Q')
    (he : ∀ c H' Q', Q' (.str (S [c])) H' → tV i ((wipe σ vs).set i (some (.str (S [c])))) H' Q') (hw : ∀ v, wipe ((wipe σ vs).set i v) vs = wipe σ vs) (hG : G.length ≤ 5)
    (q : ∀ D F, H1 D = none → 21 ≤ F.length → F.length ≤ 26 → (∀ c ∈ F, c ∈ AZ ∧ ¬ c ∈ G) → Q (.ref D) (upd H1 D (.lst (sgn F)))) :
    lcp (tl (S LW)).length (itS (tl (S LW))) (fun _ => True) (gName i) (tTst (tOp (zNinP K) (tV i) (tV 1))) (tV i) vs σ H1 Q := by
  refine lcp_f (fun c => !decide (c ∈ G)) (show LW.length < 1000000 by decide) hn he hw fun D hD => ?_
  have h1 : (AZ.filter fun c => decide (c ∈ G)).length ≤ G.length := nd_len (List.Pairwise.filter _ (by decide : AZ.Nodup)) fun c hc => by
    have := (List.mem_filter.mp hc).2
    simpa using this
  have h2 := flt_len (fun c => decide (c ∈ G)) AZ
  have h3 : AZ.length = 26 := rfl
  have h4 := List.length_filter_le (fun c => !decide (c ∈ G)) AZ
  refine q D (LW.filter fun c => !decide (c ∈ G)) hD (show 21 ≤ (AZ.filter fun c => !decide (c ∈ G)).length by omega) (show (AZ.filter fun c => !decide (c ∈ G)).length ≤ 26 by omega) fun c hc => ?_
  obtain ⟨a, b⟩ := List.mem_filter.mp hc
  exact ⟨a, by simpa using b⟩
theorem lcp_othG {tt : TT} {te : TE} {G : List Nat} {H1 : Hp} {Q : VK} {i : Nat} {vs : List Nat} {σ : L2.St} (hn : ∀ c D H' Q', H1 D = none → c ∈ LW → (∃ xs, H' = upd H1 D (.lst xs)) → Q' (!decide (c ∈ G)) H' → tt ((wipe σ vs).set i (some (.str (S [c])))) H' Q')
    (he : ∀ c H' Q', Q' (.str (S [c])) H' → te ((wipe σ vs).set i (some (.str (S [c])))) H' Q') (hw : ∀ v, wipe ((wipe σ vs).set i v) vs = wipe σ vs) (hG : G.length ≤ 5)
    (q : ∀ D F, H1 D = none → 21 ≤ F.length → F.length ≤ 26 → (∀ c ∈ F, c ∈ AZ ∧ ¬ c ∈ G) → Q (.ref D) (upd H1 D (.lst (sgn F)))) :
    lcp (tl (S LW)).length (itS (tl (S LW))) (fun _ => True) (gName i) tt te vs σ H1 Q := by
  refine lcp_f (fun c => !decide (c ∈ G)) (show LW.length < 1000000 by decide) hn he hw fun D hD => ?_
  have h1 : (AZ.filter fun c => decide (c ∈ G)).length ≤ G.length := nd_len (List.Pairwise.filter _ (by decide : AZ.Nodup)) fun c hc => by
    have := (List.mem_filter.mp hc).2
    simpa using this
  have h2 := flt_len (fun c => decide (c ∈ G)) AZ
  have h3 : AZ.length = 26 := rfl
  have h4 := List.length_filter_le (fun c => !decide (c ∈ G)) AZ
  refine q D (LW.filter fun c => !decide (c ∈ G)) hD (show 21 ≤ (AZ.filter fun c => !decide (c ∈ G)).length by omega) (show (AZ.filter fun c => !decide (c ∈ G)).length ≤ 26 by omega) fun c hc => ?_
  obtain ⟨a, b⟩ := List.mem_filter.mp hc
  exact ⟨a, by simpa using b⟩
theorem sgn_at {F : List Nat} {j : Nat} (h : j < F.length) (h' : j < (sgn F).length) : (sgn F)[j] = .str (S [F[j]]) := by
  have e : (sgn F)[j]? = some (.str (S [F[j]])) := by
    unfold sgn
    rw [List.getElem?_map, List.getElem?_eq_getElem h]; rfl
  rw [List.getElem?_eq_getElem h'] at e
  exact Option.some.inj e
theorem low_c {c : Nat} (h : c = 45 ∨ c ∈ AZ) : c < 128 := by
  rcases h with rfl | h
  · decide
  · have h3 : ∀ c ∈ AZ, c < 128 := by decide
    exact h3 c h
theorem up_az : ∀ c ∈ AZ, Txt.upper (S [c]) = S [c - 32] ∧ ¬ (c - 32 = 45 ∨ c - 32 ∈ AZ) := by decide +kernel
theorem sg_len {l v : List Nat} (h : good l v) : 2 ≤ (45 :: srt l).length ∧ (45 :: srt l).length ≤ 5 := by
  have h1 := badL_inv h.1
  rw [List.length_cons, srt_len]; omega
theorem lim_str {t : List Nat} (h : t.length < 1000000) : Lim (tl (S t)).length := lim_of (show t.length ≤ _ by omega)
theorem take_all {α : Type} {l : List α} {i : Nat} (h : l.length ≤ i) : l.take i = l := List.take_of_length_le h
theorem beq_dec {a b : List Nat} : ((S a == S b) : Bool) = decide (a = b) := by
  by_cases h : a = b
  · subst h; simp
  · rw [decide_eq_false h]
    exact beq_eq_false_iff_ne.mpr fun e => h (by injection e with e; injection e)
theorem eqv_prD (a b : Pr2) : PyData.eqv (prD a) (prD b) = decide (a = b) := by
  obtain ⟨a1, a2⟩ := a
  obtain ⟨b1, b2⟩ := b
  unfold prD
  rw [PyData.eqv, PyData.eqvAll, PyData.eqvAll, PyData.eqvAll, PyData.eqv, PyData.eqv, beq_dec, beq_dec]
  by_cases h1 : a1 = b1
  · by_cases h2 : a2 = b2
    · subst h1 h2; simp
    · simp [h2]
  · simp [h1]
theorem any_prD (R : List Pr2) (a : Pr2) : ((R.map prD).any fun z => PyData.eqv z (prD a)) = decide (a ∈ R) := by
  induction R with
  | nil => rfl
  | cons b R ih =>
    rw [List.map_cons, List.any_cons, ih, eqv_prD]
    by_cases h : b = a
    · subst h; simp
    · have : a ∈ b :: R ↔ a ∈ R := by simp [Ne.symm h]
      rw [decide_eq_false h, Bool.false_or]
      exact decide_eq_decide.mpr this.symm
theorem prT_self {R : List Pr2} (h : ∀ a ∈ R, lowT a.1 ∧ lowT a.2) : selfD (.tuple (R.map prD)) 2 := selfD_t fun d hd => by
  obtain ⟨a, ha, rfl⟩ := List.mem_map.mp hd
  refine selfD_t fun d hd => ?_
  simp only [List.mem_cons, List.not_mem_nil, or_false] at hd
  rcases hd with rfl | rfl
  · exact selfD_s (h a ha).1
  · exact selfD_s (h a ha).2
theorem prd_self {a : Pr2} (h : lowT a.1 ∧ lowT a.2) : selfD (prD a) 1 := selfD_t fun d hd => by
  simp only [List.mem_cons, List.not_mem_nil, or_false] at hd
  rcases hd with rfl | rfl
  · exact selfD_s h.1
  · exact selfD_s h.2
/-- a pair in a list or tuple of pairs -/
theorem in_prs {K : PySem.W.Frag} {H : Hp} {p q : Addr} {xs : List V} {R : List Pr2} {x y : List Nat} {k : Bool → Prop} (h1 : H p = some (.lst xs) ∨ H p = some (.tup xs)) (p1 : Paired (pairP H) xs R) (hR : ∀ a ∈ R, lowT a.1 ∧ lowT a.2)
    (hq : H q = some (.tup [.str (S x), .str (S y)])) (hx : lowT x ∧ lowT y) (hk : k (decide ((x, y) ∈ R))) : din K (.ref q) (.ref p) H k := by
  have s1 := prd_self (a := (x, y)) hx
  refine ⟨prD (x, y), R.map prD, prD_dp ⟨q, rfl, hq⟩, self_sh s1 (by decide), ?_, by rw [any_prD]; exact hk⟩
  rcases h1 with h1 | h1
  · exact .inl ⟨.lst (SqL.of h1) (pair_dp (f := prD) (fun _ _ => prD_dp) p1), self_sh (prD_self hR) (by decide)⟩
  · exact .inr ⟨.tup (SqT.of h1) (pair_dp (f := prD) (fun _ _ => prD_dp) p1), self_sh (prT_self hR) (by decide)⟩
theorem okR_low {g : List Nat} {R : List Pr2} (h : okR g R) (hg : lowT g) : ∀ a ∈ R, lowT a.1 ∧ lowT a.2 := fun r hr => by
  obtain ⟨a, b, ha, hb, rfl⟩ := h r hr
  exact ⟨fun c hc => by rw [List.mem_singleton.mp hc]; exact hg _ ha, fun c hc => by rw [List.mem_singleton.mp hc]; exact hg _ hb⟩
theorem outs_cols {g : List Nat} {R : List Pr2} (h : okR g R) : (g.map fun c => g.filter fun d => decide ((([c], [d]) : Pr2) ∈ R)) = colsP g R := by
  unfold colsP
  refine List.map_congr_left fun c hc => ?_
  unfold io
  refine List.filter_congr fun d hd => decide_eq_decide.mpr ⟨fun z => ?_, fun z => ?_⟩
  · exact List.mem_flatMap.mpr ⟨_, List.mem_filter.mpr ⟨z, decide_eq_true rfl⟩, List.mem_singleton.mpr rfl⟩
  · obtain ⟨p, hp, hd2⟩ := List.mem_flatMap.mp z
    obtain ⟨hp2, e⟩ := List.mem_filter.mp hp
    obtain ⟨a, b, ha, hb, rfl⟩ := h p hp2
    have e : [a] = [c] := of_decide_eq_true e
    injection e with e
    subst e
    rw [List.mem_singleton.mp hd2]
    exact hp2
theorem hit_map {α : Type} {l : List α} {r : α → V} {k : Nat} {x : V} (h : (l.map r)[k]? = some x) : ∃ c, l[k]? = some c ∧ x = r c := by
  rw [List.getElem?_map] at h
  cases e : l[k]? with
  | none => rw [e] at h; cases h
  | some c => rw [e] at h; exact ⟨c, rfl, (Option.some.inj h).symm⟩
theorem eqvAll_txs (ss ss' : List (List Nat)) : PyData.eqvAll (ss.map fun t => PyData.str (S t)) (ss'.map fun t => PyData.str (S t)) = decide (ss = ss') := by
  induction ss generalizing ss' with
  | nil => cases ss' with
    | nil => rw [List.map_nil, PyData.eqvAll]; rfl
    | cons b r => rw [List.map_nil, List.map_cons, PyData.eqvAll]; rfl
  | cons a l ih => cases ss' with
    | nil => rw [List.map_nil, List.map_cons, PyData.eqvAll]; rfl
    | cons b r =>
      rw [List.map_cons, List.map_cons, PyData.eqvAll, ih, PyData.eqv, beq_dec]
      by_cases h1 : a = b
      · by_cases h2 : l = r
        · subst h1 h2; simp
        · simp [h2]
      · simp [h1]
theorem txt_self {ss : List (List Nat)} (h : ∀ t ∈ ss, lowT t) : selfD (.tuple (ss.map fun t => PyData.str (S t))) 1 := selfD_t fun d hd => by
  obtain ⟨a, ha, rfl⟩ := List.mem_map.mp hd
  exact selfD_s (h a ha)
theorem txl_self {ss : List (List Nat)} (h : ∀ t ∈ ss, lowT t) : selfD (.list (ss.map fun t => PyData.str (S t))) 1 := selfD_l fun d hd => by
  obtain ⟨a, ha, rfl⟩ := List.mem_map.mp hd
  exact selfD_s (h a ha)
theorem eq_txT {K : PySem.W.Frag} {H : Hp} {p p' : Addr} {ss ss' : List (List Nat)} {k : Bool → Prop} (h1 : H p = some (.tup (txs ss))) (h2 : H p' = some (.tup (txs ss'))) (l1 : ∀ t ∈ ss, lowT t) (l2 : ∀ t ∈ ss', lowT t) (q : k (decide (ss = ss'))) : dpq K (.ref p) (.ref p') H k :=
  dpq_i (.tup (SqT.of h1) (txs_dp ss)) (.tup (SqT.of h2) (txs_dp ss')) (self_sh (txt_self l1) (by decide)) (self_sh (txt_self l2) (by decide)) (by rw [PyData.eqv, eqvAll_txs]; exact q)
theorem eq_txL {K : PySem.W.Frag} {H : Hp} {p p' : Addr} {ss ss' : List (List Nat)} {k : Bool → Prop} (h1 : H p = some (.lst (txs ss))) (h2 : H p' = some (.lst (txs ss'))) (l1 : ∀ t ∈ ss, lowT t) (l2 : ∀ t ∈ ss', lowT t) (q : k (decide (ss = ss'))) : dpq K (.ref p) (.ref p') H k :=
  dpq_i (.lst (SqL.of h1) (txs_dp ss)) (.lst (SqL.of h2) (txs_dp ss')) (self_sh (txl_self l1) (by decide)) (self_sh (txl_self l2) (by decide)) (by rw [PyData.eqv, eqvAll_txs]; exact q)
/-- [(a, b) for one in text] -/
theorem lcp_prs {f : Nat → Pr2} {t : List Nat} {te : TE} {σ : L2.St} {H1 : Hp} {Q : VK} {vs : List Nat} {i : Nat} (ht : t.length ≤ 1000) (hw : ∀ v, wipe ((wipe σ vs).set i v) vs = wipe σ vs)
    (he : ∀ c H' Q', c ∈ t → Kp [] H1 H' → (∀ r, H' r = none → Q' (.ref r) (upd H' r (.tup [.str (S (f c).1), .str (S (f c).2)]))) → te ((wipe σ vs).set i (some (.str (S [c])))) H' Q')
    (q : ∀ D ys H', H1 D = none → Kp [] H1 H' → H' D = some (.lst ys) → Paired (pairP H') ys (t.map f) → Q (.ref D) H') : lcp t.length (itS t) (fun _ => True) (gName i) tYes te vs σ H1 Q := by
  refine lcp_i (fun D j H' => ∃ ys, Kp [] H1 H' ∧ H' D = some (.lst ys) ∧ Paired (pairP H') ys ((t.take j).map f) ∧ ys.length = j) ?_ (fun _ _ _ _ _ _ => trivial) ?_ ?_
  · exact fun D hD => ⟨[], Kp.rfl'.new hD, upd_at, .nil, rfl⟩
  · rintro D j x H' H'' hD hj ⟨ys, k1, d1, p1, l1⟩ ⟨rfl, c, hc, rfl⟩
    have hc2 : c = t[j] := by
      rw [List.getElem?_eq_getElem hj] at hc
      exact (Option.some.inj hc).symm
    subst hc2
    refine ⟨hw _, ?_⟩
    unfold tYes; dsimp only
    rw [if_pos rfl]
    refine he _ _ _ (List.getElem_mem hj) k1 fun r hr => ?_
    have d2 := upd_fr (o' := .tup [V.str (S (f t[j]).1), V.str (S (f t[j]).2)]) hr d1
    refine ⟨ys, d2, by rw [sizeLine_eq]; omega, ys ++ [.ref r], (k1.new hr).own hD, upd_at, ?_, by rw [List.length_append, l1]; rfl⟩
    rw [List.take_succ_eq_append_getElem hj, List.map_append]
    exact papp (prP_lst (prP_kp p1 (Kp.rfl'.new hr)) d2) (.cons ⟨r, rfl, upd_off (ne_none d1 hr).symm upd_at⟩ .nil)
  · rintro D H' hD ⟨ys, k1, d1, p1, l1⟩
    rw [List.take_length] at p1
    exact q D ys H' hD k1 d1 p1
theorem io_one {g : List Nat} {c : Nat} (nd : g.Nodup) (h : c ∈ g) : io g [c] = [c] := by
  induction g with
  | nil => cases h
  | cons a g ih =>
    obtain ⟨n1, n2⟩ := List.nodup_cons.mp nd
    unfold io at ih ⊢
    rw [List.filter_cons]
    by_cases e : a = c
    · subst e
      rw [if_pos (by simp), List.filter_eq_nil_iff.mpr fun x hx => ?_]
      simp only [List.mem_singleton, decide_eq_true_eq]
      exact fun e => n1 (e ▸ hx)
    · rw [if_neg (by simp [e])]
      rcases List.mem_cons.mp h with h | h
      · exact absurd h.symm e
      · exact ih n2 h
theorem io_self {g : List Nat} : io g g = g := List.filter_eq_self.mpr fun c hc => decide_eq_true hc
theorem cols_nil (g : List Nat) : colsP g [] = g.map fun _ => [] := by
  unfold colsP
  refine List.map_congr_left fun c hc => ?_
  exact List.filter_eq_nil_iff.mpr fun x hx => by simp
theorem prF_one (g : List Nat) : prF g (fun c => [c]) = g.map fun c => ([c], [c]) := by
  induction g with
  | nil => rfl
  | cons a g ih => rw [List.map_cons, ← ih]; rfl
theorem prP_f2 {H H' : Hp} {b g s : Addr} {n : Int} {xs : List V} {R : List Pr2} (h : Paired (pairP H) xs R) (hb : bx H b g s n) (k : Kp [b, g] H H') : Paired (pairP H') xs R := pmem h fun v a _ ⟨q, e, z⟩ => ⟨q, e, k.get2 z (hb.no z rfl).1 (hb.no z rfl).2.1⟩
theorem txs_app (a b : List (List Nat)) : txs (a ++ b) = txs a ++ txs b := List.map_append
theorem wents_at {g : List Nat} {cols : List (List Nat)} {j : Nat} (h1 : j < g.length) (h2 : j < cols.length) : (wents g cols).take (j + 1) = (wents g cols).take j ++ [went g[j] cols[j]] := by
  unfold wents
  rw [List.take_succ_eq_append_getElem (by rw [List.length_map, List.length_zip]; omega), List.getElem_map, List.getElem_zip]
theorem wents_len {g : List Nat} {cols : List (List Nat)} (hn : cols.length = g.length) : (wents g cols).length = g.length := by
  unfold wents
  rw [List.length_map, List.length_zip]; omega
theorem went_len {c : Nat} {t : List Nat} : (went c t).length ≤ t.length + 3 := by
  unfold went
  rw [List.length_append]
  split <;> simp <;> omega
theorem wents_sum {g : List Nat} {cols : List (List Nat)} {m : Nat} (h : ∀ t ∈ cols, t.length ≤ m) : ∀ y ∈ wents g cols, y.length ≤ m + 3 := fun y hy => by
  obtain ⟨⟨a, t⟩, ht, rfl⟩ := List.mem_map.mp hy
  have h1 := h t (List.of_mem_zip ht).2
  have h2 := went_len (c := a) (t := t)
  exact Nat.le_trans h2 (by omega)
theorem prs_prF {g : List Nat} {cols : List (List Nat)} (nd : g.Nodup) (hn : cols.length = g.length) : prs g cols = prF g (fun c => cols.getD (bef c g).length []) ∧ (g.map fun c => cols.getD (bef c g).length []) = cols := by
  have hf : ∀ i (hi : i < g.length), cols.getD (bef g[i] g).length [] = cols[i] := fun i hi => by
    rw [bef_nd nd hi, getD_at (by omega)]
  have e : g.zip cols = g.map fun c => (c, cols.getD (bef c g).length []) := by
    refine List.ext_getElem (by rw [List.length_zip, List.length_map]; omega) fun i h1 h2 => ?_
    rw [List.length_map] at h2
    rw [List.getElem_zip, List.getElem_map, hf i h2]
  refine ⟨?_, ?_⟩
  · unfold prs
    rw [e, List.flatMap_map]
  · refine List.ext_getElem (by rw [List.length_map]; omega) fun i h1 h2 => ?_
    rw [List.length_map] at h1
    rw [List.getElem_map, hf i h1]
theorem okC.f {g : List Nat} {cols : List (List Nat)} (h : okC g cols) : ∀ c ∈ g, io g (cols.getD (bef c g).length []) = cols.getD (bef c g).length [] := fun c _ => by
  rw [List.getD_eq_getElem?_getD]
  by_cases e : (bef c g).length < cols.length
  · rw [List.getElem?_eq_getElem e]; exact h.i _ (List.getElem_mem e)
  · rw [List.getElem?_eq_none (by omega)]
    exact List.filter_eq_nil_iff.mpr fun x hx => by simp
theorem okC.sub {g : List Nat} {cols : List (List Nat)} (h : okC g cols) {t : List Nat} (ht : t ∈ cols) : t.length ≤ g.length ∧ ∀ c ∈ t, c ∈ g := by
  have e := h.i t ht
  have h1 := List.length_filter_le (fun c => decide (c ∈ t)) g
  refine ⟨?_, fun c hc => ?_⟩
  · have h2 : (io g t).length ≤ g.length := h1
    rw [e] at h2; exact h2
  · rw [← e] at hc; exact io_sub hc
theorem okC.bad {g : List Nat} {cols : List (List Nat)} (nd : g.Nodup) (h : okC g cols) : badP g (prs g cols) 0 = none := by
  rw [(prs_prF nd h.n).1]; exact bad_at h.f
theorem okC.cols {g : List Nat} {cols : List (List Nat)} (nd : g.Nodup) (h : okC g cols) : colsP g (prs g cols) = cols := by
  rw [(prs_prF nd h.n).1, cols_at nd h.f, (prs_prF nd h.n).2]
theorem prs_small {g : List Nat} {cols : List (List Nat)} : ∀ p ∈ prs g cols, p.1.length < 100 ∧ p.2.length < 100 := fun p hp => by
  obtain ⟨c, hc, hp⟩ := List.mem_flatMap.mp hp
  obtain ⟨b, hb, rfl⟩ := List.mem_map.mp hp
  exact ⟨by simp, by simp⟩
theorem flat_sg (l : List Nat) : (l.map fun c => [c]).flatten = l := by
  induction l with
  | nil => rfl
  | cons a l ih => rw [List.map_cons, List.flatten_cons, ih]; rfl
theorem joi_sg {l : List Nat} {k : List Nat → Prop} (h : l.length ≤ 1000) (q : k l) : joi (l.map fun d => V.str (S [d])) (tl (S [])) k := by
  have e : (l.map fun d => V.str (S [d])) = txs (l.map fun d => [d]) := by rw [txs, List.map_map]; rfl
  rw [e]
  refine joi_t ?_ (by rw [flat_sg]; exact q)
  have := sum_le (m := 1) (ys := l.map fun d => [d]) fun y hy => by
    obtain ⟨d, _, rfl⟩ := List.mem_map.mp hy
    exact Nat.le_refl 1
  rw [List.length_map] at this
  omega
def ascB (G : List Nat) : Int → List Nat → Bool
  | _, [] => true
  | la, a :: t => !decide (fnd a G ≤ la) && ascB G (fnd a G) t
theorem fnd_ge (c : Nat) (G : List Nat) : -1 ≤ fnd c G := by
  unfold fnd
  split
  · omega
  · exact Int.le_refl _
theorem asc_sub {G : List Nat} : ∀ (t : List Nat) (la : Int), -1 ≤ la → ascB G la t = true → t.Sublist (G.drop (la + 1).toNat)
  | [], _, _, _ => List.nil_sublist _
  | a :: t, la, hla, h => by
    rw [ascB, Bool.and_eq_true, Bool.not_eq_true', decide_eq_false_iff_not] at h
    have hm : a ∈ G := Decidable.byContradiction fun hn => h.1 (by unfold fnd; rw [if_neg hn]; exact hla)
    obtain ⟨f1, f2⟩ := fnd_at hm
    have ih := asc_sub t (fnd a G) (fnd_ge a G) h.2
    rw [f1] at ih h
    have e : (((bef a G).length : Int) + 1).toNat = (bef a G).length + 1 := by omega
    rw [e] at ih
    have ga : G[(bef a G).length] = a := by
      have hb : ∀ {G : List Nat} (h : a ∈ G) (hl : (bef a G).length < G.length), G[(bef a G).length] = a := fun {G} h hl => by
        induction G with
        | nil => cases h
        | cons b G ih2 =>
          unfold bef at hl ⊢
          by_cases e : b = a
          · have : (List.takeWhile (fun x => !decide (x = a)) (b :: G)) = [] := by rw [List.takeWhile_cons, decide_eq_true e]; rfl
            simp only [this]
            exact e
          · have e2 : (List.takeWhile (fun x => !decide (x = a)) (b :: G)) = b :: List.takeWhile (fun x => !decide (x = a)) G := by rw [List.takeWhile_cons, decide_eq_false e]; rfl
            simp only [e2, List.length_cons, List.getElem_cons_succ]
            rcases List.mem_cons.mp h with h | h
            · exact absurd h.symm e
            · exact ih2 h _
      exact hb hm f2
    have h1 : (a :: t).Sublist (G.drop (bef a G).length) := by
      rw [List.drop_eq_getElem_cons f2, ga]
      exact ih.cons₂ a
    exact h1.trans (List.drop_sublist_drop_left G (by omega))
theorem sub_io {t G : List Nat} (h : t.Sublist G) : G.Nodup → io G t = t := by
  induction h with
  | slnil => exact fun _ => rfl
  | cons a s ih =>
    intro nd
    obtain ⟨n1, n2⟩ := List.nodup_cons.mp nd
    rename_i l1 l2
    show (a :: l2).filter _ = _
    rw [List.filter_cons, if_neg (by simp only [decide_eq_true_eq]; exact fun z => n1 (s.subset z))]
    exact ih n2
  | cons_cons a s ih =>
    intro nd
    obtain ⟨n1, n2⟩ := List.nodup_cons.mp nd
    rename_i l1 l2
    show (a :: l2).filter _ = _
    rw [List.filter_cons, if_pos (by simp)]
    refine congrArg (a :: ·) ((List.filter_congr fun x hx => decide_eq_decide.mpr ?_).trans (ih n2))
    have : ¬ x = a := fun e => n1 (e ▸ hx)
    simp [this]
theorem asc_mono {G : List Nat} {la la' : Int} (h : la ≤ la') : ∀ {t : List Nat}, ascB G la' t = true → ascB G la t = true
  | [], _ => rfl
  | a :: t, z => by
    rw [ascB, Bool.and_eq_true, Bool.not_eq_true', decide_eq_false_iff_not] at z ⊢
    exact ⟨fun z2 => z.1 (by omega), z.2⟩
theorem asc_flt {f : Nat → Bool} {G : List Nat} (nd : G.Nodup) : ∀ (rest pre : List Nat), G = pre ++ rest → ascB G ((pre.length : Int) - 1) (rest.filter f) = true
  | [], _, _ => rfl
  | a :: r, pre, e => by
    have hj : pre.length < G.length := by rw [e]; simp
    have ga : G[pre.length] = a := by simp [e]
    have ih := asc_flt (f := f) nd r (pre ++ [a]) (by rw [e, List.append_assoc]; rfl)
    have e1 : (((pre ++ [a]).length : Nat) : Int) - 1 = pre.length := by rw [List.length_append]; simp
    rw [e1] at ih
    rw [List.filter_cons]
    by_cases hf : f a = true
    · rw [if_pos hf]
      have hm : a ∈ G := by rw [← ga]; exact List.getElem_mem hj
      have f1 : fnd a G = (pre.length : Int) := by
        obtain ⟨f1, _⟩ := fnd_at hm
        rw [f1]
        have := bef_nd nd hj
        rw [ga] at this
        rw [this]
      rw [ascB, f1, ih, decide_eq_false (by omega)]; rfl
    · rw [if_neg hf]
      exact asc_mono (by omega) ih
theorem asc_io {G t : List Nat} (nd : G.Nodup) : ascB G (-1) t = true ↔ t = io G t :=
  ⟨fun h => (sub_io (asc_sub t (-1) (by omega) h) nd).symm, fun h => by rw [h]; exact asc_flt nd G [] rfl⟩
theorem rgt_t {G e : List Nat} {c : Nat} (h1 : e.take 2 = [c, 62]) (h2 : ¬ e.drop 2 = []) (h3 : e.drop 2 = [46] ∨ e.drop 2 = io G (e.drop 2)) : rgt G c e = true := decide_eq_true ⟨h1, h2, h3⟩
theorem rgt_f {G e : List Nat} {c : Nat} (h : e.take 2 = [c, 62] → ¬ e.drop 2 = [] → ¬ (e.drop 2 = [46] ∨ e.drop 2 = io G (e.drop 2))) : rgt G c e = false := decide_eq_false fun z => h z.1 z.2.1 z.2.2
theorem rdx_step {G : List Nat} {es : List (List Nat)} {i : Nat} (h1 : i < G.length) (h2 : i < es.length) : rdx G (G.drop i) (es.drop i) i = if rgt G G[i] es[i] = true then rdx G (G.drop (i + 1)) (es.drop (i + 1)) (i + 1) else some (i : Int) := by
  rw [List.drop_eq_getElem_cons h1, List.drop_eq_getElem_cons h2]; rfl
theorem rdx_less {G : List Nat} {es : List (List Nat)} {i : Nat} (h1 : i < G.length) (h2 : es.length ≤ i) : rdx G (G.drop i) (es.drop i) i = some (i : Int) := by
  rw [List.drop_eq_getElem_cons h1, List.drop_eq_nil_of_le h2]; rfl
theorem rdx_more {G : List Nat} {es : List (List Nat)} {i : Nat} (h1 : G.length ≤ i) (h2 : i < es.length) : rdx G (G.drop i) (es.drop i) i = some (i : Int) := by
  rw [List.drop_eq_nil_of_le h1, List.drop_eq_getElem_cons h2]; rfl
theorem rdx_end {G : List Nat} {es : List (List Nat)} {i : Nat} (h1 : G.length ≤ i) (h2 : es.length ≤ i) : rdx G (G.drop i) (es.drop i) i = none := by
  rw [List.drop_eq_nil_of_le h1, List.drop_eq_nil_of_le h2]; rfl
theorem rdx_ok {G : List Nat} : ∀ (cs : List Nat) (es : List (List Nat)) (i : Nat), rdx G cs es i = none → es.length = cs.length ∧ ∀ e ∈ es, ∃ c, rgt G c e = true
  | [], [], _, _ => ⟨rfl, fun _ z => nomatch z⟩
  | [], _ :: _, _, h => nomatch h
  | _ :: _, [], _, h => nomatch h
  | c :: cs, e :: es, i, h => by
    rw [rdx] at h
    split at h
    · rename_i z
      obtain ⟨h1, h2⟩ := rdx_ok cs es (i + 1) h
      refine ⟨congrArg (· + 1) h1, fun x hx => ?_⟩
      rcases List.mem_cons.mp hx with rfl | hx
      · exact ⟨c, z⟩
      · exact h2 x hx
    · cases h
theorem rdx_C {G : List Nat} {es : List (List Nat)} (h : rdx G G es 0 = none) : okC G (es.map colE) := by
  obtain ⟨h1, h2⟩ := rdx_ok G es 0 h
  refine ⟨by rw [List.length_map]; exact h1, fun t ht => ?_⟩
  obtain ⟨e, he, rfl⟩ := List.mem_map.mp ht
  obtain ⟨c, hr⟩ := h2 e he
  obtain ⟨_, _, h3⟩ := of_decide_eq_true hr
  unfold colE
  split
  · exact List.filter_eq_nil_iff.mpr fun x hx => by simp
  · rename_i h4
    exact (h3.resolve_left h4).symm
theorem g46 {l v : List Nat} (hl : good l v) : ∀ c ∈ sg l, c ≠ 46 := fun c hc => by
  rcases List.mem_cons.mp hc with rfl | hc
  · decide
  · have h1 := (badL_inv hl.1).2.2.2 c ((srt_perm l).mem_iff.mp hc)
    have h3 : ∀ c ∈ AZ, c ≠ 46 := by decide
    exact h3 c h1
theorem col_rp {G : List Nat} {es : List (List Nat)} (lo : ∀ c ∈ G, c < 128) (g6 : ∀ c ∈ G, c ≠ 46) (h : rdx G G es 0 = none) : (es.map fun e => V.str (S (rpE 46 (e.drop 2)))) = txs (es.map colE) := by
  obtain ⟨_, h2⟩ := rdx_ok G es 0 h
  rw [txs, List.map_map]
  refine List.map_congr_left fun e he => ?_
  obtain ⟨c, hr⟩ := h2 e he
  obtain ⟨_, _, h3⟩ := of_decide_eq_true hr
  show V.str (S (rpE 46 (e.drop 2))) = V.str (S (colE e))
  unfold colE
  split
  · rename_i h4; rw [h4]; rfl
  · rename_i h4
    have h5 := h3.resolve_left h4
    have : rpE 46 (e.drop 2) = e.drop 2 := List.filter_eq_self.mpr fun a ha => by
      rw [h5] at ha
      rw [decide_eq_false (g6 a (io_sub ha))]; rfl
    rw [this]
theorem okC.low {g : List Nat} {cols : List (List Nat)} (hg : lowT g) (h : okC g cols) : ∀ t ∈ cols, lowT t := fun t ht c hc => hg c ((h.sub ht).2 c hc)
-- two addresses
local macro_rules | `(tactic| and_intros) => `(tactic| first
  | assumption
  | (apply Ne.symm; assumption)
  | (apply ne_x; (focus assumption); (focus (apply Exists.intro; contradiction)))
  | (apply ne_y; (focus assumption); (focus (apply Exists.intro; contradiction))))
-- heap facts
local macro_rules | `(tactic| contradiction) => `(tactic| first
  | assumption
  | with_reducible exact upd_at
  | ((first | (apply upd_fr; (focus assumption)) | (apply upd_off; (focus and_intros))); contradiction)
  | (apply Kp.get0; (focus assumption); contradiction)
  | (apply Kp.get1; (focus assumption); (focus contradiction); (focus and_intros))
  | (apply Kp.get2; (focus assumption); (focus contradiction); (focus and_intros); (focus and_intros)))
-- what is kept
local macro_rules | `(tactic| nofun) => `(tactic| first
  | exact Kp.rfl'
  | assumption
  | (apply Kp.nil; assumption)
  | (apply Kp.at; (focus nofun); (focus first | exact List.mem_cons_self | exact List.mem_cons_of_mem _ List.mem_cons_self))
  | (apply Kp.new; (focus nofun); (focus assumption))
  | (apply Kp.own; (focus nofun); (focus assumption))
  | (apply Kp.trans; rotate_left 1; (focus (first | assumption | (apply Kp.nil; assumption))); (focus nofun)))
-- side facts
local macro_rules | `(tactic| bv_omega) => `(tactic| first
  | with_reducible assumption
  | omega
  | (with_reducible refine lim_of ?_; omega)
  | (simp only [tl, S, List.toList_toArray, srt_len, sgn_len, List.length_append, List.length_cons, List.length_nil, List.length_take, List.length_drop, List.length_map, List.length_set, cut_to, cut_from, cut_both, cut_one, cut_fr1, cut_t1]; omega)
  | (with_reducible refine lim_of ?_; simp only [tl, S, List.toList_toArray, srt_len, sgn_len, List.length_append, List.length_cons, List.length_nil, List.length_take, List.length_drop, List.length_map, List.length_set, cut_to, cut_from, cut_both, cut_one, cut_fr1, cut_t1]; omega)
  | exact rfl
  | exact flat_k _
  | (refine rg_ok ?_ ?_ ?_ ?_ <;> omega)
  | (refine rg_ok ?_ ?_ ?_ ?_ <;> (simp only [tl, S, List.toList_toArray, List.length_cons, List.length_nil]; omega))
  | (refine And.intro ?_ ?_ <;> omega)
  | (refine Or.inr (And.intro ?_ ?_) <;> omega)
  | (refine Or.inl (And.intro ?_ ?_) <;> omega)
  | (dsimp only; omega)
  | (refine And.intro ?_ ?_ <;> (simp only [tl, S, List.toList_toArray, srt_len, sgn_len, List.length_append, List.length_cons, List.length_nil, List.length_take, List.length_drop, List.length_map, List.length_set, cut_to, cut_from, cut_both, cut_one, cut_fr1, cut_t1]; omega))
  | (show _ < 1000; exact Nat.le_of_ble_eq_true (Eq.refl true))
  | (rw [sizeLine_eq]; exact Nat.le_of_ble_eq_true (Eq.refl true))
  | (with_reducible refine lim_of ?_; simp only [tl, S, List.toList_toArray, srt_len, sgn_len, List.length_append, List.length_cons, List.length_nil, List.length_take, List.length_drop, List.length_map, List.length_set, cut_to, cut_from, cut_both, cut_one, cut_fr1, cut_t1]; grind [cut_len])
  | assumption)
-- one step
local macro_rules | `(tactic| ac_rfl) => `(tactic| (conv => whnf) <;> first
  | (with_reducible intro _)
  | ((with_reducible refine look_id ?_); apply look_i; (focus contradiction))
  | ((with_reducible refine itm_id ?_); first
    | (refine itm_i (by first | rfl | assumption) ?_)
    | (refine itm_0 ?_)
    | (refine itm_1 ?_)
    | (apply itm_z0; (focus omega))
    | (apply itm_z1; (focus omega))
    | (apply itm_2; (focus omega); (focus omega))
    | (apply itm_3; (focus omega); (focus omega))
    | (apply itm_k; (focus bv_omega); (focus bv_omega))
    | (apply itm_s; (focus bv_omega); (focus bv_omega)))
  | ((with_reducible refine fld_id ?_); refine fld_i (by first | rfl | assumption) ?_)
  | ((with_reducible refine isa_id ?_); first
    | (refine isa_1 rfl (by first | assumption | rfl) ?_)
    | (apply isa_t; (focus contradiction); (focus rfl); (focus assumption)))
  | ((with_reducible refine joi_id ?_); refine joi_i ?_ ?_; (focus bv_omega))
  | ((with_reducible refine cnd_id ?_); first
    | (refine cnd_t (Eq.refl true) ?_)
    | (refine cnd_f (Eq.refl false) ?_)
    | (refine cnd_n ?_)
    | (refine cnd_t (by with_reducible assumption) ?_)
    | (refine cnd_f (by with_reducible assumption) ?_)
    | (apply cnd_t; (focus (apply decide_eq_true; omega)))
    | (apply cnd_f; (focus (apply decide_eq_false; omega)))
    | (refine cnd_d (fun _ => ?_) (fun _ => ?_))
    | (refine cnd_i (fun _ => ?_) (fun _ => ?_)))
  | (refine wn_i ?_)
  | (with_reducible refine pick_1 ?_)
  | (with_reducible refine pick_n ?_)
  | (refine i_all_different ?_ ?_; (focus bv_omega))
  | (apply i_Alphabet_eqS; (focus contradiction))
  | (apply i_Alphabet_eq; (focus contradiction); (focus contradiction))
  | (apply i_Alphabet_is_text; (focus contradiction))
  | ((with_reducible refine d_read_entry ?_); apply i_read_entry; (focus bv_omega); (focus bv_omega))
  | ((with_reducible refine d_l_written ?_); apply i_l_written; (focus contradiction); (focus bv_omega); (focus assumption))
  | ((with_reducible refine d_l_index ?_); apply i_l_index; (focus contradiction); (focus assumption); (focus bv_omega); (focus first | assumption | bv_omega); (focus bv_omega))
  | ((with_reducible refine d_Table_bool ?_); apply i_Table_bool; (focus (first | assumption | (apply tabAt.kp; (focus assumption); (focus nofun)))))
  | ((with_reducible refine d_Table_total ?_); apply i_Table_total; (focus (first | assumption | (apply tabAt.kp; (focus assumption); (focus nofun)))))
  | ((with_reducible refine d_Table_exact ?_); apply i_Table_exact; (focus (first | assumption | (apply tabAt.kp; (focus assumption); (focus nofun)))); (focus bv_omega); (focus assumption))
  | ((with_reducible refine d_written_entry ?_); apply i_written_entry; (focus bv_omega))
  | ((with_reducible refine d_Table_str ?_); apply i_Table_str; (focus (first | assumption | (apply tabAt.kp; (focus assumption); (focus nofun)))); (focus contradiction); (focus first | assumption | bv_omega); (focus first | assumption | bv_omega); (focus assumption))
  | ((with_reducible refine d_l_integer ?_); apply i_l_integer)
  | ((with_reducible refine d_l_truth ?_); apply i_l_truth)
  | ((with_reducible refine d_l_outs ?_); apply i_l_outs; (focus contradiction); (focus first | assumption | bv_omega); (focus first | assumption | bv_omega); (focus bv_omega); (focus first | assumption | bv_omega))
  | ((with_reducible refine d_l_take ?_); apply i_l_take; (focus (first | assumption | (apply bx.kp; (focus assumption); (focus nofun)))); (focus bv_omega); (focus bv_omega))
  | ((with_reducible refine d_l_signs ?_); apply i_l_signs; (focus bv_omega))
  | ((with_reducible refine d_l_draw ?_); apply i_l_draw; (focus first | rfl | assumption | bv_omega); (focus (first | assumption | (apply bx.kp; (focus assumption); (focus nofun)))); (focus bv_omega); (focus bv_omega); (focus bv_omega))
  | ((with_reducible refine d_Alphabet_is_text ?_); apply i_Alphabet_is_text; (focus contradiction))
  | ((with_reducible refine d_in_order ?_); apply i_in_order; (focus bv_omega))
  | ((with_reducible refine d_is_sign ?_); apply i_is_sign; (focus contradiction); (focus bv_omega))
  | ((with_reducible refine d_check_sign ?_); apply i_check_sign; (focus contradiction); (focus bv_omega))
  | ((with_reducible refine d_pairs_of ?_); apply i_pairs_of; (focus (first | exact Or.inl (by assumption) | exact Or.inr (by assumption))); (focus bv_omega); (focus assumption); (focus assumption))
  | ((with_reducible refine d_Table_pairs ?_); apply i_Table_pairs; (focus first | assumption | bv_omega))
  | ((with_reducible refine d_Table_getitem ?_); apply i_Table_getitem; (focus first | assumption | bv_omega); (focus contradiction); (focus first | assumption | bv_omega); (focus bv_omega))
  | ((with_reducible refine d_Table_len ?_); apply i_Table_len; (focus first | assumption | bv_omega); (focus bv_omega))
  | ((with_reducible refine and_id ?_); first
    | (refine And.intro (fun (_ : true = true) => ?_) (fun (z : true = false) => Bool.noConfusion z))
    | (refine And.intro (fun (z : false = true) => Bool.noConfusion z) (fun (_ : false = false) => ?_))
    | (refine And.intro ?_ ?_; (focus bv_omega))
    | (refine And.intro (sd_e ?_) ?_))
  | ((with_reducible refine ex_id ?_); first
    | (refine Exists.intro _ (And.intro (by first | rfl | assumption) ?_))
    | (apply ixs_i; (focus bv_omega); (focus bv_omega)))
  | (intro _))


theorem rd_l_written {K : PySem.W.Frag} {mg : Str → Option Value} (T : Tx K mg) : ∀ vs H Q E, sp_l_written K vs H Q E → t_l_written K (WD E) (EndD Q) (start ["_law_signs_here", "_law_outs_here", "_law_k"] vs) H := by
  intro vs H Q E h
  replace h := h.out
  obtain ⟨G, r, cols, rfl, hr, hn, h1, q1⟩ := h
  have T0 := T
  cases T
  have hgl : (tl (S G)).length = G.length := rfl
  have hcl : (txs cols).length = cols.length := List.length_map _
  have wn := wents_len (g := G) hn.1
  repeat' ac_rfl
  all_goals (try (conv => whnf))
  refine lcp_i (fun D k H' => H' = upd H D (.lst (txs ((wents G cols).take k)))) (fun D hD => rfl) (fun _ _ _ _ _ _ => trivial) ?_ ?_
  · rintro D k x H' H'' hD hk rfl ⟨rfl, rfl⟩
    have hk1 : k < G.length := by omega
    have hk2 : k < cols.length := by omega
    have hct := h1 _ (List.getElem_mem hk2)
    have hrD := upd_fr (o' := .lst (txs ((wents G cols).take k))) hD hr
    have put : ∀ t, t = went G[k] cols[k] → ∃ acc, upd H D (.lst (txs ((wents G cols).take k))) D = some (.lst acc) ∧ acc.length < sizeLine ∧ upd (upd H D (.lst (txs ((wents G cols).take k)))) D (.lst (acc ++ [.str (S t)])) = upd H D (.lst (txs ((wents G cols).take (k + 1)))) := fun t e => by
      refine ⟨_, upd_at, ?_, ?_⟩
      · rw [List.length_map, List.length_take, sizeLine_eq]; omega
      · rw [upd_tw, wents_at hk1 hk2, txs_app, e]; rfl
    refine ⟨rfl, ?_⟩
    unfold tYes; dsimp only
    rw [if_pos rfl]
    repeat' ac_rfl
    all_goals (try (conv => whnf))
    · rename_i k1 hk1' z1 k2 hk2' z2 x
      obtain rfl : k = k1 := by omega
      obtain rfl : k = k2 := by omega
      have x : cols[k] = [] := x
      refine put _ ?_
      unfold went
      rw [if_pos x]; rfl
    · rename_i k2 hk2' z2 x k3 hk3' z3
      rename_i k1 hk1' z1
      obtain rfl : k = k1 := by omega
      obtain rfl : k = k2 := by omega
      obtain rfl : k = k3 := by omega
      have x : ¬ cols[k] = [] := x
      refine put _ ?_
      unfold went
      rw [if_neg x]; rfl
  · rintro D H' hD rfl
    rw [take_all (by omega)]
    exact q1 D _ (Kp.rfl'.new hD) hD upd_at


theorem rd_in_order {K : PySem.W.Frag} {mg : Str → Option Value} (T : Tx K mg) : ∀ vs H Q E, sp_in_order K vs H Q E → t_in_order K (WD E) (EndD Q) (start ["signs", "string", "sign"] vs) H := by
  intro vs H Q E h
  replace h := h.out
  obtain ⟨g, m, rfl, h1, q1⟩ := h
  have T0 := T
  cases T
  repeat' ac_rfl
  all_goals (try (conv => whnf))
  refine lcp_f (fun c => decide (c ∈ m)) (show g.length < 1000000 by omega) ?_ ?_ (fun _ => rfl) ?_
  · rintro c D _ Q' hD hc ⟨xs, rfl⟩ q
    exact q
  · intro c H' Q' q
    exact q
  intro D hD
  have hle := List.length_filter_le (fun c => decide (c ∈ m)) g
  repeat' ac_rfl
  all_goals (try (conv => whnf))
  exact q1 _ (Kp.rfl'.new hD)


theorem rd_read_entry {K : PySem.W.Frag} {mg : Str → Option Value} (T : Tx K mg) : ∀ vs H Q E, sp_read_entry K vs H Q E → t_read_entry K (WD E) (EndD Q) (start ["signs", "sign", "entry", "start", "column"] vs) H := by
  intro vs H Q E h
  replace h := h.out
  obtain ⟨G, e, c, rfl, h1, h2, q1, q2⟩ := h
  have T0 := T
  cases T
  repeat' ac_rfl
  all_goals (try (conv => whnf))
  · rename_i x1 x2
    have x2 : e.drop 2 = [46] := x2
    have q1 := q1 (rgt_t x1 (by rw [x2]; simp) (.inl x2)) H Kp.rfl'
    unfold colE at q1
    rw [if_pos x2] at q1
    exact q1
  · rename_i x1 x2 x3
    have x3 : e.drop 2 = [] := x3
    exact q2 (rgt_f fun _ z => absurd x3 z) H Kp.rfl'
  · rename_i x1 x2 x3 H1 k1 x4
    have x4 : e.drop 2 = io G (e.drop 2) := x4
    have q1 := q1 (rgt_t x1 x3 (.inr x4)) H1 k1
    have x2 : ¬ e.drop 2 = [46] := x2
    unfold colE at q1
    rw [if_neg x2] at q1
    exact q1
  · rename_i x1 x2 x3 H1 k1 x4
    exact q2 (rgt_f fun _ _ z => z.elim x2 x4) H1 k1
  · rename_i x1
    exact q2 (rgt_f fun z => absurd z x1) H Kp.rfl'


theorem rd_is_sign {K : PySem.W.Frag} {mg : Str → Option Value} (T : Tx K mg) : ∀ vs H Q E, sp_is_sign K vs H Q E → t_is_sign K (WD E) (EndD Q) (start ["alphabet", "string"] vs) H := by
  intro vs H Q E h
  replace h := h.out
  obtain ⟨A, dA, l, v, t, rfl, hA, h1, q⟩ := h
  have T0 := T
  cases T
  have hl : (tl (S t)).length < 1000 := h1
  rcases t with _ | ⟨c, _ | ⟨d, t⟩⟩
  · repeat' ac_rfl
    all_goals (try (conv => whnf))
    all_goals trivial
  · repeat' ac_rfl
    all_goals (try (conv => whnf))
    all_goals trivial
  · repeat' ac_rfl
    all_goals (try (conv => whnf))
    all_goals trivial


theorem rd_pairs_of {K : PySem.W.Frag} {mg : Str → Option Value} (T : Tx K mg) : ∀ vs H Q E, sp_pairs_of K vs H Q E → t_pairs_of K (WD E) (EndD Q) (start ["signs", "columns", "told", "column", "out"] vs) H := by
  intro vs H Q E h
  replace h := h.out
  obtain ⟨g, c, cols, rfl, hc, h1, h2, h3, q1⟩ := h
  have T0 := T
  cases T
  have hcl : (cols.map fun t => V.str (S t)).length = cols.length := List.length_map _
  rcases hc with hc | hc
  all_goals
    repeat' ac_rfl
    all_goals (try (conv => whnf))
    · exact sd_i (List.all_eq_true.mpr fun x hx => decide_eq_true (h2 x hx))
    refine lc2_j (fun D i H' => ∃ xs, Kp [] H H' ∧ H' D = some (.lst xs) ∧ Paired (pairP H') xs (((g.zip cols).take i).flatMap fun x => x.2.map fun b => ([x.1], [b])) ∧ xs.length ≤ 100 * i) ?_ ?_ ?_ ?_
    · intro D hD; exact ⟨[], Kp.rfl'.new hD, upd_at, .nil, Nat.zero_le _⟩
    · rintro D i H' hD hi ⟨xs, kk, _⟩; exact kk.get0 hc
    · rintro D i x H1 H2 hD hi ⟨xs, kk, hDx, hp, hl⟩ ⟨T, a, y, rfl, hT, rfl, ha, hy⟩
      have hi2 : i < cols.length := by rw [← hcl]; exact hi
      have hy2 : y = .str (S cols[i]) := by
        have hy : (cols.map fun t => V.str (S t))[i]? = some y := hy
        rw [List.getElem?_map, List.getElem?_eq_getElem hi2] at hy
        exact (Option.some.inj hy).symm
      subst hy2
      have hg2 : i < g.length := by omega
      have ha2 : a = g[i] := by
        have ha : g[i]? = some a := ha
        rw [List.getElem?_eq_getElem hg2] at ha
        exact (Option.some.inj ha).symm
      subst ha2
      have hDT : D ≠ T := ne_none hDx hT
      have hTH : H T = none := kk.none hT
      refine gtup2 upd_at ⟨rfl, ?_⟩
      conv => whnf
      intro J A
      refine inn_i A (fun j H' => ∃ ys, Kp [] H H' ∧ H' D = some (.lst (xs ++ ys)) ∧ Paired (pairP H') (xs ++ ys) ((((g.zip cols).take i).flatMap fun x => x.2.map fun b => ([x.1], [b])) ++ (cols[i].take j).map fun b => ([g[i]], [b])) ∧ ys.length = j) ?_ ?_ ?_ ?_
      · exact ⟨[], kk.new hT, by rw [List.append_nil]; exact upd_off hDT hDx, by rw [List.append_nil, List.take_zero, List.map_nil, List.append_nil]; exact prP_kp hp (Kp.rfl'.new hT), rfl⟩
      · exact fun _ _ _ _ => trivial
      · rintro H' ⟨ys, k1, d1, p1, l1⟩
        have e : cols[i].take (tl (S cols[i])).length = cols[i] := List.take_length
        have hh := h3 _ (List.getElem_mem hi2)
        have l1 : ys.length = cols[i].length := l1
        rw [e] at p1
        refine ⟨xs ++ ys, k1, d1, ?_, by rw [List.length_append]; omega⟩
        rw [List.take_succ_eq_append_getElem (by rw [List.length_zip]; omega), List.flatMap_append, List.getElem_zip]
        simpa using p1
      · rintro j z H' H'' hj ⟨ys, k1, d1, p1, l1⟩ ⟨rfl, c', hc', rfl⟩
        have hj : j < cols[i].length := hj
        have hc2 : c' = cols[i][j] := by
          have hc' : cols[i][j]? = some c' := hc'
          rw [List.getElem?_eq_getElem hj] at hc'
          exact (Option.some.inj hc').symm
        subst hc2
        have hh := h3 _ (List.getElem_mem hi2)
        refine ⟨rfl, ?_⟩
        repeat' ac_rfl
        all_goals (try (conv => whnf))
        rename_i r hr
        have d2 := upd_fr (o' := .tup [V.str (S [g[i]]), V.str (S [cols[i][j]])]) hr d1
        have k2 := k1.new (o := .tup [V.str (S [g[i]]), V.str (S [cols[i][j]])]) hr
        refine ⟨xs ++ ys, d2, by rw [List.length_append, sizeLine_eq]; omega, ys ++ [.ref r], k2.own hD, by rw [← List.append_assoc]; exact upd_at, ?_, by rw [List.length_append, l1]; rfl⟩
        rw [List.take_succ_eq_append_getElem hj, List.map_append, ← List.append_assoc, ← List.append_assoc]
        exact papp (prP_lst (prP_kp p1 (Kp.rfl'.new hr)) d2) (.cons ⟨r, rfl, upd_off (ne_none d1 hr).symm upd_at⟩ .nil)
    · rintro D H' hD ⟨xs, kk, hDx, hp, hl⟩
      rw [List.take_of_length_le (by rw [List.length_zip]; show _ ≤ (cols.map fun t => V.str (S t)).length; omega)] at hp
      exact q1 D xs H' kk hD hDx hp


theorem rd_Table_init {K : PySem.W.Frag} {mg : Str → Option Value} (T : Tx K mg) : ∀ vs H Q E, sp_Table_init K vs H Q E → t_Table_init K (WD E) (EndD Q) (start ["self", "alphabet", "pairs", "index", "first", "second", "signs", "gathered", "told", "out", "sign", "string"] vs) H := by
  intro vs H Q E h
  replace h := h.out
  obtain ⟨t, dt, A, dA, p, l, v, xs, R, rfl, ht, hA, hl, hp, hx, hn, hq, q1, q2⟩ := h
  have T0 := T
  cases T
  have hl2 := plen hx
  have hgl : (sg l).length ≤ 5 := by
    have h1 := badL_inv hl.1
    show (srt l).length + 1 ≤ 5
    rw [srt_len]; omega
  have hgl2 : (45 :: srt l).length ≤ 5 := hgl
  have hat : ∀ r ∈ R, r.1.length < 100 ∧ r.2.length < 100 := hq
  repeat' ac_rfl
  all_goals (try (conv => whnf))
  refine loop_i (fun i σ H' => Sd (∃ v3 v4 v5 : Option V, σ = [some (.ref t), some (.ref A), some (.ref p), v3, v4, v5, none, none, none, none, none, none] ∧ Kp [] H H' ∧ ∀ r ∈ R.take i, isS (sg l) r.1 = true ∧ isS (sg l) r.2 = true)) ?_ ?_ ?_ ?_
  · exact sd_i ⟨none, none, none, rfl, Kp.rfl', fun _ z => nomatch z⟩
  · rintro i σ H' _ hP
    obtain ⟨v3, v4, v5, rfl, kk, al⟩ := sd_e hP
    exact kk.get0 hp
  · rintro i x σ H1 H2 hi hP ⟨T', y, rfl, hT, rfl, hy⟩
    obtain ⟨v3, v4, v5, rfl, kk, al⟩ := sd_e hP
    have hiR : i < R.length := by omega
    obtain ⟨q0, e0, hq0⟩ := pget hi hiR hx
    rw [List.getElem?_eq_getElem hi, e0] at hy
    obtain rfl := Option.some.inj hy
    have k2 := kk.new (o := .tup [V.int i, V.ref q0]) hT
    have hA2 := k2.get0 hA
    have hq1 := hq _ (List.getElem_mem hiR)
    refine gtup12 upd_at (k2.get0 hq0) ?_
    generalize upd H1 T' (.tup [V.int i, V.ref q0]) = H3 at k2 hA2
    repeat' ac_rfl
    all_goals (try (conv => whnf))
    · rename_i x1 x2
      refine sd_i ⟨_, _, _, rfl, k2, fun r hr => ?_⟩
      rw [List.take_succ_eq_append_getElem hiR] at hr
      rcases List.mem_append.mp hr with hr | hr
      · exact al r hr
      · rw [List.mem_singleton.mp hr]; exact ⟨x1, x2⟩
    · rename_i x1 x2 d hd
      exact (q2 _ (badP_at hiR al fun z => by rw [z.2] at x2; cases x2)).out H3 d k2 hd
    · rename_i x1 d hd
      exact (q2 _ (badP_at hiR al fun z => by rw [z.1] at x1; cases x1)).out H3 d k2 hd
  · rintro σ H' hP
    obtain ⟨v3, v4, v5, rfl, kk, al⟩ := sd_e hP
    rw [List.take_of_length_le (by omega)] at al
    have hA2 := kk.get0 hA
    have ht2 := kk.get0 ht
    have hp2 := kk.get0 hp
    have hx2 := prP_kp hx kk
    have q1 := q1 (badP_no al)
    repeat' ac_rfl
    all_goals (try (conv => whnf))
    refine lcp_K0 (l := sg l) (r := fun c => V.str (S [c])) rfl (fun k H x H' z => z) (fun _ _ => trivial) (fun _ => true) (fun c => V.str (S ((R.filter fun p => decide (p.1 = [c])).flatMap fun p => p.2))) (by omega) (fun _ _ _ _ _ hQ => hQ _ Kp.rfl') ?_ (fun _ => rfl) ?_
    · rintro c H2 Q' hc _ k2 hQ
      repeat' ac_rfl
      all_goals (try (conv => whnf))
      refine lcp_gath (k2.get0 hp2) (prP_kp hx2 k2) hn fun D hD => ?_
      repeat' ac_rfl
      all_goals (try (conv => whnf))
      refine joi_t ?_ ?_
      · have h1 := sum_le (m := 100) (ys := (R.filter fun p => decide (p.1 = [c])).map fun p => p.2) fun y hy => by
          obtain ⟨p, hp, rfl⟩ := List.mem_map.mp hy
          exact Nat.le_of_lt (hq p (List.mem_filter.mp hp).1).2
        have h2 := List.length_filter_le (fun p : Pr2 => decide (p.1 = [c])) R
        rw [List.length_map] at h1; omega
      · exact hQ _ (Kp.rfl'.new hD)
    · intro D H2 hD k2 hDD
      rw [List.filter_eq_self.mpr (fun _ _ => rfl)] at hDD
      have hA3 := k2.get0 hA2
      have ht3 := k2.get0 ht2
      have hDt : D ≠ t := ne_none' ht2 hD
      repeat' ac_rfl
      all_goals (try (conv => whnf))
      have k3 : Kp [t] H (upd H2 t (.ins (He.ga K "Table") dt [("alphabet", .ref A)])) := ((kk.trans k2).nil).at List.mem_cons_self
      refine lcp_K (l := sg l) (r := fun c => V.str (S ((R.filter fun p => decide (p.1 = [c])).flatMap fun p => p.2))) (upd_off hDt hDD) (fun _ => true) (fun c => V.str (S (io (sg l) ((R.filter fun p => decide (p.1 = [c])).flatMap fun p => p.2)))) (by omega) ?_ ?_ ?_ ?_
      · exact fun _ _ _ _ _ hQ => hQ _ Kp.rfl'
      · rintro c H4 Q' hc _ k4 hQ
        repeat' ac_rfl
        all_goals (try (conv => whnf))
        refine hQ _ ?_
        assumption
      · exact fun _ => rfl
      · intro D2 H4 hD2 k4 hDD2
        rw [List.filter_eq_self.mpr (fun _ _ => rfl)] at hDD2
        have ht4 := k4.get0 (show upd H2 t _ t = _ from upd_at)
        have hDt2 : D2 ≠ t := ne_none' upd_at hD2
        have k5 : Kp [t] H H4 := k3.trans k4.nil
        have lo : ∀ c ∈ sg l, c < 128 := fun c hc => by
          rcases List.mem_cons.mp hc with rfl | hc
          · decide
          · have h1 := (badL_inv hl.1).2.2.2 c ((srt_perm l).mem_iff.mp hc)
            have h3 : ∀ c ∈ AZ, c < 128 := by decide
            exact h3 c h1
        repeat' ac_rfl
        all_goals (try (conv => whnf))
        rename_i L hL
        have hLt : L ≠ t := ne_none' ht4 hL
        have hcL : ∀ o, upd (upd H4 L (HO.tup ((sg l).map fun c => V.str (S (io (sg l) ((R.filter fun p => decide (p.1 = [c])).flatMap fun p => p.2)))))) t o L = some (.tup (txs (colsP (sg l) R))) := fun o =>
          upd_off hLt (upd_at.trans (by unfold colsP; rw [txs, List.map_map]; rfl))
        refine i_pairs_of (cols := colsP (sg l) R) (.inl (hcL _)) ⟨by unfold colsP; rw [List.length_map], show (sg l).length < 100 by omega⟩ lo ?_ ?_
        · intro t ht
          obtain ⟨c, _, rfl⟩ := List.mem_map.mp ht
          have := List.length_filter_le (fun c' => decide (c' ∈ ((R.filter fun p => decide (p.1 = [c])).flatMap fun p => p.2))) (sg l)
          exact Nat.lt_of_le_of_lt this (by omega)
        · intro p3 xs3 H5 k6 hp3 hp3' pr3
          have ht5 := k6.get0 (show upd (upd H4 L (HO.tup ((sg l).map fun c => V.str (S (io (sg l) ((R.filter fun p => decide (p.1 = [c])).flatMap fun p => p.2)))))) t (.ins (He.ga K "Table") dt [("alphabet", .ref A), ("columns", .ref L)]) t = _ from upd_at)
          have hc5 := k6.get0 (hcL (.ins (He.ga K "Table") dt [("alphabet", .ref A), ("columns", .ref L)]))
          repeat' ac_rfl
          all_goals (try (conv => whnf))
          rename_i L2 hL2
          have hL2t : L2 ≠ t := ne_none' ht5 hL2
          have k7 : Kp [t] H H5 := ((k5.new hL).at List.mem_cons_self).trans k6.nil
          refine q1 _ ((k7.new hL2).at List.mem_cons_self) ⟨dt, L, L2, xs3, upd_at, upd_off hLt (upd_fr hL2 hc5), upd_off hL2t upd_at, ?_⟩
          exact pmem pr3 fun v a _ ⟨z, e, hz⟩ => ⟨z, e, upd_off (fun e => by rw [e, ht5] at hz; cases hz) (upd_fr hL2 hz)⟩


theorem rd_Table_read {K : PySem.W.Frag} {mg : Str → Option Value} (T : Tx K mg) : ∀ vs H Q E, sp_Table_read K vs H Q E → t_Table_read K (WD E) (EndD Q) (start ["cls", "alphabet", "written", "signs", "entries", "columns", "index", "sign", "column"] vs) H := by
  intro vs H Q E h
  replace h := h.out
  obtain ⟨A, dA, l, v, w, rfl, hA, hl, hw, q1, q2⟩ := h
  have T0 := T
  cases T
  have lo := sg_low hl
  have hgl2 : (sg l).length ≤ 5 := (sg_len hl).2
  have hsum := splc_len 32 w
  have hel : (ents w).length ≤ 100000 ∧ ∀ e ∈ ents w, e.length < 100000 := by
    rw [show ents w = splc 32 w from spl1 32 w]
    exact ⟨by omega, fun e he => by have := le_sum he; have := List.length_pos_of_mem he; omega⟩
  repeat' ac_rfl
  all_goals (try (conv => whnf))
  · exact sd_i ⟨by decide, by decide⟩
  · exact sd_i (List.all_eq_true.mpr fun c hc => decide_eq_true (lo c hc))
  rename_i p1 hp1 p2 hp2
  have n12 : p1 ≠ p2 := (ne_none upd_at hp2)
  have hp2' : H p2 = none := (Kp.rfl'.new hp1).none hp2
  have hl1 : ∀ e, (txs (ents w)).length = e ↔ (ents w).length = e := fun e => by rw [List.length_map]
  have hlen : (txs (ents w)).length = (ents w).length := List.length_map _
  refine loop_i (fun i σ H' => Sd (∃ v6 v7 v8 : Option V, σ = [some (.ref (He.ga K "Table")), some (.ref A), some (.str (S w)), some (.str (S (sg l))), some (.ref p1), some (.ref p2), v6, v7, v8] ∧ Kp [] H H' ∧ H' p1 = some (.lst (txs (ents w))) ∧ H' p2 = some (.lst (txs (((ents w).take i).map colE))) ∧ i ≤ (ents w).length ∧ rdx (sg l) (sg l) (ents w) 0 = rdx (sg l) ((sg l).drop i) ((ents w).drop i) i)) ?_ (fun _ _ _ _ _ => trivial) ?_ ?_
  · exact sd_i ⟨none, none, none, rfl, (Kp.rfl'.new hp1).new hp2, upd_fr hp2 upd_at, upd_at, Nat.zero_le _, rfl⟩
  · rintro i x σ H' H'' hi hP ⟨T', c, rfl, hT, rfl, hc⟩
    obtain ⟨v6, v7, v8, rfl, kk, h1, h2, hie, e0⟩ := sd_e hP
    have hi2 : i < (sg l).length := hi
    have hc : (sg l)[i]? = some c := hc
    rw [List.getElem?_eq_getElem hi2] at hc
    obtain rfl := Option.some.inj hc
    have k2 := kk.new (o := .tup [V.int i, V.str (S [(sg l)[i]])]) hT
    have h1' := upd_fr (o' := .tup [V.int i, V.str (S [(sg l)[i]])]) hT h1
    have h2' := upd_fr (o' := .tup [V.int i, V.str (S [(sg l)[i]])]) hT h2
    refine gtup2 upd_at ?_
    generalize upd H' T' (.tup [V.int i, V.str (S [(sg l)[i]])]) = H3 at k2 h1' h2'
    repeat' ac_rfl
    all_goals (try (conv => whnf))
    · rename_i x d hd
      exact (q2 _ (by rw [e0, rdx_less hi2 (by omega)])).out H3 d k2 hd
    rename_i x j hj z
    obtain rfl : i = j := by omega
    rw [rdx_step hi2 hj] at e0
    refine i_read_entry (by omega) (hel.2 _ (List.getElem_mem hj)) (fun y H4 k4 => ?_) (fun y H4 k4 => ?_)
    · rw [y, if_pos rfl] at e0
      have h2'' := k4.get0 h2'
      have hal : (txs (((ents w).take i).map colE)).length ≤ 100000 := by
        rw [List.length_map, List.length_map, List.length_take]; omega
      repeat' ac_rfl
      all_goals (try (conv => whnf))
      refine sd_i ⟨_, _, _, rfl, (k2.trans k4).own hp2', upd_off n12 (k4.get0 h1'), ?_, by omega, e0⟩
      rw [List.take_succ_eq_append_getElem hj, List.map_append, txs_app]
      exact upd_at
    · rw [y, if_neg (by decide)] at e0
      repeat' ac_rfl
      all_goals (try (conv => whnf))
      rename_i d hd
      exact (q2 _ e0).out H4 d (k2.trans k4) hd
  · rintro σ H' hP
    obtain ⟨v6, v7, v8, rfl, kk, h1, h2, hie, e0⟩ := sd_e hP
    have hA' := kk.get0 hA
    have hgl3 : (tl (S (45 :: srt l))).length = (sg l).length := rfl
    rw [hgl3] at h2 e0 hie
    have nd := sg_nd hl
    repeat' ac_rfl
    all_goals (try (conv => whnf))
    · exact sd_i (lim_of (show (sg l).length ≤ _ by omega))
    · rename_i x d hd
      rw [hlen] at x
      exact (q2 _ (by rw [e0, rdx_more (Nat.le_refl _) (by have x : ((sg l).length : Int) < _ := x; omega)])).out H' d kk hd
    · rename_i x
      rw [hlen] at x
      have x : ¬ ((sg l).length : Int) < _ := x
      rw [rdx_end (Nat.le_refl _) (by omega)] at e0
      have hC := rdx_C e0
      rw [take_all (by omega)] at h2
      refine i_pairs_of (.inr h2) ⟨hC.n, by omega⟩ lo (fun t ht => Nat.lt_of_le_of_lt (hC.sub ht).1 (by omega)) fun p3 xs3 H4 k4 hp3 hp3' pr3 => ?_
      have hA4 := k4.get0 hA'
      have hpl := prs_len (g := sg l) (cols := (ents w).map colE) fun t ht => Nat.le_trans (hC.sub ht).1 hgl2
      have hcn := hC.n
      repeat' ac_rfl
      all_goals (try (conv => whnf))
      rename_i y dy hy hdy hne
      have k5 : Kp [] H4 (upd (upd H4 dy (.own y)) y (.ins (He.ga K "Table") dy [])) := (Kp.rfl'.new hdy).own hy
      refine i_Table_init upd_at (k5.get0 hA4) hl (k5.get0 hp3') (prP_kp pr3 k5) (by omega) prs_small (fun _ H2 k3 ht => ?_) (fun k e => by rw [hC.bad nd] at e; cases e)
      rw [hC.cols nd] at ht
      exact ⟨rfl, q1 e0 y H2 ((kk.trans k4).trans (Kp.made hy hdy k3)) ht⟩


theorem rd_Alphabet_eq {K : PySem.W.Frag} {mg : Str → Option Value} (T : Tx K mg) : ∀ vs H Q E, sp_Alphabet_eq K vs H Q E → t_Alphabet_eq K (WD E) (EndD Q) (start ["self", "other"] vs) H := by
  intro vs H Q E h
  replace h := h.out
  obtain ⟨a, b, dx, dy, l, v, m, u, rfl, ha, hb, q⟩ := h
  cases T
  repeat' ac_rfl
  all_goals (conv => whnf)
  · rename_i x
    have x : srt l = srt m := x
    rw [decide_eq_true x, Bool.true_and] at q
    exact q
  · rename_i x
    have x : ¬ srt l = srt m := x
    rw [decide_eq_false x, Bool.false_and] at q
    rw [decide_eq_false (show ¬ tl (S (srt l)) = tl (S (srt m)) from x)]
    exact q


theorem rd_Table_eq {K : PySem.W.Frag} {mg : Str → Option Value} (T : Tx K mg) : ∀ vs H Q E, sp_Table_eq K vs H Q E → t_Table_eq K (WD E) (EndD Q) (start ["self", "other"] vs) H := by
  intro vs H Q E h
  replace h := h.out
  obtain ⟨t, t2, A, A2, dA, dA2, l, v, m, u, cols, cols2, rfl, ht, ht2, hA, hA2, hc, hc2, q1⟩ := h
  have T0 := T
  cases T
  obtain ⟨d, c, p, xs, g1, h2, h3, h4⟩ := ht.out
  obtain ⟨d', c', p', xs', g1', h2', h3', h4'⟩ := ht2.out
  repeat' ac_rfl
  all_goals (try (conv => whnf))
  · rename_i x
    rw [Bool.and_eq_true, decide_eq_true_eq, decide_eq_true_eq] at x
    refine eq_txT h2 h2' hc hc2 ?_
    have e : decide (srt l = srt m ∧ srt v = srt u ∧ cols = cols2) = decide (cols = cols2) := decide_eq_decide.mpr ⟨fun z => z.2.2, fun z => ⟨x.1, x.2, z⟩⟩
    rw [e] at q1
    exact q1
  · rename_i x
    have e : decide (srt l = srt m ∧ srt v = srt u ∧ cols = cols2) = false := decide_eq_false fun z => by
      rw [decide_eq_true z.1, decide_eq_true z.2.1] at x; cases x
    rw [x]
    rw [e] at q1
    exact q1


theorem rd_l_right {K : PySem.W.Frag} {mg : Str → Option Value} (T : Tx K mg) : ∀ vs H Q E, sp_l_right K vs H Q E → t_l_right K (WD E) (EndD Q) (start ["_law_entry", "_law_sign", "_law_signs_here", "_law_last", "_law_one"] vs) H := by
  intro vs H Q E h
  replace h := h.out
  obtain ⟨G, e, c, rfl, h1, hn, q1⟩ := h
  have T0 := T
  cases T
  repeat' ac_rfl
  all_goals (try (conv => whnf))
  · rename_i x1 x2
    rw [rgt_f fun _ z => absurd (List.length_eq_zero_iff.mp (by rw [List.length_drop]; have : (e.length : Int) < 3 := x2; omega)) z] at q1
    exact q1
  · rename_i x1 x2
    have x1 : e.take 2 = [c, 62] := x1
    have x2 : ¬ (e.length : Int) < 3 := x2
    have hne : ¬ e.drop 2 = [] := fun z => by
      have := congrArg List.length z
      rw [List.length_drop] at this
      simp only [List.length_nil] at this; omega
    rw [show cut (tl (S e)) (some 2) none = e.drop 2 from rfl]
    generalize ht : e.drop 2 = t at *
    have hr : rgt G c e = decide (t = [46] ∨ ascB G (-1) t = true) := decide_eq_decide.mpr (by rw [ht, asc_io hn]; exact ⟨fun z => z.2.2, fun z => ⟨x1, hne, z⟩⟩)
    rw [hr] at q1
    refine loop_s (fun i σ H' => Sd (∃ (la : Int) (v4 : Option V), σ = [some (.str (S e)), some (.str (S [c])), some (.str (S G)), some (.int la), v4] ∧ H' = H ∧ (¬ t = [46] → ascB G (-1) t = ascB G la (t.drop i)))) ?_ ?_ ?_
    · exact sd_i ⟨-1, none, rfl, rfl, fun _ => rfl⟩
    · rintro i hi σ H' hP
      obtain ⟨la, v4, rfl, rfl, hla⟩ := sd_e hP
      have hi2 : i < t.length := hi
      have e1 : t.drop i = t[i] :: t.drop (i + 1) := List.drop_eq_getElem_cons hi2
      have e2 : cut (tl (S e)) (some 2) none = t := ht
      repeat' ac_rfl
      all_goals (try (conv => whnf))
      · rename_i x3 x4
        have x4 : t = [46] := by rw [← e2]; exact x4
        exact sd_i ⟨_, _, rfl, rfl, fun h => absurd x4 h⟩
      · rename_i x3 x4
        have x4 : ¬ t = [46] := by rw [← e2]; exact x4
        have x3 : fnd t[i] G ≤ la := x3
        have z := hla x4
        rw [e1, ascB, decide_eq_true x3] at z
        rw [decide_eq_false (by rw [z]; simp [x4])] at q1
        exact q1
      · rename_i x3
        have x3 : ¬ fnd t[i] G ≤ la := x3
        refine sd_i ⟨_, _, rfl, rfl, fun h => ?_⟩
        rw [hla h, e1, ascB, decide_eq_false x3]; rfl
    · rintro σ H' hP
      obtain ⟨la, v4, rfl, rfl, hla⟩ := sd_e hP
      repeat' ac_rfl
      all_goals (try (conv => whnf))
      rw [decide_eq_true] at q1
      · exact q1
      · by_cases h : t = [46]
        · exact .inl h
        · refine .inr ?_
          rw [hla h, List.drop_eq_nil_of_le (Nat.le_refl t.length)]; rfl
  · rename_i x1
    have x1 : ¬ e.take 2 = [c, 62] := x1
    rw [rgt_f fun z => absurd z x1] at q1
    exact q1


theorem rd_l_index {K : PySem.W.Frag} {mg : Str → Option Value} (T : Tx K mg) : ∀ vs H Q E, sp_l_index K vs H Q E → t_l_index K (WD E) (EndD Q) (start ["_law_entries", "_law_signs_here", "_law_k"] vs) H := by
  intro vs H Q E h
  replace h := h.out
  obtain ⟨G, r, es, rfl, hr, h1, h2, hn, hG, q1⟩ := h
  have T0 := T
  cases T
  have hgl : (tl (S G)).length = G.length := rfl
  have hel : (txs es).length = es.length := List.length_map _
  repeat' ac_rfl
  all_goals (try (conv => whnf))
  refine loop_r (fun i σ H' => Sd (∃ v2 : Option V, σ = [some (.ref r), some (.str (S G)), v2] ∧ H' = H ∧ rdx G G es 0 = rdx G (G.drop (min i es.length)) (es.drop (min i es.length)) (min i es.length))) ?_ ?_ ?_
  · exact sd_i ⟨none, rfl, rfl, by rw [Nat.zero_min]; rfl⟩
  · rintro i σ H' hi hP
    obtain ⟨v2, rfl, rfl, e0⟩ := sd_e hP
    have hi1 : i < G.length := by omega
    repeat' ac_rfl
    all_goals (try (conv => whnf))
    · rename_i x j1 hj1 z1 j2 hj2 z2
      obtain rfl : i = j1 := by omega
      obtain rfl : i = j2 := by omega
      rw [Nat.min_eq_left (by omega), rdx_step hi1 hj1] at e0
      refine i_l_right (h1 _ (List.getElem_mem hj1)) hn ?_
      repeat' ac_rfl
      all_goals (try (conv => whnf))
      · rename_i y
        have y : rgt G G[i] es[i] = true := decide_eq_true y
        rw [y, if_pos rfl] at e0
        exact sd_i ⟨_, rfl, rfl, by rw [Nat.min_eq_left (by omega)]; exact e0⟩
      · rename_i y
        have y : rgt G G[i] es[i] = false := decide_eq_false y
        rw [y, if_neg (by decide)] at e0
        rw [e0] at q1
        rw [Int.zero_add]
        exact q1
    · rename_i x
      refine sd_i ⟨_, rfl, rfl, ?_⟩
      rw [e0, Nat.min_eq_right (by omega), Nat.min_eq_right (by omega)]
  · rintro σ H' hP
    obtain ⟨v2, rfl, rfl, e0⟩ := sd_e hP
    have hm : (((tl (S G)).length : Nat) : Int).toNat = G.length := by omega
    rw [hm] at e0
    repeat' ac_rfl
    all_goals (try (conv => whnf))
    · rename_i x
      rw [Nat.min_eq_right (by omega), rdx_less (by omega) (Nat.le_refl _)] at e0
      rw [e0] at q1
      rw [hel]; exact q1
    · rename_i x1 x
      rw [Nat.min_eq_left (by omega), rdx_more (Nat.le_refl _) (by omega)] at e0
      rw [e0] at q1
      exact q1
    · rename_i x1 x
      rw [Nat.min_eq_left (by omega), rdx_end (Nat.le_refl _) (by omega)] at e0
      rw [e0] at q1
      exact q1


theorem rd_l_integer {K : PySem.W.Frag} {mg : Str → Option Value} (T : Tx K mg) : ∀ vs H Q E, sp_l_integer K vs H Q E → t_l_integer K (WD E) (EndD Q) (start ["_law_told"] vs) H := by
  intro vs H Q E h
  replace h := h.out
  obtain ⟨i, rfl, q⟩ := h
  have T0 := T
  cases T
  repeat' ac_rfl
  all_goals (try (conv => whnf))
  exact q


theorem rd_check_sign {K : PySem.W.Frag} {mg : Str → Option Value} (T : Tx K mg) : ∀ vs H Q E, sp_check_sign K vs H Q E → t_check_sign K (WD E) (EndD Q) (start ["alphabet", "string"] vs) H := by
  intro vs H Q E h
  replace h := h.out
  obtain ⟨A, dA, l, v, t, rfl, hA, h1, q1, q2⟩ := h
  have T0 := T
  cases T
  repeat' ac_rfl
  all_goals (try (conv => whnf))
  · rename_i x; exact q1 x
  · rename_i x d hd; exact (q2 x).out H d Kp.rfl' hd


theorem rd_Table_getitem {K : PySem.W.Frag} {mg : Str → Option Value} (T : Tx K mg) : ∀ vs H Q E, sp_Table_getitem K vs H Q E → t_Table_getitem K (WD E) (EndD Q) (start ["self", "sign"] vs) H := by
  intro vs H Q E h
  replace h := h.out
  obtain ⟨t, A, dA, l, v, cols, s, rfl, ht, hA, hl, h1, q1, q2⟩ := h
  have T0 := T
  cases T
  rename_i h0
  obtain ⟨d, c, p, xs, h2, h3, h4, h5⟩ := ht.out
  repeat' ac_rfl
  all_goals (try (conv => whnf))
  · rename_i x
    obtain ⟨a, rfl, ha⟩ := isS_i x
    obtain ⟨f1, f2⟩ := fnd_at ha
    show zIxP K (.ref c) (.int (fnd a (sg l))) H _
    rw [f1]
    repeat' ac_rfl
    all_goals (try (conv => whnf))
    rename_i j hj ej
    obtain rfl : (bef a (sg l)).length = j := by omega
    exact q1 a _ rfl ha f1 hj
  · rename_i x; exact q2 x


theorem rd_Table_contains {K : PySem.W.Frag} {mg : Str → Option Value} (T : Tx K mg) : ∀ vs H Q E, sp_Table_contains K vs H Q E → t_Table_contains K (WD E) (EndD Q) (start ["self", "pair"] vs) H := by
  intro vs H Q E h
  replace h := h.out
  obtain ⟨t, A, q, g, x, y, cols, rfl, ht, hq, hx, hp, q1⟩ := h
  have T0 := T
  cases T
  obtain ⟨d, c, p, xs, h1, h2, h3, h4⟩ := ht.out
  repeat' ac_rfl
  all_goals (try (conv => whnf))
  exact in_prs (.inr h3) h4 hp hq hx q1


theorem rd_Table_pairs {K : PySem.W.Frag} {mg : Str → Option Value} (T : Tx K mg) : ∀ vs H Q E, sp_Table_pairs K vs H Q E → t_Table_pairs K (WD E) (EndD Q) (start ["self"] vs) H := by
  intro vs H Q E h
  replace h := h.out
  obtain ⟨t, A, g, cols, rfl, ht, q1⟩ := h
  have T0 := T
  cases T
  obtain ⟨d, c, p, xs, h1, h2, h3, h4⟩ := ht.out
  repeat' ac_rfl
  all_goals (try (conv => whnf))
  rename_i r hr
  exact q1 r xs _ (Kp.rfl'.new hr) hr upd_at (prP_kp h4 (Kp.rfl'.new hr))


theorem rd_Table_len {K : PySem.W.Frag} {mg : Str → Option Value} (T : Tx K mg) : ∀ vs H Q E, sp_Table_len K vs H Q E → t_Table_len K (WD E) (EndD Q) (start ["self"] vs) H := by
  intro vs H Q E h
  replace h := h.out
  obtain ⟨t, A, g, cols, rfl, ht, hn, q⟩ := h
  have T0 := T
  cases T
  obtain ⟨d, c, p, xs, h1, h2, h3, h4⟩ := ht.out
  have hl := plen h4
  repeat' ac_rfl
  all_goals (try (conv => whnf))
  rw [hl]; exact q


theorem rd_Table_bool {K : PySem.W.Frag} {mg : Str → Option Value} (T : Tx K mg) : ∀ vs H Q E, sp_Table_bool K vs H Q E → t_Table_bool K (WD E) (EndD Q) (start ["self"] vs) H := by
  intro vs H Q E h
  replace h := h.out
  obtain ⟨t, A, g, cols, rfl, ht, q⟩ := h
  have T0 := T
  cases T
  obtain ⟨d, c, p, xs, h1, h2, h3, h4⟩ := ht.out
  have hl := plen h4
  repeat' ac_rfl
  all_goals (try (conv => whnf))
  have e : xs.isEmpty = (prs g cols).isEmpty := by
    cases xs with
    | nil => cases e : prs g cols with
      | nil => rfl
      | cons a R => rw [e] at hl; cases hl
    | cons x xs => cases e : prs g cols with
      | nil => rw [e] at hl; cases hl
      | cons a R => rfl
  rw [e]; exact q


theorem rd_l_truth {K : PySem.W.Frag} {mg : Str → Option Value} (T : Tx K mg) : ∀ vs H Q E, sp_l_truth K vs H Q E → t_l_truth K (WD E) (EndD Q) (start ["_law_told", "_law_due"] vs) H := by
  intro vs H Q E h
  replace h := h.out
  obtain ⟨a, b, rfl, q⟩ := h
  have T0 := T
  cases T
  repeat' ac_rfl
  all_goals (try (conv => whnf))
  exact q

theorem flat_txs (ss : List (List Nat)) : (txs ss).all flatV = true := List.all_eq_true.mpr fun x hx => by
  obtain ⟨t, _, rfl⟩ := List.mem_map.mp hx
  rfl
theorem inV_txs (t : List Nat) (ss : List (List Nat)) : inV (.str (S t)) (txs ss) = decide (t ∈ ss) := by
  unfold inV txs
  induction ss with
  | nil => rfl
  | cons s ss ih =>
    rw [List.map_cons, List.any_cons, ih]
    have e : eqV (.str (S s)) (.str (S t)) = decide (s = t) := by
      show (S s == S t) = _
      exact beq_dec
    rw [e]
    by_cases h : s = t
    · subst h; simp
    · have : t ∈ s :: ss ↔ t ∈ ss := by simp [Ne.symm h]
      rw [decide_eq_false h, Bool.false_or]
      exact decide_eq_decide.mpr this.symm

theorem rd_Table_total {K : PySem.W.Frag} {mg : Str → Option Value} (T : Tx K mg) : ∀ vs H Q E, sp_Table_total K vs H Q E → t_Table_total K (WD E) (EndD Q) (start ["self"] vs) H := by
  intro vs H Q E h
  replace h := h.out
  obtain ⟨t, A, g, cols, rfl, ht, q⟩ := h
  have T0 := T
  cases T
  obtain ⟨d, c, p, xs, h1, h2, h3, h4⟩ := ht.out
  repeat' ac_rfl
  all_goals (try (conv => whnf))
  all_goals first
    | exact flat_txs cols
    | (rw [inV_txs]; exact q)


theorem rd_Table_exact {K : PySem.W.Frag} {mg : Str → Option Value} (T : Tx K mg) : ∀ vs H Q E, sp_Table_exact K vs H Q E → t_Table_exact K (WD E) (EndD Q) (start ["self", "column"] vs) H := by
  intro vs H Q E h
  replace h := h.out
  obtain ⟨t, A, g, cols, rfl, ht, hc, h1, q1⟩ := h
  have T0 := T
  cases T
  obtain ⟨d, c, p, xs, g1, h2, h3, h4⟩ := ht.out
  repeat' ac_rfl
  all_goals (try (conv => whnf))
  refine lcp_K0 (l := cols) (r := fun t => V.str (S t)) (List.length_map _) (fun k H x H' z => ⟨z.1, hit_map z.2⟩) (fun _ kk => kk.get0 h2) (fun _ => true) (fun t => .bl (decide ((t.length : Int) ≤ 1))) (by omega) (fun _ _ _ _ _ hQ => hQ _ Kp.rfl') ?_ (fun _ => rfl) ?_
  · rintro t H2 Q' ht2 _ k2 hQ
    repeat' ac_rfl
    all_goals (try (conv => whnf))
    exact hQ _ Kp.rfl'
  · intro D H2 hD k2 hDD
    rw [List.filter_eq_self.mpr (fun _ _ => rfl)] at hDD
    repeat' ac_rfl
    all_goals (try (conv => whnf))
    refine bls_f (f := fun t : List Nat => decide ((t.length : Int) ≤ 1)) ?_
    show Q (.bl ((cols.map _).all id)) H2
    rw [List.all_map]
    exact q1 _ k2


theorem rd_written_entry {K : PySem.W.Frag} {mg : Str → Option Value} (T : Tx K mg) : ∀ vs H Q E, sp_written_entry K vs H Q E → t_written_entry K (WD E) (EndD Q) (start ["sign", "column"] vs) H := by
  intro vs H Q E h
  replace h := h.out
  obtain ⟨c, t, rfl, h1, q⟩ := h
  have T0 := T
  cases T
  repeat' ac_rfl
  all_goals (try (conv => whnf))
  · rename_i x
    have x : t = [] := x
    subst x
    exact q
  · rename_i x
    have x : ¬ t = [] := x
    unfold went at q
    rw [if_neg x] at q
    exact q


theorem rd_Table_str {K : PySem.W.Frag} {mg : Str → Option Value} (T : Tx K mg) : ∀ vs H Q E, sp_Table_str K vs H Q E → t_Table_str K (WD E) (EndD Q) (start ["self", "sign", "column"] vs) H := by
  intro vs H Q E h
  replace h := h.out
  obtain ⟨t, A, dA, l, v, cols, rfl, ht, hA, hl, hn, h1, q1⟩ := h
  have T0 := T
  cases T
  obtain ⟨d, c, p, xs, g1, h2, h3, h4⟩ := ht.out
  have hgl := sg_len hl
  have hgl2 : (sg l).length ≤ 5 := hgl.2
  have hcl : (txs cols).length = cols.length := List.length_map _
  repeat' ac_rfl
  all_goals (try (conv => whnf))
  · exact sd_i (List.all_eq_true.mpr fun c hc => decide_eq_true (sg_low hl c hc))
  · exact sd_i (by rw [hcl, hn])
  refine lcp_i (fun D k H' => Kp [] H H' ∧ H' D = some (.lst (txs ((wents (sg l) cols).take k)))) (fun D hD => ⟨Kp.rfl'.new hD, upd_at⟩) (fun D k H' _ _ e => e.1.get0 h2) ?_ ?_
  · rintro D k x H' H'' hD hk ⟨kk, hDD⟩ ⟨T', c0, y, rfl, hT, rfl, hc, hy⟩
    have hk2 : k < cols.length := by omega
    have hk3 : k < (sg l).length := by omega
    have hc : (sg l)[k]? = some c0 := hc
    rw [List.getElem?_eq_getElem hk3] at hc
    obtain rfl := Option.some.inj hc
    have hy : (cols.map fun t => V.str (S t))[k]? = some y := hy
    rw [List.getElem?_map, List.getElem?_eq_getElem hk2] at hy
    obtain rfl := Option.some.inj hy
    have hct := h1 _ (List.getElem_mem hk2)
    refine gtup2 upd_at ⟨rfl, ?_⟩
    unfold tYes; dsimp only
    rw [if_pos rfl]
    repeat' ac_rfl
    all_goals (try (conv => whnf))
    have hDT : D ≠ T' := ne_none hDD hT
    refine ⟨_, upd_off hDT hDD, ?_, (kk.new hT).own hD, ?_⟩
    · rw [List.length_map, List.length_take, wents_len hn, sizeLine_eq]; omega
    · rw [wents_at hk3 hk2, txs_app]; exact upd_at
  · rintro D H' hD ⟨kk, hDD⟩
    rw [take_all (by rw [wents_len hn]; omega)] at hDD
    repeat' ac_rfl
    all_goals (try (conv => whnf))
    refine ⟨wents (sg l) cols, rfl, ?_, q1 _ kk⟩
    have h5 := sum_le (wents_sum (g := sg l) fun t ht => Nat.le_of_lt (h1 t ht))
    rw [wents_len hn] at h5 ⊢
    show _ + _ * 1 ≤ _
    omega

theorem mem_prs {g : List Nat} {cols : List (List Nat)} (nd : g.Nodup) (hn : cols.length = g.length) {j : Nat} (h1 : j < g.length) (h2 : j < cols.length) (b : Nat) : ((([g[j]], [b]) : Pr2) ∈ prs g cols) ↔ b ∈ cols[j] := by
  unfold prs
  rw [List.mem_flatMap]
  constructor
  · rintro ⟨⟨a, t⟩, ht, hp⟩
    obtain ⟨b', hb', e⟩ := List.mem_map.mp hp
    obtain ⟨k, hk, e2⟩ := List.mem_iff_getElem.mp ht
    rw [List.length_zip] at hk
    rw [List.getElem_zip] at e2
    injection e2 with e3 e4
    subst e3 e4
    injection e with e5 e6
    injection e5 with e5
    injection e6 with e6
    subst e6
    have := (List.getElem_inj nd).mp e5
    subst this
    exact hb'
  · intro hb
    refine ⟨(g[j], cols[j]), List.mem_iff_getElem.mpr ⟨j, by rw [List.length_zip]; omega, by rw [List.getElem_zip]⟩, List.mem_map.mpr ⟨b, hb, rfl⟩⟩
theorem pall {H : Hp} : ∀ {xs : List V} {R : List Pr2}, Paired (pairP H) xs R → ∀ v ∈ xs, ∃ a, pairP H v a
  | _, _, .nil, _, h => nomatch h
  | _, _, .cons h t, v, hv => by
    rcases List.mem_cons.mp hv with rfl | hv
    · exact ⟨_, h⟩
    · exact pall t v hv
theorem exact_eq (cols : List (List Nat)) : (cols.all fun t => decide ((t.length : Int) ≤ 1)) = decide ((cols.filter fun t => decide ((1 : Int) < t.length)) = []) := by
  rw [Bool.eq_iff_iff, decide_eq_true_eq, List.filter_eq_nil_iff, List.all_eq_true]
  refine ⟨fun h t ht => ?_, fun h t ht => ?_⟩
  · have := h t ht
    simp only [decide_eq_true_eq] at this ⊢
    omega
  · have := h t ht
    simp only [decide_eq_true_eq] at this ⊢
    omega

theorem rd_l_is {K : PySem.W.Frag} {mg : Str → Option Value} (T : Tx K mg) : ∀ vs H Q E, sp_l_is K vs H Q E → t_l_is K (WD E) (EndD Q) (start ["_law_table", "_law_signs_here", "_law_outs_here", "_law_rows", "_law_k", "_law_told", "_law_out", "_law_one", "_law_exact", "_law_row"] vs) H := by
  intro vs H Q E h
  replace h := h.out
  obtain ⟨t, A, dA, r, l, v, cols, rfl, ht, hA, hl, hr, hc, q1⟩ := h
  have T0 := T
  cases T
  have hsl := sg_len hl
  have hgl : (tl (S (sg l))).length ≤ 5 := hsl.2
  have hgl3 : (sg l).length = (tl (S (sg l))).length := rfl
  have nd : (sg l).Nodup := sg_nd hl
  have hcl : (txs cols).length = cols.length := List.length_map _
  have hcn := hc.n
  have lowg := sg_low hl
  obtain ⟨d, c, p, xs, h1, h2, h3, h4⟩ := ht.out
  repeat' ac_rfl
  all_goals (try (conv => whnf))
  rename_i r0 hr0
  refine loop_r (fun j σ H' => Sd (∃ (rp : Addr) (ys : List V) (v4 v5 v6 v7 v8 v9 : Option V), σ = [some (.ref t), some (.str (S (sg l))), some (.ref r), some (.ref rp), v4, v5, v6, v7, v8, v9] ∧ Kp [] H H' ∧ H' rp = some (.lst ys) ∧ Paired (pairP H') ys ((((sg l).zip cols).take j).flatMap fun x => x.2.map fun b => ([x.1], [b])) ∧ ys.length ≤ 5 * j)) ?_ ?_ ?_
  · exact sd_i ⟨r0, [], none, none, none, none, none, none, rfl, Kp.rfl'.new hr0, upd_at, .nil, Nat.zero_le _⟩
  · rintro j σ H' hi hP
    obtain ⟨rp, ys, v4, v5, v6, v7, v8, v9, rfl, kk, hrp, hpr, hyl⟩ := sd_e hP
    have hj : j < (sg l).length := by omega
    have hjc : j < cols.length := by omega
    have ht' := ht.kp kk
    have hA' := kk.get0 hA
    have hr' := kk.get0 hr
    have hct := hc.sub (List.getElem_mem hjc)
    have hct5 : cols[j].length ≤ 5 := Nat.le_trans hct.1 hgl
    have hfj : fnd (sg l)[j] (sg l) = (j : Int) := by
      obtain ⟨f1, _⟩ := fnd_at (List.getElem_mem hj)
      rw [f1, bef_nd nd hj]
    have hsj : isS (sg l) [(sg l)[j]] = true := decide_eq_true (List.getElem_mem hj)
    have cj : ∀ {k0 c1 j1 : Nat} (hk0 : k0 < (tl (S (sg l))).length), (0 : Int) + j = k0 → [(tl (S (sg l)))[k0]] = [c1] → fnd c1 (sg l) = (j1 : Int) → j1 = j := @fun k0 c1 j1 hk0 e0 hs hf => by
      obtain rfl : j = k0 := by omega
      injection hs with hs
      have hs : (sg l)[j] = _ := hs
      rw [← hs, hfj] at hf
      omega
    repeat' ac_rfl
    all_goals (try (conv => whnf))
    · rename_i k0 hk0 e0 c1 j1 hs1 hc1 hf1 hj1 k2 hk2 e2 x k3 hk3 e3
      obtain rfl : j = k3 := by omega
      refine lcp_row (t := cols[j]) (a := (sg l)[j]) hct5 (fun _ => rfl) ?_ ?_
      · intro b' H2 Q' hb k2 hQ
        repeat' ac_rfl
        all_goals (try (conv => whnf))
        rename_i k5 hk5 e5 r5 hr5
        obtain rfl : j = k5 := by omega
        exact hQ _ hr5
      · intro D ys2 H2 hD k2 hDD p2
        have hrp2 := k2.get0 hrp
        have hpl2 := plen p2
        rw [List.length_map] at hpl2
        repeat' ac_rfl
        all_goals (try (conv => whnf))
        rename_i r5 hr5
        have k6 : Kp [] H (upd H2 r5 (.lst (ys ++ ys2))) := (kk.trans k2).new hr5
        have p6 : Paired (pairP (upd H2 r5 (.lst (ys ++ ys2)))) (ys ++ ys2) ((((sg l).zip cols).take (j + 1)).flatMap fun x => x.2.map fun b => ([x.1], [b])) := by
          rw [List.take_succ_eq_append_getElem (by rw [List.length_zip]; omega), List.flatMap_append, List.getElem_zip, List.flatMap_singleton]
          exact papp (prP_kp hpr (k2.new hr5)) (prP_kp p2 (Kp.rfl'.new hr5))
        have h6 : upd H2 r5 (.lst (ys ++ ys2)) r5 = some (.lst (ys ++ ys2)) := upd_at
        generalize upd H2 r5 (.lst (ys ++ ys2)) = H6 at k6 p6 h6
        refine loop_s (fun i σ H' => Sd (∃ v6 : Option V, σ = [some (.ref t), some (.str (S (sg l))), some (.ref r), some (.ref r5), some (.int j), some (.str (S cols[j])), v6, v7, v8, v9] ∧ Kp [] H6 H')) ?_ ?_ ?_
        · obtain rfl := cj hk0 e0 hs1 hf1
          refine sd_i ⟨v6, ?_, Kp.rfl'⟩
          rw [Int.zero_add]; rfl
        · rintro i hi6 σ H7 hP
          obtain ⟨v6, rfl, k7⟩ := sd_e hP
          have hi7 : i < (sg l).length := hi6
          repeat' ac_rfl
          all_goals (try (conv => whnf))
          rename_i k8 hk8 e8 r8 hr8
          obtain rfl : j = k8 := by omega
          have k9 := (k6.trans k7).new (o := .tup [V.str (S [(tl (S (sg l)))[j]]), V.str (S [(tl (S (sg l)))[i]])]) hr8
          have hr9 := k9.get0 hr
          refine i_Table_contains (x := [(sg l)[j]]) (y := [(sg l)[i]]) (ht.kp k9) upd_at ⟨fun c hc => by rw [List.mem_singleton.mp hc]; exact lowg _ (List.getElem_mem hj), fun c hc => by rw [List.mem_singleton.mp hc]; exact lowg _ (List.getElem_mem hi7)⟩ (prs_low lowg fun t h => (hc.sub h).2) ?_
          have em : decide ((([(sg l)[j]], [(sg l)[i]]) : Pr2) ∈ prs (sg l) cols) = decide ((sg l)[i] ∈ cols[j]) := decide_eq_decide.mpr (mem_prs nd hcn hj hjc _)
          rw [em]
          repeat' ac_rfl
          all_goals (try (conv => whnf))
          · exact sd_i ⟨_, rfl, k7.new hr8⟩
          · rename_i k11 hk11 e11 z
            obtain rfl : j = k11 := by omega
            exact absurd rfl z
        · rintro σ H7 hP
          obtain ⟨v6, rfl, k7⟩ := sd_e hP
          repeat' ac_rfl
          all_goals (try (conv => whnf))
          exact sd_i ⟨r5, ys ++ ys2, _, _, _, _, _, _, rfl, k6.trans k7, k7.get0 h6, prP_kp p6 k7, by rw [List.length_append]; omega⟩
    · rename_i k0 hk0 e0 c1 j1 hs1 hc1 hf1 hj1 k2 hk2 e2 x
      obtain rfl := cj hk0 e0 hs1 hf1
      obtain rfl : j1 = k2 := by omega
      exact absurd rfl x
    · rename_i k0 hk0 e0 z
      obtain rfl : j = k0 := by omega
      have z : isS (sg l) [(sg l)[j]] = false := z
      rw [hsj] at z; cases z
  · rintro σ H' hP
    obtain ⟨rp, ys, v4, v5, v6, v7, v8, v9, rfl, kk, hrp, hpr, hyl⟩ := sd_e hP
    have hm : (((tl (S (sg l))).length : Nat) : Int).toNat = (sg l).length := by omega
    rw [hm, take_all (by rw [List.length_zip]; omega)] at hpr
    have ht' := ht.kp kk
    have hct5 : ∀ t ∈ cols, t.length ≤ 5 := fun t h => Nat.le_trans (hc.sub h).1 hgl
    have hpl := prs_len (g := sg l) hct5
    have lo := prs_low (g := sg l) lowg (fun t h => (hc.sub h).2)
    repeat' ac_rfl
    all_goals (try (conv => whnf))
    rename_i p5 xs5 H5 k5 hp5 h5 pr5
    refine lcp_K0 (l := xs5) (r := fun v => v) rfl (fun k H x H' z => ⟨z.1, _, z.2, rfl⟩) (fun H' k => k.get0 h5) (fun _ => true) (fun v => v) (by have := plen pr5; omega) ?_ (fun _ _ _ _ _ _ hQ => hQ _ Kp.rfl') (fun _ => rfl) ?_
    · intro v H6 Q' hv k6 hQ
      obtain ⟨a, q, rfl, hq⟩ := pall pr5 v hv
      have hq6 := k6.get0 hq
      repeat' ac_rfl
      all_goals (try (conv => whnf))
      exact hQ _ Kp.rfl'
    · intro D H6 hD k6 hDD
      rw [List.filter_eq_self.mpr (fun _ _ => rfl), List.map_id'] at hDD
      have h5' := k6.get0 h5
      have hrp' := k6.get0 (k5.get0 hrp)
      repeat' ac_rfl
      all_goals (try (conv => whnf))
      refine eq_prs h5' hrp' (prP_kp pr5 k6) (prP_kp hpr (k5.trans k6)) lo ?_
      have hpl2 : ys.length = (prs (sg l) cols).length := plen hpr
      have hA6 := k6.get0 (k5.get0 (kk.get0 hA))
      have hr6 := k6.get0 (k5.get0 (kk.get0 hr))
      have kk6 : Kp [] H H6 := (kk.trans k5).trans k6
      have ht6 := ht.kp kk6
      repeat' ac_rfl
      all_goals (try (conv => whnf))
      · rename_i x
        refine lcp_K (l := cols) (r := fun t => V.str (S t)) hr6 (fun t => decide ((1 : Int) < t.length)) (fun t => .str (S t)) (by omega) ?_ (fun _ _ _ _ _ _ hQ => hQ _ Kp.rfl') (fun _ => rfl) ?_
        · intro t7 H7 Q' ht7 k7 hQ
          have := hct5 _ ht7
          repeat' ac_rfl
          all_goals (try (conv => whnf))
          exact hQ _ Kp.rfl'
        · intro D7 H7 hD7 k7 hDD7
          have ht7 := ht6.kp k7
          repeat' ac_rfl
          all_goals (try (conv => whnf))
          rename_i p8 hp8
          have k8 := k7.new (o := .lst []) hp8
          have hr8 := k8.get0 hr6
          have hcl9 : (txs cols).all flatV = true := flat_txs cols
          refine eq_txL (ss := cols.filter fun t => decide ((1 : Int) < t.length)) (ss' := []) (upd_fr hp8 hDD7) upd_at (fun t ht => hc.low lowg t (List.mem_filter.mp ht).1) (fun _ z => nomatch z) ?_
          repeat' ac_rfl
          all_goals (try (conv => whnf))
          · rename_i x2
            refine i_Table_exact (ht.kp (kk6.trans k8)) (by omega) (fun t ht => by have := hct5 t ht; omega) fun H9 k9 => ?_
            have hr9 := k9.get0 hr8
            have kk9 : Kp [] H H9 := (kk6.trans k8).trans k9
            have ht9 := ht.kp kk9
            have hA9 := kk9.get0 hA
            have hl9 : (wents (sg l) cols).length = (sg l).length := wents_len hcn
            have h59 := sum_le (wents_sum (g := sg l) fun t ht => hct5 t ht)
            repeat' ac_rfl
            all_goals (try (conv => whnf))
            · refine i_Table_str (l := l) (v := v) ht9 hA9 hl hcn (fun t ht => by have := hct5 t ht; omega) fun Ha ka => ?_
              have hra := ka.get0 hr9
              repeat' ac_rfl
              all_goals (try (conv => whnf))
              refine i_l_written hra ⟨hcn, hgl⟩ (fun t ht => by have := hct5 t ht; omega) fun pb Hb kb hpb hb => ?_
              repeat' ac_rfl
              all_goals (try (conv => whnf))
              refine ⟨wents (sg l) cols, rfl, ?_, ?_⟩
              · show _ + _ * 1 ≤ _
                omega
              · repeat' ac_rfl
                all_goals (try (conv => whnf))
                rw [decide_eq_true rfl]
                exact q1 _ ((kk9.trans ka).trans kb)
            · rename_i x3
              exact absurd (exact_eq cols) x3
          · rename_i x2
            exact absurd (by rw [inV_txs]) x2
      · rename_i x
        refine absurd ?_ x
        have h9 : ys.length = (prs (sg l) cols).length := hpl2
        cases e : prs (sg l) cols with
        | nil => rw [e] at h9; rw [h9]; rfl
        | cons a R => rw [e] at h9; rw [h9]; exact (decide_eq_true (by simp only [List.length_cons]; omega)).symm


theorem rd_l_reads {K : PySem.W.Frag} {mg : Str → Option Value} (T : Tx K mg) : ∀ vs H Q E, sp_l_reads K vs H Q E → t_l_reads K (WD E) (EndD Q) (start ["_law_alphabet", "_law_signs_here", "_law_written_here", "_law_entries", "_law_due", "_law_told", "e", "_law_entry"] vs) H := by
  intro vs H Q E h
  replace h := h.out
  obtain ⟨A, dA, l, v, w, rfl, hA, hl, hw, q1⟩ := h
  have T0 := T
  cases T
  have lo := sg_low hl
  have hgl2 : (sg l).length ≤ 5 := (sg_len hl).2
  have nd := sg_nd hl
  have hsum := splc_len 32 w
  have hel : (ents w).length ≤ 10001 ∧ ∀ e ∈ ents w, e.length < 100000 := by
    rw [show ents w = splc 32 w from spl1 32 w]
    exact ⟨by omega, fun e he => by have := le_sum he; have := List.length_pos_of_mem he; omega⟩
  repeat' ac_rfl
  all_goals (try (conv => whnf))
  · exact sd_i ⟨by decide, by decide⟩
  rename_i p1 hp1
  refine i_l_index (es := ents w) upd_at hel.2 (by omega) nd hgl2 ?_
  have k1 : Kp [] H (upd H p1 (.lst (txs (ents w)))) := Kp.rfl'.new hp1
  have hp1' : upd H p1 (.lst (txs (ents w))) p1 = some (.lst (txs (ents w))) := upd_at
  generalize upd H p1 (.lst (txs (ents w))) = H1 at k1 hp1'
  have hA1 := k1.get0 hA
  repeat' ac_rfl
  all_goals (try (conv => whnf))
  refine i_Table_read hA1 hl (by omega) (fun e0 t H2 k2 ht => ?_) (fun k e0 => ⟨fun H2 d k2 hd => ?_⟩)
  · rw [e0]
    have hA2 := k2.get0 hA1
    have hp2 := k2.get0 hp1'
    have hC := rdx_C e0
    repeat' ac_rfl
    all_goals (try (conv => whnf))
    refine lcp_K (l := ents w) (r := fun t => V.str (S t)) hp2 (fun _ => true) (fun e => .str (S (rpE 46 (e.drop 2)))) (by omega) (fun _ _ _ _ _ hQ => hQ _ Kp.rfl') ?_ (fun _ => rfl) ?_
    · intro e H3 Q' he _ k3 hQ
      have hle := hel.2 e he
      repeat' ac_rfl
      all_goals (try (conv => whnf))
      · exact sd_i (show (e.drop 2).length ≤ 1000000 by rw [List.length_drop]; omega)
      · exact hQ _ Kp.rfl'
    · intro D H3 hD k3 hDD
      rw [List.filter_eq_self.mpr (fun _ _ => rfl), col_rp lo (fun c hc => g46 hl c hc) e0] at hDD
      have hA3 := k3.get0 hA2
      repeat' ac_rfl
      all_goals (try (conv => whnf))
      exact i_l_is (ht.kp k3) hA3 hl hDD hC fun H4 k4 => q1 _ (((k1.trans k2).trans k3).trans k4)
  · rw [e0]
    repeat' ac_rfl
    all_goals (try (conv => whnf))
    show Q (.bl (decide (k = k))) _
    rw [decide_eq_true rfl]
    exact q1 _ ((k1.trans k2).new hd)

theorem cel_set (gs : List Int) (k : Nat) (x : Int) : (gs.map V.int).set k (V.int x) = (gs.set k x).map V.int := by rw [List.map_set]
theorem cel_er (gs : List Int) (k : Nat) : (gs.map V.int).eraseIdx k = (gs.eraseIdx k).map V.int := by
  induction gs generalizing k with
  | nil => rfl
  | cons a gs ih =>
    cases k with
    | zero => rfl
    | succ k => show V.int a :: (gs.map V.int).eraseIdx k = V.int a :: (gs.eraseIdx k).map V.int; rw [ih]
theorem take_set {H : Hp} {b g s : Addr} {n x a : Int} {gs ss : List Int} {j : Nat} (b1 : H b = some (wb g s n x)) (s1 : H s = some (cel ss)) (hg : (a :: gs).length < 1000) (hs : ss.length < 1000) (n1 : g ≠ b) (n2 : s ≠ b) (n3 : s ≠ g) (n0 : 0 ≤ n) (c : Int) (e : (0 : Int) = j) :
    bx (upd (upd H b (.lst [V.ref g, V.ref s, V.int (n + 1), V.int x])) g (.lst (((a :: gs).map V.int).set j (V.int c)))) b g s (n + 1) := by
  have : j = 0 := by omega
  subst this
  exact ⟨x, c :: gs, ss, upd_off n1.symm upd_at, upd_at, upd_off n3 (upd_off n2 s1), hg, hs, n1, n2, n3, by omega⟩
theorem take_pop {H : Hp} {b g s : Addr} {n x a : Int} {gs ss : List Int} {j i : Nat} (b1 : H b = some (wb g s n x)) (s1 : H s = some (cel ss)) (hg : (a :: gs).length < 1000) (hs : ss.length < 1000) (n1 : g ≠ b) (n2 : s ≠ b) (n3 : s ≠ g) (n0 : 0 ≤ n) (c : Int) (e : (0 : Int) = j) (e2 : (0 : Int) = i) :
    bx (upd (upd (upd H b (.lst [V.ref g, V.ref s, V.int (n + 1), V.int x])) g (.lst (((a :: gs).map V.int).set j (V.int c)))) g (.lst ((((a :: gs).map V.int).set j (V.int c)).eraseIdx i))) b g s (n + 1) := by
  have : j = 0 := by omega
  subst this
  have : i = 0 := by omega
  subst this
  exact ⟨x, gs, ss, upd_off n1.symm (upd_off n1.symm upd_at), upd_at, upd_off n3 (upd_off n3 (upd_off n2 s1)), Nat.lt_of_succ_lt hg, hs, n1, n2, n3, by omega⟩

theorem rd_l_take {K : PySem.W.Frag} {mg : Str → Option Value} (T : Tx K mg) : ∀ vs H Q E, sp_l_take K vs H Q E → t_l_take K (WD E) (EndD Q) (start ["_law_bag_here", "_law_size", "_law_left", "_law_cell"] vs) H := by
  intro vs H Q E h
  replace h := h.out
  obtain ⟨b, g, s, n, z, rfl, hb, hk, hz, q1⟩ := h
  have T0 := T
  cases T
  obtain ⟨x, gs, ss, b1, g1, s1, hg, hs, n1, n2, n3, n0⟩ := hb.out
  have hm : ∀ x : Int, 0 ≤ x % z ∧ x % z < z := fun x => ⟨Int.emod_nonneg _ (by omega), Int.emod_lt_of_pos _ hz.1⟩
  have hw : ∀ n, CDivW n z := fun n => divW hz.1 (by omega)
  rcases gs with _ | ⟨a, gs⟩
  · repeat' ac_rfl
    all_goals (try (conv => whnf))
    · exact q1 _ _ (hm _).1 (hm _).2 (by nofun) ⟨x, [], ss, upd_at, upd_off n1 g1, upd_off n2 s1, hg, hs, n1, n2, n3, by omega⟩
    · rename_i x0 x1
      have hl0 : (ss.map V.int).length = ss.length := List.length_map _
      have hlt := Int.emod_lt_of_pos (n + 1) (show (0 : Int) < (ss.map V.int).length by omega)
      have hge := Int.emod_nonneg (n + 1) (show ((ss.map V.int).length : Int) ≠ 0 by omega)
      obtain ⟨j, hj⟩ := Int.eq_ofNat_of_zero_le hge
      have hj2 : j < ss.length := by omega
      refine itm_n (v := .int ss[j]) hj (by rw [List.getElem?_map, List.getElem?_eq_getElem hj2]; rfl) ?_
      repeat' ac_rfl
      all_goals (try (conv => whnf))
      · exact sd_i (divW (by decide) (by decide))
      · exact q1 _ _ (hm _).1 (hm _).2 (by nofun) ⟨_, [], ss, upd_at, upd_off n1 (upd_off n1 g1), upd_off n2 (upd_off n2 s1), hg, hs, n1, n2, n3, by omega⟩
  · repeat' ac_rfl
    all_goals (try (conv => whnf))
    · exact sd_i (hw _)
    · exact sd_i (hw _)
    · exact q1 _ _ (hm _).1 (hm _).2 (by nofun) (take_pop b1 s1 hg hs n1 n2 n3 n0 _ (by assumption) (by assumption))
    · exact q1 _ _ (hm _).1 (hm _).2 (by nofun) (take_set b1 s1 hg hs n1 n2 n3 n0 _ (by assumption))
    · rename_i x0 x1; exact absurd (show (0 : Int) < ((gs.map V.int).length + 1 : Nat) by omega) x0
    · rename_i x0 x1; exact absurd (show (0 : Int) < ((gs.map V.int).length + 1 : Nat) by omega) x0

/-- texts of at most m signs -/
structure okS (m : Nat) (vs : List V) : Prop where
  out : ∃ ss : List (List Nat), vs = txs ss ∧ ∀ t ∈ ss, t.length ≤ m
theorem okS_nil {m : Nat} : okS m [] := ⟨[], rfl, fun _ z => nomatch z⟩
theorem okS_cons {m : Nat} {z : Str} {vs : List V} (h : (tl z).length ≤ m) (r : okS m vs) : okS m (.str z :: vs) := by
  obtain ⟨ss, rfl, h2⟩ := r.out
  refine ⟨tl z :: ss, rfl, fun t ht => ?_⟩
  rcases List.mem_cons.mp ht with rfl | ht
  · exact h
  · exact h2 t ht
theorem okS_app {m : Nat} {vs ws : List V} (h : okS m vs) (r : okS m ws) : okS m (vs ++ ws) := by
  obtain ⟨ss, rfl, h1⟩ := h.out
  obtain ⟨ts, rfl, h2⟩ := r.out
  refine ⟨ss ++ ts, (txs_app _ _).symm, fun t ht => ?_⟩
  rcases List.mem_append.mp ht with ht | ht
  · exact h1 t ht
  · exact h2 t ht
theorem okS_sub {m : Nat} {vs ws : List V} (h : okS m vs) (s : ∀ f : List (List Nat), vs = txs f → ∃ ts, ws = txs ts ∧ ∀ t ∈ ts, t ∈ f) : okS m ws := by
  obtain ⟨ss, e, h1⟩ := h.out
  obtain ⟨ts, e2, h2⟩ := s ss e
  exact ⟨ts, e2, fun t ht => h1 t (h2 t ht)⟩
theorem cut_mem {α : Type} {xs : List α} {lo hi : Option Int} {x : α} (h : x ∈ cut xs lo hi) : x ∈ xs := by
  rw [← cut_eq0] at h
  exact List.mem_of_mem_drop (List.mem_of_mem_take h)
theorem okS_cut {m : Nat} {vs : List V} (h : okS m vs) (lo hi : Option Int) : okS m (cut vs lo hi) := okS_sub h fun f e => ⟨cut f lo hi, by rw [e, txs, cut_map], fun t ht => cut_mem ht⟩
theorem okS_rev {m : Nat} {vs : List V} (h : okS m vs) : okS m vs.reverse := okS_sub h fun f e => ⟨f.reverse, by rw [e]; exact List.map_reverse.symm, fun t ht => List.mem_reverse.mp ht⟩
theorem okS_get {m : Nat} {vs : List V} (h : okS m vs) {j : Nat} (hj : j < vs.length) : ∃ z, vs[j] = .str z ∧ (tl z).length ≤ m := by
  obtain ⟨ss, rfl, h1⟩ := h.out
  have hj2 : j < ss.length := by rw [List.length_map] at hj; exact hj
  exact ⟨S ss[j], List.getElem_map _, h1 _ (List.getElem_mem hj2)⟩
theorem okS_get1 {m : Nat} {vs : List V} (h : okS m vs) {j : Nat} (hj : j < vs.length) : okS m [vs[j]] := by
  obtain ⟨z, e, hz⟩ := okS_get h hj
  rw [e]; exact okS_cons hz okS_nil
theorem okS_txs {m : Nat} {ss : List (List Nat)} (h : ∀ t ∈ ss, t.length ≤ m) : okS m (txs ss) := ⟨ss, rfl, h⟩
/-- lists of texts -/
structure okL (H : Hp) (vs : List V) : Prop where
  out : ∀ v ∈ vs, ∃ p xs, v = .ref p ∧ H p = some (.lst xs) ∧ okS 60 xs ∧ xs.length ≤ 12
theorem okL.kp {H H' : Hp} {vs : List V} (h : okL H vs) (k : Kp [] H H') : okL H' vs := ⟨fun v hv => by
  obtain ⟨p, xs, e, h1, h2⟩ := h.out v hv
  exact ⟨p, xs, e, k.get0 h1, h2⟩⟩
theorem okL_nil {H : Hp} : okL H [] := ⟨fun _ z => nomatch z⟩
theorem okL_cons {H : Hp} {p : Addr} {xs vs : List V} (h : H p = some (.lst xs)) (h1 : okS 60 xs) (h2 : xs.length ≤ 12) (r : okL H vs) : okL H (.ref p :: vs) := ⟨fun v hv => by
  rcases List.mem_cons.mp hv with rfl | hv
  · exact ⟨p, xs, rfl, h, h1, h2⟩
  · exact r.out v hv⟩
theorem okL_app {H : Hp} {vs ws : List V} (h : okL H vs) (r : okL H ws) : okL H (vs ++ ws) := ⟨fun v hv => (List.mem_append.mp hv).elim (h.out v) (r.out v)⟩
abbrev sgCh (b r M R L : Addr) (c : Int) (a : Nat) (G : List Nat) (v5 v6 v7 v8 v9 : Option V) : L2.St := [some (.ref b), some (.int c), some (.ref r), some (.str (S G)), some (.int a), v5, v6, v7, v8, v9, some (.ref M), some (.ref R), some (.ref L)]
theorem seg_ch11 {K : PySem.W.Frag} {mg : Str → Option Value} (T0 : Tx K mg) {E : XK} {Q : VK} {b r M R L : Addr} {c : Int} {a : Nat} {G : List Nat} {rs ls : List V} {v5 v6 v7 v8 v9 : Option V} {H : Hp}
    (hc : 0 ≤ c ∧ c < 24) (hR : H R = some (.lst rs)) (hrs : okS 60 rs) (hrl : rs.length ≤ 12) (hL : H L = some (.lst ls)) (hls : okL H ls) (hll : ls.length = 9)
    (q1 : ∀ p ss' H', ss'.length ≤ 12 → (∀ t ∈ ss', t.length ≤ 100) → Kp [] H H' → H' p = some (.lst (txs ss')) → Q (.ref p) H') :
    t_l_changed_11 K (WD E) (EndD Q) (sgCh b r M R L c a G v5 v6 v7 v8 v9) H := by
  cases T0
  refine ⟨?_⟩
  have fin : ∀ {p : Addr} {xs : List V}, H p = some (.lst xs) → okS 60 xs → xs.length ≤ 12 → Q (.ref p) H := fun h1 h2 h3 => by
    obtain ⟨ss, rfl, h4⟩ := h2.out
    rw [List.length_map] at h3
    exact q1 _ ss H h3 (fun t ht => Nat.le_trans (h4 t ht) (by decide)) Kp.rfl' h1
  repeat' ac_rfl
  all_goals (try (conv => whnf))
  · exact fin hR hrs hrl
  · rename_i j hj e
    obtain ⟨p, xs, e1, h1, h2, h3⟩ := hls.out _ (List.getElem_mem hj)
    rw [e1]
    exact fin h1 h2 h3
theorem seg_ch10 {K : PySem.W.Frag} {mg : Str → Option Value} (T0 : Tx K mg) {E : XK} {Q : VK} {b r M R L : Addr} {c : Int} {a : Nat} {G : List Nat} {ss : List (List Nat)} {rs ls : List V} {v5 v6 v7 v8 v9 : Option V} {H : Hp}
    (hc : 0 ≤ c ∧ c < 24) (hr : H r = some (.lst (txs ss))) (ha : a < ss.length) (hn : ss.length ≤ 5) (h1 : ∀ t ∈ ss, t.length ≤ 60) (hR : H R = some (.lst rs)) (hrs : okS 60 rs) (hrl : rs.length ≤ 12) (hL : H L = some (.lst ls)) (hls : okL H ls) (hll : ls.length = 6)
    (q1 : ∀ p ss' H', ss'.length ≤ 12 → (∀ t ∈ ss', t.length ≤ 100) → Kp [] H H' → H' p = some (.lst (txs ss')) → Q (.ref p) H') :
    t_l_changed_10 K (WD E) (EndD Q) (sgCh b r M R L c a G v5 v6 v7 v8 v9) H := by
  have T1 := T0
  cases T0
  refine ⟨?_⟩
  have hsl : (txs ss).length = ss.length := List.length_map _
  have o1 := okS_txs h1
  repeat' ac_rfl
  all_goals (try (conv => whnf))
  have c1 := cut_len (txs ss) none (some (a : Int))
  have c2 := cut_len (txs ss) (some ((a : Int) + 1)) none
  refine seg_ch11 T1 hc (by contradiction) hrs hrl upd_at (okL_app (hls.kp (by nofun)) (okL_cons (by contradiction) (okS_app o1 (okS_cons (h1 _ (List.getElem_mem (by assumption))) okS_nil)) ?_ (okL_cons (by contradiction) (okS_app (okS_cut o1 _ _) (okS_cut o1 _ _)) ?_ (okL_cons (by contradiction) (okS_rev o1) ?_ okL_nil)))) ?_ fun p s H' a1 a2 a3 a4 => q1 p s H' a1 a2 ((by nofun : Kp [] H _).trans a3) a4
  · rw [List.length_append]; simp only [List.length_cons, List.length_nil]; omega
  · rw [List.length_append]; omega
  · rw [List.length_reverse]; omega
  · rw [List.length_append, hll]; rfl
theorem seg_ch9 {K : PySem.W.Frag} {mg : Str → Option Value} (T0 : Tx K mg) {E : XK} {Q : VK} {b r M R : Addr} {c : Int} {a : Nat} {G : List Nat} {ss : List (List Nat)} {rs : List V} {v5 v6 v7 v8 v9 v12 : Option V} {H : Hp}
    (hc : 0 ≤ c ∧ c < 24) (hr : H r = some (.lst (txs ss))) (ha : a < ss.length) (hn : ss.length ≤ 5) (h1 : ∀ t ∈ ss, t.length ≤ 60) (hR : H R = some (.lst rs)) (hrs : okS 60 rs) (hrl : rs.length ≤ 12)
    (q1 : ∀ p ss' H', ss'.length ≤ 12 → (∀ t ∈ ss', t.length ≤ 100) → Kp [] H H' → H' p = some (.lst (txs ss')) → Q (.ref p) H') :
    t_l_changed_9 K (WD E) (EndD Q) [some (.ref b), some (.int c), some (.ref r), some (.str (S G)), some (.int a), v5, v6, v7, v8, v9, some (.ref M), some (.ref R), v12] H := by
  have T1 := T0
  cases T0
  refine ⟨?_⟩
  have hsl : (txs ss).length = ss.length := List.length_map _
  have o1 := okS_txs h1
  have e0 : (tl (S [])).length ≤ 60 := Nat.zero_le _
  repeat' ac_rfl
  all_goals (try (conv => whnf))
  have c1 := cut_len (txs ss) none (some (a : Int))
  have c2 := cut_len (txs ss) (some (a : Int)) none
  have c3 := cut_len (txs ss) none (some (-1))
  have c4 := cut_len (txs ss) (some 1) none
  rename_i p1 hp1 p2 hp2 p3 hp3 p4 hp4 p5 hp5 p6 hp6 p7 hp7 p8 hp8 p9 hp9 p10 hp10 p11 hp11 p12 hp12 p13 hp13
  refine seg_ch10 T1 hc ((Kp.new (F := ([] : List Addr)) (Kp.new (F := ([] : List Addr)) (Kp.new (F := ([] : List Addr)) (Kp.new (F := ([] : List Addr)) (Kp.new (F := ([] : List Addr)) (Kp.new (F := ([] : List Addr)) (Kp.new (F := ([] : List Addr)) (Kp.new (F := ([] : List Addr)) (Kp.new (F := ([] : List Addr)) (Kp.new (F := ([] : List Addr)) (Kp.new (F := ([] : List Addr)) (Kp.new (F := ([] : List Addr)) (Kp.new (F := ([] : List Addr)) Kp.rfl' hp1) hp2) hp3) hp4) hp5) hp6) hp7) hp8) hp9) hp10) hp11) hp12) hp13).get0 hr) ha hn h1 ((Kp.new (F := ([] : List Addr)) (Kp.new (F := ([] : List Addr)) (Kp.new (F := ([] : List Addr)) (Kp.new (F := ([] : List Addr)) (Kp.new (F := ([] : List Addr)) (Kp.new (F := ([] : List Addr)) (Kp.new (F := ([] : List Addr)) (Kp.new (F := ([] : List Addr)) (Kp.new (F := ([] : List Addr)) (Kp.new (F := ([] : List Addr)) (Kp.new (F := ([] : List Addr)) (Kp.new (F := ([] : List Addr)) (Kp.new (F := ([] : List Addr)) Kp.rfl' hp1) hp2) hp3) hp4) hp5) hp6) hp7) hp8) hp9) hp10) hp11) hp12) hp13).get0 hR) hrs hrl upd_at (okL_cons (upd_fr hp13 (upd_fr hp12 (upd_fr hp11 (upd_fr hp10 (upd_fr hp9 (upd_fr hp8 (upd_fr hp7 (upd_fr hp6 (upd_fr hp5 (upd_fr hp4 (upd_fr hp3 (upd_fr hp2 upd_at)))))))))))) (okS_cut o1 _ _) ?_ (okL_cons (upd_fr hp13 (upd_fr hp12 (upd_fr hp11 (upd_fr hp10 (upd_fr hp9 (upd_fr hp8 (upd_fr hp7 (upd_fr hp6 (upd_fr hp5 (upd_fr hp4 (upd_fr hp3 upd_at))))))))))) (okS_cut o1 _ _) ?_ (okL_cons (upd_fr hp13 (upd_fr hp12 (upd_fr hp11 (upd_fr hp10 (upd_fr hp9 (upd_fr hp8 (upd_fr hp7 (upd_fr hp6 (upd_fr hp5 (upd_fr hp4 upd_at)))))))))) (okS_cons e0 okS_nil) ?_ (okL_cons (upd_fr hp13 (upd_fr hp12 (upd_fr hp11 (upd_fr hp10 (upd_fr hp9 (upd_fr hp8 (upd_fr hp7 (upd_fr hp6 upd_at)))))))) (okS_app o1 (okS_cons e0 okS_nil)) ?_ (okL_cons (upd_fr hp13 (upd_fr hp12 (upd_fr hp11 (upd_fr hp10 (upd_fr hp9 (upd_fr hp8 upd_at)))))) (okS_app (okS_cons e0 okS_nil) o1) ?_ (okL_cons (upd_fr hp13 upd_at) (okS_app (okS_app (okS_cut o1 _ _) (okS_cons e0 okS_nil)) (okS_cut o1 _ _)) ?_ okL_nil)))))) rfl fun p s H' a1 a2 a3 a4 => q1 p s H' a1 a2 ((Kp.new (F := ([] : List Addr)) (Kp.new (F := ([] : List Addr)) (Kp.new (F := ([] : List Addr)) (Kp.new (F := ([] : List Addr)) (Kp.new (F := ([] : List Addr)) (Kp.new (F := ([] : List Addr)) (Kp.new (F := ([] : List Addr)) (Kp.new (F := ([] : List Addr)) (Kp.new (F := ([] : List Addr)) (Kp.new (F := ([] : List Addr)) (Kp.new (F := ([] : List Addr)) (Kp.new (F := ([] : List Addr)) (Kp.new (F := ([] : List Addr)) Kp.rfl' hp1) hp2) hp3) hp4) hp5) hp6) hp7) hp8) hp9) hp10) hp11) hp12) hp13).trans a3) a4
  · omega
  · omega
  · decide
  · rw [List.length_append]; simp only [List.length_cons, List.length_nil]; omega
  · rw [List.length_append]; simp only [List.length_cons, List.length_nil]; omega
  · rw [List.length_append, List.length_append]; simp only [List.length_cons, List.length_nil]; omega
theorem seg_ch8 {K : PySem.W.Frag} {mg : Str → Option Value} (T0 : Tx K mg) {E : XK} {Q : VK} {b r M : Addr} {c : Int} {a : Nat} {G : List Nat} {ss : List (List Nat)} {vs : List V} {v5 v6 v7 v8 v9 v11 v12 : Option V} {H : Hp}
    (hc : 0 ≤ c ∧ c < 24) (hr : H r = some (.lst (txs ss))) (hM : H M = some (.lst vs)) (hv : okS 60 vs) (hvl : vs.length = 15) (ha : a < ss.length) (hn : ss.length ≤ 5) (h1 : ∀ t ∈ ss, t.length ≤ 60)
    (q1 : ∀ p ss' H', ss'.length ≤ 12 → (∀ t ∈ ss', t.length ≤ 100) → Kp [] H H' → H' p = some (.lst (txs ss')) → Q (.ref p) H') :
    t_l_changed_8 K (WD E) (EndD Q) [some (.ref b), some (.int c), some (.ref r), some (.str (S G)), some (.int a), v5, v6, v7, v8, v9, some (.ref M), v11, v12] H := by
  have T1 := T0
  cases T0
  refine ⟨?_⟩
  have hsl : (txs ss).length = ss.length := List.length_map _
  have o1 := okS_txs h1
  repeat' ac_rfl
  all_goals (try (conv => whnf))
  all_goals
    rename_i p1 hp1 x0 j hj ej p2 hp2 p3 hp3 p4 hp4 p5 hp5
    have c1 := cut_len (txs ss) none (some (a : Int))
    have c2 := cut_len (txs ss) (some ((a : Int) + 1)) none
    have hz0 := okS_get1 hv (j := j) (by omega)
    refine seg_ch9 T1 hc (((((Kp.new (F := []) Kp.rfl' hp1).new hp2).new hp3).new hp4).new hp5 |>.get0 hr) ha hn h1 upd_at (okS_app (okS_app (okS_cut o1 _ _) hz0) (okS_cut o1 _ _)) ?_ fun p s H' a1 a2 a3 a4 => q1 p s H' a1 a2 ((((((Kp.new (F := []) Kp.rfl' hp1).new hp2).new hp3).new hp4).new hp5).trans a3) a4
    rw [List.length_append, List.length_append]; simp only [List.length_cons, List.length_nil]; omega
theorem seg_ch3 {K : PySem.W.Frag} {mg : Str → Option Value} (T0 : Tx K mg) {E : XK} {Q : VK} {b r : Addr} {c : Int} {a o : Nat} {G : List Nat} {ss : List (List Nat)} {v5 v6 : Option V} {H : Hp}
    (hc : 0 ≤ c ∧ c < 24) (hr : H r = some (.lst (txs ss))) (ha : a < ss.length) (hG : ss.length = G.length ∧ G.length ≤ 5) (h1 : ∀ t ∈ ss, 3 ≤ t.length ∧ t.length ≤ 10)
    (q1 : ∀ p ss' H', ss'.length ≤ 12 → (∀ t ∈ ss', t.length ≤ 100) → Kp [] H H' → H' p = some (.lst (txs ss')) → Q (.ref p) H') :
    t_l_changed_3 K (WD E) (EndD Q) [some (.ref b), some (.int c), some (.ref r), some (.str (S G)), some (.int a), v5, v6, some (.str (S [o])), none, none, none, none, none] H := by
  have T1 := T0
  cases T0
  refine ⟨?_⟩
  have hsl : (txs ss).length = ss.length := List.length_map _
  have hle := h1 _ (List.getElem_mem ha)
  repeat' ac_rfl
  all_goals (try (conv => whnf))
  · rename_i j1 hj1 e1 j2 hj2 e2
    obtain rfl : a = j2 := by omega
    have := cut_len ss[a] (some 2) none
    exact sd_i (show (cut ss[a] (some 2) none).length ≤ _ by omega)
  rename_i j1 hj1 e1 j2 hj2 e2
  obtain rfl : a = j1 := by omega
  obtain rfl : a = j2 := by omega
  refine itm_m1 (show 0 < (ss[a].drop 2).length by rw [List.length_drop]; omega) fun j3 hj3 e3 => ?_
  have d1 : (cut ss[a] none (some 2)).length ≤ 10 := Nat.le_trans (cut_len _ _ _) hle.2
  have d2 : (cut ss[a] (some 2) none).length ≤ 10 := Nat.le_trans (cut_len _ _ _) hle.2
  have d3 : 0 < (tl (S (cut (tl (S ss[a])) none (some 2)))).length := by
    show 0 < (ss[a].take 2).length
    rw [List.length_take]; omega
  repeat' ac_rfl
  all_goals (try (conv => whnf))
  rename_i w1 hw1 j4 hj4 e4 w2 hw2 w3 hw3 j5 hj5 e5 w4 hw4 w5 hw5
  have hup := len_upper (S (tl (S (cut (tl (S ss[a])) none (some 2))) ++ tl (S (cut (tl (S ss[a])) (some 2) none))))
  rw [len_tl, len_tl] at hup
  have hup2 : (tl (S (tl (S (cut (tl (S ss[a])) none (some 2))) ++ tl (S (cut (tl (S ss[a])) (some 2) none))))).length ≤ 20 := by
    show (cut ss[a] none (some 2) ++ cut ss[a] (some 2) none).length ≤ 20
    rw [List.length_append]; omega
  refine seg_ch8 T1 hc ((((((Kp.new (F := ([] : List Addr)) Kp.rfl' hw1).new hw2).new hw3).new hw4).new hw5).get0 hr) upd_at (okS_app (okS_app ?_ ?_) ?_) rfl ha (by omega) (fun t ht => Nat.le_trans (h1 t ht).2 (by decide)) fun p s H' a1 a2 a3 a4 => q1 p s H' a1 a2 ((((((Kp.new (F := ([] : List Addr)) Kp.rfl' hw1).new hw2).new hw3).new hw4).new hw5).trans a3) a4
  all_goals
    repeat' (first | exact okS_nil | refine okS_cons ?_ ?_)
  all_goals
    first
    | omega
    | (have x1 := cut_len G (some (a : Int)) none; have x2 := cut_len G none (some ((a : Int) + 1)); simp only [tl, S, List.toList_toArray, List.length_append, List.length_cons, List.length_nil, List.length_reverse] at d1 d2 x1 x2 ⊢; omega)

theorem rd_l_changed {K : PySem.W.Frag} {mg : Str → Option Value} (T : Tx K mg) : ∀ vs H Q E, sp_l_changed K vs H Q E → t_l_changed K (WD E) (EndD Q) (start ["_law_bag_here", "_law_change", "_law_entries", "_law_signs_here", "_law_at", "_law_rest", "_law_one", "_law_other", "_law_head", "_law_tail", "_law_menu", "_law_rows", "_law_lists"] vs) H := by
  intro vs H Q E h
  replace h := h.out
  obtain ⟨b, g, s, r, n, c, G, ss, rfl, hb, hk, hc, hr, hrb, hG, hn, h1, q1⟩ := h
  have T0 := T
  cases T
  have hsl : (txs ss).length = ss.length := List.length_map _
  have hrb1 := hrb.1
  have hrb2 := hrb.2
  repeat' ac_rfl
  all_goals (try (conv => whnf))
  rename_i r1 H1 r10 r11 k1 b1
  obtain ⟨a, rfl⟩ := Int.eq_ofNat_of_zero_le r10
  refine lcp_othG (G := G) ?_ ?_ (fun _ => rfl) hG.2 fun D F hD f1 f2 f3 => ?_
  · rintro c D _ Q' hD hc ⟨xs, rfl⟩ q
    exact q
  · intro c H' Q' q
    exact q
  have hFl := sgn_len F
  obtain ⟨nb, ng, ns⟩ := b1.nn hD
  repeat' ac_rfl
  all_goals (try (conv => whnf))
  rename_i r2 H2 r20 r21 k2 b2 j2 hj2 e2
  rw [sgn_at (by omega) hj2]
  have kk : Kp [b, g] H H2 := (k1.new hD).trans k2
  refine seg_ch3 T0 hc (kk.get2 hr hrb1 hrb2) (by omega) ⟨hn, hG.2⟩ h1 fun p s H' a1 a2 a3 a4 => q1 p s H' a1 a2 (kk.trans a3.nil) (by rw [show n + 2 = n + 1 + 1 by omega]; exact b2.kp a3) a4


theorem rd_l_pairs {K : PySem.W.Frag} {mg : Str → Option Value} (T : Tx K mg) : ∀ vs H Q E, sp_l_pairs K vs H Q E → t_l_pairs K (WD E) (EndD Q) (start ["_law_bag_here", "_law_signs_here", "_law_count", "_law_pairs_here", "_law_k", "_law_told"] vs) H := by
  intro vs H Q E h
  replace h := h.out
  obtain ⟨b, g, s, n, G, c, rfl, hb, hk, hG, hz, q1⟩ := h
  have T0 := T
  cases T
  repeat' ac_rfl
  all_goals (try (conv => whnf))
  rename_i r0 hr0
  obtain ⟨nb, ng, ns⟩ := hb.nn hr0
  refine loop_r (fun j σ H' => Sd (∃ (xs : List V) (R : List Pr2) (n' : Int) (v4 v5 : Option V), σ = [some (.ref b), some (.str (S G)), some (.int c), some (.ref r0), v4, v5] ∧ Kp [b, g] H H' ∧ bx H' b g s n' ∧ n ≤ n' ∧ n' ≤ n + 2 * j ∧ H' r0 = some (.lst xs) ∧ Paired (pairP H') xs R ∧ R.length = j ∧ okR G R)) ?_ ?_ ?_
  · exact sd_i ⟨[], [], n, none, none, rfl, Kp.rfl'.new hr0, hb.kp (Kp.rfl'.new hr0), by omega, by omega, upd_at, .nil, rfl, fun _ z => nomatch z⟩
  · rintro j σ H' hi hP
    obtain ⟨xs, R, n', v4, v5, rfl, kk, b1, k1, k2, h1, hp, hRl, hok⟩ := sd_e hP
    have hj : j < c := by omega
    repeat' ac_rfl
    all_goals (try (conv => whnf))
    · have := plen hp
      exact sd_i (lim_of (by omega))
    rename_i r1 H1 r10 r11 kk1 b2 i1 hi1 e1 r2 H2 r20 r21 kk2 b3 i2 hi2 e2 p2 hp2
    have h3 := (kk.trans kk1).trans kk2
    have h4 : H2 r0 = some (.lst xs) := kk2.get2 (kk1.get2 h1 nb ng) nb ng
    have k4 : Kp [b, g] H (upd H2 p2 (.tup [V.str (S [G[i1]]), V.str (S [G[i2]])])) := h3.new hp2
    have k6 : Kp [] H2 (upd H2 p2 (.tup [V.str (S [G[i1]]), V.str (S [G[i2]])])) := Kp.rfl'.new hp2
    have h5 := k6.get0 h4
    have pp := prP_kp (prP_f2 (prP_f2 hp b1 kk1) b2 kk2) k6
    refine sd_i ⟨_, R ++ [([G[i1]], [G[i2]])], _, _, _, rfl, k4.own hr0, (b3.kp k6).off ⟨nb, ng, ns⟩, by omega, by omega, upd_at, papp (prP_lst pp h5) (.cons ⟨p2, rfl, upd_off (ne_none h4 hp2).symm upd_at⟩ .nil), by rw [List.length_append, hRl]; rfl, ?_⟩
    · intro r hr
      rcases List.mem_append.mp hr with hr | hr
      · exact hok r hr
      · exact ⟨_, _, List.getElem_mem hi1, List.getElem_mem hi2, List.mem_singleton.mp hr⟩
  · rintro σ H' hP
    obtain ⟨xs, R, n', v4, v5, rfl, kk, b1, k1, k2, h1, hp, hRl, hok⟩ := sd_e hP
    repeat' ac_rfl
    all_goals (try (conv => whnf))
    exact q1 _ xs R n' H' (by omega) hok kk k1 (by omega) b1 hr0 h1 hp


theorem rd_l_outs {K : PySem.W.Frag} {mg : Str → Option Value} (T : Tx K mg) : ∀ vs H Q E, sp_l_outs K vs H Q E → t_l_outs K (WD E) (EndD Q) (start ["_law_signs_here", "_law_pairs_here", "_law_rows", "_law_told", "_law_out"] vs) H := by
  intro vs H Q E h
  replace h := h.out
  obtain ⟨G, p, xs, R, rfl, hp, hx, hR, hG, hl, q1⟩ := h
  have T0 := T
  cases T
  repeat' ac_rfl
  all_goals (try (conv => whnf))
  rename_i r0 hr0
  refine loop_s (fun j σ H' => Sd (∃ (v3 v4 : Option V), σ = [some (.str (S G)), some (.ref p), some (.ref r0), v3, v4] ∧ Kp [] H H' ∧ H' r0 = some (.lst (txs ((G.take j).map fun c => G.filter fun d => decide ((([c], [d]) : Pr2) ∈ R))))) ) ?_ ?_ ?_
  · exact sd_i ⟨none, none, rfl, Kp.rfl'.new hr0, upd_at⟩
  · rintro j hj σ H' hP
    obtain ⟨v3, v4, rfl, kk, h1⟩ := sd_e hP
    have hj2 : j < G.length := hj
    repeat' ac_rfl
    all_goals (try (conv => whnf))
    refine lcp_K0 (l := G) (r := fun c => V.str (S [c])) rfl (fun k H x H' z => z) (fun _ _ => trivial) (fun d => decide ((([G[j]], [d]) : Pr2) ∈ R)) (fun d => .str (S [d])) (by omega) ?_ ?_ (fun _ => rfl) ?_
    · intro d H2 Q' hd k2 hQ
      have hp2 := k2.get0 (kk.get0 hp)
      repeat' ac_rfl
      all_goals (try (conv => whnf))
      rename_i T2 hT2
      refine in_prs (.inl (upd_fr hT2 hp2)) (prP_kp hx ((kk.trans k2).new hT2)) (okR_low hR hl) upd_at ⟨fun c hc => by rw [List.mem_singleton.mp hc]; exact hl _ (List.getElem_mem hj2), fun c hc => by rw [List.mem_singleton.mp hc]; exact hl _ hd⟩ ?_
      exact hQ _ (Kp.rfl'.new hT2)
    · exact fun d H2 Q' hd _ k2 hQ => hQ _ Kp.rfl'
    · intro D H2 hD k2 hDD
      have hr2 := k2.get0 h1
      have hfl := List.length_filter_le (fun d => decide ((([G[j]], [d]) : Pr2) ∈ R)) G
      have hal : (txs ((G.take j).map fun c => G.filter fun d => decide ((([c], [d]) : Pr2) ∈ R))).length ≤ 5 := by
        rw [List.length_map, List.length_map, List.length_take]; omega
      repeat' ac_rfl
      all_goals (try (conv => whnf))
      refine sd_i ⟨_, _, rfl, ((kk.trans k2)).own hr0, ?_⟩
      rw [List.take_succ_eq_append_getElem hj2, List.map_append, txs_app]
      exact upd_at
  · rintro σ H' hP
    obtain ⟨v3, v4, rfl, kk, h1⟩ := sd_e hP
    rw [take_all (Nat.le_refl _), outs_cols hR] at h1
    repeat' ac_rfl
    all_goals (try (conv => whnf))
    exact q1 _ _ kk hr0 h1


theorem rd_l_strange {K : PySem.W.Frag} {mg : Str → Option Value} (T : Tx K mg) : ∀ vs H Q E, sp_l_strange K vs H Q E → t_l_strange K (WD E) (EndD Q) (start ["_law_bag_here", "_law_signs_here", "_law_sign", "_law_rest", "_law_one", "_law_other", "_law_menu"] vs) H := by
  intro vs H Q E h
  replace h := h.out
  obtain ⟨b, g, s, n, G, rfl, hb, hk, hG, hc, q1⟩ := h
  have T0 := T
  cases T
  have hGl : (tl (S G)).length = G.length := rfl
  repeat' ac_rfl
  all_goals (try (conv => whnf))
  rename_i r1 H1 r10 r11 k1 b1 j1 hj1 e1
  refine lcp_oth (G := G) ?_ ?_ (fun _ => rfl) hG.2 fun D F hD f1 f2 f3 => ?_
  · rintro c D _ Q' hD hc ⟨xs, rfl⟩ q
    exact q
  · intro c H' Q' q
    exact q
  have hFl := sgn_len F
  obtain ⟨nb, ng, ns⟩ := b1.nn hD
  repeat' ac_rfl
  all_goals (try (conv => whnf))
  rename_i r2 H2 r20 r21 k2 b2 j2 hj2 e2
  have hc0 := f3 _ (List.getElem_mem (show j2 < F.length by omega))
  rw [sgn_at (by omega) hj2]
  generalize F[j2]'(by omega) = c0 at hc0
  clear hj2 e2
  repeat' ac_rfl
  all_goals (try (conv => whnf))
  · rename_i e; exact absurd e (b2.nn (by assumption)).1
  · rename_i e; exact absurd e (b2.nn (by assumption)).2.1
  rename_i p hp r3 H3 r30 r31 k3 b3 j3 hj3 e3
  have kk : Kp [b, g] H H3 := by nofun
  have hg0 := hc _ (List.getElem_mem (show j1 < G.length from hj1))
  have hg1 : (tl (S G))[j1] < 128 := low_c hg0
  have hlow : ∀ c ∈ G, c < 128 := fun c hc' => low_c (hc c hc')
  have hc1 : c0 < 128 := low_c (.inr hc0.1)
  have b3 : bx H3 b g s (n + 3) := by rw [show n + 3 = n + 1 + 1 + 1 by omega]; exact b3
  obtain ⟨u1, u2⟩ := up_az c0 hc0.1
  have hj8 : j3 < 10 := hj3
  obtain rfl | rfl | rfl | rfl | rfl | rfl | rfl | rfl | rfl | rfl : j3 = 0 ∨ j3 = 1 ∨ j3 = 2 ∨ j3 = 3 ∨ j3 = 4 ∨ j3 = 5 ∨ j3 = 6 ∨ j3 = 7 ∨ j3 = 8 ∨ j3 = 9 := by omega
  · exact q1 [] H3 rfl (by decide) (fun _ z => nomatch z) kk b3
  · refine q1 [_, _] H3 rfl (by simp) (fun c z => ?_) kk b3
    simp only [List.mem_cons, List.not_mem_nil, or_false] at z
    rcases z with rfl | rfl <;> exact hg1
  · refine q1 G H3 ?_ hG.2 hlow kk b3
    match G, hG with
    | _ :: _ :: _, _ => rfl
  · exact q1 [c0] H3 (decide_eq_false hc0.2) (by simp) (fun c z => by rw [List.mem_singleton.mp z]; exact hc1) kk b3
  · show Q (.str (Txt.upper (S [c0]))) H3
    rw [u1]
    exact q1 [c0 - 32] H3 (decide_eq_false fun z => u2 (hc _ z)) (by simp) (fun c z => by rw [List.mem_singleton.mp z]; omega) kk b3
  · refine q1 [_, 32] H3 rfl (by simp) (fun c z => ?_) kk b3
    simp only [List.mem_cons, List.not_mem_nil, or_false] at z
    rcases z with rfl | rfl
    · exact hg1
    · decide
  · exact q1 [32] H3 (decide_eq_false fun z => absurd (hc _ z) (by decide)) (by simp) (fun c z => by rw [List.mem_singleton.mp z]; decide) kk b3
  · exact q1 [46] H3 (decide_eq_false fun z => absurd (hc _ z) (by decide)) (by simp) (fun c z => by rw [List.mem_singleton.mp z]; decide) kk b3
  · exact q1 [62] H3 (decide_eq_false fun z => absurd (hc _ z) (by decide)) (by simp) (fun c z => by rw [List.mem_singleton.mp z]; decide) kk b3
  · refine q1 [_, 10] H3 rfl (by simp) (fun c z => ?_) kk b3
    simp only [List.mem_cons, List.not_mem_nil, or_false] at z
    rcases z with rfl | rfl
    · exact hg1
    · decide


theorem rd_l_no_sign {K : PySem.W.Frag} {mg : Str → Option Value} (T : Tx K mg) : ∀ vs H Q E, sp_l_no_sign K vs H Q E → t_l_no_sign K (WD E) (EndD Q) (start ["_law_table", "_law_strange_here", "_law_told", "e"] vs) H := by
  intro vs H Q E h
  replace h := h.out
  obtain ⟨t, A, dA, l, v, x, cols, rfl, ht, hA, hn, hx, hs, q1⟩ := h
  have T0 := T
  cases T
  repeat' ac_rfl
  all_goals (try (conv => whnf))
  obtain ⟨d, c, p, xs, g1, h2, h3, h4⟩ := ht.out
  refine look_i g1 ⟨rfl, ?_⟩
  refine i_Table_getitem ht hA hn (by omega) (fun c j e hc _ _ => ?_) (fun _ => ⟨fun H1 e1 k1 he1 => ?_⟩)
  · subst e
    rw [show isS (sg l) [c] = decide (c ∈ sg l) from rfl, decide_eq_true hc] at hs; cases hs
  · repeat' ac_rfl
    all_goals (try (conv => whnf))
    all_goals first | exact q1 _ (k1.new he1) | (rename_i z; exact absurd rfl z)

theorem no_prs {g : List Nat} {cols : List (List Nat)} {x y : List Nat} (hc : okC g cols) (h : ¬ (isS g x = true ∧ isS g y = true)) : decide ((x, y) ∈ prs g cols) = false := decide_eq_false fun z => h (by
  obtain ⟨⟨a, t⟩, ht, hp⟩ := List.mem_flatMap.mp z
  obtain ⟨b, hb, e⟩ := List.mem_map.mp hp
  injection e with e1 e2
  subst e1 e2
  have h1 := List.of_mem_zip ht
  exact ⟨decide_eq_true h1.1, decide_eq_true ((hc.sub h1.2).2 b hb)⟩)

theorem rd_l_no_pairs {K : PySem.W.Frag} {mg : Str → Option Value} (T : Tx K mg) : ∀ vs H Q E, sp_l_no_pairs K vs H Q E → t_l_no_pairs K (WD E) (EndD Q) (start ["_law_table", "_law_signs_here", "_law_strange_here", "_law_sign", "_law_out"] vs) H := by
  intro vs H Q E h
  replace h := h.out
  obtain ⟨t, A, l, v, x, cols, rfl, ht, hl, hc, hx, hlx, hs, q1⟩ := h
  have T0 := T
  cases T
  have hsl := sg_len hl
  have hgl : (tl (S (sg l))).length ≤ 5 := hsl.2
  have lowg := sg_low hl
  have lo := prs_low (g := sg l) lowg (fun t h => (hc.sub h).2)
  have lo1 : ∀ {i : Nat} (h : i < (sg l).length), lowT [(sg l)[i]] := fun h c hc => by rw [List.mem_singleton.mp hc]; exact lowg _ (List.getElem_mem h)
  have lo0 : lowT [] := fun _ z => nomatch z
  have lo2 : ∀ {i j : Nat} (h : i < (sg l).length) (h2 : j < (sg l).length), lowT ([(sg l)[i]] ++ [(sg l)[j]]) := fun h h2 c hc => (List.mem_append.mp hc).elim (lo1 h c) (lo1 h2 c)
  have nx : ¬ isS (sg l) x = true := by rw [hs]; decide
  obtain ⟨d, c, p, xs, g1, h2, h3, h4⟩ := ht.out
  have con : ∀ {H' : Hp} {q : Addr} {y z : List Nat} {Q' : VK} {E' : XK}, Kp [] H H' → H' q = some (.tup [.str (S y), .str (S z)]) → lowT y → lowT z → ¬ (isS (sg l) y = true ∧ isS (sg l) z = true) → Q' (.bl false) H' → sp_Table_contains K [.ref t, .ref q] H' Q' E' := fun k hq l1 l2 hn hQ =>
    i_Table_contains (ht.kp k) hq ⟨l1, l2⟩ lo (by rw [no_prs hc hn]; exact hQ)
  repeat' ac_rfl
  all_goals (try (conv => whnf))
  rename_i q1' hq1'
  have k1 : Kp [] H (upd H q1' (.tup [.str (S x), .str (S x)])) := Kp.rfl'.new hq1'
  refine con k1 upd_at hlx hlx (fun z => nx z.1) ?_
  generalize upd H q1' (.tup [V.str (S x), V.str (S x)]) = H1 at k1
  have g2 := k1.get0 g1
  repeat' ac_rfl
  all_goals (try (conv => whnf))
  rename_i q2' hq2'
  have k2 : Kp [] H (upd H1 q2' (.tup [.str (S []), .str (S [])])) := k1.new hq2'
  refine con k2 upd_at lo0 lo0 (fun z => nomatch z.1) ?_
  generalize upd H1 q2' (.tup [V.str (S []), V.str (S [])]) = H2 at k2
  repeat' ac_rfl
  all_goals (try (conv => whnf))
  refine loop_s (fun i σ H' => Sd (∃ (v3 v4 : Option V), σ = [some (.ref t), some (.str (S (sg l))), some (.str (S x)), v3, v4] ∧ Kp [] H H')) ?_ ?_ ?_
  · exact sd_i ⟨none, none, rfl, k2⟩
  · rintro i hi σ H' hP
    obtain ⟨v3, v4, rfl, k3⟩ := sd_e hP
    have hi' : i < (sg l).length := hi
    repeat' ac_rfl
    all_goals (try (conv => whnf))
    rename_i q3 hq3
    have k4 := k3.new (o := .tup [.str (S x), .str (S [(tl (S (sg l)))[i]])]) hq3
    refine con k4 upd_at hlx (lo1 hi') (fun z => nx z.1) ?_
    generalize upd H' q3 (.tup [V.str (S x), V.str (S [(tl (S (sg l)))[i]])]) = H4 at k4
    repeat' ac_rfl
    all_goals (try (conv => whnf))
    rename_i q5 hq5
    have k5 := k4.new (o := .tup [.str (S [(tl (S (sg l)))[i]]), .str (S x)]) hq5
    refine con k5 upd_at (lo1 hi') hlx (fun z => nx z.2) ?_
    generalize upd H4 q5 (.tup [V.str (S [(tl (S (sg l)))[i]]), V.str (S x)]) = H5 at k5
    repeat' ac_rfl
    all_goals (try (conv => whnf))
    refine loop_s (fun j σ H' => Sd (∃ (v4 : Option V), σ = [some (.ref t), some (.str (S (sg l))), some (.str (S x)), some (.str (S [(sg l)[i]])), v4] ∧ Kp [] H H')) ?_ ?_ ?_
    · exact sd_i ⟨v4, rfl, k5⟩
    · rintro j hj σ H' hP
      obtain ⟨v4, rfl, k6⟩ := sd_e hP
      have hj' : j < (sg l).length := hj
      repeat' ac_rfl
      all_goals (try (conv => whnf))
      rename_i q7 hq7
      have k7 := k6.new (o := .tup [.str (S ([(sg l)[i]] ++ [(sg l)[j]])), .str (S [])]) hq7
      refine con k7 upd_at (lo2 hi' hj') lo0 (fun z => nomatch z.2) ?_
      generalize upd H' q7 (.tup [V.str (S ([(sg l)[i]] ++ [(sg l)[j]])), V.str (S [])]) = H7 at k7
      repeat' ac_rfl
      all_goals (try (conv => whnf))
      rename_i q8 hq8
      have k8 := k7.new (o := .tup [.str (S []), .str (S ([(sg l)[i]] ++ [(sg l)[j]]))]) hq8
      refine con k8 upd_at lo0 (lo2 hi' hj') (fun z => nomatch z.1) ?_
      repeat' ac_rfl
      all_goals (try (conv => whnf))
      exact sd_i ⟨_, rfl, k8⟩
    · rintro σ H' hP
      obtain ⟨v4, rfl, k6⟩ := sd_e hP
      repeat' ac_rfl
      all_goals (try (conv => whnf))
      exact sd_i ⟨_, _, rfl, k6⟩
  · rintro σ H' hP
    obtain ⟨v3, v4, rfl, k3⟩ := sd_e hP
    repeat' ac_rfl
    all_goals (try (conv => whnf))
    exact q1 _ k3

theorem prs_refl {H : Hp} {p p' : Addr} {K : PySem.W.Frag} {ys : List V} {R : List Pr2} {k : Bool → Prop} (h1 : H p = some (.lst ys)) (h2 : H p' = some (.lst ys)) (pr : Paired (pairP H) ys R) (h : ∀ a ∈ R, lowT a.1 ∧ lowT a.2) (q : k true) : dpq K (.ref p) (.ref p') H k := eq_prs h1 h2 pr pr h q
theorem seg_bp6 {K : PySem.W.Frag} {mg : Str → Option Value} (T0 : Tx K mg) {E : XK} {Q : VK} {b p A dA q : Addr} {l v : List Nat} {a : Nat} {v4 v5 v6 : Option V} {ys : List V} {R : List Pr2} {H : Hp}
    (hA : H A = some (alo K dA l v)) (hl : good l v) (hq : H q = some (.lst ys)) (pr : Paired (pairP H) ys R) (hn : R.length < 1000) (hs : ∀ p ∈ R, p.1.length < 100 ∧ p.2.length < 100) (hlo : ∀ a ∈ R, lowT a.1 ∧ lowT a.2) (hb : badP (sg l) R 0 = some (a : Int)) (q1 : ∀ H', Kp [] H H' → Q (.bl true) H') :
    t_l_bad_pair_6 K (WD E) (EndD Q) [some (.ref b), some (.ref A), some (.str (S (sg l))), some (.ref p), v4, v5, v6, some (.int a), some (.ref q), none, none, none] H := by
  cases T0
  refine ⟨?_⟩
  repeat' ac_rfl
  all_goals (try (conv => whnf))
  rename_i L hL y dy hy hdy hne
  have k0 : Kp [] H (upd H L (.lst ys)) := Kp.rfl'.new hL
  have k2 : Kp [] H (upd (upd (upd H L (.lst ys)) dy (.own y)) y (.ins (He.ga K "Table") dy [])) := (k0.new hdy).own (k0.none hy)
  have hL2 : upd (upd (upd H L (.lst ys)) dy (.own y)) y (.ins (He.ga K "Table") dy []) L = some (.lst ys) := upd_off (ne_none upd_at hy) (upd_fr hdy upd_at)
  refine i_Table_init upd_at (k2.get0 hA) hl (k2.get0 hq) (prP_kp pr k2) hn hs (fun z => by rw [hb] at z; cases z) (fun k z => ⟨fun H3 d k3 hd => ?_⟩)
  rw [hb] at z
  obtain rfl := Option.some.inj z
  have k4 := (k2.trans k3).new (o := .xd [("index", .int (a : Int))]) hd
  have hL4 := upd_fr (o' := .xd [("index", .int (a : Int))]) hd (k3.get0 hL2)
  have hq4 := k4.get0 hq
  repeat' ac_rfl
  all_goals (try (conv => whnf))
  refine prs_refl hq4 hL4 (prP_kp pr k4) hlo ?_
  repeat' ac_rfl
  all_goals (try (conv => whnf))
  rw [decide_eq_true rfl]
  exact q1 _ k4
theorem badP_ins {g : List Nat} {R S : List Pr2} {p : Pr2} {a : Nat} (ha : a ≤ R.length) (hR : okR g R) (hp : ¬ (isS g p.1 = true ∧ isS g p.2 = true)) : badP g (R.take a ++ [p] ++ S) 0 = some (a : Int) := by
  have hl : (R.take a).length = a := by rw [List.length_take]; omega
  have hi : a < (R.take a ++ [p] ++ S).length := by rw [List.length_append, List.length_append, hl]; simp only [List.length_cons, List.length_nil]; omega
  have e : (R.take a ++ [p] ++ S)[a] = p := by
    rw [List.getElem_append_left (by rw [List.length_append, hl]; simp), List.getElem_append_right (by omega)]
    simp [hl]
  refine badP_at hi (fun r hr => ?_) (by rw [e]; exact hp)
  rw [List.append_assoc, List.take_append_of_le_length (by omega), List.take_of_length_le (by omega)] at hr
  obtain ⟨x, y, hx, hy, rfl⟩ := hR r (List.mem_of_mem_take hr)
  exact ⟨decide_eq_true hx, decide_eq_true hy⟩
theorem ptake {α β : Type} {F : α → β → Prop} : ∀ {l₁ : List α} {l₂ : List β} (n : Nat), Paired F l₁ l₂ → Paired F (l₁.take n) (l₂.take n)
  | _, _, 0, _ => .nil
  | _, _, _ + 1, .nil => .nil
  | _, _, n + 1, .cons h t => .cons h (ptake n t)
theorem pdrop {α β : Type} {F : α → β → Prop} : ∀ {l₁ : List α} {l₂ : List β} (n : Nat), Paired F l₁ l₂ → Paired F (l₁.drop n) (l₂.drop n)
  | _, _, 0, h => h
  | _, _, _ + 1, .nil => .nil
  | _, _, n + 1, .cons h t => pdrop n t
theorem seg_bp5 {K : PySem.W.Frag} {mg : Str → Option Value} (T0 : Tx K mg) {E : XK} {Q : VK} {b g s p A dA q : Addr} {n : Int} {a : Nat} {l v bd : List Nat} {v5 v6 : Option V} {ys : List V} {R : List Pr2} {H : Hp}
    (hb : bx H b g s n) (hk : n < 700020) (hA : H A = some (alo K dA l v)) (hl : good l v) (hq : H q = some (.lst ys)) (hqb : q ≠ b ∧ q ≠ g ∧ q ≠ s) (hx : Paired (pairP H) ys R) (hn : R.length ≤ 50) (hs : ∀ p ∈ R, p.1.length < 100 ∧ p.2.length < 100) (hlo : ∀ a ∈ R, lowT a.1 ∧ lowT a.2) (hbad : ∀ S, badP (sg l) (R ++ S) 0 = some (a : Int)) (hbd : bd.length = 1) (blow : lowT bd)
    (q1 : ∀ n' H', Kp [b, g, q] H H' → n ≤ n' → n' ≤ n + 5 → bx H' b g s n' → Q (.bl true) H') :
    t_l_bad_pair_5 K (WD E) (EndD Q) [some (.ref b), some (.ref A), some (.str (S (sg l))), some (.ref p), some (.str (S bd)), v5, v6, some (.int a), some (.ref q), none, none, none] H := by
  have T1 := T0
  cases T0
  refine ⟨?_⟩
  have hsl := sg_len hl
  have sgc : ∀ c ∈ sg l, c = 45 ∨ c ∈ AZ := fun c hc => by
    rcases List.mem_cons.mp hc with rfl | hc
    · exact .inl rfl
    · exact .inr ((badL_inv hl.1).2.2.2 c ((srt_perm l).mem_iff.mp hc))
  have hxl := plen hx
  have qb := hqb.1
  have qg := hqb.2.1
  repeat' ac_rfl
  all_goals (try (conv => whnf))
  · rename_i r1 H1 r10 r11 k1 b1 x1
    refine i_l_strange b1 (by omega) hsl sgc fun x H2 xs1 xs2 xlow k2 b2 => ?_
    have kk := k1.trans k2
    have hq2 := kk.get2 hq qb qg
    have hA2 := kk.get2 hA (hb.no hA rfl).1 (hb.no hA rfl).2.1
    have pp := prP_f2 (prP_f2 hx hb k1) b1 k2
    repeat' ac_rfl
    all_goals (try (conv => whnf))
    rename_i T2 hT2
    have k3 : Kp [] H2 (upd H2 T2 (.tup [.str (S x), .str (S bd)])) := Kp.rfl'.new hT2
    have hq3 := k3.get0 hq2
    have b4 := (b2.kp k3).off (o := .lst (ys ++ [.ref T2])) hqb
    have hqA : A ≠ q := ne_ho hA2 hq2 (fun z => nomatch z)
    have k5 : Kp [b, g, q] H (upd (upd H2 T2 (.tup [.str (S x), .str (S bd)])) q (.lst (ys ++ [.ref T2]))) := ((kk.mono (fun z hz => by simp only [List.mem_cons, List.not_mem_nil, or_false] at hz ⊢; rcases hz with rfl | rfl <;> simp)).new hT2).at (by simp)
    refine seg_bp6 (R := R ++ [(x, bd)]) T1 (upd_off hqA (k3.get0 hA2)) hl upd_at (papp (prP_lst (prP_kp pp k3) hq3) (.cons ⟨T2, rfl, upd_off (ne_none hq2 hT2).symm upd_at⟩ .nil)) (by rw [List.length_append]; simp only [List.length_cons, List.length_nil]; omega) (fun p hp => ?_) (fun p hp => ?_) (hbad _) fun H' k' => q1 _ H' (k5.trans k'.nil) (by omega) (by omega) (b4.kp k')
    · rcases List.mem_append.mp hp with hp | hp
      · exact hs p hp
      · rw [List.mem_singleton.mp hp]; exact ⟨by show x.length < 100; omega, by show bd.length < 100; omega⟩
    · rcases List.mem_append.mp hp with hp | hp
      · exact hlo p hp
      · rw [List.mem_singleton.mp hp]; exact ⟨xlow, blow⟩
  · rename_i r1 H1 r10 r11 k1 b1 x1
    have hb0 := hbad []
    rw [List.append_nil] at hb0
    refine seg_bp6 T1 (k1.get2 hA (hb.no hA rfl).1 (hb.no hA rfl).2.1) hl (k1.get2 hq qb qg) (prP_f2 hx hb k1) (by omega) hs hlo hb0 fun H' k' => q1 _ H' ((k1.trans k'.nil).mono fun z hz => ?_) (by omega) (by omega) (b1.kp k')
    simp only [List.mem_cons, List.not_mem_nil, or_false] at hz ⊢
    rcases hz with rfl | rfl <;> simp
theorem seg_bp3 {K : PySem.W.Frag} {mg : Str → Option Value} (T0 : Tx K mg) {E : XK} {Q : VK} {b g s p A dA q : Addr} {n : Int} {l v y z bd : List Nat} {v5 : Option V} {xs : List V} {R : List Pr2} {H : Hp}
    (hb : bx H b g s n) (hk : n < 700010) (hA : H A = some (alo K dA l v)) (hl : good l v) (hp : H p = some (.lst xs)) (hpb : p ≠ b ∧ p ≠ g) (hx : Paired (pairP H) xs R) (hR : okR (sg l) R) (hn : R.length ≤ 40) (hq : H q = some (.tup [.str (S y), .str (S z)])) (yz : ¬ (isS (sg l) y = true ∧ isS (sg l) z = true)) (yl : y.length ≤ 5 ∧ z.length ≤ 5) (low : lowT y ∧ lowT z) (hbd : bd.length = 1) (blow : lowT bd)
    (q1 : ∀ n' H', Kp [b, g] H H' → n ≤ n' → n' ≤ n + 10 → bx H' b g s n' → Q (.bl true) H') :
    t_l_bad_pair_3 K (WD E) (EndD Q) [some (.ref b), some (.ref A), some (.str (S (sg l))), some (.ref p), some (.str (S bd)), v5, some (.ref q), none, none, none, none, none] H := by
  have T1 := T0
  cases T0
  refine ⟨?_⟩
  have hxl := plen hx
  have pb1 := hpb.1
  have pb2 := hpb.2
  repeat' ac_rfl
  all_goals (try (conv => whnf))
  rename_i r H1 r1 r2 k1 b1 p1 hp1 p2 hp2 p3 hp3 p4 hp4 p5 hp5
  obtain ⟨a, rfl⟩ := Int.eq_ofNat_of_zero_le r1
  have ha : a ≤ R.length := by omega
  have hp' := k1.get2 hp pb1 pb2
  have hq' := k1.get2 hq (hb.no hq rfl).1 (hb.no hq rfl).2.1
  have hA' := k1.get2 hA (hb.no hA rfl).1 (hb.no hA rfl).2.1
  have pp := prP_f2 hx hb k1
  have k2 : Kp [] H1 (upd (upd (upd (upd (upd H1 p1 (.lst (cut xs none (some (a : Int))))) p2 (.lst [V.ref q])) p3 (.lst (cut xs none (some (a : Int)) ++ [V.ref q]))) p4 (.lst (cut xs (some (a : Int)) none))) p5 (.lst (cut xs none (some (a : Int)) ++ [V.ref q] ++ cut xs (some (a : Int)) none))) := ((((Kp.rfl'.new hp1).new hp2).new hp3).new hp4).new hp5
  have hn5 : H1 p5 = none := ((((Kp.rfl'.new hp1).new hp2).new hp3).new hp4).none hp5
  have h5 : upd (upd (upd (upd (upd H1 p1 (.lst (cut xs none (some (a : Int))))) p2 (.lst [V.ref q])) p3 (.lst (cut xs none (some (a : Int)) ++ [V.ref q]))) p4 (.lst (cut xs (some (a : Int)) none))) p5 (.lst (cut xs none (some (a : Int)) ++ [V.ref q] ++ cut xs (some (a : Int)) none)) p5 = some (.lst (xs.take a ++ [V.ref q] ++ xs.drop a)) := upd_at
  generalize upd (upd (upd (upd (upd H1 p1 (.lst (cut xs none (some (a : Int))))) p2 (.lst [V.ref q])) p3 (.lst (cut xs none (some (a : Int)) ++ [V.ref q]))) p4 (.lst (cut xs (some (a : Int)) none))) p5 (.lst (cut xs none (some (a : Int)) ++ [V.ref q] ++ cut xs (some (a : Int)) none)) = H5 at k2 h5
  have lo := sg_low hl
  have okl := okR_low hR lo
  have memR : ∀ p ∈ R.take a ++ [(y, z)] ++ R.drop a, p ∈ R ∨ p = (y, z) := fun p hp => by
    rcases List.mem_append.mp hp with hp | hp
    · rcases List.mem_append.mp hp with hp | hp
      · exact .inl (List.mem_of_mem_take hp)
      · exact .inr (List.mem_singleton.mp hp)
    · exact .inl (List.mem_of_mem_drop hp)
  refine seg_bp5 T1 (R := R.take a ++ [(y, z)] ++ R.drop a) (b1.kp k2) (by omega) (k2.get0 hA') hl h5 (b1.nn hn5) (papp (papp (prP_kp (ptake a pp) k2) (.cons ⟨q, rfl, k2.get0 hq'⟩ .nil)) (prP_kp (pdrop a pp) k2)) ?_ (fun p hp => ?_) (fun p hp => ?_) (fun S => ?_) hbd blow fun n' H' k' a1 a2 b3 => q1 n' H' (fun z o e hz => ?_) (by omega) (by omega) b3
  · simp only [List.length_append, List.length_take, List.length_drop, List.length_cons, List.length_nil]; omega
  · rcases memR p hp with hp | rfl
    · obtain ⟨c1, c2, _, _, rfl⟩ := hR p hp
      exact ⟨by simp, by simp⟩
    · exact ⟨by show y.length < 100; omega, by show z.length < 100; omega⟩
  · rcases memR p hp with hp | rfl
    · exact okl p hp
    · exact low
  · rw [List.append_assoc]; exact badP_ins ha hR yz
  · have e1 := k1 z o e hz
    refine k' z o (k2.get0 e1) fun hm => ?_
    simp only [List.mem_cons, List.not_mem_nil, or_false] at hz hm
    rcases hm with rfl | rfl | rfl
    · exact hz (.inl rfl)
    · exact hz (.inr rfl)
    · rw [hn5] at e1; cases e1
theorem seg_bp2 {K : PySem.W.Frag} {mg : Str → Option Value} (T0 : Tx K mg) {E : XK} {Q : VK} {b g s p A dA : Addr} {n : Int} {l v x bd : List Nat} {xs : List V} {R : List Pr2} {H : Hp}
    (hb : bx H b g s n) (hk : n < 700005) (hA : H A = some (alo K dA l v)) (hl : good l v) (hp : H p = some (.lst xs)) (hpb : p ≠ b ∧ p ≠ g) (hx : Paired (pairP H) xs R) (hR : okR (sg l) R) (hn : R.length ≤ 40) (xs1 : isS (sg l) x = false) (xs2 : x.length ≤ 5) (xlow : lowT x) (hbd : bd.length = 1) (blow : lowT bd)
    (q1 : ∀ n' H', Kp [b, g] H H' → n ≤ n' → n' ≤ n + 12 → bx H' b g s n' → Q (.bl true) H') :
    t_l_bad_pair_2 K (WD E) (EndD Q) [some (.ref b), some (.ref A), some (.str (S (sg l))), some (.ref p), some (.str (S bd)), some (.str (S x)), none, none, none, none, none, none] H := by
  have T1 := T0
  cases T0
  refine ⟨?_⟩
  have nx : ¬ isS (sg l) x = true := by rw [xs1]; decide
  repeat' ac_rfl
  all_goals (try (conv => whnf))
  · rename_i p1 hp1 p2 hp2 p3 hp3 p4 hp4 r H2 hr1 hr2 k2 b2 e
    exact absurd e (hb.nn (((Kp.rfl'.new hp1).new hp2).new hp3 |>.none hp4)).1
  · rename_i p1 hp1 p2 hp2 p3 hp3 p4 hp4 r H2 hr1 hr2 k2 b2 e
    exact absurd e (hb.nn (((Kp.rfl'.new hp1).new hp2).new hp3 |>.none hp4)).2.1
  all_goals
    rename_i p1 hp1 p2 hp2 p3 hp3 p4 hp4 r H2 hr1 hr2 k2 b2 e
    have kx := ((((Kp.rfl' (F := [])).new (o := .tup [.str (S x), .str (S bd)]) hp1).new (o := .tup [.str (S bd), .str (S x)]) hp2).new (o := .tup [.str (S x), .str (S x)]) hp3).new (o := .lst [.ref p1, .ref p2, .ref p3]) hp4
    have kk : Kp [b, g] H H2 := kx.nil.trans k2
    have pp : Paired (pairP H2) xs R := prP_f2 (prP_kp hx kx) (hb.kp kx) k2
    have hA2 := kk.get2 hA (hb.no hA rfl).1 (hb.no hA rfl).2.1
    have hp2' := kk.get2 hp hpb.1 hpb.2
    have n1 := hb.nn hp1
    have n2 := hb.nn ((Kp.new (F := []) Kp.rfl' hp1).none hp2)
    have n3 := hb.nn ((Kp.new (F := []) (Kp.new Kp.rfl' hp1) hp2).none hp3)
  · exact seg_bp3 T1 b2 (by omega) hA2 hl hp2' hpb pp hR hn (y := x) (z := bd) (k2.get2 (upd_fr hp4 (upd_fr hp3 (upd_fr hp2 upd_at))) n1.1 n1.2.1) (fun z => nx z.1) ⟨xs2, by omega⟩ ⟨xlow, blow⟩ hbd blow fun n' H3 k3 a1 a2 b3 => q1 n' H3 (kk.trans k3) (by omega) (by omega) b3
  · exact seg_bp3 T1 b2 (by omega) hA2 hl hp2' hpb pp hR hn (y := bd) (z := x) (k2.get2 (upd_fr hp4 (upd_fr hp3 upd_at)) n2.1 n2.2.1) (fun z => nx z.2) ⟨by omega, xs2⟩ ⟨blow, xlow⟩ hbd blow fun n' H3 k3 a1 a2 b3 => q1 n' H3 (kk.trans k3) (by omega) (by omega) b3
  · exact seg_bp3 T1 b2 (by omega) hA2 hl hp2' hpb pp hR hn (y := x) (z := x) (k2.get2 (upd_fr hp4 upd_at) n3.1 n3.2.1) (fun z => nx z.1) ⟨xs2, xs2⟩ ⟨xlow, xlow⟩ hbd blow fun n' H3 k3 a1 a2 b3 => q1 n' H3 (kk.trans k3) (by omega) (by omega) b3

theorem rd_l_bad_pair {K : PySem.W.Frag} {mg : Str → Option Value} (T : Tx K mg) : ∀ vs H Q E, sp_l_bad_pair K vs H Q E → t_l_bad_pair K (WD E) (EndD Q) (start ["_law_bag_here", "_law_alphabet", "_law_signs_here", "_law_pairs_here", "_law_sign", "_law_strange_here", "_law_bad", "_law_at", "_law_rows", "_law_kept", "_law_told", "e"] vs) H := by
  intro vs H Q E h
  replace h := h.out
  obtain ⟨b, g, s, A, dA, p, n, l, v, xs, R, rfl, hb, hk, hA, hl, hp, hpb, hx, hR, hn, q1⟩ := h
  have T0 := T
  cases T
  have hsl := sg_len hl
  have hgl : (tl (S (sg l))).length ≤ 5 := hsl.2
  have hgl1 : 2 ≤ (tl (S (sg l))).length := hsl.1
  have hxl := plen hx
  repeat' ac_rfl
  all_goals (try (conv => whnf))
  rename_i r1 H1 r10 r11 k1 b1 j1 hj1 e1
  have hj1' : j1 < (sg l).length := hj1
  have sgc : ∀ c ∈ sg l, c = 45 ∨ c ∈ AZ := fun c hc => by
    rcases List.mem_cons.mp hc with rfl | hc
    · exact .inl rfl
    · exact .inr ((badL_inv hl.1).2.2.2 c ((srt_perm l).mem_iff.mp hc))
  refine i_l_strange b1 (by omega) hsl sgc fun x H2 xs1 xs2 xlow k2 b2 => ?_
  repeat' ac_rfl
  all_goals (try (conv => whnf))
  have low1 : lowT [(sg l)[j1]] := fun c hc => by rw [List.mem_singleton.mp hc]; exact sg_low hl _ (List.getElem_mem hj1')
  have kk : Kp [b, g] H H2 := k1.trans k2
  refine seg_bp2 T0 (bd := [(sg l)[j1]]) b2 (by omega) (kk.get2 hA (hb.no hA rfl).1 (hb.no hA rfl).2.1) hl (kk.get2 hp hpb.1 hpb.2) hpb (prP_f2 (prP_f2 hx hb k1) b1 k2) hR hn xs1 xs2 xlow rfl low1 fun n' H3 k3 a1 a2 b3 => q1 n' H3 (kk.trans k3) (by omega) (by omega) b3


theorem rd_Table_identity {K : PySem.W.Frag} {mg : Str → Option Value} (T : Tx K mg) : ∀ vs H Q E, sp_Table_identity K vs H Q E → t_Table_identity K (WD E) (EndD Q) (start ["cls", "alphabet", "sign"] vs) H := by
  intro vs H Q E h
  replace h := h.out
  obtain ⟨A, dA, l, v, rfl, hA, hl, q1⟩ := h
  have T0 := T
  cases T
  have nd := sg_nd hl
  have hgl := sg_len hl
  have hgl2 : (sg l).length ≤ 5 := hgl.2
  repeat' ac_rfl
  all_goals (try (conv => whnf))
  refine lcp_prs (f := fun c => ([c], [c])) (t := sg l) (Nat.le_trans hgl.2 (by decide)) (fun _ => rfl) ?_ ?_
  · intro c H' Q' hc kk hQ
    repeat' ac_rfl
    all_goals (try (conv => whnf))
    exact hQ _ (by assumption)
  · intro D ys H' hD kk hDD hp
    have hA' := kk.get0 hA
    repeat' ac_rfl
    all_goals (try (conv => whnf))
    rename_i y dy hy hdy hne
    have k2 : Kp [] H' (upd (upd H' dy (.own y)) y (.ins (He.ga K "Table") dy [])) := (Kp.rfl'.new hdy).own hy
    rw [← prF_one] at hp
    have hi : ∀ c ∈ sg l, io (sg l) [c] = [c] := fun c hc => io_one nd hc
    refine i_Table_init upd_at (k2.get0 hA') hl (k2.get0 hDD) (prP_kp hp k2) (by have := prF_len (g := sg l) (f := fun c => [c]) (fun _ _ => by simp); omega) prF_small (fun _ H2 k3 ht => ?_) (fun k e => by rw [bad_at hi] at e; cases e)
    rw [cols_at nd hi] at ht
    exact ⟨rfl, q1 y H2 (kk.trans (Kp.made hy hdy k3)) ht⟩

theorem lc2_said {K : PySem.W.Frag} {g : List Nat} {ts : TE} {f : Nat → List Nat} {a0 a1 a2 a3 : Option V} {H1 : Hp} {Q : VK} (hg : g.length ≤ 5) (hf : ∀ c ∈ g, (f c).length ≤ 5)
    (hs : ∀ c H' Q', c ∈ g → Kp [] H1 H' → (∀ H2, Kp [] H' H2 → Q' (.str (S (f c))) H2) → ts [a0, a1, some (.str (S [c])), none] H' Q')
    (q : ∀ D xs H', H1 D = none → Kp [] H1 H' → H' D = some (.lst xs) → Paired (pairP H') xs (prF g f) → Q (.ref D) H') :
    lc2 g.length (itS g) (fun _ => True) (gName 2) tYes (jA K ts) (gName 3) tYes (tTup (tCons (tV 2) (tCons (tV 3) tNil))) [2, 3] [3] [a0, a1, a2, a3] H1 Q := by
  refine lc2_j (fun D i H' => ∃ xs, Kp [] H1 H' ∧ H' D = some (.lst xs) ∧ Paired (pairP H') xs (prF (g.take i) f) ∧ xs.length ≤ 5 * i) ?_ ?_ ?_ ?_
  · intro D hD; exact ⟨[], Kp.rfl'.new hD, upd_at, .nil, Nat.zero_le _⟩
  · exact fun _ _ _ _ _ _ => trivial
  · rintro D i x H2 H3 hD hi ⟨xs, kk, hDx, hp, hl⟩ ⟨rfl, a, ha, rfl⟩
    have ha2 : a = g[i] := by
      rw [List.getElem?_eq_getElem hi] at ha
      exact (Option.some.inj ha).symm
    subst ha2
    have hc := List.getElem_mem hi
    refine ⟨rfl, ?_⟩
    conv => whnf
    refine hs g[i] _ _ hc kk fun H4 k4 => ?_
    conv => whnf
    intro J A
    have hh := hf _ hc
    refine inn_i A (fun j H' => ∃ ys, Kp [] H1 H' ∧ H' D = some (.lst (xs ++ ys)) ∧ Paired (pairP H') (xs ++ ys) (prF (g.take i) f ++ ((f g[i]).take j).map fun b => ([g[i]], [b])) ∧ ys.length = j) ?_ ?_ ?_ ?_
    · exact ⟨[], kk.trans k4, by rw [List.append_nil]; exact k4.get0 hDx, by rw [List.append_nil, List.take_zero, List.map_nil, List.append_nil]; exact prP_kp hp k4, rfl⟩
    · exact fun _ _ _ _ => trivial
    · rintro H' ⟨ys, k1, d1, p1, l1⟩
      have e : (f g[i]).take (tl (S (f g[i]))).length = f g[i] := List.take_length
      have l1 : ys.length = (f g[i]).length := l1
      rw [e] at p1
      refine ⟨xs ++ ys, k1, d1, ?_, by rw [List.length_append]; omega⟩
      rw [List.take_succ_eq_append_getElem hi]
      show Paired _ _ ((g.take i ++ [g[i]]).flatMap _)
      rw [List.flatMap_append]
      simpa using p1
    · rintro j z H' H'' hj ⟨ys, k1, d1, p1, l1⟩ ⟨rfl, c', hc', rfl⟩
      have hj : j < (f g[i]).length := hj
      have hc2 : c' = (f g[i])[j] := by
        have hc' : (f g[i])[j]? = some c' := hc'
        rw [List.getElem?_eq_getElem hj] at hc'
        exact (Option.some.inj hc').symm
      subst hc2
      refine ⟨rfl, ?_⟩
      repeat' ac_rfl
      all_goals (try (conv => whnf))
      rename_i r hr
      have d2 := upd_fr (o' := .tup [V.str (S [g[i]]), V.str (S [(f g[i])[j]])]) hr d1
      have k2 := k1.new (o := .tup [V.str (S [g[i]]), V.str (S [(f g[i])[j]])]) hr
      refine ⟨xs ++ ys, d2, by rw [List.length_append, sizeLine_eq]; omega, ys ++ [.ref r], k2.own hD, by rw [← List.append_assoc]; exact upd_at, ?_, by rw [List.length_append, l1]; rfl⟩
      rw [List.take_succ_eq_append_getElem hj, List.map_append, ← List.append_assoc, ← List.append_assoc]
      exact papp (prP_lst (prP_kp p1 (Kp.rfl'.new hr)) d2) (.cons ⟨r, rfl, upd_off (ne_none d1 hr).symm upd_at⟩ .nil)
  · rintro D H' hD ⟨xs, kk, hDx, hp, hl⟩
    rw [List.take_length] at hp
    exact q D xs H' hD kk hDx hp

theorem rd_Table_full {K : PySem.W.Frag} {mg : Str → Option Value} (T : Tx K mg) : ∀ vs H Q E, sp_Table_full K vs H Q E → t_Table_full K (WD E) (EndD Q) (start ["cls", "alphabet", "told", "out"] vs) H := by
  intro vs H Q E h
  replace h := h.out
  obtain ⟨A, dA, l, v, rfl, hA, hl, q1⟩ := h
  have T0 := T
  cases T
  have nd := sg_nd hl
  have hgl := sg_len hl
  have hgl2 : (sg l).length ≤ 5 := hgl.2
  repeat' ac_rfl
  all_goals (try (conv => whnf))
  refine lc2_said (g := sg l) (f := fun _ => sg l) hgl.2 (fun _ _ => hgl.2) ?_ ?_
  · intro c H' Q' hc kk hQ
    have hA' := kk.get0 hA
    repeat' ac_rfl
    all_goals (try (conv => whnf))
    exact hQ _ Kp.rfl'
  · intro D ys H' hD kk hDD hp
    have hA' := kk.get0 hA
    repeat' ac_rfl
    all_goals (try (conv => whnf))
    rename_i y dy hy hdy hne
    have k2 : Kp [] H' (upd (upd H' dy (.own y)) y (.ins (He.ga K "Table") dy [])) := (Kp.rfl'.new hdy).own hy
    have hi : ∀ c ∈ sg l, io (sg l) (sg l) = sg l := fun c hc => io_self
    refine i_Table_init upd_at (k2.get0 hA') hl (k2.get0 hDD) (prP_kp hp k2) (by have := prF_len (g := sg l) (f := fun _ => sg l) (fun _ _ => hgl.2); omega) prF_small (fun _ H2 k3 ht => ?_) (fun k e => by rw [bad_at (f := fun _ => sg l) hi] at e; cases e)
    rw [cols_at (f := fun _ => sg l) nd hi] at ht
    exact ⟨rfl, q1 y H2 (kk.trans (Kp.made hy hdy k3)) ht⟩


theorem rd_Table_empty {K : PySem.W.Frag} {mg : Str → Option Value} (T : Tx K mg) : ∀ vs H Q E, sp_Table_empty K vs H Q E → t_Table_empty K (WD E) (EndD Q) (start ["cls", "alphabet"] vs) H := by
  intro vs H Q E h
  replace h := h.out
  obtain ⟨A, dA, l, v, rfl, hA, hl, q1⟩ := h
  have T0 := T
  cases T
  repeat' ac_rfl
  all_goals (try (conv => whnf))
  rename_i D hD y dy hy hdy hne
  have k0 : Kp [] H (upd H D (.lst [])) := Kp.rfl'.new hD
  have k2 : Kp [] (upd H D (.lst [])) (upd (upd (upd H D (.lst [])) dy (.own y)) y (.ins (He.ga K "Table") dy [])) := (Kp.rfl'.new hdy).own hy
  refine i_Table_init (R := []) upd_at (k2.get0 (k0.get0 hA)) hl (k2.get0 upd_at) .nil (by decide) (fun _ z => nomatch z) (fun _ H2 k3 ht => ?_) (fun k e => nomatch e)
  rw [cols_nil] at ht
  exact ⟨rfl, q1 y H2 (k0.trans (Kp.made hy hdy k3)) ht⟩

theorem okC_map {g : List Nat} {f : Nat → List Nat} (h : ∀ c ∈ g, io g (f c) = f c) : okC g (g.map f) := ⟨List.length_map _, fun t ht => by
  obtain ⟨c, hc, rfl⟩ := List.mem_map.mp ht
  exact h c hc⟩
theorem map_txs {f : Nat → List Nat} {g : List Nat} : (g.map fun c => V.str (S (f c))) = txs (g.map f) := by rw [txs, List.map_map]; rfl
theorem io_nil {g : List Nat} : io g [] = [] := List.filter_eq_nil_iff.mpr fun x hx => by simp

theorem rd_l_named {K : PySem.W.Frag} {mg : Str → Option Value} (T : Tx K mg) : ∀ vs H Q E, sp_l_named K vs H Q E → t_l_named K (WD E) (EndD Q) (start ["_law_alphabet", "_law_signs_here", "_law_sign"] vs) H := by
  intro vs H Q E h
  replace h := h.out
  obtain ⟨A, dA, l, v, rfl, hA, hl, q1⟩ := h
  have T0 := T
  cases T
  have nd := sg_nd hl
  have hsl := sg_len hl
  have hgl : (tl (S (sg l))).length ≤ 5 := hsl.2
  have hgl2 : (sg l).length ≤ 5 := hsl.2
  repeat' ac_rfl
  all_goals (try (conv => whnf))
  refine i_Table_identity hA hl fun t1 H1 k1 ht1 => ?_
  have hA1 := k1.get0 hA
  repeat' ac_rfl
  all_goals (try (conv => whnf))
  refine lcp_K0 (l := sg l) (r := fun c => V.str (S [c])) rfl (fun k H x H' z => z) (fun _ _ => trivial) (fun _ => true) (fun c => .str (S [c])) (by omega) (fun _ _ _ _ _ hQ => hQ _ Kp.rfl') (fun _ _ _ _ _ _ hQ => hQ _ Kp.rfl') (fun _ => rfl) fun D1 H2 hD1 k2 hDD1 => ?_
  rw [List.filter_eq_self.mpr (fun _ _ => rfl), map_txs (f := fun c => [c])] at hDD1
  have hA2 := k2.get0 hA1
  have ht2 := ht1.kp k2
  repeat' ac_rfl
  all_goals (try (conv => whnf))
  refine i_l_is ht2 hA2 hl hDD1 (okC_map fun c hc => io_one nd hc) fun H3 k3 => ?_
  have hA3 := k3.get0 hA2
  repeat' ac_rfl
  all_goals (try (conv => whnf))
  refine i_Table_full hA3 hl fun t4 H4 k4 ht4 => ?_
  have hA4 := k4.get0 hA3
  repeat' ac_rfl
  all_goals (try (conv => whnf))
  refine lcp_K0 (l := sg l) (r := fun c => V.str (S [c])) rfl (fun k H x H' z => z) (fun _ _ => trivial) (fun _ => true) (fun c => .str (S (sg l))) (by omega) (fun _ _ _ _ _ hQ => hQ _ Kp.rfl') (fun _ _ _ _ _ _ hQ => hQ _ Kp.rfl') (fun _ => rfl) fun D5 H5 hD5 k5 hDD5 => ?_
  rw [List.filter_eq_self.mpr (fun _ _ => rfl), map_txs (f := fun _ => sg l)] at hDD5
  have hA5 := k5.get0 hA4
  have ht5 := ht4.kp k5
  repeat' ac_rfl
  all_goals (try (conv => whnf))
  refine i_l_is ht5 hA5 hl hDD5 (okC_map fun c hc => io_self) fun H6 k6 => ?_
  have hA6 := k6.get0 hA5
  repeat' ac_rfl
  all_goals (try (conv => whnf))
  refine i_Table_empty hA6 hl fun t7 H7 k7 ht7 => ?_
  have hA7 := k7.get0 hA6
  repeat' ac_rfl
  all_goals (try (conv => whnf))
  refine lcp_K0 (l := sg l) (r := fun c => V.str (S [c])) rfl (fun k H x H' z => z) (fun _ _ => trivial) (fun _ => true) (fun c => .str (S [])) (by omega) (fun _ _ _ _ _ hQ => hQ _ Kp.rfl') (fun _ _ _ _ _ _ hQ => hQ _ Kp.rfl') (fun _ => rfl) fun D8 H8 hD8 k8 hDD8 => ?_
  rw [List.filter_eq_self.mpr (fun _ _ => rfl), map_txs (f := fun _ => [])] at hDD8
  have hA8 := k8.get0 hA7
  have ht8 := ht7.kp k8
  repeat' ac_rfl
  all_goals (try (conv => whnf))
  refine i_l_is ht8 hA8 hl hDD8 (okC_map fun c hc => io_nil) fun H9 k9 => ?_
  exact q1 _ ((((((((k1.trans k2).trans k3).trans k4).trans k5).trans k6).trans k7).trans k8).trans k9)


theorem rd_l_bag {K : PySem.W.Frag} {mg : Str → Option Value} (T : Tx K mg) : ∀ vs H Q E, sp_l_bag K vs H Q E → t_l_bag K (WD E) (EndD Q) (start ["_law_script", "_law_great", "_law_cell", "_law_small"] vs) H := by
  intro vs H Q E h
  replace h := h.out
  obtain ⟨p, ob, ns, rfl, hp, h1, q1⟩ := h
  have T0 := T
  cases T
  have hl := cut_len ns none (some 63)
  repeat' ac_rfl
  all_goals (try (conv => whnf))
  rename_i p' hp'
  rw [cut_map]
  refine lcp_A (r := V.int) upd_at (fun x => decide (1000000000000000000 < x)) (fun x => .int (x - 1000000000000000000)) (by omega) ?_ ?_ (fun _ => rfl) ?_
  · rintro x D _ Q' hD hx ⟨ys, rfl⟩ hQ
    repeat' ac_rfl
    all_goals (try (conv => whnf))
    exact hQ
  · rintro x D _ Q' hD hx hf ⟨ys, rfl⟩ hQ
    repeat' ac_rfl
    all_goals (try (conv => whnf))
    exact hQ
  · intro D hD
    repeat' ac_rfl
    all_goals (try (conv => whnf))
    rename_i p2 hp2
    rw [cut_map]
    refine lcp_A (r := V.int) upd_at (fun x => decide (x ≤ 1000000000000000000)) (fun x => .int (x % 2147483647)) (by omega) ?_ ?_ (fun _ => rfl) ?_
    · rintro x D _ Q' hD hx ⟨ys, rfl⟩ hQ
      repeat' ac_rfl
      all_goals (try (conv => whnf))
      exact hQ
    · rintro x D _ Q' hD hx hf ⟨ys, rfl⟩ hQ
      repeat' ac_rfl
      all_goals (try (conv => whnf))
      exact hQ
    · intro D2 hD2
      repeat' ac_rfl
      all_goals (try (conv => whnf))
      rename_i B hB
      have k1 := Kp.rfl' (F := []) (H := H) |>.new (o := .lst ((cut ns none (some 63)).map V.int)) hp'
      have k2 := k1.new (o := .lst (((cut ns none (some 63)).filter fun x => decide (1000000000000000000 < x)).map fun x => V.int (x - 1000000000000000000))) hD
      have k3 := k2.new (o := .lst ((cut ns none (some 63)).map V.int)) hp2
      have k4 := k3.new (o := .lst (((cut ns none (some 63)).filter fun x => decide (x ≤ 1000000000000000000)).map fun x => V.int (x % 2147483647))) hD2
      have f1 := List.length_filter_le (fun x => decide ((1000000000000000000 : Int) < x)) (cut ns none (some 63))
      have f2 := List.length_filter_le (fun x => decide (x ≤ (1000000000000000000 : Int))) (cut ns none (some 63))
      refine q1 B D D2 _ (k4.new hB) (k4.none hB) (k1.none hD) (k3.none hD2) ⟨11, ((cut ns none (some 63)).filter fun x => decide ((1000000000000000000 : Int) < x)).map (fun x => x - 1000000000000000000), ((cut ns none (some 63)).filter fun x => decide (x ≤ (1000000000000000000 : Int))).map (fun x => x % 2147483647), upd_at, ?_, ?_, ?_, ?_, ?_, ?_, ?_, by decide⟩
      · refine upd_fr hB (upd_fr hD2 (upd_fr hp2 (upd_at.trans ?_)))
        rw [cel, List.map_map]; rfl
      · refine upd_fr hB (upd_at.trans ?_)
        rw [cel, List.map_map]; rfl
      · rw [List.length_map]; omega
      · rw [List.length_map]; omega
      · exact ne_none (upd_fr hD2 (upd_fr hp2 upd_at)) hB
      · exact ne_none upd_at hB
      · exact (ne_none (upd_fr hp2 upd_at) hD2).symm

theorem sub_er {po : List Nat} {j : Nat} : cut po none (some (j : Int)) ++ cut po (some ((j : Int) + 1)) none = po.eraseIdx j := by
  rw [cut_to, cut_fr1, List.eraseIdx_eq_take_drop_succ]
theorem pop_perm {α : Type} {l po : List α} {j : Nat} (h : j < po.length) : ((l ++ [po[j]]) ++ po.eraseIdx j).Perm (l ++ po) := by
  rw [List.append_assoc]
  refine List.Perm.append_left l ?_
  rw [List.eraseIdx_eq_take_drop_succ]
  refine (List.perm_middle (a := po[j]) (l₁ := po.take j) (l₂ := po.drop (j + 1))).symm.trans ?_
  rw [← List.drop_eq_getElem_cons h, List.take_append_drop]
theorem names_ok {l v po : List Nat} {c : Nat} (hz : 1 ≤ c ∧ c ≤ 4) (ll : l.length = c) (pm : (l ++ po).Perm AZ) (vn : v.Nodup) (vs : ∀ x ∈ v, x ∈ l) : good l v := by
  have nd := pm.nodup_iff.mpr (by decide : AZ.Nodup)
  exact ⟨badL_ok (by omega) (by omega) (List.nodup_append.mp nd).1 fun x hx => pm.mem_iff.mp (List.mem_append_left _ hx), badV_ok vn vs⟩

theorem rd_l_names {K : PySem.W.Frag} {mg : Str → Option Value} (T : Tx K mg) : ∀ vs H Q E, sp_l_names K vs H Q E → t_l_names K (WD E) (EndD Q) (start ["_law_bag_here", "_law_count", "_law_rest", "_law_letters", "_law_vowels", "_law_k", "_law_at"] vs) H := by
  intro vs H Q E h
  replace h := h.out
  obtain ⟨b, g, s, n, c, rfl, hb, hk, hz, q1⟩ := h
  have T0 := T
  cases T
  repeat' ac_rfl
  all_goals (try (conv => whnf))
  refine loop_r (fun j σ H' => Sd (∃ (po l v : List Nat) (n' : Int) (v5 v6 : Option V), σ = [some (.ref b), some (.int c), some (.str (S po)), some (.str (S l)), some (.str (S v)), v5, v6] ∧ Kp [b, g] H H' ∧ bx H' b g s n' ∧ n ≤ n' ∧ n' ≤ n + 2 * j ∧ po.length + j = 26 ∧ l.length = j ∧ (l ++ po).Perm AZ ∧ v.Nodup ∧ ∀ x ∈ v, x ∈ l)) ?_ ?_ ?_
  · exact sd_i ⟨AZ, [], [], n, none, none, rfl, Kp.rfl', hb, by omega, by omega, rfl, rfl, .refl _, .nil, fun _ z => nomatch z⟩
  · rintro j σ H' hi hP
    obtain ⟨po, l, v, n', v5, v6, rfl, kk, b1, k1, k2, pl, ll, pm, vn, vs⟩ := sd_e hP
    have hj : j < c := by omega
    have al : ∀ {j : Nat} (h : j < po.length), po[j] ∈ l ++ [po[j]] := fun h => by simp
    have nn : ∀ {j : Nat} (h : j < po.length), ¬ po[j] ∈ v := fun h z => by
      have nd := pm.nodup_iff.mpr (by decide : AZ.Nodup)
      exact (List.nodup_append.mp nd).2.2 _ (vs _ z) _ (List.getElem_mem h) rfl
    have mv : ∀ x y, x ∈ v → x ∈ l ++ [y] := fun x y hx => List.mem_append_left _ (vs x hx)
    have hvl : v.length ≤ l.length := nd_len vn vs
    repeat' ac_rfl
    all_goals (try (conv => whnf))
    · rename_i r1 H1 r10 r11 kk1 b2 i hi1 e1 r2 H2 r20 r21 kk2 b3 x0 i2 hi2 e2
      clear r20 r21
      obtain rfl : i = i2 := by omega
      obtain rfl := e1
      refine sd_i ⟨po.eraseIdx i, l ++ [po[i]], po[i] :: v, _, _, _, by rw [← sub_er]; rfl, (kk.trans kk1).trans kk2, b3, by omega, by omega, ?_, ?_, (pop_perm hi1).trans pm, List.nodup_cons.mpr ⟨nn hi1, vn⟩, fun x hx => ?_⟩
      · have hi0 : i < po.length := hi1
        rw [List.length_eraseIdx_of_lt hi0]; omega
      · rw [List.length_append, ll]; rfl
      · rcases List.mem_cons.mp hx with hx | hx
        · rw [hx]; exact al hi1
        · exact mv _ _ hx
    · rename_i r1 H1 r10 r11 kk1 b2 i hi1 e1 r2 H2 r20 r21 kk2 b3 x0
      obtain rfl := e1
      refine sd_i ⟨po.eraseIdx i, l ++ [po[i]], v, _, _, _, by rw [← sub_er]; rfl, (kk.trans kk1).trans kk2, b3, by omega, by omega, ?_, ?_, (pop_perm hi1).trans pm, vn, fun x hx => mv _ _ hx⟩
      · have hi0 : i < po.length := hi1
        rw [List.length_eraseIdx_of_lt hi0]; omega
      · rw [List.length_append, ll]; rfl
  · rintro σ H' hP
    obtain ⟨po, l, v, n', v5, v6, rfl, kk, b1, k1, k2, pl, ll, pm, vn, vs⟩ := sd_e hP
    repeat' ac_rfl
    all_goals (try (conv => whnf))
    rename_i p hp
    have hpn := b1.nn hp
    have h0 : H p = none := by
      cases e : H p with
      | none => rfl
      | some o => rw [kk.get2 e hpn.1 hpn.2.1] at hp; cases hp
    exact q1 p l v n' _ (names_ok hz (by omega) pm vn vs) (by omega) (by nofun) k1 (by omega) (b1.off hpn) h0 upd_at


theorem rd_l_signs {K : PySem.W.Frag} {mg : Str → Option Value} (T : Tx K mg) : ∀ vs H Q E, sp_l_signs K vs H Q E → t_l_signs K (WD E) (EndD Q) (start ["_law_letters", "_law_one"] vs) H := by
  intro vs H Q E h
  replace h := h.out
  obtain ⟨l, rfl, h1, q1⟩ := h
  have T0 := T
  cases T
  have hl : (tl (S l)).length = l.length := rfl
  repeat' ac_rfl
  all_goals (try (conv => whnf))
  refine lcp_T (fun c => .str (S [c])) (by omega) ?_ (fun _ => rfl) ?_
  · rintro c D _ Q' hD hc ⟨ys, rfl⟩ hQ
    repeat' ac_rfl
    all_goals (try (conv => whnf))
    exact hQ
  · intro D hD
    repeat' ac_rfl
    all_goals (try (conv => whnf))
    refine sgl_i (l := l) ⟨by omega, fun p hp => ?_⟩
    have hsl := srt_len l
    repeat' ac_rfl
    all_goals (try (conv => whnf))
    exact q1 _ ((Kp.rfl'.new hD).new hp)


theorem rd_all_different {K : PySem.W.Frag} {mg : Str → Option Value} (T : Tx K mg) : ∀ vs H Q E, sp_all_different K vs H Q E → t_all_different K (WD E) (EndD Q) (start ["string"] vs) H := by
  intro vs H Q E h
  replace h := h.out
  obtain ⟨l, rfl, h1, q⟩ := h
  repeat' ac_rfl
  all_goals (conv => whnf)
  exact q


theorem rd_Alphabet_init {K : PySem.W.Frag} {mg : Str → Option Value} (T : Tx K mg) : ∀ vs H Q E, sp_Alphabet_init K vs H Q E → t_Alphabet_init K (WD E) (EndD Q) (start ["self", "letters", "vowels", "foreign", "sign"] vs) H := by
  intro vs H Q E h
  replace h := h.out
  obtain ⟨a, dx, l, v, rfl, ha, h1, h2, q1, q2, q3⟩ := h
  cases T
  have g1 : (tl (S l)).length < 64 := h1
  have g2 : (tl (S v)).length < 64 := h2
  conv => whnf
  refine lcp_f (fun c => !decide (c ∈ AZ)) (by omega) ?_ ?_ (fun _ => rfl) ?_
  · rintro c D _ Q' hD hc ⟨xs, rfl⟩ q
    exact q
  · intro c H' Q' q
    exact q
  intro D hD
  repeat' ac_rfl
  all_goals (try (conv => whnf))
  rotate_left 1
  · rename_i d hd; exact q1 (badL4 (by assumption)) _ d (Kp.rfl'.new hD) hd
  · rename_i d hd; exact q1 (badL3 (by assumption)) _ d (Kp.rfl'.new hD) hd
  · rename_i d hd; exact q1 (badL2 (by assumption)) _ d (Kp.rfl'.new hD) hd
  · rename_i d hd; exact q1 (badL1 (by assumption)) _ d (Kp.rfl'.new hD) hd
  have hL : badL l = false := badL0 (by assumption) (by assumption) (by assumption) (by assumption)
  refine lcp_f (fun c => !decide (c ∈ l)) (by omega) ?_ ?_ (fun _ => rfl) ?_
  · rintro c D _ Q' hD hc ⟨xs, rfl⟩ q
    exact q
  · intro c H' Q' q
    exact q
  intro D2 hD2
  repeat' ac_rfl
  all_goals (try (conv => whnf))
  rotate_left 1
  · rename_i d hd; exact q2 hL (badV2 (by assumption)) _ d (by nofun) hd
  · rename_i d hd; exact q2 hL (badV1 (by assumption)) _ d (by nofun) hd
  have hV : badV l v = false := badV0 (by assumption) (by assumption)
  have q3 := q3 hL hV
  refine lcp_l (by contradiction) (fun c => !decide (c ∈ v)) (by bv_omega) ?_ ?_ (fun _ => rfl) ?_
  · rintro c D _ Q' hD hc ⟨xs, rfl⟩ q
    exact q
  · intro c H' Q' q
    exact q
  intro D3 hD3
  have hfl : ((srt (tl (S l))).filter fun c => !decide (c ∈ v)).length ≤ 1000000 := Nat.le_trans (List.length_filter_le _ _) (by bv_omega)
  repeat' ac_rfl
  all_goals (try (conv => whnf))
  exact q3 _ (by nofun) (upd_at.trans rfl)

theorem low32 {l v : List Nat} (hl : good l v) : ∀ c ∈ sg l, c ≠ 32 := fun c hc => by
  rcases List.mem_cons.mp hc with rfl | hc
  · decide
  · have h1 := (badL_inv hl.1).2.2.2 c ((srt_perm l).mem_iff.mp hc)
    have h3 : ∀ c ∈ AZ, c ≠ 32 := by decide
    exact h3 c h1
theorem went_take (c : Nat) (t : List Nat) : (went c t).take 2 = [c, 62] ∧ (went c t).drop 2 = if t = [] then [46] else t := ⟨rfl, rfl⟩
theorem went_rgt {G : List Nat} {c : Nat} {t : List Nat} (h : io G t = t) : rgt G c (went c t) = true := by
  obtain ⟨h1, h2⟩ := went_take c t
  refine rgt_t h1 ?_ ?_
  · rw [h2]; split
    · decide
    · assumption
  · rw [h2]; split
    · exact .inl rfl
    · exact .inr h.symm
theorem went_col {G : List Nat} {c : Nat} {t : List Nat} (g6 : ∀ c ∈ G, c ≠ 46) (h : io G t = t) : colE (went c t) = t := by
  obtain ⟨h1, h2⟩ := went_take c t
  unfold colE
  rw [h2]
  by_cases e : t = []
  · rw [if_pos e, if_pos rfl, e]
  · rw [if_neg e, if_neg]
    intro z
    rw [z] at h
    have : (46 : Nat) ∈ io G [46] := by rw [h]; exact List.mem_singleton.mpr rfl
    exact g6 46 (io_sub this) rfl
theorem rdx_wents {G : List Nat} (g6 : ∀ c ∈ G, c ≠ 46) : ∀ (cs : List Nat) (cols : List (List Nat)) (i : Nat), cols.length = cs.length → (∀ t ∈ cols, io G t = t) → rdx G cs (wents cs cols) i = none ∧ (wents cs cols).map colE = cols
  | [], [], _, _, _ => ⟨rfl, rfl⟩
  | [], _ :: _, _, h, _ => nomatch h
  | _ :: _, [], _, h, _ => nomatch h
  | c :: cs, t :: cols, i, h, hi => by
    obtain ⟨h1, h2⟩ := rdx_wents g6 cs cols (i + 1) (Nat.succ.inj h) fun x hx => hi x (List.mem_cons_of_mem _ hx)
    have ht := hi t List.mem_cons_self
    refine ⟨?_, ?_⟩
    · show (if rgt G c (went c t) = true then rdx G cs (wents cs cols) (i + 1) else _) = none
      rw [if_pos (went_rgt ht)]; exact h1
    · show colE (went c t) :: (wents cs cols).map colE = _
      rw [went_col g6 ht, h2]
theorem ents_wents {G : List Nat} {cols : List (List Nat)} (hg : ∀ c ∈ G, c ≠ 32) (h0 : 0 < G.length) (hC : okC G cols) : ents (TL.joinL [32] (wents G cols)) = wents G cols := by
  rw [show ents (TL.joinL [32] (wents G cols)) = splc 32 _ from spl1 32 _]
  refine splc_join ?_ fun y hy a ha => ?_
  · intro e
    have := wents_len (g := G) hC.n
    rw [e] at this
    simp only [List.length_nil] at this; omega
  · obtain ⟨⟨c, t⟩, ht, rfl⟩ := List.mem_map.mp hy
    have hz := List.of_mem_zip ht
    unfold went at ha
    rcases List.mem_append.mp ha with ha | ha
    · simp only [List.mem_cons, List.not_mem_nil, or_false] at ha
      rcases ha with rfl | rfl
      · exact hg _ hz.1
      · decide
    · split at ha
      · rw [List.mem_singleton.mp ha]; decide
      · exact hg _ ((hC.sub hz.2).2 a ha)
theorem joinL_len {m : Nat} {c : Nat} : ∀ {ys : List (List Nat)}, (∀ y ∈ ys, y.length ≤ m) → (TL.joinL [c] ys).length ≤ (m + 1) * ys.length
  | [], _ => Nat.zero_le _
  | [y], h => by
    have := h y List.mem_cons_self
    show y.length ≤ (m + 1) * 1; omega
  | y :: z :: ys, h => by
    have h1 := h y List.mem_cons_self
    have h2 := joinL_len (c := c) (ys := z :: ys) fun x hx => h x (List.mem_cons_of_mem _ hx)
    show (y ++ ([c] ++ TL.joinL [c] (z :: ys))).length ≤ _
    rw [List.length_append, List.length_append, List.length_cons (a := y), Nat.mul_succ]
    simp only [List.length_cons, List.length_nil] at h2 ⊢
    omega
/-- what is no list stays -/
def Kn (H H' : Hp) : Prop := ∀ q o, H q = some o → HO.isl o = false → H' q = some o
theorem Kn.ofF {H H' : Hp} {b g s : Addr} {n : Int} (h : bx H b g s n) (k : Kp [b, g] H H') : Kn H H' := fun q o e ho => k.get2 e (h.no e ho).1 (h.no e ho).2.1
theorem Kn.of0 {H H' : Hp} (k : Kp [] H H') : Kn H H' := fun q o e _ => k.get0 e
theorem Kn.trans {H H1 H2 : Hp} (a : Kn H H1) (b : Kn H1 H2) : Kn H H2 := fun q o e ho => b q o (a q o e ho) ho
theorem Kn.lst {H : Hp} {p : Addr} {xs : List V} {o : HO} (h : H p = some (.lst xs)) : Kn H (upd H p o) := fun q o' e ho => upd_off (fun z => by rw [z, h] at e; cases e; cases ho) e
theorem tabAt.kn {K : PySem.W.Frag} {H H' : Hp} {t A : Addr} {g : List Nat} {cols : List (List Nat)} (h : tabAt K H t A g cols) (k : Kn H H') : tabAt K H' t A g cols := by
  obtain ⟨d, c, p, xs, h1, h2, h3, h4⟩ := h.out
  exact ⟨d, c, p, xs, k _ _ h1 rfl, k _ _ h2 rfl, k _ _ h3 rfl, pmem h4 fun v a _ ⟨q, e, z⟩ => ⟨q, e, k _ _ z rfl⟩⟩
theorem prP_kn {H H' : Hp} {xs : List V} {R : List Pr2} (h : Paired (pairP H) xs R) (k : Kn H H') : Paired (pairP H') xs R := pmem h fun v a _ ⟨q, e, z⟩ => ⟨q, e, k _ _ z rfl⟩
theorem seg_l23 {K : PySem.W.Frag} {mg : Str → Option Value} (T0 : Tx K mg) {E : XK} {Q : VK} {sp b g s A dA P O T : Addr} {n c : Int} {l v : List Nat} {cols : List (List Nat)} {v3 v4 v5 v10 v12 v13 v14 : Option V} {H : Hp}
    (hb : bx H b g s n) (hk : n < 700000) (hc : 0 ≤ c ∧ c < 24) (hA : H A = some (alo K dA l v)) (hl : good l v) (hO : H O = some (.lst (txs cols))) (hC : okC (sg l) cols) (ht : tabAt K H T A (sg l) cols) (hOb : O ≠ b ∧ O ≠ g) (q1 : ∀ H', Q (.bl true) H') :
    t_law_23 K (WD E) (EndD Q) [some (.ref sp), some (.ref b), some (.int c), v3, v4, v5, some (.str (S (sg l))), some (.ref A), some (.ref P), some (.ref O), v10, some (.ref T), v12, v13, v14, none, none] H := by
  cases T0
  refine ⟨?_⟩
  have hsl := sg_len hl
  have hgl2 : (sg l).length ≤ 5 := hsl.2
  have hgl1 : 2 ≤ (sg l).length := hsl.1
  have lowg := sg_low hl
  have hct5 : ∀ t ∈ cols, t.length ≤ 5 := fun t h => Nat.le_trans (hC.sub h).1 hgl2
  have hl9 : (wents (sg l) cols).length = (sg l).length := wents_len hC.n
  have h59 := sum_le (wents_sum (g := sg l) fun t ht => hct5 t ht)
  have hj := joinL_len (c := 32) (wents_sum (g := sg l) fun t ht => hct5 t ht)
  obtain ⟨hr1, hr2⟩ := rdx_wents (G := sg l) (g46 hl) (sg l) cols 0 hC.n hC.i
  have he := ents_wents (low32 hl) (by omega) hC
  repeat' ac_rfl
  all_goals (try (conv => whnf))
  refine i_l_written hO ⟨hC.n, hgl2⟩ (fun t ht => Nat.lt_of_le_of_lt (hct5 t ht) (by decide)) fun e1 H1 k1 he1 hH1 => ?_
  have hA1 := k1.get0 hA
  repeat' ac_rfl
  all_goals (try (conv => whnf))
  refine ⟨wents (sg l) cols, rfl, ?_, ?_⟩
  · show _ + _ * 1 ≤ _
    omega
  repeat' ac_rfl
  all_goals (try (conv => whnf))
  refine i_Table_read hA1 hl (show (TL.joinL [32] (wents (sg l) cols)).length < 100000 by omega) (fun e0 t2 H2 k2 ht2 => ?_) (fun k e0 => by rw [he, hr1] at e0; cases e0)
  rw [he, hr2] at ht2
  have hA2 := k2.get0 hA1
  have ht3 := (ht.kp k1).kp k2
  obtain ⟨d4, c4, p4, xs4, y1, y2, y3, y4⟩ := ht2.out
  obtain ⟨d5, c5, p5, xs5, z1, z2, z3, z4⟩ := ht3.out
  repeat' ac_rfl
  all_goals (try (conv => whnf))
  refine i_Table_eq (v := v) (u := v) ht2 ht3 hA2 hA2 (hC.low lowg) (hC.low lowg) ?_
  rw [decide_eq_true ⟨rfl, rfl, rfl⟩]
  have he2 := k2.get0 hH1
  have b2 := (hb.kp k1).kp k2
  have hO2 := k2.get0 (k1.get0 hO)
  clear y1 y2 y3 y4 z1 z2 z3 z4
  repeat' ac_rfl
  all_goals (try (conv => whnf))
  refine ⟨wents (sg l) cols, rfl, ?_, ?_⟩
  · show _ + _ * 1 ≤ _
    omega
  repeat' ac_rfl
  all_goals (try (conv => whnf))
  refine i_l_reads hA2 hl (show (TL.joinL [32] (wents (sg l) cols)).length < 10000 by omega) fun H3 k3 => ?_
  have he3 := k3.get0 he2
  have hA3 := k3.get0 hA2
  have hO3 := k3.get0 hO2
  have b3 := b2.kp k3
  repeat' ac_rfl
  all_goals (try (conv => whnf))
  have ne1 := hb.nn he1
  refine i_l_changed b3 (by omega) hc he3 ⟨ne1.1, ne1.2.1⟩ ⟨hgl1, hgl2⟩ hl9 (fun y hy => ?_) fun p4 ss4 H4 l4 m4 k4 b4 h4 => ?_
  · have hz := wents_sum (g := sg l) (fun t ht => hct5 t ht) y hy
    obtain ⟨⟨c0, t0⟩, _, rfl⟩ := List.mem_map.mp hy
    refine ⟨?_, by omega⟩
    unfold went
    rw [List.length_append]
    by_cases hne : t0 = []
    · rw [if_pos hne]; exact Nat.le_refl 3
    · rw [if_neg hne]
      have := List.length_pos_iff.mpr hne
      simp only [List.length_cons, List.length_nil]; omega
  have hj4 := joinL_len (c := 32) m4
  have hs4 := sum_le m4
  repeat' ac_rfl
  all_goals (try (conv => whnf))
  refine ⟨ss4, rfl, ?_, ?_⟩
  · show _ + _ * 1 ≤ _
    omega
  have nA := b3.no hA3 rfl
  have hA4 := k4.get2 hA3 nA.1 nA.2.1
  have hO4 := k4.get2 hO3 hOb.1 hOb.2
  have ht4 := (ht3.kp k3).kn (Kn.ofF b3 k4)
  repeat' ac_rfl
  all_goals (try (conv => whnf))
  refine i_l_reads hA4 hl (show (TL.joinL [32] ss4).length < 10000 by omega) fun H5 k5 => ?_
  have hA5 := k5.get0 hA4
  have hO5 := k5.get0 hO4
  repeat' ac_rfl
  all_goals (try (conv => whnf))
  exact i_l_is (ht4.kp k5) hA5 hl hO5 hC fun H6 _ => q1 _
theorem okR_small {g : List Nat} {R : List Pr2} (h : okR g R) : ∀ p ∈ R, p.1.length < 100 ∧ p.2.length < 100 := fun p hp => by
  obtain ⟨a, b, _, _, rfl⟩ := h p hp
  exact ⟨(by decide : 1 < 100), (by decide : 1 < 100)⟩
theorem okR_tab {g : List Nat} {R : List Pr2} (h : okR g R) : badP g R 0 = none ∧ okC g (colsP g R) := by
  refine ⟨badP_no fun r hr => ?_, List.length_map _, fun t ht => ?_⟩
  · obtain ⟨a, b, ha, hb, rfl⟩ := h r hr
    exact ⟨decide_eq_true ha, decide_eq_true hb⟩
  · obtain ⟨c, _, rfl⟩ := List.mem_map.mp ht
    unfold io
    refine List.filter_congr fun x hx => decide_eq_decide.mpr ⟨fun z => ?_, fun z => ?_⟩
    · exact of_decide_eq_true (List.mem_filter.mp z).2
    · exact List.mem_filter.mpr ⟨hx, decide_eq_true z⟩
theorem seg_l18 {K : PySem.W.Frag} {mg : Str → Option Value} (T0 : Tx K mg) {E : XK} {Q : VK} {sp b g s A dA P O T : Addr} {n c bs : Int} {l v : List Nat} {cols : List (List Nat)} {xs : List V} {R : List Pr2} {v3 v5 v10 v12 : Option V} {H : Hp}
    (hb : bx H b g s n) (hk : n < 500000) (hc : 0 ≤ c ∧ c < 24) (hbs : 0 ≤ bs ∧ bs < 12) (hA : H A = some (alo K dA l v)) (hl : good l v) (hP : H P = some (.lst xs)) (hPb : P ≠ b ∧ P ≠ g) (hx : Paired (pairP H) xs R) (hR : okR (sg l) R) (hRn : R.length ≤ 40) (hO : H O = some (.lst (txs cols))) (hC : okC (sg l) cols) (ht : tabAt K H T A (sg l) cols) (hOb : O ≠ b ∧ O ≠ g) (q1 : ∀ H', Q (.bl true) H') :
    t_law_18 K (WD E) (EndD Q) [some (.ref sp), some (.ref b), some (.int c), v3, some (.int bs), v5, some (.str (S (sg l))), some (.ref A), some (.ref P), some (.ref O), v10, some (.ref T), v12, none, none, none, none] H := by
  have T1 := T0
  cases T0
  refine ⟨?_⟩
  have hsl := sg_len hl
  have hgl2 : (sg l).length ≤ 5 := hsl.2
  have hgl1 : 2 ≤ (sg l).length := hsl.1
  have lowg := sg_low hl
  obtain ⟨m, rfl⟩ := Int.eq_ofNat_of_zero_le hbs.1
  have sgc : ∀ c ∈ sg l, c = 45 ∨ c ∈ AZ := fun c hc => by
    rcases List.mem_cons.mp hc with rfl | hc
    · exact .inl rfl
    · exact .inr ((badL_inv hl.1).2.2.2 c ((srt_perm l).mem_iff.mp hc))
  repeat' ac_rfl
  all_goals (try (conv => whnf))
  refine i_l_pairs rfl hb (by omega) ⟨by omega, hgl2⟩ (by omega) fun p1 xs1 R1 n1 H1 hl1 hR1 k1 a1 a2 b1 hp1 hH1 hx1 => ?_
  have kn1 := Kn.ofF hb k1
  have hA1 := kn1 _ _ hA rfl
  have ht1 := ht.kn kn1
  have hO1 := k1.get2 hO hOb.1 hOb.2
  have hP1 := k1.get2 hP hPb.1 hPb.2
  have hxP1 := prP_kn hx kn1
  clear ht hA hO hP hx hb k1 kn1
  repeat' ac_rfl
  all_goals (try (conv => whnf))
  rename_i y dy hy hdy hne
  have k2 : Kp [] H1 (upd (upd H1 dy (.own y)) y (.ins (He.ga K "Table") dy [])) := (Kp.rfl'.new hdy).own hy
  obtain ⟨okb, okc⟩ := okR_tab hR1
  refine i_Table_init upd_at (k2.get0 hA1) hl (k2.get0 hH1) (prP_kp hx1 k2) (by omega) (okR_small hR1) (fun _ H2 k3 ht2 => ⟨rfl, ?_⟩) (fun k e => by rw [okb] at e; cases e)
  have k4 : Kp [] H1 H2 := Kp.made hy hdy k3
  have hH2 := k4.get0 hH1
  have hA2 := k4.get0 hA1
  have ht2' := ht1.kp k4
  have hO2 := k4.get0 hO1
  have hP2 := k4.get0 hP1
  have hxP2 := prP_kp hxP1 k4
  have hx2 := prP_kp hx1 k4
  have b2 := b1.kp k4
  clear ht1 hA1 hO1 hP1 hxP1 hx1 hH1 b1 k2 k3
  repeat' ac_rfl
  all_goals (try (conv => whnf))
  rename_i r3 H3 k5 hr3 hH3
  have hA3 := k5.get0 hA2
  have ht3' := ht2'.kp k5
  have hO3 := k5.get0 hO2
  have hP3 := k5.get0 hP2
  have hxP3 := prP_kp hxP2 k5
  have b3 := b2.kp k5
  have ht3 := ht2.kp k5
  clear ht2 ht2' hA2 hO2 hP2 hxP2 hx2 hH2 b2
  repeat' ac_rfl
  all_goals (try (conv => whnf))
  refine i_l_is ht3 hA3 hl hH3 okc fun H4 k6 => ?_
  have hA4 := k6.get0 hA3
  have ht4' := ht3'.kp k6
  have hO4 := k6.get0 hO3
  have hP4 := k6.get0 hP3
  have hxP4 := prP_kp hxP3 k6
  have b4 := b3.kp k6
  clear ht3 ht3' hA3 hO3 hP3 hxP3 b3 hH3
  repeat' ac_rfl
  all_goals (try (conv => whnf))
  refine i_l_strange b4 (by omega) hsl sgc fun x H5 s1 s2 s3 k7 b5 => ?_
  have kn7 := Kn.ofF b4 k7
  have hA5 := kn7 _ _ hA4 rfl
  have ht5 := ht4'.kn kn7
  have hO5 := k7.get2 hO4 hOb.1 hOb.2
  have hP5 := k7.get2 hP4 hPb.1 hPb.2
  have hxP5 := prP_kn hxP4 kn7
  clear ht4' hA4 hO4 hP4 hxP4 b4
  repeat' ac_rfl
  all_goals (try (conv => whnf))
  refine i_l_no_sign ht5 hA5 hC.n s2 s1 fun H6 k8 => ?_
  have hA6 := k8.get0 hA5
  have ht6 := ht5.kp k8
  have hO6 := k8.get0 hO5
  have hP6 := k8.get0 hP5
  have hxP6 := prP_kp hxP5 k8
  have b6 := b5.kp k8
  clear ht5 hA5 hO5 hP5 hxP5 b5
  repeat' ac_rfl
  all_goals (try (conv => whnf))
  refine i_l_no_pairs ht6 hl hC s2 s3 s1 fun H7 k9 => ?_
  have hA7 := k9.get0 hA6
  have ht7 := ht6.kp k9
  have hO7 := k9.get0 hO6
  have hP7 := k9.get0 hP6
  have hxP7 := prP_kp hxP6 k9
  have b7 := b6.kp k9
  clear ht6 hA6 hO6 hP6 hxP6 b6
  repeat' ac_rfl
  all_goals (try (conv => whnf))
  refine i_l_bad_pair b7 (by omega) hA7 hl hP7 hPb hxP7 hR hRn fun n8 H8 k10 c1 c2 b8 => ?_
  have kn10 := Kn.ofF b7 k10
  have hA8 := kn10 _ _ hA7 rfl
  have ht8 := ht7.kn kn10
  have hO8 := k10.get2 hO7 hOb.1 hOb.2
  clear ht7 hA7 hO7 hP7 hxP7 b7
  repeat' ac_rfl
  all_goals (try (conv => whnf))
  refine i_l_named hA8 hl fun H9 k11 => ?_
  have hA9 := k11.get0 hA8
  have ht9 := ht8.kp k11
  have hO9 := k11.get0 hO8
  have b9 := b8.kp k11
  clear ht8 hA8 hO8 b8
  repeat' ac_rfl
  all_goals (try (conv => whnf))
  exact seg_l23 T1 b9 (by omega) hc hA9 hl hO9 hC ht9 hOb q1
theorem seg_l11 {K : PySem.W.Frag} {mg : Str → Option Value} (T0 : Tx K mg) {E : XK} {Q : VK} {sp b g s A dA P O T L : Addr} {n c bs : Int} {l v : List Nat} {cols : List (List Nat)} {xs : List V} {R : List Pr2} {v3 v5 : Option V} {H : Hp}
    (hb : bx H b g s n) (hk : n < 400000) (hc : 0 ≤ c ∧ c < 24) (hbs : 0 ≤ bs ∧ bs < 12) (hA : H A = some (alo K dA l v)) (hl : good l v) (hP : H P = some (.lst xs)) (hPb : P ≠ b ∧ P ≠ g) (hx : Paired (pairP H) xs R) (hR : okR (sg l) R) (hRn : R.length ≤ 40) (hO : H O = some (.lst (txs cols))) (hC : okC (sg l) cols) (ht : tabAt K H T A (sg l) cols) (hOb : O ≠ b ∧ O ≠ g) (hL : H L = some (.lst xs)) (hLb : L ≠ b ∧ L ≠ g ∧ L ≠ s) (hLP : P ≠ L) (hLO : O ≠ L) (q1 : ∀ H', Q (.bl true) H') :
    t_law_11 K (WD E) (EndD Q) [some (.ref sp), some (.ref b), some (.int c), v3, some (.int bs), v5, some (.str (S (sg l))), some (.ref A), some (.ref P), some (.ref O), some (.ref L), some (.ref T), none, none, none, none, none] H := by
  have T1 := T0
  cases T0
  refine ⟨?_⟩
  have hsl := sg_len hl
  have hgl2 : (sg l).length ≤ 5 := hsl.2
  have hgl1 : 2 ≤ (sg l).length := hsl.1
  have lowg := sg_low hl
  have hxl := plen hx
  have hgl3 : (tl (S (sg l))).length = (sg l).length := rfl
  repeat' ac_rfl
  all_goals (try (conv => whnf))
  refine prs_refl hL hP hx (okR_low hR lowg) ?_
  obtain ⟨d4, c4, p4, xs4, y1, y2, y3, y4⟩ := ht.out
  repeat' ac_rfl
  all_goals (try (conv => whnf))
  clear y1 y2 y3 y4
  rename_i j1 hj1 e1 T2 hT2
  have k0 : Kp [] H (upd H T2 (.tup [V.str (S [45]), V.str (S [(tl (S (sg l)))[j1]])])) := Kp.rfl'.new hT2
  have hL0 := k0.get0 hL
  have kn0 : Kn H (upd (upd (upd H T2 (.tup [V.str (S [45]), V.str (S [(tl (S (sg l)))[j1]])])) L (.lst (xs ++ [V.ref T2]))) L (.lst (xs ++ [V.ref T2]).reverse)) := ((Kn.of0 k0).trans (Kn.lst hL0)).trans (Kn.lst upd_at)
  have b1 := ((hb.kp k0).off (o := .lst (xs ++ [V.ref T2])) hLb).off (o := .lst (xs ++ [V.ref T2]).reverse) hLb
  have hP1 := upd_off (o' := .lst (xs ++ [V.ref T2]).reverse) hLP (upd_off (o' := .lst (xs ++ [V.ref T2])) hLP (k0.get0 hP))
  have hO1 := upd_off (o' := .lst (xs ++ [V.ref T2]).reverse) hLO (upd_off (o' := .lst (xs ++ [V.ref T2])) hLO (k0.get0 hO))
  have ht1 := ht.kn kn0
  have hA1 := kn0 _ _ hA rfl
  have hx1 := prP_kn hx kn0
  generalize upd (upd (upd H T2 (.tup [V.str (S [45]), V.str (S [(tl (S (sg l)))[j1]])])) L (.lst (xs ++ [V.ref T2]))) L (.lst (xs ++ [V.ref T2]).reverse) = H1 at b1 hP1 hO1 ht1 hA1 hx1
  clear kn0 hL0 k0 hT2
  clear hb hP hO ht hA hx hL
  refine i_l_is ht1 hA1 hl hO1 hC fun H2 k2 => ?_
  have b2 := b1.kp k2
  have hP2 := k2.get0 hP1
  have hO2 := k2.get0 hO1
  have ht2 := ht1.kp k2
  have hA2 := k2.get0 hA1
  have hx2 := prP_kp hx1 k2
  clear b1 hP1 hO1 ht1 hA1 hx1
  obtain ⟨d4, c4, p4, xs4, y1, y2, y3, y4⟩ := ht2.out
  have hpl := prs_len (g := sg l) (cols := cols) fun t h => Nat.le_trans (hC.sub h).1 hgl2
  have hcn := hC.n
  repeat' ac_rfl
  all_goals (try (conv => whnf))
  clear y1 y2 y3 y4
  · rename_i p6 xs6 H6 k6 hp6 h6 pr6 p7 hp7
    have := plen pr6
    exact sd_i (lim_of (by omega))
  rename_i p6 xs6 H6 k6 hp6 h6 pr6 p7 hp7
  have k7 : Kp [] H2 (upd H6 p7 (.tup [V.str (S [45]), V.str (S [45])])) := k6.new hp7
  have k8 : Kp [] H2 (upd (upd (upd H6 p7 (.tup [V.str (S [45]), V.str (S [45])])) p6 (.lst (xs6 ++ [V.ref p7]))) p6 (.lst (xs6 ++ [V.ref p7]).reverse)) := (k7.own hp6).own hp6
  exact seg_l18 T1 (b2.kp k8) (by omega) hc hbs (k8.get0 hA2) hl (k8.get0 hP2) hPb (prP_kp hx2 k8) hR hRn (k8.get0 hO2) hC (ht2.kp k8) hOb q1
theorem seg_l7 {K : PySem.W.Frag} {mg : Str → Option Value} (T0 : Tx K mg) {E : XK} {Q : VK} {sp b g s A dA : Addr} {n c bs : Int} {l v : List Nat} {m : Nat} {v5 : Option V} {H : Hp}
    (hb : bx H b g s n) (hk : n < 300000) (hc : 0 ≤ c ∧ c < 24) (hm : m < 31) (hbs : 0 ≤ bs ∧ bs < 12) (hA : H A = some (alo K dA l v)) (hl : good l v) (q1 : ∀ H', Q (.bl true) H') :
    t_law_7 K (WD E) (EndD Q) [some (.ref sp), some (.ref b), some (.int c), some (.int m), some (.int bs), v5, some (.str (S (sg l))), some (.ref A), none, none, none, none, none, none, none, none, none] H := by
  have T1 := T0
  cases T0
  refine ⟨?_⟩
  have hsl := sg_len hl
  have hgl2 : (sg l).length ≤ 5 := hsl.2
  have hgl1 : 2 ≤ (sg l).length := hsl.1
  have lowg := sg_low hl
  repeat' ac_rfl
  all_goals (try (conv => whnf))
  refine i_l_pairs rfl hb (by omega) ⟨by omega, hgl2⟩ (by omega) fun p1 xs1 R1 n1 H1 hl1 hR1 k1 a1 a2 b1 hp1 hH1 hx1 => ?_
  have nP := hb.nn hp1
  have kn1 := Kn.ofF hb k1
  have hA1 := kn1 _ _ hA rfl
  clear hA hb k1 kn1
  repeat' ac_rfl
  all_goals (try (conv => whnf))
  rename_i r2 H2 k2 hr2 hH2 p3 hp3 y dy hy hdy hne
  have nO := b1.nn hr2
  have hx2 := prP_kp hx1 k2
  have hP2 := k2.get0 hH1
  have hA2 := k2.get0 hA1
  have b2 := b1.kp k2
  have nL := b2.nn hp3
  have k3 : Kp [] H2 (upd H2 p3 (.lst xs1)) := Kp.rfl'.new hp3
  have hL3 : upd H2 p3 (.lst xs1) p3 = some (.lst xs1) := upd_at
  have hPL : p1 ≠ p3 := ne_none hP2 hp3
  have hOL : r2 ≠ p3 := ne_none hH2 hp3
  generalize upd H2 p3 (.lst xs1) = H3 at k3 hL3 hy hdy
  have k4 : Kp [] H3 (upd (upd H3 dy (.own y)) y (.ins (He.ga K "Table") dy [])) := (Kp.rfl'.new hdy).own hy
  obtain ⟨okb, okc⟩ := okR_tab hR1
  refine i_Table_init upd_at (k4.get0 (k3.get0 hA2)) hl (k4.get0 hL3) (prP_kp hx2 (k3.trans k4)) (by omega) (okR_small hR1) (fun _ H4 k5 ht4 => ⟨rfl, ?_⟩) (fun k e => by rw [okb] at e; cases e)
  have k6 : Kp [] H3 H4 := Kp.made hy hdy k5
  have k7 : Kp [] H2 H4 := k3.trans k6
  exact seg_l11 T1 (b2.kp k7) (by omega) hc hbs (k7.get0 hA2) hl (k7.get0 hP2) ⟨nP.1, nP.2.1⟩ (prP_kp hx2 k7) hR1 (by omega) (k7.get0 hH2) okc ht4 ⟨nO.1, nO.2.1⟩ (k6.get0 hL3) nL hPL hOL q1

theorem rd_law {K : PySem.W.Frag} {mg : Str → Option Value} (T : Tx K mg) : ∀ vs H Q E, sp_law K vs H Q E → t_law K (WD E) (EndD Q) (start ["_law_script", "_law_bag_here", "_law_change", "_law_many", "_law_beside", "_law_names_here", "_law_signs_here", "_law_alphabet", "_law_pairs_here", "_law_outs_here", "_law_handed", "_law_table", "_law_told", "_law_more", "_law_strange_here", "_law_entries", "_law_written_here"] vs) H := by
  intro vs H Q E h
  replace h := h.out
  obtain ⟨p, ob, ns, rfl, hp, h1, q⟩ := h
  have T0 := T
  cases T
  repeat' ac_rfl
  all_goals (try (conv => whnf))
  refine i_l_bag hp h1 fun b g s H1 k1 hb hg hs bx1 => ?_
  repeat' ac_rfl
  all_goals (try (conv => whnf))
  rename_i ra H2 ra0 ra1 k2 b2 rb H3 rb0 rb1 k3 b3 rc H4 rc0 rc1 k4 b4 rd H5 rd0 rd1 k5 b5
  obtain ⟨m, rfl⟩ := Int.eq_ofNat_of_zero_le rd0
  refine i_l_names (c := 1 + m) (by omega) b5 (by omega) (by omega) fun r l v n7 H7 hgd hlen k7 n70 n71 b7 hr hr7 => ?_
  have hl4 : l.length ≤ 4 := (badL_inv hgd.1).2.1
  have hv4 := good_v hgd
  clear k1 k2 k3 k4 k5 k7 b2 b3 b4 b5
  repeat' ac_rfl
  all_goals (try (conv => whnf))
  rename_i H8 k8 A dA hA hdA hne
  refine g_Alphabet_init upd_at (by omega) (by omega) hgd.1 hgd.2 fun H9 k9 hA9 => ⟨rfl, ?_⟩
  have k89 : Kp [] H8 H9 := Kp.made hA hdA k9
  have b9 := (b7.kp k8).kp k89
  obtain ⟨mm, rfl⟩ := Int.eq_ofNat_of_zero_le rb0
  have hA9 : H9 A = some (alo K dA l v) := hA9
  exact seg_l7 T0 b9 (by omega) ⟨ra0, ra1⟩ (by omega) ⟨rc0, rc1⟩ hA9 hgd q

theorem law_in {K : PySem.W.Frag} {H : Hp} {a : Addr} {oj : Obj} {ns : List Int} {E : XK} (h : H a = some (.frz oj (.lst (ns.map V.int)))) (hl : ns.length ≤ 63) : sp_law K [.ref a] H (fun v _ => v = .bl true) E := by
  exact ⟨⟨a, oj, ns, rfl, h, by omega, fun _ => rfl⟩⟩

end Lw

set_option Elab.async false
set_option linter.all false
set_option maxRecDepth 100000
set_option maxHeartbeats 4000000
namespace Lw
open PySem PySem.Spec PyProof.Rows L2 Ta

theorem ex_BadAlphabet {w : World} {K : PySem.W.Frag} {mg : Str → Option Value} {base h : Heap} (X : K.In h) (G : h.Ns mainGlobals mg) (c : SaysX PP.main.file fa fn sn K) : Ex PP w K mg base "BadAlphabet" (He.ga K "BadAlphabet") ["part"] := by
  obtain ⟨F, fd, e1, e2, e3, e4, e5, SF⟩ := c.sup (P := PP) 0 (by decide +kernel) (d := sd_BadAlphabet) rfl
  obtain ⟨n1, n2, n3, n4, n5, n6, n7⟩ := F
  dsimp only at e1 e2 e3 e4 e5
  subst e1 e2 e3 e4 e5
  have S := sup_of (c.fact 57) (c.fact 58)
  refine ⟨⟨_, fd, ["self", "part"], ok_exc1 (hbd := by rfl) SF S.1 (show NdefX.NScope ["self", "part", "__class__"] ["self", "part"] ["__class__"] sd_BadAlphabet.scope from NdefX.nscope_by (by decide +kernel)) (free_of X G (c.fact 59)) (by rfl) (show sd_BadAlphabet.scope.names.lookup ("super" : Str) = some .globalImplicit by decide +kernel) (no_of' (c.fact 56)) (by decide +kernel) (by decide +kernel) (fun env => ⟨_, rfl⟩), S.2.1, S.2.2, ?_, glo_of X G (c.fact 60)⟩, oex_of (c.fact 57)⟩
  obtain ⟨cc, oc, od, an, dV, kV, doc, pm, ct, osl, hcl, rfl, lk, hD, _⟩ := SF.ex
  rcases hD with ⟨_, rfl⟩ | ⟨e, _⟩
  · exact .all fun us hl => match us, hl with | [_, _], _ => rfl
  · exact absurd rfl e
theorem ex_BadEntry {w : World} {K : PySem.W.Frag} {mg : Str → Option Value} {base h : Heap} (X : K.In h) (G : h.Ns mainGlobals mg) (c : SaysX PP.main.file fa fn sn K) : Ex PP w K mg base "BadEntry" (He.ga K "BadEntry") ["index"] := by
  obtain ⟨F, fd, e1, e2, e3, e4, e5, SF⟩ := c.sup (P := PP) 1 (by decide +kernel) (d := sd_BadEntry) rfl
  obtain ⟨n1, n2, n3, n4, n5, n6, n7⟩ := F
  dsimp only at e1 e2 e3 e4 e5
  subst e1 e2 e3 e4 e5
  have S := sup_of (c.fact 61) (c.fact 62)
  refine ⟨⟨_, fd, ["self", "index"], ok_exc1 (hbd := by rfl) SF S.1 (show NdefX.NScope ["self", "index", "__class__"] ["self", "index"] ["__class__"] sd_BadEntry.scope from NdefX.nscope_by (by decide +kernel)) (free_of X G (c.fact 59)) (by rfl) (show sd_BadEntry.scope.names.lookup ("super" : Str) = some .globalImplicit by decide +kernel) (no_of' (c.fact 54)) (by decide +kernel) (by decide +kernel) (fun env => ⟨_, rfl⟩), S.2.1, S.2.2, ?_, glo_of X G (c.fact 15)⟩, oex_of (c.fact 61)⟩
  obtain ⟨cc, oc, od, an, dV, kV, doc, pm, ct, osl, hcl, rfl, lk, hD, _⟩ := SF.ex
  rcases hD with ⟨_, rfl⟩ | ⟨e, _⟩
  · exact .all fun us hl => match us, hl with | [_, _], _ => rfl
  · exact absurd rfl e
theorem ex_BadPair {w : World} {K : PySem.W.Frag} {mg : Str → Option Value} {base h : Heap} (X : K.In h) (G : h.Ns mainGlobals mg) (c : SaysX PP.main.file fa fn sn K) : Ex PP w K mg base "BadPair" (He.ga K "BadPair") ["index"] := by
  obtain ⟨F, fd, e1, e2, e3, e4, e5, SF⟩ := c.sup (P := PP) 2 (by decide +kernel) (d := sd_BadPair) rfl
  obtain ⟨n1, n2, n3, n4, n5, n6, n7⟩ := F
  dsimp only at e1 e2 e3 e4 e5
  subst e1 e2 e3 e4 e5
  have S := sup_of (c.fact 63) (c.fact 64)
  refine ⟨⟨_, fd, ["self", "index"], ok_exc1 (hbd := by rfl) SF S.1 (show NdefX.NScope ["self", "index", "__class__"] ["self", "index"] ["__class__"] sd_BadPair.scope from NdefX.nscope_by (by decide +kernel)) (free_of X G (c.fact 59)) (by rfl) (show sd_BadPair.scope.names.lookup ("super" : Str) = some .globalImplicit by decide +kernel) (no_of' (c.fact 39)) (by decide +kernel) (by decide +kernel) (fun env => ⟨_, rfl⟩), S.2.1, S.2.2, ?_, glo_of X G (c.fact 16)⟩, oex_of (c.fact 63)⟩
  obtain ⟨cc, oc, od, an, dV, kV, doc, pm, ct, osl, hcl, rfl, lk, hD, _⟩ := SF.ex
  rcases hD with ⟨_, rfl⟩ | ⟨e, _⟩
  · exact .all fun us hl => match us, hl with | [_, _], _ => rfl
  · exact absurd rfl e
theorem ex_UnknownSign {w : World} {K : PySem.W.Frag} {mg : Str → Option Value} {base h : Heap} (X : K.In h) (G : h.Ns mainGlobals mg) (c : SaysX PP.main.file fa fn sn K) : Ex PP w K mg base "UnknownSign" (He.ga K "UnknownSign") ["sign"] := by
  obtain ⟨F, fd, e1, e2, e3, e4, e5, SF⟩ := c.sup (P := PP) 3 (by decide +kernel) (d := sd_UnknownSign) rfl
  obtain ⟨n1, n2, n3, n4, n5, n6, n7⟩ := F
  dsimp only at e1 e2 e3 e4 e5
  subst e1 e2 e3 e4 e5
  have S := sup_of (c.fact 65) (c.fact 66)
  refine ⟨⟨_, fd, ["self", "sign"], ok_exc1 (hbd := by rfl) SF S.1 (show NdefX.NScope ["self", "sign", "__class__"] ["self", "sign"] ["__class__"] sd_UnknownSign.scope from NdefX.nscope_by (by decide +kernel)) (free_of X G (c.fact 59)) (by rfl) (show sd_UnknownSign.scope.names.lookup ("super" : Str) = some .globalImplicit by decide +kernel) (no_of' (c.fact 37)) (by decide +kernel) (by decide +kernel) (fun env => ⟨_, rfl⟩), S.2.1, S.2.2, ?_, glo_of X G (c.fact 20)⟩, oex_of (c.fact 65)⟩
  obtain ⟨cc, oc, od, an, dV, kV, doc, pm, ct, osl, hcl, rfl, lk, hD, _⟩ := SF.ex
  rcases hD with ⟨_, rfl⟩ | ⟨e, _⟩
  · exact .all fun us hl => match us, hl with | [_, _], _ => rfl
  · exact absurd rfl e
theorem len_l_written {K : PySem.W.Frag} : ∀ vs H Q E, sp_l_written K vs H Q E → vs.length = 2 := by
  intro vs H Q E h
  replace h := h.out
  repeat (obtain ⟨_, h⟩ := h; try subst_vars)
  all_goals rfl
theorem len_in_order {K : PySem.W.Frag} : ∀ vs H Q E, sp_in_order K vs H Q E → vs.length = 2 := by
  intro vs H Q E h
  replace h := h.out
  repeat (obtain ⟨_, h⟩ := h; try subst_vars)
  all_goals rfl
theorem len_read_entry {K : PySem.W.Frag} : ∀ vs H Q E, sp_read_entry K vs H Q E → vs.length = 3 := by
  intro vs H Q E h
  replace h := h.out
  repeat (obtain ⟨_, h⟩ := h; try subst_vars)
  all_goals rfl
theorem len_is_sign {K : PySem.W.Frag} : ∀ vs H Q E, sp_is_sign K vs H Q E → vs.length = 2 := by
  intro vs H Q E h
  replace h := h.out
  repeat (obtain ⟨_, h⟩ := h; try subst_vars)
  all_goals rfl
theorem len_pairs_of {K : PySem.W.Frag} : ∀ vs H Q E, sp_pairs_of K vs H Q E → vs.length = 2 := by
  intro vs H Q E h
  replace h := h.out
  repeat (obtain ⟨_, h⟩ := h; try subst_vars)
  all_goals rfl
theorem len_Table_init {K : PySem.W.Frag} : ∀ vs H Q E, sp_Table_init K vs H Q E → vs.length = 3 := by
  intro vs H Q E h
  replace h := h.out
  repeat (obtain ⟨_, h⟩ := h; try subst_vars)
  all_goals rfl
theorem len_Table_read {K : PySem.W.Frag} : ∀ vs H Q E, sp_Table_read K vs H Q E → vs.length = 3 := by
  intro vs H Q E h
  replace h := h.out
  repeat (obtain ⟨_, h⟩ := h; try subst_vars)
  all_goals rfl
theorem len_Alphabet_eq {K : PySem.W.Frag} : ∀ vs H Q E, sp_Alphabet_eq K vs H Q E → vs.length = 2 := by
  intro vs H Q E h
  replace h := h.out
  repeat (obtain ⟨_, h⟩ := h; try subst_vars)
  all_goals rfl
theorem len_Table_eq {K : PySem.W.Frag} : ∀ vs H Q E, sp_Table_eq K vs H Q E → vs.length = 2 := by
  intro vs H Q E h
  replace h := h.out
  repeat (obtain ⟨_, h⟩ := h; try subst_vars)
  all_goals rfl
theorem len_l_right {K : PySem.W.Frag} : ∀ vs H Q E, sp_l_right K vs H Q E → vs.length = 3 := by
  intro vs H Q E h
  replace h := h.out
  repeat (obtain ⟨_, h⟩ := h; try subst_vars)
  all_goals rfl
theorem len_l_index {K : PySem.W.Frag} : ∀ vs H Q E, sp_l_index K vs H Q E → vs.length = 2 := by
  intro vs H Q E h
  replace h := h.out
  repeat (obtain ⟨_, h⟩ := h; try subst_vars)
  all_goals rfl
theorem len_l_integer {K : PySem.W.Frag} : ∀ vs H Q E, sp_l_integer K vs H Q E → vs.length = 1 := by
  intro vs H Q E h
  replace h := h.out
  repeat (obtain ⟨_, h⟩ := h; try subst_vars)
  all_goals rfl
theorem len_check_sign {K : PySem.W.Frag} : ∀ vs H Q E, sp_check_sign K vs H Q E → vs.length = 2 := by
  intro vs H Q E h
  replace h := h.out
  repeat (obtain ⟨_, h⟩ := h; try subst_vars)
  all_goals rfl
theorem len_Table_getitem {K : PySem.W.Frag} : ∀ vs H Q E, sp_Table_getitem K vs H Q E → vs.length = 2 := by
  intro vs H Q E h
  replace h := h.out
  repeat (obtain ⟨_, h⟩ := h; try subst_vars)
  all_goals rfl
theorem len_Table_contains {K : PySem.W.Frag} : ∀ vs H Q E, sp_Table_contains K vs H Q E → vs.length = 2 := by
  intro vs H Q E h
  replace h := h.out
  repeat (obtain ⟨_, h⟩ := h; try subst_vars)
  all_goals rfl
theorem len_Table_pairs {K : PySem.W.Frag} : ∀ vs H Q E, sp_Table_pairs K vs H Q E → vs.length = 1 := by
  intro vs H Q E h
  replace h := h.out
  repeat (obtain ⟨_, h⟩ := h; try subst_vars)
  all_goals rfl
theorem len_Table_len {K : PySem.W.Frag} : ∀ vs H Q E, sp_Table_len K vs H Q E → vs.length = 1 := by
  intro vs H Q E h
  replace h := h.out
  repeat (obtain ⟨_, h⟩ := h; try subst_vars)
  all_goals rfl
theorem len_Table_bool {K : PySem.W.Frag} : ∀ vs H Q E, sp_Table_bool K vs H Q E → vs.length = 1 := by
  intro vs H Q E h
  replace h := h.out
  repeat (obtain ⟨_, h⟩ := h; try subst_vars)
  all_goals rfl
theorem len_l_truth {K : PySem.W.Frag} : ∀ vs H Q E, sp_l_truth K vs H Q E → vs.length = 2 := by
  intro vs H Q E h
  replace h := h.out
  repeat (obtain ⟨_, h⟩ := h; try subst_vars)
  all_goals rfl
theorem len_Table_total {K : PySem.W.Frag} : ∀ vs H Q E, sp_Table_total K vs H Q E → vs.length = 1 := by
  intro vs H Q E h
  replace h := h.out
  repeat (obtain ⟨_, h⟩ := h; try subst_vars)
  all_goals rfl
theorem len_Table_exact {K : PySem.W.Frag} : ∀ vs H Q E, sp_Table_exact K vs H Q E → vs.length = 1 := by
  intro vs H Q E h
  replace h := h.out
  repeat (obtain ⟨_, h⟩ := h; try subst_vars)
  all_goals rfl
theorem len_written_entry {K : PySem.W.Frag} : ∀ vs H Q E, sp_written_entry K vs H Q E → vs.length = 2 := by
  intro vs H Q E h
  replace h := h.out
  repeat (obtain ⟨_, h⟩ := h; try subst_vars)
  all_goals rfl
theorem len_Table_str {K : PySem.W.Frag} : ∀ vs H Q E, sp_Table_str K vs H Q E → vs.length = 1 := by
  intro vs H Q E h
  replace h := h.out
  repeat (obtain ⟨_, h⟩ := h; try subst_vars)
  all_goals rfl
theorem len_l_is {K : PySem.W.Frag} : ∀ vs H Q E, sp_l_is K vs H Q E → vs.length = 3 := by
  intro vs H Q E h
  replace h := h.out
  repeat (obtain ⟨_, h⟩ := h; try subst_vars)
  all_goals rfl
theorem len_l_reads {K : PySem.W.Frag} : ∀ vs H Q E, sp_l_reads K vs H Q E → vs.length = 3 := by
  intro vs H Q E h
  replace h := h.out
  repeat (obtain ⟨_, h⟩ := h; try subst_vars)
  all_goals rfl
theorem len_l_take {K : PySem.W.Frag} : ∀ vs H Q E, sp_l_take K vs H Q E → vs.length = 2 := by
  intro vs H Q E h
  replace h := h.out
  repeat (obtain ⟨_, h⟩ := h; try subst_vars)
  all_goals rfl
theorem len_l_changed {K : PySem.W.Frag} : ∀ vs H Q E, sp_l_changed K vs H Q E → vs.length = 4 := by
  intro vs H Q E h
  replace h := h.out
  repeat (obtain ⟨_, h⟩ := h; try subst_vars)
  all_goals rfl
theorem len_l_pairs {K : PySem.W.Frag} : ∀ vs H Q E, sp_l_pairs K vs H Q E → vs.length = 3 := by
  intro vs H Q E h
  replace h := h.out
  repeat (obtain ⟨_, h⟩ := h; try subst_vars)
  all_goals rfl
theorem len_l_outs {K : PySem.W.Frag} : ∀ vs H Q E, sp_l_outs K vs H Q E → vs.length = 2 := by
  intro vs H Q E h
  replace h := h.out
  repeat (obtain ⟨_, h⟩ := h; try subst_vars)
  all_goals rfl
theorem len_l_strange {K : PySem.W.Frag} : ∀ vs H Q E, sp_l_strange K vs H Q E → vs.length = 2 := by
  intro vs H Q E h
  replace h := h.out
  repeat (obtain ⟨_, h⟩ := h; try subst_vars)
  all_goals rfl
theorem len_l_no_sign {K : PySem.W.Frag} : ∀ vs H Q E, sp_l_no_sign K vs H Q E → vs.length = 2 := by
  intro vs H Q E h
  replace h := h.out
  repeat (obtain ⟨_, h⟩ := h; try subst_vars)
  all_goals rfl
theorem len_l_no_pairs {K : PySem.W.Frag} : ∀ vs H Q E, sp_l_no_pairs K vs H Q E → vs.length = 3 := by
  intro vs H Q E h
  replace h := h.out
  repeat (obtain ⟨_, h⟩ := h; try subst_vars)
  all_goals rfl
theorem len_l_bad_pair {K : PySem.W.Frag} : ∀ vs H Q E, sp_l_bad_pair K vs H Q E → vs.length = 4 := by
  intro vs H Q E h
  replace h := h.out
  repeat (obtain ⟨_, h⟩ := h; try subst_vars)
  all_goals rfl
theorem len_Table_identity {K : PySem.W.Frag} : ∀ vs H Q E, sp_Table_identity K vs H Q E → vs.length = 2 := by
  intro vs H Q E h
  replace h := h.out
  repeat (obtain ⟨_, h⟩ := h; try subst_vars)
  all_goals rfl
theorem len_Table_full {K : PySem.W.Frag} : ∀ vs H Q E, sp_Table_full K vs H Q E → vs.length = 2 := by
  intro vs H Q E h
  replace h := h.out
  repeat (obtain ⟨_, h⟩ := h; try subst_vars)
  all_goals rfl
theorem len_Table_empty {K : PySem.W.Frag} : ∀ vs H Q E, sp_Table_empty K vs H Q E → vs.length = 2 := by
  intro vs H Q E h
  replace h := h.out
  repeat (obtain ⟨_, h⟩ := h; try subst_vars)
  all_goals rfl
theorem len_l_named {K : PySem.W.Frag} : ∀ vs H Q E, sp_l_named K vs H Q E → vs.length = 2 := by
  intro vs H Q E h
  replace h := h.out
  repeat (obtain ⟨_, h⟩ := h; try subst_vars)
  all_goals rfl
theorem len_l_bag {K : PySem.W.Frag} : ∀ vs H Q E, sp_l_bag K vs H Q E → vs.length = 1 := by
  intro vs H Q E h
  replace h := h.out
  repeat (obtain ⟨_, h⟩ := h; try subst_vars)
  all_goals rfl
theorem len_l_names {K : PySem.W.Frag} : ∀ vs H Q E, sp_l_names K vs H Q E → vs.length = 2 := by
  intro vs H Q E h
  replace h := h.out
  repeat (obtain ⟨_, h⟩ := h; try subst_vars)
  all_goals rfl
theorem len_l_signs {K : PySem.W.Frag} : ∀ vs H Q E, sp_l_signs K vs H Q E → vs.length = 1 := by
  intro vs H Q E h
  replace h := h.out
  repeat (obtain ⟨_, h⟩ := h; try subst_vars)
  all_goals rfl
theorem len_all_different {K : PySem.W.Frag} : ∀ vs H Q E, sp_all_different K vs H Q E → vs.length = 1 := by
  intro vs H Q E h
  replace h := h.out
  repeat (obtain ⟨_, h⟩ := h; try subst_vars)
  all_goals rfl
theorem len_Alphabet_init {K : PySem.W.Frag} : ∀ vs H Q E, sp_Alphabet_init K vs H Q E → vs.length = 3 := by
  intro vs H Q E h
  replace h := h.out
  repeat (obtain ⟨_, h⟩ := h; try subst_vars)
  all_goals rfl
theorem len_law {K : PySem.W.Frag} : ∀ vs H Q E, sp_law K vs H Q E → vs.length = 1 := by
  intro vs H Q E h
  replace h := h.out
  repeat (obtain ⟨_, h⟩ := h; try subst_vars)
  all_goals rfl
theorem all_ok {w : World} {K : PySem.W.Frag} {mg : Str → Option Value} {h : Heap} (X : K.In h) (G : h.Ns mainGlobals mg) (c : SaysX PP.main.file fa fn sn K) :
    ∃ fd : FuncData, (∀ (s : Shared) (v : Value), BindsTo s fd ⟨[v], []⟩ [("_law_script", v)]) ∧ ∀ base : Heap, K.In base → base.Ns mainGlobals mg → FnOk PP w K mg base (L2.CX PP w) 16 (He.ga K "law") fd ["_law_script"] (sp_law K) := by
  have T : Tx K mg := ⟨free_of X G (c.fact 0), free_of X G (c.fact 1), free_of X G (c.fact 2), free_of X G (c.fact 3), free_of X G (c.fact 4), free_of X G (c.fact 5), free_of X G (c.fact 6), free_of X G (c.fact 7), free_of X G (c.fact 8), free_of X G (c.fact 9), free_of X G (c.fact 10), free_of X G (c.fact 11), free_of X G (c.fact 12), free_of X G (c.fact 13), gv_of X G (c.fact 14), gv_of X G (c.fact 15), gv_of X G (c.fact 16), val_of X G (c.fact 17), gv_of X G (c.fact 18), gv_of X G (c.fact 19), gv_of X G (c.fact 20), cc_of X G (c.fact 21), cc_of X G (c.fact 22), cls_of (c.fact 23), cls_of (c.fact 24), isc_of (c.fact 25), no_of (c.fact 26), no_of (c.fact 27), no_of (c.fact 28), no_of (c.fact 29), kit_of (c.fact 30), kit_of (c.fact 31), isc_of (c.fact 32), no_of (c.fact 33), no_of (c.fact 34), no_of (c.fact 35), xc_of (c.fact 36), no_of' (c.fact 37), xc_of (c.fact 38), no_of' (c.fact 39), kit_of (c.fact 40), kit_of (c.fact 41), kitT_of (c.fact 42), kit_of (c.fact 43), kit_of (c.fact 44), kitT_of (c.fact 45), kit_of (c.fact 46), kit_of (c.fact 47), kitT_of (c.fact 48), kit_of (c.fact 49), exm_of (c.fact 50), exm_of (c.fact 51), exm_of (c.fact 52), xc_of (c.fact 53), no_of' (c.fact 54), fnm_of (c.fact 55)⟩
  obtain ⟨fd_l_written, F_l_written⟩ := c.def_ 0 (d := dd_l_written) rfl
  obtain ⟨fd_in_order, F_in_order⟩ := c.def_ 1 (d := dd_in_order) rfl
  obtain ⟨fd_read_entry, F_read_entry⟩ := c.def_ 2 (d := dd_read_entry) rfl
  obtain ⟨fd_is_sign, F_is_sign⟩ := c.def_ 3 (d := dd_is_sign) rfl
  obtain ⟨fd_pairs_of, F_pairs_of⟩ := c.def_ 4 (d := dd_pairs_of) rfl
  obtain ⟨fd_Table_init, F_Table_init⟩ := c.def_ 5 (d := dd_Table_init) rfl
  obtain ⟨fd_Table_read, F_Table_read⟩ := c.def_ 6 (d := dd_Table_read) rfl
  obtain ⟨fd_Alphabet_eq, F_Alphabet_eq⟩ := c.def_ 7 (d := dd_Alphabet_eq) rfl
  obtain ⟨fd_Table_eq, F_Table_eq⟩ := c.def_ 8 (d := dd_Table_eq) rfl
  obtain ⟨fd_l_right, F_l_right⟩ := c.def_ 9 (d := dd_l_right) rfl
  obtain ⟨fd_l_index, F_l_index⟩ := c.def_ 10 (d := dd_l_index) rfl
  obtain ⟨fd_l_integer, F_l_integer⟩ := c.def_ 11 (d := dd_l_integer) rfl
  obtain ⟨fd_check_sign, F_check_sign⟩ := c.def_ 12 (d := dd_check_sign) rfl
  obtain ⟨fd_Table_getitem, F_Table_getitem⟩ := c.def_ 13 (d := dd_Table_getitem) rfl
  obtain ⟨fd_Table_contains, F_Table_contains⟩ := c.def_ 14 (d := dd_Table_contains) rfl
  obtain ⟨fd_Table_pairs, F_Table_pairs⟩ := c.def_ 15 (d := dd_Table_pairs) rfl
  obtain ⟨fd_Table_len, F_Table_len⟩ := c.def_ 16 (d := dd_Table_len) rfl
  obtain ⟨fd_Table_bool, F_Table_bool⟩ := c.def_ 17 (d := dd_Table_bool) rfl
  obtain ⟨fd_l_truth, F_l_truth⟩ := c.def_ 18 (d := dd_l_truth) rfl
  obtain ⟨fd_Table_total, F_Table_total⟩ := c.def_ 19 (d := dd_Table_total) rfl
  obtain ⟨fd_Table_exact, F_Table_exact⟩ := c.def_ 20 (d := dd_Table_exact) rfl
  obtain ⟨fd_written_entry, F_written_entry⟩ := c.def_ 21 (d := dd_written_entry) rfl
  obtain ⟨fd_Table_str, F_Table_str⟩ := c.def_ 22 (d := dd_Table_str) rfl
  obtain ⟨fd_l_is, F_l_is⟩ := c.def_ 23 (d := dd_l_is) rfl
  obtain ⟨fd_l_reads, F_l_reads⟩ := c.def_ 24 (d := dd_l_reads) rfl
  obtain ⟨fd_l_take, F_l_take⟩ := c.def_ 25 (d := dd_l_take) rfl
  obtain ⟨fd_l_changed, F_l_changed⟩ := c.def_ 26 (d := dd_l_changed) rfl
  obtain ⟨fd_l_pairs, F_l_pairs⟩ := c.def_ 27 (d := dd_l_pairs) rfl
  obtain ⟨fd_l_outs, F_l_outs⟩ := c.def_ 28 (d := dd_l_outs) rfl
  obtain ⟨fd_l_strange, F_l_strange⟩ := c.def_ 29 (d := dd_l_strange) rfl
  obtain ⟨fd_l_no_sign, F_l_no_sign⟩ := c.def_ 30 (d := dd_l_no_sign) rfl
  obtain ⟨fd_l_no_pairs, F_l_no_pairs⟩ := c.def_ 31 (d := dd_l_no_pairs) rfl
  obtain ⟨fd_l_bad_pair, F_l_bad_pair⟩ := c.def_ 32 (d := dd_l_bad_pair) rfl
  obtain ⟨fd_Table_identity, F_Table_identity⟩ := c.def_ 33 (d := dd_Table_identity) rfl
  obtain ⟨fd_Table_full, F_Table_full⟩ := c.def_ 34 (d := dd_Table_full) rfl
  obtain ⟨fd_Table_empty, F_Table_empty⟩ := c.def_ 35 (d := dd_Table_empty) rfl
  obtain ⟨fd_l_named, F_l_named⟩ := c.def_ 36 (d := dd_l_named) rfl
  obtain ⟨fd_l_bag, F_l_bag⟩ := c.def_ 37 (d := dd_l_bag) rfl
  obtain ⟨fd_l_names, F_l_names⟩ := c.def_ 38 (d := dd_l_names) rfl
  obtain ⟨fd_l_signs, F_l_signs⟩ := c.def_ 39 (d := dd_l_signs) rfl
  obtain ⟨fd_all_different, F_all_different⟩ := c.def_ 40 (d := dd_all_different) rfl
  obtain ⟨fd_Alphabet_init, F_Alphabet_init⟩ := c.def_ 41 (d := dd_Alphabet_init) rfl
  obtain ⟨fd_law, F_law⟩ := c.def_ 42 (d := dd_law) rfl
  refine ⟨fd_law, fun s v => FunD.bindsA (ps := ["_law_script"]) F_law (fun _ _ _ _ _ _ us hl => match us, hl with | [_], _ => rfl) s [v] rfl, fun base _ _ => ?_⟩
  have X_BadAlphabet : Ex PP w K mg base "BadAlphabet" (He.ga K "BadAlphabet") ["part"] := ex_BadAlphabet X G c
  have X_BadEntry : Ex PP w K mg base "BadEntry" (He.ga K "BadEntry") ["index"] := ex_BadEntry X G c
  have X_BadPair : Ex PP w K mg base "BadPair" (He.ga K "BadPair") ["index"] := ex_BadPair X G c
  have X_UnknownSign : Ex PP w K mg base "UnknownSign" (He.ga K "UnknownSign") ["sign"] := ex_UnknownSign X G c
  have O_l_written : FnOk PP w K mg base (L2.CX PP w) 5 (He.fAd K ("_law_written", none)) fd_l_written ["_law_signs_here", "_law_outs_here"] (sp_l_written K) := def_ok F_l_written sc_l_written len_l_written (t_l_written K) (fun cdv A outer s H E hr => tm_l_written T  hr) (rd_l_written T)
  have B_l_written : ∃ ds, Vals ([] : List V) ds ∧ Binds K fd_l_written ["_law_signs_here", "_law_outs_here"] ds := ⟨[], .nil, F_l_written.bindsN (ps := ["_law_signs_here", "_law_outs_here"]) fun _ _ _ _ _ _ us hl => match us, hl with | [_, _], _ => rfl⟩
  obtain ⟨ds_l_written, v_l_written, b_l_written⟩ := B_l_written
  have G_l_written : Fn PP w K mg base "_law_written" 5 [] (sp_l_written K) := ⟨⟨_, fd_l_written, ["_law_signs_here", "_law_outs_here"], ds_l_written, O_l_written.mono (by decide), glo_of X G (c.fact 67), F_l_written.kp, v_l_written, b_l_written⟩⟩
  have O_in_order : FnOk PP w K mg base (L2.CX PP w) 5 (He.fAd K ("in_order", none)) fd_in_order ["signs", "string"] (sp_in_order K) := def_ok F_in_order sc_in_order len_in_order (t_in_order K) (fun cdv A outer s H E hr => tm_in_order T  hr) (rd_in_order T)
  have B_in_order : ∃ ds, Vals ([] : List V) ds ∧ Binds K fd_in_order ["signs", "string"] ds := ⟨[], .nil, F_in_order.bindsN (ps := ["signs", "string"]) fun _ _ _ _ _ _ us hl => match us, hl with | [_, _], _ => rfl⟩
  obtain ⟨ds_in_order, v_in_order, b_in_order⟩ := B_in_order
  have G_in_order : Fn PP w K mg base "in_order" 5 [] (sp_in_order K) := ⟨⟨_, fd_in_order, ["signs", "string"], ds_in_order, O_in_order.mono (by decide), glo_of X G (c.fact 68), F_in_order.kp, v_in_order, b_in_order⟩⟩
  have O_read_entry : FnOk PP w K mg base (L2.CX PP w) 7 (He.fAd K ("read_entry", none)) fd_read_entry ["signs", "sign", "entry"] (sp_read_entry K) := def_ok F_read_entry sc_read_entry len_read_entry (t_read_entry K) (fun cdv A outer s H E hr => tm_read_entry T G_in_order hr) (rd_read_entry T)
  have B_read_entry : ∃ ds, Vals ([] : List V) ds ∧ Binds K fd_read_entry ["signs", "sign", "entry"] ds := ⟨[], .nil, F_read_entry.bindsN (ps := ["signs", "sign", "entry"]) fun _ _ _ _ _ _ us hl => match us, hl with | [_, _, _], _ => rfl⟩
  obtain ⟨ds_read_entry, v_read_entry, b_read_entry⟩ := B_read_entry
  have G_read_entry : Fn PP w K mg base "read_entry" 7 [] (sp_read_entry K) := ⟨⟨_, fd_read_entry, ["signs", "sign", "entry"], ds_read_entry, O_read_entry.mono (by decide), glo_of X G (c.fact 69), F_read_entry.kp, v_read_entry, b_read_entry⟩⟩
  have O_is_sign : FnOk PP w K mg base (L2.CX PP w) 5 (He.fAd K ("is_sign", none)) fd_is_sign ["alphabet", "string"] (sp_is_sign K) := def_ok F_is_sign sc_is_sign len_is_sign (t_is_sign K) (fun cdv A outer s H E hr => tm_is_sign T  hr) (rd_is_sign T)
  have B_is_sign : ∃ ds, Vals ([] : List V) ds ∧ Binds K fd_is_sign ["alphabet", "string"] ds := ⟨[], .nil, F_is_sign.bindsN (ps := ["alphabet", "string"]) fun _ _ _ _ _ _ us hl => match us, hl with | [_, _], _ => rfl⟩
  obtain ⟨ds_is_sign, v_is_sign, b_is_sign⟩ := B_is_sign
  have G_is_sign : Fn PP w K mg base "is_sign" 5 [] (sp_is_sign K) := ⟨⟨_, fd_is_sign, ["alphabet", "string"], ds_is_sign, O_is_sign.mono (by decide), glo_of X G (c.fact 70), F_is_sign.kp, v_is_sign, b_is_sign⟩⟩
  have O_pairs_of : FnOk PP w K mg base (L2.CX PP w) 5 (He.fAd K ("pairs_of", none)) fd_pairs_of ["signs", "columns"] (sp_pairs_of K) := def_ok F_pairs_of sc_pairs_of len_pairs_of (t_pairs_of K) (fun cdv A outer s H E hr => tm_pairs_of T  hr) (rd_pairs_of T)
  have B_pairs_of : ∃ ds, Vals ([] : List V) ds ∧ Binds K fd_pairs_of ["signs", "columns"] ds := ⟨[], .nil, F_pairs_of.bindsN (ps := ["signs", "columns"]) fun _ _ _ _ _ _ us hl => match us, hl with | [_, _], _ => rfl⟩
  obtain ⟨ds_pairs_of, v_pairs_of, b_pairs_of⟩ := B_pairs_of
  have G_pairs_of : Fn PP w K mg base "pairs_of" 5 [] (sp_pairs_of K) := ⟨⟨_, fd_pairs_of, ["signs", "columns"], ds_pairs_of, O_pairs_of.mono (by decide), glo_of X G (c.fact 71), F_pairs_of.kp, v_pairs_of, b_pairs_of⟩⟩
  have O_Table_init : FnOk PP w K mg base (L2.CX PP w) 7 (He.fAd K ("Table", some "__init__")) fd_Table_init ["self", "alphabet", "pairs"] (sp_Table_init K) := def_ok F_Table_init sc_Table_init len_Table_init (t_Table_init K) (fun cdv A outer s H E hr => tm_Table_init T G_in_order G_is_sign G_pairs_of X_BadPair hr) (rd_Table_init T)
  have B_Table : ∃ ds, Vals ([] : List V) ds ∧ Binds K fd_Table_init ["self", "alphabet", "pairs"] ds := ⟨[], .nil, F_Table_init.bindsN (ps := ["self", "alphabet", "pairs"]) fun _ _ _ _ _ _ us hl => match us, hl with | [_, _, _], _ => rfl⟩
  obtain ⟨ds_Table, v_Table, b_Table⟩ := B_Table
  have G_Table : Mks PP w K mg base "Table" (He.ga K "Table") 7 [] (sp_Table_init K) := ⟨⟨_, fd_Table_init, ["self", "alphabet", "pairs"], ds_Table, O_Table_init.mono (by decide), mk_of (c.fact 72), glo_of X G (c.fact 18), v_Table, b_Table⟩⟩
  have O_Table_read : FnOk PP w K mg base (L2.CX PP w) 9 (cmA K (He.ga K "Table") "read") fd_Table_read ["cls", "alphabet", "written"] (sp_Table_read K) := def_ok F_Table_read sc_Table_read len_Table_read (t_Table_read K) (fun cdv A outer s H E hr => tm_Table_read T G_Table G_pairs_of G_read_entry X_BadEntry hr) (rd_Table_read T)
  have B_Table_read : ∃ ds, Vals ([] : List V) ds ∧ Binds K fd_Table_read ["cls", "alphabet", "written"] ds := ⟨[], .nil, F_Table_read.bindsN (ps := ["cls", "alphabet", "written"]) fun _ _ _ _ _ _ us hl => match us, hl with | [_, _, _], _ => rfl⟩
  obtain ⟨ds_Table_read, v_Table_read, b_Table_read⟩ := B_Table_read
  have G_Table_read : Cmt PP w K mg base (He.ga K "Table") "read" 9 [] (sp_Table_read K) := ⟨.type "type", _, _, fd_Table_read, ["cls", "alphabet", "written"], ds_Table_read, (cm_of (c.fact 73)).1, (cm_of (c.fact 73)).2, O_Table_read, v_Table_read, b_Table_read⟩
  have O_Alphabet_eq : FnOk PP w K mg base (L2.CX PP w) 5 (He.fAd K ("Alphabet", some "__eq__")) fd_Alphabet_eq ["self", "other"] (sp_Alphabet_eq K) := def_ok F_Alphabet_eq sc_Alphabet_eq len_Alphabet_eq (t_Alphabet_eq K) (fun cdv A outer s H E hr => tm_Alphabet_eq T  hr) (rd_Alphabet_eq T)
  have B_Alphabet___eq__ : ∃ ds, Vals ([] : List V) ds ∧ Binds K fd_Alphabet_eq ["self", "other"] ds := ⟨[], .nil, F_Alphabet_eq.bindsN (ps := ["self", "other"]) fun _ _ _ _ _ _ us hl => match us, hl with | [_, _], _ => rfl⟩
  obtain ⟨ds_Alphabet___eq__, v_Alphabet___eq__, b_Alphabet___eq__⟩ := B_Alphabet___eq__
  have G_Alphabet___eq__ : Me PP w K mg base (He.ga K "Alphabet") "__eq__" 5 [] (sp_Alphabet_eq K) := ⟨⟨_, fd_Alphabet_eq, ["self", "other"], ds_Alphabet___eq__, O_Alphabet_eq.mono (by decide), me_of (c.fact 74), v_Alphabet___eq__, b_Alphabet___eq__⟩, cls_of (c.fact 23)⟩
  have O_Table_eq : FnOk PP w K mg base (L2.CX PP w) 7 (He.fAd K ("Table", some "__eq__")) fd_Table_eq ["self", "other"] (sp_Table_eq K) := def_ok F_Table_eq sc_Table_eq len_Table_eq (t_Table_eq K) (fun cdv A outer s H E hr => tm_Table_eq T G_Alphabet___eq__ hr) (rd_Table_eq T)
  have B_Table___eq__ : ∃ ds, Vals ([] : List V) ds ∧ Binds K fd_Table_eq ["self", "other"] ds := ⟨[], .nil, F_Table_eq.bindsN (ps := ["self", "other"]) fun _ _ _ _ _ _ us hl => match us, hl with | [_, _], _ => rfl⟩
  obtain ⟨ds_Table___eq__, v_Table___eq__, b_Table___eq__⟩ := B_Table___eq__
  have G_Table___eq__ : Me PP w K mg base (He.ga K "Table") "__eq__" 7 [] (sp_Table_eq K) := ⟨⟨_, fd_Table_eq, ["self", "other"], ds_Table___eq__, O_Table_eq.mono (by decide), me_of (c.fact 75), v_Table___eq__, b_Table___eq__⟩, cls_of (c.fact 24)⟩
  have O_l_right : FnOk PP w K mg base (L2.CX PP w) 5 (He.fAd K ("_law_right", none)) fd_l_right ["_law_entry", "_law_sign", "_law_signs_here"] (sp_l_right K) := def_ok F_l_right sc_l_right len_l_right (t_l_right K) (fun cdv A outer s H E hr => tm_l_right T  hr) (rd_l_right T)
  have B_l_right : ∃ ds, Vals ([] : List V) ds ∧ Binds K fd_l_right ["_law_entry", "_law_sign", "_law_signs_here"] ds := ⟨[], .nil, F_l_right.bindsN (ps := ["_law_entry", "_law_sign", "_law_signs_here"]) fun _ _ _ _ _ _ us hl => match us, hl with | [_, _, _], _ => rfl⟩
  obtain ⟨ds_l_right, v_l_right, b_l_right⟩ := B_l_right
  have G_l_right : Fn PP w K mg base "_law_right" 5 [] (sp_l_right K) := ⟨⟨_, fd_l_right, ["_law_entry", "_law_sign", "_law_signs_here"], ds_l_right, O_l_right.mono (by decide), glo_of X G (c.fact 76), F_l_right.kp, v_l_right, b_l_right⟩⟩
  have O_l_index : FnOk PP w K mg base (L2.CX PP w) 7 (He.fAd K ("_law_index", none)) fd_l_index ["_law_entries", "_law_signs_here"] (sp_l_index K) := def_ok F_l_index sc_l_index len_l_index (t_l_index K) (fun cdv A outer s H E hr => tm_l_index T G_l_right hr) (rd_l_index T)
  have B_l_index : ∃ ds, Vals ([] : List V) ds ∧ Binds K fd_l_index ["_law_entries", "_law_signs_here"] ds := ⟨[], .nil, F_l_index.bindsN (ps := ["_law_entries", "_law_signs_here"]) fun _ _ _ _ _ _ us hl => match us, hl with | [_, _], _ => rfl⟩
  obtain ⟨ds_l_index, v_l_index, b_l_index⟩ := B_l_index
  have G_l_index : Fn PP w K mg base "_law_index" 7 [] (sp_l_index K) := ⟨⟨_, fd_l_index, ["_law_entries", "_law_signs_here"], ds_l_index, O_l_index.mono (by decide), glo_of X G (c.fact 77), F_l_index.kp, v_l_index, b_l_index⟩⟩
  have O_l_integer : FnOk PP w K mg base (L2.CX PP w) 5 (He.fAd K ("_law_integer", none)) fd_l_integer ["_law_told"] (sp_l_integer K) := def_ok F_l_integer sc_l_integer len_l_integer (t_l_integer K) (fun cdv A outer s H E hr => tm_l_integer T  hr) (rd_l_integer T)
  have GQ_l_integer : FnQu PP w K mg base "_law_integer" 5 (sp_l_integer K) := ⟨_, fd_l_integer, ["_law_told"], def_okQ F_l_integer sc_l_integer len_l_integer (t_l_integer K) (fun cdv A outer s H E p hr => tmq_l_integer T hr) (rd_l_integer T), glo_of X G (c.fact 78), F_l_integer.kp, F_l_integer.bindsN (ps := ["_law_told"]) fun _ _ _ _ _ _ us hl => match us, hl with | [_], _ => rfl⟩
  have B_l_integer : ∃ ds, Vals ([] : List V) ds ∧ Binds K fd_l_integer ["_law_told"] ds := ⟨[], .nil, F_l_integer.bindsN (ps := ["_law_told"]) fun _ _ _ _ _ _ us hl => match us, hl with | [_], _ => rfl⟩
  obtain ⟨ds_l_integer, v_l_integer, b_l_integer⟩ := B_l_integer
  have G_l_integer : Fn PP w K mg base "_law_integer" 5 [] (sp_l_integer K) := ⟨⟨_, fd_l_integer, ["_law_told"], ds_l_integer, O_l_integer.mono (by decide), glo_of X G (c.fact 78), F_l_integer.kp, v_l_integer, b_l_integer⟩⟩
  have O_check_sign : FnOk PP w K mg base (L2.CX PP w) 7 (He.fAd K ("check_sign", none)) fd_check_sign ["alphabet", "string"] (sp_check_sign K) := def_ok F_check_sign sc_check_sign len_check_sign (t_check_sign K) (fun cdv A outer s H E hr => tm_check_sign T G_is_sign X_UnknownSign hr) (rd_check_sign T)
  have B_check_sign : ∃ ds, Vals ([] : List V) ds ∧ Binds K fd_check_sign ["alphabet", "string"] ds := ⟨[], .nil, F_check_sign.bindsN (ps := ["alphabet", "string"]) fun _ _ _ _ _ _ us hl => match us, hl with | [_, _], _ => rfl⟩
  obtain ⟨ds_check_sign, v_check_sign, b_check_sign⟩ := B_check_sign
  have G_check_sign : Fn PP w K mg base "check_sign" 7 [] (sp_check_sign K) := ⟨⟨_, fd_check_sign, ["alphabet", "string"], ds_check_sign, O_check_sign.mono (by decide), glo_of X G (c.fact 79), F_check_sign.kp, v_check_sign, b_check_sign⟩⟩
  have O_Table_getitem : FnOk PP w K mg base (L2.CX PP w) 9 (He.fAd K ("Table", some "__getitem__")) fd_Table_getitem ["self", "sign"] (sp_Table_getitem K) := def_ok F_Table_getitem sc_Table_getitem len_Table_getitem (t_Table_getitem K) (fun cdv A outer s H E hr => tm_Table_getitem T G_check_sign hr) (rd_Table_getitem T)
  have B_Table___getitem__ : ∃ ds, Vals ([] : List V) ds ∧ Binds K fd_Table_getitem ["self", "sign"] ds := ⟨[], .nil, F_Table_getitem.bindsN (ps := ["self", "sign"]) fun _ _ _ _ _ _ us hl => match us, hl with | [_, _], _ => rfl⟩
  obtain ⟨ds_Table___getitem__, v_Table___getitem__, b_Table___getitem__⟩ := B_Table___getitem__
  have G_Table___getitem__ : Me PP w K mg base (He.ga K "Table") "__getitem__" 9 [] (sp_Table_getitem K) := ⟨⟨_, fd_Table_getitem, ["self", "sign"], ds_Table___getitem__, O_Table_getitem.mono (by decide), me_of (c.fact 80), v_Table___getitem__, b_Table___getitem__⟩, cls_of (c.fact 24)⟩
  have O_Table_contains : FnOk PP w K mg base (L2.CX PP w) 5 (He.fAd K ("Table", some "__contains__")) fd_Table_contains ["self", "pair"] (sp_Table_contains K) := def_ok F_Table_contains sc_Table_contains len_Table_contains (t_Table_contains K) (fun cdv A outer s H E hr => tm_Table_contains T  hr) (rd_Table_contains T)
  have B_Table___contains__ : ∃ ds, Vals ([] : List V) ds ∧ Binds K fd_Table_contains ["self", "pair"] ds := ⟨[], .nil, F_Table_contains.bindsN (ps := ["self", "pair"]) fun _ _ _ _ _ _ us hl => match us, hl with | [_, _], _ => rfl⟩
  obtain ⟨ds_Table___contains__, v_Table___contains__, b_Table___contains__⟩ := B_Table___contains__
  have G_Table___contains__ : Me PP w K mg base (He.ga K "Table") "__contains__" 5 [] (sp_Table_contains K) := ⟨⟨_, fd_Table_contains, ["self", "pair"], ds_Table___contains__, O_Table_contains.mono (by decide), me_of (c.fact 81), v_Table___contains__, b_Table___contains__⟩, cls_of (c.fact 24)⟩
  have O_Table_pairs : FnOk PP w K mg base (L2.CX PP w) 5 (He.fAd K ("Table", some "pairs")) fd_Table_pairs ["self"] (sp_Table_pairs K) := def_ok F_Table_pairs sc_Table_pairs len_Table_pairs (t_Table_pairs K) (fun cdv A outer s H E hr => tm_Table_pairs T  hr) (rd_Table_pairs T)
  have B_Table_pairs : ∃ ds, Vals ([] : List V) ds ∧ Binds K fd_Table_pairs ["self"] ds := ⟨[], .nil, F_Table_pairs.bindsN (ps := ["self"]) fun _ _ _ _ _ _ us hl => match us, hl with | [_], _ => rfl⟩
  obtain ⟨ds_Table_pairs, v_Table_pairs, b_Table_pairs⟩ := B_Table_pairs
  have G_Table_pairs : Me PP w K mg base (He.ga K "Table") "pairs" 5 [] (sp_Table_pairs K) := ⟨⟨_, fd_Table_pairs, ["self"], ds_Table_pairs, O_Table_pairs.mono (by decide), me_of (c.fact 82), v_Table_pairs, b_Table_pairs⟩, cls_of (c.fact 24)⟩
  have O_Table_len : FnOk PP w K mg base (L2.CX PP w) 5 (He.fAd K ("Table", some "__len__")) fd_Table_len ["self"] (sp_Table_len K) := def_ok F_Table_len sc_Table_len len_Table_len (t_Table_len K) (fun cdv A outer s H E hr => tm_Table_len T  hr) (rd_Table_len T)
  have B_Table___len__ : ∃ ds, Vals ([] : List V) ds ∧ Binds K fd_Table_len ["self"] ds := ⟨[], .nil, F_Table_len.bindsN (ps := ["self"]) fun _ _ _ _ _ _ us hl => match us, hl with | [_], _ => rfl⟩
  obtain ⟨ds_Table___len__, v_Table___len__, b_Table___len__⟩ := B_Table___len__
  have G_Table___len__ : Me PP w K mg base (He.ga K "Table") "__len__" 5 [] (sp_Table_len K) := ⟨⟨_, fd_Table_len, ["self"], ds_Table___len__, O_Table_len.mono (by decide), me_of (c.fact 83), v_Table___len__, b_Table___len__⟩, cls_of (c.fact 24)⟩
  have O_Table_bool : FnOk PP w K mg base (L2.CX PP w) 5 (He.fAd K ("Table", some "__bool__")) fd_Table_bool ["self"] (sp_Table_bool K) := def_ok F_Table_bool sc_Table_bool len_Table_bool (t_Table_bool K) (fun cdv A outer s H E hr => tm_Table_bool T  hr) (rd_Table_bool T)
  have B_Table___bool__ : ∃ ds, Vals ([] : List V) ds ∧ Binds K fd_Table_bool ["self"] ds := ⟨[], .nil, F_Table_bool.bindsN (ps := ["self"]) fun _ _ _ _ _ _ us hl => match us, hl with | [_], _ => rfl⟩
  obtain ⟨ds_Table___bool__, v_Table___bool__, b_Table___bool__⟩ := B_Table___bool__
  have G_Table___bool__ : Me PP w K mg base (He.ga K "Table") "__bool__" 5 [] (sp_Table_bool K) := ⟨⟨_, fd_Table_bool, ["self"], ds_Table___bool__, O_Table_bool.mono (by decide), me_of (c.fact 84), v_Table___bool__, b_Table___bool__⟩, cls_of (c.fact 24)⟩
  have O_l_truth : FnOk PP w K mg base (L2.CX PP w) 5 (He.fAd K ("_law_truth", none)) fd_l_truth ["_law_told", "_law_due"] (sp_l_truth K) := def_ok F_l_truth sc_l_truth len_l_truth (t_l_truth K) (fun cdv A outer s H E hr => tm_l_truth T  hr) (rd_l_truth T)
  have B_l_truth : ∃ ds, Vals ([] : List V) ds ∧ Binds K fd_l_truth ["_law_told", "_law_due"] ds := ⟨[], .nil, F_l_truth.bindsN (ps := ["_law_told", "_law_due"]) fun _ _ _ _ _ _ us hl => match us, hl with | [_, _], _ => rfl⟩
  obtain ⟨ds_l_truth, v_l_truth, b_l_truth⟩ := B_l_truth
  have G_l_truth : Fn PP w K mg base "_law_truth" 5 [] (sp_l_truth K) := ⟨⟨_, fd_l_truth, ["_law_told", "_law_due"], ds_l_truth, O_l_truth.mono (by decide), glo_of X G (c.fact 85), F_l_truth.kp, v_l_truth, b_l_truth⟩⟩
  have O_Table_total : FnOk PP w K mg base (L2.CX PP w) 5 (prA K (He.ga K "Table") "total") fd_Table_total ["self"] (sp_Table_total K) := def_ok F_Table_total sc_Table_total len_Table_total (t_Table_total K) (fun cdv A outer s H E hr => tm_Table_total T  hr) (rd_Table_total T)
  have G_Table_total : Pr PP w K mg base (He.ga K "Table") "total" 5 (sp_Table_total K) := ⟨⟨_, _, fd_Table_total, ["self"], prp_of (c.fact 86), O_Table_total.mono (by decide), F_Table_total.bindsN (ps := ["self"]) fun _ _ _ _ _ _ us hl => match us, hl with | [_], _ => rfl⟩, cls_of (c.fact 24)⟩
  have O_Table_exact : FnOk PP w K mg base (L2.CX PP w) 5 (prA K (He.ga K "Table") "exact") fd_Table_exact ["self"] (sp_Table_exact K) := def_ok F_Table_exact sc_Table_exact len_Table_exact (t_Table_exact K) (fun cdv A outer s H E hr => tm_Table_exact T  hr) (rd_Table_exact T)
  have G_Table_exact : Pr PP w K mg base (He.ga K "Table") "exact" 5 (sp_Table_exact K) := ⟨⟨_, _, fd_Table_exact, ["self"], prp_of (c.fact 87), O_Table_exact.mono (by decide), F_Table_exact.bindsN (ps := ["self"]) fun _ _ _ _ _ _ us hl => match us, hl with | [_], _ => rfl⟩, cls_of (c.fact 24)⟩
  have O_written_entry : FnOk PP w K mg base (L2.CX PP w) 5 (He.fAd K ("written_entry", none)) fd_written_entry ["sign", "column"] (sp_written_entry K) := def_ok F_written_entry sc_written_entry len_written_entry (t_written_entry K) (fun cdv A outer s H E hr => tm_written_entry T  hr) (rd_written_entry T)
  have B_written_entry : ∃ ds, Vals ([] : List V) ds ∧ Binds K fd_written_entry ["sign", "column"] ds := ⟨[], .nil, F_written_entry.bindsN (ps := ["sign", "column"]) fun _ _ _ _ _ _ us hl => match us, hl with | [_, _], _ => rfl⟩
  obtain ⟨ds_written_entry, v_written_entry, b_written_entry⟩ := B_written_entry
  have G_written_entry : Fn PP w K mg base "written_entry" 5 [] (sp_written_entry K) := ⟨⟨_, fd_written_entry, ["sign", "column"], ds_written_entry, O_written_entry.mono (by decide), glo_of X G (c.fact 88), F_written_entry.kp, v_written_entry, b_written_entry⟩⟩
  have O_Table_str : FnOk PP w K mg base (L2.CX PP w) 7 (He.fAd K ("Table", some "__str__")) fd_Table_str ["self"] (sp_Table_str K) := def_ok F_Table_str sc_Table_str len_Table_str (t_Table_str K) (fun cdv A outer s H E hr => tm_Table_str T G_written_entry hr) (rd_Table_str T)
  have B_Table___str__ : ∃ ds, Vals ([] : List V) ds ∧ Binds K fd_Table_str ["self"] ds := ⟨[], .nil, F_Table_str.bindsN (ps := ["self"]) fun _ _ _ _ _ _ us hl => match us, hl with | [_], _ => rfl⟩
  obtain ⟨ds_Table___str__, v_Table___str__, b_Table___str__⟩ := B_Table___str__
  have G_Table___str__ : Me PP w K mg base (He.ga K "Table") "__str__" 7 [] (sp_Table_str K) := ⟨⟨_, fd_Table_str, ["self"], ds_Table___str__, O_Table_str.mono (by decide), me_of (c.fact 89), v_Table___str__, b_Table___str__⟩, cls_of (c.fact 24)⟩
  have O_l_is : FnOk PP w K mg base (L2.CX PP w) 12 (He.fAd K ("_law_is", none)) fd_l_is ["_law_table", "_law_signs_here", "_law_outs_here"] (sp_l_is K) := def_ok F_l_is sc_l_is len_l_is (t_l_is K) (fun cdv A outer s H E hr => tm_l_is T G_Table___bool__ G_Table___contains__ G_Table___getitem__ G_Table___len__ G_Table___str__ G_Table_exact G_Table_pairs G_Table_total G_l_integer G_l_truth G_l_written hr) (rd_l_is T)
  have B_l_is : ∃ ds, Vals ([] : List V) ds ∧ Binds K fd_l_is ["_law_table", "_law_signs_here", "_law_outs_here"] ds := ⟨[], .nil, F_l_is.bindsN (ps := ["_law_table", "_law_signs_here", "_law_outs_here"]) fun _ _ _ _ _ _ us hl => match us, hl with | [_, _, _], _ => rfl⟩
  obtain ⟨ds_l_is, v_l_is, b_l_is⟩ := B_l_is
  have G_l_is : Fn PP w K mg base "_law_is" 12 [] (sp_l_is K) := ⟨⟨_, fd_l_is, ["_law_table", "_law_signs_here", "_law_outs_here"], ds_l_is, O_l_is.mono (by decide), glo_of X G (c.fact 90), F_l_is.kp, v_l_is, b_l_is⟩⟩
  have O_l_reads : FnOk PP w K mg base (L2.CX PP w) 14 (He.fAd K ("_law_reads", none)) fd_l_reads ["_law_alphabet", "_law_signs_here", "_law_written_here"] (sp_l_reads K) := def_ok F_l_reads sc_l_reads len_l_reads (t_l_reads K) (fun cdv A outer s H E hr => tm_l_reads T GQ_l_integer G_Table_read G_l_index G_l_is hr) (rd_l_reads T)
  have B_l_reads : ∃ ds, Vals ([] : List V) ds ∧ Binds K fd_l_reads ["_law_alphabet", "_law_signs_here", "_law_written_here"] ds := ⟨[], .nil, F_l_reads.bindsN (ps := ["_law_alphabet", "_law_signs_here", "_law_written_here"]) fun _ _ _ _ _ _ us hl => match us, hl with | [_, _, _], _ => rfl⟩
  obtain ⟨ds_l_reads, v_l_reads, b_l_reads⟩ := B_l_reads
  have G_l_reads : Fn PP w K mg base "_law_reads" 14 [] (sp_l_reads K) := ⟨⟨_, fd_l_reads, ["_law_alphabet", "_law_signs_here", "_law_written_here"], ds_l_reads, O_l_reads.mono (by decide), glo_of X G (c.fact 91), F_l_reads.kp, v_l_reads, b_l_reads⟩⟩
  have O_l_take : FnOk PP w K mg base (L2.CX PP w) 5 (He.fAd K ("_law_take", none)) fd_l_take ["_law_bag_here", "_law_size"] (sp_l_take K) := def_ok F_l_take sc_l_take len_l_take (t_l_take K) (fun cdv A outer s H E hr => tm_l_take T  hr) (rd_l_take T)
  have B_l_take : ∃ ds, Vals ([] : List V) ds ∧ Binds K fd_l_take ["_law_bag_here", "_law_size"] ds := ⟨[], .nil, F_l_take.bindsN (ps := ["_law_bag_here", "_law_size"]) fun _ _ _ _ _ _ us hl => match us, hl with | [_, _], _ => rfl⟩
  obtain ⟨ds_l_take, v_l_take, b_l_take⟩ := B_l_take
  have G_l_take : Fn PP w K mg base "_law_take" 5 [] (sp_l_take K) := ⟨⟨_, fd_l_take, ["_law_bag_here", "_law_size"], ds_l_take, O_l_take.mono (by decide), glo_of X G (c.fact 92), F_l_take.kp, v_l_take, b_l_take⟩⟩
  have O_l_changed : FnOk PP w K mg base (L2.CX PP w) 7 (He.fAd K ("_law_changed", none)) fd_l_changed ["_law_bag_here", "_law_change", "_law_entries", "_law_signs_here"] (sp_l_changed K) := def_ok F_l_changed sc_l_changed len_l_changed (t_l_changed K) (fun cdv A outer s H E hr => tm_l_changed T G_l_take hr) (rd_l_changed T)
  have B_l_changed : ∃ ds, Vals ([] : List V) ds ∧ Binds K fd_l_changed ["_law_bag_here", "_law_change", "_law_entries", "_law_signs_here"] ds := ⟨[], .nil, F_l_changed.bindsN (ps := ["_law_bag_here", "_law_change", "_law_entries", "_law_signs_here"]) fun _ _ _ _ _ _ us hl => match us, hl with | [_, _, _, _], _ => rfl⟩
  obtain ⟨ds_l_changed, v_l_changed, b_l_changed⟩ := B_l_changed
  have G_l_changed : Fn PP w K mg base "_law_changed" 7 [] (sp_l_changed K) := ⟨⟨_, fd_l_changed, ["_law_bag_here", "_law_change", "_law_entries", "_law_signs_here"], ds_l_changed, O_l_changed.mono (by decide), glo_of X G (c.fact 93), F_l_changed.kp, v_l_changed, b_l_changed⟩⟩
  have O_l_pairs : FnOk PP w K mg base (L2.CX PP w) 7 (He.fAd K ("_law_pairs", none)) fd_l_pairs ["_law_bag_here", "_law_signs_here", "_law_count"] (sp_l_pairs K) := def_ok F_l_pairs sc_l_pairs len_l_pairs (t_l_pairs K) (fun cdv A outer s H E hr => tm_l_pairs T G_l_take hr) (rd_l_pairs T)
  have B_l_pairs : ∃ ds, Vals ([] : List V) ds ∧ Binds K fd_l_pairs ["_law_bag_here", "_law_signs_here", "_law_count"] ds := ⟨[], .nil, F_l_pairs.bindsN (ps := ["_law_bag_here", "_law_signs_here", "_law_count"]) fun _ _ _ _ _ _ us hl => match us, hl with | [_, _, _], _ => rfl⟩
  obtain ⟨ds_l_pairs, v_l_pairs, b_l_pairs⟩ := B_l_pairs
  have G_l_pairs : Fn PP w K mg base "_law_pairs" 7 [] (sp_l_pairs K) := ⟨⟨_, fd_l_pairs, ["_law_bag_here", "_law_signs_here", "_law_count"], ds_l_pairs, O_l_pairs.mono (by decide), glo_of X G (c.fact 94), F_l_pairs.kp, v_l_pairs, b_l_pairs⟩⟩
  have O_l_outs : FnOk PP w K mg base (L2.CX PP w) 5 (He.fAd K ("_law_outs", none)) fd_l_outs ["_law_signs_here", "_law_pairs_here"] (sp_l_outs K) := def_ok F_l_outs sc_l_outs len_l_outs (t_l_outs K) (fun cdv A outer s H E hr => tm_l_outs T  hr) (rd_l_outs T)
  have B_l_outs : ∃ ds, Vals ([] : List V) ds ∧ Binds K fd_l_outs ["_law_signs_here", "_law_pairs_here"] ds := ⟨[], .nil, F_l_outs.bindsN (ps := ["_law_signs_here", "_law_pairs_here"]) fun _ _ _ _ _ _ us hl => match us, hl with | [_, _], _ => rfl⟩
  obtain ⟨ds_l_outs, v_l_outs, b_l_outs⟩ := B_l_outs
  have G_l_outs : Fn PP w K mg base "_law_outs" 5 [] (sp_l_outs K) := ⟨⟨_, fd_l_outs, ["_law_signs_here", "_law_pairs_here"], ds_l_outs, O_l_outs.mono (by decide), glo_of X G (c.fact 95), F_l_outs.kp, v_l_outs, b_l_outs⟩⟩
  have O_l_strange : FnOk PP w K mg base (L2.CX PP w) 7 (He.fAd K ("_law_strange", none)) fd_l_strange ["_law_bag_here", "_law_signs_here"] (sp_l_strange K) := def_ok F_l_strange sc_l_strange len_l_strange (t_l_strange K) (fun cdv A outer s H E hr => tm_l_strange T G_l_take hr) (rd_l_strange T)
  have B_l_strange : ∃ ds, Vals ([] : List V) ds ∧ Binds K fd_l_strange ["_law_bag_here", "_law_signs_here"] ds := ⟨[], .nil, F_l_strange.bindsN (ps := ["_law_bag_here", "_law_signs_here"]) fun _ _ _ _ _ _ us hl => match us, hl with | [_, _], _ => rfl⟩
  obtain ⟨ds_l_strange, v_l_strange, b_l_strange⟩ := B_l_strange
  have G_l_strange : Fn PP w K mg base "_law_strange" 7 [] (sp_l_strange K) := ⟨⟨_, fd_l_strange, ["_law_bag_here", "_law_signs_here"], ds_l_strange, O_l_strange.mono (by decide), glo_of X G (c.fact 96), F_l_strange.kp, v_l_strange, b_l_strange⟩⟩
  have O_l_no_sign : FnOk PP w K mg base (L2.CX PP w) 12 (He.fAd K ("_law_no_sign", none)) fd_l_no_sign ["_law_table", "_law_strange_here"] (sp_l_no_sign K) := def_ok F_l_no_sign sc_l_no_sign len_l_no_sign (t_l_no_sign K) (fun cdv A outer s H E hr => tm_l_no_sign T G_Table___getitem__ hr) (rd_l_no_sign T)
  have B_l_no_sign : ∃ ds, Vals ([] : List V) ds ∧ Binds K fd_l_no_sign ["_law_table", "_law_strange_here"] ds := ⟨[], .nil, F_l_no_sign.bindsN (ps := ["_law_table", "_law_strange_here"]) fun _ _ _ _ _ _ us hl => match us, hl with | [_, _], _ => rfl⟩
  obtain ⟨ds_l_no_sign, v_l_no_sign, b_l_no_sign⟩ := B_l_no_sign
  have G_l_no_sign : Fn PP w K mg base "_law_no_sign" 12 [] (sp_l_no_sign K) := ⟨⟨_, fd_l_no_sign, ["_law_table", "_law_strange_here"], ds_l_no_sign, O_l_no_sign.mono (by decide), glo_of X G (c.fact 97), F_l_no_sign.kp, v_l_no_sign, b_l_no_sign⟩⟩
  have O_l_no_pairs : FnOk PP w K mg base (L2.CX PP w) 7 (He.fAd K ("_law_no_pairs", none)) fd_l_no_pairs ["_law_table", "_law_signs_here", "_law_strange_here"] (sp_l_no_pairs K) := def_ok F_l_no_pairs sc_l_no_pairs len_l_no_pairs (t_l_no_pairs K) (fun cdv A outer s H E hr => tm_l_no_pairs T G_Table___contains__ hr) (rd_l_no_pairs T)
  have B_l_no_pairs : ∃ ds, Vals ([] : List V) ds ∧ Binds K fd_l_no_pairs ["_law_table", "_law_signs_here", "_law_strange_here"] ds := ⟨[], .nil, F_l_no_pairs.bindsN (ps := ["_law_table", "_law_signs_here", "_law_strange_here"]) fun _ _ _ _ _ _ us hl => match us, hl with | [_, _, _], _ => rfl⟩
  obtain ⟨ds_l_no_pairs, v_l_no_pairs, b_l_no_pairs⟩ := B_l_no_pairs
  have G_l_no_pairs : Fn PP w K mg base "_law_no_pairs" 7 [] (sp_l_no_pairs K) := ⟨⟨_, fd_l_no_pairs, ["_law_table", "_law_signs_here", "_law_strange_here"], ds_l_no_pairs, O_l_no_pairs.mono (by decide), glo_of X G (c.fact 98), F_l_no_pairs.kp, v_l_no_pairs, b_l_no_pairs⟩⟩
  have O_l_bad_pair : FnOk PP w K mg base (L2.CX PP w) 9 (He.fAd K ("_law_bad_pair", none)) fd_l_bad_pair ["_law_bag_here", "_law_alphabet", "_law_signs_here", "_law_pairs_here"] (sp_l_bad_pair K) := def_ok F_l_bad_pair sc_l_bad_pair len_l_bad_pair (t_l_bad_pair K) (fun cdv A outer s H E hr => tm_l_bad_pair T GQ_l_integer G_Table G_l_strange G_l_take hr) (rd_l_bad_pair T)
  have B_l_bad_pair : ∃ ds, Vals ([] : List V) ds ∧ Binds K fd_l_bad_pair ["_law_bag_here", "_law_alphabet", "_law_signs_here", "_law_pairs_here"] ds := ⟨[], .nil, F_l_bad_pair.bindsN (ps := ["_law_bag_here", "_law_alphabet", "_law_signs_here", "_law_pairs_here"]) fun _ _ _ _ _ _ us hl => match us, hl with | [_, _, _, _], _ => rfl⟩
  obtain ⟨ds_l_bad_pair, v_l_bad_pair, b_l_bad_pair⟩ := B_l_bad_pair
  have G_l_bad_pair : Fn PP w K mg base "_law_bad_pair" 9 [] (sp_l_bad_pair K) := ⟨⟨_, fd_l_bad_pair, ["_law_bag_here", "_law_alphabet", "_law_signs_here", "_law_pairs_here"], ds_l_bad_pair, O_l_bad_pair.mono (by decide), glo_of X G (c.fact 99), F_l_bad_pair.kp, v_l_bad_pair, b_l_bad_pair⟩⟩
  have O_Table_identity : FnOk PP w K mg base (L2.CX PP w) 9 (cmA K (He.ga K "Table") "identity") fd_Table_identity ["cls", "alphabet"] (sp_Table_identity K) := def_ok F_Table_identity sc_Table_identity len_Table_identity (t_Table_identity K) (fun cdv A outer s H E hr => tm_Table_identity T G_Table hr) (rd_Table_identity T)
  have B_Table_identity : ∃ ds, Vals ([] : List V) ds ∧ Binds K fd_Table_identity ["cls", "alphabet"] ds := ⟨[], .nil, F_Table_identity.bindsN (ps := ["cls", "alphabet"]) fun _ _ _ _ _ _ us hl => match us, hl with | [_, _], _ => rfl⟩
  obtain ⟨ds_Table_identity, v_Table_identity, b_Table_identity⟩ := B_Table_identity
  have G_Table_identity : Cmt PP w K mg base (He.ga K "Table") "identity" 9 [] (sp_Table_identity K) := ⟨.type "type", _, _, fd_Table_identity, ["cls", "alphabet"], ds_Table_identity, (cm_of (c.fact 100)).1, (cm_of (c.fact 100)).2, O_Table_identity, v_Table_identity, b_Table_identity⟩
  have O_Table_full : FnOk PP w K mg base (L2.CX PP w) 9 (cmA K (He.ga K "Table") "full") fd_Table_full ["cls", "alphabet"] (sp_Table_full K) := def_ok F_Table_full sc_Table_full len_Table_full (t_Table_full K) (fun cdv A outer s H E hr => tm_Table_full T G_Table hr) (rd_Table_full T)
  have B_Table_full : ∃ ds, Vals ([] : List V) ds ∧ Binds K fd_Table_full ["cls", "alphabet"] ds := ⟨[], .nil, F_Table_full.bindsN (ps := ["cls", "alphabet"]) fun _ _ _ _ _ _ us hl => match us, hl with | [_, _], _ => rfl⟩
  obtain ⟨ds_Table_full, v_Table_full, b_Table_full⟩ := B_Table_full
  have G_Table_full : Cmt PP w K mg base (He.ga K "Table") "full" 9 [] (sp_Table_full K) := ⟨.type "type", _, _, fd_Table_full, ["cls", "alphabet"], ds_Table_full, (cm_of (c.fact 101)).1, (cm_of (c.fact 101)).2, O_Table_full, v_Table_full, b_Table_full⟩
  have O_Table_empty : FnOk PP w K mg base (L2.CX PP w) 9 (cmA K (He.ga K "Table") "empty") fd_Table_empty ["cls", "alphabet"] (sp_Table_empty K) := def_ok F_Table_empty sc_Table_empty len_Table_empty (t_Table_empty K) (fun cdv A outer s H E hr => tm_Table_empty T G_Table hr) (rd_Table_empty T)
  have B_Table_empty : ∃ ds, Vals ([] : List V) ds ∧ Binds K fd_Table_empty ["cls", "alphabet"] ds := ⟨[], .nil, F_Table_empty.bindsN (ps := ["cls", "alphabet"]) fun _ _ _ _ _ _ us hl => match us, hl with | [_, _], _ => rfl⟩
  obtain ⟨ds_Table_empty, v_Table_empty, b_Table_empty⟩ := B_Table_empty
  have G_Table_empty : Cmt PP w K mg base (He.ga K "Table") "empty" 9 [] (sp_Table_empty K) := ⟨.type "type", _, _, fd_Table_empty, ["cls", "alphabet"], ds_Table_empty, (cm_of (c.fact 102)).1, (cm_of (c.fact 102)).2, O_Table_empty, v_Table_empty, b_Table_empty⟩
  have O_l_named : FnOk PP w K mg base (L2.CX PP w) 14 (He.fAd K ("_law_named", none)) fd_l_named ["_law_alphabet", "_law_signs_here"] (sp_l_named K) := def_ok F_l_named sc_l_named len_l_named (t_l_named K) (fun cdv A outer s H E hr => tm_l_named T G_Table_empty G_Table_full G_Table_identity G_l_is hr) (rd_l_named T)
  have B_l_named : ∃ ds, Vals ([] : List V) ds ∧ Binds K fd_l_named ["_law_alphabet", "_law_signs_here"] ds := ⟨[], .nil, F_l_named.bindsN (ps := ["_law_alphabet", "_law_signs_here"]) fun _ _ _ _ _ _ us hl => match us, hl with | [_, _], _ => rfl⟩
  obtain ⟨ds_l_named, v_l_named, b_l_named⟩ := B_l_named
  have G_l_named : Fn PP w K mg base "_law_named" 14 [] (sp_l_named K) := ⟨⟨_, fd_l_named, ["_law_alphabet", "_law_signs_here"], ds_l_named, O_l_named.mono (by decide), glo_of X G (c.fact 103), F_l_named.kp, v_l_named, b_l_named⟩⟩
  have O_l_bag : FnOk PP w K mg base (L2.CX PP w) 5 (He.fAd K ("_law_bag", none)) fd_l_bag ["_law_script"] (sp_l_bag K) := def_ok F_l_bag sc_l_bag len_l_bag (t_l_bag K) (fun cdv A outer s H E hr => tm_l_bag T  hr) (rd_l_bag T)
  have B_l_bag : ∃ ds, Vals ([] : List V) ds ∧ Binds K fd_l_bag ["_law_script"] ds := ⟨[], .nil, F_l_bag.bindsN (ps := ["_law_script"]) fun _ _ _ _ _ _ us hl => match us, hl with | [_], _ => rfl⟩
  obtain ⟨ds_l_bag, v_l_bag, b_l_bag⟩ := B_l_bag
  have G_l_bag : Fn PP w K mg base "_law_bag" 5 [] (sp_l_bag K) := ⟨⟨_, fd_l_bag, ["_law_script"], ds_l_bag, O_l_bag.mono (by decide), glo_of X G (c.fact 104), F_l_bag.kp, v_l_bag, b_l_bag⟩⟩
  have O_l_names : FnOk PP w K mg base (L2.CX PP w) 7 (He.fAd K ("_law_names", none)) fd_l_names ["_law_bag_here", "_law_count"] (sp_l_names K) := def_ok F_l_names sc_l_names len_l_names (t_l_names K) (fun cdv A outer s H E hr => tm_l_names T G_l_take hr) (rd_l_names T)
  have B_l_names : ∃ ds, Vals ([] : List V) ds ∧ Binds K fd_l_names ["_law_bag_here", "_law_count"] ds := ⟨[], .nil, F_l_names.bindsN (ps := ["_law_bag_here", "_law_count"]) fun _ _ _ _ _ _ us hl => match us, hl with | [_, _], _ => rfl⟩
  obtain ⟨ds_l_names, v_l_names, b_l_names⟩ := B_l_names
  have G_l_names : Fn PP w K mg base "_law_names" 7 [] (sp_l_names K) := ⟨⟨_, fd_l_names, ["_law_bag_here", "_law_count"], ds_l_names, O_l_names.mono (by decide), glo_of X G (c.fact 105), F_l_names.kp, v_l_names, b_l_names⟩⟩
  have O_l_signs : FnOk PP w K mg base (L2.CX PP w) 5 (He.fAd K ("_law_signs", none)) fd_l_signs ["_law_letters"] (sp_l_signs K) := def_ok F_l_signs sc_l_signs len_l_signs (t_l_signs K) (fun cdv A outer s H E hr => tm_l_signs T  hr) (rd_l_signs T)
  have B_l_signs : ∃ ds, Vals ([] : List V) ds ∧ Binds K fd_l_signs ["_law_letters"] ds := ⟨[], .nil, F_l_signs.bindsN (ps := ["_law_letters"]) fun _ _ _ _ _ _ us hl => match us, hl with | [_], _ => rfl⟩
  obtain ⟨ds_l_signs, v_l_signs, b_l_signs⟩ := B_l_signs
  have G_l_signs : Fn PP w K mg base "_law_signs" 5 [] (sp_l_signs K) := ⟨⟨_, fd_l_signs, ["_law_letters"], ds_l_signs, O_l_signs.mono (by decide), glo_of X G (c.fact 106), F_l_signs.kp, v_l_signs, b_l_signs⟩⟩
  have O_all_different : FnOk PP w K mg base (L2.CX PP w) 5 (He.fAd K ("all_different", none)) fd_all_different ["string"] (sp_all_different K) := def_ok F_all_different sc_all_different len_all_different (t_all_different K) (fun cdv A outer s H E hr => tm_all_different T  hr) (rd_all_different T)
  have B_all_different : ∃ ds, Vals ([] : List V) ds ∧ Binds K fd_all_different ["string"] ds := ⟨[], .nil, F_all_different.bindsN (ps := ["string"]) fun _ _ _ _ _ _ us hl => match us, hl with | [_], _ => rfl⟩
  obtain ⟨ds_all_different, v_all_different, b_all_different⟩ := B_all_different
  have G_all_different : Fn PP w K mg base "all_different" 5 [] (sp_all_different K) := ⟨⟨_, fd_all_different, ["string"], ds_all_different, O_all_different.mono (by decide), glo_of X G (c.fact 107), F_all_different.kp, v_all_different, b_all_different⟩⟩
  have O_Alphabet_init : FnOk PP w K mg base (L2.CX PP w) 7 (He.fAd K ("Alphabet", some "__init__")) fd_Alphabet_init ["self", "letters", "vowels"] (sp_Alphabet_init K) := def_ok F_Alphabet_init sc_Alphabet_init len_Alphabet_init (t_Alphabet_init K) (fun cdv A outer s H E hr => tm_Alphabet_init T G_all_different X_BadAlphabet hr) (rd_Alphabet_init T)
  have B_Alphabet : ∃ ds, Vals ([] : List V) ds ∧ Binds K fd_Alphabet_init ["self", "letters", "vowels"] ds := F_Alphabet_init.binds1 (ps := ["self", "letters", "vowels"]) 3 1 (List.cons_ne_nil _ _) rfl (fun _ _ _ _ _ _ _ us its h1 h2 => match us, its, h1, h2 with | [_, _, _], [_], _, _ => ⟨_, rfl, rfl⟩)
  obtain ⟨ds_Alphabet, v_Alphabet, b_Alphabet⟩ := B_Alphabet
  have G_Alphabet : Mks PP w K mg base "Alphabet" (He.ga K "Alphabet") 7 [] (sp_Alphabet_init K) := ⟨⟨_, fd_Alphabet_init, ["self", "letters", "vowels"], ds_Alphabet, O_Alphabet_init.mono (by decide), mk_of (c.fact 108), glo_of X G (c.fact 14), v_Alphabet, b_Alphabet⟩⟩
  have O_law : FnOk PP w K mg base (L2.CX PP w) 16 (He.fAd K ("law", none)) fd_law ["_law_script"] (sp_law K) := def_ok F_law sc_law len_law (t_law K) (fun cdv A outer s H E hr => tm_law T G_Alphabet G_Alphabet___eq__ G_Table G_Table___eq__ G_Table_pairs G_Table_read G_l_bad_pair G_l_bag G_l_changed G_l_is G_l_named G_l_names G_l_no_pairs G_l_no_sign G_l_outs G_l_pairs G_l_reads G_l_signs G_l_strange G_l_take G_l_written hr) (rd_law T)
  exact O_law
end Lw
open PySem PySem.W PySem.Calls PyProof.Rows
set_option maxHeartbeats 0 in
theorem PySem.Challenge.cw_talepost_k20_tables_written_holds : PySem.Challenge.rw_talepost_k20_tables_written.Holds := by
  w_on; o_law
  refine HandSHeadRun.head_any (r := OpenLaw.row PySem.Challenge.rw_talepost_k20_tables_written) (q := view (OpenLaw.row PySem.Challenge.rw_talepost_k20_tables_written).prog [43]) (H := Lw.hk) (ob := Lw.ob) (M := 12000) (loose := Lw.loose) (d := HandSHeadRun.topDef (OpenLaw.row PySem.Challenge.rw_talepost_k20_tables_written).prog 43) (kwd := []) Lw.ob_eq
    (by kernel_rfl) (fun s => by kernel_rfl) Lw.run (by kernel_rfl) (by kernel_rfl) (by kernel_rfl) (by rfl) (by first | assumption | decide +kernel) (by decide +kernel) ⟨rfl, rfl, rfl, rfl, rfl, by decide +kernel⟩ ?hw ?hc
  case hw => w_witness2
  case hc =>
    refine Ta.walk_ofX (l := PySem.Challenge.rw_talepost_k20_tables_written) (n := 63) (k := 16) (x := "_law_script") rfl (by decide) (by kernel_rfl) ⟨rfl, by decide, by decide⟩ ?F
    intro w mg fa h Y G hmg0
    obtain ⟨K, KX, c⟩ := Y
    have hmg : mg ("law" : PySem.Str) = some (.ref fa) := by
      have e : (HandSHeadRun.topDef (OpenLaw.row PySem.Challenge.rw_talepost_k20_tables_written).prog 43).name = ("law" : PySem.Str) := by kernel_rfl
      rw [← e]
      exact hmg0
    obtain ⟨fd, hb, hF⟩ := Lw.all_ok (w := w) KX G c
    have e := hmg.symm.trans (Ta.glo_of KX G (x := "law") (c.fact 110))
    cases e
    refine ⟨K, fd, Lw.sp_law K, KX, hb, fun H a ns hl hO hS => ?_, hF⟩
    obtain ⟨oj, hS⟩ := Ta.scr_of (c.fact 109) hO hS
    exact Lw.law_in hS hl

