import PyProof.Rows.All
import Wide.All
import OpenK.AllK
import Wide.FinOn
import HandS.ForMost
import HandS.ForExc
import HandS.Flow
import HandS.Defaults
import HandS.CallSlots
import HandS.IsInst
import HandS.Codes
import HandS.ExcCtx
import HandS.HotCalls
import HandS.SuiteRaise
import HandS.RaiseFrom
import HandS.ExcInitHot
import HandS.ClsMeth
import HandS.OwnEq
import HandS.Property
import HandS.ExcInit
import HandS.ExcField
import HandS.ExcIs
import HandS.Nested
import KE.KExcSuper
import KE.KExcIs
import HandS.Strs
import HandS.SetTxtIn
import HandS.More
import HandS.Replace
import HandS.ReplaceList
import HandS.Head0
import HandS.Head1
import HandS.Head2
import HandS.HeadEnd
import HandS.HeadHook1
import HandS.HeadHook2
import HandS.TupLe
import HandS.Text
import HandS.List
import PyProof.Rows.StrFirst
import HandS.Conv
import PyProof.ListStr
import HandS.Set
import HandS.SetFor
import KE.SortKeyHeap
import HandS.SortKw
import KE.KSortKey
import HandS.Style
import KE.KRevSl
import PyProof.SliceStr2
import OpenK.KMake
import HandS.Wide
import PyProof.StrLawsIn
import HandS.TryMany
import HandS.TryOnly
import KE.KCallOwn
import OpenK.KMeth
import PyProof.InstNe
import HandS.RaiseMore
import HandS.Small
import HandS.Zip
import HandS.FStr
import HandS.HeadNt
import KE.KOpsOwn
import PyProof.P3In
import PyProof.EnumMake
import PyProof.Rows.Range3
import HandS.NestedHot
import HandS.MakeKwOnly
import PySem.Challenge.RW_talepost_k36_drops
set_option Elab.async false
set_option linter.all false
set_option maxRecDepth 100000
set_option maxHeartbeats 1000000
/-! exceptions of two kinds: those of the classes named here may have a context; the context of all others is None -/
namespace L2M
open PySem PySem.Spec PyProof.Rows L2
def hotNames : List Str := ["BadStage", "BadRule", "BadLine", "Refused"]
def calmC (K : PySem.W.Frag) : Value → Bool
  | .ref C => match PySem.W.clsIn K C with
    | some cd => !(hotNames.contains cd.name)
    | none => true
  | _ => true
def Zm (K : PySem.W.Frag) (cls : Value) (d : Option Addr) : Obj → Prop := fun o => o.cls = cls ∧ o.dict = d ∧ (calmC K cls = true → PXN.CtxN o)
theorem Zm.steady {K : PySem.W.Frag} {cls : Value} {d : Option Addr} : PXN.Steady1 (Zm K cls d) := fun o v h => ⟨PXN.steady_cls o v h.1, PXN.steady_dict o v h.2.1, fun z => PXN.steady_ctx o v (h.2.2 z)⟩
theorem Zm.zc {K : PySem.W.Frag} {cls : Value} {d : Option Addr} {o : Obj} (h : Zm K cls d o) : Zc cls d o := ⟨h.1, h.2.1⟩
theorem Zm.zn {K : PySem.W.Frag} {cls : Value} {d : Option Addr} {o : Obj} (h : Zm K cls d o) (c : calmC K cls = true) : L2N.Zn cls d o := ⟨h.1, h.2.1, h.2.2 c⟩
theorem Zm.ofN {K : PySem.W.Frag} {cls : Value} {d : Option Addr} {o : Obj} (h : L2N.Zn cls d o) : Zm K cls d o := ⟨h.1, h.2.1, fun _ => h.2.2⟩
theorem Zm.ofC {K : PySem.W.Frag} {cls : Value} {d : Option Addr} {o : Obj} (h : Zc cls d o) (c : calmC K cls = false) : Zm K cls d o := ⟨h.1, h.2, fun z => by rw [c] at z; cases z⟩
theorem sky_imp {B h : Heap} {l : List Env} {a L : Addr} {Z Z' : Obj → Prop} (z : ∀ o, Z o → Z' o) (x : Sky B l a Z L h) : Sky B l a Z' L h := by
  rcases x with ⟨k1, k2, k3, oe, vs, he, hz, r⟩ | fl | ⟨k1, k2, k3, t⟩
  · exact .inl ⟨k1, k2, k3, oe, vs, he, z _ hz, r⟩
  · exact .inr (.inl (L2H.flyingZ_imp z fl))
  · exact .inr (.inr ⟨k1, k2, k3, L2H.tracedZ_imp z t⟩)
/-- an exception in the air of X -/
def XE (X : Cx) (W : WX) (u : Value) (s' : Shared) : Prop :=
  ∃ (a : Addr) (B : Heap) (sI : Shared) (pins : List (Addr × Obj)) (σ : L2.St) (H : Hp) (cls : Value) (d : Option Addr),
    u = .ref a ∧ Inv X pins σ H sI ∧ (∀ b o, sI.heap.get? b = some o → b ∉ frs X.stack → B.get? b = some o) ∧ sI.heap.UpToSlots s'.heap ∧
      Sky B X.stack a (Zm X.K cls d) X.env.locals s'.heap ∧ H a = none ∧ s'.os = sI.os ∧ AllBare s'.gens ∧ W cls d σ H
def Takes (X : Cx) (W : WX) : Prop := ∀ u s', XE X W u s' → X.xe u s'
def CX (K : PySem.W.Frag) (P : Program) (w : World) (outer : List Env) (H : Hp) (s : Shared) (E : XK) (u : Value) (s' : Shared) : Prop :=
  ∃ (a : Addr) (B : Heap) (H' : Hp) (cls : Value) (d : Option Addr), u = .ref a ∧ HandSPX.FlyingZ B outer a (Zm K cls d) s'.heap ∧ HOk P w H' B ∧ UB (frs outer) H H' s.heap B s'.heap ∧ H' a = none ∧ s'.os = s.os ∧ AllBare s'.gens ∧ E cls d H'
/-- the wish, for the classes of one kind -/
def WB (K : PySem.W.Frag) (b : Bool) (W : WX) : WX := fun cls d σ H => W cls d σ H ∧ calmC K cls = b
def EB (K : PySem.W.Frag) (b : Bool) (E : XK) : XK := fun cls d H => E cls d H ∧ calmC K cls = b
section
variable {X : Cx} {W : WX} {E : XK} {u : Value} {s' : Shared}
theorem Takes.imp {W' : WX} (t : Takes X W) (h : ∀ c d σ H, W' c d σ H → W c d σ H) : Takes X W' := fun u s' ⟨a, B, sI, pins, σ, H, cls, d, e, I, nb, up, sky, na, os, ag, w⟩ =>
  t u s' ⟨a, B, sI, pins, σ, H, cls, d, e, I, nb, up, sky, na, os, ag, h _ _ _ _ w⟩
theorem XE.ofN (x : L2N.XE X W u s') : XE X W u s' := by
  obtain ⟨a, B, sI, pins, σ, H, cls, d, e, I, nb, up, sky, r⟩ := x
  exact ⟨a, B, sI, pins, σ, H, cls, d, e, I, nb, up, sky_imp (fun o z => Zm.ofN z) sky, r⟩
theorem XE.ofC (x : L2.XE X (WB X.K false W) u s') : XE X W u s' := by
  obtain ⟨a, B, sI, pins, σ, H, cls, d, e, I, nb, up, sky, na, os, ag, w, c⟩ := x
  exact ⟨a, B, sI, pins, σ, H, cls, d, e, I, nb, up, sky_imp (fun o z => Zm.ofC z c) sky, na, os, ag, w⟩
theorem XE.cases (x : XE X W u s') : L2N.XE X (WB X.K true W) u s' ∨ L2.XE X (WB X.K false W) u s' := by
  obtain ⟨a, B, sI, pins, σ, H, cls, d, e, I, nb, up, sky, na, os, ag, w⟩ := x
  cases c : calmC X.K cls with
  | true => exact .inl ⟨a, B, sI, pins, σ, H, cls, d, e, I, nb, up, sky_imp (fun o z => z.zn c) sky, na, os, ag, w, c⟩
  | false => exact .inr ⟨a, B, sI, pins, σ, H, cls, d, e, I, nb, up, sky_imp (fun o z => z.zc) sky, na, os, ag, w, c⟩
theorem Takes.n (t : Takes X W) : L2N.Takes X W := fun u s' x => t u s' (XE.ofN x)
theorem Takes.c (t : Takes X W) : L2.Takes X (WB X.K false W) := fun u s' x => t u s' (XE.ofC x)
theorem CX.ofN {K : PySem.W.Frag} {P : Program} {w : World} {outer : List Env} {H : Hp} {s : Shared} (x : L2N.CX P w outer H s E u s') : CX K P w outer H s E u s' := by
  obtain ⟨a, B, H', cls, d, e, fl, r⟩ := x
  exact ⟨a, B, H', cls, d, e, L2H.flyingZ_imp (fun o z => Zm.ofN z) fl, r⟩
theorem CX.ofC {K : PySem.W.Frag} {P : Program} {w : World} {outer : List Env} {H : Hp} {s : Shared} (x : L2.CX P w outer H s (EB K false E) u s') : CX K P w outer H s E u s' := by
  obtain ⟨a, B, H', cls, d, e, fl, h1, h2, h3, h4, h5, q, c⟩ := x
  exact ⟨a, B, H', cls, d, e, L2H.flyingZ_imp (fun o z => Zm.ofC z c) fl, h1, h2, h3, h4, h5, q⟩
theorem CX.mono {K : PySem.W.Frag} {P : Program} {w : World} {outer : List Env} {H : Hp} {s : Shared} {E' : XK} (h : ∀ c d H, E c d H → E' c d H) (x : CX K P w outer H s E u s') : CX K P w outer H s E' u s' := by
  obtain ⟨a, B, H', cls, d, e, fl, h1, h2, h3, h4, h5, q⟩ := x
  exact ⟨a, B, H', cls, d, e, fl, h1, h2, h3, h4, h5, h _ _ _ q⟩
theorem CX.cases {K : PySem.W.Frag} {P : Program} {w : World} {outer : List Env} {H : Hp} {s : Shared} (x : CX K P w outer H s E u s') : L2N.CX P w outer H s (EB K true E) u s' ∨ L2.CX P w outer H s (EB K false E) u s' := by
  obtain ⟨a, B, H', cls, d, e, fl, h1, h2, h3, h4, h5, q⟩ := x
  cases c : calmC K cls with
  | true => exact .inl ⟨a, B, H', cls, d, e, L2H.flyingZ_imp (fun o z => z.zn c) fl, h1, h2, h3, h4, h5, q, c⟩
  | false => exact .inr ⟨a, B, H', cls, d, e, L2H.flyingZ_imp (fun o z => z.zc) fl, h1, h2, h3, h4, h5, q, c⟩
/-- a call's exception is in our air -/
theorem XE.of_call {pins : List (Addr × Obj)} {σ : L2.St} {H : Hp} {s : Shared} (I : Inv X pins σ H s) (hW : ∀ cls d H', E cls d H' → W cls d σ H') (c : CX X.K X.prog X.w X.stack H s E u s') : XE X W u s' := by
  rcases c.cases with c | c
  · exact XE.ofN (L2N.XE.of_call I (fun cls d H' h => hW _ _ _ h.1) c)
  · exact XE.ofC (L2.XE.of_call I (fun cls d H' h => ⟨hW _ _ _ h.1, h.2⟩) c)
/-- it leaves the def -/
theorem XE.leave (hs : X.stack = X.env :: X.outer) (hf : X.env.frame = some X.env.locals) (hex : X.ex = []) {E₁ : Value → Shared → Prop} (hW : ∀ cls d σ H, W cls d σ H → E cls d H) (x : XE X W u s') :
    wpAny (model X.prog X.w) X.A (leaving X.env u) (fun _ s'' => CX X.K X.prog X.w X.outer X.H_0 X.s_0 E u s'') E₁ s' := by
  rcases x.cases with x | x
  · exact wpAny_mono (L2N.XE.leave (E := E) hs hf hex (fun _ _ _ _ h => hW _ _ _ _ h.1) x) (fun _ _ z => CX.ofN z) fun _ _ z => z
  · exact wpAny_mono (L2.XE.leave (E := EB X.K false E) hs hf hex (fun _ _ _ _ h => ⟨hW _ _ _ _ h.1, h.2⟩) x) (fun _ _ z => CX.ofC z) fun _ _ z => z
theorem takes_of (hs : X.stack = X.env :: X.outer) (hf : X.env.frame = some X.env.locals) (hex : X.ex = []) {E₁ : Value → Shared → Prop}
    (hx : X.xe = fun e s' => wpAny (model X.prog X.w) X.A (leaving X.env e) (fun _ s'' => CX X.K X.prog X.w X.outer X.H_0 X.s_0 E e s'') E₁ s') : Takes X (fun cls d _ H => E cls d H) := fun u s' x => by
  rw [hx]
  exact XE.leave (W := fun cls d _ H => E cls d H) (E := E) hs hf hex (fun _ _ _ _ h => h) x
theorem passes_call (tk : Takes X W) (hW : ∀ cls d σ H, E cls d H → W cls d σ H) : ∀ (pins : List (Addr × Obj)) (σ : L2.St) (H : Hp) (s : Shared) (e : Value) (s' : Shared), Inv X pins σ H s → CX X.K X.prog X.w X.stack H s E e s' → X.xe e s' :=
  fun _ σ _ _ e s' I c => tk e s' (XE.of_call I (fun cls d H' h => hW cls d σ H' h) c)
theorem passAt (tk : Takes X W) (σ : L2.St) : PassesAt (CX X.K X.prog X.w) X σ (WE W σ) := fun _ _ _ e s' I c => tk e s' (XE.of_call I (fun _ _ _ h => h) c)
theorem takes0 : Takes X (fun _ _ _ _ => False) := fun _ _ x => by
  obtain ⟨_, _, _, _, _, _, _, _, _, _, _, _, _, _, _, _, z⟩ := x
  exact z.elim
theorem ps_raise {e : Expr} {t : L2.St → Hp → XK → Prop} {pos : Pos} (hc : X.calm = true) (tk : Takes X W) (he : L2N.PMk X e t) : PS X (.Raise (some e) none pos) (fun _ σ H => t σ H fun cls d H' => W cls d σ H') := L2N.ps_raise hc tk.n he
abbrev MkP := L2N.MkP
abbrev PMk := L2N.PMk
/-- a new exception, of any kind -/
theorem XE.new {pins : List (Addr × Obj)} {σ : L2.St} {H : Hp} {sI : Shared} {a : Addr} {oe : Obj} {vs : Array Value} {cls : Value} {d : Option Addr} (I : Inv X pins σ H sI) (k : ∀ b o, sI.heap.get? b = some o → s'.heap.get? b = some o) (hne : sI.heap.get? a = none) (he : s'.heap.get? a = some oe)
    (hz : Zm X.K cls d oe) (hd : oe.data = .fields vs) (h1 : vs[1]? = some .none) (na : H a = none) (os : s'.os = sI.os) (ag : AllBare s'.gens) (w : W cls d σ H) : XE X W (.ref a) s' := by
  cases c : calmC X.K cls with
  | true => exact XE.ofN (L2N.XE.new I k hne he (hz.zn c) hd h1 na os ag w)
  | false => exact XE.ofC (L2.XE.new I k hne he hz.zc hd h1 na os ag ⟨w, c⟩)
end
end L2M

set_option Elab.async false
set_option linter.all false
set_option maxRecDepth 100000
set_option maxHeartbeats 1000000
namespace Ta
open PySem PySem.Spec PyProof.Rows L2
abbrev St := L2.St

/-! ### texts as lists of codes -/
abbrev tl (x : Str) : List Nat := x.cps.toList
abbrev S (l : List Nat) : Str := ⟨l.toArray⟩
theorem tl_S (l : List Nat) : tl (S l) = l := rfl
theorem S_tl (x : Str) : S (tl x) = x := TL.mk_tl x
theorem ext_tl {x y : Str} (h : tl x = tl y) : x = y := TL.ext_tl h
theorem len_tl (x : Str) : x.length = (tl x).length := TL.len_tl x
theorem add_S (x y : Str) : x ++ y = S (tl x ++ tl y) := ext_tl (TL.tl_append x y)

/-! ### marks: a look at the heap, a branch -/
structure look (H : Hp) (p : Addr) (k : Option HO → Prop) : Prop where
  out : k (H p)
theorem look_i {H : Hp} {p : Addr} {k : Option HO → Prop} {o : HO} (h : H p = some o) (q : k (some o)) : look H p k := by
  refine ⟨?_⟩; rw [h]; exact q
theorem look_n {H : Hp} {p : Addr} {k : Option HO → Prop} (h : H p = none) (q : k none) : look H p k := by
  refine ⟨?_⟩; rw [h]; exact q
theorem look_e {H : Hp} {p : Addr} {k : Option HO → Prop} (q : look H p k) : k (H p) := by
  replace q := q.out; exact q
structure cnd (c : Bool) (p q : Prop) : Prop where
  out : match c with
  | true => p
  | false => q
theorem cnd_i {c : Bool} {p q : Prop} (h1 : c = true → p) (h2 : c = false → q) : cnd c p q := by
  refine ⟨?_⟩; cases c
  · exact h2 rfl
  · exact h1 rfl
theorem cnd_t {c : Bool} {p q : Prop} (h : c = true) (h1 : p) : cnd c p q := by refine ⟨?_⟩; rw [h]; exact h1
theorem cnd_f {c : Bool} {p q : Prop} (h : c = false) (h1 : q) : cnd c p q := by refine ⟨?_⟩; rw [h]; exact h1
theorem cnd_e {c : Bool} {p q : Prop} (h : cnd c p q) : if c = true then p else q := by
  replace h := h.out; cases c
  · exact h
  · exact h

/-! ### weakening -/
section
variable {X : Cx}
theorem pe_imp {e : Expr} {t t' : TE} (h : PE X e t) (i : ∀ σ H Q, t' σ H Q → t σ H Q) : PE X e t' := ⟨fun pins s σ H Q I q => h.run pins s σ H Q I (i σ H Q q)⟩
theorem pt_imp {e : Expr} {t t' : TT} (h : PT X e t) (i : ∀ σ H Q, t' σ H Q → t σ H Q) : PT X e t' := ⟨fun pins s σ H Q I q => h.run pins s σ H Q I (i σ H Q q)⟩
theorem pw_imp {e : Expr} {t t' : TT} (h : PW X e t) (i : ∀ σ H Q, t' σ H Q → t σ H Q) : PW X e t' := ⟨fun whole pins s σ H Q I q => h.run whole pins s σ H Q I (i σ H Q q)⟩
theorem ps_imp {e : Stmt} {t t' : TS} (h : PS X e t) (i : ∀ D σ H, t' D σ H → t D σ H) : PS X e t' := ⟨fun pins s σ H D I q => h.run pins s σ H D I (i D σ H q)⟩
theorem pss_imp {e : List Stmt} {t t' : TS} (h : PSs X e t) (i : ∀ D σ H, t' D σ H → t D σ H) : PSs X e t' := ⟨fun pins s σ H D I q => h.run pins s σ H D I (i D σ H q)⟩
theorem op_imp {f : Value → Value → Sem Value} {r r' : R2} (h : OpR X f r) (i : ∀ x y H Q, r' x y H Q → r x y H Q) : OpR X f r' := fun pins s σ H x y v u Q I rx ry q => h pins s σ H x y v u Q I rx ry (i x y H Q q)
theorem ix_imp {r r' : R2} (h : IxR X r) (i : ∀ x y H Q, r' x y H Q → r x y H Q) : IxR X r' := fun va sl pins s σ H x y v u Q I rx ry q => h va sl pins s σ H x y v u Q I rx ry (i x y H Q q)
theorem cr_imp {f : Value} {r r' : List V → Hp → VK → Prop} (h : CallR X f r) (i : ∀ xs H Q, r' xs H Q → r xs H Q) : CallR X f r' := fun pins s σ H xs us Q I rx q => h pins s σ H xs us Q I rx (i xs H Q q)
theorem sl_imp {r r' : V → Option Int → Option Int → Hp → VK → Prop} (h : SlR X r) (i : ∀ x a b H Q, r' x a b H Q → r x a b H Q) : SlR X r' := fun pins s σ H x v vl vu lo hi sl Q I rx rs pl pu q => h pins s σ H x v vl vu lo hi sl Q I rx rs pl pu (i x lo hi H Q q)
theorem mt_imp {id : String} {r r' : V → List V → Hp → VK → Prop} (h : MtR X id r) (i : ∀ x xs H Q, r' x xs H Q → r x xs H Q) : MtR X id r' := fun pins s σ H x xs v us Q I rx rs q => h pins s σ H x xs v us Q I rx rs (i x xs H Q q)
end

/-! ### limits -/
def Lim (n : Nat) : Prop := n ≤ sizeLine
theorem lim_of {n : Nat} (h : n ≤ 16777216) : Lim n := by unfold Lim; rw [sizeLine_eq]; exact h

/-! ### names, constants -/
section
variable {X : Cx}
def tV (i : Nat) : TE := fun σ H Q => match σ[i]? with
  | some (some v) => Q v H
  | _ => False
theorem tV_e {i : Nat} {σ : St} {H : Hp} {Q : VK} (h : tV i σ H Q) : tVar i σ H Q := by
  unfold tV at h
  split at h
  · rename_i v e
    exact ⟨v, e, h⟩
  · exact h.elim
theorem pv (i : Nat) {x : Str} {pos : Pos} (hN : X.N[i]? = some x := by rfl) (hv : Vis X.env.scope x := by first | exact Or.inl rfl | exact Or.inr (Or.inl rfl) | exact Or.inr (Or.inr rfl)) (hd : (x == ("__debug__" : Str)) = false := by decide +kernel)
    (hcd : (x == ("__classdict__" : Str)) = false := by decide +kernel) : PE X (.Name x pos) (tV i) := pe_imp (pe_var hN hv hd hcd) fun _ _ _ h => tV_e h
theorem pstr (l : List Nat) {x : Str} {j : Nat} {pos : Pos} (h : x = S l := by decide +kernel) : PE X (.Constant (.str x) j pos) (tC (.str (S l))) := by
  subst h; exact pe_str

/-! ### truth -/
def truP (K : PySem.W.Frag) (x : V) (H : Hp) (Q : Bool → Prop) : Prop := match x with
  | .non => Q false
  | .bl b => Q b
  | .int i => Q (!decide (i = 0))
  | .str y => Lim (tl y).length ∧ Q (!(tl y).isEmpty)
  | .ref p => look H p fun o => match o with
    | some (.lst xs) => Q (!xs.isEmpty)
    | some (.tup xs) => Q (!xs.isEmpty)
    | some (.dK kvs) => Q (!kvs.isEmpty)
    | some (.frz _ (.lst xs)) => Q (!xs.isEmpty)
    | _ => ∃ xs, (SqL K H p xs ∨ SqT K H p xs) ∧ Q (!xs.isEmpty)
  | _ => False
theorem truP_e {K : PySem.W.Frag} {x : V} {H : Hp} {Q : Bool → Prop} (h : truP K x H Q) : ∃ k, TruV K x H k ∧ Q k := by
  cases x with
  | non => exact ⟨false, rfl, h⟩
  | bl b => exact ⟨b, rfl, h⟩
  | int i => exact ⟨!decide (i = 0), by show (!decide (i = 0)) = (i != 0); simp only [bne]; congr 1, h⟩
  | str y =>
    obtain ⟨h1, h2⟩ := h
    refine ⟨!(tl y).isEmpty, ⟨by rw [len_tl]; exact h1, ?_⟩, h2⟩
    rw [len_tl]
    cases e : tl y with
    | nil => rfl
    | cons c r => simp; omega
  | ref p =>
    have h' := look_e h
    revert h'
    cases e : H p with
    | none => exact fun ⟨xs, h1, h2⟩ => ⟨_, h1.elim (fun z => .inl ⟨xs, z, rfl⟩) (fun z => .inr (.inl ⟨xs, z, rfl⟩)), h2⟩
    | some o =>
      cases o with
      | lst xs => exact fun h2 => ⟨_, .inl ⟨xs, SqL.of e, rfl⟩, h2⟩
      | tup xs => exact fun h2 => ⟨_, .inr (.inl ⟨xs, SqT.of e, rfl⟩), h2⟩
      | dK xs => exact fun h2 => ⟨_, .inr (.inr ⟨xs, e, rfl⟩), h2⟩
      | frz ob u =>
        cases u with
        | lst xs => exact fun h2 => ⟨_, .inl ⟨xs, .inl (.inr ⟨_, e⟩), rfl⟩, h2⟩
        | _ => exact fun ⟨xs, h1, h2⟩ => ⟨_, h1.elim (fun z => .inl ⟨xs, z, rfl⟩) (fun z => .inr (.inl ⟨xs, z, rfl⟩)), h2⟩
      | _ => exact fun ⟨xs, h1, h2⟩ => ⟨_, h1.elim (fun z => .inl ⟨xs, z, rfl⟩) (fun z => .inr (.inl ⟨xs, z, rfl⟩)), h2⟩
  | _ => exact h.elim
def tTru (K : PySem.W.Frag) (ta : TE) : TT := fun σ H Q => ta σ H fun x H1 => truP K x H1 fun k => Q k H1
variable {a b c : Expr} {ta tb tc : TE} {rest : List Expr} {pos : Pos}
theorem ptru (ha : PE X a ta) (he : ∀ whole, isTrue a X.env whole = (do let v ← whole; standAt a.pos; holding [v] (truthy v)) := by intro _; rfl) : PT X a (tTru X.K ta) := by
  refine ⟨fun pins s σ H Q I h => ?_⟩
  exact isTrue_plain (thn (ha.run pins s σ H _ I h) fun v s1 ⟨x, H1, I1, r1, q1⟩ => tru_ok pins s1 σ H1 x v Q I1 r1 (truP_e (Q := fun k => Q k H1) q1)) (he _)
/-- a test that is a comparison -/
def tTst (t : TE) : TT := fun σ H Q => t σ H fun x H' => match x with
  | .bl k => Q k H'
  | _ => False
theorem bl_of {x : V} {P : Bool → Prop} (h : match x with | .bl k => P k | _ => False) : ∃ k, x = .bl k ∧ P k := by
  cases x with
  | bl k => exact ⟨k, rfl, h⟩
  | _ => exact h.elim
theorem ptcmp {op : CmpOp} {r : R2} (ho : OpR X (compareOp op) r) (ha : PE X a ta) (hb : PE X b tb) (hm : behindInMarks op b = false := by rfl) : PT X (.Compare a [op] [b] pos) (tTst (tOp r ta tb)) := by
  refine ⟨fun pins s σ H Q I h => ?_⟩
  refine wpAny_isTrue_Compare1 (binT ha hb I h fun v u s2 x y H2 I2 rx ry q => ?_) hm
  refine thn (ho pins s2 σ H2 x y v u _ I2 rx ry q) fun c s3 ⟨z, H3, I3, r3, q3⟩ => ?_
  obtain ⟨k, rfl, q3⟩ := bl_of q3
  cases r3
  exact wpAny_truthy_bool ⟨H3, I3, q3⟩
def tAndP (t u : TT) : TT := fun σ H Q => t σ H fun c H1 => cnd c (u σ H1 Q) (Q false H1)
def tOrP (t u : TT) : TT := fun σ H Q => t σ H fun c H1 => cnd c (Q true H1) (u σ H1 Q)
variable {tA tB' : TT}
theorem pwand (ha : PT X a tA) (hb : PW X (.BoolOp .And (b :: rest) pos) tB') : PW X (.BoolOp .And (a :: b :: rest) pos) (tAndP tA tB') := by
  refine ⟨fun wh pins s σ H Q I h => ?_⟩
  refine isTrue_and (thn (ha.run pins s σ H _ I h) fun c s1 ⟨H1, I1, q1⟩ => ?_)
  have q1 := cnd_e q1
  cases c with
  | true => exact hb.run wh pins s1 σ H1 Q I1 q1
  | false => exact ⟨H1, I1, q1⟩
theorem pwor (ha : PT X a tA) (hb : PW X (.BoolOp .Or (b :: rest) pos) tB') : PW X (.BoolOp .Or (a :: b :: rest) pos) (tOrP tA tB') := by
  refine ⟨fun wh pins s σ H Q I h => ?_⟩
  refine isTrue_or (thn (ha.run pins s σ H _ I h) fun c s1 ⟨H1, I1, q1⟩ => ?_)
  have q1 := cnd_e q1
  cases c with
  | true => exact ⟨H1, I1, q1⟩
  | false => exact hb.run wh pins s1 σ H1 Q I1 q1
/-! ### and, or, not as values -/
def tAndE (K : PySem.W.Frag) (ta tb : TE) : TE := fun σ H Q => ta σ H fun x H1 => truP K x H1 fun k => cnd k (tb σ H1 Q) (Q x H1)
def tOrE (K : PySem.W.Frag) (ta tb : TE) : TE := fun σ H Q => ta σ H fun x H1 => truP K x H1 fun k => cnd k (Q x H1) (tb σ H1 Q)
def tNotE (K : PySem.W.Frag) (ta : TE) : TE := fun σ H Q => ta σ H fun x H1 => truP K x H1 fun k => Q (.bl (!k)) H1
theorem peor (ha : PE X a ta) (hb : PE X (.BoolOp .Or (b :: rest) pos) tb) : PE X (.BoolOp .Or (a :: b :: rest) pos) (tOrE X.K ta tb) := by
  refine ⟨fun pins s σ H Q I h => ?_⟩
  refine BoolOp_or (thn (ha.run pins s σ H _ I h) fun v s1 ⟨x, H1, I1, r1, q1⟩ => ?_)
  obtain ⟨k, e, q1⟩ := truP_e q1
  refine thn (tru_ok pins s1 σ H1 x v (fun c H2 => c = k ∧ H2 = H1) I1 r1 ⟨k, e, rfl, rfl⟩) fun c s2 hc => ?_
  obtain ⟨H2, I2, e1, e2⟩ := hc
  rw [e2] at I2
  rw [← e1] at q1
  have q1 := cnd_e q1
  cases c with
  | true => exact ⟨x, H1, I2, r1, q1⟩
  | false => exact hb.run pins s2 σ H1 Q I2 q1
theorem peand (ha : PE X a ta) (hb : PE X (.BoolOp .And (b :: rest) pos) tb) : PE X (.BoolOp .And (a :: b :: rest) pos) (tAndE X.K ta tb) := by
  refine ⟨fun pins s σ H Q I h => ?_⟩
  refine BoolOp_and (thn (ha.run pins s σ H _ I h) fun v s1 ⟨x, H1, I1, r1, q1⟩ => ?_)
  obtain ⟨k, e, q1⟩ := truP_e q1
  refine thn (tru_ok pins s1 σ H1 x v (fun c H2 => c = k ∧ H2 = H1) I1 r1 ⟨k, e, rfl, rfl⟩) fun c s2 hc => ?_
  obtain ⟨H2, I2, e1, e2⟩ := hc
  rw [e2] at I2
  rw [← e1] at q1
  have q1 := cnd_e q1
  cases c with
  | true => exact hb.run pins s2 σ H1 Q I2 q1
  | false => exact ⟨x, H1, I2, r1, q1⟩
theorem penot (ha : PE X a ta) : PE X (.UnaryOp .Not a pos) (tNotE X.K ta) := by
  refine ⟨fun pins s σ H Q I h => ?_⟩
  refine UnaryOp_ (thn (ha.run pins s σ H _ I h) fun v s1 ⟨x, H1, I1, r1, q1⟩ => ?_)
  obtain ⟨k, e, q1⟩ := truP_e q1
  exact not_of (thn (tru_ok pins s1 σ H1 x v (fun c H2 => Q (.bl (!c)) H2) I1 r1 ⟨k, e, q1⟩) fun c s2 ⟨H2, I2, q2⟩ => ⟨.bl (!c), H2, I2, rfl, q2⟩)
def tIfE (t : TT) (ta tb : TE) : TE := fun σ H Q => t σ H fun c H1 => cnd c (ta σ H1 Q) (tb σ H1 Q)
theorem peif (hc : PT X c tA) (ha : PE X a ta) (hb : PE X b tb) : PE X (.IfExp c a b pos) (tIfE tA ta tb) := by
  refine ⟨fun pins s σ H Q I h => ?_⟩
  refine wpAny_IfExp (thn (hc.run pins s σ H _ I h) fun d s1 ⟨H1, I1, q1⟩ => ?_)
  have q1 := cnd_e q1
  cases d with
  | true => exact ha.run pins s1 σ H1 Q I1 q1
  | false => exact hb.run pins s1 σ H1 Q I1 q1
/-- a op1 b op2 c -/
def tChn (r r' : R2) (ta tb tc : TE) : TE := fun σ H Q => ta σ H fun x H1 => tb σ H1 fun y H2 => r x y H2 fun z H3 => match z with
  | .bl k => cnd k (tc σ H3 fun w' H4 => r' y w' H4 Q) (Q (.bl false) H3)
  | _ => False
theorem pechn {op op' : CmpOp} {r r' : R2} (ho : OpR X (compareOp op) r) (ho' : OpR X (compareOp op') r') (ha : PE X a ta) (hb : PE X b tb) (hc : PE X c tc)
    (hm : lastMarks [op, op'] [b, c] = false := by with_unfolding_all rfl) : PE X (.Compare a [op, op'] [b, c] pos) (tChn r r' ta tb tc) := by
  refine ⟨fun pins s σ H Q I h => ?_⟩
  refine Compare_chain (thn (ha.run pins s σ H _ I h) fun v s1 ⟨x, H1, I1, r1, q1⟩ => chain_link (thn (hb.run pins s1 σ H1 _ I1 q1) fun u s2 ⟨y, H2, I2, r2, q2⟩ =>
    thn (ho pins s2 σ H2 x y v u _ I2 r1 r2 q2) fun d s3 ⟨z, H3, I3, r3, q3⟩ => ?_)) hm
  obtain ⟨k, rfl, q3⟩ := bl_of q3
  have q3 := cnd_e q3
  cases r3
  refine wpAny_truthy_bool ?_
  cases k with
  | false => exact ite_ff ⟨.bl false, H3, I3, rfl, q3⟩
  | true => exact ite_tt (chain_last (thn (hc.run pins s3 σ H3 _ I3 q3) fun w' s4 ⟨z', H4, I4, r4, q4⟩ => ho' pins s4 σ H4 y z' u w' Q I4 r2 r4 q4))
theorem ptchn {op op' : CmpOp} {r r' : R2} (ho : OpR X (compareOp op) r) (ho' : OpR X (compareOp op') r') (ha : PE X a ta) (hb : PE X b tb) (hc : PE X c tc)
    (hm : lastMarks [op, op'] [b, c] = false := by with_unfolding_all rfl) : PT X (.Compare a [op, op'] [b, c] pos) (tTst (tChn r r' ta tb tc)) := by
  refine ⟨fun pins s σ H Q I h => ?_⟩
  refine isTrue_chain (thn (ha.run pins s σ H _ I h) fun v s1 ⟨x, H1, I1, r1, q1⟩ => test_link (thn (hb.run pins s1 σ H1 _ I1 q1) fun u s2 ⟨y, H2, I2, r2, q2⟩ =>
    thn (ho pins s2 σ H2 x y v u _ I2 r1 r2 q2) fun d s3 ⟨z, H3, I3, r3, q3⟩ => ?_)) hm
  obtain ⟨k, rfl, q3⟩ := bl_of q3
  have q3 := cnd_e q3
  cases r3
  refine wpAny_truthy_bool ?_
  cases k with
  | false => exact ite_ff ⟨H3, I3, q3⟩
  | true =>
    refine ite_tt (test_last (thn (hc.run pins s3 σ H3 _ I3 q3) fun w' s4 ⟨z', H4, I4, r4, q4⟩ => thn (ho' pins s4 σ H4 y z' u w' _ I4 r2 r4 q4) fun d' s5 ⟨z2, H5, I5, r5, q5⟩ => ?_))
    obtain ⟨k2, rfl, q5⟩ := bl_of q5
    cases r5
    exact wpAny_truthy_bool ⟨H5, I5, q5⟩
end

/-! ### operators by value -/
section
variable {X : Cx}
def zAdd : R2 := fun x y H Q => match x with
  | .int i => (match y with
    | .int j => Q (.int (i + j)) H
    | _ => False)
  | .str a => (match y with
    | .str b => Lim ((tl a).length + (tl b).length) ∧ Q (.str (S (tl a ++ tl b))) H
    | _ => False)
  | .ref p => (match y with
    | .ref q => look H p fun o => match o with
      | some (.lst xs) => look H q fun o' => (match o' with
        | some (.lst ys) => Lim (xs.length + ys.length) ∧ ∀ r, H r = none → Q (.ref r) (upd H r (.lst (xs ++ ys)))
        | _ => False)
      | _ => False
    | _ => False)
  | _ => False
theorem opadd : OpR X (binaryOp .Add) zAdd := by
  intro pins s σ H x y v u Q I rx ry h
  cases x with
  | int i =>
    cases y with
    | int j => exact op_add pins s σ H _ _ v u Q I rx ry ⟨i, j, rfl, rfl, h⟩
    | _ => exact False.elim h
  | str i =>
    cases y with
    | str j => exact op_add_str pins s σ H _ _ v u Q I rx ry ⟨i, j, rfl, rfl, by rw [len_tl, len_tl]; exact h.1, by rw [add_S]; exact h.2⟩
    | _ => exact False.elim h
  | ref p =>
    cases y with
    | ref q =>
      have h := look_e h
      cases e : H p with
      | none => rw [e] at h; exact h.elim
      | some o =>
        rw [e] at h
        cases o with
        | lst xs =>
          have h := look_e h
          cases e' : H q with
          | none => rw [e'] at h; exact h.elim
          | some o' =>
            rw [e'] at h
            cases o' with
            | lst ys => exact op_cat pins s σ H _ _ v u Q I rx ry ⟨p, q, xs, ys, rfl, rfl, e, e', h.1, h.2⟩
            | _ => exact h.elim
        | _ => exact h.elim
    | _ => exact False.elim h
  | _ => exact False.elim h
def zI2 (C : Int → Int → Prop) (g : Int → Int → V) : R2 := fun x y H Q => match x with
  | .int i => (match y with
    | .int j => C i j ∧ Q (g i j) H
    | _ => False)
  | _ => False
def zI2f (g : Int → Int → V) : R2 := fun x y H Q => match x with
  | .int i => (match y with
    | .int j => Q (g i j) H
    | _ => False)
  | _ => False
theorem zI2_e {C : Int → Int → Prop} {g : Int → Int → V} {x y : V} {H : Hp} {Q : VK} (h : zI2 C g x y H Q) : rI C g x y H Q := by
  cases x with
  | int i => cases y with
    | int j => exact ⟨i, j, rfl, rfl, h.1, h.2⟩
    | _ => exact h.elim
  | _ => exact h.elim
theorem zI2f_e {g : Int → Int → V} {x y : V} {H : Hp} {Q : VK} (h : zI2f g x y H Q) : rI0 g x y H Q := by
  cases x with
  | int i => cases y with
    | int j => exact ⟨i, j, rfl, rfl, h⟩
    | _ => exact h.elim
  | _ => exact h.elim
def zSub : R2 := zI2f fun i j => .int (i - j)
def zMul : R2 := zI2 CMul fun i j => .int (i * j)
def zMod : R2 := zI2 (fun _ j => 0 < j) fun i j => .int (i % j)
def zDiv : R2 := zI2 CDiv fun i j => .int (i / j)
def zPow : R2 := zI2 CPow fun i j => .int (i ^ j.toNat)
theorem opsub : OpR X (binaryOp .Sub) zSub := op_imp op_sub fun _ _ _ _ h => zI2f_e h
theorem opmul : OpR X (binaryOp .Mult) zMul := op_imp op_mul fun _ _ _ _ h => zI2_e h
theorem opmod : OpR X (binaryOp .Mod) zMod := op_imp op_mod fun _ _ _ _ h => zI2_e h
theorem opdiv : OpR X (binaryOp .FloorDiv) zDiv := op_imp op_fdiv fun _ _ _ _ h => zI2_e h
theorem oppow : OpR X (binaryOp .Pow) zPow := op_imp op_pow fun _ _ _ _ h => zI2_e h
def zNeg : V → Hp → VK → Prop := fun x H Q => match x with
  | .int i => Q (.int (-i)) H
  | _ => False
theorem unneg : UnR X (unaryOp .USub) zNeg := fun pins s σ H x v Q I rx h => by
  cases x with
  | int i => exact un_neg pins s σ H _ v Q I rx ⟨i, rfl, h⟩
  | _ => exact h.elim
/-! comparisons -/
def zLt : R2 := fun x y H Q => match x with
  | .int i => (match y with
    | .int j => Q (.bl (decide (i < j))) H
    | _ => False)
  | .str a => (match y with
    | .str b => Q (.bl (decide (tl a < tl b))) H
    | _ => False)
  | _ => False
theorem oplt : OpR X (compareOp .Lt) zLt := by
  intro pins s σ H x y v u Q I rx ry h
  cases x with
  | int i => cases y with
    | int j => exact op_lt pins s σ H _ _ v u Q I rx ry ⟨i, j, rfl, rfl, h⟩
    | _ => exact False.elim h
  | str i => cases y with
    | str j => exact op_lt_str pins s σ H _ _ v u Q I rx ry ⟨i, j, rfl, rfl, h⟩
    | _ => exact False.elim h
  | _ => exact False.elim h
def zLe : R2 := zI2f fun i j => .bl (decide (i ≤ j))
def zGt : R2 := zI2f fun i j => .bl (decide (j < i))
def zGe : R2 := zI2f fun i j => .bl (decide (j ≤ i))
theorem ople : OpR X (compareOp .LtE) zLe := op_imp op_le fun _ _ _ _ h => zI2f_e h
theorem opgt : OpR X (compareOp .Gt) zGt := op_imp op_gt fun _ _ _ _ h => zI2f_e h
theorem opge : OpR X (compareOp .GtE) zGe := op_imp op_ge fun _ _ _ _ h => zI2f_e h
/-- == of data at addresses -/
structure dpq (K : PySem.W.Frag) (x y : V) (H : Hp) (Q : Bool → Prop) : Prop where
  out : ∃ d e, Dp K H x d ∧ Dp K H y e ∧ SeqAt.shaped d = true ∧ SeqAt.shaped e = true ∧ Q (PyData.eqv d e)
theorem dpq_i {K : PySem.W.Frag} {x y : V} {H : Hp} {Q : Bool → Prop} {d e : PyData} (h1 : Dp K H x d) (h2 : Dp K H y e) (h3 : SeqAt.shaped d = true) (h4 : SeqAt.shaped e = true) (q : Q (PyData.eqv d e)) : dpq K x y H Q := by refine ⟨?_⟩; exact ⟨d, e, h1, h2, h3, h4, q⟩
theorem dpq_e {K : PySem.W.Frag} {x y : V} {H : Hp} {Q : Bool → Prop} (h : dpq K x y H Q) : ∃ d e, Dp K H x d ∧ Dp K H y e ∧ SeqAt.shaped d = true ∧ SeqAt.shaped e = true ∧ Q (PyData.eqv d e) := by replace h := h.out; exact h
/-- what == tells of two values; data at addresses by Dp -/
def eqP (K : PySem.W.Frag) (x y : V) (H : Hp) (Q : Bool → Prop) : Prop := match x with
  | .int i => (match y with
    | .int j => Q (decide (i = j))
    | .non => Q false
    | .str _ => Q false
    | _ => False)
  | .str a => (match y with
    | .str b => Q (decide (tl a = tl b))
    | .non => Q false
    | .int _ => Q false
    | .bl _ => Q false
    | _ => False)
  | .bl a => (match y with
    | .bl b => Q (decide (a = b))
    | .non => Q false
    | .str _ => Q false
    | _ => False)
  | .non => (match y with
    | .non => Q true
    | .int _ => Q false
    | .bl _ => Q false
    | .str _ => Q false
    | _ => False)
  | .ref p => dpq K x y H Q
  | _ => False
theorem eqP_e {K : PySem.W.Frag} {x y : V} {H : Hp} {Q : Bool → Prop} (h : eqP K x y H Q) : (scal x y = true ∧ Q (decide (x = y))) ∨ ∃ d e, Dp K H x d ∧ Dp K H y e ∧ SeqAt.shaped d = true ∧ SeqAt.shaped e = true ∧ Q (PyData.eqv d e) := by
  cases x with
  | int i => cases y with
    | int j => exact .inl ⟨rfl, by simp; exact h⟩
    | non => exact .inl ⟨rfl, by simp; exact h⟩
    | str j => exact .inl ⟨rfl, by simp; exact h⟩
    | _ => exact h.elim
  | str i => cases y with
    | str j =>
      refine .inl ⟨rfl, ?_⟩
      have e : decide (V.str i = V.str j) = decide (tl i = tl j) := decide_eq_decide.mpr ⟨fun z => by injection z with z; rw [z], fun z => by rw [ext_tl z]⟩
      rw [e]; exact h
    | non => exact .inl ⟨rfl, by simp; exact h⟩
    | int j => exact .inl ⟨rfl, by simp; exact h⟩
    | bl j => exact .inl ⟨rfl, by simp; exact h⟩
    | _ => exact h.elim
  | bl i => cases y with
    | bl j => exact .inl ⟨rfl, by simp; exact h⟩
    | non => exact .inl ⟨rfl, by simp; exact h⟩
    | str j => exact .inl ⟨rfl, by simp; exact h⟩
    | _ => exact h.elim
  | non => cases y with
    | non => exact .inl ⟨rfl, by simp; exact h⟩
    | int j => exact .inl ⟨rfl, by simp; exact h⟩
    | bl j => exact .inl ⟨rfl, by simp; exact h⟩
    | str j => exact .inl ⟨rfl, by simp; exact h⟩
    | _ => exact h.elim
  | ref p => exact .inr (dpq_e h)
  | _ => exact h.elim
def zEqP (K : PySem.W.Frag) : R2 := fun x y H Q => eqP K x y H fun k => Q (.bl k) H
def zNeP (K : PySem.W.Frag) : R2 := fun x y H Q => eqP K x y H fun k => Q (.bl (!k)) H
theorem opeq (hu : X.A.units + 64 < cLine) : OpR X (compareOp .Eq) (zEqP X.K) := fun pins s σ H x y v u Q I rx ry h => by
  rcases eqP_e h with h | h
  · exact op_eq pins s σ H x y v u Q I rx ry h
  · exact op_eqD hu pins s σ H x y v u Q I rx ry h
theorem opne (hu : X.A.units + 64 < cLine) : OpR X (compareOp .NotEq) (zNeP X.K) := fun pins s σ H x y v u Q I rx ry h => by
  rcases eqP_e (Q := fun k => Q (.bl (!k)) H) h with h | h
  · exact op_ne pins s σ H x y v u Q I rx ry h
  · exact op_neD hu pins s σ H x y v u Q I rx ry h
/-- x is None -/
def zIsP : R2 := fun x y H Q => match y with
  | .non => Q (.bl (decide (x = .non))) H
  | _ => False
def zIsnP : R2 := fun x y H Q => match y with
  | .non => Q (.bl (!decide (x = .non))) H
  | _ => False
theorem opis : OpR X (compareOp .Is) zIsP := op_imp op_isN fun x y H Q h => by
  cases y with
  | non => exact ⟨rfl, h⟩
  | _ => exact h.elim
theorem opisn : OpR X (compareOp .IsNot) zIsnP := op_imp op_notN fun x y H Q h => by
  cases y with
  | non => exact ⟨rfl, h⟩
  | _ => exact h.elim
end
end Ta

set_option Elab.async false
set_option linter.all false
set_option maxRecDepth 100000
set_option maxHeartbeats 1000000
namespace Ta
open PySem PySem.Spec PyProof.Rows L2

/-! ### items -/
structure itm {α : Type} (xs : List α) (i : Int) (k : α → Prop) : Prop where
  out : ∃ v, atI xs i = some v ∧ k v
theorem itm_i {α : Type} {xs : List α} {i : Int} {k : α → Prop} {v : α} (h : atI xs i = some v) (q : k v) : itm xs i k := by refine ⟨?_⟩; exact ⟨v, h, q⟩
theorem itm_e {α : Type} {xs : List α} {i : Int} {k : α → Prop} (q : itm xs i k) : ∃ v, atI xs i = some v ∧ k v := by replace q := q.out; exact q
theorem itm_n {α : Type} {xs : List α} {i : Int} {j : Nat} {k : α → Prop} {v : α} (e : i = (j : Int)) (h : xs[j]? = some v) (q : k v) : itm xs i k := by
  subst e; exact itm_i (atI_nat h) q
section
variable {X : Cx}
def zIxP (K : PySem.W.Frag) : R2 := fun x y H Q => match y with
  | .int i => (match x with
    | .str z => Lim (tl z).length ∧ itm (tl z) i fun c => Q (.str (S [c])) H
    | .ref p => look H p fun o => match o with
      | some (.lst xs) => itm xs i fun v => Q v H
      | some (.tup xs) => itm xs i fun v => Q v H
      | some (.frz _ (.lst xs)) => itm xs i fun v => Q v H
      | _ => ∃ xs, (SqL K H p xs ∨ SqT K H p xs) ∧ itm xs i fun v => Q v H
    | _ => False)
  | _ => False
theorem ixp : IxR X (zIxP X.K) := by
  refine ix_imp ix_seq fun x y H Q h => ?_
  cases y with
  | int i =>
    cases x with
    | str z =>
      obtain ⟨h1, h2⟩ := h
      obtain ⟨c, e, q⟩ := itm_e h2
      exact .inr (.inr ⟨z, i, c, rfl, rfl, by rw [len_tl]; exact h1, e, q⟩)
    | ref p =>
      have h := look_e h
      have fin : ∀ xs, SqL X.K H p xs ∨ SqT X.K H p xs → (itm xs i fun v => Q v H) → rIx X.K (.ref p) (.int i) H Q := fun xs hs h2 => by
        obtain ⟨v, e, q⟩ := itm_e h2
        rcases hs with hs | hs
        · exact .inl ⟨p, xs, i, v, rfl, rfl, hs, e, q⟩
        · exact .inr (.inl ⟨p, xs, i, v, rfl, rfl, hs, e, q⟩)
      revert h
      cases e : H p with
      | none => exact fun ⟨xs, h1, h2⟩ => fin xs h1 h2
      | some o =>
        cases o with
        | lst xs => exact fun h2 => fin xs (.inl (SqL.of e)) h2
        | tup xs => exact fun h2 => fin xs (.inr (SqT.of e)) h2
        | frz ob u =>
          cases u with
          | lst xs => exact fun h2 => fin xs (.inl (.inl (.inr ⟨_, e⟩))) h2
          | _ => exact fun ⟨xs, h1, h2⟩ => fin xs h1 h2
        | _ => exact fun ⟨xs, h1, h2⟩ => fin xs h1 h2
    | _ => exact h.elim
  | _ => exact h.elim
variable {a b c : Expr} {ta tb tc : TE} {pos : Pos}
theorem pix (ha : PE X a ta) (hb : PE X b tb) (hs : PlainIx b := by exact fun _ _ => rfl) : PE X (.Subscript a b pos) (tOp (zIxP X.K) ta tb) := pe_ix ixp ha hb hs

/-! ### slices -/
def cut0 {α : Type} (xs : List α) (lo hi : Option Int) : List α := (xs.drop (HT.sIx xs.length 0 lo)).take (HT.sIx xs.length xs.length hi - HT.sIx xs.length 0 lo)
def ixS (n : Nat) (i : Int) : Nat := match i with
  | .ofNat k => k
  | .negSucc k => n - (k + 1)
/-- xs[lo:hi], as take and drop -/
def cut {α : Type} (xs : List α) (lo hi : Option Int) : List α := match hi with
  | none => (match lo with
    | none => xs
    | some i => xs.drop (ixS xs.length i))
  | some j => (match lo with
    | none => xs.take (ixS xs.length j)
    | some i => (xs.take (ixS xs.length j)).drop (ixS xs.length i))
theorem sIx_ixS (n d : Nat) (i : Int) : HT.sIx n d (some i) = min (ixS n i) n := by
  cases i with
  | ofNat k => exact HT.sIx_nat n d k
  | negSucc k =>
    show (if (Int.negSucc k) < 0 then (Int.negSucc k + (n : Int)).toNat else min (Int.negSucc k).toNat n) = min (n - (k + 1)) n
    rw [if_pos (by omega)]; omega
theorem take_min {α : Type} (xs : List α) (k : Nat) : xs.take (min k xs.length) = xs.take k := by
  rw [List.take_eq_take_iff]; omega
theorem drop_min {α : Type} (xs : List α) (k : Nat) : xs.drop (min k xs.length) = xs.drop k := by
  by_cases h : k ≤ xs.length
  · rw [Nat.min_eq_left h]
  · rw [Nat.min_eq_right (by omega), List.drop_eq_nil_of_le (Nat.le_refl _), List.drop_eq_nil_of_le (by omega)]
theorem cut_eq0 {α : Type} (xs : List α) (lo hi : Option Int) : cut0 xs lo hi = cut xs lo hi := by
  unfold cut0
  rw [← List.drop_take]
  cases hi with
  | none =>
    cases lo with
    | none => rw [HT.sIx_none, HT.sIx_none, List.take_length]; rfl
    | some i => rw [HT.sIx_none, sIx_ixS, List.take_length]; exact drop_min xs _
  | some j =>
    rw [sIx_ixS, take_min]
    cases lo with
    | none => rfl
    | some i =>
      rw [sIx_ixS]
      show (xs.take (ixS xs.length j)).drop (min (ixS xs.length i) xs.length) = (xs.take (ixS xs.length j)).drop (ixS xs.length i)
      by_cases h : ixS xs.length i ≤ xs.length
      · rw [Nat.min_eq_left h]
      · rw [Nat.min_eq_right (by omega), List.drop_eq_nil_of_le (by rw [List.length_take]; omega), List.drop_eq_nil_of_le (by rw [List.length_take]; omega)]
theorem cutS_S (z : Str) (lo hi : Option Int) : cutS z lo hi = S (cut (tl z) lo hi) := by
  rw [← cut_eq0]
  unfold cutS cut0
  simp only [len_tl]
theorem cut_len {α : Type} (xs : List α) (lo hi : Option Int) : (cut xs lo hi).length ≤ xs.length := by
  rw [← cut_eq0]; unfold cut0; rw [List.length_take, List.length_drop]; omega
theorem cut_to {α : Type} (xs : List α) (k : Nat) : cut xs none (some (k : Int)) = xs.take k := rfl
theorem cut_from {α : Type} (xs : List α) (k : Nat) : cut xs (some (k : Int)) none = xs.drop k := rfl
theorem cut_both {α : Type} (xs : List α) (i j : Nat) : cut xs (some (i : Int)) (some (j : Int)) = (xs.take j).drop i := rfl
theorem cut_toI {α : Type} (xs : List α) {k : Int} (h : 0 ≤ k) : cut xs none (some k) = xs.take k.toNat := by
  obtain ⟨n, rfl⟩ := Int.eq_ofNat_of_zero_le h; exact cut_to xs n
theorem cut_fromI {α : Type} (xs : List α) {k : Int} (h : 0 ≤ k) : cut xs (some k) none = xs.drop k.toNat := by
  obtain ⟨n, rfl⟩ := Int.eq_ofNat_of_zero_le h; exact cut_from xs n
def zSlP (K : PySem.W.Frag) : V → Option Int → Option Int → Hp → VK → Prop := fun x lo hi H Q => match x with
  | .str z => Lim (tl z).length ∧ Q (.str (S (cut (tl z) lo hi))) H
  | .ref p => look H p fun o => match o with
    | some (.lst xs) => ∀ p', H p' = none → Q (.ref p') (upd H p' (.lst (cut xs lo hi)))
    | some (.frz _ (.lst xs)) => ∀ p', H p' = none → Q (.ref p') (upd H p' (.lst (cut xs lo hi)))
    | _ => False
  | _ => False
theorem slp : SlR X (zSlP X.K) := by
  refine sl_imp (sl_str.or sl_list) fun x lo hi H Q h => ?_
  cases x with
  | str z => exact .inl ⟨z, rfl, by rw [len_tl]; exact h.1, by rw [cutS_S]; exact h.2⟩
  | ref p =>
    have h := look_e h
    revert h
    cases e : H p with
    | none => exact fun h => h.elim
    | some o =>
      cases o with
      | lst xs => exact fun h2 => .inr ⟨p, xs, rfl, SqL.of e, (cut_eq0 xs lo hi ▸ h2 : ∀ p', H p' = none → Q (V.ref p') (upd H p' (HO.lst (cut0 xs lo hi))))⟩
      | frz ob u =>
        cases u with
        | lst xs => exact fun h2 => .inr ⟨p, xs, rfl, .inl (.inr ⟨_, e⟩), (cut_eq0 xs lo hi ▸ h2 : ∀ p', H p' = none → Q (V.ref p') (upd H p' (HO.lst (cut0 xs lo hi))))⟩
        | _ => exact fun h => h.elim
      | _ => exact fun h => h.elim
  | _ => exact h.elim
def tPrt (t : TE) : TO := fun σ H Q => t σ H fun x H1 => match x with
  | .int i => Q (some i) H1
  | _ => False
theorem posome (h : PE X a ta) : PO X (some a) (tPrt ta) := by
  refine ⟨fun pins s σ H Q I hw => ?_⟩
  rw [evalPart_some]
  refine thn (h.run pins s σ H _ I hw) fun u s1 ⟨x, H1, I1, r1, q1⟩ => ?_
  cases x with
  | int i =>
    obtain ⟨t, rfl⟩ := r1
    exact ⟨some i, H1, I1, .int i t, q1⟩
  | _ => exact False.elim q1
theorem psl {lo hi : Option Expr} {t1 t2 : TO} {p2 : Pos} (ha : PE X a ta) (hl : PO X lo t1) (hh : PO X hi t2) : PE X (.Subscript a (.Slice lo hi none p2) pos) (tSl (zSlP X.K) ta t1 t2) := pe_slice slp ha hl hh

/-! ### in -/
def occ (a b : List Nat) : Bool := !(Builtin.Str.occurrences (S b) (S a) 0 (S b).length 1).isEmpty
def inP (K : PySem.W.Frag) (x y : V) (H : Hp) (Q : Bool → Prop) : Prop := match y with
  | .str b => (match x with
    | .str a => (match tl a with
      | [c] => Q (decide (c ∈ tl b))
      | l => Q (occ l (tl b)))
    | _ => False)
  | .ref p => look H p fun o => match o with
    | some (.lst xs) => flatV x = true ∧ xs.all flatV = true ∧ Q (inV x xs)
    | some (.tup xs) => flatV x = true ∧ xs.all flatV = true ∧ Q (inV x xs)
    | some (.frz _ (.lst xs)) => flatV x = true ∧ xs.all flatV = true ∧ Q (inV x xs)
    | _ => ∃ xs, (SqL K H p xs ∨ SqT K H p xs) ∧ flatV x = true ∧ xs.all flatV = true ∧ Q (inV x xs)
  | _ => False
theorem inP_e {K : PySem.W.Frag} {x y : V} {H : Hp} {Q : Bool → Prop} (h : inP K x y H Q) :
    (∃ (c : Nat) (z : Str), x = .str ⟨#[c]⟩ ∧ y = .str z ∧ Q (decide (c ∈ z.cps.toList))) ∨ (∃ i j, x = .str i ∧ y = .str j ∧ Q (!(Builtin.Str.occurrences j i 0 j.length 1).isEmpty)) ∨
    ∃ p xs, y = .ref p ∧ (SqL K H p xs ∨ SqT K H p xs) ∧ flatV x = true ∧ xs.all flatV = true ∧ Q (inV x xs) := by
  cases y with
  | str b =>
    cases x with
    | str a =>
      have h' : (match tl a with
        | [c] => Q (decide (c ∈ tl b))
        | l => Q (occ l (tl b))) := h
      split at h'
      · rename_i c e
        exact .inl ⟨c, b, by rw [← S_tl a, e], rfl, h'⟩
      · refine .inr (.inl ⟨a, b, rfl, rfl, ?_⟩)
        unfold occ at h'
        rw [S_tl, S_tl] at h'
        exact h'
    | _ => exact h.elim
  | ref p =>
    have h := look_e h
    revert h
    cases e : H p with
    | none => exact fun ⟨xs, h1, h2⟩ => .inr (.inr ⟨p, xs, rfl, h1, h2⟩)
    | some o =>
      cases o with
      | lst xs => exact fun h2 => .inr (.inr ⟨p, xs, rfl, .inl (SqL.of e), h2⟩)
      | tup xs => exact fun h2 => .inr (.inr ⟨p, xs, rfl, .inr (SqT.of e), h2⟩)
      | frz ob u =>
        cases u with
        | lst xs => exact fun h2 => .inr (.inr ⟨p, xs, rfl, .inl (.inl (.inr ⟨_, e⟩)), h2⟩)
        | _ => exact fun ⟨xs, h1, h2⟩ => .inr (.inr ⟨p, xs, rfl, h1, h2⟩)
      | _ => exact fun ⟨xs, h1, h2⟩ => .inr (.inr ⟨p, xs, rfl, h1, h2⟩)
  | _ => exact h.elim
def zInP (K : PySem.W.Frag) : R2 := fun x y H Q => inP K x y H fun k => Q (.bl k) H
def zNinP (K : PySem.W.Frag) : R2 := fun x y H Q => inP K x y H fun k => Q (.bl (!k)) H
theorem opin : OpR X (compareOp .In) (zInP X.K) := by
  refine op_imp (op_in_sign.or (op_in_str.or op_in_seq)) fun x y H Q h => ?_
  rcases inP_e h with h | h | h
  · exact .inl h
  · exact .inr (.inl h)
  · exact .inr (.inr h)
theorem opnin : OpR X (compareOp .NotIn) (zNinP X.K) := by
  refine op_imp (op_notIn_sign.or (op_notin_str.or op_notIn_seq)) fun x y H Q h => ?_
  rcases inP_e (Q := fun k => Q (.bl (!k)) H) h with h | h | h
  · exact .inl h
  · exact .inr (.inl h)
  · exact .inr (.inr h)

/-! ### statements -/
variable {st : Stmt} {t u : TS} {rest : List Stmt} {tA : TT}
def tIfP (c : TT) (t u : TS) : TS := fun D σ H => c σ H fun b H1 => cnd b (t D σ H1) (u D σ H1)
theorem psif {p q : List Stmt} (hc : PT X c tA) (ha : PSs X p t) (hb : PSs X q u) : PS X (.If c p q pos) (tIfP tA t u) := by
  refine ⟨fun pins s σ H D I h => ?_⟩
  refine wpAny_If (thn (hc.run pins s σ H _ I h) fun d s1 ⟨H1, I1, q1⟩ => ?_)
  have q1 := cnd_e q1
  cases d with
  | true => exact ha.run pins s1 σ H1 D I1 q1
  | false => exact hb.run pins s1 σ H1 D I1 q1
/-- o[i] = e, o a list -/
def zSetP : TSet := fun o i v H Q => match o with
  | .ref p => (match i with
    | .int k => look H p fun ob => (match ob with
      | some (.lst xs) => ∃ j, ixN xs.length k = some j ∧ Q (upd H p (.lst (xs.set j v)))
      | _ => False)
    | _ => False)
  | _ => False
theorem setp : PSet X zSetP := by
  have base : ∀ o i v H Q, zSetP o i v H Q → rSetL o i v H Q := fun o i v H Q h => by
    cases o with
    | ref p => cases i with
      | int k =>
        have h := look_e h
        revert h
        cases e : H p with
        | none => exact fun h => h.elim
        | some ob =>
          cases ob with
          | lst xs => exact fun ⟨j, h1, h2⟩ => ⟨p, xs, k, j, rfl, rfl, e, h1, h2⟩
          | _ => exact fun h => h.elim
      | _ => exact h.elim
    | _ => exact h.elim
  intro pins s σ H o i v ov iv vv Q I r1 r2 r3 h
  exact set_list pins s σ H o i v ov iv vv Q I r1 r2 r3 (base _ _ _ _ _ h)
end
end Ta

set_option Elab.async false
set_option linter.all false
set_option maxRecDepth 100000
set_option maxHeartbeats 1000000
namespace Ta
open PySem PySem.Spec PyProof.Rows L2

/-! ### defs, methods, classes of the text -/
section
variable (P : Program) (w : World) (K : PySem.W.Frag) (mg : Str → Option Value) (base : Heap)
structure Fn (x : Str) (lv : Nat) (dvs : List V) (sp : Sp) : Prop where
  ex : ∃ (f : Addr) (fd : FuncData) (ps : List Str) (ds : List Value), FnOk P w K mg base (L2M.CX K P w) lv f fd ps sp ∧ mg x = some (.ref f) ∧ PySem.W.keepIn K (.ref f) = true ∧ Vals dvs ds ∧ Binds K fd ps ds
structure Me (C : Addr) (m : Str) (lv : Nat) (dvs : List V) (sp : Sp) : Prop where
  ex : ∃ (f : Addr) (fd : FuncData) (ps : List Str) (ds : List Value), FnOk P w K mg base (L2M.CX K P w) lv f fd ps sp ∧ Meth K C m f ∧ Vals dvs ds ∧ Binds K fd ps ds
  cl : Cls K C
structure Mks (x : Str) (C : Addr) (lv : Nat) (dvs : List V) (sp : Sp) : Prop where
  ex : ∃ (f : Addr) (fd : FuncData) (ps : List Str) (ds : List Value), FnOk P w K mg base (L2M.CX K P w) lv f fd ps sp ∧ Mk K C f ∧ mg x = some (.ref C) ∧ Vals dvs ds ∧ Binds K fd ps ds
end
abbrev WF : WX := fun _ _ _ _ => False
/-- f(..) -/
def tCal (sp : Sp) (dvs : List V) (W : WX) (t : TA) : TE := fun σ H Q => t σ H fun vs H1 => sp (vs ++ dvs) H1 Q fun c d H' => W c d σ H'
/-- C(..) -/
def tMak (C : Addr) (sp : Sp) (dvs : List V) (W : WX) (t : TA) : TE := fun σ H Q => t σ H fun vs H1 => ∀ x dx, H1 x = none → H1 dx = none → dx ≠ x →
  sp (.ref x :: (vs ++ dvs)) (upd (upd H1 dx (.own x)) x (.ins C dx [])) (fun v H2 => v = .non ∧ Q (.ref x) H2) fun c d H' => W c d σ H'
abbrev MS := List (Addr × List V × Sp)
structure pick (ms : MS) (C : Addr) (k : List V → Sp → Prop) : Prop where
  out : ∃ e ∈ ms, e.1 = C ∧ k e.2.1 e.2.2
theorem pick_1 {C : Addr} {dvs : List V} {sp : Sp} {k : List V → Sp → Prop} {r : MS} (h : k dvs sp) : pick ((C, dvs, sp) :: r) C k := by refine ⟨?_⟩; exact ⟨_, List.mem_cons_self, rfl, h⟩
theorem pick_n {ms : MS} {C : Addr} {k : List V → Sp → Prop} {e} (h : pick ms C k) : pick (e :: ms) C k := by
  replace h := h.out; refine ⟨?_⟩
  obtain ⟨e', h1, h2⟩ := h
  exact ⟨e', List.mem_cons_of_mem _ h1, h2⟩
/-- o.m(..) -/
def tMe (ms : MS) (m : Str) (W : WX) (ta : TE) (t : TA) : TE := fun σ H Q => ta σ H fun x H1 => match x with
  | .ref a => look H1 a fun o => (match o with
    | some (.ins C dx fs) => pick ms C fun dvs sp => fs.lookup m = none ∧ t σ H1 fun vs H2 => sp (.ref a :: (vs ++ dvs)) H2 Q fun c d H' => W c d σ H'
    | _ => False)
  | _ => False
section
variable {X : Cx} {x m : Str} {p pos apos : Pos} {e o : Expr} {es : List Expr} {ta : TE} {t : TA} {lv : Nat} {dvs : List V} {sp : Sp} {W : WX} {C : Addr}
theorem pcall (F : Fn X.prog X.w X.K X.mg X.base x lv dvs sp) (hr : Room lv X.A) (tk : L2M.Takes X W) (ha : PA X (e :: es) t) (hg : Gl X x := by rfl) (hdb : (x == ("__debug__" : Str)) = false := by decide +kernel)
    (he : starEach (e :: es) X.env = (false, eval e X.env) :: starEach es X.env := by rfl) (hpl : (backTo pos (starEach es X.env)).any (·.1) = false := by rfl) :
    PE X (.Call (.Name x p) (e :: es) [] pos) (tCal sp dvs W t) := by
  obtain ⟨f, fd, ps, ds, F, hm, hk, hd, hb⟩ := F.ex
  refine ⟨fun pins s σ H Q I h => ?_⟩
  refine wpAny_Call_Name_kw (ld_glob I hg hm ?_ hdb)
  refine PySem.W.callWith_K (h₀ := X.base) I.ok.mod.kin hk (thn (ha.run pos pins s σ H _ I h) fun us s1 ⟨vs, H1, I1, r, q⟩ => ⟨I1.kIn, ?_⟩) he hpl
  exact run_fnSD (E := WE W) F hr hb hd (L2M.passAt tk σ) I1 r q
theorem pcall0 (F : Fn X.prog X.w X.K X.mg X.base x lv dvs sp) (hr : Room lv X.A) (tk : L2M.Takes X W) (hg : Gl X x := by rfl) (hdb : (x == ("__debug__" : Str)) = false := by decide +kernel) :
    PE X (.Call (.Name x p) [] [] pos) (tCal sp dvs W tNil) := by
  obtain ⟨f, fd, ps, ds, F, hm, hk, hd, hb⟩ := F.ex
  refine ⟨fun pins s σ H Q I h => ?_⟩
  refine wpAny_Call_Name_kw (ld_glob I hg hm ?_ hdb)
  exact PySem.W.callWith_K0 I.kIn hk (run_fnSD (E := WE W) (us := []) F hr hb hd (L2M.passAt tk σ) I .nil h)
theorem run_makeS {pins : List (Addr × Obj)} {σ : St} {H : Hp} {s : Shared} {Q : VK} {us ds : List Value} {vs : List V} {f : Addr} {fd : FuncData} {ps : List Str} (M : Mk X.K C f) (F : FnOk X.prog X.w X.K X.mg X.base (L2M.CX X.K X.prog X.w) lv f fd ps sp) (hr : Room (lv + 1) X.A)
    (hb : Binds X.K fd ps ds) (hd : Vals dvs ds) (tk : L2M.Takes X W) (I : Inv X pins σ H s) (r : Vals vs us)
    (h : ∀ x dx, H x = none → H dx = none → dx ≠ x → sp (.ref x :: (vs ++ dvs)) (upd (upd H dx (.own x)) x (.ins C dx [])) (fun v H2 => v = .non ∧ Q (.ref x) H2) fun c d H' => W c d σ H') :
    wpAny (model X.prog X.w) X.A (call (.ref C) us) (EP X pins σ Q) X.xe s := by
  have hq := h (s.heap.objs.size + 1) s.heap.objs.size (I.hok.fresh (Nat.le_succ _)) (I.hok.fresh (Nat.le_refl _)) (Nat.ne_of_lt (Nat.lt_succ_self _))
  have I2 := Inv.made (C := C) I
  have r2 : Vals (V.ref (s.heap.objs.size + 1) :: (vs ++ dvs)) (Value.ref (s.heap.objs.size + 1) :: (us ++ ds)) := .cons rfl (r.append hd)
  have hl : (Value.ref (s.heap.objs.size + 1) :: us ++ ds).length = ps.length := by
    have e := r2.length
    rw [F.len _ _ _ _ hq] at e
    exact e.symm
  refine wpAny_call (make_map (f := f) I.kIn M.makes M.init (beq_iff_eq.mp M.fn) (codeAny_mono (F.run _ X.stack _ _ ⟨Value.ref (s.heap.objs.size + 1) :: us, []⟩ (Value.ref (s.heap.objs.size + 1) :: (us ++ ds)) _ _ (WE W σ) (hr.make C us [])
    (I2.env0.make C us []) (hb _ (Value.ref (s.heap.objs.size + 1) :: us) I2.kIn hl) r2 hq) fun r s' hq' => ?_))
  cases r with
  | error e => exact L2M.passAt tk σ pins _ _ e s' I2 hq'
  | ok fl =>
    cases fl with
    | ret u =>
      obtain ⟨v, H', I3, rv, ev, q3⟩ := I2.after hq'
      subst ev
      exact ⟨rv, ⟨V.ref (s.heap.objs.size + 1), H', I3, rfl, q3⟩⟩
    | next => exact False.elim hq'
    | brk => exact False.elim hq'
    | cont => exact False.elim hq'
theorem pmak (F : Mks X.prog X.w X.K X.mg X.base x C lv dvs sp) (hr : Room (lv + 1) X.A) (tk : L2M.Takes X W) (ha : PA X (e :: es) t) (hg : Gl X x := by rfl) (hdb : (x == ("__debug__" : Str)) = false := by decide +kernel)
    (he : starEach (e :: es) X.env = (false, eval e X.env) :: starEach es X.env := by rfl) (hpl : (backTo pos (starEach es X.env)).any (·.1) = false := by rfl) :
    PE X (.Call (.Name x p) (e :: es) [] pos) (tMak C sp dvs W t) := by
  obtain ⟨f, fd, ps, ds, F, M, hm, hd, hb⟩ := F.ex
  refine ⟨fun pins s σ H Q I h => ?_⟩
  refine wpAny_Call_Name_kw (ld_glob I hg hm ?_ hdb)
  refine PySem.W.callWith_K (h₀ := X.base) I.ok.mod.kin M.kp (thn (ha.run pos pins s σ H _ I h) fun us s1 ⟨vs, H1, I1, r, q⟩ => ⟨I1.kIn, ?_⟩) he hpl
  exact run_makeS M F hr hb hd tk I1 r q
theorem tMe_e {ms : MS} {a : Addr} {H : Hp} {k : List V → Sp → List (Str × V) → Prop} (h : look H a fun o => (match o with
    | some (.ins C dx fs) => pick ms C fun dvs sp => k dvs sp fs
    | _ => False)) : ∃ C dx fs, H a = some (.ins C dx fs) ∧ ∃ e ∈ ms, e.1 = C ∧ k e.2.1 e.2.2 fs := by
  have h := look_e h
  revert h
  cases e : H a with
  | none => exact fun h => h.elim
  | some o =>
    cases o with
    | ins C dx fs => exact fun h => ⟨C, dx, fs, rfl, by replace h := h.out; exact h⟩
    | _ => exact fun h => h.elim
theorem pmeth {ms : MS} {pl : Sem Bool} (hms : ∀ e ∈ ms, Me X.prog X.w X.K X.mg X.base e.1 m lv e.2.1 e.2.2) (hr : Room lv X.A) (tk : L2M.Takes X W) (ho : PE X o ta) (ha : PA X (e :: es) t)
    (hst : starEach (e :: es) X.env = (false, eval e X.env) :: starEach es X.env := by rfl) (hpl : (backTo pos (starEach es X.env)).any (·.1) = false := by rfl)
    (ht : eval (.Call (.Attribute o m apos) (e :: es) [] pos) X.env = (do
      let ov ← eval o X.env
      standAt apos.atName
      let (f, first) ← holding [ov] (getMethod ov m pl)
      callWith pos f first (backTo pos (starEach (e :: es) X.env)) (backToKw pos (keywordEach [] X.env))) := by rfl) :
    PE X (.Call (.Attribute o m apos) (e :: es) [] pos) (tMe ms m W ta t) := by
  refine ⟨fun pins s σ H Q I h => ?_⟩
  refine PySem.W.methodCall_KW (pl := pl) (thn (ho.run pins s σ H _ I h) fun u s1 ⟨x, H1, I1, rx, q⟩ => ?_) ht
  cases x with
  | ref a =>
    obtain rfl : u = Value.ref a := rx
    obtain ⟨C, dx, fs, ea, en, hen, eC, l, q⟩ := tMe_e (k := fun dvs sp fs => fs.lookup m = none ∧ t σ H1 fun vs H2 => sp (.ref a :: (vs ++ dvs)) H2 Q fun c d H' => W c d σ H') q
    obtain ⟨⟨f, fd, ps, ds, F, hm, hd, hb⟩, cl⟩ := hms en hen
    rw [← eC] at ea
    refine getmeth_ok I1 ea cl hm l ?_
    refine PySem.W.callWith_K (first := [.ref a]) (h₀ := X.base) I.ok.mod.kin hm.kp (thn (ha.run pos pins s1 σ H1 _ I1 q) fun us s2 ⟨vs, H2, I2, r, q2⟩ => ⟨I2.kIn, ?_⟩) hst hpl
    exact run_fnSD (E := WE W) (us := .ref a :: us) (vs := .ref a :: vs) F hr hb hd (L2M.passAt tk σ) I2 (.cons rfl r) q2
  | _ => exact False.elim q
theorem pmeth0 {ms : MS} {pl : Sem Bool} (hms : ∀ e ∈ ms, Me X.prog X.w X.K X.mg X.base e.1 m lv e.2.1 e.2.2) (hr : Room lv X.A) (tk : L2M.Takes X W) (ho : PE X o ta)
    (ht : eval (.Call (.Attribute o m apos) [] [] pos) X.env = (do
      let ov ← eval o X.env
      standAt apos.atName
      let (f, first) ← holding [ov] (getMethod ov m pl)
      callWith pos f first (backTo pos (starEach [] X.env)) (backToKw pos (keywordEach [] X.env))) := by rfl) :
    PE X (.Call (.Attribute o m apos) [] [] pos) (tMe ms m W ta tNil) := by
  refine ⟨fun pins s σ H Q I h => ?_⟩
  refine PySem.W.methodCall_KW (pl := pl) (thn (ho.run pins s σ H _ I h) fun u s1 ⟨x, H1, I1, rx, q⟩ => ?_) ht
  cases x with
  | ref a =>
    obtain rfl : u = Value.ref a := rx
    obtain ⟨C, dx, fs, ea, en, hen, eC, l, q⟩ := tMe_e (k := fun dvs sp fs => fs.lookup m = none ∧ tNil σ H1 fun vs H2 => sp (.ref a :: (vs ++ dvs)) H2 Q fun c d H' => W c d σ H') q
    obtain ⟨⟨f, fd, ps, ds, F, hm, hd, hb⟩, cl⟩ := hms en hen
    rw [← eC] at ea
    refine getmeth_ok I1 ea cl hm l ?_
    exact PySem.W.callWith_K0 (first := [.ref a]) I1.kIn hm.kp (run_fnSD (E := WE W) (us := [.ref a]) (vs := [.ref a]) F hr hb hd (L2M.passAt tk σ) I1 (.cons rfl .nil) q)
  | _ => exact False.elim q

/-! ### attributes -/
structure fld (fs : List (Str × V)) (f : Str) (k : V → Prop) : Prop where
  out : ∃ v, fs.lookup f = some v ∧ k v
theorem fld_i {fs : List (Str × V)} {f : Str} {k : V → Prop} {v : V} (h : fs.lookup f = some v) (q : k v) : fld fs f k := by refine ⟨?_⟩; exact ⟨v, h, q⟩
theorem fld_e {fs : List (Str × V)} {f : Str} {k : V → Prop} (q : fld fs f k) : ∃ v, fs.lookup f = some v ∧ k v := by replace q := q.out; exact q
/-- e.f, a field of an instance -/
def tAt (K : PySem.W.Frag) (ta : TE) (f : Str) : TE := fun σ H Q => ta σ H fun x H1 => match x with
  | .ref a => look H1 a fun o => (match o with
    | some (.ins C dx fs) => Cls K C ∧ NoAttr K C f ∧ fld fs f fun v => Q v H1
    | _ => False)
  | _ => False
theorem patt {f : Str} (he : PE X e ta) (hb : attributeBase e f X.env (eval e X.env) = eval e X.env := by rfl) : PE X (.Attribute e f pos) (tAt X.K ta f) := by
  refine ⟨fun pins s σ H Q I h => ?_⟩
  refine attr_of hb (thn (he.run pins s σ H _ I h) fun u s1 ⟨x, H1, I1, rx, q⟩ => ?_)
  cases x with
  | ref a =>
    obtain rfl : u = Value.ref a := rx
    have q := look_e q
    cases ea : H1 a with
    | none => rw [ea] at q; exact q.elim
    | some o =>
      rw [ea] at q
      cases o with
      | ins C dx fs =>
        obtain ⟨c, n, q⟩ := q
        obtain ⟨v, l, q⟩ := fld_e q
        exact getattr_ok I1 ea c n l fun u' s2 I2 r2 => ⟨v, H1, I2, r2, q⟩
      | _ => exact q.elim
  | _ => exact False.elim q
/-- e.f, a constant of the instance's class -/
def tAtC (K : PySem.W.Frag) (ta : TE) (f : Str) (v0 : V) : TE := fun σ H Q => ta σ H fun x H1 => match x with
  | .ref a => look H1 a fun o => (match o with
    | some (.ins C dx fs) => Cls K C ∧ (∃ u, Con K C f v0 u) ∧ fs.lookup f = none ∧ Q v0 H1
    | _ => False)
  | _ => False
theorem pattC {f : Str} (v0 : V) (he : PE X e ta) (hb : attributeBase e f X.env (eval e X.env) = eval e X.env := by rfl) : PE X (.Attribute e f pos) (tAtC X.K ta f v0) := by
  refine ⟨fun pins s σ H Q I h => ?_⟩
  refine attr_of hb (thn (he.run pins s σ H _ I h) fun u s1 ⟨x, H1, I1, rx, q⟩ => ?_)
  cases x with
  | ref a =>
    obtain rfl : u = Value.ref a := rx
    have q := look_e q
    cases ea : H1 a with
    | none => rw [ea] at q; exact q.elim
    | some o =>
      rw [ea] at q
      cases o with
      | ins C dx fs =>
        obtain ⟨c, ⟨u, n⟩, l, q⟩ := q
        exact getcon_ok I1 ea c n l fun s2 I2 => ⟨v0, H1, I2, n.rel, q⟩
      | _ => exact q.elim
  | _ => exact False.elim q
/-- C.f, C a class of the text by its name -/
structure ClsConst (K : PySem.W.Frag) (mg : Str → Option Value) (x f : Str) (v : V) : Prop where
  ex : ∃ C mc u, mg x = some (.ref C) ∧ ClX.CRead K C mc ∧ ClX.CVal K C mc f v u
theorem pclv {f : Str} {v0 : V} (h : ClsConst X.K X.mg x f v0) (hg : Gl X x := by rfl) (hdb : (x == ("__debug__" : Str)) = false := by decide +kernel)
    (hb : attributeBase (.Name x p) f X.env (eval (.Name x p) X.env) = eval (.Name x p) X.env := by rfl) : PE X (.Attribute (.Name x p) f pos) (tC v0) := by
  obtain ⟨C, mc, u, hm, r, c⟩ := h.ex
  exact pe_imp (ClX.pe_cval (pe_glob (v := .ref C) hg hm rfl hdb) hb) fun _ _ _ h => ⟨C, mc, v0, u, rfl, r, c, h⟩
/-- a module's constant -/
structure GlobV (mg : Str → Option Value) (x : Str) (v : V) : Prop where
  ex : ∃ u, mg x = some u ∧ RelV v u
theorem pglo {v0 : V} (h : GlobV X.mg x v0) (hg : Gl X x := by rfl) (hdb : (x == ("__debug__" : Str)) = false := by decide +kernel) : PE X (.Name x p) (tC v0) := by
  obtain ⟨u, hm, r⟩ := h.ex
  exact pe_glob hg hm r hdb
/-- a built-in type by its name -/
theorem pbty {T : String} (hm : X.mg x = none) (hv : bootBuiltins x = some (.type T) := by decide +kernel) (hg : Gl X x := by rfl) (hn : x ≠ "__name__" := by decide +kernel) (hd : (x == ("__debug__" : Str)) = false := by decide +kernel) : PE X (.Name x p) (tC (.ty T)) :=
  pe_bltn (v := .ty T) hg hm hv rfl hn hd
/-- o.f = e -/
def sAt (K : PySem.W.Frag) (ta tv : TE) (f : Str) : TS := fun D σ H => tv σ H fun y H1 => ta σ H1 fun x H2 => match x with
  | .ref a => look H2 a fun ob => (match ob with
    | some (.ins C dx fs) => Cls K C ∧ NoAttr K C f ∧ fs.length < 1000 ∧ D.nx σ (upd H2 a (.ins C dx (putF f y fs)))
    | _ => False)
  | _ => False
theorem sAt_e {K : PySem.W.Frag} {x : V} {f : Str} {y : V} {H : Hp} {k : Hp → Prop} (h : match x with
  | .ref a => look H a fun ob => (match ob with
    | some (.ins C dx fs) => Cls K C ∧ NoAttr K C f ∧ fs.length < 1000 ∧ k (upd H a (.ins C dx (putF f y fs)))
    | _ => False)
  | _ => False) : ∃ a C dx fs, x = .ref a ∧ H a = some (.ins C dx fs) ∧ Cls K C ∧ NoAttr K C f ∧ fs.length < 1000 ∧ k (upd H a (.ins C dx (putF f y fs))) := by
  cases x with
  | ref a =>
    have h := look_e h
    cases ea : H a with
    | none => rw [ea] at h; exact h.elim
    | some o =>
      rw [ea] at h
      cases o with
      | ins C dx fs => exact ⟨a, C, dx, fs, rfl, ea, h⟩
      | _ => exact h.elim
  | _ => exact h.elim
theorem psat {f : Str} {value : Expr} {tv : TE} {pos' : Pos} (ha : PE X o ta) (hv : PE X value tv) (hs : swapsWith value (some (.Attribute o f pos')) pos.line X.env = pure false := by rfl) : PS X (.Assign [.Attribute o f pos'] value pos) (sAt X.K ta tv f) := by
  refine ⟨fun pins s σ H D I h => ?_⟩
  refine plainObj_wpAny_Assign_Attribute (thn (hv.run pins s σ H _ I h) fun v s1 ⟨y, H1, I1, r1, q1⟩ => thn (ha.run pins s1 σ H1 _ I1 q1) fun u s2 ⟨x, H2, I2, r2, q⟩ => ?_) hs
  obtain ⟨a, C, dx, fs, rfl, ea, c, n, hl, q⟩ := sAt_e q
  obtain rfl : u = Value.ref a := r2
  exact setattr_ok I2 ea c n hl r1 fun s' I' => ⟨σ, _, I', q⟩
end

/-! ### built-in calls -/
section
variable {X : Cx}
def lenP (K : PySem.W.Frag) (x : V) (H : Hp) (Q : Nat → Prop) : Prop := match x with
  | .str z => Lim (tl z).length ∧ Q (tl z).length
  | .ref p => look H p fun o => (match o with
    | some (.lst xs) => Q xs.length
    | some (.tup xs) => Q xs.length
    | some (.frz _ (.lst xs)) => Q xs.length
    | _ => ∃ xs, (SqL K H p xs ∨ SqT K H p xs) ∧ Q xs.length)
  | _ => False
def one (xs : List V) (k : V → Prop) : Prop := match xs with
  | [x] => k x
  | _ => False
def two (xs : List V) (k : V → V → Prop) : Prop := match xs with
  | [x, y] => k x y
  | _ => False
theorem one_e {xs : List V} {k : V → Prop} (h : one xs k) : ∃ x, xs = [x] ∧ k x := by
  match xs, h with
  | [x], h => exact ⟨x, rfl, h⟩
theorem two_e {xs : List V} {k : V → V → Prop} (h : two xs k) : ∃ x y, xs = [x, y] ∧ k x y := by
  match xs, h with
  | [x, y], h => exact ⟨x, y, rfl, h⟩
def zLen (K : PySem.W.Frag) : List V → Hp → VK → Prop := fun xs H Q => one xs fun x => lenP K x H fun n => Q (.int n) H
theorem crlen : CallR X (.builtin "len") (zLen X.K) := by
  refine cr_imp (call_len_seq.or call_len_str) fun xs H Q h => ?_
  obtain ⟨x, rfl, h⟩ := one_e h
  cases x with
  | str z => exact .inr ⟨z, rfl, by rw [len_tl]; exact h.1, by rw [len_tl]; exact h.2⟩
  | ref p =>
    have h := look_e h
    revert h
    cases e : H p with
    | none => exact fun ⟨xs, h1, h2⟩ => .inl ⟨p, xs, rfl, h1, h2⟩
    | some o =>
      cases o with
      | lst xs => exact fun h2 => .inl ⟨p, xs, rfl, .inl (SqL.of e), h2⟩
      | tup xs => exact fun h2 => .inl ⟨p, xs, rfl, .inr (SqT.of e), h2⟩
      | frz ob u =>
        cases u with
        | lst xs => exact fun h2 => .inl ⟨p, xs, rfl, .inl (.inl (.inr ⟨_, e⟩)), h2⟩
        | _ => exact fun ⟨xs, h1, h2⟩ => .inl ⟨p, xs, rfl, h1, h2⟩
      | _ => exact fun ⟨xs, h1, h2⟩ => .inl ⟨p, xs, rfl, h1, h2⟩
  | _ => exact h.elim
def zAbs : List V → Hp → VK → Prop := fun xs H Q => one xs fun x => match x with
  | .int i => Q (.int (if i < 0 then -i else i)) H
  | _ => False
theorem crabs : CallR X (.builtin "abs") zAbs := cr_imp call_abs fun xs H Q h => by
  obtain ⟨x, rfl, h⟩ := one_e h
  cases x with
  | int i => exact ⟨i, rfl, h⟩
  | _ => exact h.elim
def zInt : List V → Hp → VK → Prop := fun xs H Q => one xs fun x => match x with
  | .int i => Q (.int i) H
  | .bl b => Q (.int (if b then 1 else 0)) H
  | _ => False
theorem crint : CallR X (.type "int") zInt := cr_imp call_int1 fun xs H Q h => by
  obtain ⟨x, rfl, h⟩ := one_e h
  cases x with
  | int i => exact .inl ⟨i, rfl, h⟩
  | bl i => exact .inr ⟨i, rfl, h⟩
  | _ => exact h.elim
def zMax2 : List V → Hp → VK → Prop := fun xs H Q => two xs fun x y => match x with
  | .int i => (match y with
    | .int j => Q (.int (max i j)) H
    | _ => False)
  | _ => False
def zMin2 : List V → Hp → VK → Prop := fun xs H Q => two xs fun x y => match x with
  | .int i => (match y with
    | .int j => Q (.int (min i j)) H
    | _ => False)
  | _ => False
theorem crmax (hc : X.calm = true) : CallR X (.builtin "max") zMax2 := cr_imp (call_max2 hc) fun xs H Q h => by
  obtain ⟨x, y, rfl, h⟩ := two_e h
  cases x with
  | int i => cases y with
    | int j =>
      refine ⟨i, j, rfl, ?_⟩
      have e : (if j > i then j else i) = max i j := by omega
      rw [e]; exact h
    | _ => exact h.elim
  | _ => exact h.elim
theorem crmin (hc : X.calm = true) : CallR X (.builtin "min") zMin2 := cr_imp (call_min2 hc) fun xs H Q h => by
  obtain ⟨x, y, rfl, h⟩ := two_e h
  cases x with
  | int i => cases y with
    | int j =>
      refine ⟨i, j, rfl, ?_⟩
      have e : (if j < i then j else i) = min i j := by omega
      rw [e]; exact h
    | _ => exact h.elim
  | _ => exact h.elim
/-! isinstance -/
def isP (K : PySem.W.Frag) (x : V) (c : Value) (H : Hp) (Q : Bool → Prop) : Prop := match x with
  | .str _ => ∃ b, PySem.W.kitOne K (.type "str") c = some b ∧ Q b
  | .int _ => ∃ b, PySem.W.kitOne K (.type "int") c = some b ∧ Q b
  | .bl _ => ∃ b, PySem.W.kitOne K (.type "bool") c = some b ∧ Q b
  | .non => ∃ b, PySem.W.kitOne K (.type "NoneType") c = some b ∧ Q b
  | .ref p => ∃ t b, TyX K H (.ref p) t ∧ PySem.W.kitOne K t c = some b ∧ Q b
  | _ => False
theorem isP_e {K : PySem.W.Frag} {x : V} {c : Value} {H : Hp} {Q : Bool → Prop} (h : isP K x c H Q) : ∃ t b, TyX K H x t ∧ PySem.W.kitOne K t c = some b ∧ Q b := by
  cases x with
  | str z => obtain ⟨b, h⟩ := h; exact ⟨_, b, .base (.str z), h⟩
  | int z => obtain ⟨b, h⟩ := h; exact ⟨_, b, .base (.int z), h⟩
  | bl z => obtain ⟨b, h⟩ := h; exact ⟨_, b, .base (.bl z), h⟩
  | non => obtain ⟨b, h⟩ := h; exact ⟨_, b, .base .non, h⟩
  | ref p => exact h
  | _ => exact h.elim
def zIs (K : PySem.W.Frag) : List V → Hp → VK → Prop := fun xs H Q => two xs fun x c => match c with
  | .ty n => isP K x (.type n) H fun b => Q (.bl b) H
  | .ref C => isP K x (.ref C) H fun b => Q (.bl b) H
  | _ => False
theorem cris : CallR X (.builtin "isinstance") (zIs X.K) := cr_imp call_isi fun xs H Q h => by
  obtain ⟨x, c, rfl, h⟩ := two_e h
  cases c with
  | ty n => obtain ⟨t, b, h1, h2, h3⟩ := isP_e h; exact ⟨x, _, t, _, b, rfl, .ty n, h1, h2, h3⟩
  | ref C => obtain ⟨t, b, h1, h2, h3⟩ := isP_e h; exact ⟨x, _, t, _, b, rfl, .own C, h1, h2, h3⟩
  | _ => exact h.elim
variable {x : Str} {p pos : Pos} {e : Expr} {es : List Expr} {t : TA} {id T : String} {r : List V → Hp → VK → Prop}
theorem pcb (hc : CallR X (.builtin id) r) (hm : X.mg x = none) (ha : PA X (e :: es) t) (hv : bootBuiltins x = some (.builtin id) := by decide +kernel) (hg : Gl X x := by rfl) (hn : x ≠ "__name__" := by decide +kernel) (hdb : (x == ("__debug__" : Str)) = false := by decide +kernel)
    (he : starEach (e :: es) X.env = (false, eval e X.env) :: starEach es X.env := by rfl) (hpl : (backTo pos (starEach es X.env)).any (·.1) = false := by rfl) : PE X (.Call (.Name x p) (e :: es) [] pos) (tCB r t) := pe_callB hc hg hm hv ha hn hdb he hpl
theorem pct (hc : CallR X (.type T) r) (hm : X.mg x = none) (ha : PA X (e :: es) t) (hv : bootBuiltins x = some (.type T) := by decide +kernel) (hg : Gl X x := by rfl) (hn : x ≠ "__name__" := by decide +kernel) (hdb : (x == ("__debug__" : Str)) = false := by decide +kernel)
    (he : starEach (e :: es) X.env = (false, eval e X.env) :: starEach es X.env := by rfl) (hpl : (backTo pos (starEach es X.env)).any (·.1) = false := by rfl) : PE X (.Call (.Name x p) (e :: es) [] pos) (tCB r t) := pe_callTy hc hg hm hv ha hn hdb he hpl
/-! methods of texts and lists -/
structure joi (vs : List V) (a : List Nat) (k : List Nat → Prop) : Prop where
  out : ∃ ys : List (List Nat), vs = ys.map (fun l => V.str (S l)) ∧ (ys.map List.length).sum + ys.length * a.length ≤ 16777216 ∧ k (TL.joinL a ys)
theorem joi_e {vs : List V} {a : List Nat} {k : List Nat → Prop} (h : joi vs a k) : ∃ ys : List (List Nat), vs = ys.map (fun l => V.str (S l)) ∧ (ys.map List.length).sum + ys.length * a.length ≤ 16777216 ∧ k (TL.joinL a ys) := by replace h := h.out; exact h
def zJoin (K : PySem.W.Frag) : V → List V → Hp → VK → Prop := fun x xs H Q => match x with
  | .str a => one xs fun y => (match y with
    | .ref p => look H p fun o => (match o with
      | some (.lst vs) => joi vs (tl a) fun t => Q (.str (S t)) H
      | some (.tup vs) => joi vs (tl a) fun t => Q (.str (S t)) H
      | _ => False)
    | _ => False)
  | _ => False
theorem mtjoin : MtR X "str.join" (zJoin X.K) := by
  refine mt_imp mt_join fun x xs H Q h => ?_
  cases x with
  | str a =>
    obtain ⟨y, rfl, h⟩ := one_e h
    cases y with
    | ref p =>
      have fin : ∀ vs, SqL X.K H p vs ∨ SqT X.K H p vs → (∃ ys : List (List Nat), vs = ys.map (fun l => V.str (S l)) ∧ (ys.map List.length).sum + ys.length * (tl a).length ≤ 16777216 ∧ Q (.str (S (TL.joinL (tl a) ys))) H) →
          ∃ a' p', ∃ ys : List Str, V.str a = .str a' ∧ [V.ref p] = [.ref p'] ∧ (SqL X.K H p' (ys.map V.str) ∨ SqT X.K H p' (ys.map V.str)) ∧ (ys.map (·.length)).sum + ys.length * a'.length ≤ 16777216 ∧ Q (.str (Txt.join a' ys)) H := by
        rintro vs hs ⟨ys, rfl, h1, h2⟩
        refine ⟨a, p, ys.map S, rfl, rfl, ?_, ?_, ?_⟩
        · rw [List.map_map]; exact hs
        · rw [List.map_map, List.length_map, len_tl]
          have e : ((fun z : Str => z.length) ∘ S) = List.length := funext fun l => by show (S l).length = l.length; rw [len_tl]
          rw [e]; exact h1
        · rw [TL.join_eq]
          have e : Str.join a (ys.map S) = S (TL.joinL (tl a) ys) := ext_tl ((TL.tl_join a (ys.map S)).trans (by
            rw [List.map_map]
            have e2 : (TL.tl ∘ S) = id := funext fun l => rfl
            rw [e2, List.map_id]))
          rw [e]; exact h2
      have h := look_e h
      revert h
      cases e : H p with
      | none => exact fun h => h.elim
      | some o =>
        cases o with
        | lst vs => exact fun h => fin vs (.inl (SqL.of e)) (joi_e h)
        | tup vs => exact fun h => fin vs (.inr (SqT.of e)) (joi_e h)
        | _ => exact fun h => h.elim
    | _ => exact h.elim
  | _ => exact h.elim
variable {o : Expr} {to : TE} {name : Str} {apos cpos : Pos}
/-- text.m(..) -/
def tSM (r : V → List V → Hp → VK → Prop) (to : TE) (t : TA) : TE := fun σ H Q => to σ H fun x H1 => match x with
  | .str z => t σ H1 fun xs H2 => r (.str z) xs H2 Q
  | _ => False
theorem psm {mid : String} {r : V → List V → Hp → VK → Prop} (slot : Slot "str" name mid) (hty : typeOf (.builtin mid) = pure (.type "method_descriptor")) (hm : MtR X mid r) (ho : PE X o to) (ha : PA X (e :: es) t)
    (hbase : attributeBase o name X.env (eval o X.env) = eval o X.env := by rfl)
    (hfew : ((backTo cpos (starEach (e :: es) X.env)).all (fun x => !x.1) && (backToKw cpos (keywordEach [] X.env)).all (fun x => x.1.isSome)
      && decide ((e :: es).length + ([] : List Keyword).length + (if ([] : List Keyword).isEmpty then 0 else 1) < 30)) = true := by rfl)
    (hline : (apos.endLine == cpos.line) = true := by rfl) (hs : starEach (e :: es) X.env = (false, eval e X.env) :: starEach es X.env := by rfl) (hplain : (backTo cpos (starEach es X.env)).any (·.1) = false := by rfl) :
    PE X (.Call (.Attribute o name apos) (e :: es) [] cpos) (tSM r to t) := by
  refine ⟨fun pins s σ H Q I h => ?_⟩
  refine wpAny_Call_method_late hbase hfew hline rfl (thn (ho.run pins s σ H _ I h) fun v s1 ⟨x, H1, I1, r1, q1⟩ => ?_)
  cases x with
  | str z =>
    obtain ⟨h1, h2⟩ := tyV_is (T := "str") (x := .str z) I1 r1 rfl
    refine ⟨"str", mid, F.plainAttrs_str, slot, hty, h1, h2, ?_⟩
    have hA := ha.run cpos pins s1 σ H1 _ I1 q1
    rw [hs] at hA ⊢
    refine Calls.callWith_builtin (by show (false || (backTo cpos (starEach es X.env)).any (·.1)) = false; rw [hplain] <;> rfl) (Calls.evalArgs_plain ?_)
    exact thn hA fun us s2 ⟨vs, H2, I2, r2, q2⟩ => hm pins s2 σ H2 _ vs v us Q I2 r1 r2 q2
  | _ => exact False.elim q1
end
end Ta

set_option Elab.async false
set_option linter.all false
set_option maxRecDepth 100000
set_option maxHeartbeats 1000000
namespace Ta
open PySem PySem.Spec PyProof.Rows L2

/-! ### what is walked: n turns, turn i yields x (heap H to H'), while st holds -/
abbrev Itm := Nat → Hp → V → Hp → Prop
structure Adm (J : It) (n : Nat) (it : Itm) (st : Hp → Prop) : Prop where
  go : ∀ i H, i < n → st H → J.go i H
  yl : ∀ i H x H', i < n → st H → J.yld i H x H' → it i H x H'
  sp : ∀ H, st H → J.stop n H
abbrev TJ := St → Hp → (Nat → Itm → (Hp → Prop) → Hp → Prop) → Prop
def toI (wi : TJ) : TI := fun σ H R => wi σ H fun n it st H1 => ∀ J, Adm J n it st → R J H1
abbrev PJ (X : Cx) (tg iter : Expr) (wi : TJ) : Prop := PI X tg iter (toI wi)
def itL (xs : List V) : Itm := fun i H x H' => H' = H ∧ xs[i]? = some x
def itR (lo : Int) : Itm := fun i H x H' => H' = H ∧ x = .int (lo + i)
def itS (l : List Nat) : Itm := fun i H x H' => H' = H ∧ ∃ c, l[i]? = some c ∧ x = .str (S [c])

structure loop (n : Nat) (it : Itm) (st : Hp → Prop) (g : TG) (tb : TS) (D : Ends) (σ : St) (H : Hp) : Prop where
  out : ∀ J, Adm J n it st → ∃ W : Nat → Nat → St → Hp → Prop, (∃ m, W 0 m σ H) ∧ ∀ i m σ H, W i m σ H →
  (J.stop i H ∧ D.nx σ H) ∨ (J.go i H ∧ ∃ N : St → Hp → Prop, (∀ σ' H', N σ' H' → ∃ m', m' < m ∧ W (i + 1) m' σ' H') ∧ ∀ x H', J.yld i H x H' → g x σ H' fun σ2 H2 => tb { D with nx := N, ct := N, bk := D.nx } σ2 H2)
theorem loop_i {n : Nat} {it : Itm} {st : Hp → Prop} {g : TG} {tb : TS} {D : Ends} {σ : St} {H : Hp} (Pv : Nat → St → Hp → Prop) (h0 : Pv 0 σ H) (hst : ∀ i σ H, i ≤ n → Pv i σ H → st H)
    (hs : ∀ i x σ H H', i < n → Pv i σ H → it i H x H' → g x σ H' fun σ2 H2 => tb { D with nx := Pv (i + 1), ct := Pv (i + 1), bk := D.nx } σ2 H2) (hd : ∀ σ H, Pv n σ H → D.nx σ H) : loop n it st g tb D σ H := by
  refine ⟨?_⟩
  intro J A
  refine ⟨fun i m σ H => m = n - i ∧ i ≤ n ∧ Pv i σ H, ⟨n, by simp, Nat.zero_le _, h0⟩, ?_⟩
  rintro i m σ H ⟨rfl, hi, p⟩
  have q := hst i σ H hi p
  by_cases hlt : i < n
  · exact .inr ⟨A.go i H hlt q, Pv (i + 1), fun σ' H' p' => ⟨n - (i + 1), by omega, rfl, hlt, p'⟩, fun x H' y => hs i x σ H H' hlt p (A.yl i H x H' hlt q y)⟩
  · have e : i = n := by omega
    subst e
    exact .inl ⟨A.sp H q, hd σ H p⟩
def tForP (wi : TJ) (g : TG) (tb : TS) : TS := fun D σ H => wi σ H fun n it st H1 => loop n it st g tb D σ H1
section
variable {X : Cx} {tg : Expr}
theorem psfor {iter : Expr} {body : List Stmt} {wi : TJ} {g : TG} {tb : TS} {pos : Pos} (hp : PassesOwn (model X.prog X.w) X.A X.env X.xe) (hc : X.calm = true) (hi : PJ X tg iter wi) (hg : PG X tg g) (hb : PSs X body tb)
    (hs : ∀ x, foldedSetIterable iter X.env x = pure x := by intro _; rfl) : PS X (.For tg iter body [] pos) (tForP wi g tb) := by
  refine ps_imp (ps_for (wi := toI wi) hp hc hi hg hb hs) fun D σ H h => ?_
  have e : (fun n it st H1 => loop n it st g tb D σ H1) = (fun n it st H1 => ∀ J, Adm J n it st → ∃ W : Nat → Nat → St → Hp → Prop, (∃ m, W 0 m σ H1) ∧ ∀ i m σ H, W i m σ H →
      (J.stop i H ∧ D.nx σ H) ∨ (J.go i H ∧ ∃ N : St → Hp → Prop, (∀ σ' H', N σ' H' → ∃ m', m' < m ∧ W (i + 1) m' σ' H') ∧ ∀ x H', J.yld i H x H' → g x σ H' fun σ2 H2 => tb { D with nx := N, ct := N, bk := D.nx } σ2 H2)) := by
    funext n it st H1
    exact propext ⟨fun h => h.out, fun h => ⟨h⟩⟩
  have h : wi σ H fun n it st H1 => loop n it st g tb D σ H1 := h
  rw [e] at h
  exact h
/-- range(n) -/
def jR1 (ta : TA) : TJ := fun σ H R => ta σ H fun vs H1 => one vs fun x => match x with
  | .int j => (-(2 ^ 62) ≤ j ∧ j < 2 ^ 62) ∧ R j.toNat (itR 0) (fun _ => True) H1
  | _ => False
def jR2 (ta : TA) : TJ := fun σ H R => ta σ H fun vs H1 => two vs fun x y => match x with
  | .int i => (match y with
    | .int j => (-(2 ^ 62) ≤ i ∧ i < 2 ^ 62 ∧ -(2 ^ 62) ≤ j ∧ j < 2 ^ 62) ∧ R (j - i).toNat (itR i) (fun _ => True) H1
    | _ => False)
  | _ => False
theorem adm_r (lo : Int) (n : Nat) : Adm (Itr lo n) n (itR lo) (fun _ => True) := ⟨fun i H h _ => h, fun i H x H' _ _ h => h, fun H _ => Nat.le_refl n⟩
theorem pjr1 {a : Expr} {ta : TA} {p pos : Pos} (hm : X.mg "range" = none) (ha : PA X [a] ta) (hg : Gl X "range" := by rfl) (hs : starEach [a] X.env = [(false, eval a X.env)] := by rfl) : PJ X tg (.Call (.Name "range" p) [a] [] pos) (jR1 ta) := by
  refine ⟨fun pins s σ H R I h => ?_⟩
  refine Call_ (ld_blt I hg hm boot_range (PyProof.Rows.callWith_type1 (thn (ha.run pos pins s σ H _ I h) fun us s1 ⟨vs, H1, I1, r1, q1⟩ => ?_) hs rfl))
  obtain ⟨x, rfl, q1⟩ := one_e q1
  cases x with
  | int j =>
    obtain ⟨⟨q1, q2⟩, q⟩ := q1
    cases r1 with
    | cons r rr =>
      cases rr
      obtain ⟨t, rfl⟩ := r
      exact call_range_1 (range_it I1 (by omega) (by omega) q1 q2 (by simpa using q _ (adm_r 0 j.toNat)))
  | _ => exact False.elim q1
theorem pjr2 {a b : Expr} {ta : TA} {p pos : Pos} (hm : X.mg "range" = none) (ha : PA X [a, b] ta) (hg : Gl X "range" := by rfl) (hs : starEach [a, b] X.env = [(false, eval a X.env), (false, eval b X.env)] := by rfl) (hs2 : starEach [b] X.env = [(false, eval b X.env)] := by rfl) :
    PJ X tg (.Call (.Name "range" p) [a, b] [] pos) (jR2 ta) := by
  refine ⟨fun pins s σ H R I h => ?_⟩
  refine Call_ (ld_blt I hg hm boot_range (PyProof.Rows.callWith_type1 (thn (ha.run pos pins s σ H _ I h) fun us s1 ⟨vs, H1, I1, r1, q1⟩ => ?_) (by rw [hs, hs2]) (by rw [hs2]; rfl)))
  obtain ⟨x, y, rfl, q1⟩ := two_e q1
  cases x with
  | int i =>
    cases y with
    | int j =>
      obtain ⟨⟨q1, q2, q3, q4⟩, q⟩ := q1
      cases r1 with
      | cons r rr =>
        cases rr with
        | cons r' rr =>
          cases rr
          obtain ⟨t, rfl⟩ := r
          obtain ⟨t', rfl⟩ := r'
          exact call_range_2 (range_it I1 q1 q2 q3 q4 (q _ (adm_r i _)))
    | _ => exact False.elim q1
  | _ => exact False.elim q1
/-- a text, a list, a tuple -/
def jA (K : PySem.W.Frag) (te : TE) : TJ := fun σ H R => te σ H fun x H1 => match x with
  | .str z => R (tl z).length (itS (tl z)) (fun _ => True) H1
  | .ref a => look H1 a fun o => (match o with
    | some (.lst xs) => R xs.length (itL xs) (fun H' => H' a = some (.lst xs)) H1
    | some (.tup xs) => R xs.length (itL xs) (fun H' => H' a = some (.tup xs)) H1
    | some (.frz ob (.lst xs)) => R xs.length (itL xs) (fun H' => H' a = some (.frz ob (.lst xs))) H1
    | _ => ∃ xs, SqT K (fun _ => none) a xs ∧ R xs.length (itL xs) (fun _ => True) H1)
  | _ => False
theorem adm_l {K : PySem.W.Frag} {a : Addr} {xs : List V} {st : Hp → Prop} (h : ∀ H, st H → SqL K H a xs) : Adm (Itl K a) xs.length (itL xs) st :=
  ⟨fun i H hi q => ⟨xs, xs[i], h H q, by simp [hi]⟩, fun i H x H' hi q y => ⟨y.1, y.2 xs (h H q)⟩, fun H q => ⟨xs, h H q, Nat.le_refl _⟩⟩
theorem adm_t {K : PySem.W.Frag} {a : Addr} {xs : List V} {st : Hp → Prop} (h : ∀ H, st H → SqT K H a xs) : Adm (Itt K a) xs.length (itL xs) st :=
  ⟨fun i H hi q => ⟨xs, xs[i], h H q, by simp [hi]⟩, fun i H x H' hi q y => ⟨y.1, y.2 xs (h H q)⟩, fun H q => ⟨xs, h H q, Nat.le_refl _⟩⟩
theorem adm_s (z : Str) : Adm (Its z) (tl z).length (itS (tl z)) (fun _ => True) := by
  have e : z.cps.size = (tl z).length := by simp [tl]
  refine ⟨fun i H h _ => ?_, fun i H x H' _ _ y => ⟨y.1, ?_⟩, fun H _ => ?_⟩
  · show i < z.cps.size; rw [e]; exact h
  · obtain ⟨c, h1, h2⟩ := y.2
    exact ⟨c, by simpa [tl] using h1, h2⟩
  · show z.cps.size ≤ _; rw [e]; exact Nat.le_refl _
theorem sqT_k {K : PySem.W.Frag} {H : Hp} {a : Addr} {xs : List V} (h : SqT K (fun _ => none) a xs) : SqT K H a xs := by
  rcases h with (h | ⟨o, h⟩) | h
  · cases h
  · cases h
  · exact .inr h
theorem pja {l : Expr} {te : TE} (hl : PE X l te) : PJ X tg l (jA X.K te) := by
  refine ⟨fun pins s σ H R I h => ?_⟩
  refine thn (hl.run pins s σ H _ I h) fun v s1 ⟨x, H1, I1, r1, q1⟩ => ?_
  cases x with
  | str z =>
    obtain ⟨t, rfl⟩ := r1
    have q := q1 _ (adm_s z)
    cases ha : z.cps.all (· < 128)
    · exact wpAny_pyIter_wide ha (pi_one (tk := s1.toks) I1 _ (turn_str _ z t "str_iterator" (.inr rfl)) ⟨_, Heap.get?_push_size _ rfl, rfl, rfl⟩ q)
    · exact wpAny_pyIter_ascii ha (pi_one (tk := s1.toks) I1 _ (turn_str _ z t "str_ascii_iterator" (.inl rfl)) ⟨_, Heap.get?_push_size _ rfl, rfl, rfl⟩ q)
  | ref a =>
    cases r1
    have fl : ∀ xs, SqL X.K H1 a xs → R (Itl X.K a) H1 → wpAny (model X.prog X.w) X.A (pyIter (.ref a)) (PIE X pins σ tg R) X.xe s1 := fun xs hq q => by
      obtain ⟨its, rv, p, hz⟩ := I1.list hq
      refine wpAny_pyIter_list p.isList ?_
      refine ⟨s1.heap.objs.size, [s1.heap.objs.size], _, _, H1, rfl, I1.kept (t' := s1.toks) fun b o e => Heap.get?_push_of_some _ e, turn_list a _, ⟨_, Heap.get?_push_size _ rfl, rfl, rfl⟩, fun b hb => ?_, q⟩
      have e : b = s1.heap.objs.size := by simpa using hb
      subst e
      exact I1.fpOk (Nat.le_refl _) (I1.hok.fresh (Nat.le_refl _))
    have ft : ∀ xs, SqT X.K H1 a xs → R (Itt X.K a) H1 → wpAny (model X.prog X.w) X.A (pyIter (.ref a)) (PIE X pins σ tg R) X.xe s1 := fun xs hq q => by
      obtain ⟨its, rv, p, hz⟩ := I1.tuple hq
      refine wpAny_pyIter_tuple (show s1.heap.IsTuple a its.toArray from p) ?_
      refine ⟨s1.heap.objs.size, [s1.heap.objs.size], _, _, H1, rfl, I1.kept (t' := s1.toks) fun b o e => Heap.get?_push_of_some _ e, turn_tuple a _, ⟨_, Heap.get?_push_size _ rfl, rfl, rfl⟩, fun b hb => ?_, q⟩
      have e : b = s1.heap.objs.size := by simpa using hb
      subst e
      exact I1.fpOk (Nat.le_refl _) (I1.hok.fresh (Nat.le_refl _))
    have q1 := look_e q1
    have fk : (∃ xs, SqT X.K (fun _ => none) a xs ∧ ∀ J, Adm J xs.length (itL xs) (fun _ => True) → R J H1) → wpAny (model X.prog X.w) X.A (pyIter (.ref a)) (PIE X pins σ tg R) X.xe s1 :=
      fun ⟨xs, h1, h2⟩ => ft xs (sqT_k h1) (h2 _ (adm_t fun H' _ => sqT_k h1))
    revert q1
    cases e : H1 a with
    | none => exact fk
    | some o =>
      cases o with
      | lst xs => exact fun q1 => fl xs (SqL.of e) (q1 _ (adm_l fun H' h => SqL.of h))
      | tup xs => exact fun q1 => ft xs (SqT.of e) (q1 _ (adm_t fun H' h => SqT.of h))
      | frz ob u =>
        cases u with
        | lst xs => exact fun q1 => fl xs (.inl (.inr ⟨_, e⟩)) (q1 _ (adm_l fun H' h => .inl (.inr ⟨_, h⟩)))
        | _ => exact fk
      | _ => exact fk
  | _ => exact False.elim q1

/-! ### while -/
structure whl (c : TT) (tb : TS) (D : Ends) (σ : St) (H : Hp) : Prop where
  out : tWhile c tb D σ H
/-- by a word and a measure; the test's reading is asked with its own wish -/
theorem whl_i {c : TT} {tb : TS} {D : Ends} {σ : St} {H : Hp} (W : Nat → St → Hp → Prop) (m : Nat) (h0 : W m σ H)
    (hs : ∀ m σ H, W m σ H → c σ H fun b H1 => if b = true then ∃ N : St → Hp → Prop, (∀ σ' H', N σ' H' → ∃ m', m' < m ∧ W m' σ' H') ∧ tb { D with nx := N, ct := N, bk := D.nx } σ H1 else D.nx σ H1) : whl c tb D σ H := by
  refine ⟨?_⟩
  exact ⟨W, ⟨m, h0⟩, hs⟩
theorem pswhl {c : Expr} {body : List Stmt} {tc : TT} {tb : TS} {pos : Pos} (hp : PassesOwn (model X.prog X.w) X.A X.env X.xe) (hc : PT X c tc) (hb : PSs X body tb) : PS X (.While c body [] pos) (whl tc tb) :=
  ps_imp (ps_while hp hc hb) fun D σ H h => by replace h := h.out; exact h

/-! ### list comprehensions -/
structure lcp (n : Nat) (it : Itm) (st : Hp → Prop) (g : TG) (tt : TT) (te : TE) (vs : List Nat) (σ : St) (H1 : Hp) (Q : VK) : Prop where
  out : ∀ J, Adm J n it st → ∀ D, H1 D = none → ∃ W : Nat → Nat → Hp → Prop, (∃ m, W 0 m (upd H1 D (.lst []))) ∧ ∀ i m H, W i m H →
  (J.stop i H ∧ Q (.ref D) H) ∨ (J.go i H ∧ ∃ Nx : Hp → Prop, (∀ H', Nx H' → ∃ m', m' < m ∧ W (i + 1) m' H') ∧ ∀ x H', J.yld i H x H' → g x (wipe σ vs) H' fun σ2 H2 => wipe σ2 vs = wipe σ vs ∧ tt σ2 H2 fun b H3 =>
    if b = true then te σ2 H3 fun y H4 => ∃ acc, H4 D = some (.lst acc) ∧ acc.length < sizeLine ∧ Nx (upd H4 D (.lst (acc ++ [y]))) else Nx H3)
def tLcP (wi : TJ) (g : TG) (tt : TT) (te : TE) (vs : List Nat) : TE := fun σ H Q => wi σ H fun n it st H1 => lcp n it st g tt te vs σ H1 Q
theorem tLcP_e {wi : TJ} {g : TG} {tt : TT} {te : TE} {vs : List Nat} {σ : St} {H : Hp} {Q : VK} (h : tLcP wi g tt te vs σ H Q) : tLc (toI wi) g tt te vs σ H Q := by
  have e : (fun n it st H1 => lcp n it st g tt te vs σ H1 Q) = (fun n it st H1 => ∀ J, Adm J n it st → ∀ D, H1 D = none → ∃ W : Nat → Nat → Hp → Prop, (∃ m, W 0 m (upd H1 D (.lst []))) ∧ ∀ i m H, W i m H →
      (J.stop i H ∧ Q (.ref D) H) ∨ (J.go i H ∧ ∃ Nx : Hp → Prop, (∀ H', Nx H' → ∃ m', m' < m ∧ W (i + 1) m' H') ∧ ∀ x H', J.yld i H x H' → g x (wipe σ vs) H' fun σ2 H2 => wipe σ2 vs = wipe σ vs ∧ tt σ2 H2 fun b H3 =>
        if b = true then te σ2 H3 fun y H4 => ∃ acc, H4 D = some (.lst acc) ∧ acc.length < sizeLine ∧ Nx (upd H4 D (.lst (acc ++ [y]))) else Nx H3)) := by
    funext n it st H1
    exact propext ⟨fun h => h.out, fun h => ⟨h⟩⟩
  have h : wi σ H fun n it st H1 => lcp n it st g tt te vs σ H1 Q := h
  rw [e] at h
  exact h
theorem plc {elt iter : Expr} {ifs : List Expr} {scope : Scope} (own : List (Str × Nat)) {pos : Pos} {wi : TJ} {g : TG} {tt : TT} {te : TE} (hc : X.calm = true) (hN : X.N.Nodup) (hi : PJ X tg iter wi) (ok : blkC X.N X.env.scope scope own = true)
    (hg : ∀ (s : Shared) (H : Hp) (C : Addr) (cl : List (Str × Addr)) (fp : List Addr), PG (X.blk s H scope (compEnvC scope cl C X.env) fp) tg g) (ht : ∀ (s : Shared) (H : Hp) (C : Addr) (cl : List (Str × Addr)) (fp : List Addr), PTs (X.blk s H scope (compEnvC scope cl C X.env) fp) ifs tt)
    (he : ∀ (s : Shared) (H : Hp) (C : Addr) (cl : List (Str × Addr)) (fp : List Addr), PE (X.blk s H scope (compEnvC scope cl C X.env) fp) elt te) (hs : ∀ x, foldedSetIterable iter X.env x = pure x := by intro _; rfl) :
    PE X (.ListComp elt [⟨tg, iter, ifs, 0⟩] scope pos) (tLcP wi g tt te (own.map (·.2))) := pe_imp (pe_lc hc hN hi (blkOk_by ok) hg ht he hs) fun _ _ _ h => tLcP_e h
theorem pslc {i : Nat} {y : Str} {py : Pos} {elt iter : Expr} {ifs : List Expr} {scope : Scope} (own : List (Str × Nat)) {pos spos : Pos} {wi : TJ} {g : TG} {tt : TT} {te : TE} (hc : X.calm = true) (hN : X.N.Nodup) (hy : X.N[i]? = some y) (hyl : X.env.scope.names.lookup y = some .local)
    (hsw : swapsWith (.ListComp elt [⟨tg, iter, ifs, 0⟩] scope pos) (some (.Name y py)) spos.line X.env = pure true) (hi : PJ X tg iter wi) (ok : blkC X.N X.env.scope scope own = true)
    (hg : ∀ (s : Shared) (H : Hp) (C : Addr) (cl : List (Str × Addr)) (fp : List Addr), PG (X.blk s H scope (compEnvC scope cl C X.env) fp) tg g) (ht : ∀ (s : Shared) (H : Hp) (C : Addr) (cl : List (Str × Addr)) (fp : List Addr), PTs (X.blk s H scope (compEnvC scope cl C X.env) fp) ifs tt)
    (he : ∀ (s : Shared) (H : Hp) (C : Addr) (cl : List (Str × Addr)) (fp : List Addr), PE (X.blk s H scope (compEnvC scope cl C X.env) fp) elt te) (hs : ∀ x, foldedSetIterable iter X.env x = pure x := by intro _; rfl) :
    PS X (.Assign [.Name y py] (.ListComp elt [⟨tg, iter, ifs, 0⟩] scope pos) spos) (tAsg (tLcP wi g tt te (own.map (·.2))) (gName i)) :=
  ps_imp (ps_setLc hc hN hy hyl hsw hi (blkOk_by ok) hg ht he hs) fun D σ H h => tLcP_e h
theorem lcp_i {n : Nat} {it : Itm} {st : Hp → Prop} {g : TG} {tt : TT} {te : TE} {vs : List Nat} {σ : St} {H1 : Hp} {Q : VK} (Pv : Addr → Nat → Hp → Prop) (h0 : ∀ D, H1 D = none → Pv D 0 (upd H1 D (.lst []))) (hst : ∀ D i H, H1 D = none → i ≤ n → Pv D i H → st H)
    (hs : ∀ D i x H H', H1 D = none → i < n → Pv D i H → it i H x H' → g x (wipe σ vs) H' fun σ2 H2 => wipe σ2 vs = wipe σ vs ∧ tt σ2 H2 fun b H3 =>
      if b = true then te σ2 H3 fun y H4 => ∃ acc, H4 D = some (.lst acc) ∧ acc.length < sizeLine ∧ Pv D (i + 1) (upd H4 D (.lst (acc ++ [y]))) else Pv D (i + 1) H3) (hd : ∀ D H, H1 D = none → Pv D n H → Q (.ref D) H) : lcp n it st g tt te vs σ H1 Q := by
  refine ⟨?_⟩
  intro J A D hD
  refine ⟨fun i m H => m = n - i ∧ i ≤ n ∧ Pv D i H, ⟨n, by simp, Nat.zero_le _, h0 D hD⟩, ?_⟩
  rintro i m H ⟨rfl, hi, p⟩
  have q := hst D i H hD hi p
  by_cases hlt : i < n
  · exact .inr ⟨A.go i H hlt q, Pv D (i + 1), fun H' p' => ⟨n - (i + 1), by omega, rfl, hlt, p'⟩, fun x H' y => hs D i x H H' hD hlt p (A.yl i H x H' hlt q y)⟩
  · have e : i = n := by omega
    subst e
    exact .inl ⟨A.sp H q, hd D H hD p⟩
end
end Ta

set_option Elab.async false
set_option linter.all false
set_option maxRecDepth 100000
set_option maxHeartbeats 1000000
namespace Ta
open PySem PySem.Spec PyProof.Rows L2

/-! ### a def that says super(): its closure is the cell of __class__ -/
structure SupFn (P : Program) (K : PySem.W.Frag) (f : Addr) (F : NdefX.NF) (D : Addr) (dvs : List V) (fd : FuncData) : Prop where
  ex : ∃ (cc : Addr) (oc : Value) (od an : Option Addr) (dV kV doc pm ct : Value) (osl : Array (Option Value)), F.cl = [(("__class__" : Str), cc)] ∧ fd = PySem.W.fnX F.name F.qual F.params F.body F.scope F.cl dV kV doc pm an (.ref F.c) ct ∧
    K.lookup f = some ⟨oc, od, .func fd, osl⟩ ∧ DflV K dV dvs ∧ ∃ (cl : Value) (cld : Option Addr) (csl : Array (Option Value)), K.lookup cc = some ⟨cl, cld, .cell (some (.ref D)), csl⟩
  cd : PySem.W.codeIn K (.ref F.c) F.qual = true
  file : ∃ (ccl : Value) (cdd : Option Addr) (vs : Array Value) (ccs : Array (Option Value)) (fl : Str) (tf : Tok), K.lookup F.c = some ⟨ccl, cdd, .fields vs, ccs⟩ ∧ vs[2]? = some (.str fl tf) ∧ ((P.main.file : Str) == fl) = true
  clsD : ∃ cdD, PySem.W.clsIn K D = some cdD
  top : (P.main.scope.names.lookup ("super" : Str)).isSome = false
  kp : PySem.W.keepIn K (.ref f) = true
section
variable {P : Program} {w : World} {K : PySem.W.Frag} {mg : Str → Option Value} {base : Heap}
/-- such a def by its first statement (at the code itself) and the rest -/
theorem fn_sup {f D : Addr} {F : NdefX.NF} {fd : FuncData} {N ps : List Str} {sp : Sp} {k : Nat} {st0 : Stmt} {rest : List Stmt} {dvs : List V} (SF : SupFn P K f F D dvs fd) (hbd : F.body = st0 :: rest) (S : NdefX.NScope N ps ["__class__"] F.scope)
    (len : ∀ vs H Q E, sp vs H Q E → vs.length = ps.length)
    (hbody : ∀ (A : Around) (outer : List Env) (s : Shared) (H : Hp) (vs : List V) (Q : VK) (E : XK), Room k (A.deeper (NdefX.envF F f s.heap.objs.size)) → sp vs H Q E →
      ∃ (t : TS), PSs (NdefX.ncx (L2M.CX K P w) P w K mg base N F f A outer s H E) rest t ∧
        ∀ s', Inv (NdefX.ncx (L2M.CX K P w) P w K mg base N F f A outer s H E) [] (NdefX.startF N vs [some (.ref D)]) H s' →
          PySem.wpAt (model P w) (A.deeper (NdefX.envF F f s.heap.objs.size)) (.func F.body (NdefX.envF F f s.heap.objs.size)) (exec st0 (NdefX.envF F f s.heap.objs.size))
            (fun fl s'' => fl = .next ∧ ∃ σ' H', Inv (NdefX.ncx (L2M.CX K P w) P w K mg base N F f A outer s H E) [] σ' H' s'' ∧ t { nx := fun _ H' => Q .non H', rt := Q } σ' H')
            (NdefX.ncx (L2M.CX K P w) P w K mg base N F f A outer s H E).xe s') :
    FnOk P w K mg base (L2M.CX K P w) (k + 1) f fd ps sp := by
  obtain ⟨cc, oc, od, an, dV, kV, doc, pm, ct, osl, hcl, rfl, lk, hD, cl, cld, csl, hcell⟩ := SF.ex
  refine ⟨len, fun A outer s H args us vs Q E hr e0 hb r hsp => ?_⟩
  have hl := len _ _ _ _ hsp
  have KX : K.In s.heap := e0.mod.kin.keeps fun b o e => (e0.bs b o e).1
  have lim : s.heap.NoLimit := e0.mod.nolimit.keeps fun b o e => (e0.bs b o e).1
  have C : NdefX.CellsAt F.cl ["__class__"] [some (.ref D)] s.heap H := by
    rw [hcl]
    have hK : ∀ y c, ([("__class__", cc)] : List (Str × Addr)).lookup y = some c → y = "__class__" ∧ c = cc := fun y c e => by
      simp only [List.lookup] at e
      split at e
      · rename_i hb; cases e; exact ⟨eq_of_beq hb, rfl⟩
      · cases e
    refine ⟨rfl, fun y c e => ?_, fun x y c e1 e2 => (hK x c e1).1.trans (hK y c e2).1.symm, fun i y e => ?_⟩
    · obtain ⟨_, rfl⟩ := hK y c e
      exact ⟨(e0.bs _ _ (e0.mod.kin _ _ hcell)).2, _, _, KX _ _ hcell, rfl⟩
    · cases i with
      | zero =>
        have e' : y = "__class__" := by simpa using e.symm
        subst e'
        refine ⟨cc, by simp [List.lookup], fun v hv => ?_⟩
        have hv' : V.ref D = v := by simpa using hv
        subst hv'
        exact ⟨.ref D, rfl, _, KX _ _ hcell, rfl⟩
      | succ i => simp at e
  refine PySem.ks_codeAny_call_defAt hr.depth (KX _ _ lk) rfl lim (PySem.W.codeRec_of KX SF.cd) (body := F.body) rfl hb S.nocell (fun ⟨n, v⟩ hy => S.par n (List.of_mem_zip hy).1) (fun h₁ hns kp => ?_) S.co S.gen S.kind
  obtain ⟨t, ht, hq⟩ := hbody A outer s H vs Q E (hr.deeper _) hsp
  have I : Inv (NdefX.ncx (L2M.CX K P w) P w K mg base N F f A outer s H E) [] (NdefX.startF N vs [some (.ref D)]) H { s with heap := h₁, toks := s.toks + (ps.zip us).length } := NdefX.inv_startN S hr.hd e0 hl r C hns kp
  have fin : ∀ {s' : Shared} {σ' : L2.St} {H' : Hp} {v : V} {u : Value}, Inv (NdefX.ncx (L2M.CX K P w) P w K mg base N F f A outer s H E) [] σ' H' s' → RelV v u → Q v H' → CE outer P w H s Q u s' :=
    fun {s' σ' H' v u} J rv q => ⟨v, H', J.os, J.bare, J.base, J.hok, rv, q⟩
  have key : PySem.wpAt (model P w) (A.deeper (NdefX.envF F f s.heap.objs.size)) (.func F.body (NdefX.envF F f s.heap.objs.size)) (execs F.body (NdefX.envF F f s.heap.objs.size))
      (fun fl s' => CR (L2M.CX K P w) outer P w H s Q E (.ok (.ret (match fl with | .ret v => v | _ => .none))) s') (NdefX.ncx (L2M.CX K P w) P w K mg base N F f A outer s H E).xe { s with heap := h₁, toks := s.toks + (ps.zip us).length } := by
    have q0 := hq _ I
    rw [hbd] at q0 ⊢
    refine PySem.ks_wpAt_execs_cons (PySem.ks_wpAt_mono q0 (fun fl s1 h1 => ?_) fun _ _ z => z)
    obtain ⟨rfl, σ1, H1, I1, q1⟩ := h1
    refine PySem.wpAt_of_wpAny (thn (ht.run [] s1 σ1 H1 _ I1 q1) fun fl s2 h2 => ?_)
    cases fl with
    | ret u =>
      obtain ⟨v, σ', H', J, rv, q⟩ := h2
      exact fin J rv q
    | next =>
      obtain ⟨σ', H', J, q⟩ := h2
      exact fin (v := V.non) (u := Value.none) J rfl q
    | brk =>
      obtain ⟨_, _, _, q⟩ := h2
      exact False.elim q
    | cont =>
      obtain ⟨_, _, _, q⟩ := h2
      exact False.elim q
  exact key
end
/-! ### super() -/
section
variable {X : Cx} {pins : List (Addr × Obj)} {σ : St} {H : Hp} {s : Shared} {f D x C : Addr} {F : NdefX.NF} {dvs : List V} {fd : FuncData}
abbrev supO (D x C : Addr) : Obj := { cls := .type "super", dict := none, data := .fields #[.ref D, .ref x, .ref C], slots := #[] }
theorem sup_base {p0 p1 : Pos} {attr : Str} {whole : Sem Value} {E : Value → Shared → Prop} {Q : Value → Shared → Prop} {ar : Arg} {ox : Obj} (SF : SupFn X.prog X.K f F D dvs fd) (hE : X.env = NdefX.envF F f X.env.locals) (I : Inv X pins σ H s)
    (hsup : X.mg "super" = none) (hp : (F.params.posonlyargs ++ F.params.args).head? = some ar) (i : Nat) (hN : X.N[i]? = some ar.arg) (hσ : σ[i]? = some (some (.ref x))) (hka : F.scope.names.lookup ar.arg = some .local)
    (hx : s.heap.get? x = some ox) (hxc : ox.cls = .ref C) (hnc : ∀ c, ox.data ≠ .cls c) (hsub : PySem.W.mroIn X.K C (.ref D) = some true)
    (hks : F.scope.names.lookup ("super" : Str) = some .globalImplicit) (hkc : F.scope.names.lookup ("__class__" : Str) = some .free) (hk : F.scope.kind = .function) (hat : (attr == ("__class__" : Str)) = false)
    (h : ∀ so s', s'.heap.get? so = some (supO D x C) → (∀ b o, s.heap.get? b = some o → s'.heap.get? b = some o) → Inv X pins σ H s' → Q (.ref so) s') :
    PySem.wpAt (model X.prog X.w) X.A (.func F.body X.env) (attributeBase (.Call (.Name "super" p0) [] [] p1) attr X.env whole) Q E s := by
  obtain ⟨cc, oc, od, an, dV, kV, doc, pm, ct, osl, hcl, rfl, lk, hD, cl, cld, csl, hcell⟩ := SF.ex
  obtain ⟨ccl, cdd, vs, ccs, fl, tf, hcode, hvs, hfile⟩ := SF.file
  obtain ⟨cdD, hcD⟩ := SF.clsD
  have KX : X.K.In s.heap := I.kIn
  obtain ⟨oD, hD1, hD2⟩ : ∃ oD, s.heap.get? D = some oD ∧ oD.data = .cls cdD := by
    unfold PySem.W.clsIn at hcD
    split at hcD
    · rename_i c d cd' sl ho
      cases hcD
      exact ⟨_, KX _ _ ho, rfl⟩
    · cases hcD
  obtain ⟨m, hn, hloc⟩ := I.loc
  have hsc : X.env.scope = F.scope := by rw [hE]
  obtain ⟨u, ru, lu⟩ := hloc i ar.arg (.ref x) hN hσ (.inl (by rw [hsc]; exact hka))
  cases ru
  have hm : m ar.arg = some (.ref x) := by
    rcases lu with ⟨_, e⟩ | ⟨e, _⟩
    · exact e
    · have e2 : X.env.kindOf ar.arg = some .local := by show X.env.scope.names.lookup _ = _; rw [hsc]; exact hka
      rw [e2] at e; rcases e with e | e <;> cases e
  obtain ⟨mb, hb1, hb2⟩ := I.mod.blt
  refine PySem.ks_wpAt_super_base (env := X.env) (by show X.env.scope.names.lookup _ = _; rw [hsc]; exact hks) (by show X.env.scope.names.lookup _ = _; rw [hsc]; exact hkc) hat (by rw [hE]) (KX _ _ lk) rfl hp (by rw [hE]) (KX _ _ hcode) rfl hvs hfile SF.top ?_
  refine PySem.W.ks_loadName_global (by rw [hsc]; exact hk) (by show X.env.scope.names.lookup _ = _; rw [hsc]; exact hks) (Calls.loadGlobal_builtin (by rw [I.ok.glob]; exact I.mod.glob.keeps I.bk) hsup (by rw [I.ok.blt]; exact hb1.keeps I.bk) ((hb2 "super" (by decide +kernel)).trans (by decide +kernel : bootBuiltins "super" = some (.type "super"))) ⟨rfl, ?_⟩)
  refine wpAny_loadName_free (by rw [hsc]; exact hk) (by show X.env.scope.names.lookup _ = _; rw [hsc]; exact hkc) (by rw [hE]; show F.cl.lookup _ = _; rw [hcl]; rfl) ⟨_, KX _ _ hcell, rfl⟩ ?_
  refine wpAny_loadName_local (by rw [hsc]; exact hk) (by show X.env.scope.names.lookup _ = _; rw [hsc]; exact hka) hn hm ?_
  obtain ⟨hp', g', d', t', os'⟩ := s
  refine PySem.ks_wpAny_isType_cls hD1 hD2 ⟨rfl, ?_⟩
  refine PySem.ks_wpAny_call_super hD1 hD2 hx hxc hnc (PySem.W.looks_mroIn KX hsub) (fun h' e k => ?_)
  exact h _ _ e k (I.kept (t' := t') k)

/-- super().__init__('..') of an exception that is being made -/
structure SupExc (K : PySem.W.Frag) (C D : Addr) : Prop where
  oex : OexC K C
  sub : PySem.W.mroIn K C (.ref D) = some true
  ini : PySem.W.ks_superIn K C D "__init__" = some (some (.builtin "ValueError.__init__"))
  ve : PySem.W.subIn K (.ref C) (.type "ValueError") = some true
  third : PySem.W.nsIn K cStatics "thirdparty.any" = some none
theorem sup_exc {p0 p1 p2 p3 p4 p5 : Pos} {j : Nat} {msg : Str} {E : Value → Shared → Prop} {Q : Flow → Shared → Prop} {ar : Arg} (SF : SupFn X.prog X.K f F D dvs fd) (SE : SupExc X.K C D) (hE : X.env = NdefX.envF F f X.env.locals) (I : Inv X pins σ H s)
    (hsup : X.mg "super" = none) (hp : (F.params.posonlyargs ++ F.params.args).head? = some ar) (i : Nat) (hN : X.N[i]? = some ar.arg) (hσ : σ[i]? = some (some (.ref x))) (hka : F.scope.names.lookup ar.arg = some .local)
    (hx : H x = some (exo x C none)) (hks : F.scope.names.lookup ("super" : Str) = some .globalImplicit) (hkc : F.scope.names.lookup ("__class__" : Str) = some .free) (hk : F.scope.kind = .function)
    (h : ∀ s', Inv X pins σ H s' → Q .next s') (hli : p2.endLine = p2.endLine)
    (hsw : swapsWith (.Call (.Attribute (.Call (.Name "super" p0) [] [] p1) "__init__" p2) [.Constant (.str msg) j p5] [] p3) none p4.line X.env = pure false := by rfl)
    (pl : Sem Bool) (he : eval (.Call (.Attribute (.Call (.Name "super" p0) [] [] p1) "__init__" p2) [.Constant (.str msg) j p5] [] p3) X.env = (do
      let ov ← attributeBase (.Call (.Name "super" p0) [] [] p1) "__init__" X.env (eval (.Call (.Name "super" p0) [] [] p1) X.env)
      standAt p2.atName
      let (f, first) ← holding [ov] (getMethod ov "__init__" pl)
      callWith p3 f first (backTo p3 (starEach [.Constant (.str msg) j p5] X.env)) [])) :
    PySem.wpAt (model X.prog X.w) X.A (.func F.body X.env) (exec (.Expr (.Call (.Attribute (.Call (.Name "super" p0) [] [] p1) "__init__" p2) [.Constant (.str msg) j p5] [] p3) p4) X.env) Q E s := by
  obtain ⟨t1, ho⟩ := exo_at I.hok hx
  obtain ⟨nm, q, N, bs, bm, sn, sub, ab, col, dd, k0, k1, k2, k3, k5, hC, hbm⟩ := SE.oex.cls
  refine PySem.ks_wpAt_Expr_any (PySem.ks_wpAt_MethodCall (pl := pl) (sup_base SF hE I hsup hp i hN hσ hka ho rfl (fun c z => nomatch z) SE.sub hks hkc hk (by decide +kernel) fun so s1 hso kp I1 => ?_) he) I.quiet hsw
  have KX1 : X.K.In s1.heap := I1.kIn
  have ho1 := kp _ _ ho
  have hmro := SE.ini
  unfold PySem.W.ks_superIn at hmro
  cases hcl : PySem.W.clsIn X.K C with
  | none => rw [hcl] at hmro; cases hmro
  | some cd =>
    rw [hcl] at hmro
    have LT : PySem.W.Looks (model X.prog X.w) s1.heap (typeOf (.ref x)) (.ref C) := fun A Q E s k q => wpAny_typeOf_ref (k _ _ ho1) q
    have hI : PySem.W.Looks (model X.prog X.w) s1.heap (isInstance (.ref x) (.type "ValueError")) true := LT.andThen (PySem.W.looks_subIn KX1 SE.ve)
    have hxC : x ≠ C := fun z => by
      have e1 := KX1 _ _ hC
      rw [← z, ho1] at e1
      cases e1
    obtain ⟨h1, g1, d1, t1', os1⟩ := s1
    refine PySem.W.kxs_getMethod PySem.W.kxs_ValueError hso (PySem.W.looks_opaque KX1 SE.third) (l₀ := cd.mro) ?_ rfl KX1 hmro hI hxC (by decide +kernel) ?_
    · exact fun A Q E s k q => wpAny_bind ((PySem.W.looks_clsIn KX1 hcl) A _ E s k (wpAny_pure q))
    · show wpAny _ _ (callWith p3 (.ref h1.objs.size) [] (backTo p3 (starEach [.Constant (.str msg) j p5] X.env)) []) _ _ _
      have I2 : Inv X pins σ H ⟨h1.push (PySem.W.kxs_mw "ValueError.__init__" x), g1, d1, t1' + 1, os1⟩ := I1.kept (t' := t1' + 1) fun b o e => Heap.get?_push_of_some _ e
      have hu : (h1.push (PySem.W.kxs_mw "ValueError.__init__" x)).get? h1.objs.size = some (PySem.W.kxs_mw "ValueError.__init__" x) := Heap.get?_push_size _ rfl
      refine PySem.W.kxs_callWith (i := "ValueError.__init__") (x := x) rfl (Calls.evalArgs_plain (Calls.spliced_cons (Calls.Constant_str (pos := p5) (k := j) (Calls.spliced_nil ⟨hu, ?_⟩))))
      have I3 := I2.tok (t1' + 1 + 1)
      have ho3 : (h1.push (PySem.W.kxs_mw "ValueError.__init__" x)).get? x = some _ := Heap.get?_push_of_some _ ho1
      have hC3 : (h1.push (PySem.W.kxs_mw "ValueError.__init__" x)).get? C = some _ := Heap.get?_push_of_some _ (KX1 _ _ hC)
      show wpAny _ _ (call (.ref h1.objs.size) [.str msg _] []) _ _ _
      refine wpAny_call (codeAny_of_tree ?_)
      show wpAny _ _ (callAny (.ref h1.objs.size) ⟨[.str msg _], []⟩) _ _ _
      simp only [callAny]
      refine wpAny_bind (wpAny_load hu ?_)
      simp only [PySem.W.kxs_mw, show (Value.type "method-wrapper" == Value.type "method" || Value.type "method-wrapper" == Value.type "builtin_function_or_method" || Value.type "method-wrapper" == Value.type "method-wrapper") = true by decide, if_true]
      refine PySem.W.KFB.if_so (by decide) ?_
      refine wpAny_bind (PySem.W.check_bound_init PySem.F.excBase_ValueError.toExcCallFacts hC3 ho3 rfl ?_)
      refine wpAny_bind (wpAny_pure (wpAny_pure ?_))
      refine ⟨plainId_quiet PySem.F.excBase_ValueError.init.plain _, codeAny_builtin PySem.F.excBase_ValueError.initEntry ?_⟩
      refine PySem.W.exc_init_tree (cls := .ref C) (dv := none) (c2 := .none) (c3 := .none) (b4 := .bool false) ho3 (by show 1 ≤ sizeLine; decide) fun h' k hx' _ => ?_
      have J := I3.write (t' := t1' + 1 + 1) (x := x) (e := x) (o := exo x C none) (by rw [hx]; exact True.intro) (.inl rfl) k ⟨_, hx'⟩ (exo_ok hx')
      have eu : upd H x (exo x C none) = H := by
        funext b
        by_cases hb : b = x
        · rw [hb, upd_same, hx]
        · rw [upd_ne hb]
      rw [eu] at J
      exact h _ J
end
end Ta

set_option Elab.async false
set_option linter.all false
set_option maxRecDepth 100000
set_option maxHeartbeats 1000000
namespace Ta
open PySem PySem.Spec PyProof.Rows L2

theorem upd_comm {H : Hp} {a b : Addr} {o u : HO} (h : a ≠ b) : upd (upd H a o) b u = upd (upd H b u) a o := by
  funext c
  unfold upd
  by_cases h1 : c = a
  · subst h1; simp [h]
  · by_cases h2 : c = b
    · subst h2; simp [h1]
    · simp [h1, h2]
/-- __init__ of an exception with the fields fs -/
def spE (C : Addr) (fs : List Str) : Sp := fun vs H Q _ => ∃ a ws, vs = .ref a :: ws ∧ ws.length = fs.length ∧ H a = some (exo a C none) ∧
  (fs = [] → Q .non H) ∧ (fs ≠ [] → ∀ dx, H dx = none → dx ≠ a → Q .non (upd (upd H dx (exd dx (fs.zip ws).reverse)) a (exo a C (some dx))))
section
variable {P : Program} {w : World} {K : PySem.W.Frag} {mg : Str → Option Value} {base : Heap} {f D C : Addr} {F : NdefX.NF} {fd : FuncData}
  {p0 p1 p2 p3 p4 p5 q0 q1 q2 q3 r0 r1 r2 r3 s0 s1 s2 s3 : Pos} {j : Nat} {msg g1 g2 g3 : Str}
abbrev supSt (p0 p1 p2 p3 p4 p5 : Pos) (j : Nat) (msg : Str) : Stmt := .Expr (.Call (.Attribute (.Call (.Name "super" p0) [] [] p1) "__init__" p2) [.Constant (.str msg) j p5] [] p3) p4
abbrev stoSt (q0 q1 q2 q3 : Pos) (g : Str) : Stmt := .Assign [.Attribute (.Name "self" q0) g q1] (.Name g q2) q3
theorem sup_start {N ps : List Str} {A : Around} {outer : List Env} {s : Shared} {H : Hp} {vs ws : List V} {E : XK} {T : St → Hp → Prop} {a : Addr} {ar : Arg} (SF : SupFn P K f F D [] fd) (SE : SupExc K C D) (S : NdefX.NScope N ps ["__class__"] F.scope)
    (hsup : mg "super" = none) (hp : (F.params.posonlyargs ++ F.params.args).head? = some ar) (hN : N[0]? = some ar.arg) (hka : F.scope.names.lookup ar.arg = some .local) (hks : F.scope.names.lookup ("super" : Str) = some .globalImplicit)
    (hev : ∀ env : Env, ∃ pl, eval (.Call (.Attribute (.Call (.Name "super" p0) [] [] p1) "__init__" p2) [.Constant (.str msg) j p5] [] p3) env = (do
      let ov ← attributeBase (.Call (.Name "super" p0) [] [] p1) "__init__" env (eval (.Call (.Name "super" p0) [] [] p1) env)
      standAt p2.atName
      let (f, first) ← holding [ov] (getMethod ov "__init__" pl)
      callWith p3 f first (backTo p3 (starEach [.Constant (.str msg) j p5] env)) [])) (hvs : vs = .ref a :: ws) (ha : H a = some (exo a C none)) (q : T (NdefX.startF N vs [some (.ref D)]) H) :
    ∀ s', Inv (NdefX.ncx (L2M.CX K P w) P w K mg base N F f A outer s H E) [] (NdefX.startF N vs [some (.ref D)]) H s' →
      PySem.wpAt (model P w) (A.deeper (NdefX.envF F f s.heap.objs.size)) (.func F.body (NdefX.envF F f s.heap.objs.size)) (exec (supSt p0 p1 p2 p3 p4 p5 j msg) (NdefX.envF F f s.heap.objs.size))
        (fun fl s'' => fl = .next ∧ ∃ σ' H', Inv (NdefX.ncx (L2M.CX K P w) P w K mg base N F f A outer s H E) [] σ' H' s'' ∧ T σ' H')
        (NdefX.ncx (L2M.CX K P w) P w K mg base N F f A outer s H E).xe s' := fun s' I => by
  obtain ⟨pl, hev⟩ := hev (NdefX.envF F f s.heap.objs.size)
  refine sup_exc (X := NdefX.ncx (L2M.CX K P w) P w K mg base N F f A outer s H E) SF SE rfl I hsup hp 0 hN (by subst hvs; rfl) hka ha hks (S.frk _ List.mem_cons_self) S.kind (fun s2 I2 => ⟨rfl, _, _, I2, q⟩) rfl rfl pl hev
theorem ok_exc0 (hbd : F.body = [supSt p0 p1 p2 p3 p4 p5 j msg]) (SF : SupFn P K f F D [] fd) (SE : SupExc K C D) (S : NdefX.NScope ["self", "__class__"] ["self"] ["__class__"] F.scope) (hsup : mg "super" = none)
    (hp : (F.params.posonlyargs ++ F.params.args).head?.map (·.arg) = some ("self" : Str)) (hks : F.scope.names.lookup ("super" : Str) = some .globalImplicit)
    (hev : ∀ env : Env, ∃ pl, eval (.Call (.Attribute (.Call (.Name "super" p0) [] [] p1) "__init__" p2) [.Constant (.str msg) j p5] [] p3) env = (do
      let ov ← attributeBase (.Call (.Name "super" p0) [] [] p1) "__init__" env (eval (.Call (.Name "super" p0) [] [] p1) env)
      standAt p2.atName
      let (f, first) ← holding [ov] (getMethod ov "__init__" pl)
      callWith p3 f first (backTo p3 (starEach [.Constant (.str msg) j p5] env)) [])) : FnOk P w K mg base (L2M.CX K P w) 1 f fd ["self"] (spE C []) := by
  obtain ⟨ar, hp, har⟩ := Option.map_eq_some_iff.mp hp
  refine fn_sup SF hbd S (fun vs H Q E h => ?_) (fun A outer s H vs Q E hr h => ?_)
  · obtain ⟨a, ws, rfl, hl, _⟩ := h
    simp at hl; subst hl; rfl
  · obtain ⟨a, ws, rfl, hl, ha, h1, h2⟩ := h
    refine ⟨tNext, pss_nil, ?_⟩
    exact sup_start (T := tNext _) SF SE S hsup hp (by rw [har]; rfl) (by rw [har]; exact S.par _ List.mem_cons_self) hks hev rfl ha (h1 rfl)
theorem ok_exc1 (hbd : F.body = [supSt p0 p1 p2 p3 p4 p5 j msg, stoSt q0 q1 q2 q3 g1]) (SF : SupFn P K f F D [] fd) (SE : SupExc K C D) (S : NdefX.NScope ["self", g1, "__class__"] ["self", g1] ["__class__"] F.scope) (hsup : mg "super" = none)
    (hp : (F.params.posonlyargs ++ F.params.args).head?.map (·.arg) = some ("self" : Str)) (hks : F.scope.names.lookup ("super" : Str) = some .globalImplicit) (hg : PySem.W.findIn K (.ref C) g1 = some none)
    (hd : (g1 == ("__debug__" : Str)) = false) (hd2 : (g1 == ("__classdict__" : Str)) = false)
    (hev : ∀ env : Env, ∃ pl, eval (.Call (.Attribute (.Call (.Name "super" p0) [] [] p1) "__init__" p2) [.Constant (.str msg) j p5] [] p3) env = (do
      let ov ← attributeBase (.Call (.Name "super" p0) [] [] p1) "__init__" env (eval (.Call (.Name "super" p0) [] [] p1) env)
      standAt p2.atName
      let (f, first) ← holding [ov] (getMethod ov "__init__" pl)
      callWith p3 f first (backTo p3 (starEach [.Constant (.str msg) j p5] env)) [])) : FnOk P w K mg base (L2M.CX K P w) 1 f fd ["self", g1] (spE C [g1]) := by
  obtain ⟨ar, hp, har⟩ := Option.map_eq_some_iff.mp hp
  refine fn_sup SF hbd S (fun vs H Q E h => ?_) (fun A outer s H vs Q E hr h => ?_)
  · obtain ⟨a, ws, rfl, hl, _⟩ := h
    simpa using hl
  · obtain ⟨a, ws, rfl, hl, ha, h1, h2⟩ := h
    obtain ⟨v, rfl⟩ : ∃ v, ws = [v] := by
      match ws, hl with
      | [v], _ => exact ⟨v, rfl⟩
    have hv := S.par g1 (by simp)
    have hs := S.par "self" (by simp)
    refine ⟨_, pss_one (ps_ost (pe_var (i := 0) rfl (.inl hs) (by decide +kernel) (by decide +kernel)) (pe_var (i := 1) rfl (.inl hv) hd hd2) (by rfl)), ?_⟩
    refine sup_start (T := tOst K g1 (tVar 0) (tVar 1) _) SF SE S hsup hp (by rw [har]; rfl) (by rw [har]; exact hs) hks hev rfl ha ?_
    exact ⟨v, rfl, .ref a, rfl, a, C, rfl, SE.oex, hg, .inl ⟨ha, fun dx n ne => h2 (by simp) dx n ne⟩⟩
theorem ok_exc2 (hbd : F.body = [supSt p0 p1 p2 p3 p4 p5 j msg, stoSt q0 q1 q2 q3 g1, stoSt r0 r1 r2 r3 g2]) (SF : SupFn P K f F D [] fd) (SE : SupExc K C D) (S : NdefX.NScope ["self", g1, g2, "__class__"] ["self", g1, g2] ["__class__"] F.scope) (hsup : mg "super" = none)
    (hp : (F.params.posonlyargs ++ F.params.args).head?.map (·.arg) = some ("self" : Str)) (hks : F.scope.names.lookup ("super" : Str) = some .globalImplicit) (hg : PySem.W.findIn K (.ref C) g1 = some none) (hg2 : PySem.W.findIn K (.ref C) g2 = some none)
    (hd : (g1 == ("__debug__" : Str)) = false) (hd2 : (g1 == ("__classdict__" : Str)) = false) (hd3 : (g2 == ("__debug__" : Str)) = false) (hd4 : (g2 == ("__classdict__" : Str)) = false)
    (hev : ∀ env : Env, ∃ pl, eval (.Call (.Attribute (.Call (.Name "super" p0) [] [] p1) "__init__" p2) [.Constant (.str msg) j p5] [] p3) env = (do
      let ov ← attributeBase (.Call (.Name "super" p0) [] [] p1) "__init__" env (eval (.Call (.Name "super" p0) [] [] p1) env)
      standAt p2.atName
      let (f, first) ← holding [ov] (getMethod ov "__init__" pl)
      callWith p3 f first (backTo p3 (starEach [.Constant (.str msg) j p5] env)) [])) : FnOk P w K mg base (L2M.CX K P w) 1 f fd ["self", g1, g2] (spE C [g1, g2]) := by
  obtain ⟨ar, hp, har⟩ := Option.map_eq_some_iff.mp hp
  refine fn_sup SF hbd S (fun vs H Q E h => ?_) (fun A outer s H vs Q E hr h => ?_)
  · obtain ⟨a, ws, rfl, hl, _⟩ := h
    simpa using hl
  · obtain ⟨a, ws, rfl, hl, ha, h1, h2⟩ := h
    obtain ⟨v, v2, rfl⟩ : ∃ v v2, ws = [v, v2] := by
      match ws, hl with
      | [v, v2], _ => exact ⟨v, v2, rfl⟩
    have hv := S.par g1 (by simp)
    have hv2 := S.par g2 (by simp)
    have hs := S.par "self" (by simp)
    refine ⟨_, pss_cons (ps_ost (pe_var (i := 0) rfl (.inl hs) (by decide +kernel) (by decide +kernel)) (pe_var (i := 1) rfl (.inl hv) hd hd2) (by rfl)) (pss_one (ps_ost (pe_var (i := 0) rfl (.inl hs) (by decide +kernel) (by decide +kernel)) (pe_var (i := 2) rfl (.inl hv2) hd3 hd4) (by rfl))), ?_⟩
    refine sup_start (T := tSeq (tOst K g1 (tVar 0) (tVar 1)) (tOst K g2 (tVar 0) (tVar 2)) _) SF SE S hsup hp (by rw [har]; rfl) (by rw [har]; exact hs) hks hev rfl ha ?_
    refine ⟨v, rfl, .ref a, rfl, a, C, rfl, SE.oex, hg, .inl ⟨ha, fun dx n ne => ?_⟩⟩
    refine ⟨v2, rfl, .ref a, rfl, a, C, rfl, SE.oex, hg2, .inr ⟨dx, _, upd_same, by rw [upd_ne ne, upd_same], by simp, ?_⟩⟩
    have e := h2 (by simp) dx n ne
    rw [upd_comm (Ne.symm ne), upd_upd]
    exact e
theorem ok_exc3 (hbd : F.body = [supSt p0 p1 p2 p3 p4 p5 j msg, stoSt q0 q1 q2 q3 g1, stoSt r0 r1 r2 r3 g2, stoSt s0 s1 s2 s3 g3]) (SF : SupFn P K f F D [] fd) (SE : SupExc K C D) (S : NdefX.NScope ["self", g1, g2, g3, "__class__"] ["self", g1, g2, g3] ["__class__"] F.scope) (hsup : mg "super" = none)
    (hp : (F.params.posonlyargs ++ F.params.args).head?.map (·.arg) = some ("self" : Str)) (hks : F.scope.names.lookup ("super" : Str) = some .globalImplicit) (hg : PySem.W.findIn K (.ref C) g1 = some none) (hg2 : PySem.W.findIn K (.ref C) g2 = some none) (hg3 : PySem.W.findIn K (.ref C) g3 = some none)
    (hd : (g1 == ("__debug__" : Str)) = false) (hd2 : (g1 == ("__classdict__" : Str)) = false) (hd3 : (g2 == ("__debug__" : Str)) = false) (hd4 : (g2 == ("__classdict__" : Str)) = false) (hd5 : (g3 == ("__debug__" : Str)) = false) (hd6 : (g3 == ("__classdict__" : Str)) = false)
    (hev : ∀ env : Env, ∃ pl, eval (.Call (.Attribute (.Call (.Name "super" p0) [] [] p1) "__init__" p2) [.Constant (.str msg) j p5] [] p3) env = (do
      let ov ← attributeBase (.Call (.Name "super" p0) [] [] p1) "__init__" env (eval (.Call (.Name "super" p0) [] [] p1) env)
      standAt p2.atName
      let (f, first) ← holding [ov] (getMethod ov "__init__" pl)
      callWith p3 f first (backTo p3 (starEach [.Constant (.str msg) j p5] env)) [])) :
    FnOk P w K mg base (L2M.CX K P w) 1 f fd ["self", g1, g2, g3] (spE C [g1, g2, g3]) := by
  obtain ⟨ar, hp, har⟩ := Option.map_eq_some_iff.mp hp
  refine fn_sup SF hbd S (fun vs H Q E h => ?_) (fun A outer s H vs Q E hr h => ?_)
  · obtain ⟨a, ws, rfl, hl, _⟩ := h
    simpa using hl
  · obtain ⟨a, ws, rfl, hl, ha, h1, h2⟩ := h
    obtain ⟨v, v2, v3, rfl⟩ : ∃ v v2 v3, ws = [v, v2, v3] := by
      match ws, hl with
      | [v, v2, v3], _ => exact ⟨v, v2, v3, rfl⟩
    have hv := S.par g1 (by simp)
    have hv2 := S.par g2 (by simp)
    have hv3 := S.par g3 (by simp)
    have hs := S.par "self" (by simp)
    refine ⟨_, pss_cons (ps_ost (pe_var (i := 0) rfl (.inl hs) (by decide +kernel) (by decide +kernel)) (pe_var (i := 1) rfl (.inl hv) hd hd2) (by rfl)) (pss_cons (ps_ost (pe_var (i := 0) rfl (.inl hs) (by decide +kernel) (by decide +kernel)) (pe_var (i := 2) rfl (.inl hv2) hd3 hd4) (by rfl))
      (pss_one (ps_ost (pe_var (i := 0) rfl (.inl hs) (by decide +kernel) (by decide +kernel)) (pe_var (i := 3) rfl (.inl hv3) hd5 hd6) (by rfl)))), ?_⟩
    refine sup_start (T := tSeq (tOst K g1 (tVar 0) (tVar 1)) (tSeq (tOst K g2 (tVar 0) (tVar 2)) (tOst K g3 (tVar 0) (tVar 3))) _) SF SE S hsup hp (by rw [har]; rfl) (by rw [har]; exact hs) hks hev rfl ha ?_
    refine ⟨v, rfl, .ref a, rfl, a, C, rfl, SE.oex, hg, .inl ⟨ha, fun dx n ne => ?_⟩⟩
    refine ⟨v2, rfl, .ref a, rfl, a, C, rfl, SE.oex, hg2, .inr ⟨dx, _, upd_same, by rw [upd_ne ne, upd_same], by simp, ?_⟩⟩
    refine ⟨v3, rfl, .ref a, rfl, a, C, rfl, SE.oex, hg3, .inr ⟨dx, _, by rw [upd_ne (Ne.symm ne), upd_same], upd_same, by simp, ?_⟩⟩
    have e := h2 (by simp) dx n ne
    rw [upd_upd, upd_comm (Ne.symm ne), upd_upd]
    exact e
end
/-! ### raise X(..) -/
section
variable (P : Program) (w : World) (K : PySem.W.Frag) (mg : Str → Option Value) (base : Heap)
structure Ex (x : Str) (C : Addr) (fs : List Str) : Prop where
  ex : ∃ (f : Addr) (fd : FuncData) (ps : List Str), FnOk P w K mg base (L2M.CX K P w) 1 f fd ps (spE C fs) ∧ PySem.W.findIn K (.ref C) "__init__" = some (some (.ref f)) ∧ PySem.W.typeIn K (.ref f) = some (.type "function") ∧ Binds K fd ps [] ∧ mg x = some (.ref C)
  oex : OexC K C
end
section
variable {X : Cx} {x : Str} {p pos : Pos} {e : Expr} {es : List Expr} {t : TA} {W : WX} {C : Addr} {fs : List Str}
def tRs (C : Addr) (fs : List Str) (W : WX) (t : TA) : TS := fun _ σ H => t σ H fun vs H1 => vs.length = fs.length ∧ ∀ d, H1 d = none → W (.ref C) (some d) σ (upd H1 d (.xd (fs.zip vs).reverse))
theorem mk_endM {pins : List (Addr × Obj)} {σ : St} {H1 H2 : Hp} {Q : XK} {hp hp2 h2 : Heap} {g1 g2 : Array GenState} {d1 d2 : Drawn} {t1 t2 : Nat} {os1 os2 : OsState} {a C d : Addr} {fs : List (Str × V)} (T : Raises X (.ref C)) (I1 : Inv X pins σ H1 ⟨hp, g1, d1, t1, os1⟩)
    (ha : hp.objs.size ≤ a) (k : ∀ b o, hp.get? b = some o → hp2.get? b = some o) (un : Un (frs X.stack) [] (upd H1 a (exo a C none)) H2 hp2 h2) (hok : HOk X.prog X.w H2 h2) (ho : os2 = os1) (hb : AllBare g2)
    (ea : H2 a = some (exo a C (some d))) (ed : H2 d = some (exd d fs)) (hd1 : H1 d = none) (q : Q (.ref C) (some d) (upd (del H2 a) d (.xd fs))) : L2M.MkP X pins σ Q (.ref a) ⟨h2, g2, d2, t2, os2⟩ := by
  obtain ⟨t0, G, J, kG, ge, hoe, na⟩ := mk_end0 (d2 := d2) (t2 := t2) I1 ha k un hok ho hb ea ed hd1
  exact ⟨a, _, _, ⟨G, g2, d2, t2, os2⟩, _, .ref C, some d, rfl, J, kG, ge, hoe, ⟨rfl, rfl, fun vs hv => by cases hv; rfl⟩, rfl, rfl, na, rfl, hb, T, q⟩
theorem xd_eq {H1 : Hp} {a d : Addr} {o1 o2 u v : HO} (ha : H1 a = none) (hda : d ≠ a) : upd (del (upd (upd (upd H1 a o1) d u) a o2) a) d v = upd H1 d v := by
  funext c
  unfold upd del
  by_cases h1 : c = d
  · simp [h1]
  · by_cases h2 : c = a
    · subst h2; simp [h1, ha]
    · simp [h1, h2]
theorem pmkE (G : Ex X.prog X.w X.K X.mg X.base x C fs) (hne : fs ≠ []) (hlen : fs.length ≤ 900) (hr : Room 2 X.A) (tk : L2M.Takes X W) (ha : PA X (e :: es) t) (hg : Gl X x) (hdb : (x == ("__debug__" : Str)) = false)
    (he : starEach (e :: es) X.env = (false, eval e X.env) :: starEach es X.env) (hpl : (backTo pos (starEach es X.env)).any (·.1) = false) :
    L2M.PMk X (.Call (.Name x p) (e :: es) [] pos) (fun σ H Q => t σ H fun vs H1 => vs.length = fs.length ∧ ∀ d, H1 d = none → Q (.ref C) (some d) (upd H1 d (.xd (fs.zip vs).reverse))) := by
  obtain ⟨fI, fd, ps, F1, iC, tI, hb, hm⟩ := G.ex
  have T := G.oex
  intro pins s σ H Q I h
  obtain ⟨nm, q, N, bs, bm, sn, sub, ab, col, dd, k0, k1, k2, k3, k5, hC, hbm⟩ := T.cls
  refine wpAny_Call_Name_kw (ld_glob I hg hm ?_ hdb)
  refine PySem.W.callWith_K (h₀ := X.base) I.ok.mod.kin T.kC (thn (ha.run pos pins s σ H _ I h) fun us s1 ⟨vs, H1, I1, r1, hz, q1⟩ => ⟨I1.kIn, ?_⟩) he hpl
  show wpAny _ _ (call (.ref C) us) _ _ _
  obtain ⟨hp, g, dr, tok, os⟩ := s1
  have hsz : hp.objs.size ≤ hp.objs.size + 1 := Nat.le_succ _
  have hn : H1 (hp.objs.size + 1) = none := I1.hok.fresh hsz
  have hq : spE C fs (.ref (hp.objs.size + 1) :: vs) (upd H1 (hp.objs.size + 1) (exo (hp.objs.size + 1) C none))
      (fun v H2 => v = .non ∧ ∃ (d : Addr) (gs : List (Str × V)), H2 (hp.objs.size + 1) = some (exo (hp.objs.size + 1) C (some d)) ∧ H2 d = some (exd d gs) ∧ H1 d = none ∧ Q (.ref C) (some d) (upd (del H2 (hp.objs.size + 1)) d (.xd gs))) (fun _ _ _ => False) := by
    refine ⟨_, vs, rfl, hz, upd_same, fun e0 => absurd e0 hne, fun _ dx n ne => ⟨rfl, dx, _, upd_same, by rw [upd_ne ne, upd_same], ?_, ?_⟩⟩
    · rw [upd_ne ne] at n; exact n
    · rw [upd_ne ne] at n
      rw [xd_eq hn ne]; exact q1 dx n
  have kk : ∀ b o, hp.get? b = some o → ((hp.push (PySem.W.kdv_tup us)).push (PySem.HandSPX.excO C hp.objs.size)).get? b = some o := fun b o e => Heap.get?_push_of_some _ (Heap.get?_push_of_some _ e)
  have hget : ((hp.push (PySem.W.kdv_tup us)).push (PySem.HandSPX.excO C hp.objs.size)).get? (hp.objs.size + 1) = some (PySem.HandSPX.excO C hp.objs.size) := by heap_get
  have I2 : Inv X pins σ (upd H1 (hp.objs.size + 1) (exo (hp.objs.size + 1) C none)) ⟨(hp.push (PySem.W.kdv_tup us)).push (PySem.HandSPX.excO C hp.objs.size), g, dr, tok, os⟩ :=
    I1.laid (t' := tok) (a := hp.objs.size + 1) (o := exo (hp.objs.size + 1) C none) (h' := (hp.push (PySem.W.kdv_tup us)).push (PySem.HandSPX.excO C hp.objs.size)) kk hsz (exo_ok hget)
  have r2 : Vals (V.ref (hp.objs.size + 1) :: vs) (Value.ref (hp.objs.size + 1) :: us) := .cons rfl r1
  have hl : (Value.ref (hp.objs.size + 1) :: us ++ []).length = ps.length := by
    have e := r2.length
    rw [F1.len _ _ _ _ hq] at e
    rw [List.append_nil]
    exact e.symm
  have hus : us.length ≤ sizeLine := by
    rw [← Paired.length r1, sizeLine_eq]
    omega
  have hbi := hb ⟨(hp.push (PySem.W.kdv_tup us)).push (PySem.HandSPX.excO C hp.objs.size), g, dr, tok, os⟩ (Value.ref (hp.objs.size + 1) :: us) I2.kIn hl
  rw [List.append_nil] at hbi
  refine wpAny_call (PySem.HandSPX.call_own PySem.F.excBase_ValueError (fun Y => PySem.HandSPX.refsVE_contains Y bm hbm) (I1.kIn _ _ hC) (PySem.W.looks_findIn I1.kIn iC) (fun self => PySem.W.bind_fn I1.kIn self tI) hus
    (codeAny_mono (F1.run _ X.stack _ _ ⟨Value.ref (hp.objs.size + 1) :: us, []⟩ (Value.ref (hp.objs.size + 1) :: us) _ _ (fun _ _ _ => False) (hr.make C us []) (I2.env0.make C us []) hbi r2 hq) fun r s' hq' => ?_))
  cases r with
  | error er => exact tk er s' (L2M.XE.of_call I2 (fun _ _ _ z => z.elim) hq')
  | ok fl =>
    cases fl with
    | ret u =>
      obtain ⟨v, H2, os2, bare2, un2, hok2, rv, ev, d, gs, ea, ed, hd1, q2⟩ := hq'
      subst ev
      obtain ⟨h2, g2, d2, t2, os'⟩ := s'
      exact ⟨rv, mk_endM (raises_own T.exC T.tyC) I1 hsz kk un2 hok2 os2 bare2 ea ed hd1 q2⟩
    | next => exact False.elim hq'
    | brk => exact False.elim hq'
    | cont => exact False.elim hq'
theorem praise (G : Ex X.prog X.w X.K X.mg X.base x C fs) (hr : Room 2 X.A) (tk : L2M.Takes X W) (ha : PA X (e :: es) t) {pos' : Pos} (hc : X.calm = true := by rfl) (hne : fs ≠ [] := by decide) (hlen : fs.length ≤ 900 := by decide) (hg : Gl X x := by rfl) (hdb : (x == ("__debug__" : Str)) = false := by decide +kernel)
    (he : starEach (e :: es) X.env = (false, eval e X.env) :: starEach es X.env := by rfl) (hpl : (backTo pos (starEach es X.env)).any (·.1) = false := by rfl) :
    PS X (.Raise (some (.Call (.Name x p) (e :: es) [] pos)) none pos') (tRs C fs W t) :=
  L2M.ps_raise hc tk (pmkE G hne hlen hr tk ha hg hdb he hpl)
end
end Ta

set_option Elab.async false
set_option linter.all false
set_option maxRecDepth 100000
set_option maxHeartbeats 1000000
namespace Ta
open PySem PySem.Spec PyProof.Rows L2

/-! ### a caught exception: its fields, isinstance -/
section
variable {X : Cx} {a : Addr} {oe : Obj} {cls : Value} {d : Option Addr} {pn : List (Addr × Obj)}
structure XC (K : PySem.W.Frag) (C : Addr) : Prop where
  x : XfC K C
  e : ExcC K C
def tXat (K : PySem.W.Frag) (a : Addr) (cls : Value) (d : Option Addr) (f : Str) (te : TE) : TE := fun σ H Q => te σ H fun x H1 => x = .ref a ∧ match cls with
  | .ref C => (match d with
    | some dd => XC K C ∧ PySem.W.findIn K (.ref C) f = some none ∧ look H1 dd fun o => (match o with
      | some (.xd fs) => fld fs f fun v => Q v H1
      | _ => False)
    | none => False)
  | _ => False
theorem tXat_e {K : PySem.W.Frag} {cls : Value} {d : Option Addr} {f : Str} {H1 : Hp} {k : V → Prop} (h : match cls with
  | .ref C => (match d with
    | some dd => XC K C ∧ PySem.W.findIn K (.ref C) f = some none ∧ look H1 dd fun o => (match o with
      | some (.xd fs) => fld fs f fun v => k v
      | _ => False)
    | none => False)
  | _ => False) : ∃ (C dd : Addr), cls = .ref C ∧ d = some dd ∧ XC K C ∧ PySem.W.findIn K (.ref C) f = some none ∧ look H1 dd fun o => match o with
    | some (.xd fs) => fld fs f fun v => k v
    | _ => False := by
  cases cls with
  | ref C =>
    cases d with
    | none => exact h.elim
    | some dd => exact ⟨C, dd, rfl, rfl, h⟩
  | _ => exact h.elim
theorem pxat {e : Expr} {te : TE} {pos : Pos} {n : Str} (hz : L2M.Zm X.K cls d oe) (hf : ∃ vs, oe.data = .fields vs) (he : PE (X.suite a ((a, oe) :: pn)) e te) (hb : attributeBase e n X.env (eval e X.env) = eval e X.env := by rfl) :
    PE (X.suite a ((a, oe) :: pn)) (.Attribute e n pos) (tXat X.K a cls d n te) := by
  refine ⟨fun pins s σ H Q I h => ?_⟩
  refine attr_of hb (thn (he.run pins s σ H _ I h) fun u s1 hh => ?_)
  obtain ⟨x, H1, I1, rx, ex, hh⟩ := hh
  obtain ⟨C, dd, ec, ed, T, hno, q⟩ := tXat_e hh
  subst ex
  obtain rfl : u = Value.ref a := rx
  subst ec
  subst ed
  have q := look_e q
  cases ea : H1 dd with
  | none => rw [ea] at q; exact q.elim
  | some ob =>
    rw [ea] at q
    cases ob with
    | xd fs =>
      obtain ⟨v, l, q⟩ := fld_e q
      obtain ⟨ha, _⟩ := I1.pin (a, oe) (List.mem_append_left _ List.mem_cons_self)
      obtain ⟨vs, hd⟩ := hf
      have hx : ObjOk X.prog X.w H1 s1.heap dd (.xd fs) := I1.hok dd _ ea
      obtain ⟨mA, hns, hr⟩ := hx
      obtain ⟨od, ho, hl⟩ := lookIn_ns hns
      obtain ⟨u, hu, ru⟩ := RelO.some_of (v := v) (o := mA n) (by rw [← l]; exact hr n)
      have J : PySem.W.InstAt s1.heap a oe C (some od) := ⟨ha, hz.1, by unfold PySem.W.notCls; rw [hd] <;> rfl, by rw [hz.2.1]; exact ho⟩
      exact HandSPX.exc_get I1.kIn J T.x.ga T.x.gg T.x.exC (PySem.W.findObj_own T.x.hdC hno rfl (by rw [hl, hu])) (handed_of ru) ⟨v, H1, I1.tok _, ru, q⟩
    | _ => exact q.elim
def clsOf : V → Value
  | .ty n => .type n
  | .ref C => .ref C
  | _ => .none
def isCls : V → Bool
  | .ty _ => true
  | .ref _ => true
  | _ => false
theorem clsV_of {c : V} (h : isCls c = true) : ClsV c (clsOf c) := by
  cases c with
  | ty n => exact .ty n
  | ref C => exact .own C
  | _ => cases h
theorem clsV_all : ∀ {cs : List V}, cs.all isCls = true → Paired ClsV cs (cs.map clsOf)
  | [], _ => .nil
  | c :: cs, h => by
    simp only [List.all_cons, Bool.and_eq_true] at h
    exact .cons (clsV_of h.1) (clsV_all h.2)
/-- isinstance's second argument: a class, a tuple of classes that was laid -/
structure isaP (K : PySem.W.Frag) (t : Value) (c : V) (H : Hp) (Q : Bool → Prop) : Prop where
  out : (isCls c = true ∧ ∃ b, PySem.W.kitOne K t (clsOf c) = some b ∧ Q b) ∨ ∃ tp cs b, c = .ref tp ∧ H tp = some (.tup cs) ∧ cs.all isCls = true ∧ PySem.W.kitAny K t (cs.map clsOf) = some b ∧ Q b
theorem isa_1 {K : PySem.W.Frag} {t : Value} {c : V} {H : Hp} {Q : Bool → Prop} {b : Bool} (h : isCls c = true) (h2 : PySem.W.kitOne K t (clsOf c) = some b) (q : Q b) : isaP K t c H Q := by
  refine ⟨?_⟩; exact .inl ⟨h, b, h2, q⟩
theorem isa_t {K : PySem.W.Frag} {t : Value} {tp : Addr} {cs : List V} {H : Hp} {Q : Bool → Prop} {b : Bool} (h : H tp = some (.tup cs)) (h1 : cs.all isCls = true) (h2 : PySem.W.kitAny K t (cs.map clsOf) = some b) (q : Q b) : isaP K t (.ref tp) H Q := by
  refine ⟨?_⟩; exact .inr ⟨tp, cs, b, rfl, h, h1, h2, q⟩
/-- isinstance(e, ..), e the caught exception -/
def zIsX (K : PySem.W.Frag) (a : Addr) (cls : Value) (d : Option Addr) : List V → Hp → VK → Prop := fun xs H Q => two xs fun x c => x = .ref a ∧ match cls with
  | .ref D => XC K D ∧ (match d with
    | some dd => look H dd fun o => (match o with
      | some (.xd fs) => isaP K (.ref D) c H fun b => Q (.bl b) H
      | _ => False)
    | none => isaP K (.ref D) c H fun b => Q (.bl b) H)
  | _ => False
theorem zIsX_e {K : PySem.W.Frag} {cls : Value} {d : Option Addr} {c : V} {H : Hp} {k : Bool → Prop} (h : match cls with
  | .ref D => XC K D ∧ (match d with
    | some dd => look H dd fun o => (match o with
      | some (.xd fs) => isaP K (.ref D) c H k
      | _ => False)
    | none => isaP K (.ref D) c H k)
  | _ => False) : (∃ D, cls = .ref D ∧ XC K D) ∧ (∀ dd, d = some dd → ∃ fs, H dd = some (.xd fs)) ∧ isaP K cls c H k := by
  cases cls with
  | ref D =>
    obtain ⟨h1, h2⟩ := h
    cases d with
    | none => exact ⟨⟨D, rfl, h1⟩, fun _ z => (nomatch z), h2⟩
    | some dd =>
      have h2 := look_e h2
      cases e : H dd with
      | none => rw [e] at h2; exact h2.elim
      | some o =>
        rw [e] at h2
        cases o with
        | xd fs => exact ⟨⟨D, rfl, h1⟩, fun dd' z => by cases z; exact ⟨fs, e⟩, h2⟩
        | _ => exact h2.elim
  | _ => exact h.elim
theorem crisx (hz : L2M.Zm X.K cls d oe) (hf : ∃ vs, oe.data = .fields vs) : CallR (X.suite a ((a, oe) :: pn)) (.builtin "isinstance") (zIsX X.K a cls d) := by
  intro pins s σ H xs us Q I r h
  obtain ⟨x, c, rfl, h⟩ := two_e h
  obtain ⟨rfl, h'⟩ := h
  obtain ⟨⟨D, rfl, T⟩, hdd, h⟩ := zIsX_e (k := fun b => Q (.bl b) H) h'
  obtain ⟨u1, u2, rfl, r1, r2⟩ := vals2 r
  cases (show u1 = Value.ref a from r1)
  obtain ⟨hget, _⟩ := I.pin (a, oe) (List.mem_append.mpr (.inl List.mem_cons_self))
  obtain ⟨vs, hv⟩ := hf
  have J : ∃ od, PySem.W.InstAt s.heap a oe D od := by
    cases d with
    | none => exact ⟨none, hget, hz.1, by unfold PySem.W.notCls; rw [hv] <;> rfl, by rw [hz.2.1]; trivial⟩
    | some dd =>
      obtain ⟨fs, hx⟩ := hdd dd rfl
      obtain ⟨mA, hns, _⟩ := (show ObjOk X.prog X.w H s.heap dd (.xd fs) from I.hok dd _ hx)
      obtain ⟨od, ho, _⟩ := lookIn_ns hns
      exact ⟨some od, hget, hz.1, by unfold PySem.W.notCls; rw [hv] <;> rfl, by rw [hz.2.1]; exact ho⟩
  obtain ⟨od, J⟩ := J
  have hcl : (PySem.W.clsIn X.K D).isSome = true := by
    obtain ⟨cd, h1, _⟩ := PySem.W.any_some T.e.hd
    rw [h1]; rfl
  have Z := PySem.W.kitx_exc (x := a) (ox := oe) (od := od) hcl T.e.hg T.e.hk T.e.hs T.e.ha T.e.hn T.e.ht T.e.hm
  replace h := h.out
  rcases h with ⟨hc, b, e, q⟩ | ⟨tp, cs, b, rfl, hT, hc, e, q⟩
  · have e2 := (clsV_of hc).eq r2
    subst e2
    exact PySem.W.kia_one Z I.kIn J e (fun z => nomatch z) fun tk => ⟨.bl b, H, I.kept (t' := tk) fun _ _ z => z, rfl, q⟩
  · cases (show u2 = Value.ref tp from r2)
    obtain ⟨_, its, rv, o, h1, h2, n, h3⟩ := (show ObjOk X.prog X.w H s.heap tp (.tup cs) from I.hok tp _ hT)
    have e3 := ClsV.all (clsV_all hc) rv
    subst e3
    obtain ⟨oc, odd, dt, sl⟩ := o
    simp only at h2 h3
    subst h2 h3
    exact PySem.W.kia_tup Z I.kIn J h1 e (fun z => nomatch z) fun tk => ⟨.bl b, H, I.kept (t' := tk) fun _ _ z => z, rfl, q⟩
structure IsC (K : PySem.W.Frag) (C : Addr) : Prop where
  ex : ∀ (H : Hp) (a dx : Addr) (fs : List (Str × V)), H a = some (.ins C dx fs) → TyOf K H (.ref a) (.ref C)
/-- isinstance(x, ..) of any value -/
def tyOf (K : PySem.W.Frag) (x : V) (H : Hp) (k : Value → Prop) : Prop := match x with
  | .str _ => k (.type "str")
  | .int _ => k (.type "int")
  | .bl _ => k (.type "bool")
  | .non => k (.type "NoneType")
  | .ref p => look H p fun o => match o with
    | some (.ins C dx fs) => IsC K C ∧ k (.ref C)
    | some (.lst xs) => k (.type "list")
    | some (.tup xs) => k (.type "tuple")
    | some (.dK xs) => k (.type "dict")
    | _ => ∃ t, TyX K H (.ref p) t ∧ k t
  | _ => False
theorem tyOf_e {K : PySem.W.Frag} {x : V} {H : Hp} {k : Value → Prop} (h : tyOf K x H k) : ∃ t, TyX K H x t ∧ k t := by
  cases x with
  | str z => exact ⟨_, .base (.str z), h⟩
  | int z => exact ⟨_, .base (.int z), h⟩
  | bl z => exact ⟨_, .base (.bl z), h⟩
  | non => exact ⟨_, .base .non, h⟩
  | ref p =>
    have h := look_e h
    revert h
    cases e : H p with
    | none => exact fun h => h
    | some o =>
      cases o with
      | ins C dx fs => exact fun h => ⟨_, .base (h.1.ex H p dx fs e), h.2⟩
      | lst xs => exact fun h => ⟨_, .base (.lst e), h⟩
      | tup xs => exact fun h => ⟨_, .base (.tup e), h⟩
      | dK xs => exact fun h => ⟨_, .base (.dK e), h⟩
      | _ => exact fun h => h
  | _ => exact h.elim
def zIsa (K : PySem.W.Frag) : List V → Hp → VK → Prop := fun xs H Q => two xs fun x c => tyOf K x H fun t => isaP K t c H fun b => Q (.bl b) H
theorem crisa {X : Cx} : CallR X (.builtin "isinstance") (zIsa X.K) := by
  refine cr_imp (call_isi.or call_isiT) fun xs H Q h => ?_
  obtain ⟨x, c, rfl, h'⟩ := two_e h
  obtain ⟨t, ht, h⟩ := tyOf_e (K := X.K) (k := fun t => isaP X.K t c H fun b => Q (.bl b) H) h'
  replace h := h.out
  rcases h with ⟨hc, b, e, q⟩ | ⟨tp, cs, b, rfl, hT, hc, e, q⟩
  · exact .inl ⟨x, c, t, _, b, rfl, clsV_of hc, ht, e, q⟩
  · exact .inr ⟨x, tp, cs, t, _, b, rfl, hT, clsV_all hc, ht, e, q⟩
end
/-! ### a def: its promise by its body -/
section
variable {P : Program} {w : World} {K : PySem.W.Frag} {mg : Str → Option Value} {base : Heap} {x qual : Str} {params : Arguments} {body : List Stmt} {scope : Scope} {dvs : List V} {kws : List (Str × V)} {f : Addr} {fd : FuncData}
/-- the wish of a def about what is raised -/
abbrev WD (E : XK) : WX := fun c d _ H => E c d H
abbrev EndD (Q : VK) : Ends := { nx := fun _ H' => Q .non H', rt := Q }
theorem def_ok {N ps : List Str} {k : Nat} {sp : Sp} (F : FunD K x qual params body scope dvs kws f fd) (S : FnScope N ps scope) (len : ∀ vs H Q E, sp vs H Q E → vs.length = ps.length) (t : WX → TS)
    (term : ∀ (cdv : Value) (A : Around) (outer : List Env) (s : Shared) (H : Hp) (E : XK), Room k (A.deeper (envOfC qual scope s.heap.objs.size f cdv)) → PSs (cxOf (L2M.CX K P w) P w K mg base N qual scope f cdv A outer s H E) body (t (WD E)))
    (rd : ∀ vs H Q E, sp vs H Q E → t (WD E) (EndD Q) (start N vs) H) : FnOk P w K mg base (L2M.CX K P w) (k + 1) f fd ps sp := by
  refine F.ok S len fun cdv A outer s H vs Q E hr h => ⟨t (WD E), ?_, rd vs H Q E h⟩
  exact term cdv A outer s H E hr
/-- the wish of the def's context -/
theorem takesD {P : Program} {w : World} {K : PySem.W.Frag} {mg : Str → Option Value} {base : Heap} {N : List Str} {qual : Str} {scope : Scope} {f : Addr} {cdv : Value} {A : Around} {outer : List Env} {s : Shared} {H : Hp} {E : XK} :
    L2M.Takes (cxOf (L2M.CX K P w) P w K mg base N qual scope f cdv A outer s H E) (WD E) := L2M.takes_of rfl rfl rfl rfl
theorem ownD {P : Program} {w : World} {K : PySem.W.Frag} {mg : Str → Option Value} {base : Heap} {N : List Str} {qual : Str} {scope : Scope} {f : Addr} {cdv : Value} {A : Around} {outer : List Env} {s : Shared} {H : Hp} {E : XK} :
    PassesOwn (model P w) (cxOf (L2M.CX K P w) P w K mg base N qual scope f cdv A outer s H E).A (cxOf (L2M.CX K P w) P w K mg base N qual scope f cdv A outer s H E).env (cxOf (L2M.CX K P w) P w K mg base N qual scope f cdv A outer s H E).xe := PassesOwn.leaving
end
end Ta
namespace Ta
open PySem PySem.Spec PyProof.Rows L2
/-! ### short forms for printed terms -/
section
variable {X : Cx}
theorem pset (i : Nat) {x : Str} {e : Expr} {te : TE} {pos pos' : Pos} (hN : X.N.Nodup) (he : PE X e te) (hi : X.N[i]? = some x := by rfl) (hx : Loc X.env.scope x := by first | exact Or.inl rfl | exact Or.inr rfl)
    (hs : swapsWith e (some (.Name x pos')) pos.line X.env = pure false := by rfl) (hf : X.fn x = true ∨ X.env.scope.names.lookup x = some .local := by first | exact .inl rfl | exact .inr rfl) : PS X (.Assign [.Name x pos'] e pos) (tAsg te (gName i)) := ps_set hN hi hx he hs hf
theorem pgn (i : Nat) {x : Str} {pos : Pos} (hN : X.N.Nodup) (hi : X.N[i]? = some x := by rfl) (hx : Loc X.env.scope x := by first | exact Or.inl rfl | exact Or.inr rfl)
    (hf : X.fn x = true ∨ X.env.scope.names.lookup x = some .local := by first | exact .inl rfl | exact .inr rfl) : PG X (.Name x pos) (gName i) := pg_name hN hi hx hf
theorem psub {o i e : Expr} {to ti te : TE} {pos pos' : Pos} (he : PE X e te) (ho : PE X o to) (hi : PE X i ti) (hs : swapsWithSole [.Subscript o i pos'] e pos.line X.env = pure false := by rfl) (hw : swappedStores [.Subscript o i pos'] e X.env = pure none := by rfl)
    (h3 : List.map (fun x => x.snd) (assignEach [.Subscript o i pos'] X.env) = [assign (.Subscript o i pos') X.env] := by rfl) (h4 : ∀ v : Value, assign (.Subscript o i pos') X.env v = (do
      let ov ← holding [v] (eval o X.env)
      let iv ← holding [v, ov] (eval i X.env)
      standAt pos'
      holding [v, ov, iv] (setItem ov iv v)
      release [v, ov, iv] []) := by intro v; rfl) : PS X (.Assign [.Subscript o i pos'] e pos) (tAsg te (gSub to ti zSetP)) := ps_asg he (pg_sub ho hi setp h4) hs hw h3
end
end Ta

set_option Elab.async false
set_option linter.all false
set_option maxRecDepth 100000
set_option maxHeartbeats 3200000
namespace Ta
open PySem PySem.Spec PyProof.Rows L2

/-! ### len(set(text)) -/
def dn {α : Type} [BEq α] (l : List α) : Nat := l.eraseDups.length
theorem dn_snoc {α : Type} [BEq α] [LawfulBEq α] (l : List α) (x : α) : dn (l ++ [x]) = if l.any (· == x) = true then dn l else dn l + 1 := by
  unfold dn
  rw [List.eraseDups_append]
  by_cases h : x ∈ l
  · have e : [x].removeAll l = [] := by simp [List.removeAll, h]
    rw [e, if_pos (by simpa using h)]; simp
  · have e : [x].removeAll l = [x] := by simp [List.removeAll, h]
    rw [e, if_neg (by simpa using h)]; simp [List.eraseDups_cons]
section
variable {prog : Program} {w : World} {A : Around} {R : Result → Shared → Prop} {I : Addr} {fp wr : List Addr} {G : Array GenState → Array GenState → Prop} {n : Nat} {P : Nat → Value → Prop} {St : Nat → Shared → Prop}
theorem dn_le {α : Type} [BEq α] [LawfulBEq α] (l : List α) : dn l ≤ l.length := by
  suffices h : ∀ m : List α, dn m.reverse ≤ m.reverse.length by
    have z := h l.reverse
    rw [List.reverse_reverse] at z
    exact z
  intro m
  induction m with
  | nil => simp [dn]
  | cons x m ih =>
    rw [List.reverse_cons, dn_snoc]
    split <;> simp <;> simp at ih <;> omega
theorem loopN (W : WalksS prog w A.in1 I fp wr G n P St) (S : Addr) (hSf : S ∉ fp) (xs : List Str) (hsz : xs.length = n) (hn1 : n + 1 < scanBound)
    (hval : ∀ i v, P i v → ∃ t, v = .str (xs.getD i Str.empty) t) :
    ∀ (k i : Nat) (s : Shared), n - i = k → i ≤ n → St i s →
      s.heap.SetOf (PySem.strKind prog w) S (fun k' => (xs.take i).any (· == k')) (dn (xs.take i)) →
      (∀ s', Moved (S :: wr) G s s' → s'.heap.SetOf (PySem.strKind prog w) S (fun k' => xs.any (· == k')) (dn xs) → R (.ok (.ret .none)) s') →
      codeAny (model prog w) A (.builtin "set.update.loop" ⟨[.ref S, .ref I], []⟩) R s := by
  have hSw : S ∉ wr := fun h => hSf (W.sub _ h)
  have hsub : ∀ b ∈ wr, b ∈ S :: wr := fun b hb => List.mem_cons_of_mem _ hb
  intro k
  induction k with
  | zero =>
    intro i s hk hi hst hS hR
    have hin : i = n := by omega
    subst hin
    refine codeAny_builtin PyProof.Rows.F.entry_set_update_loop ?_
    rw [Around.under_plainId PyProof.Rows.F.plain_set_update_loop _]
    show wpAny _ A.in1 (pyNext (.ref I) >>= _) _ _ s
    refine wpAny_bind (W.done s _ _ hst fun s' hm => ?_)
    show wpAny _ A.in1 (ret Value.none) _ _ s'
    rw [List.take_of_length_le (Nat.le_of_eq hsz)] at hS
    exact wpAny_pure (hR s' (hm.mono hsub) (by
      obtain ⟨o, es, ep, t, ho, rest⟩ := hS
      exact ⟨o, es, ep, t, hm.heap S _ hSw ho, rest⟩))
  | succ k ih =>
    intro i s hk hi hst hS hR
    have hlt : i < n := by omega
    have hlx : i < xs.length := by omega
    refine codeAny_builtin PyProof.Rows.F.entry_set_update_loop ?_
    rw [Around.under_plainId PyProof.Rows.F.plain_set_update_loop _]
    show wpAny _ A.in1 (pyNext (.ref I) >>= _) _ _ s
    refine wpAny_bind (W.item i s _ _ hlt hst fun v s' hP hst' hm => ?_)
    obtain ⟨t, rfl⟩ := hval i v hP
    have hS' : s'.heap.SetOf (PySem.strKind prog w) S (fun k' => (xs.take i).any (· == k')) (dn (xs.take i)) := by
      obtain ⟨o, es, ep, tb, ho, rest⟩ := hS
      exact ⟨o, es, ep, tb, hm.heap S _ hSw ho, rest⟩
    show wpAny _ A.in1 (holding [Value.str (xs.getD i Str.empty) t] (setAdd S (.str (xs.getD i Str.empty) t)) >>= _) _ _ s'
    refine wpAny_bind (wpAny_holding ?_)
    unfold setAdd
    refine wpAny_holding ?_
    refine wpAny_bind ((PySem.strKind prog w).pyHash (k := xs.getD i Str.empty) (strKind_is _ _ _ _) ?_)
    have hdn := dn_le (xs.take i)
    have htk : (xs.take i).length ≤ i := by rw [List.length_take]; omega
    refine wpAny_setAddHashed_of (knd := PySem.strKind prog w) (s := { s' with toks := s'.toks + 1 }) (strKind_is _ _ _ _) rfl hS' (by unfold scanBound at hn1 ⊢; omega) fun h' hsb hS2 => ?_
    have ex : xs.getD i Str.empty = xs[i] := by simp [List.getD, hlx]
    have et : xs.take (i + 1) = xs.take i ++ [xs[i]] := by rw [List.take_succ_eq_append_getElem hlx]
    have hSi : h'.SetOf (PySem.strKind prog w) S (fun k' => (xs.take (i + 1)).any (· == k')) (dn (xs.take (i + 1))) := by
      refine SetOf_congr hS2 (fun k' => ?_) ?_
      · show ((xs.take i).any (· == k') || decide (k' = xs.getD i Str.empty)) = (xs.take (i + 1)).any (· == k')
        rw [et, ex, List.any_append]
        congr 1
        by_cases e : k' = xs[i]
        · subst e; simp
        · have hb : (xs[i] == k') = false := by simpa [beq_iff_eq] using (fun h' : xs[i] = k' => e h'.symm)
          simp [hb, e]
      · rw [et, dn_snoc, ex]
    refine wpAny_pure ⟨plainId_quiet PyProof.Rows.F.plain_set_update_loop _, ih (i + 1) _ (by omega) hlt (W.frame _ s' _ _ hst' (Nat.le_succ _) fun b hb o e => ?_) hSi fun s'' hm'' hS'' => ?_⟩
    · rw [hsb.2 b (fun h : b = S => hSf (by rw [← h]; exact hb))]; exact e
    · refine hR s'' (Moved.trans W.gtrans ((hm.mono hsub).then_heap (Nat.le_succ _) fun b o hb e => ?_) hm'') hS''
      rw [hsb.2 b (fun h : b = S => hb (by rw [h]; exact List.mem_cons_self))]; exact e
end
section
variable {prog : Program} {w : World} {A : Around} {E : Value → Shared → Prop} {s : Shared}
def one1 (l : List Nat) : List Str := l.map fun c => S [c]
theorem sign_one {x : Str} {i : Nat} {v : Value} (h : SignAt x i v) : ∃ t, v = .str ((one1 (tl x)).getD i Str.empty) t := by
  obtain ⟨c, u, h1, rfl⟩ := h
  have e : (tl x)[i]? = some c := by simpa [tl] using h1
  exact ⟨u, by simp [one1, List.getD, List.getElem?_map, e]⟩
theorem call_set_text {x : Str} {t : Tok} {Q : Value → Shared → Prop} (hh : A.handled = none) (hn : (tl x).length + 1 < scanBound)
    (h : ∀ (h' : Heap) (tk : Nat), h'.SetOf (PySem.strKind prog w) s.heap.objs.size (fun k' => (one1 (tl x)).any (· == k')) (dn (one1 (tl x))) →
      (∀ b o, b < s.heap.objs.size → s.heap.get? b = some o → h'.get? b = some o) → Q (.ref s.heap.objs.size) { s with heap := h', toks := tk }) :
    wpAny (model prog w) A (call (.type "set") [.str x t]) Q E s := by
  obtain ⟨c, tl', hmro⟩ := PySem.F.called_set.mro
  have hmade := PySem.F.called_set.made
  have hsub := PySem.F.called_set.sub
  refine wpAny_call (codeAny_of_tree ?_)
  show wpAny _ _ (callAny (.type "set") _) _ _ _
  refine wpAny_pure ⟨Code.quiet_builtin _ (by decide +kernel), codeAny_builtin PySem.F.entry_type_call ?_⟩
  rw [Around.under_plain (weight_type_call_type "set" [.str x t] []) rfl]
  have h1 := PySem.F.called_set.notType
  have h2 := PySem.F.called_set.canCreate
  have hct := PySem.F.typeCall_set_1 (.str x t)
  repeat (any_goals (first | assumption | wp_step))
  refine codeAny_mono (code_set_new_1 (.str x t) (E := E) (Q₁ := fun obj s₁ => ∃ led : Bool, obj = .ref s.heap.objs.size ∧ s₁ = { s with heap := s.heap.push { cls := .type "set", dict := none, data := .set #[] 0 (.fresh 0 0 led) } }) fun led => ⟨led, rfl, rfl⟩) fun r s₁ hr => ?_
  cases r with
  | error e => exact hr
  | ok fl =>
    cases fl with
    | ret obj =>
      obtain ⟨led, rfl, rfl⟩ := hr
      have hS : (s.heap.push { cls := .type "set", dict := none, data := .set #[] 0 (.fresh 0 0 led) }).get? s.heap.objs.size = some { cls := .type "set", dict := none, data := .set #[] 0 (.fresh 0 0 led) } := Heap.get?_push_size _ rfl
      have hT : Shared.TypeIs { s with heap := s.heap.push { cls := .type "set", dict := none, data := .set #[] 0 (.fresh 0 0 led) } } (.ref s.heap.objs.size) "set" := ⟨_, hS, rfl⟩
      have hli := PySem.F.called_set.init.lookup
      have hbi := PySem.F.called_set.init.bind (.ref s.heap.objs.size)
      repeat (any_goals (first | assumption | wp_step))
      refine codeAny_mono (codeAny_call_builtin (R := wants (fun r s₂ => r = .none ∧ ∃ h' tk, s₂ = { s with heap := h', toks := tk } ∧
          h'.SetOf (PySem.strKind prog w) s.heap.objs.size (fun k' => (one1 (tl x)).any (· == k')) (dn (one1 (tl x))) ∧
          (∀ b o, b < s.heap.objs.size → s.heap.get? b = some o → h'.get? b = some o)) E) PySem.F.called_set.init.plain PySem.F.entry_set_init (check_set_init_1 hT ?_)) fun r₂ s₂ hr₂ => ?_
      · have hsls := PySem.F.sub_str_set
        have hslf := PySem.F.sub_str_frozenset
        have hne : (Value.type "str" == Value.type "dict") = false := by decide
        unfold Builtin.«set.__init__» noKeywords Builtin.Frozenset.updateFrom
        generalize hPI : pyIter = PI
        wp_walk
        subst hPI
        refine wpAny_pyIter_str fun o St W hst => ?_
        refine wpAny_bind (wpAny_runValue ?_)
        have hh3 : A.in1.in1.in1.handled = none := by simp [hh]
        have hSf : s.heap.objs.size ∉ [(s.heap.push { cls := .type "set", dict := none, data := .set #[] 0 (.fresh 0 0 led) }).objs.size] := by
          rw [Heap.size_push]; simp only [List.mem_singleton]
          exact Nat.ne_of_lt (Nat.lt_succ_self _)
        have hsz : (one1 (tl x)).length = x.cps.size := by simp [one1, tl]
        have hszn : x.cps.size = (tl x).length := by simp [tl]
        refine loopN ((W _ hh3).toS) s.heap.objs.size
          hSf (one1 (tl x)) hsz (by rw [hszn]; exact hn) (fun i v h => sign_one h) (x.cps.size - 0) 0 _ (by omega) (Nat.zero_le _)
          hst ?hS0 ?hR
        case hS0 =>
          have hget : ((s.heap.push { cls := .type "set", dict := none, data := .set #[] 0 (.fresh 0 0 led) }).push o).get? s.heap.objs.size
              = some { cls := .type "set", dict := none, data := .set #[] 0 (.fresh 0 0 led) } := Heap.get?_push_of_some _ hS
          exact PyProof.Rows.SetOf_congr ((PyProof.Rows.setObjOf_fresh (knd := PySem.strKind prog w) led).setOf hget (by unfold scanBound; omega)) (fun _ => rfl) rfl
        case hR =>
          intro s' hm hS'
          obtain ⟨h', g', d', tk', os'⟩ := s'
          have eg : g' = s.gens := hm.gens
          have ed : d' = s.drawn := hm.drawn
          have eo : os' = s.os := hm.os
          subst eg; subst ed; subst eo
          show wpAny _ _ _ _ _ _
          refine wpAny_pure ?_
          show wpAny _ _ (ret Value.none) _ _ _
          refine wpAny_pure ⟨rfl, h', tk', rfl, hS', fun b o hb e => ?_⟩
          have hb1 : b ≠ s.heap.objs.size := Nat.ne_of_lt hb
          have hb2 : b ≠ (s.heap.push { cls := .type "set", dict := none, data := .set #[] 0 (.fresh 0 0 led) }).objs.size := by
            rw [Heap.size_push]; exact Nat.ne_of_lt (Nat.lt_succ_of_lt hb)
          exact hm.heap b o (by simp only [List.mem_cons, List.mem_singleton, List.not_mem_nil, or_false, not_or]; exact ⟨hb1, hb2⟩) (Heap.get?_push_of_some _ (Heap.get?_push_of_some _ e))
      · cases r₂ with
        | error e => exact hr₂
        | ok fl₂ =>
          cases fl₂ with
          | ret r =>
            obtain ⟨rfl, h', tk, rfl, hS', hk'⟩ := hr₂
            repeat (any_goals (first | assumption | wp_step))
            exact h _ _ hS' hk'
          | _ => exact hr₂.elim
    | _ => exact hr.elim
end
end Ta

set_option Elab.async false
set_option linter.all false
set_option maxRecDepth 100000
set_option maxHeartbeats 3200000
namespace Ta
open PySem PySem.Spec PyProof.Rows L2
theorem dn_map {α β : Type} [BEq α] [LawfulBEq α] [BEq β] [LawfulBEq β] (f : α → β) (hf : ∀ x y, f x = f y → x = y) (l : List α) : dn (l.map f) = dn l := by
  suffices h : ∀ m : List α, dn (m.reverse.map f) = dn m.reverse by
    have z := h l.reverse
    rw [List.reverse_reverse] at z
    exact z
  intro m
  induction m with
  | nil => simp [dn]
  | cons x m ih =>
    rw [List.reverse_cons, List.map_append, List.map_cons, List.map_nil, dn_snoc, dn_snoc, ih]
    have e : ((m.reverse.map f).any fun y => y == f x) = (m.reverse.any fun y => y == x) := by
      rw [List.any_map]
      congr 1
      funext y
      show (f y == f x) = (y == x)
      by_cases e : y = x
      · subst e; rw [beq_self_eq_true, beq_self_eq_true]
      · rw [beq_eq_false_iff_ne.mpr e, beq_eq_false_iff_ne.mpr fun z => e (hf _ _ z)]
    rw [e]
theorem S1_inj (x y : Nat) (h : S [x] = S [y]) : x = y := by
  injection h with h
  injection h with h
  injection h
def zLset (x : V) (H : Hp) (Q : VK) : Prop := match x with
  | .str z => (tl z).length < 4000 ∧ Q (.int (dn (tl z))) H
  | _ => False
def tLset (ta : TE) : TE := fun σ H Q => ta σ H fun x H1 => zLset x H1 Q
section
variable {X : Cx}
theorem plset {a : Expr} {ta : TE} {p p2 q pos : Pos} (hc : X.calm = true) (hm : X.mg "len" = none) (hm2 : X.mg "set" = none) (ha : PE X a ta) (hg : Gl X "len" := by rfl) (hg2 : Gl X "set" := by rfl)
    (na : starEach [a] X.env = (false, eval a X.env) :: starEach [] X.env := by rfl) : PE X (.Call (.Name "len" p) [.Call (.Name "set" p2) [a] [] q] [] pos) (tLset ta) := by
  refine ⟨fun pins s σ H Q I h => ?_⟩
  refine Call_ (ld_blt I hg hm boot_len ?_)
  refine PyProof.Rows.callWith_builtin1 (PyProof.Rows.args_cons ?_ rfl) rfl rfl
  refine Call_ (ld_blt I hg2 hm2 boot_set ?_)
  refine PyProof.Rows.callWith_type1 (PyProof.Rows.args_cons (thn (ha.run pins s σ H _ I h) fun v s1 ⟨x, H1, I1, r1, q1⟩ => PyProof.Rows.args_nil ?_) na) na rfl
  cases x with
  | str z =>
    obtain ⟨h1, q1⟩ := q1
    obtain ⟨t, rfl⟩ := r1
    refine call_set_text (I1.ok.hd hc) (by unfold scanBound; omega) fun h' tk hS hk => ?_
    refine PyProof.Rows.args_nil ?_
    have edn : dn (one1 (tl z)) = dn (tl z) := dn_map _ S1_inj _
    have hle := dn_le (tl z)
    obtain ⟨o, es, ep, t, ho, hex, hd, _, _, _, hf, hn⟩ := hS
    have I2 : Inv X pins σ H1 { s1 with heap := h', toks := tk } := I1.kept fun b o e => hk b o (Heap.lt_size e) e
    refine call_len_set ho hex hd hf (by rw [hn, edn]; omega) ⟨.int (dn (tl z)), H1, I2.tok _, ⟨_, by rw [hn, edn]⟩, q1⟩
  | _ => exact False.elim q1
end

/-! ### sorted(text) -/
def srt (l : List Nat) : List Nat := l.mergeSort fun a b => decide (a ≤ b)
theorem srt_perm (l : List Nat) : (srt l).Perm l := List.mergeSort_perm _ _
theorem srt_pw (l : List Nat) : (srt l).Pairwise (· ≤ ·) := by
  have h := List.pairwise_mergeSort (le := fun a b : Nat => decide (a ≤ b)) (fun a b c h1 h2 => by simp at *; omega) (fun a b => by simp; omega) l
  exact h.imp fun z => by simpa using z
theorem srt_uniq {l m : List Nat} (h : m.Perm l) (hp : m.Pairwise (· ≤ ·)) : m = srt l :=
  List.Perm.eq_of_pairwise (fun _ _ _ _ a b => Nat.le_antisymm a b) hp (srt_pw l) (h.trans (srt_perm l).symm)
def sgn (l : List Nat) : List V := l.map fun c => V.str (S [c])
theorem perm_map_inv {α β : Type} {f : α → β} : ∀ {l : List α} {m : List β}, m.Perm (l.map f) → ∃ l' : List α, m = l'.map f ∧ l'.Perm l := by
  intro l m h
  generalize e : l.map f = k at h
  induction h generalizing l with
  | nil => exact ⟨[], rfl, by simp at e; subst e; exact .nil⟩
  | cons x h ih =>
    cases l with
    | nil => cases e
    | cons y l =>
      injection e with e1 e2
      obtain ⟨l', h1, h2⟩ := ih e2
      exact ⟨y :: l', by rw [h1, ← e1]; rfl, h2.cons y⟩
  | swap x y t =>
    cases l with
    | nil => cases e
    | cons a l => cases l with
      | nil => cases e
      | cons b l =>
        injection e with e1 e2
        injection e2 with e2 e3
        exact ⟨b :: a :: l, by rw [List.map_cons, List.map_cons, e1, e2, e3], .swap a b l⟩
  | trans h1 h2 ih1 ih2 =>
    obtain ⟨l1, e1, p1⟩ := ih2 e
    obtain ⟨l2, e2, p2⟩ := ih1 e1.symm
    exact ⟨l2, e2, p2.trans p1⟩
theorem rising_one : ∀ (l : List Nat) (a : Nat), risingS (S [a]) (l.map fun c => S [c]) = true → l.Pairwise (· ≤ ·) ∧ ∀ b ∈ l, a ≤ b
  | [], a, _ => ⟨.nil, fun _ h => nomatch h⟩
  | b :: l, a, h => by
    simp only [List.map_cons, risingS, Bool.and_eq_true] at h
    obtain ⟨h1, h2⟩ := h
    obtain ⟨i1, i2⟩ := rising_one l b h2
    have hab : a ≤ b := by
      have z : ltCps [b] [a] = false := by simpa using h1
      unfold ltCps at z
      apply Decidable.byContradiction
      intro hc
      have : b < a := by omega
      simp [this] at z
    refine ⟨.cons i2 i1, fun c hc => ?_⟩
    rcases List.mem_cons.mp hc with rfl | hc
    · exact hab
    · exact Nat.le_trans hab (i2 c hc)
theorem sorted_one (l : List Nat) (h : sortedS (l.map fun c => S [c]) = true) : l.Pairwise (· ≤ ·) := by
  cases l with
  | nil => exact .nil
  | cons a l => exact .cons (rising_one l a h).2 (rising_one l a h).1
def zSrt1 (x : V) (H : Hp) (Q : VK) : Prop := match x with
  | .str z => (tl z).length < 64 ∧ ∀ p, H p = none → Q (.ref p) (upd H p (.lst (sgn (srt (tl z)))))
  | _ => False
def zSort1 : List V → Hp → VK → Prop := fun xs H Q => one xs fun x => zSrt1 x H Q
section
variable {X : Cx}
theorem crsort (hcalm : X.calm = true) : CallR X (.builtin "sorted") zSort1 := by
  intro pins s σ H xs us Q I r q
  obtain ⟨x, rfl, q⟩ := one_e q
  obtain ⟨u, eu, rx⟩ := vals1 r
  subst eu
  cases x with
  | str z =>
    obtain ⟨h64, q⟩ := q
    obtain ⟨t, rfl⟩ := rx
    refine Calls.call_function_entry PyProof.Rows.kind_sorted PyProof.Rows.plain_sorted PyProof.Rows.entry_sorted (PyProof.Rows.args_sorted1 _) ?_
    unfold Builtin.«sorted»
    refine wpAny_bind (m := checkCount "sorted" 1 1 _) (wpAny_pure ?_)
    have hsz : z.cps.size = (tl z).length := by simp [tl]
    refine wpAny_bind (wpAny_collect_str (A := X.A.in1) (I.ok.hd hcalm) z t (fun s' acc hk hg hd ho hacc => ?_) (by rw [hsz, sizeLine_eq]; omega))
    obtain ⟨h', g', d', tk, os'⟩ := s'
    simp only at hk hg hd ho
    subst hg; subst hd; subst ho
    have hal : acc.toList.length = (one1 (tl z)).length := by rw [Array.length_toList, hacc.1, hsz]; simp [one1]
    have hS : StrsAre acc.toList (one1 (tl z)) := L2.strs_at hal fun j v e => by
      obtain ⟨c, u, e1, e2⟩ := hacc.2 j v (by rw [← Array.getElem?_toList]; exact e)
      exact ⟨S [c], u, by simp [one1, tl, e1], e2⟩
    have hal2 : acc.toList.length < 64 := by rw [hal]; simpa [one1] using h64
    have I1 : Inv X pins σ H { s with heap := h', toks := tk } := I.kept hk
    refine wpAny_bind (wpAny_newList ?_ (by rw [sizeLine_eq]; omega))
    have hoL : (h'.push (seqObj "list" acc.toList.toArray 0)).get? h'.objs.size = some (seqObj "list" acc.toList.toArray 0) := Heap.get?_push_size _ rfl
    show wpAny _ _ _ _ _ { s with heap := h'.push (seqObj "list" acc.toList.toArray 0), toks := tk }
    refine wpAny_bind (wpAny_holding (wpAny_call_entry PyProof.Rows.slot_list_sort ⟨_, hoL, rfl⟩ PyProof.Rows.entry_list_sort
      (list_sort_treeK strKind_oneLt (s := { s with heap := h'.push (seqObj "list" acc.toList.toArray 0), toks := tk }) hoL hS.keysOf (fun v₁ v₂ rest e => keyKind_strs (by rw [← e]; exact hS)) hal2 fun st' hp hs => ⟨_, rfl, ?_⟩)
      (PyProof.Rows.args_list_sort _)))
    obtain ⟨ys, g1, g2, g3⟩ := sorted_out_str hS hp hs
    obtain ⟨e', he'⟩ := PyProof.Rows.sortedHeap_at (vs := acc.toList) (out := (arrOf st').map (·.2)) hoL
    obtain ⟨l', rfl, pl⟩ := perm_map_inv g2
    have el : l' = srt (tl z) := srt_uniq pl (sorted_one l' g3)
    subst el
    have hlen : (sgn (srt (tl z))).length ≤ sizeLine := by
      unfold sgn
      rw [List.length_map, (srt_perm _).length_eq, sizeLine_eq]; omega
    have ev : ((srt (tl z)).map fun c => S [c]).map V.str = sgn (srt (tl z)) := by unfold sgn; rw [List.map_map]; rfl
    refine wpAny_pure ⟨_, rfl, .ref h'.objs.size, upd H h'.objs.size (.lst (sgn (srt (tl z)))), I1.laid (t' := tk) (fun b u e => ?_) (Nat.le_refl _)
      (show ObjOk X.prog X.w _ _ _ (.lst (sgn (srt (tl z)))) from ⟨hlen, ((arrOf st').map (·.2)).toList, e', by rw [← ev]; exact vals_of_strs g1, by rw [Array.toArray_toList]; exact he'⟩), rfl, q _ (I1.hok.fresh (Nat.le_refl _))⟩
    have hb : b < h'.objs.size := Heap.lt_size e
    rw [PyProof.Rows.sortedHeap_old (Nat.ne_of_lt hb) (by rw [size_push']; exact Nat.lt_succ_of_lt hb)]
    exact Heap.get?_push_of_some _ e
  | _ => exact False.elim q
end
end Ta

set_option Elab.async false
set_option linter.all false
set_option maxRecDepth 100000
set_option maxHeartbeats 3200000
namespace Ta
open PySem PySem.Spec PyProof.Rows L2

/-! ### own == of two instances of one class -/
def zOwn (C : Addr) (sp : Sp) : R2 := fun x y H Q => match x with
  | .ref a => (match y with
    | .ref b => look H a fun o => (match o with
      | some (.ins C1 dx fs) => look H b fun o' => (match o' with
        | some (.ins C2 dy gs) => C1 = C ∧ C2 = C ∧ sp [.ref a, .ref b] H (fun v H' => ∃ k, v = .bl k ∧ Q (.bl k) H') fun _ _ _ => False
        | _ => False)
      | _ => False)
    | _ => False)
  | _ => False
theorem zOwn_e {C : Addr} {sp : Sp} {x y : V} {H : Hp} {Q : VK} (h : zOwn C sp x y H Q) : ∃ a b dx fs dy gs, x = .ref a ∧ y = .ref b ∧ H a = some (.ins C dx fs) ∧ H b = some (.ins C dy gs) ∧ sp [.ref a, .ref b] H (fun v H' => ∃ k, v = .bl k ∧ Q (.bl k) H') fun _ _ _ => False := by
  cases x with
  | ref a =>
    cases y with
    | ref b =>
      have h := look_e h
      cases ea : H a with
      | none => rw [ea] at h; exact h.elim
      | some o =>
        rw [ea] at h
        cases o with
        | ins C1 dx fs =>
          have h := look_e h
          cases eb : H b with
          | none => rw [eb] at h; exact h.elim
          | some o' =>
            rw [eb] at h
            cases o' with
            | ins C2 dy gs =>
              obtain ⟨e1, e2, h3⟩ := h
              subst e1
              subst e2
              exact ⟨a, b, dx, fs, dy, gs, rfl, rfl, ea, eb, h3⟩
            | _ => exact h.elim
        | _ => exact h.elim
    | _ => exact h.elim
  | _ => exact h.elim
section
variable {X : Cx}
theorem opown {C : Addr} {lv : Nat} {sp : Sp} (M : Me X.prog X.w X.K X.mg X.base C "__eq__" lv [] sp) (hr : Room lv X.A) : OpR X (compareOp .Eq) (zOwn C sp) := by
  intro pins s σ H x y v u Q I rx ry h
  obtain ⟨a, b, dx, fs, dy, gs, rfl, rfl, ha, hb', h⟩ := zOwn_e h
  cases rx
  cases ry
  obtain ⟨⟨f, fd, ps, ds, F, hm, hd, hb⟩, cl⟩ := M
  cases hd
  obtain ⟨mA, J, _⟩ := ins_get I.hok ha
  obtain ⟨mB, J', _⟩ := ins_get I.hok hb'
  obtain ⟨od, J, _⟩ := J.look
  obtain ⟨od', J', _⟩ := J'.look
  obtain ⟨m, hF⟩ := I.fr
  show wpAny (model X.prog X.w) X.A (richCompare .Eq (.ref a) (.ref b)) (EP X pins σ Q) X.xe s
  refine PySem.W.cmp_K (op := .Eq) (tb := .ref C) hr.units0 hF I.ok.mod.kin J J'.type (by simp [PySem.W.notFirst]) hm.at_ hm.fn ?_
  have r2 : Vals [V.ref a, V.ref b] [Value.ref a, Value.ref b] := .cons rfl (.cons rfl .nil)
  refine wpAny_mono (run_fnSD (E := WE WF) (us := [.ref a, .ref b]) (vs := [.ref a, .ref b]) (Q := fun v H' => ∃ k, v = .bl k ∧ Q (.bl k) H') F hr hb .nil (L2M.passAt L2M.takes0 σ) I r2 h) (fun r s' q => ?_) fun _ _ z => z
  obtain ⟨z, H', I', rz, k, rfl, q⟩ := q
  cases rz
  exact ⟨.bl k, H', I', rfl, q⟩
theorem names_of {x : Str} {C : Addr} (h : GlobV X.mg x (.ref C)) (hg : Gl X x := by rfl) (hdb : (x == ("__debug__" : Str)) = false := by decide +kernel) : Names X x (.ref C) := by
  obtain ⟨u, hm, r⟩ := h.ex
  cases (show u = Value.ref C from r)
  exact ⟨hg, hdb, .inl hm⟩
end

/-! ### the clause of a try -/
theorem was_t {K : PySem.W.Frag} {c : Value} {i : Nat} {ts : Addr → Value → Option Addr → TS} {Wout : WX} {D : Ends} {cls : Value} {d : Option Addr} {σ : St} {H : Hp} (h : PySem.W.exmOne K cls c = some true)
    (q : ∀ a, H a = none → ts a cls d { nx := fun σ' H' => D.nx (σ'.set i none) H', rt := D.rt, bk := fun σ' H' => D.bk (σ'.set i none) H', ct := fun σ' H' => D.ct (σ'.set i none) H' } (σ.set i (some (.ref a))) H) : wAs K c i ts Wout D cls d σ H :=
  ⟨true, h, fun _ => q, (fun z => by cases z)⟩
theorem was_f {K : PySem.W.Frag} {c : Value} {i : Nat} {ts : Addr → Value → Option Addr → TS} {Wout : WX} {D : Ends} {cls : Value} {d : Option Addr} {σ : St} {H : Hp} (h : PySem.W.exmOne K cls c = some false)
    (q : Wout cls d σ H) : wAs K c i ts Wout D cls d σ H :=
  ⟨false, h, (fun z => by cases z), fun _ => q⟩

/-! ### heaps -/
/-- H' keeps what H has, but for F -/
def Kp (F : List Addr) (H H' : Hp) : Prop := ∀ q o, H q = some o → q ∉ F → H' q = some o
theorem Kp.rfl' {F : List Addr} {H : Hp} : Kp F H H := fun _ _ h _ => h
theorem Kp.trans {F : List Addr} {H H1 H2 : Hp} (a : Kp F H H1) (b : Kp F H1 H2) : Kp F H H2 := fun q o h n => b q o (a q o h n) n
theorem Kp.mono {F F' : List Addr} {H H' : Hp} (a : Kp F H H') (h : ∀ q ∈ F, q ∈ F') : Kp F' H H' := fun q o e n => a q o e fun z => n (h q z)
theorem Kp.nil {F : List Addr} {H H' : Hp} (a : Kp [] H H') : Kp F H H' := a.mono fun _ z => nomatch z
theorem Kp.new {F : List Addr} {H H1 : Hp} {p : Addr} {o : HO} (a : Kp F H H1) (h : H1 p = none) : Kp F H (upd H1 p o) := fun q o' e n => by
  have z := a q o' e n
  rw [upd_ne (ne_of_none z h)]; exact z
theorem Kp.at {F : List Addr} {H H1 : Hp} {p : Addr} {o : HO} (a : Kp F H H1) (h : p ∈ F) : Kp F H (upd H1 p o) := fun q o' e n => by
  have hne : q ≠ p := fun z => n (by rw [z]; exact h)
  rw [upd_ne hne]; exact a q o' e n
theorem Kp.own {F : List Addr} {H H1 : Hp} {p : Addr} {o : HO} (a : Kp F H H1) (h : H p = none) : Kp F H (upd H1 p o) := fun q o' e n => by
  rw [upd_ne (ne_of_none e h)]; exact a q o' e n
theorem upd_at {H : Hp} {p : Addr} {o : HO} : upd H p o p = some o := by unfold upd; rw [if_pos rfl]
theorem upd_fr {H : Hp} {p q : Addr} {o o' : HO} (h : H p = none) (hq : H q = some o) : upd H p o' q = some o := by rw [upd_ne (ne_of_none hq h)]; exact hq
theorem upd_off {H : Hp} {p q : Addr} {o o' : HO} (h : q ≠ p) (hq : H q = some o) : upd H p o' q = some o := by rw [upd_ne h]; exact hq
theorem upd_tw {H : Hp} {p : Addr} {o o' : HO} : upd (upd H p o) p o' = upd H p o' := by
  funext q; unfold upd; split <;> rfl
theorem mem1 {F : List Addr} {q : Addr} (h : ∀ x ∈ F, q ≠ x) : q ∉ F := fun z => h q z rfl
theorem ne_none {H : Hp} {p q : Addr} {o : HO} (h : H q = some o) (hp : H p = none) : q ≠ p := ne_of_none h hp
theorem ne_none' {H : Hp} {p q : Addr} {o : HO} (h : H q = some o) (hp : H p = none) : p ≠ q := (ne_of_none h hp).symm
theorem Kp.get {F : List Addr} {H H' : Hp} {q : Addr} {o : HO} (a : Kp F H H') (h : H q = some o) (n : q ∉ F) : H' q = some o := a q o h n
theorem Kp.get0 {H H' : Hp} {q : Addr} {o : HO} (a : Kp [] H H') (h : H q = some o) : H' q = some o := a q o h fun z => nomatch z
theorem Kp.get1 {p : Addr} {H H' : Hp} {q : Addr} {o : HO} (a : Kp [p] H H') (h : H q = some o) (n : q ≠ p) : H' q = some o := a q o h fun z => n (List.mem_singleton.mp z)
/-- a side goal, left to the end -/
structure Sd (p : Prop) : Prop where
  out : p
theorem sd_i {p : Prop} (h : p) : Sd p := by refine ⟨?_⟩; exact h
theorem sd_e {p : Prop} (h : Sd p) : p := by replace h := h.out; exact h
theorem cnd_d {c : Prop} [Decidable c] {p q : Prop} (h1 : c → p) (h2 : ¬ c → q) : cnd (decide c) p q := cnd_i (fun h => h1 (of_decide_eq_true h)) (fun h => h2 (of_decide_eq_false h))
theorem cnd_n {c : Bool} {p q : Prop} (h : cnd c q p) : cnd (!c) p q := by
  replace h := h.out; refine ⟨?_⟩
  cases c <;> exact h

/-! ### [c for c in text if test] -/
theorem filter_take {l : List Nat} {f : Nat → Bool} {k c : Nat} (h : l[k]? = some c) : (l.take (k + 1)).filter f = (l.take k).filter f ++ (if f c = true then [c] else []) := by
  rw [List.take_succ, h]
  simp [List.filter_append, List.filter_cons]
theorem lcp_g {n : Nat} {it : Itm} {st : Hp → Prop} {l : List Nat} {i : Nat} {tt : TT} {te : TE} {σ : St} {H1 : Hp} {Q : VK} {vs : List Nat} (hn : n = l.length) (hit : ∀ k H x H', it k H x H' → H' = H ∧ ∃ c, l[k]? = some c ∧ x = .str (S [c])) (hst : ∀ D xs, H1 D = none → st (upd H1 D (.lst xs)))
    (f : Nat → Bool) (hl : l.length < 1000000) (ht : ∀ c D H' Q', H1 D = none → c ∈ l → (∃ xs, H' = upd H1 D (.lst xs)) → Q' (f c) H' → tt ((wipe σ vs).set i (some (.str (S [c])))) H' Q')
    (he : ∀ c H' Q', Q' (.str (S [c])) H' → te ((wipe σ vs).set i (some (.str (S [c])))) H' Q')
    (hw : ∀ v, wipe ((wipe σ vs).set i v) vs = wipe σ vs) (q : ∀ D, H1 D = none → Q (.ref D) (upd H1 D (.lst (sgn (l.filter f))))) : lcp n it st (gName i) tt te vs σ H1 Q := by
  subst hn
  refine lcp_i (fun D k H => H = upd H1 D (.lst (sgn ((l.take k).filter f)))) (fun D hD => rfl) (fun D k H hD _ e => by rw [e]; exact hst D _ hD) ?_ ?_
  · rintro D k x H H' hD hk rfl hi
    obtain ⟨rfl, c, hc, rfl⟩ := hit _ _ _ _ hi
    refine ⟨hw _, ht c D _ _ hD (List.mem_of_getElem? hc) ⟨_, rfl⟩ ?_⟩
    cases e : f c with
    | true =>
      rw [if_pos rfl]
      refine he c _ _ ⟨_, upd_at, ?_, ?_⟩
      · unfold sgn
        rw [List.length_map, sizeLine_eq]
        have h1 := List.length_filter_le f (l.take k)
        rw [List.length_take] at h1
        omega
      · rw [upd_tw, filter_take hc, e, if_pos rfl]
        unfold sgn
        rw [List.map_append]
        rfl
    | false =>
      rw [if_neg (by simp), filter_take hc, e, if_neg (by simp), List.append_nil]
  · rintro D H hD rfl
    rw [List.take_length]
    exact q D hD
theorem lcp_f {l : List Nat} {i : Nat} {tt : TT} {te : TE} {σ : St} {H1 : Hp} {Q : VK} {vs : List Nat} (f : Nat → Bool) (hl : l.length < 1000000)
    (ht : ∀ c D H' Q', H1 D = none → c ∈ l → (∃ xs, H' = upd H1 D (.lst xs)) → Q' (f c) H' → tt ((wipe σ vs).set i (some (.str (S [c])))) H' Q')
    (he : ∀ c H' Q', Q' (.str (S [c])) H' → te ((wipe σ vs).set i (some (.str (S [c])))) H' Q')
    (hw : ∀ v, wipe ((wipe σ vs).set i v) vs = wipe σ vs) (q : ∀ D, H1 D = none → Q (.ref D) (upd H1 D (.lst (sgn (l.filter f))))) : lcp l.length (itS l) (fun _ => True) (gName i) tt te vs σ H1 Q :=
  lcp_g rfl (fun _ _ _ _ h => h) (fun _ _ _ => trivial) f hl ht he hw q
theorem lcp_l {l : List Nat} {p : Addr} {i : Nat} {tt : TT} {te : TE} {σ : St} {H1 : Hp} {Q : VK} {vs : List Nat} (hp : H1 p = some (.lst (sgn l))) (f : Nat → Bool) (hl : l.length < 1000000)
    (ht : ∀ c D H' Q', H1 D = none → c ∈ l → (∃ xs, H' = upd H1 D (.lst xs)) → Q' (f c) H' → tt ((wipe σ vs).set i (some (.str (S [c])))) H' Q')
    (he : ∀ c H' Q', Q' (.str (S [c])) H' → te ((wipe σ vs).set i (some (.str (S [c])))) H' Q')
    (hw : ∀ v, wipe ((wipe σ vs).set i v) vs = wipe σ vs) (q : ∀ D, H1 D = none → Q (.ref D) (upd H1 D (.lst (sgn (l.filter f))))) : lcp (sgn l).length (itL (sgn l)) (fun H' => H' p = some (.lst (sgn l))) (gName i) tt te vs σ H1 Q := by
  refine lcp_g (l := l) (by unfold sgn; rw [List.length_map]) (fun k H x H' h => ⟨h.1, ?_⟩) (fun D xs hD => upd_fr hD hp) f hl ht he hw q
  have h2 := h.2
  unfold sgn at h2
  rw [List.getElem?_map] at h2
  cases e : l[k]? with
  | none => rw [e] at h2; cases h2
  | some c => rw [e] at h2; exact ⟨c, rfl, (Option.some.inj h2).symm⟩
theorem upd_self {H : Hp} {p : Addr} {o : HO} (h : H p = some o) : upd H p o = H := by
  funext q; unfold upd; split
  · rename_i e; rw [e, h]
  · rfl

theorem joinL_one : ∀ l : List Nat, TL.joinL [] (l.map fun c => [c]) = l
  | [] => rfl
  | [a] => rfl
  | a :: b :: l => by
    have ih := joinL_one (b :: l)
    show [a] ++ [] ++ TL.joinL [] ((b :: l).map fun c => [c]) = _
    rw [ih]
    rfl
theorem sum_one (l : List Nat) : ((l.map fun c => [c]).map List.length).sum = l.length := by
  induction l with
  | nil => rfl
  | cons a l ih => simp only [List.map_cons, List.sum_cons, ih, List.length_cons, List.length_nil]; omega
theorem joi_i {l : List Nat} {k : List Nat → Prop} (h : l.length ≤ 1000000) (q : k l) : joi (sgn l) (tl (S [])) k := by
  refine ⟨?_⟩
  refine ⟨l.map fun c => [c], by unfold sgn; rw [List.map_map]; rfl, ?_, ?_⟩
  · rw [sum_one, List.length_map]
    show _ + _ * 0 ≤ _
    omega
  · show k (TL.joinL [] _)
    rw [joinL_one]; exact q
theorem sgn_len (l : List Nat) : (sgn l).length = l.length := by unfold sgn; rw [List.length_map]
theorem srt_len (l : List Nat) : (srt l).length = l.length := (srt_perm l).length_eq
theorem sgn_fe (l : List Nat) (f : Nat → Bool) : (sgn (l.filter f)).isEmpty = !l.any f := by
  induction l with
  | nil => rfl
  | cons a l ih =>
    rw [List.filter_cons, List.any_cons]
    cases f a with
    | true => rfl
    | false => exact ih

theorem itm_s {α : Type} {l : List α} {i : Int} {k : α → Prop} (h0 : 0 ≤ i) (h1 : i < (l.length : Int)) (q : ∀ (j : Nat) (hj : j < l.length), i = (j : Int) → k l[j]) : itm l i k := by
  obtain ⟨j, rfl⟩ := Int.eq_ofNat_of_zero_le h0
  have hj : j < l.length := by omega
  exact itm_n rfl (List.getElem?_eq_getElem hj) (q j hj rfl)
theorem perm_out {l r : List Nat} {j : Nat} (hj : j < r.length) : ((l ++ [r[j]]) ++ (r.take j ++ r.drop (j + 1))).Perm (l ++ r) := by
  have e : r = r.take j ++ r[j] :: r.drop (j + 1) := by
    rw [List.getElem_cons_drop, List.take_append_drop]
  have h1 : (r[j] :: (r.take j ++ r.drop (j + 1))).Perm r := by
    refine List.Perm.trans ?_ (List.Perm.of_eq e.symm)
    exact List.perm_middle.symm
  rw [List.append_assoc]
  exact h1.append_left l
theorem dn_nodup (l : List Nat) : dn l = l.length ↔ l.Nodup := by
  suffices h : ∀ m : List Nat, dn m.reverse = m.reverse.length ↔ m.reverse.Nodup by
    have z := h l.reverse
    rw [List.reverse_reverse] at z
    exact z
  intro m
  induction m with
  | nil => simp [dn]
  | cons x m ih =>
    rw [List.reverse_cons, dn_snoc, List.length_append, List.nodup_append]
    have hle := dn_le m.reverse
    have ea : (m.reverse.any fun y => y == x) = decide (x ∈ m.reverse) := by
      rw [Bool.eq_iff_iff]; simp
    rw [ea]
    by_cases hx : x ∈ m.reverse
    · rw [if_pos (decide_eq_true hx)]
      constructor
      · intro h; simp at h hle; omega
      · rintro ⟨_, _, h⟩
        exact absurd rfl (h x hx x (List.mem_singleton.mpr rfl))
    · rw [if_neg (by simpa using hx)]
      constructor
      · intro h
        refine ⟨ih.mp (by simp at h ⊢; omega), by simp, fun a ha b hb => ?_⟩
        rw [List.mem_singleton.mp hb]
        exact fun e => hx (e ▸ ha)
      · rintro ⟨h, _, _⟩
        rw [ih.mpr h]; rfl

theorem Kp.made {F : List Addr} {H H' : Hp} {x dx : Addr} {o1 o2 : HO} (hx : H x = none) (hdx : H dx = none) (k : Kp (x :: F) (upd (upd H dx o1) x o2) H') : Kp F H H' := fun q o e n => by
  have n1 : q ≠ x := ne_of_none e hx
  have n2 : q ≠ dx := ne_of_none e hdx
  refine k q o (by rw [upd_ne n1, upd_ne n2]; exact e) fun z => ?_
  rcases List.mem_cons.mp z with z | z
  · exact n1 z
  · exact n z

theorem upd_tw2 {H : Hp} {p : Addr} {o o1 o2 : HO} : upd (upd (upd H p o) p o1) p o2 = upd H p o2 := by rw [upd_tw, upd_tw]
theorem upd_tw3 {H : Hp} {p : Addr} {o o1 o2 o3 : HO} : upd (upd (upd (upd H p o) p o1) p o2) p o3 = upd H p o3 := by rw [upd_tw, upd_tw, upd_tw]
theorem upd_tw4 {H : Hp} {p : Addr} {o o1 o2 o3 o4 : HO} : upd (upd (upd (upd (upd H p o) p o1) p o2) p o3) p o4 = upd H p o4 := by rw [upd_tw, upd_tw, upd_tw, upd_tw]
/-- a loop that changes nothing but its own name -/
theorem loop_c {n k : Nat} {it : Itm} {st : Hp → Prop} {tb : TS} {D : Ends} {σ : St} {H : Hp} (h0 : st H) (hit : ∀ i H x H', it i H x H' → H' = H) (hk : ∃ v0, σ.set k v0 = σ)
    (hs : ∀ i x v, i < n → it i H x H → tb { D with nx := fun σ' H' => Sd (∃ v', σ' = σ.set k v' ∧ H' = H), ct := fun σ' H' => Sd (∃ v', σ' = σ.set k v' ∧ H' = H), bk := D.nx } ((σ.set k v).set k (some x)) H) (hd : ∀ v, D.nx (σ.set k v) H) : loop n it st (gName k) tb D σ H := by
  obtain ⟨v0, hv0⟩ := hk
  refine loop_i (fun _ σ' H' => Sd (∃ v', σ' = σ.set k v' ∧ H' = H)) (sd_i ⟨v0, hv0.symm, rfl⟩) ?_ ?_ ?_
  · intro i σ' H' _ h
    obtain ⟨v', _, rfl⟩ := sd_e h
    exact h0
  · intro i x σ' H' H'' hi h hI
    obtain ⟨v', rfl, rfl⟩ := sd_e h
    obtain rfl := hit _ _ _ _ hI
    exact hs i x v' hi hI
  · intro σ' H' h
    obtain ⟨v', rfl, rfl⟩ := sd_e h
    exact hd v'

theorem Kp.none {H H' : Hp} {q : Addr} (k : Kp [] H H') (h : H' q = none) : H q = none := by
  cases e : H q with
  | none => rfl
  | some o => rw [k.get0 e] at h; cases h
end Ta

set_option Elab.async false
set_option linter.all false
set_option maxRecDepth 100000
set_option maxHeartbeats 400000
namespace Ta
open PySem PySem.Spec PyProof.Rows L2

/-! ### locals at the code itself -/
def FT (X : Cx) (f : List (Str × Value)) (s : Shared) : Prop := ∃ m, s.heap.Ns X.env.locals m ∧ ∀ e ∈ f, m e.1 = some e.2
section
variable {X : Cx} {pins : List (Addr × Obj)} {σ : St} {H : Hp} {s s' : Shared} {ff : List (Str × Value)}
theorem FT.after {Q : VK} {u : Value} (h : FT X ff s) (I : Inv X pins σ H s) (c : CE X.stack X.prog X.w H s Q u s') : FT X ff s' := by
  obtain ⟨m, ⟨o, es, ep, ho, r⟩, hf⟩ := h
  obtain ⟨v, H', os, bare, un, hok, rr, q⟩ := c
  obtain ⟨sl, hL⟩ := un.any ho I.free (by simp)
  exact ⟨m, ⟨_, es, ep, hL, r⟩, hf⟩
theorem FT.nil (I : Inv X pins σ H s) : FT X [] s := by
  obtain ⟨m, hn, _⟩ := I.loc
  exact ⟨m, hn, fun _ z => nomatch z⟩
theorem run_fnF {CX : CXT} {k : Nat} {f : Addr} {fd : FuncData} {ps : List Str} {sp : Sp} {E : St → XK} {dvs : List V} {ds : List Value} {Q : VK} {us : List Value} {vs : List V} (F : FnOk X.prog X.w X.K X.mg X.base CX k f fd ps sp) (hr : Room k X.A) (hb : Binds X.K fd ps ds) (hd : Vals dvs ds) (hx : PassesAt CX X σ (E σ))
    (I : Inv X pins σ H s) (hF : FT X ff s) (r : Vals vs us) (h : sp (vs ++ dvs) H Q (E σ)) : wpAny (model X.prog X.w) X.A (call (.ref f) us) (fun u s' => EP X pins σ Q u s' ∧ FT X ff s') X.xe s := by
  have r2 : Vals (vs ++ dvs) (us ++ ds) := r.append hd
  have hl : (us ++ ds).length = ps.length := by rw [← r2.length]; exact F.len _ _ _ _ h
  refine wpAny_call (codeAny_mono (F.run X.A X.stack s H ⟨us, []⟩ (us ++ ds) (vs ++ dvs) Q (E σ) hr I.env0 (hb s us I.kIn hl) r2 h) fun r s' hq => ?_)
  cases r with
  | error e => exact hx pins H s e s' I hq
  | ok fl =>
    cases fl with
    | ret u => exact ⟨I.after hq, hF.after I hq⟩
    | next => exact False.elim hq
    | brk => exact False.elim hq
    | cont => exact False.elim hq
/-- s[take(box, len(s))] -/
def tPk (sp : Sp) (W : WX) (il ib : Nat) : TE := fun σ H Q => match σ[il]? with
  | some (some (.str z)) => (match σ[ib]? with
    | some (some bv) => Lim (tl z).length ∧ sp [bv, .int (tl z).length] H (fun v H' => match v with
      | .int i => itm (tl z) i fun c => Q (.str (S [c])) H'
      | _ => False) (fun c d H' => W c d σ H')
    | _ => False)
  | _ => False
theorem tPk_e {sp : Sp} {W : WX} {il ib : Nat} {Q : VK} (h : tPk sp W il ib σ H Q) : ∃ z bv, σ[il]? = some (some (.str z)) ∧ σ[ib]? = some (some bv) ∧ Lim (tl z).length ∧ sp [bv, .int (tl z).length] H (fun v H' => match v with
      | .int i => itm (tl z) i fun c => Q (.str (S [c])) H'
      | _ => False) (fun c d H' => W c d σ H') := by
  unfold tPk at h
  split at h
  · rename_i z e1
    split at h
    · rename_i bv e2
      exact ⟨z, bv, e1, e2, h⟩
    · exact h.elim
  · exact h.elim
theorem ev_pk {il ib lv : Nat} {l b tk : Str} {sp : Sp} {W : WX} {Q : VK} {p1 p2 p3 p4 p5 p6 p7 p8 : Pos} (F : Fn X.prog X.w X.K X.mg X.base tk lv [] sp) (hr : Room lv X.A) (tks : L2M.Takes X W) (hlen : X.mg "len" = none) (I : Inv X pins σ H s) (hF : FT X ff s) (h : tPk sp W il ib σ H Q)
    (hNl : X.N[il]? = some l) (hvl : Vis X.env.scope l) (hNb : X.N[ib]? = some b) (hvb : Vis X.env.scope b) (hg : Gl X tk) (hgl : Gl X "len") (hdt : (tk == ("__debug__" : Str)) = false) (hdl : (l == ("__debug__" : Str)) = false) (hcl : (l == ("__classdict__" : Str)) = false)
    (hdb : (b == ("__debug__" : Str)) = false) (hcb : (b == ("__classdict__" : Str)) = false)
    (hst : starEach [.Name b p3, .Call (.Name "len" p4) [.Name l p5] [] p6] X.env = [(false, eval (.Name b p3) X.env), (false, eval (.Call (.Name "len" p4) [.Name l p5] [] p6) X.env)])
    (hst1 : starEach [.Call (.Name "len" p4) [.Name l p5] [] p6] X.env = [(false, eval (.Call (.Name "len" p4) [.Name l p5] [] p6) X.env)])
    (hst2 : starEach [.Name l p5] X.env = [(false, eval (.Name l p5) X.env)])
    (hix : PlainIx (.Call (.Name tk p2) [.Name b p3, .Call (.Name "len" p4) [.Name l p5] [] p6] [] p7)) :
    wpAny (model X.prog X.w) X.A (eval (.Subscript (.Name l p1) (.Call (.Name tk p2) [.Name b p3, .Call (.Name "len" p4) [.Name l p5] [] p6] [] p7) p8) X.env)
      (fun u s' => ∃ (c : Nat) (t : Nat) (H' : Hp), u = .str (S [c]) t ∧ 1 ≤ t ∧ s.toks ≤ t ∧ t < s'.toks ∧ Inv X pins σ H' s' ∧ Q (.str (S [c])) H' ∧ FT X ff s') X.xe s := by
  obtain ⟨z, bv, e1, e2, hlim, h⟩ := tPk_e h
  obtain ⟨f, fd, ps, ds, F, hm, hk, hd, hb⟩ := F.ex
  cases hd
  refine Subscript_ (raw_name hNl hvl I e1 (fun v r => ?_) hdl hcl)
  obtain ⟨tz, rfl⟩ := r
  refine wpAny_Call_Name_kw (ld_glob I hg hm ?_ hdt)
  refine PySem.W.callWith_K (h₀ := X.base) I.ok.mod.kin hk ?_ (by rw [hst, hst1]) (by rw [hst1]; rfl)
  rw [hst]
  show wpAny _ _ (spliced ((false, eval (.Name b p3) X.env) :: backTo p7 [(false, eval (.Call (.Name "len" p4) [.Name l p5] [] p6) X.env)])) _ _ s
  refine Calls.spliced_cons (raw_name hNb hvb I e2 (fun ub rb => ?_) hdb hcb)
  show wpAny _ _ (spliced ((false, eval (.Call (.Name "len" p4) [.Name l p5] [] p6) X.env) :: backTo p7 [])) _ _ s
  refine Calls.spliced_cons ?_
  refine Call_ (ld_blt I hgl hlen boot_len ?_)
  refine PyProof.Rows.callWith_builtin1 (PyProof.Rows.args_cons (raw_name hNl hvl I e1 (fun v r => ?_) hdl hcl) (by rw [hst2]; rfl)) (by rw [hst2]; rfl) rfl
  obtain ⟨tz2, rfl⟩ := r
  refine PyProof.Rows.args_nil ?_
  have hn := line63
  have hz : z.length ≤ sizeLine := by rw [len_tl]; exact hlim
  refine len_str (by omega) ?_
  refine Calls.spliced_nil ⟨(I.tok _).kIn, ?_⟩
  have I1 : Inv X pins σ H { s with toks := s.toks + 1 + 1 } := I.tok _
  have rv : Vals [bv, .int (tl z).length] [ub, .int z.length (s.toks + 1)] := .cons rb (.cons ⟨_, by rw [len_tl]⟩ .nil)
  refine wpAny_mono (wpAny_toks_of (n := s.toks + 1 + 1) (Nat.le_refl _) (run_fnF (E := WE W) (ff := ff) (us := [ub, .int z.length (s.toks + 1)]) (vs := [bv, .int (tl z).length]) F hr hb .nil (L2M.passAt tks σ) I1 hF rv h)) (fun u s2 hq => ?_) fun _ _ z => z.2
  obtain ⟨hle, ⟨y, H2, I2, ry, q⟩, hF2⟩ := hq
  cases y with
  | int i =>
    obtain ⟨ti, rfl⟩ := ry
    obtain ⟨c, hat, q⟩ := itm_e q
    obtain ⟨j, h1, h2, h3, h4, h5⟩ := atI_get hat
    have hl : z.cps.toList.length = z.length := by simp [Str.length]
    rw [hl] at h1 h4 h5
    refine tail_any (typeIs_str s2 z tz) slot_str_getitem.lookup (getItem_str (c := c) (by
      have e1 : decide (i < -(2 ^ 63 : Int)) = false := decide_eq_false (by omega)
      have e2 : decide (i ≥ 2 ^ 63) = false := decide_eq_false (by omega)
      rw [e1, e2, Bool.or_false]) (by rw [h1]; simpa using h2) ?_) (hix _ _)
    exact ⟨c, s2.toks, H2, rfl, by omega, by omega, Nat.lt_succ_self _, I2.tok _, q, hF2⟩
  | _ => exact False.elim q
theorem store_F {M : Model} {A : Around} {E : Value → Shared → Prop} {i : Nat} {x : Str} {v : V} {u : Value} {Q : Unit → Shared → Prop} (I : Inv X pins σ H s) (hN : X.N.Nodup) (hi : X.N[i]? = some x) (hk : X.env.kindOf x = some .local) (r : RelV v u) (hF : FT X ff s) (hx : ∀ e ∈ ff, e.1 ≠ x)
    (h : ∀ s', Inv X pins (σ.set i (some v)) H s' → FT X ((x, u) :: ff) s' → s'.toks = s.toks + 1 → Q () s') : wpAny M A (storeName X.env x u) Q E s := by
  obtain ⟨m, hn, hl⟩ := id I.loc
  obtain ⟨m2, hn2, hf⟩ := hF
  have em : m2 = m := by
    obtain ⟨o, es, ep, ho, hd, _, r⟩ := hn
    obtain ⟨o2, es2, ep2, ho2, hd2, _, r2⟩ := hn2
    rw [ho] at ho2
    cases ho2
    rw [hd] at hd2
    cases hd2
    funext name
    rw [← r2 name, ← r name]
  subst em
  have hcls : (X.env.scope.kind == .class || (X.env.scope.kind == .module && X.env.locals != X.env.globals)) = false := by rw [I.ok.kind]; rfl
  have hiσ : i < σ.length := by rw [I.len]; exact (List.getElem?_eq_some_iff.mp hi).1
  have cne := I.cne
  have tracked : ∀ {a : Addr} {h' : Heap}, (∃ o, s.heap.get? a = some o ∧ H a = none) → Heap.SameBut a s.heap h' → HOk X.prog X.w H h' := fun {a h'} ha hs b ob e => by
    obtain ⟨_, _, hfree⟩ := ha
    refine (I.hok b ob e).stay (fun c w' hc q => (hs.2 c ?_).trans q) (fun _ q => q) fun _ _ q => q
    rintro rfl
    rcases hc with rfl | hc
    · rw [hfree] at e; cases e
    · rw [hfree] at hc; cases hc
  refine wpAny_storeName_local hk hn (fun h' hn' hs => ?_) hcls
  obtain ⟨oL, _, _, hoL, _⟩ := id hn
  refine h _ ⟨I.ok, I.os, I.bare, ⟨fun b o e n hb hx => ?_, fun b o e n hb hx => ?_, I.base.free, fun b o e hx => ?_, I.base.tups, I.base.frzs, I.base.tbls⟩, ⟨_, hn', fun j y v' e1 e2 e3 => ?_⟩, fun y c e => ?_, I.free, I.freeC, fun p hp => ?_, tracked ⟨oL, hoL, I.free⟩ hs, by simpa using I.len⟩ ⟨_, hn', fun e he => ?_⟩ rfl
  · exact (hs.2 b (Nat.ne_of_lt (Nat.lt_of_lt_of_le (Heap.lt_size e) I.ok.above))).trans (I.base.keep b o e n hb hx)
  · obtain ⟨sl, e1⟩ := I.base.slot b o e n hb hx
    exact ⟨sl, (hs.2 b (Nat.ne_of_lt (Nat.lt_of_lt_of_le (Heap.lt_size e) I.ok.above))).trans e1⟩
  · obtain ⟨o', e1⟩ := I.base.there b o e hx
    exact ⟨o', (hs.2 b (Nat.ne_of_lt (Nat.lt_of_lt_of_le (Heap.lt_size e) I.ok.above))).trans e1⟩
  · by_cases hj : j = i
    · subst hj
      rw [hi] at e1; cases e1
      rw [List.getElem?_set_self hiσ] at e2
      cases e2
      exact ⟨u, r, .inl ⟨hk, by simp⟩⟩
    · rw [List.getElem?_set_ne (Ne.symm hj)] at e2
      obtain ⟨u', r', q⟩ := hl j y v' e1 e2 e3
      refine ⟨u', r', ?_⟩
      rcases q with ⟨k, e⟩ | ⟨k, c, e, z⟩
      · refine .inl ⟨k, ?_⟩
        have : y ≠ x := fun e => hj (nodup_ix hN e1 (e ▸ hi))
        simp [this, e]
      · exact .inr ⟨k, c, e, z.sameBut hs (cne y c e)⟩
  · obtain ⟨w', z⟩ := I.cell y c e
    exact ⟨w', z.sameBut hs (cne y c e)⟩
  · obtain ⟨e, n, ne, nf, d⟩ := I.pin p hp
    exact ⟨(hs.2 p.1 ne).trans e, n, ne, nf, d⟩
  · rcases List.mem_cons.mp he with rfl | he
    · show (if x = x then some u else m2 x) = some u
      rw [if_pos rfl]
    · show (if e.1 = x then some u else m2 e.1) = some e.2
      rw [if_neg (hx e he)]
      exact hf e he
/-! ### texts in locals whose tokens are out and apart -/
def tokOf : Value → Nat
  | .str _ t => t
  | _ => 0
def TKs (X : Cx) (ns : List Str) (s : Shared) : Prop := ∃ ff : List (Str × Value), FT X ff s ∧ ff.map (·.1) = ns ∧ (∀ e ∈ ff, ∃ (x : Str) (t : Nat), e.2 = .str x t ∧ 1 ≤ t ∧ t < s.toks) ∧ (ff.map fun e => tokOf e.2).Nodup
structure PSsK (X : Cx) (ns : List Str) (st : List Stmt) (t : TS) : Prop where
  run : ∀ (pins : List (Addr × Obj)) (s : Shared) (σ : St) (H : Hp) (D : Ends), Inv X pins σ H s → TKs X ns s → t D σ H → wpAny (model X.prog X.w) X.A (execs st X.env) (SP X pins D) X.xe s
structure PEK (X : Cx) (ns : List Str) (e : Expr) (t : TE) : Prop where
  run : ∀ (pins : List (Addr × Obj)) (s : Shared) (σ : St) (H : Hp) (Q : VK), Inv X pins σ H s → TKs X ns s → t σ H Q → wpAny (model X.prog X.w) X.A (eval e X.env) (fun u s' => EP X pins σ Q u s' ∧ TKs X ns s') X.xe s
structure PAK (X : Cx) (ns : List Str) (es : List Expr) (t : TA) : Prop where
  run : ∀ (pos : Pos) (pins : List (Addr × Obj)) (s : Shared) (σ : St) (H : Hp) (Q : List V → Hp → Prop), Inv X pins σ H s → TKs X ns s → t σ H Q → wpAny (model X.prog X.w) X.A (spliced (backTo pos (starEach es X.env))) (fun us s' => AP X pins σ Q us s' ∧ TKs X ns s') X.xe s
theorem pssk0 {st : List Stmt} {t : TS} (h : PSsK X [] st t) : PSs X st t :=
  ⟨fun pins s σ H D I q => h.run pins s σ H D I ⟨[], FT.nil I, rfl, fun _ z => (nomatch z), .nil⟩ q⟩
theorem pak_nil {ns : List Str} : PAK X ns [] tNil := ⟨fun _ _ _ _ H Q I k h => Calls.spliced_nil ⟨⟨[], H, I, .nil, h⟩, k⟩⟩
theorem pak_cons {ns : List Str} {e : Expr} {es : List Expr} {te : TE} {t : TA} (ha : PEK X ns e te) (hr : PAK X ns es t) (hs : starEach (e :: es) X.env = (false, eval e X.env) :: starEach es X.env := by rfl) : PAK X ns (e :: es) (tCons te t) := by
  refine ⟨fun pos pins s σ H Q I k h => ?_⟩
  rw [hs]
  show wpAny _ _ (spliced ((false, eval e X.env) :: backTo pos (starEach es X.env))) _ _ s
  refine Calls.spliced_cons (thn (ha.run pins s σ H _ I k h) fun u s1 ⟨⟨x, H1, I1, r1, q1⟩, k1⟩ => ?_)
  exact thn (hr.run pos pins s1 σ H1 _ I1 k1 q1) fun us s2 ⟨⟨xs, H2, I2, r2, q2⟩, k2⟩ => ⟨⟨x :: xs, H2, I2, .cons r1 r2, q2⟩, k2⟩
/-- return (..), the items under known tokens -/
theorem pssk_rtup {ns : List Str} {es : List Expr} {x1} {t : TA} {pos pos' : Pos} (h : PAK X ns es t) : PSsK X ns [.Return (some (.Tuple es x1 pos)) pos'] (tRet (tTup t)) := by
  refine ⟨fun pins s σ H D I k q => ?_⟩
  refine wpAny_execs_cons (wpAny_Return_some ?_)
  refine wpAny_Tuple_spliced (thn (h.run pos pins s σ H _ I k q) fun us s1 ⟨⟨xs, H1, I1, r, z, q⟩, _⟩ => ⟨by rw [← r.length]; exact z, ?_⟩)
  have hf : H1 s1.heap.objs.size = none := I1.hok.fresh (Nat.le_refl _)
  refine ⟨.ref s1.heap.objs.size, σ, upd H1 s1.heap.objs.size (.tup xs), I1.laid (t' := s1.toks) (fun b u e => Heap.get?_push_of_some _ e) (Nat.le_refl _) ?_, rfl, q _ hf⟩
  exact ⟨z, us, r, ⟨_, Heap.get?_push_size _ rfl, rfl, _, rfl⟩⟩
theorem pssk_set {ns : List Str} {i : Nat} {x : Str} {e : Expr} {te : TE} {rest : List Stmt} {u : TS} {pos pos' : Pos} (hN : X.N.Nodup) (he : PEK X ns e te) (hrest : PSs X rest u) (hi : X.N[i]? = some x := by rfl) (hx : Loc X.env.scope x := by first | exact Or.inl rfl | exact Or.inr rfl)
    (hs : swapsWith e (some (.Name x pos')) pos.line X.env = pure false := by rfl) (hf : X.fn x = true ∨ X.env.scope.names.lookup x = some .local := by first | exact .inl rfl | exact .inr rfl) : PSsK X ns (.Assign [.Name x pos'] e pos :: rest) (tSeq (tAsg te (gName i)) u) := by
  refine ⟨fun pins s σ H D I k h => ?_⟩
  refine wpAny_execs_cons (wpAny_Assign_Name (thn (he.run pins s σ H _ I k h) fun v s1 ⟨⟨y, H1, I1, r1, q1⟩, _⟩ => ?_) hs)
  exact store_ok I1 hN hi hx r1 (fun s2 I2 => hrest.run pins s2 _ H1 D I2 q1) hf
theorem pssk_pk {ns : List Str} {ix il ib lv : Nat} {x l b tk : Str} {sp : Sp} {W : WX} {rest : List Stmt} {u : TS} {px pos p1 p2 p3 p4 p5 p6 p7 p8 : Pos} (hN : X.N.Nodup) (F : Fn X.prog X.w X.K X.mg X.base tk lv [] sp) (hr : Room lv X.A) (tks : L2M.Takes X W) (hlen : X.mg "len" = none) (hrest : PSsK X (x :: ns) rest u) (hxn : x ∉ ns := by decide +kernel)
    (hNx : X.N[ix]? = some x := by rfl) (hkx : X.env.kindOf x = some .local := by rfl)
    (hNl : X.N[il]? = some l := by rfl) (hvl : Vis X.env.scope l := by first | exact Or.inl rfl | exact Or.inr (Or.inl rfl) | exact Or.inr (Or.inr rfl)) (hNb : X.N[ib]? = some b := by rfl) (hvb : Vis X.env.scope b := by first | exact Or.inl rfl | exact Or.inr (Or.inl rfl) | exact Or.inr (Or.inr rfl)) (hg : Gl X tk := by rfl) (hgl : Gl X "len" := by rfl)
    (hdt : (tk == ("__debug__" : Str)) = false := by decide +kernel) (hdl : (l == ("__debug__" : Str)) = false := by decide +kernel) (hcl : (l == ("__classdict__" : Str)) = false := by decide +kernel)
    (hdb : (b == ("__debug__" : Str)) = false := by decide +kernel) (hcb : (b == ("__classdict__" : Str)) = false := by decide +kernel)
    (hst : starEach [.Name b p3, .Call (.Name "len" p4) [.Name l p5] [] p6] X.env = [(false, eval (.Name b p3) X.env), (false, eval (.Call (.Name "len" p4) [.Name l p5] [] p6) X.env)] := by rfl)
    (hst1 : starEach [.Call (.Name "len" p4) [.Name l p5] [] p6] X.env = [(false, eval (.Call (.Name "len" p4) [.Name l p5] [] p6) X.env)] := by rfl)
    (hst2 : starEach [.Name l p5] X.env = [(false, eval (.Name l p5) X.env)] := by rfl)
    (hix : PlainIx (.Call (.Name tk p2) [.Name b p3, .Call (.Name "len" p4) [.Name l p5] [] p6] [] p7) := by exact fun _ _ => rfl)
    (hs : swapsWith (.Subscript (.Name l p1) (.Call (.Name tk p2) [.Name b p3, .Call (.Name "len" p4) [.Name l p5] [] p6] [] p7) p8) (some (.Name x px)) pos.line X.env = pure false := by rfl) :
    PSsK X ns (.Assign [.Name x px] (.Subscript (.Name l p1) (.Call (.Name tk p2) [.Name b p3, .Call (.Name "len" p4) [.Name l p5] [] p6] [] p7) p8) pos :: rest) (tSeq (tAsg (tPk sp W il ib) (gName ix)) u) := by
  refine ⟨fun pins s σ H D I k h => ?_⟩
  obtain ⟨ff, hF, hns, htok, hnd⟩ := k
  have h : tPk sp W il ib σ H fun x H1 => u D (σ.set ix (some x)) H1 := h
  refine wpAny_execs_cons (wpAny_Assign_Name (thn (ev_pk F hr tks hlen I hF h hNl hvl hNb hvb hg hgl hdt hdl hcl hdb hcb hst hst1 hst2 hix) fun v s1 hv => ?_) hs)
  obtain ⟨c, t, H1, rfl, h1, h2, h3, I1, q, hF1⟩ := hv
  refine store_F (v := .str (S [c])) I1 hN hNx hkx ⟨t, rfl⟩ hF1 (fun e he z => hxn (by rw [← hns, ← z]; exact List.mem_map_of_mem he)) fun s2 I2 hF2 ht2 => ?_
  refine hrest.run pins s2 _ H1 D I2 ⟨_, hF2, by rw [List.map_cons, hns], fun e he => ?_, ?_⟩ q
  · rcases List.mem_cons.mp he with rfl | he
    · exact ⟨S [c], t, rfl, h1, by omega⟩
    · obtain ⟨x', t', e1, e2, e3⟩ := htok e he
      exact ⟨x', t', e1, e2, by omega⟩
  · rw [List.map_cons]
    refine List.nodup_cons.mpr ⟨fun hm => ?_, hnd⟩
    obtain ⟨e, he, ee⟩ := List.mem_map.mp hm
    obtain ⟨x', t', e1, e2, e3⟩ := htok e he
    rw [e1] at ee
    have ee : t' = t := ee
    omega
/-! ### x.replace(old, new) -/
def rp (c d : Nat) (l : List Nat) : List Nat := l.map fun a => if a = c then d else a
theorem replL_rp (c d : Nat) : ∀ l : List Nat, StrLaws.replL [c] [d] l = rp c d l
  | [] => StrLaws.replL_nil
  | a :: l => by
    by_cases h : a = c
    · subst h
      rw [StrLaws.replL_hit (by simp) (by simp)]
      show [d] ++ StrLaws.replL [a] [d] l = _
      rw [replL_rp a d l]
      simp [rp]
    · rw [StrLaws.replL_miss (by simp [h]), replL_rp c d l]
      simp [rp, h]
theorem repl_S (x : Str) (c d : Nat) : Txt.replace x (S [c]) (S [d]) = S (rp c d (tl x)) := by
  refine ext_tl ?_
  have e := StrLaws.replace_list (x := x) (y := S [c]) (z := S [d]) (by rw [len_tl]; exact Nat.le_refl 1)
  exact e.trans (replL_rp c d (tl x))
def tRp (ix io iw : Nat) : TE := fun σ H Q => match σ[ix]? with
  | some (some (.str x)) => (match σ[io]? with
    | some (some (.str y)) => (match σ[iw]? with
      | some (some (.str z)) => (match tl y with
        | [c] => (match tl z with
          | [d] => c ≠ d ∧ (tl x).length ≤ 1000000 ∧ Q (.str (S (rp c d (tl x)))) H
          | _ => False)
        | _ => False)
      | _ => False)
    | _ => False)
  | _ => False
theorem tRp_e {ix io iw : Nat} {Q : VK} (h : tRp ix io iw σ H Q) : ∃ x c d, σ[ix]? = some (some (.str x)) ∧ σ[io]? = some (some (.str (S [c]))) ∧ σ[iw]? = some (some (.str (S [d]))) ∧ c ≠ d ∧ (tl x).length ≤ 1000000 ∧ Q (.str (S (rp c d (tl x)))) H := by
  unfold tRp at h
  split at h
  · rename_i x e1
    split at h
    · rename_i y e2
      split at h
      · rename_i z e3
        split at h
        · rename_i c ey
          split at h
          · rename_i d ez
            exact ⟨x, c, d, e1, by rw [e2, ← S_tl y, ey], by rw [e3, ← S_tl z, ez], h⟩
          · exact h.elim
        · exact h.elim
      · exact h.elim
    · exact h.elim
  · exact h.elim
theorem ns_uniq {m m2 : Str → Option Value} {h : Heap} {a : Addr} (hn : h.Ns a m) (hn2 : h.Ns a m2) : m2 = m := by
  obtain ⟨o, es, ep, ho, hd, _, r⟩ := hn
  obtain ⟨o2, es2, ep2, ho2, hd2, _, r2⟩ := hn2
  rw [ho] at ho2
  cases ho2
  rw [hd] at hd2
  cases hd2
  funext name
  rw [← r2 name, ← r name]
/-- a local's text: its token is known -/
theorem tk_name {ns : List Str} {ff : List (Str × Value)} {i : Nat} {x : Str} {y : Str} {pos : Pos} {Q E : Value → Shared → Prop} (hF : FT X ff s) (hns : ff.map (·.1) = ns) (htok : ∀ e ∈ ff, ∃ (x : Str) (t : Nat), e.2 = .str x t ∧ 1 ≤ t ∧ t < s.toks) (hx : x ∈ ns)
    (hN : X.N[i]? = some x) (hk : X.env.kindOf x = some .local) (I : Inv X pins σ H s) (hσ : σ[i]? = some (some (.str y))) (fin : ∀ t : Nat, 1 ≤ t → t < s.toks → (x, Value.str y t) ∈ ff → Q (.str y t) s)
    (hd : (x == ("__debug__" : Str)) = false) : wpAny (model X.prog X.w) X.A (eval (.Name x pos) X.env) Q E s := by
  obtain ⟨m, hn, hl⟩ := I.loc
  obtain ⟨u, ⟨t0, rfl⟩, l⟩ := hl i x _ hN hσ (.inl hk)
  obtain ⟨m2, hn2, hf⟩ := hF
  obtain rfl := ns_uniq hn hn2
  rw [← hns] at hx
  obtain ⟨e, he, rfl⟩ := List.mem_map.mp hx
  obtain ⟨y', t, e1, e2, e3⟩ := htok e he
  rcases l with ⟨_, hm⟩ | ⟨hk', _⟩
  · have hm2 := hf e he
    rw [hm] at hm2
    have e4 : e.2 = .str y t0 := (Option.some.inj hm2).symm
    rw [e4] at e1
    cases e1
    exact wpAny_Name (wpAny_loadName_local I.ok.kind hk hn2 hm (fin t0 e2 e3 (by rw [← e4]; exact he))) hd
  · rw [hk] at hk'
    rcases hk' with z | z <;> cases z
theorem pek_repl {ns : List Str} {ix io iw : Nat} {x o w' : Str} {p1 p2 p3 apos pos : Pos} (hNx : X.N[ix]? = some x := by rfl) (hvx : Vis X.env.scope x := by first | exact Or.inl rfl | exact Or.inr (Or.inl rfl) | exact Or.inr (Or.inr rfl)) (hNo : X.N[io]? = some o := by rfl) (hko : X.env.kindOf o = some .local := by rfl) (hNw : X.N[iw]? = some w' := by rfl) (hkw : X.env.kindOf w' = some .local := by rfl)
    (ho : o ∈ ns := by decide +kernel) (hw : w' ∈ ns := by decide +kernel) (hne : o ≠ w' := by decide +kernel) (hdx : (x == ("__debug__" : Str)) = false := by decide +kernel) (hcx : (x == ("__classdict__" : Str)) = false := by decide +kernel) (hdo : (o == ("__debug__" : Str)) = false := by decide +kernel) (hdw : (w' == ("__debug__" : Str)) = false := by decide +kernel)
    (hst : starEach [.Name o p2, .Name w' p3] X.env = [(false, eval (.Name o p2) X.env), (false, eval (.Name w' p3) X.env)] := by rfl)
    (hbase : attributeBase (.Name x p1) "replace" X.env (eval (.Name x p1) X.env) = eval (.Name x p1) X.env := by rfl) (hline : (apos.endLine == pos.line) = true := by rfl) :
    PEK X ns (.Call (.Attribute (.Name x p1) "replace" apos) [.Name o p2, .Name w' p3] [] pos) (tRp ix io iw) := by
  refine ⟨fun pins s σ H Q I k h => ?_⟩
  obtain ⟨z, c, d, e1, e2, e3, hcd, hb, q⟩ := tRp_e h
  obtain ⟨ff, hF, hns, htok, hnd⟩ := k
  refine wpAny_mono (wpAny_toks (Q := fun u s' => EP X pins σ Q u s' ∧ ∃ k : Nat, s' = { s with toks := k }) (PySem.Call_method2 hbase hst hline (raw_name hNx hvx I e1 (fun v r => ?_) hdx hcx))) (fun u s' hq => ?_) fun _ _ z => z.2
  · obtain ⟨tx, rfl⟩ := r
    refine ⟨"str", _, F.plainAttrs_str, F.slot_str_replace, F.type_str_replace, typeIs_str _ _ _, (fun _ e => nomatch e), Calls.callWith_builtin rfl (Calls.evalArgs_plain (Calls.spliced_cons ?_))⟩
    refine tk_name hF hns htok ho hNo hko I e2 (fun t h1 h2 hm1 => ?_) hdo
    refine Calls.spliced_cons (tk_name hF hns htok hw hNw hkw I e3 (fun t2 h3 h4 hm2 => ?_) hdw)
    refine Calls.spliced_nil ?_
    have hneq : t ≠ t2 := fun et => by
      obtain ⟨i, hi, ei⟩ := List.mem_iff_getElem.mp hm1
      obtain ⟨j, hj, ej⟩ := List.mem_iff_getElem.mp hm2
      have eij : i = j := by
        have hi' : i < (ff.map fun e => tokOf e.2).length := by rw [List.length_map]; exact hi
        have hj' : j < (ff.map fun e => tokOf e.2).length := by rw [List.length_map]; exact hj
        refine (List.getElem_inj hnd (h₀ := hi') (h₁ := hj')).mp ?_
        rw [List.getElem_map, List.getElem_map, ei, ej]
        exact et
      subst eij
      rw [ei] at ej
      exact hne (congrArg Prod.fst ej)
    refine PySem.SC.replace (show t ≠ (0 : Nat) from by omega) (show t2 ≠ (0 : Nat) from by omega) hneq (by simp only [beq_eq_false_iff_ne]; exact fun z => hcd (S1_inj _ _ z)) (by
      have : (S [d]).length = 1 := by rw [len_tl]; rfl
      rw [this, len_tl]; omega) fun t' k => ⟨⟨.str (S (rp c d (tl z))), H, I.tok k, ⟨t', by rw [repl_S]⟩, q⟩, k, rfl⟩
  · obtain ⟨hle, he, k, rfl⟩ := hq
    exact ⟨he, ff, hF, hns, fun e he => (let ⟨x, t, a, b, c⟩ := htok e he; ⟨x, t, a, b, Nat.lt_of_lt_of_le c hle⟩), hnd⟩
end
end Ta

set_option Elab.async false
set_option linter.all false
set_option maxRecDepth 100000
set_option maxHeartbeats 1000000
namespace Ta
open PySem PySem.Spec PyProof.Rows L2 He

/-! ### facts of the written part as Bools -/
abbrev BF := PySem.W.Frag → Bool
def bFree (x : Str) : BF := fun K => (Fa.free x).ok K
def bGlo (x : Str) : BF := fun K => (Fa.glo x).ok K
def bVal (x : Str) (v : V) : BF := fun K => match PySem.W.nsIn K mainGlobals x with
  | some (some u) => relB v u
  | _ => false
def bCls (x : Str) : BF := fun K => (Fa.cls x).ok K
def bNo (x f : Str) : BF := fun K => (Fa.noat x f).ok K
def bMe (x m : Str) : BF := fun K => (Fa.meth x m).ok K
def bMk (x : Str) : BF := fun K => (Fa.mkr x).ok K
def bExm (x y : Str) (b : Bool) : BF := fun K => (Fa.exm x y b).ok K
def bExmT (x : Str) (y : String) (b : Bool) : BF := fun K => decide (PySem.W.exmOne K (.ref (ga K x)) (.type y) = some b)
def bKit (x y : Str) (b : Bool) : BF := fun K => decide (PySem.W.kitOne K (.ref (ga K x)) (.ref (ga K y)) = some b)
def bKitT (x : Str) (y : String) (b : Bool) : BF := fun K => decide (PySem.W.kitOne K (.ref (ga K x)) (.type y) = some b)
def bKitA (x : Str) (ys : List Str) (b : Bool) : BF := fun K => decide (PySem.W.kitAny K (.ref (ga K x)) (ys.map fun y => .ref (ga K y)) = some b)
def bTKit (x : String) (y : Str) (b : Bool) : BF := fun K => decide (PySem.W.kitOne K (.type x) (.ref (ga K y)) = some b)
def bIsc (x : Str) : BF := fun K => (Fa.cls x).ok K && (eqO (PySem.W.findIn K (.ref (ga K x)) "__class__") (some (some (.builtin "object.__class__"))) &&
  (eqO (PySem.W.specialIn K (.builtin "object.__class__") "__get__") (some (some (.builtin "getset_descriptor.__get__"))) && (decide (PySem.W.takesIn K (.builtin "object.__class__") = some true) && decide (PySem.W.mroIn K (ga K x) (.type "object") = some true))))
def bXc (x : Str) : BF := fun K => xfB K (ga K x) && (eqO (PySem.W.findIn K (.ref (ga K x)) "__class__") (some (some (.builtin "object.__class__"))) &&
  (eqO (PySem.W.specialIn K (.builtin "object.__class__") "__get__") (some (some (.builtin "getset_descriptor.__get__"))) && (decide (PySem.W.takesIn K (.builtin "object.__class__") = some true) && decide (PySem.W.mroIn K (ga K x) (.type "object") = some true))))
def bCC (x f : Str) (v : V) : BF := fun K => (Fa.glo x).ok K && (PySem.W.readsIn K (ga K x) (.type "type") && (eqO (PySem.W.specialIn K (.ref (ga K x)) "__getattribute__") (some (some (.builtin "type.__getattribute__"))) &&
  (match PySem.W.findCls K (.ref (ga K x)) (.type "type") f with
    | some (.val u) => relB v u
    | _ => false)))
def bCon (x f : Str) (v : V) : BF := fun K => !PySem.W.copiedNames.contains f && (match PySem.W.findIn K (.ref (ga K x)) f with
  | some (some u) => relB v u && eqO (PySem.W.specialIn K u "__get__") (some none)
  | _ => false)
/-- no list of the written part holds whole numbers alone -/
def bNoL : BF := fun K => K.all fun e => match e.2 with
  | ⟨.type t, _, .seq its _, _⟩ => !decide (t = "list") || its.toList.any fun v => match v with
    | .int _ _ => false
    | _ => true
  | _ => true
def oexB (K : PySem.W.Frag) (C : Addr) : Bool := match K.lookup C with
  | some ⟨.type t, _, .cls cd, sl⟩ => decide (t = "type") && (match cd.mro, sl.toList with
    | .ref c :: bm, [_, _, _, _, some (.builtin i), _] => decide (c = C) && (PySem.HandSPX.refsVE bm && (decide (i = "ValueError.__new__") && (cd.hasDict && !cd.hasDel)))
    | _, _ => false)
  | _ => false
def bOex (x : Str) : BF := fun K => oexB K (ga K x) && (eqO (PySem.W.findIn K (.ref (ga K x)) "__setattr__") (some (some (.builtin "object.__setattr__"))) && (decide (PySem.W.subIn K (.ref (ga K x)) (.type "BaseException") = some true) &&
  (decide (PySem.W.typeIn K (.ref (ga K x)) = some (.type "type")) && PySem.W.keepIn K (.ref (ga K x)))))
/-- class x, its __init__ of class y -/
def bSup (x y : Str) : BF := fun K => decide (PySem.W.mroIn K (ga K x) (.ref (ga K y)) = some true) && (eqO (PySem.W.ks_superIn K (ga K x) (ga K y) "__init__") (some (some (.builtin "ValueError.__init__"))) &&
  (decide (PySem.W.subIn K (.ref (ga K x)) (.type "ValueError") = some true) && (eqO (PySem.W.nsIn K cStatics "thirdparty.any") (some none) &&
  (eqO (PySem.W.findIn K (.ref (ga K x)) "__init__") (some (some (.ref (ma K (ga K y) "__init__")))) && decide (PySem.W.typeIn K (.ref (ma K (ga K y) "__init__")) = some (.type "function"))))))
section
variable {K : PySem.W.Frag} {h : Heap} {mg : Str → Option Value} {x y f : Str} {v : V}
theorem free_of (X : K.In h) (G : h.Ns mainGlobals mg) (c : bFree x K = true) : mg x = none := He.free_ok X G c
theorem glo_of (X : K.In h) (G : h.Ns mainGlobals mg) (c : bGlo x K = true) : mg x = some (.ref (ga K x)) := He.glo_ok X G c
theorem gv_of (X : K.In h) (G : h.Ns mainGlobals mg) (c : bGlo x K = true) : GlobV mg x (.ref (ga K x)) := ⟨_, glo_of X G c, rfl⟩
theorem val_of (X : K.In h) (G : h.Ns mainGlobals mg) (c : bVal x v K = true) : GlobV mg x v := by
  unfold bVal at c
  split at c
  · rename_i u e
    exact ⟨u, PySem.W.mg_of X G e, relB_ok c⟩
  · cases c
theorem cls_of (c : bCls x K = true) : Cls K (ga K x) := He.cls_ok c
theorem no_of (c : bNo x f K = true) : NoAttr K (ga K x) f := He.noat_ok c
theorem no_of' (c : bNo x f K = true) : PySem.W.findIn K (.ref (ga K x)) f = some none := He.noat_ok c
theorem me_of (c : bMe x f K = true) : Meth K (ga K x) f (ma K (ga K x) f) := He.meth_ok c
theorem mk_of (c : bMk x K = true) : Mk K (ga K x) (ma K (ga K x) "__init__") := He.mkr_ok c
theorem exm_of {b : Bool} (c : bExm x y b K = true) : PySem.W.exmOne K (.ref (ga K x)) (.ref (ga K y)) = some b := He.exm_ok c
theorem exmT_of {b : Bool} {y : String} (c : bExmT x y b K = true) : PySem.W.exmOne K (.ref (ga K x)) (.type y) = some b := of_decide_eq_true c
theorem kit_of {b : Bool} (c : bKit x y b K = true) : PySem.W.kitOne K (.ref (ga K x)) (.ref (ga K y)) = some b := of_decide_eq_true c
theorem kitT_of {b : Bool} {y : String} (c : bKitT x y b K = true) : PySem.W.kitOne K (.ref (ga K x)) (.type y) = some b := of_decide_eq_true c
theorem tkit_of {b : Bool} {x : String} (c : bTKit x y b K = true) : PySem.W.kitOne K (.type x) (.ref (ga K y)) = some b := of_decide_eq_true c
theorem kitA_of {b : Bool} {ys : List Str} (c : bKitA x ys b K = true) : PySem.W.kitAny K (.ref (ga K x)) (ys.map fun y => .ref (ga K y)) = some b := of_decide_eq_true c
theorem isc_of (c : bIsc x K = true) : IsC K (ga K x) := by
  obtain ⟨c1, c⟩ := He.ba c
  obtain ⟨c2, c⟩ := He.ba c
  obtain ⟨c3, c⟩ := He.ba c
  obtain ⟨c4, c5⟩ := He.ba c
  exact ⟨fun H a dx fs e => .ins e (cls_of c1) (eqO_ok c2) (eqO_ok c3) (of_decide_eq_true c4) (of_decide_eq_true c5)⟩
theorem xc_of (c : bXc x K = true) : XC K (ga K x) := by
  obtain ⟨c1, c⟩ := He.ba c
  obtain ⟨c2, c⟩ := He.ba c
  obtain ⟨c3, c⟩ := He.ba c
  obtain ⟨c4, c5⟩ := He.ba c
  have q := xfB_ok c1
  exact ⟨q, ⟨q.ga, q.gg, q.exC, q.hdC, eqO_ok c2, eqO_ok c3, of_decide_eq_true c4, of_decide_eq_true c5⟩⟩
theorem cc_of (X : K.In h) (G : h.Ns mainGlobals mg) (c : bCC x f v K = true) : ClsConst K mg x f v := by
  obtain ⟨c1, c⟩ := He.ba c
  obtain ⟨c2, c⟩ := He.ba c
  obtain ⟨c3, c⟩ := He.ba c
  split at c
  · rename_i u e
    exact ⟨_, _, u, He.glo_ok X G c1, ⟨c2, eqO_ok c3⟩, ⟨e, relB_ok c⟩⟩
  · cases c
theorem con_of (c : bCon x f v K = true) : ∃ u, Con K (ga K x) f v u := by
  obtain ⟨c1, c⟩ := He.ba c
  split at c
  · rename_i u e
    obtain ⟨c2, c3⟩ := He.ba c
    exact ⟨u, e, relB_ok c2, eqO_ok c3, by simpa using c1⟩
  · cases c
theorem oexB_ok {C : Addr} (c : oexB K C = true) : ∃ nm q N bs bm sn sub ab col dd k0 k1 k2 k3 k5, K.lookup C = some (excClassObj nm q C N bs bm true sn sub ab col dd k0 k1 k2 k3 k5 "ValueError.__new__") ∧ PySem.HandSPX.refsVE bm = true := by
  unfold oexB at c
  split at c
  · rename_i t dd cd sl e
    obtain ⟨c1, c⟩ := He.ba c
    have c1 := of_decide_eq_true c1
    subst c1
    split at c
    · rename_i cc bm k0 k1 k2 k3 i k5 e1 e2
      obtain ⟨_, c⟩ := He.ba c
      obtain ⟨c2, c⟩ := He.ba c
      obtain ⟨c3, c⟩ := He.ba c
      obtain ⟨c4, c⟩ := He.ba c
      obtain ⟨c5, c6⟩ := He.ba c
      have c2 := of_decide_eq_true c2
      have c4 := of_decide_eq_true c4
      subst c2 c4
      obtain ⟨m1, m2, m3, m4, m5, m6, m7, m8, m9, m10, m11⟩ := cd
      obtain ⟨sl⟩ := sl
      simp only at e1 e2 c5 c6
      simp only [Bool.not_eq_true'] at c6
      subst e1 e2 c5 c6
      exact ⟨_, _, _, _, bm, _, _, _, _, _, k0, k1, k2, k3, k5, e, c3⟩
    · cases c
  · cases c
theorem oex_of (c : bOex x K = true) : OexC K (ga K x) := by
  obtain ⟨c1, c⟩ := He.ba c
  obtain ⟨c2, c⟩ := He.ba c
  obtain ⟨c3, c⟩ := He.ba c
  obtain ⟨c4, c5⟩ := He.ba c
  exact ⟨oexB_ok c1, eqO_ok c2, of_decide_eq_true c3, of_decide_eq_true c4, c5⟩
theorem sup_of (o : bOex x K = true) (c : bSup x y K = true) : SupExc K (ga K x) (ga K y) ∧ PySem.W.findIn K (.ref (ga K x)) "__init__" = some (some (.ref (ma K (ga K y) "__init__"))) ∧ PySem.W.typeIn K (.ref (ma K (ga K y) "__init__")) = some (.type "function") := by
  obtain ⟨c1, c⟩ := He.ba c
  obtain ⟨c2, c⟩ := He.ba c
  obtain ⟨c3, c⟩ := He.ba c
  obtain ⟨c4, c⟩ := He.ba c
  obtain ⟨c5, c6⟩ := He.ba c
  exact ⟨⟨oex_of o, of_decide_eq_true c1, eqO_ok c2, of_decide_eq_true c3, eqO_ok c4⟩, eqO_ok c5, of_decide_eq_true c6⟩
theorem vals_int : ∀ {ns : List Int} {us : List Value}, Vals (ns.map V.int) us → (us.any fun v => match v with
      | .int _ _ => false
      | _ => true) = false
  | [], _, .nil => rfl
  | n :: ns, _, .cons r t => by
    obtain ⟨k, rfl⟩ := r
    rw [List.any_cons, vals_int t]
    rfl
theorem scr_of {H : Hp} {a : Addr} {ns : List Int} (c : bNoL K = true) (hO : Only H) (hS : SqL K H a (ns.map V.int)) : ∃ ob, H a = some (.frz ob (.lst (ns.map V.int))) := by
  rcases hS with (hS | ⟨ob, hS⟩) | ⟨o, its, n, lk, o1, o2, o3, o4, o5⟩
  · rcases hO a with z | ⟨ob, xs, z⟩
    · rw [hS] at z; cases z
    · rw [hS] at z; cases z
  · exact ⟨ob, hS⟩
  · exfalso
    obtain ⟨oc, od, dt, sl⟩ := o
    simp only at o1 o2 o3
    subst o1 o2 o3
    have hm : (a, (⟨.type "list", none, .seq its n, sl⟩ : Obj)) ∈ K := by
      clear c o5 o4
      induction K with
      | nil => cases lk
      | cons e K ih =>
        obtain ⟨b, u⟩ := e
        rw [List.lookup_cons] at lk
        split at lk
        · rename_i hb
          have hb := eq_of_beq hb
          cases lk
          subst hb
          exact List.mem_cons_self
        · exact List.mem_cons_of_mem _ (ih lk)
    have q := List.all_eq_true.mp c _ hm
    have q : (!decide ("list" = "list") || its.toList.any fun v => match v with
      | .int _ _ => false
      | _ => true) = true := q
    rw [vals_int o5, Bool.or_false] at q
    simp at q
end

/-! ### a def that says super(), the Hook -/
abbrev FnS : Type := Option (Str × Str × Arguments × FuncBody × Scope × Addr × List Str × Addr)
structure SupD where
  cls : Str
  name : Str
  qual : Str
  params : Arguments
  body : List Stmt
  scope : Scope
def SupD.at_ (K : PySem.W.Frag) (d : SupD) : Addr := ma K (ga K d.cls) d.name
def fnS (K : PySem.W.Frag) (f : Addr) : FnS := match K.lookup f with
  | some ⟨_, _, .func fd, _⟩ => some (fd.name, fd.qualname, fd.params, fd.body, fd.scope, fd.globals, fd.closure.map (·.1), fd.builtins)
  | _ => none
def SupD.val (d : SupD) : FnS := some (d.name, d.qual, d.params, .stmts d.body, d.scope, mainGlobals, ["__class__"], builtinsNs)
def SupD.ok (file : Str) (K : PySem.W.Frag) (d : SupD) : Bool := PySem.W.keepIn K (.ref (d.at_ K)) && (match K.lookup (d.at_ K) with
  | some ⟨_, _, .func fd, _⟩ => (match fd.closure with
    | [(_, cc)] => (match K.lookup cc with
      | some ⟨_, _, .cell (some (.ref D)), _⟩ => decide (D = ga K d.cls)
      | _ => false)
    | _ => false) && ((match fd.defaults with
      | .none => true
      | _ => false) && ((PySem.W.clsIn K (ga K d.cls)).isSome && (match fd.code with
    | .ref c => PySem.W.codeIn K (.ref c) d.qual && (match K.lookup c with
      | some ⟨_, _, .fields vs, _⟩ => (match (vs[2]? : Option Value) with
        | some (.str fl _) => (file == fl)
        | _ => false)
      | _ => false)
    | _ => false)))
  | _ => false)
theorem SupD.fn {P : Program} {K : PySem.W.Frag} {d : SupD} (e : fnS K (d.at_ K) = d.val) (c : d.ok P.main.file K = true) (top : (P.main.scope.names.lookup ("super" : Str)).isSome = false) :
    ∃ (F : NdefX.NF) (fd : FuncData), F.name = d.name ∧ F.qual = d.qual ∧ F.params = d.params ∧ F.body = d.body ∧ F.scope = d.scope ∧ SupFn P K (d.at_ K) F (ga K d.cls) [] fd := by
  obtain ⟨kp, c2⟩ := He.ba c
  unfold fnS at e
  cases q : K.lookup (d.at_ K) with
  | none => rw [q] at c2; cases c2
  | some o =>
    obtain ⟨oc, od, dt, osl⟩ := o
    rw [q] at c2 e
    cases dt with
    | func fd =>
      obtain ⟨n1, n2, n3, n4, n5, n6, n7, n8, n9, n10, n11, n12, n13, n14, n15⟩ := fd
      have e2 : (some (n1, n2, n3, n4, n5, n6, n7.map (·.1), n15) : FnS) = (some (d.name, d.qual, d.params, FuncBody.stmts d.body, d.scope, mainGlobals, ["__class__"], builtinsNs) : FnS) := e
      simp only [Option.some.injEq, Prod.mk.injEq] at e2
      obtain ⟨h1, h2, h3, h4, h5, h6, h7, h8⟩ := e2
      obtain ⟨k1, c3⟩ := He.ba c2
      obtain ⟨k2, c4⟩ := He.ba c3
      obtain ⟨k3, k4⟩ := He.ba c4
      clear c4 c3 c2 e c
      obtain _ | ⟨⟨xc, cc⟩, _ | ⟨b, r⟩⟩ := n7
      · cases h7
      · simp only [List.map_cons, List.map_nil, List.cons.injEq, and_true] at h7
        subst h7
        simp only at k1 k2 k4
        split at k1
        · rename_i c1 c2 D c3 hc
          have k1' := of_decide_eq_true k1
          clear k1
          split at k2
          · split at k4
            · rename_i c
              obtain ⟨k5, k6⟩ := He.ba k4
              clear k4 k2
              split at k6
              · rename_i a1 a2 vs a3 hcc
                split at k6
                · rename_i fl tf hvs
                  subst h1 h2 h3 h4 h5 h6 h8
                  obtain ⟨cdD, hcd⟩ := Option.isSome_iff_exists.mp k3
                  subst k1'
                  exact ⟨⟨d.name, d.qual, d.params, d.body, d.scope, [("__class__", cc)], _⟩, _, rfl, rfl, rfl, rfl, rfl, ⟨⟨cc, oc, od, _, _, _, _, _, _, osl, rfl, rfl, q, .inl ⟨rfl, rfl⟩, _, _, _, hc⟩, k5, ⟨_, _, vs, _, fl, tf, hcc, hvs, k6⟩, ⟨cdD, hcd⟩, top, kp⟩⟩
                · cases k6
              · cases k6
            · cases k4
          · cases k2
        · cases k1
      · cases h7
    | _ => cases c2
/-! ### a def, wherever it stands -/
structure XD where
  at_ : PySem.W.Frag → Addr
  name : Str
  qual : Str
  params : Arguments
  body : List Stmt
  scope : Scope
  dfl : List Dv := []
  kwd : List (Str × Dv) := []
def XD.val (d : XD) : FnS := some (d.name, d.qual, d.params, .stmts d.body, d.scope, mainGlobals, ([] : List Str), builtinsNs)
def XD.vs (K : PySem.W.Frag) (d : XD) : List V := d.dfl.map fun z => Dv.v K z
def XD.ks (K : PySem.W.Frag) (d : XD) : List (Str × V) := d.kwd.map fun z => (z.1, z.2.v K)
def XD.ok (K : PySem.W.Frag) (d : XD) : Bool := PySem.W.keepIn K (.ref (d.at_ K)) && (match K.lookup (d.at_ K) with
  | some ⟨_, _, .func fd, _⟩ => dflB K fd.defaults (d.vs K) && (kwdB K fd.kwdefaults (d.ks K) && PySem.W.codeIn K fd.code d.qual)
  | _ => false)
theorem XD.fn {K : PySem.W.Frag} {d : XD} (e : fnS K (d.at_ K) = d.val) (c : d.ok K = true) : ∃ fd, FunD K d.name d.qual d.params d.body d.scope (d.vs K) (d.ks K) (d.at_ K) fd := by
  obtain ⟨kp, c1⟩ := He.ba c
  unfold fnS at e
  cases lk : K.lookup (d.at_ K) with
  | none => rw [lk] at c1; cases c1
  | some o =>
    obtain ⟨o1, o2, dt, o4⟩ := o
    rw [lk] at c1 e
    cases dt with
    | func fd =>
      obtain ⟨m1, m2, m3, m4, m5, m6, m7, m8, m9, m10, m11, m12, m13, m14, m15⟩ := fd
      have e2 : (some (m1, m2, m3, m4, m5, m6, m7.map (·.1), m15) : FnS) = (some (d.name, d.qual, d.params, FuncBody.stmts d.body, d.scope, mainGlobals, ([] : List Str), builtinsNs) : FnS) := e
      simp only [Option.some.injEq, Prod.mk.injEq] at e2
      obtain ⟨z1, z2, z3, z4, z5, z6, z7, z8⟩ := e2
      obtain ⟨y1, y2⟩ := He.ba c1
      obtain ⟨y3, y4⟩ := He.ba y2
      have z7 : m7 = [] := List.map_eq_nil_iff.mp z7
      subst z1 z2 z3 z4 z5 z6 z7 z8
      exact ⟨_, ⟨o1, o2, m8, m9, m10, m11, m12, m13, m14, o4, rfl, lk, y4, dflB_ok y1, kwdB_ok y3⟩, kp⟩
    | _ => cases c1
/-- a property's getter -/
def prA (K : PySem.W.Frag) (C : Addr) (f : Str) : Addr := match PySem.W.recIn K (ma K C f) "property" with
  | some (.ref g :: _) => g
  | _ => 0
def bPrp (x f : Str) : BF := fun K => eqO (PySem.W.findIn K (.ref (ga K x)) f) (some (some (.ref (ma K (ga K x) f)))) && (eqO (PySem.W.specialIn K (.ref (ma K (ga K x) f)) "__get__") (some (some (.builtin "property.__get__"))) &&
  (decide (PySem.W.takesIn K (.ref (ma K (ga K x) f)) = some true) && (match PySem.W.recIn K (ma K (ga K x) f) "property" with
    | some (.ref _ :: _) => true
    | _ => false)))
theorem prp_of {K : PySem.W.Frag} {x f : Str} (c : bPrp x f K = true) : PropOf K (ga K x) f (ma K (ga K x) f) (prA K (ga K x) f) := by
  obtain ⟨c1, c⟩ := He.ba c
  obtain ⟨c2, c⟩ := He.ba c
  obtain ⟨c3, c4⟩ := He.ba c
  refine ⟨eqO_ok c1, eqO_ok c2, of_decide_eq_true c3, ?_⟩
  split at c4
  · rename_i g r e
    refine ⟨r, ?_⟩
    unfold prA
    rw [e]
  · cases c4
abbrev AlX : Type := Bool × List FnS × List FnS
def obsX (file : Str) (fa : List BF) (fn : List XD) (sn : List SupD) (K : PySem.W.Frag) : AlX := ((fa.all fun f => f K) && (fn.all (fun d => d.ok K) && sn.all fun d => d.ok file K), fn.map (fun d => fnS K (d.at_ K)), sn.map fun d => fnS K (d.at_ K))
def valX (fn : List XD) (sn : List SupD) : AlX := (true, fn.map XD.val, sn.map SupD.val)
def SaysX (file : Str) (fa : List BF) (fn : List XD) (sn : List SupD) (K : PySem.W.Frag) : Prop := obsX file fa fn sn K = valX fn sn
def asX (g : Addr → Option Obj) (n : Nat) : List Addr := asD g n ++ [cStatics]
def obsXG (n : Nat) (file : Str) (fa : List BF) (fn : List XD) (sn : List SupD) (g : Addr → Option Obj) : AlX := obsX file fa fn sn (frG g (asX g n))
def hookX (n : Nat) (file : Str) (fa : List BF) (fn : List XD) (sn : List SupD) : PySem.W.Hook where
  α := AlX
  obs := fun s => obsXG n file fa fn sn s.heap.get?
  val := fun _ => valX fn sn
  says := fun _ h => ∃ K : PySem.W.Frag, K.In h ∧ SaysX file fa fn sn K
  of := fun _ _ e => ⟨_, frG_in, e⟩
  keeps := fun _ _ _ ⟨K, hK, c⟩ k => ⟨K, PySem.W.Frag.In.keeps hK k, c⟩
theorem obsXG_eq {n : Nat} {file : Str} {fa : List BF} {fn : List XD} {sn : List SupD} {g : Addr → Option Obj} {s : Shared} (h : ∀ a, g a = s.heap.get? a) : obsXG n file fa fn sn g = (hookX n file fa fn sn).obs s := by
  have e : g = s.heap.get? := funext h
  rw [e] <;> rfl
section
variable {file : Str} {fa : List BF} {fn : List XD} {sn : List SupD} {K : PySem.W.Frag}
theorem SaysX.fact (c : SaysX file fa fn sn K) (i : Nat) {f : BF} (h : fa[i]? = some f := by rfl) : f K = true := by
  have c1 := (He.ba (show ((fa.all fun f => f K) && (fn.all (fun d => d.ok K) && sn.all fun d => d.ok file K)) = true from congrArg (fun z : AlX => z.1) c)).1
  exact List.all_eq_true.mp c1 f (List.mem_of_getElem? h)
theorem SaysX.def_ (c : SaysX file fa fn sn K) (i : Nat) {d : XD} (h : fn[i]? = some d := by rfl) : ∃ fd, FunD K d.name d.qual d.params d.body d.scope (d.vs K) (d.ks K) (d.at_ K) fd := by
  have c2 := (He.ba (He.ba (show ((fa.all fun f => f K) && (fn.all (fun d => d.ok K) && sn.all fun d => d.ok file K)) = true from congrArg (fun z : AlX => z.1) c)).2).1
  have e : fn.map (fun d => fnS K (d.at_ K)) = fn.map XD.val := congrArg (fun z : AlX => z.2.1) c
  have e2 : (fn.map fun d => fnS K (d.at_ K))[i]? = (fn.map XD.val)[i]? := by rw [e]
  rw [List.getElem?_map, List.getElem?_map, h] at e2
  exact XD.fn (Option.some.inj e2) (List.all_eq_true.mp c2 d (List.mem_of_getElem? h))
theorem SaysX.sup {P : Program} (c : SaysX P.main.file fa fn sn K) (i : Nat) (top : (P.main.scope.names.lookup ("super" : Str)).isSome = false) {d : SupD} (h : sn[i]? = some d := by rfl) :
    ∃ (F : NdefX.NF) (fd : FuncData), F.name = d.name ∧ F.qual = d.qual ∧ F.params = d.params ∧ F.body = d.body ∧ F.scope = d.scope ∧ SupFn P K (d.at_ K) F (ga K d.cls) [] fd := by
  have c2 := (He.ba (He.ba (show ((fa.all fun f => f K) && (fn.all (fun d => d.ok K) && sn.all fun d => d.ok P.main.file K)) = true from congrArg (fun z : AlX => z.1) c)).2).2
  have e : sn.map (fun d => fnS K (d.at_ K)) = sn.map SupD.val := congrArg (fun z : AlX => z.2.2) c
  have e2 : (sn.map fun d => fnS K (d.at_ K))[i]? = (sn.map SupD.val)[i]? := by rw [e]
  rw [List.getElem?_map, List.getElem?_map, h] at e2
  exact SupD.fn (Option.some.inj e2) (List.all_eq_true.mp c2 d (List.mem_of_getElem? h)) top
end
/-- a law's end -/
theorem walk_ofX {l : PySem.W.OpenLaw} {n k : Nat} {q : Program} {loose : List Str} {XP : (Str → Option Value) → Heap → Prop} {YP : World → Heap → Prop} {d : DefRec} {x : Str}
    (hn : l.most = some n) (hn2 : n ≤ sizeLine) (hdf : d.params.defaults = []) (hr : Room k callerA)
    (F : ∀ (w : World) (mg : Str → Option Value) (fa : Addr) (h : Heap), YP w h → h.Ns mainGlobals mg → mg d.name = some (.ref fa) →
      ∃ (K : PySem.W.Frag) (fd : FuncData) (sp : Sp), K.In h ∧ (∀ (s : Shared) (u : Value), BindsTo s fd ⟨[u], []⟩ [(x, u)]) ∧
        (∀ (H : Hp) (a : Addr) (ns : List Int), ns.length ≤ n → Only H → SqL K H a (ns.map V.int) → sp [.ref a] H (fun v _ => v = .bl true) fun _ _ _ => False) ∧
        ∀ base : Heap, K.In base → base.Ns mainGlobals mg → FnOk l.prog w K mg base (L2M.CX K l.prog w) k fa fd [x] sp) :
    PySem.W.WalkO q loose XP YP l.row.toRowW d [] (fun f vs => PySem.call f vs) := by
  refine Att.attach_call hn hdf fun w s₀ s₁ mg mb fa o pm cd doc a vs ns G Y ho hd hcd hmg hobj hints hlen hg => ?_
  obtain ⟨K, fd, sp, KX, hb, hsp, hF⟩ := F w mg fa _ Y G.T.g hmg
  exact law_call KX G.T.g G.T.b G.T.builtins G.T.nolimit hg hobj hints (Nat.le_trans hlen hn2) hr hF hb (fun H hO hS => hsp H a ns hlen hO hS) fun H e s' ⟨_, _, _, _, _, _, _, _, _, _, _, _, z⟩ => z
end Ta

set_option Elab.async false
set_option linter.all false
set_option maxRecDepth 100000
set_option maxHeartbeats 1000000
namespace Ta
open PySem PySem.Spec PyProof.Rows L2

/-! ### is, is not: None, truth values -/
def zIsB : R2 := fun x y H Q => match y with
  | .non => Q (.bl (decide (x = .non))) H
  | .bl b => (match x with
    | .bl a => Q (.bl (decide (a = b))) H
    | _ => False)
  | _ => False
def zIsnB : R2 := fun x y H Q => match y with
  | .non => Q (.bl (!decide (x = .non))) H
  | .bl b => (match x with
    | .bl a => Q (.bl (!decide (a = b))) H
    | _ => False)
  | _ => False
section
variable {X : Cx}
theorem opisb : OpR X (compareOp .Is) zIsB := by
  intro pins s σ H x y v u Q I rx ry h
  cases y with
  | non => exact op_isN pins s σ H _ _ v u Q I rx ry ⟨rfl, h⟩
  | bl b => cases x with
    | bl a => exact op_is_bl pins s σ H _ _ v u Q I rx ry ⟨a, b, rfl, rfl, h⟩
    | _ => exact False.elim h
  | _ => exact False.elim h
theorem opisnb : OpR X (compareOp .IsNot) zIsnB := by
  intro pins s σ H x y v u Q I rx ry h
  cases y with
  | non => exact op_notN pins s σ H _ _ v u Q I rx ry ⟨rfl, h⟩
  | bl b => cases x with
    | bl a => exact op_isnot_bl pins s σ H _ _ v u Q I rx ry ⟨a, b, rfl, rfl, h⟩
    | _ => exact False.elim h
  | _ => exact False.elim h
/-! ### o.f += e -/
def sAug (K : PySem.W.Frag) (ta tv : TE) (f : Str) (g : Int → Int → Int) : TS := fun D σ H => ta σ H fun x H1 => match x with
  | .ref a => look H1 a fun ob => (match ob with
    | some (.ins C dx fs) => Cls K C ∧ NoAttr K C f ∧ fld fs f fun v => match v with
      | .int i => tv σ H1 fun y H2 => (match y with
        | .int j => look H2 a fun ob' => (match ob' with
          | some (.ins C' dx' fs') => C' = C ∧ fs'.length < 1000 ∧ D.nx σ (upd H2 a (.ins C dx' (putF f (.int (g i j)) fs')))
          | _ => False)
        | _ => False)
      | _ => False
    | _ => False)
  | _ => False
theorem sAug_e {K : PySem.W.Frag} {tv : TE} {f : Str} {g : Int → Int → Int} {rd : V → V → Hp → VK → Prop} {D : Ends} {σ : St} {x : V} {H1 : Hp} (h : match x with
  | .ref a => look H1 a fun ob => (match ob with
    | some (.ins C dx fs) => Cls K C ∧ NoAttr K C f ∧ fld fs f fun v => match v with
      | .int i => tv σ H1 fun y H2 => (match y with
        | .int j => look H2 a fun ob' => (match ob' with
          | some (.ins C' dx' fs') => C' = C ∧ fs'.length < 1000 ∧ D.nx σ (upd H2 a (.ins C dx' (putF f (.int (g i j)) fs')))
          | _ => False)
        | _ => False)
      | _ => False
    | _ => False)
  | _ => False) (hrd : ∀ i j H Q, Q (.int (g i j)) H → rd (.int i) (.int j) H Q) (hm : ∀ σ H Q Q', (∀ v H, Q v H → Q' v H) → tv σ H Q → tv σ H Q') : ∃ a C dx fs v, x = .ref a ∧ H1 a = some (.ins C dx fs) ∧ Cls K C ∧ NoAttr K C f ∧ fs.lookup f = some v ∧
  tv σ H1 fun y H2 => rd v y H2 fun z H3 => ∃ dx' fs', H3 a = some (.ins C dx' fs') ∧ fs'.length < 1000 ∧ D.nx σ (upd H3 a (.ins C dx' (putF f z fs'))) := by
  cases x with
  | ref a =>
    have h := look_e h
    cases e : H1 a with
    | none => rw [e] at h; exact h.elim
    | some ob =>
      rw [e] at h
      cases ob with
      | ins C dx fs =>
        obtain ⟨h1, h2, h3⟩ := h
        obtain ⟨v, l, q⟩ := fld_e h3
        cases v with
        | int i =>
          refine ⟨a, C, dx, fs, _, rfl, e, h1, h2, l, hm _ _ _ _ (fun y H2 h => ?_) q⟩
          cases y with
          | int j =>
            have h := look_e h
            cases e2 : H2 a with
            | none => rw [e2] at h; exact h.elim
            | some ob2 =>
              rw [e2] at h
              cases ob2 with
              | ins C' dx' fs' =>
                obtain ⟨rfl, h5, h6⟩ := h
                exact hrd i j H2 _ ⟨dx', fs', e2, h5, h6⟩
              | _ => exact h.elim
          | _ => exact h.elim
        | _ => exact q.elim
      | _ => exact h.elim
  | _ => exact h.elim
theorem psaddC {o : Expr} {f : Str} {ta : TE} {n : Int} {j : Nat} {p1 tpos pos : Pos} (ha : PE X o ta) : PS X (.AugAssign (.Attribute o f tpos) .Add (.Constant (.int n) j p1) pos) (sAug X.K ta (tC (.int n)) f (· + ·)) := by
  refine ⟨fun pins s σ H D I h => ?_⟩
  refine wpAny_AugAssign_AttributeAny (thn (ha.run pins s σ H _ I h) fun ov s1 ⟨x, H1, I1, rx, q0⟩ => ?_)
  obtain ⟨a, C, dx, fs, v, ex, ea, c, n, l, q⟩ := sAug_e (rd := rAdd) (tv := tC (.int n)) (g := (· + ·)) q0 (fun i j H Q q => ⟨i, j, rfl, rfl, q⟩) (fun _ _ _ _ h q => h _ _ q)
  clear q0
  subst ex
  obtain rfl : ov = Value.ref a := rx
  refine getattr_ok I1 ea c n l fun u s2 I2 ru => thn (pe_int.run pins s2 σ H1 _ I2 q) fun w3 s3 ⟨y, H2, I3, ry, q3⟩ => thn (in_add pins s3 σ H2 v y u w3 _ I3 ru ry q3) fun w4 s4 ⟨z, H3, I4, rz, dx', fs', ea', l', q4⟩ => ?_
  exact setattr_ok I4 ea' c n l' rz fun s5 I5 => ⟨σ, _, I5, q4⟩
end
/-! ### a property -/
structure Pr (P : Program) (w : World) (K : PySem.W.Frag) (mg : Str → Option Value) (base : Heap) (C : Addr) (f : Str) (lv : Nat) (sp : Sp) : Prop where
  ex : ∃ (p g : Addr) (fd : FuncData) (ps : List Str), PropOf K C f p g ∧ FnOk P w K mg base (L2M.CX K P w) lv g fd ps sp ∧ Binds K fd ps []
  cl : Cls K C
def tPrp (C : Addr) (sp : Sp) (ta : TE) : TE := fun σ H Q => ta σ H fun x H1 => match x with
  | .ref a => look H1 a fun ob => (match ob with
    | some (.ins C' dx fs) => C' = C ∧ sp [.ref a] H1 Q fun _ _ _ => False
    | _ => False)
  | _ => False
section
variable {X : Cx} {e : Expr} {ta : TE} {C : Addr} {f : Str} {lv : Nat} {sp : Sp} {pos : Pos}
theorem pprp (F : Pr X.prog X.w X.K X.mg X.base C f lv sp) (hr : Room (lv + 1) X.A) (he : PE X e ta) (hab : attributeBase e f X.env (eval e X.env) = eval e X.env := by rfl) : PE X (.Attribute e f pos) (tPrp C sp ta) := by
  obtain ⟨p, g, fd, ps, hp, F1, hb⟩ := F.ex
  refine ⟨fun pins s σ H Q I h => ?_⟩
  refine attr_of hab (thn (he.run pins s σ H _ I h) fun u s1 ⟨x, H1, I1, rx, q⟩ => ?_)
  cases x with
  | ref a =>
    have q1 := look_e q
    clear q
    cases ea : H1 a with
    | none => rw [ea] at q1; exact q1.elim
    | some ob =>
      rw [ea] at q1
      cases ob with
      | ins C' dx fs =>
        obtain ⟨e2, q2⟩ := q1
        subst e2
        obtain rfl : u = Value.ref a := rx
        exact getprop_ok (E := fun _ _ _ => False) I1 ea F.cl hp F1 hr hb .nil (fun _ _ _ _ _ _ _ z => False.elim (let ⟨_, _, _, _, _, _, _, _, _, _, _, _, z⟩ := z; z)) q2
      | _ => exact q1.elim
  | _ => exact q.elim
end
/-! ### x = l[e], then known -/
section
variable {X : Cx} {pins : List (Addr × Obj)} {σ : St} {H : Hp} {s s' : Shared} {ff : List (Str × Value)}
/-- .. and a token is out -/
structure PEn (X : Cx) (e : Expr) (t : TE) : Prop where
  run : ∀ (pins : List (Addr × Obj)) (s : Shared) (σ : St) (H : Hp) (Q : VK), Inv X pins σ H s → t σ H Q → wpAny (model X.prog X.w) X.A (eval e X.env) (fun u s' => EP X pins σ Q u s' ∧ 1 ≤ s'.toks) X.xe s
structure PAn (X : Cx) (es : List Expr) (t : TA) : Prop where
  run : ∀ (pos : Pos) (pins : List (Addr × Obj)) (s : Shared) (σ : St) (H : Hp) (Q : List V → Hp → Prop), Inv X pins σ H s → t σ H Q → wpAny (model X.prog X.w) X.A (spliced (backTo pos (starEach es X.env))) (fun us s' => AP X pins σ Q us s' ∧ 1 ≤ s'.toks) X.xe s
theorem toks1 {α : Type} {t : Sem α} {Q : α → Shared → Prop} {E : Value → Shared → Prop} {M : Model} {A : Around} {s : Shared} (h1 : 1 ≤ s.toks) (h : wpAny M A t Q E s) : wpAny M A t (fun a s' => Q a s' ∧ 1 ≤ s'.toks) E s :=
  wpAny_mono (PySem.wpAny_toks_of h1 h) (fun _ _ z => ⟨z.2, z.1⟩) fun _ _ z => z.2
theorem pen_int {i : Int} {j : Nat} {pos : Pos} : PEn X (.Constant (.int i) j pos) (tC (.int i)) :=
  ⟨fun _ s _ H _ I h => wpAny_Constant_int ⟨⟨.int i, H, I.tok _, ⟨_, rfl⟩, h⟩, Nat.le_add_left 1 s.toks⟩⟩
theorem pen_op {op : Operator} {r : R2} {a b : Expr} {ta tb : TE} {pos : Pos} (ho : OpR X (binaryOp op) r) (ha : PEn X a ta) (hb : PE X b tb) : PEn X (.BinOp a op b pos) (tOp r ta tb) := by
  refine ⟨fun pins s σ H Q I h => wpAny_BinOp ?_⟩
  refine thn (ha.run pins s σ H _ I h) fun v s1 ⟨⟨x, H1, I1, r1, q1⟩, h1⟩ => ?_
  refine thn (toks1 h1 (hb.run pins s1 σ H1 _ I1 q1)) fun u s2 ⟨⟨y, H2, I2, r2, q2⟩, h2⟩ => ?_
  exact toks1 h2 (ho pins s2 σ H2 x y v u Q I2 r1 r2 q2)
theorem pan_hd {e : Expr} {es : List Expr} {te : TE} {t : TA} (ha : PEn X e te) (hr : PA X es t) (hs : starEach (e :: es) X.env = (false, eval e X.env) :: starEach es X.env := by rfl) : PAn X (e :: es) (tCons te t) := by
  refine ⟨fun pos pins s σ H Q I h => ?_⟩
  rw [hs]
  show wpAny _ _ (spliced ((false, eval e X.env) :: backTo pos (starEach es X.env))) _ _ s
  refine Calls.spliced_cons (thn (ha.run pins s σ H _ I h) fun u s1 ⟨⟨x, H1, I1, r1, q1⟩, h1⟩ => ?_)
  exact thn (toks1 h1 (hr.run pos pins s1 σ H1 _ I1 q1)) fun us s2 ⟨⟨xs, H2, I2, r2, q2⟩, h2⟩ => ⟨⟨x :: xs, H2, I2, .cons r1 r2, q2⟩, h2⟩
theorem pan_tl {e : Expr} {es : List Expr} {te : TE} {t : TA} (ha : PE X e te) (hr : PAn X es t) (hs : starEach (e :: es) X.env = (false, eval e X.env) :: starEach es X.env := by rfl) : PAn X (e :: es) (tCons te t) := by
  refine ⟨fun pos pins s σ H Q I h => ?_⟩
  rw [hs]
  show wpAny _ _ (spliced ((false, eval e X.env) :: backTo pos (starEach es X.env))) _ _ s
  refine Calls.spliced_cons (thn (ha.run pins s σ H _ I h) fun u s1 ⟨x, H1, I1, r1, q1⟩ => ?_)
  exact thn (hr.run pos pins s1 σ H1 _ I1 q1) fun us s2 ⟨⟨xs, H2, I2, r2, q2⟩, h2⟩ => ⟨⟨x :: xs, H2, I2, .cons r1 r2, q2⟩, h2⟩
theorem pen_lst {es : List Expr} {t : TA} {pos : Pos} (h : PAn X es t) : PEn X (.List es pos) (tLst t) := by
  refine ⟨fun pins s σ H Q I hq => ?_⟩
  refine wpAny_List_spliced (thn (h.run pos pins s σ H _ I hq) fun us s1 ⟨⟨xs, H1, I1, r, z, q⟩, h1⟩ => ⟨by rw [← r.length]; exact z, ?_⟩)
  have hf : H1 s1.heap.objs.size = none := I1.hok.fresh (Nat.le_refl _)
  refine ⟨⟨.ref s1.heap.objs.size, upd H1 s1.heap.objs.size (.lst xs), I1.laid (t' := s1.toks) (fun b u e => Heap.get?_push_of_some _ e) (Nat.le_refl _) ?_, rfl, q _ hf⟩, h1⟩
  exact ⟨z, us, 0, r, Heap.get?_push_size _ rfl⟩
theorem pen_ix {a b : Expr} {ta tb : TE} {pos : Pos} (ha : PEn X a ta) (hb : PE X b tb) (hs : PlainIx b := by exact fun _ _ => rfl) : PEn X (.Subscript a b pos) (tOp (zIxP X.K) ta tb) := by
  refine ⟨fun pins s σ H Q I h => Subscript_ ?_⟩
  refine thn (ha.run pins s σ H _ I h) fun v s1 ⟨⟨x, H1, I1, r1, q1⟩, h1⟩ => ?_
  refine thn (toks1 h1 (hb.run pins s1 σ H1 _ I1 q1)) fun u s2 ⟨⟨y, H2, I2, r2, q2⟩, h2⟩ => ?_
  exact toks1 h2 (ixp a b pins s2 σ H2 x y v u Q I2 r1 r2 q2 (hs _ _))
theorem pen_call {x : Str} {p pos : Pos} {e : Expr} {es : List Expr} {t : TA} {lv : Nat} {dvs : List V} {sp : Sp} {W : WX} (F : Fn X.prog X.w X.K X.mg X.base x lv dvs sp) (hr : Room lv X.A) (tk : L2M.Takes X W) (ha : PAn X (e :: es) t) (hg : Gl X x := by rfl) (hdb : (x == ("__debug__" : Str)) = false := by decide +kernel)
    (he : starEach (e :: es) X.env = (false, eval e X.env) :: starEach es X.env := by rfl) (hpl : (backTo pos (starEach es X.env)).any (·.1) = false := by rfl) :
    PEn X (.Call (.Name x p) (e :: es) [] pos) (tCal sp dvs W t) := by
  obtain ⟨f, fd, ps, ds, F, hm, hk, hd, hb⟩ := F.ex
  refine ⟨fun pins s σ H Q I h => ?_⟩
  refine wpAny_Call_Name_kw (ld_glob I hg hm ?_ hdb)
  refine PySem.W.callWith_K (h₀ := X.base) I.ok.mod.kin hk (thn (ha.run pos pins s σ H _ I h) fun us s1 ⟨⟨vs, H1, I1, r, q⟩, h1⟩ => ⟨I1.kIn, ?_⟩) he hpl
  exact toks1 h1 (run_fnSD (E := WE W) F hr hb hd (L2M.passAt tk σ) I1 r q)
def tIx (il : Nat) (te : TE) : TE := fun σ H Q => match σ[il]? with
  | some (some (.str z)) => Lim (tl z).length ∧ te σ H fun v H' => match v with
      | .int i => itm (tl z) i fun c => Q (.str (S [c])) H'
      | _ => False
  | _ => False
theorem pssk_ix {ix il : Nat} {x l : Str} {e : Expr} {te : TE} {rest : List Stmt} {u : TS} {px pos p1 p8 : Pos} (hN : X.N.Nodup) (he : PEn X e te) (hrest : PSsK X [x] rest u)
    (hNx : X.N[ix]? = some x := by rfl) (hkx : X.env.kindOf x = some .local := by rfl)
    (hNl : X.N[il]? = some l := by rfl) (hvl : Vis X.env.scope l := by first | exact Or.inl rfl | exact Or.inr (Or.inl rfl) | exact Or.inr (Or.inr rfl))
    (hdl : (l == ("__debug__" : Str)) = false := by decide +kernel) (hcl : (l == ("__classdict__" : Str)) = false := by decide +kernel)
    (hix : PlainIx e := by exact fun _ _ => rfl)
    (hs : swapsWith (.Subscript (.Name l p1) e p8) (some (.Name x px)) pos.line X.env = pure false := by rfl) :
    PSs X (.Assign [.Name x px] (.Subscript (.Name l p1) e p8) pos :: rest) (tSeq (tAsg (tIx il te) (gName ix)) u) := by
  refine ⟨fun pins s σ H D I h => ?_⟩
  have h : tIx il te σ H fun x H1 => u D (σ.set ix (some x)) H1 := h
  unfold tIx at h
  split at h
  · rename_i z e1
    obtain ⟨hlim, h⟩ := h
    refine wpAny_execs_cons (wpAny_Assign_Name (Subscript_ (raw_name hNl hvl I e1 (fun v r => ?_) hdl hcl)) hs)
    obtain ⟨tz, rfl⟩ := r
    refine thn (he.run pins s σ H _ I h) fun w s2 hq => ?_
    obtain ⟨⟨y, H2, I2, ry, q⟩, h1t⟩ := hq
    cases y with
    | int i =>
      obtain ⟨ti, rfl⟩ := ry
      obtain ⟨c, hat, q⟩ := itm_e q
      obtain ⟨j, h1, h2, h3, h4, h5⟩ := atI_get hat
      have hl : z.cps.toList.length = z.length := by simp [Str.length]
      have hn := line63
      have hz : z.length ≤ sizeLine := by rw [len_tl]; exact hlim
      rw [hl] at h1 h4 h5
      refine tail_any (typeIs_str s2 z tz) slot_str_getitem.lookup (getItem_str (c := c) (by
        have e1 : decide (i < -(2 ^ 63 : Int)) = false := decide_eq_false (by omega)
        have e2 : decide (i ≥ 2 ^ 63) = false := decide_eq_false (by omega)
        rw [e1, e2, Bool.or_false]) (by rw [h1]; simpa using h2) ?_) (hix _ _)
      have I3 := I2.tok (s2.toks + 1)
      refine store_F (v := .str (S [c])) (ff := []) I3 hN hNx hkx ⟨s2.toks, rfl⟩ (FT.nil I3) (fun e he => nomatch he) fun s3 I4 hF2 ht2 => ?_
      refine hrest.run pins s3 _ H2 D I4 ⟨_, hF2, rfl, fun e he => ?_, by simp⟩ q
      obtain rfl := List.mem_singleton.mp he
      exact ⟨S [c], s2.toks, rfl, h1t, by rw [ht2]; exact Nat.lt_succ_of_lt (Nat.lt_succ_self _)⟩
    | _ => exact False.elim q
  · exact h.elim
/-! ### x.replace(o, '') -/
def rpE (c : Nat) (l : List Nat) : List Nat := l.filter fun a => !decide (a = c)
theorem replL_rpE (c : Nat) : ∀ l : List Nat, StrLaws.replL [c] [] l = rpE c l
  | [] => StrLaws.replL_nil
  | a :: l => by
    by_cases h : a = c
    · subst h
      rw [StrLaws.replL_hit (by simp) (by simp)]
      show [] ++ StrLaws.replL [a] [] l = _
      rw [replL_rpE a l]
      simp [rpE]
    · rw [StrLaws.replL_miss (by simp [h]), replL_rpE c l]
      simp [rpE, h]
theorem repl_SE (x : Str) (c : Nat) : Txt.replace x (S [c]) (S []) = S (rpE c (tl x)) := by
  refine ext_tl ?_
  have e := StrLaws.replace_list (x := x) (y := S [c]) (z := S []) (by rw [len_tl]; exact Nat.le_refl 1)
  exact e.trans (replL_rpE c (tl x))
def tRpE (ix io : Nat) : TE := fun σ H Q => match σ[ix]? with
  | some (some (.str x)) => (match σ[io]? with
    | some (some (.str y)) => (match tl y with
      | [c] => (tl x).length ≤ 1000000 ∧ Q (.str (S (rpE c (tl x)))) H
      | _ => False)
    | _ => False)
  | _ => False
theorem tRpE_e {ix io : Nat} {Q : VK} (h : tRpE ix io σ H Q) : ∃ x c, σ[ix]? = some (some (.str x)) ∧ σ[io]? = some (some (.str (S [c]))) ∧ (tl x).length ≤ 1000000 ∧ Q (.str (S (rpE c (tl x)))) H := by
  unfold tRpE at h
  split at h
  · rename_i x e1
    split at h
    · rename_i y e2
      split at h
      · rename_i c ey
        exact ⟨x, c, e1, by rw [e2, ← S_tl y, ey], h⟩
      · exact h.elim
    · exact h.elim
  · exact h.elim
theorem pek_replE {ns : List Str} {ix io : Nat} {x o : Str} {j : Nat} {p1 p2 p3 apos pos : Pos} (hNx : X.N[ix]? = some x := by rfl) (hvx : Vis X.env.scope x := by first | exact Or.inl rfl | exact Or.inr (Or.inl rfl) | exact Or.inr (Or.inr rfl)) (hNo : X.N[io]? = some o := by rfl) (hko : X.env.kindOf o = some .local := by rfl)
    (ho : o ∈ ns := by decide +kernel) (hdx : (x == ("__debug__" : Str)) = false := by decide +kernel) (hcx : (x == ("__classdict__" : Str)) = false := by decide +kernel) (hdo : (o == ("__debug__" : Str)) = false := by decide +kernel)
    (hst : starEach [.Name o p2, .Constant (.str (S [])) j p3] X.env = [(false, eval (.Name o p2) X.env), (false, eval (.Constant (.str (S [])) j p3) X.env)] := by rfl)
    (hbase : attributeBase (.Name x p1) "replace" X.env (eval (.Name x p1) X.env) = eval (.Name x p1) X.env := by rfl) (hline : (apos.endLine == pos.line) = true := by rfl) :
    PEK X ns (.Call (.Attribute (.Name x p1) "replace" apos) [.Name o p2, .Constant (.str (S [])) j p3] [] pos) (tRpE ix io) := by
  refine ⟨fun pins s σ H Q I k h => ?_⟩
  obtain ⟨z, c, e1, e2, hb, q⟩ := tRpE_e h
  obtain ⟨ff, hF, hns, htok, hnd⟩ := k
  refine wpAny_mono (wpAny_toks (Q := fun u s' => EP X pins σ Q u s' ∧ ∃ k : Nat, s' = { s with toks := k }) (PySem.Call_method2 hbase hst hline (raw_name hNx hvx I e1 (fun v r => ?_) hdx hcx))) (fun u s' hq => ?_) fun _ _ z => z.2
  · obtain ⟨tx, rfl⟩ := r
    refine ⟨"str", _, F.plainAttrs_str, F.slot_str_replace, F.type_str_replace, typeIs_str _ _ _, (fun _ e => nomatch e), Calls.callWith_builtin rfl (Calls.evalArgs_plain (Calls.spliced_cons ?_))⟩
    refine tk_name hF hns htok ho hNo hko I e2 (fun t h1 h2 hm1 => ?_) hdo
    refine Calls.spliced_cons (Calls.Constant_str ?_)
    refine Calls.spliced_nil ?_
    refine PySem.SC.replace (show t ≠ (0 : Nat) from by omega) (show s.toks ≠ (0 : Nat) from by omega) (show t ≠ s.toks from by omega) (by simp only [beq_eq_false_iff_ne]; exact fun z => absurd (congrArg (fun y : Str => (tl y).length) z) (show ¬ (1 = 0) by decide)) (by
      have : (S []).length = 0 := by rw [len_tl]; rfl
      rw [this, len_tl]; omega) fun t' k => ⟨⟨.str (S (rpE c (tl z))), H, I.tok k, ⟨t', by rw [repl_SE]⟩, q⟩, k, rfl⟩
  · obtain ⟨hle, he, k, rfl⟩ := hq
    exact ⟨he, ff, hF, hns, fun e he => (let ⟨x, t, a, b, c⟩ := htok e he; ⟨x, t, a, b, Nat.lt_of_lt_of_le c hle⟩), hnd⟩
end
end Ta

set_option Elab.async false
set_option linter.all false
set_option maxRecDepth 100000
set_option maxHeartbeats 1000000
namespace Ta
open PySem PySem.Spec PyProof.Rows L2

/-! ### the part ahead of a sign -/
def bef (c : Nat) (l : List Nat) : List Nat := l.takeWhile fun a => !decide (a = c)
def fnd (c : Nat) (l : List Nat) : Int := if c ∈ l then ((bef c l).length : Int) else -1
theorem bef_at {c : Nat} : ∀ {l : List Nat} {i : Nat}, l[i]? = some c → (∀ k, k < i → ¬ l[k]? = some c) → (bef c l).length = i ∧ l.take i = bef c l
  | [], i, h, _ => by simp at h
  | a :: l, 0, h, _ => by
    have e : a = c := by simpa using h
    subst e
    simp [bef]
  | a :: l, i + 1, h, hk => by
    have e : ¬ a = c := fun z => hk 0 (Nat.succ_pos _) (by simp [z])
    obtain ⟨h1, h2⟩ := bef_at (l := l) (i := i) (by simpa using h) fun k hk' => by
      have := hk (k + 1) (by omega)
      simpa using this
    have e2 : bef c (a :: l) = a :: bef c l := by simp [bef, e]
    rw [e2]
    exact ⟨by simp [h1], by simp [h2]⟩
theorem bef_no {c : Nat} : ∀ {l : List Nat}, ¬ c ∈ l → bef c l = l
  | [], _ => rfl
  | a :: l, h => by
    have e : ¬ a = c := fun z => h (by simp [z])
    have e2 : bef c (a :: l) = a :: bef c l := by simp [bef, e]
    rw [e2, bef_no fun z => h (List.mem_cons_of_mem _ z)]
theorem bef_le (c : Nat) (l : List Nat) : (bef c l).length ≤ l.length := (List.takeWhile_sublist _).length_le
theorem at_one (l : List Nat) (c i : Nat) : StrLaws.At (S l) (S [c]) (S l).length i ↔ l[i]? = some c := StrLaws.subAt_one (S l) c i
theorem find_one (l : List Nat) (c : Nat) : Txt.find (S l) (S [c]) = fnd c l := by
  unfold fnd
  rcases find_whole (S l) (S [c]) with ⟨h1, h2⟩ | ⟨i, h1, h2, h3⟩
  · rw [h1, if_neg]
    intro hm
    obtain ⟨i, hi⟩ := List.mem_iff_getElem?.mp hm
    exact h2 i ((at_one l c i).mpr hi)
  · have hi := (at_one l c i).mp h2
    rw [h1, if_pos (List.mem_iff_getElem?.mpr ⟨i, hi⟩), (bef_at hi fun k hk z => h3 k hk ((at_one l c k).mpr z)).1]
theorem part_one (l : List Nat) (c : Nat) : (Txt.partition (S l) (S [c])).1 = S (bef c l) := by
  have hf := find_one l c
  unfold Txt.find at hf
  unfold Txt.partition
  revert hf
  cases e : Builtin.Str.occurrences (S l) (S [c]) 0 (S l).length 1 with
  | nil =>
    intro hf
    have hn : ¬ c ∈ l := fun z => by
      unfold fnd at hf
      rw [if_pos z] at hf
      have hf : (-1 : Int) = ((bef c l).length : Int) := hf
      omega
    rw [bef_no hn]
  | cons i r =>
    intro hf
    have hf : (i : Int) = fnd c l := hf
    unfold fnd at hf
    by_cases hm : c ∈ l
    · rw [if_pos hm] at hf
      have e2 : i = (bef c l).length := by omega
      refine ext_tl ?_
      have e3 : bef c l = l.take (bef c l).length := List.prefix_iff_eq_take.mp (List.takeWhile_prefix _)
      show ((S l).cps.extract 0 i).toList = bef c l
      rw [Array.toList_extract, e2]
      simp
      exact e3.symm
    · rw [if_neg hm] at hf; omega
section
variable {X : Cx}
def zFind : V → List V → Hp → VK → Prop := fun x xs H Q => match x with
  | .str a => one xs fun y => (match y with
    | .str b => (match tl b with
      | [c] => Q (.int (fnd c (tl a))) H
      | _ => False)
    | _ => False)
  | _ => False
theorem mtfind : MtR X "str.find" zFind := mt_imp mt_find fun x xs H Q h => by
  cases x with
  | str a =>
    obtain ⟨y, rfl, h⟩ := one_e h
    cases y with
    | str b =>
      have h : (match tl b with
        | [c] => Q (.int (fnd c (tl a))) H
        | _ => False) := h
      split at h
      · rename_i c e
        refine ⟨a, b, rfl, rfl, ?_⟩
        have := find_one (tl a) c
        rw [S_tl, ← e, S_tl] at this
        rw [this]; exact h
      · exact h.elim
    | _ => exact h.elim
  | _ => exact h.elim
/-- of its parts the first one is told -/
def zPartition : V → List V → Hp → VK → Prop := fun x xs H Q => match x with
  | .str a => one xs fun y => (match y with
    | .str b => (match tl b with
      | [c] => Lim (tl a).length ∧ ∀ p y1 y2, H p = none → Q (.ref p) (upd H p (.tup [.str (S (bef c (tl a))), .str y1, .str y2]))
      | _ => False)
    | _ => False)
  | _ => False
theorem mtpart : MtR X "str.partition" zPartition := mt_imp mt_partition fun x xs H Q h => by
  cases x with
  | str a =>
    obtain ⟨y, rfl, h⟩ := one_e h
    cases y with
    | str b =>
      have h : (match tl b with
        | [c] => Lim (tl a).length ∧ ∀ p y1 y2, H p = none → Q (.ref p) (upd H p (.tup [.str (S (bef c (tl a))), .str y1, .str y2]))
        | _ => False) := h
      split at h
      · rename_i c e
        refine ⟨a, b, rfl, rfl, by rw [len_tl, e]; rfl, by rw [len_tl]; exact h.1, fun p hp => ?_⟩
        have := part_one (tl a) c
        rw [S_tl, ← e, S_tl] at this
        rw [this]; exact h.2 p _ _ hp
      · exact h.elim
    | _ => exact h.elim
  | _ => exact h.elim
/-- list(x) -/
def zList (K : PySem.W.Frag) : List V → Hp → VK → Prop := fun xs H Q => one xs fun x => match x with
  | .ref p => look H p fun o => (match o with
    | some (.lst ys) => ∀ l, H l = none → Q (.ref l) (upd H l (.lst ys))
    | some (.tup ys) => ∀ l, H l = none → Q (.ref l) (upd H l (.lst ys))
    | some (.frz _ (.lst ys)) => ∀ l, H l = none → Q (.ref l) (upd H l (.lst ys))
    | _ => False)
  | _ => False
theorem crlist : CallR X (.type "list") (zList X.K) := cr_imp call_list_of fun xs H Q h => by
  obtain ⟨x, rfl, h⟩ := one_e h
  cases x with
  | ref p =>
    have h := look_e h
    cases e : H p with
    | none => rw [e] at h; exact h.elim
    | some o =>
      rw [e] at h
      cases o with
      | lst ys => exact ⟨p, ys, rfl, .inl (SqL.of e), h⟩
      | tup ys => exact ⟨p, ys, rfl, .inr (SqT.of e), h⟩
      | frz ob u =>
        cases u with
        | lst ys => exact ⟨p, ys, rfl, .inl (.inl (.inr ⟨_, e⟩)), h⟩
        | _ => exact h.elim
      | _ => exact h.elim
  | _ => exact h.elim
end
end Ta

set_option Elab.async false
set_option linter.all false
set_option maxRecDepth 100000
set_option maxHeartbeats 1000000
namespace Ta
open PySem PySem.Spec PyProof.Rows L2

/-! ### methods of lists -/
section
variable {X : Cx} {o e : Expr} {es : List Expr} {to : TE} {t : TA} {name : Str} {apos cpos : Pos} {T id : String}
abbrev RM := Addr → List V → Hp → VK → Prop
def lstAt (x : V) (H : Hp) (k : Addr → List V → Prop) : Prop := match x with
  | .ref p => look H p fun ob => (match ob with
    | some (.lst xs) => k p xs
    | _ => False)
  | _ => False
theorem lstAt_e {x : V} {H : Hp} {k : Addr → List V → Prop} (h : lstAt x H k) : ∃ p xs, x = .ref p ∧ H p = some (.lst xs) ∧ k p xs := by
  cases x with
  | ref p =>
    have h := look_e h
    cases e : H p with
    | none => rw [e] at h; exact h.elim
    | some ob =>
      rw [e] at h
      cases ob with
      | lst xs => exact ⟨p, xs, rfl, e, h⟩
      | _ => exact h.elim
  | _ => exact h.elim
def tLM (r : RM) (to : TE) (t : TA) : TE := fun σ H Q => to σ H fun x H1 => lstAt x H1 fun p _ => t σ H1 fun xs H2 => r p xs H2 Q
def tLM0 (r : RM) (to : TE) : TE := fun σ H Q => to σ H fun x H1 => lstAt x H1 fun p _ => r p [] H1 Q
def rOf (r : RM) : V → List V → Hp → VK → Prop := fun x vs H Q => ∃ p, x = .ref p ∧ r p vs H Q
theorem plm {r : RM} (slot : Slot "list" name id) (hty : typeOf (.builtin id) = pure (.type "method_descriptor")) (hm : MtR X id (rOf r)) (ho : PE X o to) (ha : PA X (e :: es) t)
    (hbase : attributeBase o name X.env (eval o X.env) = eval o X.env := by rfl)
    (hfew : ((backTo cpos (starEach (e :: es) X.env)).all (fun x => !x.1) && (backToKw cpos (keywordEach [] X.env)).all (fun x => x.1.isSome)
      && decide ((e :: es).length + ([] : List Keyword).length + (if ([] : List Keyword).isEmpty then 0 else 1) < 30)) = true := by rfl)
    (hline : (apos.endLine == cpos.line) = true := by rfl) (hs : starEach (e :: es) X.env = (false, eval e X.env) :: starEach es X.env := by rfl) (hplain : (backTo cpos (starEach es X.env)).any (·.1) = false := by rfl) :
    PE X (.Call (.Attribute o name apos) (e :: es) [] cpos) (tLM r to t) := by
  refine ⟨fun pins s σ H Q I h => ?_⟩
  refine wpAny_Call_method_late hbase hfew hline rfl (thn (ho.run pins s σ H _ I h) fun v s1 ⟨x, H1, I1, r1, q0⟩ => ?_)
  obtain ⟨p, xs, rfl, hp, q1⟩ := lstAt_e q0
  obtain ⟨h1, h2⟩ := tyV_is (T := "list") I1 r1 (.inl ⟨rfl, xs, SqL.of hp⟩)
  refine ⟨"list", id, PySem.F.plainAttrs_list, slot, hty, h1, h2, ?_⟩
  have hA := ha.run cpos pins s1 σ H1 _ I1 q1
  rw [hs] at hA ⊢
  refine Calls.callWith_builtin (by show (false || (backTo cpos (starEach es X.env)).any (·.1)) = false; rw [hplain] <;> rfl) (Calls.evalArgs_plain ?_)
  exact thn hA fun us s2 ⟨vs, H2, I2, r2, q2⟩ => hm pins s2 σ H2 _ vs v us Q I2 r1 r2 ⟨p, rfl, q2⟩
theorem plm0 {r : RM} (slot : Slot "list" name id) (hty : typeOf (.builtin id) = pure (.type "method_descriptor")) (hm : MtR X id (rOf r)) (ho : PE X o to)
    (hbase : attributeBase o name X.env (eval o X.env) = eval o X.env := by rfl) (hline : (apos.endLine == cpos.line) = true := by rfl) : PE X (.Call (.Attribute o name apos) [] [] cpos) (tLM0 r to) := by
  refine ⟨fun pins s σ H Q I h => ?_⟩
  refine wpAny_Call_method0_late hbase hline (thn (ho.run pins s σ H _ I h) fun v s1 ⟨x, H1, I1, r1, q0⟩ => ?_)
  obtain ⟨p, xs, rfl, hp, q1⟩ := lstAt_e q0
  obtain ⟨h1, h2⟩ := tyV_is (T := "list") I1 r1 (.inl ⟨rfl, xs, SqL.of hp⟩)
  exact ⟨"list", id, PySem.F.plainAttrs_list, slot, hty, h1, h2, Calls.callWith_builtin rfl (PySem.evalArgs_none (hm pins s1 σ H1 _ [] v [] Q I1 r1 .nil ⟨p, rfl, q1⟩))⟩
def lkl (H : Hp) (l : Addr) (k : List V → Prop) : Prop := look H l fun ob => match ob with
  | some (.lst xs) => k xs
  | _ => False
theorem lkl_e {H : Hp} {l : Addr} {k : List V → Prop} (h : lkl H l k) : ∃ xs, H l = some (.lst xs) ∧ k xs := by
  have h := look_e h
  cases e : H l with
  | none => rw [e] at h; exact h.elim
  | some ob =>
    rw [e] at h
    cases ob with
    | lst xs => exact ⟨xs, rfl, h⟩
    | _ => exact h.elim
def zAppP : RM := fun l vs H Q => one vs fun y => lkl H l fun xs => Lim (xs.length + 1) ∧ Q .non (upd H l (.lst (xs ++ [y])))
theorem mtapp : MtR X "list.append" (rOf zAppP) := mt_imp mt_append fun x vs H Q h => by
  obtain ⟨l, rfl, h⟩ := h
  obtain ⟨y, rfl, h⟩ := one_e h
  obtain ⟨xs, hl, h1, h2⟩ := lkl_e h
  exact ⟨l, xs, y, rfl, rfl, hl, h1, h2⟩
def zExtP : RM := fun l vs H Q => one vs fun y => match y with
  | .ref b => lkl H l fun xs => lkl H b fun zs => Lim (xs.length + zs.length) ∧ Q .non (upd H l (.lst (xs ++ zs)))
  | _ => False
theorem mtext : MtR X "list.extend" (rOf zExtP) := mt_imp mt_extend fun x vs H Q h => by
  obtain ⟨l, rfl, h⟩ := h
  obtain ⟨y, rfl, h⟩ := one_e h
  cases y with
  | ref b =>
    obtain ⟨xs, hl, h⟩ := lkl_e h
    obtain ⟨zs, hb, h1, h2⟩ := lkl_e h
    exact ⟨l, b, xs, zs, rfl, rfl, hl, hb, h1, h2⟩
  | _ => exact h.elim
def zPopP : RM := fun l vs H Q => match vs with
  | [] => lkl H l fun xs => itm xs ((xs.length : Int) - 1) fun y => Q y (upd H l (.lst xs.dropLast))
  | _ => False
theorem mtpop : MtR X "list.pop" (rOf zPopP) := mt_imp mt_pop fun x vs H Q h => by
  obtain ⟨l, rfl, h⟩ := h
  cases vs with
  | nil =>
    obtain ⟨xs, hl, h⟩ := lkl_e h
    obtain ⟨y, e, q⟩ := itm_e h
    obtain ⟨j, h1, h2, h3, h4, h5⟩ := atI_get e
    refine ⟨l, xs, y, rfl, rfl, hl, ?_, q⟩
    have : seqIndex? ((xs.length : Int) - 1) xs.length = some (xs.length - 1) := by
      have e : ((xs.length : Int) - 1) = ((xs.length - 1 : Nat) : Int) := by omega
      rw [e, PySem.StrLaws.seqIndex_nonneg (by omega) (by omega)]
      simp
    rw [this] at h1
    cases h1
    exact h2
  | cons a b => exact h.elim
def zPopAtP : RM := fun l vs H Q => one vs fun y => match y with
  | .int i => lkl H l fun xs => ∃ j, ixN xs.length i = some j ∧ Lim xs.length ∧ itm xs i fun y => Q y (upd H l (.lst (xs.eraseIdx j)))
  | _ => False
theorem mtpopat : MtR X "list.pop" (rOf zPopAtP) := mt_imp mt_popAt fun x vs H Q h => by
  obtain ⟨l, rfl, h⟩ := h
  obtain ⟨y, rfl, h⟩ := one_e h
  cases y with
  | int i =>
    obtain ⟨xs, hl, j, hj, hlim, h⟩ := lkl_e h
    obtain ⟨y, e, q⟩ := itm_e h
    obtain ⟨j', h1, h2, h3, h4, h5⟩ := atI_get e
    obtain ⟨h6, h7, h8, h9⟩ := ixN_seq hj
    rw [h6] at h1
    cases h1
    have hn := line63
    have hlim : xs.length ≤ sizeLine := hlim
    exact ⟨l, xs, i, j, y, rfl, rfl, hl, by omega, by omega, h6, h2, q⟩
  | _ => exact h.elim
def zRevP : RM := fun l vs H Q => match vs with
  | [] => lkl H l fun xs => Q .non (upd H l (.lst xs.reverse))
  | _ => False
theorem mtrev : MtR X "list.reverse" (rOf zRevP) := mt_imp mt_reverse fun x vs H Q h => by
  obtain ⟨l, rfl, h⟩ := h
  cases vs with
  | nil =>
    obtain ⟨xs, hl, h⟩ := lkl_e h
    exact ⟨l, xs, rfl, rfl, hl, h⟩
  | cons a b => exact h.elim
def zInsP : RM := fun l vs H Q => two vs fun x y => match x with
  | .int i => lkl H l fun xs => Lim (xs.length + 1) ∧ (0 ≤ i ∧ i < 1073741824) ∧ Q .non (upd H l (.lst (xs.take i.toNat ++ [y] ++ xs.drop i.toNat)))
  | _ => False
theorem mtins : MtR X "list.insert" (rOf zInsP) := mt_imp mt_insert fun x vs H Q h => by
  obtain ⟨l, rfl, h⟩ := h
  obtain ⟨x, y, rfl, h⟩ := two_e h
  cases x with
  | int i =>
    obtain ⟨xs, hl, h1, ⟨h2, h3⟩, q⟩ := lkl_e h
    exact ⟨l, xs, i, y, rfl, rfl, hl, h1, h2, by omega, q⟩
  | _ => exact h.elim
end
end Ta

set_option Elab.async false
set_option linter.all false
set_option maxRecDepth 100000
set_option maxHeartbeats 1000000
namespace Ta
open PySem PySem.Spec PyProof.Rows L2

theorem iteT {p q : Prop} (h : p) : if true = true then p else q := by rw [if_pos rfl]; exact h
theorem q_bl {Q : VK} {b c : Bool} {H : Hp} (e : b = c) (q : Q (.bl c) H) : Q (.bl b) H := by rw [e]; exact q
theorem q_v {Q : VK} {b c : V} {H : Hp} (e : b = c) (q : Q c H) : Q b H := by rw [e]; exact q
theorem q_H {Q : VK} {v : V} {H H' : Hp} (e : H = H') (q : Q v H') : Q v H := by rw [e]; exact q
theorem q_vH {Q : VK} {b c : V} {H H' : Hp} (e' : b = c) (e : H = H') (q : Q c H') : Q b H := by rw [e, e']; exact q
theorem Kp.get2 {p r : Addr} {H H' : Hp} {q : Addr} {o : HO} (a : Kp [p, r] H H') (h : H q = some o) (n : q ≠ p) (n2 : q ≠ r) : H' q = some o := a q o h fun z => by
  rcases List.mem_cons.mp z with z | z
  · exact n z
  · exact n2 (List.mem_singleton.mp z)
theorem ne_ho {H : Hp} {p q : Addr} {o o' : HO} (h : H p = some o) (h' : H q = some o') (n : o ≠ o') : p ≠ q := fun e => by
  subst e; rw [h] at h'; exact n (Option.some.inj h')
theorem cut_map {α β : Type} (f : α → β) (xs : List α) (lo hi : Option Int) : cut (xs.map f) lo hi = (cut xs lo hi).map f := by
  rw [← cut_eq0, ← cut_eq0]; unfold cut0; rw [List.length_map, ← List.map_drop, ← List.map_take]
theorem cut_one {α : Type} (xs : List α) (c : Nat) : cut xs (some (c : Int)) (some ((c : Int) + 1)) = (xs.drop c).take 1 := by
  have e : ((c : Int) + 1) = ((c + 1 : Nat) : Int) := by omega
  rw [e, cut_both, List.drop_take]
  congr 1; omega
theorem cut_fr1 {α : Type} (xs : List α) (c : Nat) : cut xs (some ((c : Int) + 1)) none = xs.drop (c + 1) := by
  have e : ((c : Int) + 1) = ((c + 1 : Nat) : Int) := by omega
  rw [e, cut_from]
theorem cut_t1 {α : Type} (xs : List α) : cut xs none (some (1 : Int)) = xs.take 1 := cut_to xs 1
/-- [e for x in xs], e pure -/
theorem lcp_M {n : Nat} {it : Itm} {st : Hp → Prop} {xs : List V} {i : Nat} {te : TE} {σ : St} {H1 : Hp} {Q : VK} {vs : List Nat} (hn : n = xs.length) (hit : ∀ k H x H', it k H x H' → H' = H ∧ xs[k]? = some x) (hst : ∀ D xs, H1 D = none → st (upd H1 D (.lst xs)))
    (f : V → V) (hl : xs.length < 1000000) (he : ∀ x D H' Q', H1 D = none → x ∈ xs → (∃ ys, H' = upd H1 D (.lst ys)) → Q' (f x) H' → te ((wipe σ vs).set i (some x)) H' Q')
    (hw : ∀ v, wipe ((wipe σ vs).set i v) vs = wipe σ vs) (q : ∀ D, H1 D = none → Q (.ref D) (upd H1 D (.lst (xs.map f)))) : lcp n it st (gName i) tYes te vs σ H1 Q := by
  subst hn
  refine lcp_i (fun D k H => H = upd H1 D (.lst ((xs.take k).map f))) (fun D hD => rfl) (fun D k H hD _ e => by rw [e]; exact hst D _ hD) ?_ ?_
  · rintro D k x H H' hD hk rfl hi
    obtain ⟨rfl, hc⟩ := hit _ _ _ _ hi
    refine ⟨hw _, ?_⟩
    unfold tYes; dsimp only
    rw [if_pos rfl]
    refine he x D _ _ hD (List.mem_of_getElem? hc) ⟨_, rfl⟩ ⟨_, upd_at, ?_, ?_⟩
    · rw [List.length_map, List.length_take, sizeLine_eq]; omega
    · rw [upd_tw, List.take_succ, hc]
      simp
  · rintro D H hD rfl
    rw [List.take_length]
    exact q D hD
/-- .. over a list that stands -/
theorem lcp_ML {xs : List V} {p : Addr} {i : Nat} {te : TE} {σ : St} {H1 : Hp} {Q : VK} {vs : List Nat} (hp : H1 p = some (.lst xs))
    (f : V → V) (hl : xs.length < 1000000) (he : ∀ x D H' Q', H1 D = none → x ∈ xs → (∃ ys, H' = upd H1 D (.lst ys)) → Q' (f x) H' → te ((wipe σ vs).set i (some x)) H' Q')
    (hw : ∀ v, wipe ((wipe σ vs).set i v) vs = wipe σ vs) (q : ∀ D, H1 D = none → Q (.ref D) (upd H1 D (.lst (xs.map f)))) : lcp xs.length (itL xs) (fun H' => H' p = some (.lst xs)) (gName i) tYes te vs σ H1 Q :=
  lcp_M rfl (fun k H x H' h => h) (fun D ys hD => upd_fr hD hp) f hl he hw q
/-- .. of a box that is drawn from: after k turns the box b(k) and the items -/
theorem lcp_B {n : Nat} {it : Itm} {st : Hp → Prop} {i : Nat} {te : TE} {σ : St} {H1 : Hp} {Q : VK} {vs : List Nat} (p : Addr) (hp : ∃ o, H1 p = some o) (Bx : HO → Prop) (P : V → Prop) (hb : ∀ o, H1 p = some o → Bx o) (hn : n < 1000000)
    (hit : ∀ k H x H', k < n → it k H x H' → H' = H) (hst : ∀ D xs o, H1 D = none → st (upd (upd H1 p o) D (.lst xs)))
    (he : ∀ k x D o ys Q', k < n → H1 D = none → D ≠ p → it k (upd (upd H1 p o) D (.lst ys)) x (upd (upd H1 p o) D (.lst ys)) → Bx o → (∀ v o', P v → Bx o' → Q' v (upd (upd (upd H1 p o) D (.lst ys)) p o')) → te ((wipe σ vs).set i (some x)) (upd (upd H1 p o) D (.lst ys)) Q')
    (hw : ∀ v, wipe ((wipe σ vs).set i v) vs = wipe σ vs) (q : ∀ D xs o, H1 D = none → D ≠ p → xs.length = n → (∀ v ∈ xs, P v) → Bx o → Q (.ref D) (upd (upd H1 p o) D (.lst xs))) : lcp n it st (gName i) tYes te vs σ H1 Q := by
  obtain ⟨o0, hp⟩ := hp
  refine lcp_i (fun D k H => ∃ xs o, xs.length = k ∧ (∀ v ∈ xs, P v) ∧ Bx o ∧ H = upd (upd H1 p o) D (.lst xs)) (fun D hD => ⟨[], o0, rfl, (fun _ z => nomatch z), hb _ hp, by rw [upd_self hp]⟩) (fun D k H hD _ e => by obtain ⟨xs, o, _, _, _, rfl⟩ := e; exact hst D _ _ hD) ?_ ?_
  · rintro D k x H H' hD hk ⟨xs, o, hl, hP, hB, rfl⟩ hi
    have e := hit _ _ _ _ hk hi
    subst e
    have hne : D ≠ p := fun e => by rw [e, hp] at hD; cases hD
    refine ⟨hw _, ?_⟩
    unfold tYes; dsimp only
    rw [if_pos rfl]
    refine he k x D o xs _ hk hD hne hi hB fun v o' hv hB' => ⟨xs, ?_, ?_, xs ++ [v], o', ?_, ?_, hB', ?_⟩
    · rw [upd_ne hne]; exact upd_at
    · rw [hl, sizeLine_eq]; omega
    · rw [List.length_append, hl]; rfl
    · intro w hw
      rcases List.mem_append.mp hw with h | h
      · exact hP w h
      · rw [List.mem_singleton.mp h]; exact hv
    · funext c
      unfold upd
      by_cases h1 : c = D
      · simp [h1, hne]
      · by_cases h2 : c = p
        · simp [h1, h2]
        · simp [h1, h2]
  · rintro D H hD ⟨xs, o, hl, hP, hB, rfl⟩
    have hne : D ≠ p := fun e => by rw [e, hp] at hD; cases hD
    exact q D xs o hD hne hl hP hB
theorem inV_str (a : Str) (l : List Str) : inV (.str a) (l.map V.str) = decide (a ∈ l) := by
  unfold inV
  induction l with
  | nil => rfl
  | cons b l ih =>
    rw [List.map_cons, List.any_cons, ih]
    show ((b == a) || decide (a ∈ l)) = _
    by_cases h : b = a
    · subst h; simp
    · have h2 : ¬ a = b := fun e => h e.symm
      simp [h, h2]
theorem inV2 (a b c : List Nat) : inV (.str (S a)) [.str (S b), .str (S c)] = (decide (a = b) || decide (a = c)) := by
  show inV (.str (S a)) ([S b, S c].map V.str) = _
  rw [inV_str]
  have e : ∀ x y : List Nat, (S x = S y) ↔ x = y := fun x y => ⟨fun h => congrArg tl h, fun h => by rw [h]⟩
  rw [← Bool.decide_or, decide_eq_decide]
  simp [e]
theorem loop_r {n : Nat} {lo : Int} {g : Nat} {tb : TS} {D : Ends} {σ : St} {H : Hp} (Pv : Nat → St → Hp → Prop) (h0 : Pv 0 σ H)
    (hs : ∀ i σ H, i < n → Pv i σ H → tb { D with nx := Pv (i + 1), ct := Pv (i + 1), bk := D.nx } (σ.set g (some (.int (lo + i)))) H) (hd : ∀ σ H, Pv n σ H → D.nx σ H) : loop n (itR lo) (fun _ => True) (gName g) tb D σ H := by
  refine loop_i Pv h0 (fun _ _ _ _ _ => trivial) ?_ hd
  rintro i x σ H H' hi hP ⟨rfl, rfl⟩
  exact hs i σ H' hi hP
theorem loop_s {l : List Nat} {g : Nat} {tb : TS} {D : Ends} {σ : St} {H : Hp} (Pv : Nat → St → Hp → Prop) (h0 : Pv 0 σ H)
    (hs : ∀ i (hi : i < l.length) σ H, Pv i σ H → tb { D with nx := Pv (i + 1), ct := Pv (i + 1), bk := D.nx } (σ.set g (some (.str (S [l[i]])))) H) (hd : ∀ σ H, Pv l.length σ H → D.nx σ H) : loop l.length (itS l) (fun _ => True) (gName g) tb D σ H := by
  refine loop_i Pv h0 (fun _ _ _ _ _ => trivial) ?_ hd
  rintro i x σ H H' hi hP ⟨rfl, c, hc, rfl⟩
  have e : c = l[i] := by rw [List.getElem?_eq_getElem hi] at hc; exact (Option.some.inj hc).symm
  subst e
  exact hs i hi σ H' hP
end Ta

set_option Elab.async false
set_option linter.all false
set_option maxRecDepth 100000
set_option maxHeartbeats 1000000
namespace Ta
open PySem PySem.Spec PyProof.Rows L2

/-- [e for x in cells], e a whole number by x -/
theorem lcp_I {cs : List Int} {p : Addr} {i : Nat} {te : TE} {σ : St} {H1 : Hp} {Q : VK} {vs : List Nat} (hp : H1 p = some (.lst (cs.map V.int)))
    (g : Int → Int) (hl : cs.length < 1000000) (he : ∀ c D H' Q', H1 D = none → c ∈ cs → (∃ ys, H' = upd H1 D (.lst ys)) → Q' (.int (g c)) H' → te ((wipe σ vs).set i (some (.int c))) H' Q')
    (hw : ∀ v, wipe ((wipe σ vs).set i v) vs = wipe σ vs) (q : ∀ D, H1 D = none → Q (.ref D) (upd H1 D (.lst ((cs.map g).map V.int)))) : lcp (cs.map V.int).length (itL (cs.map V.int)) (fun H' => H' p = some (.lst (cs.map V.int))) (gName i) tYes te vs σ H1 Q := by
  refine lcp_ML hp (fun v => match v with
    | .int c => .int (g c)
    | v => v) (by rw [List.length_map]; exact hl) ?_ hw ?_
  · rintro x D H' Q' hD hx hH hQ
    obtain ⟨c, hc, rfl⟩ := List.mem_map.mp hx
    exact he c D H' Q' hD hc hH hQ
  · intro D hD
    have e : (cs.map V.int).map (fun v => match v with
      | .int c => V.int (g c)
      | v => v) = (cs.map g).map V.int := by rw [List.map_map, List.map_map]; rfl
    rw [e]
    exact q D hD
/-- for x in a list that stands -/
theorem loop_l {xs : List V} {p : Addr} {g : Nat} {tb : TS} {D : Ends} {σ : St} {H : Hp} (Pv : Nat → St → Hp → Prop) (h0 : Pv 0 σ H) (hst : ∀ i σ H, i ≤ xs.length → Pv i σ H → H p = some (.lst xs))
    (hs : ∀ i (hi : i < xs.length) σ H, Pv i σ H → tb { D with nx := Pv (i + 1), ct := Pv (i + 1), bk := D.nx } (σ.set g (some xs[i])) H) (hd : ∀ σ H, Pv xs.length σ H → D.nx σ H) :
    loop xs.length (itL xs) (fun H' => H' p = some (.lst xs)) (gName g) tb D σ H := by
  refine loop_i Pv h0 hst ?_ hd
  rintro i x σ H H' hi hP ⟨rfl, hx⟩
  rw [List.getElem?_eq_getElem hi] at hx
  cases hx
  exact hs i hi σ H' hP
theorem Kp.fr {F : List Addr} {H H1 H2 : Hp} (a : Kp [] H H1) (b : Kp F H1 H2) (hF : ∀ z ∈ F, H z = Option.none) : Kp [] H H2 := fun z u hz _ => b z u (a z u hz (fun h => nomatch h)) (fun hm => by rw [hF z hm] at hz; cases hz)
theorem Kp.fu {H H1 : Hp} {p : Addr} {o : HO} (a : Kp [] H H1) (hp : H p = Option.none) : Kp [] H (upd H1 p o) := Kp.own a hp
theorem Kp.get3 {p r t : Addr} {H H' : Hp} {q : Addr} {o : HO} (a : Kp [p, r, t] H H') (h : H q = some o) (n : q ≠ p) (n2 : q ≠ r) (n3 : q ≠ t) : H' q = some o := a q o h (by simp [n, n2, n3])
theorem ne_x {H : Hp} {p q : Addr} (hp : H p = none) (h : ∃ o, H q = some o) : p ≠ q := by
  obtain ⟨o, h⟩ := h
  exact ne_none' h hp
theorem ne_y {H : Hp} {p q : Addr} (hp : H p = none) (h : ∃ o, H q = some o) : q ≠ p := (ne_x hp h).symm
theorem itm_z0 {α : Type} {x : α} {xs : List α} {i : Int} {k : α → Prop} (e : i = 0) (q : k x) : itm (x :: xs) i k := itm_n (j := 0) e rfl q
theorem itm_z1 {α : Type} {x y : α} {xs : List α} {i : Int} {k : α → Prop} (e : i = 1) (q : k y) : itm (x :: y :: xs) i k := itm_n (j := 1) e rfl q
theorem itm_2 {α : Type} {x y : α} {i : Int} {k : α → Prop} (h0 : 0 ≤ i) (h1 : i < 2) (q0 : i = 0 → k x) (q1 : i = 1 → k y) : itm [x, y] i k := by
  have : i = 0 ∨ i = 1 := by omega
  rcases this with e | e
  · exact itm_z0 e (q0 e)
  · exact itm_z1 e (q1 e)
theorem itm_3 {α : Type} {x y z : α} {i : Int} {k : α → Prop} (h0 : 0 ≤ i) (h1 : i < 3) (q0 : i = 0 → k x) (q1 : i = 1 → k y) (q2 : i = 2 → k z) : itm [x, y, z] i k := by
  have : i = 0 ∨ i = 1 ∨ i = 2 := by omega
  rcases this with e | e | e
  · exact itm_z0 e (q0 e)
  · exact itm_z1 e (q1 e)
  · exact itm_n (j := 2) e rfl (q2 e)
theorem loop_r2 {lo : Int} {g : Nat} {tb : TS} {D : Ends} {σ : St} {H : Hp}
    (h : tb { D with nx := fun σ' H' => tb { D with nx := D.nx, ct := D.nx, bk := D.nx } (σ'.set g (some (.int (lo + 1)))) H', ct := fun σ' H' => tb { D with nx := D.nx, ct := D.nx, bk := D.nx } (σ'.set g (some (.int (lo + 1)))) H', bk := D.nx } (σ.set g (some (.int lo))) H) :
    loop 2 (itR lo) (fun _ => True) (gName g) tb D σ H := by
  refine loop_r (fun i σ' H' => match i with
    | 0 => σ' = σ ∧ H' = H
    | 1 => tb { D with nx := D.nx, ct := D.nx, bk := D.nx } (σ'.set g (some (.int (lo + 1)))) H'
    | _ => D.nx σ' H') ⟨rfl, rfl⟩ ?_ ?_
  · rintro i σ' H' hi hP
    match i, hi, hP with
    | 0, _, hP =>
      obtain ⟨rfl, rfl⟩ := hP
      have e : lo + ((0 : Nat) : Int) = lo := by omega
      rw [e]
      exact h
    | 1, _, hP => exact hP
  · exact fun σ' H' h => h
theorem itm_0 {α : Type} {x : α} {xs : List α} {k : α → Prop} (q : k x) : itm (x :: xs) 0 k := itm_n (j := 0) rfl rfl q
theorem itm_1 {α : Type} {x y : α} {xs : List α} {k : α → Prop} (q : k y) : itm (x :: y :: xs) 1 k := itm_n (j := 1) rfl rfl q
end Ta

set_option Elab.async false
set_option linter.all false
set_option maxRecDepth 100000
set_option maxHeartbeats 1000000
namespace Ta
open PySem PySem.Spec PyProof.Rows L2

section
variable {X : Cx}
/-! ### list(x), x a text too -/
def zListX (K : PySem.W.Frag) : List V → Hp → VK → Prop := fun xs H Q => one xs fun x => match x with
  | .str z => (tl z).length ≤ 1000000 ∧ ∀ l, H l = none → Q (.ref l) (upd H l (.lst (sgn (tl z))))
  | .ref p => look H p fun o => (match o with
    | some (.lst ys) => ∀ l, H l = none → Q (.ref l) (upd H l (.lst ys))
    | some (.tup ys) => ∀ l, H l = none → Q (.ref l) (upd H l (.lst ys))
    | some (.frz _ (.lst ys)) => ∀ l, H l = none → Q (.ref l) (upd H l (.lst ys))
    | _ => False)
  | _ => False
theorem crlistX (hcalm : X.calm = true) : CallR X (.type "list") (zListX X.K) := by
  intro pins s σ H xs us Q I r q
  obtain ⟨x, rfl, q1⟩ := one_e q
  cases x with
  | str z =>
    obtain ⟨h1, q1⟩ := q1
    obtain ⟨u, eu, rx⟩ := vals1 r
    subst eu
    obtain ⟨t, rfl⟩ := rx
    have hsz : z.cps.size = (tl z).length := by simp [tl]
    refine PySem.call_list_str (I.ok.hd hcalm) z t (fun h' tk acc' c' hk hS hacc => ?_) (by rw [hsz, sizeLine_eq]; omega)
    have hal : acc'.toList.length = (one1 (tl z)).length := by rw [Array.length_toList, hacc.1, hsz]; simp [one1]
    have hSt : StrsAre acc'.toList (one1 (tl z)) := L2.strs_at hal fun j v e => by
      obtain ⟨c, u, e1, e2⟩ := hacc.2 j v (by rw [← Array.getElem?_toList]; exact e)
      exact ⟨S [c], u, by simp [one1, tl, e1], e2⟩
    have ev : (one1 (tl z)).map V.str = sgn (tl z) := by unfold sgn one1; rw [List.map_map]; rfl
    have hlen : (sgn (tl z)).length ≤ sizeLine := by unfold sgn; rw [List.length_map, sizeLine_eq]; omega
    exact ⟨.ref s.heap.objs.size, _, I.laid (t' := tk) hk (Nat.le_refl _) (show ObjOk X.prog X.w _ h' _ (.lst (sgn (tl z))) from ⟨hlen, acc'.toList, c', by rw [← ev]; exact vals_of_strs hSt, hS⟩), rfl, q1 _ (I.hok.fresh (Nat.le_refl _))⟩
  | ref p => exact crlist pins s σ H [.ref p] us Q I r q
  | _ => exact False.elim q1
/-! ### list(range(n)) -/
variable {a b : Expr} {ta tb : TE}
abbrev TRg := St → Hp → (Int → Int → Hp → Prop) → Prop
def tRa (ta : TE) : TRg := fun σ H Q => ta σ H fun x H1 => match x with
  | .int n => Q 0 n H1
  | _ => False
def tRb (ta tb : TE) : TRg := fun σ H Q => ta σ H fun x H1 => tb σ H1 fun y H2 => match x with
  | .int n => (match y with
    | .int m => Q n m H2
    | _ => False)
  | _ => False
theorem prga {p pos : Pos} (hm : X.mg "range" = none) (ha : PE X a ta) (hg : Gl X "range" := by rfl) (na : starEach [a] X.env = (false, eval a X.env) :: starEach [] X.env := by rfl) : PRg X (.Call (.Name "range" p) [a] [] pos) (tRa ta) := by
  intro pins s σ H Q I h
  refine Call_ (ld_blt I hg hm boot_range (PyProof.Rows.callWith_type1 (one_arg ha I h (fun v s2 x H2 I2 r q => ?_) na) na))
  cases x with
  | int n =>
    obtain ⟨t, rfl⟩ := r
    exact call_range_1 ⟨_, 0, n, _, _, _, H2, rfl, IsRange.new _ _ _ _ _ _ _, I2.kept fun b u e => Heap.get?_push_of_some _ e, q⟩
  | _ => exact False.elim q
theorem prgb {p pos : Pos} (hm : X.mg "range" = none) (ha : PE X a ta) (hb : PE X b tb) (hg : Gl X "range" := by rfl) (na : starEach [a, b] X.env = (false, eval a X.env) :: starEach [b] X.env := by rfl)
    (nb : starEach [b] X.env = (false, eval b X.env) :: starEach [] X.env := by rfl) (hp : ∀ pos, (backTo pos (starEach [b] X.env)).any (·.1) = false := by exact fun _ => rfl) : PRg X (.Call (.Name "range" p) [a, b] [] pos) (tRb ta tb) := by
  intro pins s σ H Q I h
  refine Call_ (ld_blt I hg hm boot_range (PyProof.Rows.callWith_type1 (args_cons (thn (ha.run pins s σ H _ I h) fun v s1 ⟨x, H1, I1, r1, q1⟩ => one_arg hb I1 q1 (fun u s2 y H2 I2 r2 q => ?_) nb) na) na (hp _)))
  cases x with
  | int i =>
    cases y with
    | int j =>
      obtain ⟨t, rfl⟩ := r1
      obtain ⟨t', rfl⟩ := r2
      exact call_range_2 ⟨_, i, j, _, _, _, H2, rfl, IsRange.new _ _ _ _ _ _ _, I2.kept fun b u e => Heap.get?_push_of_some _ e, q⟩
    | _ => exact False.elim q
  | _ => exact False.elim q
theorem plrg {e : Expr} {te : TRg} {p pos : Pos} (hc : X.calm = true) (hm : X.mg "list" = none) (he : PRg X e te) (hg : Gl X "list" := by rfl) (na : starEach [e] X.env = (false, eval e X.env) :: starEach [] X.env := by rfl) : PE X (.Call (.Name "list" p) [e] [] pos) (tLstRg te) := pe_listRg hc hg hm he na
theorem rg_ok {a b : Int} (h0 : 0 ≤ a) (h1 : b ≤ 1000000) (h2 : a ≤ 1000000) (h3 : 0 ≤ b) : RgOk a b := RgOk.of_le h0 (by omega) (by omega) h3
end
end Ta

set_option Elab.async false
set_option linter.all false
set_option maxRecDepth 100000
set_option maxHeartbeats 1000000
namespace Ta
open PySem PySem.Spec PyProof.Rows L2

section
variable {X : Cx}
/-! ### match e: texts, then anything -/
abbrev TM := V → TS
structure PMs (X : Cx) (cs : List MatchCase) (t : TM) : Prop where
  run : ∀ (first : Bool) (pins : List (Addr × Obj)) (s : Shared) (σ : St) (H : Hp) (D : Ends) (x : V) (v : Value), Inv X pins σ H s → RelV x v → t x D σ H → wpAny (model X.prog X.w) X.A (matchCases cs X.env v first) (SP X pins D) X.xe s
def mWild (t : TS) : TM := fun _ => t
def mVal (l : List Nat) (t : TS) (r : TM) : TM := fun x D σ H => match x with
  | .str a => cnd (decide (tl a = l)) (t D σ H) (r x D σ H)
  | _ => False
def tMat (te : TE) (tm : TM) : TS := fun D σ H => te σ H fun x H1 => tm x D σ H1
variable {body : List Stmt} {t : TS} {r tm : TM} {rest cs : List MatchCase} {p1 p2 pos : Pos} {e : Expr} {te : TE}
theorem pms_wild (h : PSs X body t) : PMs X [⟨.MatchAs none none p1, none, body⟩] (mWild t) := by
  refine ⟨fun first pins s σ H D x v I rx q => ?_⟩
  unfold matchCases
  refine wpAny_bind (wpAny_holding ?_)
  unfold matchPattern
  refine wpAny_pure ?_
  refine wpAny_bind (wpAny_holding ?_)
  refine wpAny_pure ?_
  exact h.run pins s σ H D I q
theorem pms_val (l : List Nat) {y : Str} {j : Nat} (hb : PSs X body t) (hr : PMs X rest r) (hy : y = S l := by decide +kernel) : PMs X (⟨.MatchValue (.Constant (.str y) j p1) p2, none, body⟩ :: rest) (mVal l t r) := by
  subst hy
  refine ⟨fun first pins s σ H D x v I rx q => ?_⟩
  cases x with
  | str a =>
    unfold matchCases
    refine wpAny_bind (wpAny_holding ?_)
    unfold matchPattern
    refine wpAny_bind (thn ((pe_str (X := X) (x := S l) (j := j) (pos := p1)).run pins s σ H (fun z H' => z = .str (S l) ∧ H' = H) I ⟨rfl, rfl⟩) fun u s1 hu => ?_)
    obtain ⟨z, H1, I1, rz, e1, e2⟩ := hu
    subst e1
    subst e2
    refine wpAny_bind (wpAny_standAt ?_)
    have hs : rEq (.str a) (.str (S l)) H1 fun z H' => z = .bl (decide (tl a = l)) ∧ H' = H1 := by
      refine ⟨rfl, ?_, rfl⟩
      have : decide (V.str a = V.str (S l)) = decide (tl a = l) := decide_eq_decide.mpr ⟨fun z => by injection z with z; rw [z], fun z => by rw [← z, S_tl]⟩
      rw [this]
    refine wpAny_bind (thn (op_eq pins s1 σ H1 (.str a) (.str (S l)) v u _ I1 rx rz hs) fun c s2 hc => ?_)
    obtain ⟨z2, H2, I2, rz2, e3, e4⟩ := hc
    subst e3
    subst e4
    cases rz2
    refine wpAny_bind (wpAny_truthy_bool ?_)
    have q := cnd_e q
    by_cases hk : tl a = l
    · rw [decide_eq_true hk] at q ⊢
      refine wpAny_pure ?_
      refine wpAny_bind (wpAny_holding ?_)
      refine wpAny_pure ?_
      exact hb.run pins s2 σ H2 D I2 q
    · rw [decide_eq_false hk] at q ⊢
      refine wpAny_pure ?_
      exact hr.run false pins s2 σ H2 D (.str a) v I2 rx q
  | _ => exact False.elim q
theorem psmat (he : PE X e te) (h : PMs X cs tm) : PS X (.Match e cs pos) (tMat te tm) := by
  refine ⟨fun pins s σ H D I q => ?_⟩
  show wpAny _ _ (standAt pos >>= fun _ => eval e X.env >>= fun v => matchCases cs X.env v true) _ _ _
  refine wpAny_bind (wpAny_standAt ?_)
  refine wpAny_bind (thn (he.run pins s σ H _ I q) fun v s1 hv => ?_)
  obtain ⟨x, H1, I1, rx, q1⟩ := hv
  exact h.run true pins s1 σ H1 D x v I1 rx q1
end
end Ta

set_option Elab.async false
set_option linter.all false
set_option maxRecDepth 100000
set_option maxHeartbeats 3200000
namespace Ta
open PySem PySem.Spec PyProof.Rows L2

/-! ### sets of texts whose table rises -/
def txOf (z : Int × Value) : Str := match z.2 with | .str y _ => y | _ => Str.empty
def GoodT (P : Program) (w : World) (z : Int × Value) : Prop := ∃ y u, z.2 = Value.str y u ∧ z.1 = (strKind P w).hash y
/-- the set of texts at p: T its members, m their number -/
def SetT (P : Program) (w : World) (hp : Heap) (p : Addr) (T : Str → Bool) (m : Nat) : Prop :=
  ∃ ob xs n tb, hp.get? p = some ob ∧ ob.ExactSet ∧ ob.data = .set xs n tb ∧ ((∀ z ∈ xs.toList, GoodT P w z) ∧ (xs.toList.map txOf).Nodup ∧ ∀ y, T y = true ↔ y ∈ xs.toList.map txOf) ∧
    (xs.size < scanBound ∧ tb.fits xs.size = true ∧ xs.size = m) ∧ Ris tb.place.toList ∧ (w.params.followText "set-order" = true ∨ tb.led = true)
section
variable {P : Program} {w : World} {hp hp' : Heap} {p : Addr} {T : Str → Bool} {m : Nat}
theorem goodT_el {l : List (Int × Value)} (g : ∀ z ∈ l, GoodT P w z) : ElemsOf (strKind P w) l := fun z hz => by
  obtain ⟨y, u, e1, e2⟩ := g z hz
  exact ⟨⟨y, by rw [e1]; exact strKind_is P w y u, e2⟩, by rw [e1] <;> rfl⟩
theorem goodT_is {z : Int × Value} (g : GoodT P w z) (y : Str) : (strKind P w).is y z.2 = true ↔ txOf z = y := by
  obtain ⟨x, u, e1, _⟩ := g
  unfold txOf
  rw [e1]
  show ((x == y) = true) ↔ x = y
  exact beq_iff_eq
theorem goodT_mem {l : List (Int × Value)} (g : ∀ z ∈ l, GoodT P w z) (y : Str) : y ∈ l.map txOf ↔ ∃ z ∈ l, (strKind P w).is y z.2 = true := by
  rw [List.mem_map]
  exact ⟨fun ⟨z, hz, q⟩ => ⟨z, hz, (goodT_is (g z hz) y).2 q⟩, fun ⟨z, hz, q⟩ => ⟨z, hz, (goodT_is (g z hz) y).1 q⟩⟩
theorem SetT.kept (R : SetT P w hp p T m) (k : ∀ ob, hp.get? p = some ob → hp'.get? p = some ob) : SetT P w hp' p T m := by
  obtain ⟨ob, xs, n, tb, h1, r⟩ := R
  exact ⟨ob, xs, n, tb, k ob h1, r⟩
theorem SetT.same {T' : Str → Bool} {m' : Nat} (R : SetT P w hp p T m) (e : ∀ y, T' y = T y) (em : m = m') : SetT P w hp p T' m' := by
  have : T' = T := funext e
  rw [this, ← em]; exact R
end
section
variable {P : Program} {w : World} {A : Around} {E : Value → Shared → Prop} {s : Shared} {p : Addr} {T : Str → Bool} {m : Nat}
theorem setT_tail {g : Bool → Sem Unit} (hg : ∀ (b : Bool) (s1 : Shared) (Q1 : Unit → Shared → Prop), Q1 () s1 → wpAny (model P w) A (g b) Q1 E s1)
    {ob : Obj} {xs ys : Array (Int × Value)} {n : Nat} {tb tc : SetTable} (h1 : s.heap.get? p = some ob) (h2 : ob.ExactSet) (h3 : ob.data = .set xs n tb)
    {U : Str → Bool} (gd : (∀ z ∈ ys.toList, GoodT P w z) ∧ (ys.toList.map txOf).Nodup ∧ ∀ y, U y = true ↔ y ∈ ys.toList.map txOf) (sz : ys.size < scanBound) (ft : tc.fits ys.size = true) (ri : Ris tc.place.toList)
    (ld : w.params.followText "set-order" = true ∨ tc.led = true) {dum : Bool} {R : Option Bool → Shared → Prop} (hR : ∀ h', Heap.SameBut p s.heap h' → SetT P w h' p U ys.size → R (some true) { s with heap := h' }) :
    wpAny (model P w) A (do
        storeSet p ys tc
        if (!dum && tc.tooFull) = true then do
            g (relayAll tc ys (SetTable.grown ys.size)).2.2
            storeSet p (relayAll tc ys (SetTable.grown ys.size)).1 (relayAll tc ys (SetTable.grown ys.size)).2.1
            pure (some true)
          else pure (some true)) R E s := by
  obtain ⟨gd1, gd2, gd3⟩ := gd
  refine wpAny_bind (wpAny_storeSet_of h1 h3 ?_ (fits_of_scanBound sz))
  have k1 := store_at (es' := ys) (t' := tc) h1 h3
  have b1 := Heap.SameBut.update s.heap p (Obj.putSet ys tc)
  split
  · have v1 := relayAll_perm tc ys (SetTable.grown ys.size)
    have v2 := relayAll_fits tc ys (SetTable.grown ys.size)
    have v3 := relayAll_ris tc ys (SetTable.grown ys.size)
    have v4 := relayAll_led tc ys (SetTable.grown ys.size)
    generalize relayAll tc ys (SetTable.grown ys.size) = Y at v1 v2 v3 v4 ⊢
    obtain ⟨zs, td, gave⟩ := Y
    dsimp only at v1 v2 v3 v4 ⊢
    have sz2 : zs.size = ys.size := by rw [← Array.length_toList, v1.length_eq, Array.length_toList]
    have sz3 : zs.size < scanBound := by rw [sz2]; exact sz
    refine wpAny_bind (hg _ _ _ ?_)
    refine wpAny_bind (wpAny_storeSet_of k1 rfl ?_ (fits_of_scanBound sz3))
    have k2 := store_at (es' := zs) (t' := td) k1 rfl
    refine wpAny_pure (hR _ (b1.trans (Heap.SameBut.update _ p _)) ⟨_, zs, _, td, k2, h2, rfl, ⟨fun z hz => gd1 z (v1.mem_iff.mp hz), (v1.map txOf).nodup_iff.mpr gd2, fun y => (gd3 y).trans (v1.map txOf).mem_iff.symm⟩, ⟨sz3, v2, sz2⟩, v3, ld.imp id fun z => by rw [v4]; exact z⟩)
  · exact wpAny_pure (hR _ b1 ⟨_, ys, _, tc, k1, h2, rfl, ⟨gd1, gd2, gd3⟩, ⟨sz, ft, rfl⟩, ri, ld⟩)
theorem setT_add {y : Str} {u : Tok} {Q : Bool → Shared → Prop} (R : SetT P w s.heap p T m) (room : m + 1 < scanBound)
    (hQ : ∀ h', Heap.SameBut p s.heap h' → SetT P w h' p (fun x => T x || decide (x = y)) (if T y = true then m else m + 1) → Q (!T y) { s with heap := h' }) :
    wpAny (model P w) A (setAddHashed p (.str y u) ((strKind P w).hash y)) Q E s := by
  obtain ⟨ob, xs, n, tb, h1, h2, h3, ⟨g1, g2, g3⟩, ⟨c1, c2, c3⟩, ri, ld⟩ := R
  have hkey : (strKind P w).is y (.str y u) = true := strKind_is P w y u
  have hsc : (Value.str y u).scannable = true := rfl
  have hel : ElemsOf (strKind P w) xs.toList := goodT_el g1
  unfold setAddHashed setAddHashedIn
  refine wpAny_holding (wpAny_bind (wpAny_setState_of h1 h3 c2 ?_))
  dsimp only
  rw [byScan_of hsc c1 hel]
  simp only [↓reduceIte]
  unfold setAddByScan
  refine wpAny_bind ?_
  refine wpAny_bind (wpAny_rule ?_)
  refine wpAny_bind (wpAny_setScan_of hkey h1 h3 c2 hel ?_)
  cases hfi : List.findIdx? (fun z => (strKind P w).is y z.2) xs.toList with
  | some j =>
    dsimp only
    obtain ⟨hj, pj, _⟩ := List.findIdx?_eq_some_iff_getElem.mp hfi
    have hT : T y = true := (g3 y).2 ((goodT_mem (P := P) (w := w) g1 y).2 ⟨xs.toList[j], List.getElem_mem hj, pj⟩)
    refine wpAny_pure (wpAny_pure ?_)
    have q := hQ s.heap (Heap.SameBut.refl p s.heap) ⟨ob, xs, n, tb, h1, h2, h3, ⟨g1, g2, fun i => by
      rw [Bool.or_eq_true, decide_eq_true_eq, ← g3 i]
      exact ⟨fun z => z.elim id (fun e => e ▸ hT), .inl⟩⟩, ⟨c1, c2, by rw [if_pos hT]; exact c3⟩, ri, ld⟩
    rw [hT] at q
    exact q
  | none =>
    dsimp only
    have hny : y ∉ xs.toList.map txOf := fun z => by
      obtain ⟨e, he, q⟩ := (goodT_mem (P := P) (w := w) g1 y).1 z
      have c := List.findIdx?_eq_none_iff.mp hfi e he
      rw [q] at c
      cases c
    have hT : T y = false := by
      cases q : T y with
      | false => rfl
      | true => exact absurd ((g3 y).1 q) hny
    have hgw : ∀ (b : Bool) {s1 : Shared} {Q1 : Unit → Shared → Prop}, Q1 () s1 → wpAny (model P w) A (match b with | true => rule "set.scan.the-table-gave-way" | false => pure ()) Q1 E s1 := by
      intro b s1 Q1 q
      cases b
      · exact wpAny_pure q
      · exact wpAny_rule q
    have v1 := layNew_perm tb xs ((strKind P w).hash y) (.str y u)
    have v2 := layNew_fits tb xs ((strKind P w).hash y) (.str y u)
    have v3 := layNew_ris tb xs ((strKind P w).hash y) (.str y u) ri
    have v4 := layNew_led tb xs ((strKind P w).hash y) (.str y u)
    generalize layNew tb xs ((strKind P w).hash y) (.str y u) = Y at v1 v2 v3 v4 ⊢
    obtain ⟨ys, tc, dum, gave⟩ := Y
    dsimp only at v1 v2 v3 v4 ⊢
    rw [Array.toList_push] at v1
    have pc : ys.toList.Perm (((strKind P w).hash y, Value.str y u) :: xs.toList) := v1.trans (List.perm_append_singleton _ _)
    have pk : (ys.toList.map txOf).Perm (y :: xs.toList.map txOf) := pc.map txOf
    have gd : (∀ z ∈ ys.toList, GoodT P w z) ∧ (ys.toList.map txOf).Nodup ∧ ∀ i, (T i || decide (i = y)) = true ↔ i ∈ ys.toList.map txOf := by
      refine ⟨fun e he => ?_, pk.nodup_iff.mpr (List.nodup_cons.mpr ⟨hny, g2⟩), fun i => ?_⟩
      · rcases List.mem_cons.mp (pc.mem_iff.mp he) with z | z
        · rw [z]; exact ⟨y, u, rfl, rfl⟩
        · exact g1 e z
      · rw [Bool.or_eq_true, decide_eq_true_eq, g3 i, pk.mem_iff, List.mem_cons]
        exact Or.comm
    have hsz : ys.size = m + 1 := by rw [← Array.length_toList, pc.length_eq, List.length_cons, Array.length_toList, c3]
    have sz : ys.size < scanBound := by rw [hsz]; exact room
    have ld1 : w.params.followText "set-order" = true ∨ tc.led = true := ld.imp id fun z => by rw [v4]; exact z
    have fin : ∀ h', Heap.SameBut p s.heap h' → SetT P w h' p (fun x => T x || decide (x = y)) ys.size → Q true { s with heap := h' } := fun h' sb r => by
      have q := hQ h' sb
      rw [hT] at q
      rw [hsz] at r
      exact q r
    refine wpAny_bind (hgw _ ?_)
    have hgv : ∀ (b : Bool) (s1 : Shared) (Q1 : Unit → Shared → Prop), Q1 () s1 → wpAny (model P w) A (match b with | true => rule "set.scan.the-table-gave-way" | false => pure ()) Q1 E s1 := fun b s1 Q1 q => hgw b q
    split
    · refine wpAny_bind ?_
      rw [hashByValue_scannable 8 hsc]
      refine wpAny_pure ?_
      refine setT_tail ?_ h1 h2 h3 gd sz ?_ ?_ ?_ fun h' sb r => ?_
      · intro b s1 Q1 q; cases b <;> first | exact wpAny_pure q | exact wpAny_rule q
      · first | (split <;> first | exact v2 | exact SetTable.fits_plain_off v2) | exact v2
      · first | (split <;> exact v3) | exact v3
      · first | (split <;> exact ld1) | exact ld1
      · dsimp only; exact wpAny_pure (fin h' sb r)
    · refine wpAny_bind (wpAny_pure ?_)
      simp only [↓reduceIte]
      refine setT_tail ?_ h1 h2 h3 gd sz v2 v3 ld1 fun h' sb r => ?_
      · intro b s1 Q1 q; cases b <;> first | exact wpAny_pure q | exact wpAny_rule q
      · dsimp only; exact wpAny_pure (fin h' sb r)
end
end Ta

set_option Elab.async false
set_option linter.all false
set_option maxRecDepth 100000
set_option maxHeartbeats 3200000
namespace Ta
open PySem PySem.Spec PyProof.Rows L2

section
variable {prog : Program} {w : World} {A : Around} {R : Result → Shared → Prop} {I : Addr} {fp wr : List Addr} {G : Array GenState → Array GenState → Prop} {n : Nat} {P : Nat → Value → Prop} {St : Nat → Shared → Prop}
abbrev tin (xs : List Str) : Str → Bool := fun y => xs.any (· == y)
abbrev led0 (w : World) : Bool := !w.params.followText "set-order"
abbrev set0 (w : World) : Obj := { cls := .type "set", dict := none, data := .set #[] 0 (.fresh 0 0 (led0 w)) }
theorem setT_fresh {hp : Heap} {p : Addr} (h : hp.get? p = some (set0 w)) : SetT prog w hp p (tin []) 0 := by
  refine ⟨_, #[], 0, _, h, ⟨rfl, rfl, rfl⟩, rfl, ⟨fun z hz => (by cases hz), .nil, fun y => ?_⟩, ⟨by unfold scanBound; decide, rfl, rfl⟩, .nil, ?_⟩
  · simp [tin]
  · cases e : w.params.followText "set-order" with
    | true => exact .inl rfl
    | false => exact .inr (by show led0 w = true; unfold led0; rw [e]; rfl)
theorem loopT (W : WalksS prog w A.in1 I fp wr G n P St) (D : Addr) (hDf : D ∉ fp) (xs : List Str) (hsz : xs.length = n) (hn1 : n + 1 < scanBound)
    (hval : ∀ i v, P i v → ∃ t, v = .str (xs.getD i Str.empty) t) :
    ∀ (k i : Nat) (s : Shared), n - i = k → i ≤ n → St i s → SetT prog w s.heap D (tin (xs.take i)) (dn (xs.take i)) →
      (∀ s', Moved (D :: wr) G s s' → SetT prog w s'.heap D (tin xs) (dn xs) → R (.ok (.ret .none)) s') →
      codeAny (model prog w) A (.builtin "set.update.loop" ⟨[.ref D, .ref I], []⟩) R s := by
  have hDw : D ∉ wr := fun h => hDf (W.sub _ h)
  have hsub : ∀ b ∈ wr, b ∈ D :: wr := fun b hb => List.mem_cons_of_mem _ hb
  intro k
  induction k with
  | zero =>
    intro i s hk hi hst hS hR
    have hin : i = n := by omega
    subst hin
    refine codeAny_builtin PyProof.Rows.F.entry_set_update_loop ?_
    rw [Around.under_plainId PyProof.Rows.F.plain_set_update_loop _]
    show wpAny _ A.in1 (pyNext (.ref I) >>= _) _ _ s
    refine wpAny_bind (W.done s _ _ hst fun s' hm => ?_)
    show wpAny _ A.in1 (ret Value.none) _ _ s'
    rw [List.take_of_length_le (Nat.le_of_eq hsz)] at hS
    exact wpAny_pure (hR s' (hm.mono hsub) (hS.kept fun o e => hm.heap D o hDw e))
  | succ k ih =>
    intro i s hk hi hst hS hR
    have hlt : i < n := by omega
    have hlx : i < xs.length := by omega
    refine codeAny_builtin PyProof.Rows.F.entry_set_update_loop ?_
    rw [Around.under_plainId PyProof.Rows.F.plain_set_update_loop _]
    show wpAny _ A.in1 (pyNext (.ref I) >>= _) _ _ s
    refine wpAny_bind (W.item i s _ _ hlt hst fun v s' hP hst' hm => ?_)
    obtain ⟨t, rfl⟩ := hval i v hP
    have hS' : SetT prog w s'.heap D (tin (xs.take i)) (dn (xs.take i)) := hS.kept fun o e => hm.heap D o hDw e
    show wpAny _ A.in1 (holding [Value.str (xs.getD i Str.empty) t] (setAdd D (.str (xs.getD i Str.empty) t)) >>= _) _ _ s'
    refine wpAny_bind (wpAny_holding ?_)
    unfold setAdd
    refine wpAny_holding ?_
    refine wpAny_bind ((PySem.strKind prog w).pyHash (k := xs.getD i Str.empty) (strKind_is _ _ _ _) ?_)
    have hdn := dn_le (xs.take i)
    have htk : (xs.take i).length ≤ i := by rw [List.length_take]; omega
    refine setT_add (s := { s' with toks := s'.toks + 1 }) hS' (by unfold scanBound at hn1 ⊢; omega) fun h' hsb hS2 => ?_
    have ex : xs.getD i Str.empty = xs[i] := by simp [List.getD, hlx]
    have et : xs.take (i + 1) = xs.take i ++ [xs[i]] := by rw [List.take_succ_eq_append_getElem hlx]
    have hSi : SetT prog w h' D (tin (xs.take (i + 1))) (dn (xs.take (i + 1))) := by
      refine hS2.same (fun y => ?_) ?_
      · show (xs.take (i + 1)).any (· == y) = ((xs.take i).any (· == y) || decide (y = xs.getD i Str.empty))
        rw [et, ex, List.any_append]
        congr 1
        by_cases e : y = xs[i]
        · subst e; simp
        · have hb : (xs[i] == y) = false := by simpa [beq_iff_eq] using (fun h' : xs[i] = y => e h'.symm)
          simp [hb, e]
      · rw [et, dn_snoc, ex]
    refine wpAny_pure ⟨plainId_quiet PyProof.Rows.F.plain_set_update_loop _, ih (i + 1) _ (by omega) hlt (W.frame _ s' _ _ hst' (Nat.le_succ _) fun b hb o e => ?_) hSi fun s'' hm'' hS'' => ?_⟩
    · rw [hsb.2 b (fun h : b = D => hDf (by rw [← h]; exact hb))]; exact e
    · refine hR s'' (Moved.trans W.gtrans ((hm.mono hsub).then_heap (Nat.le_succ _) fun b o hb e => ?_) hm'') hS''
      rw [hsb.2 b (fun h : b = D => hb (by rw [h]; exact List.mem_cons_self))]; exact e
end
section
variable {prog : Program} {w : World} {A : Around} {E : Value → Shared → Prop} {s : Shared}
abbrev GotT (prog : Program) (w : World) (s : Shared) (xs : List Str) (Q : Value → Shared → Prop) : Prop :=
  ∀ (h' : Heap) (tk : Nat), SetT prog w h' s.heap.objs.size (tin xs) (dn xs) → (∀ b o, b < s.heap.objs.size → s.heap.get? b = some o → h'.get? b = some o) → Q (.ref s.heap.objs.size) { s with heap := h', toks := tk }
theorem strs_get : ∀ {us : List Value} {xs : List Str}, StrsAre us xs → ∀ (i : Nat) (v : Value), us[i]? = some v → ∃ t, v = .str (xs.getD i Str.empty) t
  | _, _, .nil, i, v, h => by cases h
  | _, _, .cons _ t r, 0, v, h => ⟨t, (Option.some.inj h).symm⟩
  | _, _, .cons _ t r, i + 1, v, h => strs_get r i v h
theorem call_setT_text {x : Str} {t : Tok} {Q : Value → Shared → Prop} (hh : A.handled = none) (hn : (tl x).length + 1 < scanBound) (h : GotT prog w s (one1 (tl x)) Q) :
    wpAny (model prog w) A (call (.type "set") [.str x t]) Q E s := by
  obtain ⟨c, tl', hmro⟩ := PySem.F.called_set.mro
  have hmade := PySem.F.called_set.made
  have hsub := PySem.F.called_set.sub
  refine wpAny_call (codeAny_of_tree ?_)
  show wpAny _ _ (callAny (.type "set") _) _ _ _
  refine wpAny_pure ⟨Code.quiet_builtin _ (by decide +kernel), codeAny_builtin PySem.F.entry_type_call ?_⟩
  rw [Around.under_plain (weight_type_call_type "set" [.str x t] []) rfl]
  have h1 := PySem.F.called_set.notType
  have h2 := PySem.F.called_set.canCreate
  have hct := PySem.F.typeCall_set_1 (.str x t)
  repeat (any_goals (first | assumption | wp_step))
  refine codeAny_mono (code_set_led1 (.str x t) (E := E) (Q₁ := fun obj s₁ => obj = .ref s.heap.objs.size ∧ s₁ = { s with heap := s.heap.push (set0 w) }) ⟨rfl, rfl⟩) fun r s₁ hr => ?_
  cases r with
  | error e => exact hr
  | ok fl =>
    cases fl with
    | ret obj =>
      obtain ⟨rfl, rfl⟩ := hr
      have hS : (s.heap.push (set0 w)).get? s.heap.objs.size = some (set0 w) := Heap.get?_push_size _ rfl
      have hT : Shared.TypeIs { s with heap := s.heap.push (set0 w) } (.ref s.heap.objs.size) "set" := ⟨_, hS, rfl⟩
      have hli := PySem.F.called_set.init.lookup
      have hbi := PySem.F.called_set.init.bind (.ref s.heap.objs.size)
      repeat (any_goals (first | assumption | wp_step))
      refine codeAny_mono (codeAny_call_builtin (R := wants (fun r s₂ => r = .none ∧ ∃ h' tk, s₂ = { s with heap := h', toks := tk } ∧
          SetT prog w h' s.heap.objs.size (tin (one1 (tl x))) (dn (one1 (tl x))) ∧
          (∀ b o, b < s.heap.objs.size → s.heap.get? b = some o → h'.get? b = some o)) E) PySem.F.called_set.init.plain PySem.F.entry_set_init (check_set_init_1 hT ?_)) fun r₂ s₂ hr₂ => ?_
      · have hsls := PySem.F.sub_str_set
        have hslf := PySem.F.sub_str_frozenset
        have hne : (Value.type "str" == Value.type "dict") = false := by decide
        unfold Builtin.«set.__init__» noKeywords Builtin.Frozenset.updateFrom
        generalize hPI : pyIter = PI
        wp_walk
        subst hPI
        refine wpAny_pyIter_str fun o St W hst => ?_
        refine wpAny_bind (wpAny_runValue ?_)
        have hh3 : A.in1.in1.in1.handled = none := by simp [hh]
        have hSf : s.heap.objs.size ∉ [(s.heap.push (set0 w)).objs.size] := by
          rw [Heap.size_push]; simp only [List.mem_singleton]
          exact Nat.ne_of_lt (Nat.lt_succ_self _)
        have hsz : (one1 (tl x)).length = x.cps.size := by simp [one1, tl]
        have hszn : x.cps.size = (tl x).length := by simp [tl]
        refine loopT ((W _ hh3).toS) s.heap.objs.size
          hSf (one1 (tl x)) hsz (by rw [hszn]; exact hn) (fun i v h => sign_one h) (x.cps.size - 0) 0 _ (by omega) (Nat.zero_le _)
          hst ?hS0 ?hR
        case hS0 => exact setT_fresh (Heap.get?_push_of_some _ hS)
        case hR =>
          intro s' hm hS'
          obtain ⟨h', g', d', tk', os'⟩ := s'
          have eg : g' = s.gens := hm.gens
          have ed : d' = s.drawn := hm.drawn
          have eo : os' = s.os := hm.os
          subst eg; subst ed; subst eo
          show wpAny _ _ _ _ _ _
          refine wpAny_pure ?_
          show wpAny _ _ (ret Value.none) _ _ _
          refine wpAny_pure ⟨rfl, h', tk', rfl, hS', fun b o hb e => ?_⟩
          have hb1 : b ≠ s.heap.objs.size := Nat.ne_of_lt hb
          have hb2 : b ≠ (s.heap.push (set0 w)).objs.size := by
            rw [Heap.size_push]; exact Nat.ne_of_lt (Nat.lt_succ_of_lt hb)
          exact hm.heap b o (by simp only [List.mem_cons, List.mem_singleton, List.not_mem_nil, or_false, not_or]; exact ⟨hb1, hb2⟩) (Heap.get?_push_of_some _ (Heap.get?_push_of_some _ e))
      · cases r₂ with
        | error e => exact hr₂
        | ok fl₂ =>
          cases fl₂ with
          | ret r =>
            obtain ⟨rfl, h', tk, rfl, hS', hk'⟩ := hr₂
            repeat (any_goals (first | assumption | wp_step))
            exact h _ _ hS' hk'
          | _ => exact hr₂.elim
    | _ => exact hr.elim
theorem call_setT_list {l : Addr} {items : Array Value} {xs : List Str} {Q : Value → Shared → Prop} (hh : A.handled = none) (hl : s.heap.IsList l items) (hxs : StrsAre items.toList xs) (hn : xs.length + 1 < scanBound) (h : GotT prog w s xs Q) :
    wpAny (model prog w) A (call (.type "set") [.ref l]) Q E s := by
  have hisz : xs.length = items.size := by
    have q := L2.vals_of_strs hxs
    have := q.length
    rw [List.length_map, Array.length_toList] at this
    exact this
  have hval : ∀ (i : Nat) (v : Value), items[i]? = some v → ∃ t, v = .str (xs.getD i Str.empty) t := fun i v hv => strs_get hxs i v (by rw [Array.getElem?_toList]; exact hv)
  obtain ⟨c, tl', hmro⟩ := PySem.F.called_set.mro
  have hmade := PySem.F.called_set.made
  have hsub := PySem.F.called_set.sub
  refine wpAny_call (codeAny_of_tree ?_)
  show wpAny _ _ (callAny (.type "set") _) _ _ _
  refine wpAny_pure ⟨Code.quiet_builtin _ (by decide +kernel), codeAny_builtin PySem.F.entry_type_call ?_⟩
  rw [Around.under_plain (weight_type_call_type "set" [.ref l] []) rfl]
  have h1 := PySem.F.called_set.notType
  have h2 := PySem.F.called_set.canCreate
  have hct := PySem.F.typeCall_set_1 (.ref l)
  repeat (any_goals (first | assumption | wp_step))
  refine codeAny_mono (code_set_led1 (.ref l) (E := E) (Q₁ := fun obj s₁ => obj = .ref s.heap.objs.size ∧ s₁ = { s with heap := s.heap.push (set0 w) }) ⟨rfl, rfl⟩) fun r s₁ hr => ?_
  cases r with
  | error e => exact hr
  | ok fl =>
    cases fl with
    | ret obj =>
      obtain ⟨rfl, rfl⟩ := hr
      have hS : (s.heap.push (set0 w)).get? s.heap.objs.size = some (set0 w) := Heap.get?_push_size _ rfl
      have hT : Shared.TypeIs { s with heap := s.heap.push (set0 w) } (.ref s.heap.objs.size) "set" := ⟨_, hS, rfl⟩
      have hli := PySem.F.called_set.init.lookup
      have hbi := PySem.F.called_set.init.bind (.ref s.heap.objs.size)
      repeat (any_goals (first | assumption | wp_step))
      refine codeAny_mono (codeAny_call_builtin (R := wants (fun r s₂ => r = .none ∧ ∃ h' tk, s₂ = { s with heap := h', toks := tk } ∧ SetT prog w h' s.heap.objs.size (tin xs) (dn xs) ∧
          (∀ b o, b < s.heap.objs.size → s.heap.get? b = some o → h'.get? b = some o)) E) PySem.F.called_set.init.plain PySem.F.entry_set_init (check_set_init_1 hT ?_)) fun r₂ s₂ hr₂ => ?_
      · obtain ⟨ol, hol, hcl, nl, hdl⟩ := hl
        obtain ⟨ocls, odict, odata, oslots⟩ := ol
        simp only at hcl hdl
        subst hcl; subst hdl
        have hol' : (s.heap.push (set0 w)).get? l = some { cls := .type "list", dict := odict, data := .seq items nl, slots := oslots } := Heap.get?_push_of_some _ hol
        have hsls := PySem.F.sub_list_set
        have hslf := PySem.F.sub_list_frozenset
        have hne : (Value.type "list" == Value.type "dict") = false := by decide
        have hl1 : (s.heap.push (set0 w)).IsList l items := ⟨_, hol', rfl, nl, rfl⟩
        unfold Builtin.«set.__init__» noKeywords Builtin.Frozenset.updateFrom
        generalize hPI : pyIter = PI
        wp_walk
        subst hPI
        refine wpAny_pyIter_list hl1 ?_
        refine wpAny_bind (wpAny_runValue ?_)
        have hlS : l < s.heap.objs.size := Heap.lt_size hol
        have hh3 : A.in1.in1.in1.handled = none := by simp [hh]
        have hneI : l ≠ (s.heap.push (set0 w)).objs.size := by rw [Heap.size_push]; exact Nat.ne_of_lt (Nat.lt_succ_of_lt hlS)
        have hSf : s.heap.objs.size ∉ [(s.heap.push (set0 w)).objs.size, l] := by
          rw [Heap.size_push]; simp only [List.mem_cons, List.mem_singleton, List.not_mem_nil, or_false, not_or]
          exact ⟨Nat.ne_of_lt (Nat.lt_succ_self _), Nat.ne_of_gt hlS⟩
        refine loopT ((Walks.list hh3 _ l hneI items).toS) s.heap.objs.size hSf xs hisz (by rw [← hisz]; exact hn) hval (items.size - 0) 0 _ (by omega) (Nat.zero_le _)
          ⟨⟨_, Heap.get?_push_size _ rfl, rfl, rfl⟩, (hl1.push _)⟩ ?hS0 ?hR
        case hS0 => exact setT_fresh (Heap.get?_push_of_some _ hS)
        case hR =>
          intro s' hm hS'
          obtain ⟨h', g', d', tk', os'⟩ := s'
          have eg : g' = s.gens := hm.gens
          have ed : d' = s.drawn := hm.drawn
          have eo : os' = s.os := hm.os
          subst eg; subst ed; subst eo
          show wpAny _ _ _ _ _ _
          refine wpAny_pure ?_
          show wpAny _ _ (ret Value.none) _ _ _
          refine wpAny_pure ⟨rfl, h', tk', rfl, hS', fun b o hb e => ?_⟩
          have hb1 : b ≠ s.heap.objs.size := Nat.ne_of_lt hb
          have hb2 : b ≠ (s.heap.push (set0 w)).objs.size := by rw [Heap.size_push]; exact Nat.ne_of_lt (Nat.lt_succ_of_lt hb)
          exact hm.heap b o (by simp only [List.mem_cons, List.mem_singleton, List.not_mem_nil, or_false, not_or]; exact ⟨hb1, hb2⟩) (Heap.get?_push_of_some _ (Heap.get?_push_of_some _ e))
      · cases r₂ with
        | error e => exact hr₂
        | ok fl₂ =>
          cases fl₂ with
          | ret r =>
            obtain ⟨rfl, h', tk, rfl, hS', hk'⟩ := hr₂
            repeat (any_goals (first | assumption | wp_step))
            exact h _ _ hS' hk'
          | _ => exact hr₂.elim
    | _ => exact hr.elim
end
end Ta

set_option Elab.async false
set_option linter.all false
set_option maxRecDepth 100000
set_option maxHeartbeats 3200000
namespace Ta
open PySem PySem.Spec PyProof.Rows L2

/-! ### sorted(set(x)) -/
section
variable {prog : Program} {w : World} {A : Around} {E : Value → Shared → Prop} {s : Shared}
theorem strs_of : ∀ {us : List Value}, (∀ v ∈ us, ∃ y t, v = Value.str y t) → ∃ xs, StrsAre us xs
  | [], _ => ⟨[], .nil⟩
  | v :: us, h => by
    obtain ⟨y, t, rfl⟩ := h v List.mem_cons_self
    obtain ⟨xs, r⟩ := strs_of (us := us) fun v hv => h v (List.mem_cons_of_mem _ hv)
    exact ⟨y :: xs, .cons y t r⟩
def vtx (v : Value) : Str := match v with | .str y _ => y | _ => Str.empty
theorem strs_map : ∀ {us : List Value} {xs : List Str}, StrsAre us xs → us.map vtx = xs
  | _, _, .nil => rfl
  | _, _, .cons y t r => by rw [List.map_cons, strs_map r]; rfl
theorem sorted_setT {p : Addr} {T : Str → Bool} {m : Nat} {Q : Value → Shared → Prop} (R : SetT prog w s.heap p T m) (hh : A.handled = none) (h64 : m < 64)
    (hQ : ∀ s' q (out : Array Value) (c : Nat) (ys : List Str), (∀ b o, s.heap.get? b = some o → s'.heap.get? b = some o) → s'.gens = s.gens → s'.os = s.os → s.heap.objs.size ≤ q →
      s'.heap.get? q = some (seqObj "list" out c) → StrsAre out.toList ys → sortedS ys = true → ys.Nodup → (∀ y, y ∈ ys ↔ T y = true) → ys.length = m → Q (.ref q) s') :
    wpAny (model prog w) A (call (.builtin "sorted") [.ref p]) Q E s := by
  obtain ⟨ob, xs, n, tb, h1, h2, h3, ⟨g1, g2, g3⟩, ⟨c1, c2, c3⟩, ri, ld⟩ := R
  refine Calls.call_function_entry PyProof.Rows.kind_sorted PyProof.Rows.plain_sorted PyProof.Rows.entry_sorted (PyProof.Rows.args_sorted1 _) ?_
  unfold Builtin.«sorted»
  refine wpAny_bind (m := checkCount "sorted" 1 1 _) (wpAny_pure ?_)
  refine wpAny_bind (collect_set (A := A.in1) hh ⟨ob, h1, h2.1, h3⟩ c2 c1 ri ld fun s1 vs k1 hz e1 e2 pm => ?_)
  have hvl : vs.length = m := by rw [pm.length_eq, List.length_map, Array.length_toList]; exact c3
  obtain ⟨zs, hS⟩ := strs_of (us := vs) fun v hv => by
    obtain ⟨e, he, q⟩ := List.mem_map.mp (pm.mem_iff.mp hv)
    obtain ⟨y, t, q1, _⟩ := g1 e he
    exact ⟨y, t, by rw [← q]; exact q1⟩
  have pz : zs.Perm (xs.toList.map txOf) := by
    have q := pm.map vtx
    rw [strs_map hS, List.map_map] at q
    exact q
  refine wpAny_bind (wpAny_newList ?_ (by rw [hvl, sizeLine_eq]; omega))
  have hoL : (s1.heap.push (seqObj "list" vs.toArray 0)).get? s1.heap.objs.size = some (seqObj "list" vs.toArray 0) := Heap.get?_push_size _ rfl
  refine wpAny_bind (wpAny_holding (wpAny_call_entry PyProof.Rows.slot_list_sort ⟨_, hoL, rfl⟩ PyProof.Rows.entry_list_sort
    (list_sort_treeK strKind_oneLt (s := { s1 with heap := s1.heap.push (seqObj "list" vs.toArray 0) }) hoL hS.keysOf (fun v₁ v₂ rest e => keyKind_strs (by rw [← e]; exact hS)) (by rw [hvl]; exact h64) fun st' hp hs => ⟨_, rfl, ?_⟩)
    (PyProof.Rows.args_list_sort _)))
  obtain ⟨ys, u1, u2, u3⟩ := sorted_out_str hS hp hs
  obtain ⟨c, hc⟩ := PyProof.Rows.sortedHeap_at (vs := vs) (out := (arrOf st').map (·.2)) hoL
  have pn : ys.Perm (xs.toList.map txOf) := u2.trans pz
  refine wpAny_pure ⟨_, rfl, hQ _ s1.heap.objs.size _ c ys (fun b u e => ?_) e1 e2 hz hc u1 u3 (pn.nodup_iff.mpr g2) (fun y => by rw [pn.mem_iff, ← g3 y]) ?_⟩
  · have q := k1 b u e
    have hlt := Heap.lt_size q
    show (PyProof.Rows.sortedHeap (s1.heap.push (seqObj "list" vs.toArray 0)) s1.heap.objs.size vs ((arrOf st').map (·.2))).get? b = some u
    rw [PyProof.Rows.sortedHeap_old (Nat.ne_of_lt hlt) (by rw [size_push']; exact Nat.lt_succ_of_lt hlt)]
    exact Heap.get?_push_of_some _ q
  · rw [pn.length_eq, List.length_map, Array.length_toList]; exact c3
end
/-- a list of texts -/
structure txs (vs : List V) (k : List Str → Prop) : Prop where
  out : ∃ xs : List Str, vs = xs.map V.str ∧ k xs
theorem txs_i {xs : List Str} {k : List Str → Prop} (q : k xs) : txs (xs.map V.str) k := by refine ⟨?_⟩; exact ⟨xs, rfl, q⟩
theorem txs_l {ks : List (List Nat)} {k : List Str → Prop} (q : k (ks.map S)) : txs (ks.map fun l => V.str (S l)) k := by
  refine ⟨?_⟩; exact ⟨ks.map S, by rw [List.map_map]; rfl, q⟩
theorem txs_e {vs : List V} {k : List Str → Prop} (h : txs vs k) : ∃ xs : List Str, vs = xs.map V.str ∧ k xs := by replace h := h.out; exact h
def zSS (x : V) (H : Hp) (Q : VK) : Prop := match x with
  | .str z => (tl z).length < 64 ∧ ∀ p, H p = none → Q (.ref p) (upd H p (.lst (sgn (srt (tl z).eraseDups))))
  | .ref l => look H l fun o => (match o with
    | some (.lst vs) => txs vs fun xs => xs.length < 64 ∧ ∀ ys p, sortedS ys = true → ys.Nodup → (∀ y, y ∈ ys ↔ y ∈ xs) → H p = none → Q (.ref p) (upd H p (.lst (ys.map V.str)))
    | _ => False)
  | _ => False
def tSS (ta : TE) : TE := fun σ H Q => ta σ H fun x H1 => zSS x H1 Q
section
variable {X : Cx} {a : Expr} {ta : TE} {p p2 q pos : Pos}
theorem tin_mem (xs : List Str) (y : Str) : tin xs y = true ↔ y ∈ xs := by
  unfold tin
  rw [List.any_eq_true]
  exact ⟨fun ⟨z, h1, h2⟩ => by rw [← eq_of_beq h2]; exact h1, fun h => ⟨y, h, by simp⟩⟩
theorem nd_dups {α : Type} [BEq α] [LawfulBEq α] (l : List α) : l.eraseDups.Nodup := by
  suffices h : ∀ (n : Nat) (l : List α), l.length ≤ n → l.eraseDups.Nodup from h _ l (Nat.le_refl _)
  intro n
  induction n with
  | zero => intro l h; rw [List.length_eq_zero_iff.mp (Nat.le_zero.mp h)]; exact .nil
  | succ n ih =>
    intro l h
    cases l with
    | nil => exact .nil
    | cons a l =>
      rw [List.eraseDups_cons]
      refine List.nodup_cons.mpr ⟨fun hm => ?_, ih _ (Nat.le_trans (List.length_filter_le _ _) (by simpa using h))⟩
      rw [List.mem_eraseDups, List.mem_filter] at hm
      simp at hm
theorem one1_mem (l : List Nat) (c : Nat) : S [c] ∈ one1 l ↔ c ∈ l := by
  unfold one1
  rw [List.mem_map]
  exact ⟨fun ⟨d, h1, h2⟩ => by rw [← S1_inj _ _ h2]; exact h1, fun h => ⟨c, h, rfl⟩⟩
theorem end_SS {pins : List (Addr × Obj)} {σ : St} {H : Hp} {s : Shared} {Q : VK} {p : Addr} {T : Str → Bool} {m : Nat} (I : Inv X pins σ H s) (hc : X.calm = true) (R : SetT X.prog X.w s.heap p T m) (h64 : m < 64)
    (h : ∀ ys q, sortedS ys = true → ys.Nodup → (∀ y, y ∈ ys ↔ T y = true) → H q = none → Q (.ref q) (upd H q (.lst (ys.map V.str)))) :
    wpAny (model X.prog X.w) X.A (call (.builtin "sorted") [.ref p]) (EP X pins σ Q) X.xe s := by
  refine sorted_setT R (I.ok.hd hc) h64 fun s' q out c ys k g o hq hg hs h1 h2 h3 hl => ?_
  have hlen : (ys.map V.str).length ≤ sizeLine := by rw [List.length_map, hl, sizeLine_eq]; omega
  have hn : H q = none := I.hok.fresh hq
  have J : Inv X pins σ (upd H q (.lst (ys.map V.str))) { s with heap := s'.heap, gens := s'.gens, drawn := s'.drawn, toks := s'.toks } :=
    I.call (ch := []) (Un.laid k hq hn) (I.hok.laid k hq ⟨hlen, out.toList, c, vals_of_strs hs, hg⟩) (by rw [g]; exact I.bare) (fun _ z => nomatch z)
  have e : s' = { s with heap := s'.heap, gens := s'.gens, drawn := s'.drawn, toks := s'.toks } := by
    cases s'; cases s; cases o; rfl
  rw [e]
  exact ⟨.ref q, _, J, rfl, h ys q h1 h2 h3 hn⟩
theorem pss_set (hc : X.calm = true) (hm : X.mg "sorted" = none) (hm2 : X.mg "set" = none) (ha : PE X a ta) (hg : Gl X "sorted" := by rfl) (hg2 : Gl X "set" := by rfl)
    (na : starEach [a] X.env = (false, eval a X.env) :: starEach [] X.env := by rfl) : PE X (.Call (.Name "sorted" p) [.Call (.Name "set" p2) [a] [] q] [] pos) (tSS ta) := by
  refine ⟨fun pins s σ H Q I h => ?_⟩
  refine Call_ (ld_blt I hg hm boot_sorted ?_)
  refine PyProof.Rows.callWith_builtin1 (PyProof.Rows.args_cons ?_ rfl) rfl rfl
  refine Call_ (ld_blt I hg2 hm2 boot_set ?_)
  refine PyProof.Rows.callWith_type1 (PyProof.Rows.args_cons (thn (ha.run pins s σ H _ I h) fun v s1 hv => PyProof.Rows.args_nil ?_) na) na rfl
  obtain ⟨x, H1, I1, r1, q1⟩ := hv
  cases x with
  | str z =>
    obtain ⟨h1, q1⟩ := q1
    obtain ⟨t, rfl⟩ := r1
    refine call_setT_text (I1.ok.hd hc) (by unfold scanBound; omega) fun h' tk hS hk => ?_
    refine PyProof.Rows.args_nil ?_
    have hdn := dn_le (one1 (tl z))
    have hol : (one1 (tl z)).length = (tl z).length := by simp [one1]
    have I2 : Inv X pins σ H1 { s1 with heap := h', toks := tk } := I1.kept fun b o e => hk b o (Heap.lt_size e) e
    refine end_SS I2 hc hS (by omega) fun ys q g1 g2 g3 g4 => ?_
    have pm : ys.Perm ((tl z).eraseDups.map fun c => S [c]) := by
      refine (List.perm_ext_iff_of_nodup g2 ?_).mpr fun y => ?_
      · exact List.Pairwise.map _ (fun a b hn e => hn (S1_inj _ _ e)) (nd_dups _)
      · rw [g3 y, tin_mem]
        unfold one1
        simp only [List.mem_map, List.mem_eraseDups]
    obtain ⟨l', rfl, pl⟩ := perm_map_inv pm
    have el : l' = srt (tl z).eraseDups := srt_uniq pl (sorted_one l' g1)
    subst el
    have ev : ((srt (tl z).eraseDups).map fun c => S [c]).map V.str = sgn (srt (tl z).eraseDups) := by unfold sgn; rw [List.map_map]; rfl
    rw [ev]
    exact q1 q g4
  | ref l =>
    have q1 := look_e q1
    cases ea : H1 l with
    | none => rw [ea] at q1; exact q1.elim
    | some ob =>
      rw [ea] at q1
      cases ob with
      | lst vs =>
        obtain ⟨xs, rfl, h1, q2⟩ := txs_e q1
        obtain rfl : v = Value.ref l := r1
        obtain ⟨its, rv, pl, hz⟩ := I1.list (SqL.of ea)
        have hxs : StrsAre its xs := strs_of_vals rv
        refine call_setT_list (I1.ok.hd hc) pl.isList hxs (by unfold scanBound; omega) fun h' tk hS hk => ?_
        refine PyProof.Rows.args_nil ?_
        have hdn := dn_le xs
        have I2 : Inv X pins σ H1 { s1 with heap := h', toks := tk } := I1.kept fun b o e => hk b o (Heap.lt_size e) e
        exact end_SS I2 hc hS (by omega) fun ys q g1 g2 g3 g4 => q2 ys q g1 g2 (fun y => by rw [g3 y, tin_mem]) g4
      | _ => exact q1.elim
  | _ => exact False.elim q1
end
end Ta

set_option Elab.async false
set_option linter.all false
set_option maxRecDepth 100000
set_option maxHeartbeats 3200000
namespace Ta
open PySem PySem.Spec PyProof.Rows L2 PySem.W

/-! ### sorted(x, key=len) -/
def slen (xs : List Str) : List Str := xs.mergeSort fun a b => decide (a.length ≤ b.length)
abbrev kLen (x : Str) : PyData := .int x.length
theorem dataLe_len (a b : Str) : PySem.W.dataLe false kLen a b = decide (a.length ≤ b.length) := by
  unfold PySem.W.dataLe PySem.W.sortLe
  show (!lexLt itemOrd (keyToks (kLen b)) (keyToks (kLen a))) = _
  have e : ∀ z : Str, keyToks (kLen z) = [.inl (z.length : Int)] := fun z => by show keyToks (.int z.length) = _; rw [keyToks]
  rw [e, e]
  have e2 : lexLt itemOrd [.inl (b.length : Int)] [.inl (a.length : Int)] = decide ((b.length : Int) < a.length) := by
    unfold PyProof.Rows.lexLt
    simp [itemLt, PyProof.Rows.lexLt]
  rw [e2]
  by_cases h : a.length ≤ b.length
  · rw [decide_eq_true h, decide_eq_false (by omega)]; rfl
  · rw [decide_eq_false h, decide_eq_true (by omega)]; rfl
theorem slen_eq (xs : List Str) : xs.mergeSort (PySem.W.dataLe false kLen) = slen xs := by
  unfold slen
  congr 1
  funext a b
  exact dataLe_len a b
def zSL (x : V) (H : Hp) (Q : VK) : Prop := match x with
  | .ref l => look H l fun o => (match o with
    | some (.lst vs) => txs vs fun xs => xs.length < 1000000 ∧ (∀ y ∈ xs, y.length < 1000000) ∧ ∀ p, H p = none → Q (.ref p) (upd H p (.lst ((slen xs).map V.str)))
    | _ => False)
  | _ => False
def tSL (t : TA) : TE := fun σ H Q => t σ H fun vs H1 => one vs fun x => zSL x H1 Q
section
variable {X : Cx} {a : Expr} {t : TA} {p p2 kp pos : Pos}
theorem each_strs : ∀ {us : List Value} {xs : List Str}, StrsAre us xs → EachIs (fun v x => ∃ t, v = Value.str x t) us xs
  | _, _, .nil => .nil
  | _, _, .cons y t r => .cons ⟨t, rfl⟩ (each_strs r)
theorem strs_each : ∀ {us : List Value} {xs : List Str}, EachIs (fun v x => ∃ t, v = Value.str x t) us xs → StrsAre us xs
  | _, _, .nil => .nil
  | _, _, .cons ⟨t, e⟩ r => by subst e; exact .cons _ t (strs_each r)
theorem ps_len {lv : Nat} (hr : Room lv X.A) (hm : X.mg "sorted" = none) (hm2 : X.mg "len" = none) (ha : PA X [a] t) (hg : Gl X "sorted" := by rfl) (hg2 : Gl X "len" := by rfl)
    (na : ∀ pos, backTo pos (starEach [a] X.env) = (false, eval a X.env) :: backTo pos (starEach [] X.env) := by exact fun _ => rfl) (hpl : ∀ pos, (backTo pos (starEach [a] X.env)).any (·.1) = false := by exact fun _ => rfl) :
    PE X (.Call (.Name "sorted" p) [a] [⟨some "key", .Name "len" p2, kp⟩] pos) (tSL t) := by
  refine ⟨fun pins s σ H Q I h => ?_⟩
  refine wpAny_Call_Name_kw (ld_blt I hg hm boot_sorted ?_)
  refine PyProof.Rows.callWith_kw (thn (ha.run pos pins s σ H _ I h) fun us s1 hv => ?_) (na pos) (hpl pos) rfl rfl
  obtain ⟨vs, H1, I1, r1, q1⟩ := hv
  obtain ⟨x, rfl, q1⟩ := one_e q1
  obtain ⟨u, rfl, rx⟩ := vals1 r1
  refine wpAny_evalAll_cons (wpAny_bind (ld_blt I1 hg2 hm2 boot_len (wpAny_bind (wpAny_standAt (wpAny_pure (wpAny_evalAll_nil ?_))))))
  have I2 := I1
  cases x with
  | ref l =>
    have q1 := look_e q1
    cases ea : H1 l with
    | none => rw [ea] at q1; exact q1.elim
    | some ob =>
      rw [ea] at q1
      cases ob with
      | lst vs =>
        obtain ⟨xs, rfl, h1, h2, q2⟩ := txs_e q1
        obtain rfl : u = Value.ref l := rx
        obtain ⟨its, rv, pl, hz⟩ := I1.list (SqL.of ea)
        have hxs : StrsAre its xs := strs_of_vals rv
        have hkd : ∀ x ∈ xs, X.A.units + 2 + (kLen x).depth < cLine := by
          intro x hx
          have := hr.un
          show X.A.units + 2 + PyData.depth (.int x.length) < cLine
          rw [PyData.depth]
          omega
        refine PySem.W.sorted_key_data (k := kLen) (R := fun v x => ∃ t, v = Value.str x t) (b := false) pl.isList (each_strs hxs) ?_ ?_ (by rw [sizeLine_eq]; omega) hkd (PyProof.Rows.ksk_s1 _ _) (fun _ => PyProof.Rows.ksk_l1 _ _) (PyProof.Rows.ksk_t4 "len") ?_ ?_
        · intro d hd d' hd'
          obtain ⟨x, _, rfl⟩ := List.mem_map.mp hd
          obtain ⟨y, _, rfl⟩ := List.mem_map.mp hd'
          show alike (.int x.length) (.int y.length) = true
          rw [alike]
        · refine .inr fun d hd => ?_
          obtain ⟨x, _, rfl⟩ := List.mem_map.mp hd
          exact ⟨fun z => (by cases z), fun ys z => (by cases z)⟩
        · rintro v x ⟨t, rfl⟩ hx h tk _
          have hn := line63
          have hx2 := h2 x hx
          have hx3 : x.length < 2 ^ 63 := by omega
          refine len_str (s := { s1 with heap := h, toks := tk }) (by omega) ?_
          exact ⟨h, _, rfl, fun b o e => e, Reads.int _ _⟩
        · intro out c h' tk hk hf hg3 hl hE
          rw [slen_eq] at hE
          have hs := strs_each hE
          have hlen : ((slen xs).map V.str).length ≤ sizeLine := by unfold slen; rw [List.length_map, List.length_mergeSort, sizeLine_eq]; omega
          exact ⟨.ref _, _, I2.laid (t' := tk) hk (Nat.le_succ _) (show ObjOk X.prog X.w _ h' _ (.lst ((slen xs).map V.str)) from ⟨hlen, out, c, vals_of_strs hs, hg3⟩), rfl, q2 _ (I2.hok.fresh (Nat.le_succ _))⟩
      | _ => exact q1.elim
  | _ => exact False.elim q1
end
end Ta

set_option Elab.async false
set_option linter.all false
set_option maxRecDepth 100000
set_option maxHeartbeats 1000000
namespace Ta
open PySem PySem.Spec PyProof.Rows L2

/-- a list of truth values -/
structure bls (vs : List V) (k : List Bool → Prop) : Prop where
  out : ∃ bs : List Bool, vs = bs.map V.bl ∧ k bs
theorem bls_i {bs : List Bool} {k : List Bool → Prop} (q : k bs) : bls (bs.map V.bl) k := by refine ⟨?_⟩; exact ⟨bs, rfl, q⟩
theorem bls_f {α : Type} {l : List α} {f : α → Bool} {k : List Bool → Prop} (q : k (l.map f)) : bls (l.map fun c => V.bl (f c)) k := by refine ⟨?_⟩; exact ⟨l.map f, by rw [List.map_map]; rfl, q⟩
theorem bls_e {vs : List V} {k : List Bool → Prop} (h : bls vs k) : ∃ bs : List Bool, vs = bs.map V.bl ∧ k bs := by replace h := h.out; exact h
def zAllP (K : PySem.W.Frag) : List V → Hp → VK → Prop := fun xs H Q => one xs fun x => match x with
  | .ref p => look H p fun o => (match o with
    | some (.lst vs) => bls vs fun bs => Q (.bl (bs.all id)) H
    | _ => False)
  | _ => False
def zAnyP (K : PySem.W.Frag) : List V → Hp → VK → Prop := fun xs H Q => one xs fun x => match x with
  | .ref p => look H p fun o => (match o with
    | some (.lst vs) => bls vs fun bs => Q (.bl (bs.any id)) H
    | _ => False)
  | _ => False
section
variable {X : Cx}
theorem crall (hc : X.calm = true) : CallR X (.builtin "all") (zAllP X.K) := cr_imp (cr_all hc) fun xs H Q h => by
  obtain ⟨x, rfl, h⟩ := one_e h
  cases x with
  | ref p =>
    have h := look_e h
    cases e : H p with
    | none => rw [e] at h; exact h.elim
    | some o =>
      rw [e] at h
      cases o with
      | lst vs =>
        obtain ⟨bs, rfl, q⟩ := bls_e h
        exact ⟨p, bs, rfl, SqL.of e, q⟩
      | _ => exact h.elim
  | _ => exact h.elim
theorem crany (hc : X.calm = true) : CallR X (.builtin "any") (zAnyP X.K) := cr_imp (cr_any hc) fun xs H Q h => by
  obtain ⟨x, rfl, h⟩ := one_e h
  cases x with
  | ref p =>
    have h := look_e h
    cases e : H p with
    | none => rw [e] at h; exact h.elim
    | some o =>
      rw [e] at h
      cases o with
      | lst vs =>
        obtain ⟨bs, rfl, q⟩ := bls_e h
        exact ⟨p, bs, rfl, SqL.of e, q⟩
      | _ => exact h.elim
  | _ => exact h.elim
end
/-- [e for c in text], e pure -/
theorem lcp_T {l : List Nat} {i : Nat} {te : TE} {σ : St} {H1 : Hp} {Q : VK} {vs : List Nat} (f : Nat → V) (hl : l.length < 1000000)
    (he : ∀ c D H' Q', H1 D = none → c ∈ l → (∃ ys, H' = upd H1 D (.lst ys)) → Q' (f c) H' → te ((wipe σ vs).set i (some (.str (S [c])))) H' Q')
    (hw : ∀ v, wipe ((wipe σ vs).set i v) vs = wipe σ vs) (q : ∀ D, H1 D = none → Q (.ref D) (upd H1 D (.lst (l.map f)))) : lcp l.length (itS l) (fun _ => True) (gName i) tYes te vs σ H1 Q := by
  refine lcp_i (fun D k H => H = upd H1 D (.lst ((l.take k).map f))) (fun D hD => rfl) (fun D k H hD _ e => trivial) ?_ ?_
  · rintro D k x H H' hD hk rfl hi
    obtain ⟨rfl, c, hc, rfl⟩ := hi
    refine ⟨hw _, ?_⟩
    unfold tYes; dsimp only
    rw [if_pos rfl]
    refine he c D _ _ hD (List.mem_of_getElem? hc) ⟨_, rfl⟩ ⟨_, upd_at, ?_, ?_⟩
    · rw [List.length_map, List.length_take, sizeLine_eq]; omega
    · rw [upd_tw, List.take_succ, hc]
      simp
  · rintro D H hD rfl
    rw [List.take_length]
    exact q D hD
/-- .. over a list of texts that stands -/
theorem lcp_TL {ks : List (List Nat)} {p : Addr} {i : Nat} {te : TE} {σ : St} {H1 : Hp} {Q : VK} {vs : List Nat} (hp : H1 p = some (.lst (ks.map fun k => V.str (S k))))
    (f : List Nat → V) (hl : ks.length < 1000000) (he : ∀ c D H' Q', H1 D = none → c ∈ ks → (∃ ys, H' = upd H1 D (.lst ys)) → Q' (f c) H' → te ((wipe σ vs).set i (some (.str (S c)))) H' Q')
    (hw : ∀ v, wipe ((wipe σ vs).set i v) vs = wipe σ vs) (q : ∀ D, H1 D = none → Q (.ref D) (upd H1 D (.lst (ks.map f)))) : lcp (ks.map fun k => V.str (S k)).length (itL (ks.map fun k => V.str (S k))) (fun H' => H' p = some (.lst (ks.map fun k => V.str (S k)))) (gName i) tYes te vs σ H1 Q := by
  refine lcp_ML hp (fun v => match v with
    | .str c => f (tl c)
    | v => v) (by rw [List.length_map]; exact hl) ?_ hw ?_
  · rintro x D H' Q' hD hx hH hQ
    obtain ⟨c, hc, rfl⟩ := List.mem_map.mp hx
    exact he c D H' Q' hD hc hH hQ
  · intro D hD
    have e : (ks.map fun k => V.str (S k)).map (fun v => match v with
      | .str c => f (tl c)
      | v => v) = ks.map f := by rw [List.map_map]; rfl
    rw [e]
    exact q D hD
/-! ### == of tuples and lists of texts, numbers, truth values, None -/
def flt (v : V) : Option PyData := match v with
  | .non => some .none
  | .bl b => some (.bool b)
  | .int i => some (.int i)
  | .str x => if x.cps.all (· < 0x110000) then some (.str x) else none
  | _ => none
theorem ascii_ok {l : List Nat} (h : ∀ c ∈ l, c < 128) : (S l).cps.all (· < 0x110000) = true := by
  rw [Array.all_eq_true]
  intro i hi
  have : l[i]'hi ∈ l := List.getElem_mem hi
  exact decide_eq_true (Nat.lt_trans (h _ this) (by decide))
theorem flt_s {l : List Nat} (h : ∀ c ∈ l, c < 128) : flt (.str (S l)) = some (.str (S l)) := by
  show (if (S l).cps.all (· < 0x110000) then some (PyData.str (S l)) else none) = _
  rw [if_pos (ascii_ok h)]
theorem flt_str {x : Str} {d : PyData} (h : flt (.str x) = some d) : x.cps.all (· < 0x110000) = true ∧ d = .str x := by
  replace h : (if x.cps.all (· < 0x110000) then some (PyData.str x) else none) = some d := h
  by_cases e : x.cps.all (· < 0x110000) = true
  · rw [if_pos e] at h; exact ⟨e, (Option.some.inj h).symm⟩
  · rw [if_neg e] at h; cases h
theorem flt_dp {K : PySem.W.Frag} {H : Hp} {v : V} {d : PyData} (h : flt v = some d) : Dp K H v d ∧ d.canLay0 = true ∧ d.depth = 0 := by
  cases v with
  | non => cases h; exact ⟨.non, by rw [PyData.canLay0], by rw [PyData.depth]⟩
  | bl b => cases h; exact ⟨.bl b, by rw [PyData.canLay0], by rw [PyData.depth]⟩
  | int i => cases h; exact ⟨.int i, by rw [PyData.canLay0], by rw [PyData.depth]⟩
  | str x =>
    obtain ⟨e, rfl⟩ := flt_str h
    exact ⟨.str x, by rw [PyData.canLay0]; exact e, by rw [PyData.depth]⟩
  | _ => cases h
def flts : List V → Option (List PyData)
  | [] => some []
  | v :: vs => (flt v).bind fun d => (flts vs).map (d :: ·)
theorem flts_dp {K : PySem.W.Frag} {H : Hp} : ∀ {vs : List V} {ds : List PyData}, flts vs = some ds → DpAll K H vs ds ∧ PyData.canLayAll0 ds = true ∧ PyData.depthAll ds = 0
  | [], _, h => by cases h; exact ⟨.nil, by rw [PyData.canLayAll0], by rw [PyData.depthAll]⟩
  | v :: vs, _, h => by
    unfold flts at h
    cases e : flt v with
    | none => rw [e] at h; cases h
    | some d =>
      rw [e] at h
      cases e2 : flts vs with
      | none => rw [e2] at h; cases h
      | some ds =>
        rw [e2] at h
        cases h
        obtain ⟨a1, a2, a3⟩ := flt_dp (K := K) (H := H) e
        obtain ⟨b1, b2, b3⟩ := flts_dp (K := K) (H := H) e2
        exact ⟨.cons a1 b1, by rw [PyData.canLayAll0, a2, b2]; rfl, by rw [PyData.depthAll, a3, b3]; rfl⟩
theorem eqv_refl0 : ∀ {vs : List V} {ds : List PyData}, flts vs = some ds → PyData.eqvAll ds ds = true
  | [], _, h => by cases h; rw [PyData.eqvAll]
  | v :: vs, _, h => by
    unfold flts at h
    cases e : flt v with
    | none => rw [e] at h; cases h
    | some d =>
      rw [e] at h
      cases e2 : flts vs with
      | none => rw [e2] at h; cases h
      | some ds =>
        rw [e2] at h
        cases h
        have h2 := eqv_refl0 e2
        have h1 : PyData.eqv d d = true := by
          cases v with
          | non => cases e; rw [PyData.eqv]
          | bl b => cases e; rw [PyData.eqv]; simp
          | int i => cases e; rw [PyData.eqv]; simp
          | str x =>
            obtain ⟨_, rfl⟩ := flt_str e
            rw [PyData.eqv]; simp
          | _ => cases e
        show PyData.eqvAll (d :: ds) (d :: ds) = true
        rw [PyData.eqvAll, h1, h2]; rfl
/-- two equal tuples -/
theorem eq_tup {K : PySem.W.Frag} {H : Hp} {p r : Addr} {vs : List V} {ds : List PyData} {k : Bool → Prop} (h1 : H p = some (.tup vs)) (h2 : H r = some (.tup vs)) (e : flts vs = some ds) (q : k true) : dpq K (.ref p) (.ref r) H k := by
  obtain ⟨a1, a2, a3⟩ := flts_dp (K := K) (H := H) e
  have sh : SeqAt.shaped (.tuple ds) = true := by
    unfold SeqAt.shaped
    rw [PyData.canLay0, a2, PyData.depth, a3]
    decide
  refine dpq_i (.tup (SqT.of h1) a1) (.tup (SqT.of h2) a1) sh sh ?_
  rw [PyData.eqv, eqv_refl0 e]; exact q
theorem eq_lst {K : PySem.W.Frag} {H : Hp} {p r : Addr} {vs : List V} {ds : List PyData} {k : Bool → Prop} (h1 : H p = some (.lst vs)) (h2 : H r = some (.lst vs)) (e : flts vs = some ds) (q : k true) : dpq K (.ref p) (.ref r) H k := by
  obtain ⟨a1, a2, a3⟩ := flts_dp (K := K) (H := H) e
  have sh : SeqAt.shaped (.list ds) = true := by
    unfold SeqAt.shaped
    rw [PyData.canLay0, a2, PyData.depth, a3]
    decide
  refine dpq_i (.lst (SqL.of h1) a1) (.lst (SqL.of h2) a1) sh sh ?_
  rw [PyData.eqv, eqv_refl0 e]; exact q
theorem flts_s : ∀ {ks : List (List Nat)}, (∀ k ∈ ks, ∀ c ∈ k, c < 128) → flts (ks.map fun k => V.str (S k)) = some (ks.map fun k => PyData.str (S k))
  | [], _ => rfl
  | k :: ks, h => by
    rw [List.map_cons, List.map_cons]
    unfold flts
    rw [flt_s (h k List.mem_cons_self), flts_s fun x hx => h x (List.mem_cons_of_mem _ hx)]
    rfl
end Ta

set_option Elab.async false
set_option linter.all false
set_option maxRecDepth 100000
set_option maxHeartbeats 1000000
namespace Ta
open PySem PySem.Spec PyProof.Rows L2

/-! ### shortlex -/
def bfr (a b : List Nat) : Bool := decide (a.length < b.length) || (decide (a.length = b.length) && decide (a < b))
theorem rising_pw : ∀ (l : List Str) (a : Str), risingS a l = true → (l.Pairwise fun x y => tl x ≤ tl y) ∧ ∀ b ∈ l, tl a ≤ tl b
  | [], a, _ => ⟨.nil, fun _ h => nomatch h⟩
  | b :: l, a, h => by
    simp only [risingS, Bool.and_eq_true] at h
    obtain ⟨h1, h2⟩ := h
    obtain ⟨i1, i2⟩ := rising_pw l b h2
    have hab : tl a ≤ tl b := by
      have z : ltCps (tl b) (tl a) = false := by simpa using h1
      rw [ltCps_eq] at z
      exact List.not_lt.mp (of_decide_eq_false z)
    refine ⟨.cons i2 i1, fun c hc => ?_⟩
    rcases List.mem_cons.mp hc with rfl | hc
    · exact hab
    · exact List.le_trans hab (i2 c hc)
theorem sorted_pw {l : List Str} (h : sortedS l = true) (hn : l.Nodup) : l.Pairwise fun x y => tl x < tl y := by
  have h1 : l.Pairwise fun x y => tl x ≤ tl y := by
    cases l with
    | nil => exact .nil
    | cons a l => exact .cons (rising_pw l a h).2 (rising_pw l a h).1
  exact (List.Pairwise.and h1 hn).imp fun {x y} z => by
    refine Decidable.byContradiction fun hc => z.2 (ext_tl (List.le_antisymm z.1 (List.not_lt.mp hc)))
theorem sub_cons2 {α : Type} {a b x : α} {l : List α} (h : [a, b].Sublist (x :: l)) : [a, b].Sublist l ∨ (a = x ∧ b ∈ l) := by
  cases h with
  | cons _ h => exact .inl h
  | cons_cons _ h => exact .inr ⟨rfl, List.singleton_sublist.mp h⟩
theorem sub_anti {α : Type} {a b : α} : ∀ {l : List α}, l.Nodup → [a, b].Sublist l → [b, a].Sublist l → False
  | [], _, h, _ => by cases h
  | x :: l, hn, h, h' => by
    obtain ⟨n1, n2⟩ := List.nodup_cons.mp hn
    rcases sub_cons2 h with h | ⟨rfl, hb⟩
    · rcases sub_cons2 h' with h' | ⟨e, ha⟩
      · exact sub_anti n2 h h'
      · exact n1 (e ▸ h.subset (List.mem_cons_of_mem _ List.mem_cons_self))
    · rcases sub_cons2 h' with h' | ⟨e, ha⟩
      · exact n1 (h'.subset (List.mem_cons_of_mem _ List.mem_cons_self))
      · exact n1 ha
theorem sub_or {α : Type} {a b : α} : ∀ {l : List α}, a ∈ l → b ∈ l → a ≠ b → [a, b].Sublist l ∨ [b, a].Sublist l
  | x :: l, ha, hb, hne => by
    rcases List.mem_cons.mp ha with e1 | ha2
    · rcases List.mem_cons.mp hb with e2 | hb2
      · exact absurd (e1.trans e2.symm) hne
      · exact .inl (e1 ▸ .cons_cons _ (List.singleton_sublist.mpr hb2))
    · rcases List.mem_cons.mp hb with e2 | hb2
      · exact .inr (e2 ▸ .cons_cons _ (List.singleton_sublist.mpr ha2))
      · exact (sub_or ha2 hb2 hne).imp (.cons _) (.cons _)
theorem slen_perm (l : List Str) : (slen l).Perm l := List.mergeSort_perm _ _
theorem len_tr (a b c : Str) (h1 : decide (a.length ≤ b.length) = true) (h2 : decide (b.length ≤ c.length) = true) : decide (a.length ≤ c.length) = true := by
  simp at *; omega
theorem len_tt (a b : Str) : (decide (a.length ≤ b.length) || decide (b.length ≤ a.length)) = true := by
  simp; omega
theorem slen_ord {l : List Str} (h : sortedS l = true) (hn : l.Nodup) : (slen l).Pairwise fun x y => bfr (tl x) (tl y) = true := by
  have hp := slen_perm l
  have hn2 : (slen l).Nodup := hp.nodup_iff.mpr hn
  have h1 := sorted_pw h hn
  have h2 : (slen l).Pairwise fun a b => decide (a.length ≤ b.length) = true := List.pairwise_mergeSort len_tr len_tt l
  rw [List.pairwise_iff_forall_sublist] at h1 h2 ⊢
  intro a b hs
  have hle := of_decide_eq_true (h2 hs)
  rw [len_tl, len_tl] at hle
  unfold bfr
  by_cases hlt : (tl a).length < (tl b).length
  · rw [decide_eq_true hlt]; rfl
  · have he : (tl a).length = (tl b).length := by omega
    rw [decide_eq_false hlt, decide_eq_true he]
    have hne : a ≠ b := fun e => by
      subst e
      exact sub_anti hn2 hs hs
    have ha : a ∈ l := hp.mem_iff.mp (hs.subset (by simp))
    have hb : b ∈ l := hp.mem_iff.mp (hs.subset (by simp))
    rcases sub_or ha hb hne with z | z
    · rw [decide_eq_true (h1 z)]; rfl
    · exfalso
      have : [b, a].Sublist (slen l) := List.pair_sublist_mergeSort len_tr len_tt (decide_eq_true (by rw [len_tl, len_tl]; omega)) z
      exact sub_anti hn2 hs this
theorem pf_len {α : Type} {l m : List α} (hn : l.Nodup) (hs : ∀ c ∈ l, c ∈ m) : l.length ≤ m.length := by
  classical
  induction l generalizing m with
  | nil => exact Nat.zero_le _
  | cons a l ih =>
    obtain ⟨h1, h2⟩ := List.nodup_cons.mp hn
    have ha := hs a List.mem_cons_self
    obtain ⟨s, t, rfl⟩ := List.append_of_mem ha
    have := ih (m := s ++ t) h2 fun c hc => by
      have := hs c (List.mem_cons_of_mem _ hc)
      simp only [List.mem_append, List.mem_cons] at this ⊢
      rcases this with z | z | z
      · exact .inl z
      · exact absurd (z ▸ hc) h1
      · exact .inr z
    simp only [List.length_append, List.length_cons] at this ⊢
    omega
structure slx (us zs : List (List Nat)) : Prop where
  sub : ∀ z ∈ zs, z ∈ us
  all : ∀ u ∈ us, u ∈ zs
  ord : zs.Pairwise fun a b => bfr a b = true
  nd : zs.length ≤ us.length
theorem slx_of {us : List (List Nat)} {ys : List Str} (h : sortedS ys = true) (hn : ys.Nodup) (hm : ∀ y, y ∈ ys ↔ y ∈ us.map S) : slx us ((slen ys).map tl) := by
  have hp := slen_perm ys
  refine ⟨fun z hz => ?_, fun u hu => ?_, ?_, ?_⟩
  · obtain ⟨y, hy, rfl⟩ := List.mem_map.mp hz
    obtain ⟨u, hu, e⟩ := List.mem_map.mp ((hm y).mp (hp.mem_iff.mp hy))
    rw [← e]; exact hu
  · exact List.mem_map.mpr ⟨S u, hp.mem_iff.mpr ((hm _).mpr (List.mem_map.mpr ⟨u, hu, rfl⟩)), rfl⟩
  · exact List.Pairwise.map _ (fun a b h => h) (slen_ord h hn)
  · rw [List.length_map, hp.length_eq]
    have := pf_len hn fun y hy => (hm y).mp hy
    rwa [List.length_map] at this
theorem ksl_slen (ys : List Str) : (slen ys).map V.str = ((slen ys).map tl).map fun k => V.str (S k) := by
  rw [List.map_map]; congr 1
/-! ### the first places of signs in order -/
theorem fnd_lt : ∀ {sg : List Nat}, sg.Pairwise (· < ·) → ∀ {c d : Nat}, c ∈ sg → d ∈ sg → (fnd c sg < fnd d sg ↔ c < d)
  | sg, hp, c, d, hc, hd => by
    have key : ∀ {sg : List Nat}, sg.Pairwise (· < ·) → ∀ {c d : Nat}, c ∈ sg → d ∈ sg → c < d → (bef c sg).length < (bef d sg).length := by
      intro sg
      induction sg with
      | nil => intro _ c d hc; cases hc
      | cons a sg ih =>
        intro hp c d hc hd hlt
        obtain ⟨h1, h2⟩ := List.pairwise_cons.mp hp
        rcases List.mem_cons.mp hc with e | hc2
        · subst e
          have : ¬ c = d := by omega
          simp [bef, this]
        · rcases List.mem_cons.mp hd with e | hd2
          · have := h1 c hc2; omega
          · have e1 := h1 c hc2
            have e2 := h1 d hd2
            have n1 : ¬ a = c := by omega
            have n2 : ¬ a = d := by omega
            have := ih h2 hc2 hd2 hlt
            simp only [bef] at this ⊢
            simp [n1, n2]
            simpa using this
    have e1 : fnd c sg = ((bef c sg).length : Int) := if_pos hc
    have e2 : fnd d sg = ((bef d sg).length : Int) := if_pos hd
    rw [e1, e2]
    constructor
    · intro h
      refine Decidable.byContradiction fun hn => ?_
      rcases Nat.lt_or_eq_of_le (Nat.le_of_not_lt hn) with z | z
      · have := key hp hd hc z; omega
      · subst z; omega
    · intro h
      have := key hp hc hd h; omega
theorem fnd_ge {c : Nat} {sg : List Nat} (h : c ∈ sg) : 0 ≤ fnd c sg := by
  have e1 : fnd c sg = ((bef c sg).length : Int) := if_pos h
  rw [e1]; omega
theorem fnd_in {c : Nat} {sg : List Nat} (h : 0 ≤ fnd c sg) : c ∈ sg := by
  refine Decidable.byContradiction fun hn => ?_
  have e1 : fnd c sg = -1 := if_neg hn
  rw [e1] at h; omega
theorem fnd_m1 (c : Nat) (sg : List Nat) : -1 ≤ fnd c sg := by
  unfold fnd; split <;> omega
/-! ### texts in ascending order -/
theorem dd_id {l : List Nat} : l.Pairwise (· < ·) → l.eraseDups = l := by
  induction l with
  | nil => intro _; rfl
  | cons a l ih =>
    intro h
    obtain ⟨h1, h2⟩ := List.pairwise_cons.mp h
    rw [List.eraseDups_cons]
    have e : l.filter (fun b => !b == a) = l := by
      rw [List.filter_eq_self]
      intro b hb
      have := h1 b hb
      have : b ≠ a := by omega
      simp [this]
    rw [e, ih h2]
theorem pw_srt {l : List Nat} : srt l.eraseDups = l ↔ l.Pairwise (· < ·) := by
  constructor
  · intro h
    have hp := srt_pw l.eraseDups
    have hn : (srt l.eraseDups).Nodup := (srt_perm _).nodup_iff.mpr (nd_dups l)
    rw [h] at hp hn
    exact (List.Pairwise.and hp hn).imp fun {x y} z => by omega
  · intro h
    rw [dd_id h]
    exact (srt_uniq (List.Perm.refl l) (h.imp fun z => Nat.le_of_lt z)).symm
theorem srt_lt {l : List Nat} (h : l.Nodup) : (srt l).Pairwise (· < ·) :=
  (List.Pairwise.and (srt_pw l) ((srt_perm l).nodup_iff.mpr h)).imp fun {x y} z => by omega
theorem srt_flt {l v : List Nat} (hl : l.Nodup) (hv : v.Nodup) (hs : ∀ c ∈ v, c ∈ l) : (srt l).filter (fun c => decide (c ∈ v)) = srt v := by
  refine srt_uniq ?_ ((srt_pw l).filter _)
  refine (List.perm_ext_iff_of_nodup (List.Pairwise.filter _ ((srt_perm l).nodup_iff.mpr hl)) hv).mpr fun c => ?_
  rw [List.mem_filter, (srt_perm l).mem_iff, decide_eq_true_eq]
  exact ⟨fun h => h.2, fun h => ⟨hs c h, h⟩⟩
theorem itm_all {α : Type} {xs : List α} {i : Int} {k : α → Prop} (P : α → Prop) (h0 : 0 ≤ i) (h1 : i < (xs.length : Int)) (hP : ∀ x ∈ xs, P x) (q : ∀ x, P x → k x) : itm xs i k :=
  itm_s h0 h1 fun j hj _ => q _ (hP _ (List.getElem_mem hj))
theorem itm_k {ks : List (List Nat)} {i : Int} {k : V → Prop} (h0 : 0 ≤ i) (h1 : i < (ks.length : Int)) (q : ∀ (j : Nat) (hj : j < ks.length), i = (j : Int) → k (.str (S ks[j]))) : itm (ks.map fun k => V.str (S k)) i k := by
  refine itm_s h0 (by rw [List.length_map]; exact h1) fun j hj e => ?_
  rw [List.length_map] at hj
  rw [List.getElem_map]
  exact q j hj e
theorem flat_k : ∀ ks : List (List Nat), (ks.map fun k => V.str (S k)).all flatV = true
  | [] => rfl
  | k :: ks => by rw [List.map_cons, List.all_cons, flat_k ks]; rfl
theorem inV_k (a : List Nat) (ks : List (List Nat)) : inV (.str (S a)) (ks.map fun k => V.str (S k)) = decide (a ∈ ks) := by
  have h := inV_str (S a) (ks.map S)
  rw [List.map_map] at h
  refine h.trans (decide_eq_decide.mpr ?_)
  rw [List.mem_map]
  exact ⟨fun ⟨b, hb, e⟩ => by have : b = a := congrArg tl e; exact this ▸ hb, fun h => ⟨a, h, rfl⟩⟩
theorem lt_app {x y : Nat} {s t : List Nat} (h : x ≠ y) : ∀ p : List Nat, (p ++ x :: s < p ++ y :: t ↔ x < y)
  | [] => by
    rw [List.nil_append, List.nil_append, List.cons_lt_cons_iff]
    exact ⟨fun z => z.resolve_right fun w => h w.1, .inl⟩
  | c :: p => by
    rw [List.cons_append, List.cons_append, List.cons_lt_cons_iff, lt_app h p]
    exact ⟨fun z => z.elim (fun w => absurd w (Nat.lt_irrefl _)) (·.2), fun z => .inr ⟨rfl, z⟩⟩
theorem cut_at {l : List Nat} {i : Nat} (h : i < l.length) : l = l.take i ++ l[i] :: l.drop (i + 1) := by
  rw [← List.drop_eq_getElem_cons h, List.take_append_drop]
theorem pw_at {l : List Nat} {i c : Nat} (hp : l.Pairwise (· < ·)) (h : i < l.length) (hc : c ∈ l.take i) : c < l[i] := by
  rw [cut_at h, List.pairwise_append] at hp
  exact hp.2.2 c hc _ List.mem_cons_self
end Ta

set_option Elab.async false
set_option linter.all false
set_option maxRecDepth 100000
set_option maxHeartbeats 1000000
namespace Ta
open PySem PySem.Spec PyProof.Rows L2 ClX

/-! ### at a def's code: super().m(..) of an own class -/
structure PAt (X : Cx) (body sts : List Stmt) (t : TS) : Prop where
  run : ∀ (pins : List (Addr × Obj)) (s : Shared) (σ : St) (H : Hp) (D : Ends), Inv X pins σ H s → t D σ H → PySem.wpAt (model X.prog X.w) X.A (.func body X.env) (execs sts X.env) (SP X pins D) X.xe s
structure PAs (X : Cx) (body : List Stmt) (st : Stmt) (t : TS) : Prop where
  run : ∀ (pins : List (Addr × Obj)) (s : Shared) (σ : St) (H : Hp) (D : Ends), Inv X pins σ H s → t D σ H → PySem.wpAt (model X.prog X.w) X.A (.func body X.env) (exec st X.env) (SP X pins D) X.xe s
structure PAe (X : Cx) (body : List Stmt) (e : Expr) (t : TE) : Prop where
  run : ∀ (pins : List (Addr × Obj)) (s : Shared) (σ : St) (H : Hp) (Q : VK), Inv X pins σ H s → t σ H Q → PySem.wpAt (model X.prog X.w) X.A (.func body X.env) (eval e X.env) (EP X pins σ Q) X.xe s
section
variable {X : Cx} {body sts rest : List Stmt} {st : Stmt} {t u : TS} {e : Expr} {te : TE} {pos : Pos}
theorem pat_of (h : PSs X sts t) : PAt X body sts t := ⟨fun pins s σ H D I q => PySem.wpAt_of_wpAny (h.run pins s σ H D I q)⟩
theorem pas_of (h : PS X st t) : PAs X body st t := ⟨fun pins s σ H D I q => PySem.wpAt_of_wpAny (h.run pins s σ H D I q)⟩
theorem pat_cons (h : PAs X body st t) (hr : PAt X body rest u) : PAt X body (st :: rest) (tSeq t u) := by
  refine ⟨fun pins s σ H D I q => ?_⟩
  refine PySem.ks_wpAt_execs_cons (PySem.ks_wpAt_mono (h.run pins s σ H _ I q) (fun f s1 h1 => ?_) fun _ _ z => z)
  cases f with
  | next =>
    obtain ⟨σ1, H1, I1, q1⟩ := h1
    exact hr.run pins s1 σ1 H1 D I1 q1
  | ret v => exact h1
  | brk => exact h1
  | cont => exact h1
theorem pat_imp {t' : TS} (h : PAt X body sts t) (i : ∀ D σ H, t' D σ H → t D σ H) : PAt X body sts t' := ⟨fun pins s σ H D I q => h.run pins s σ H D I (i D σ H q)⟩
theorem pas_expr (h : PAe X body e te) (hi : interactive X.env = false := by rfl) (hs : swapsWith e none pos.line X.env = pure false := by rfl) : PAs X body (.Expr e pos) (tDrop te) := by
  refine ⟨fun pins s σ H D I q => ?_⟩
  refine PySem.ks_wpAt_Expr_any (PySem.ks_wpAt_mono (h.run pins s σ H _ I q) (fun v s1 h1 => ?_) fun _ _ z => z) hi hs
  obtain ⟨x, H1, I1, r1, q1⟩ := h1
  exact ⟨σ, H1, I1, q1⟩
/-- what super().m is for an object of class C, said in a def of class D -/
structure Su (P : Program) (w : World) (K : PySem.W.Frag) (mg : Str → Option Value) (base : Heap) (D C : Addr) (m : Str) (lv : Nat) (dvs : List V) (sp : Sp) : Prop where
  ex : ∃ (f : Addr) (fd : FuncData) (ps : List Str) (ds : List Value), FnOk P w K mg base (L2M.CX K P w) lv f fd ps sp ∧ PySem.W.ks_superIn K C D m = some (some (.ref f)) ∧ PySem.W.typeIn K (.ref f) = some (.type "function") ∧ PySem.W.fnIn K f = true ∧ Vals dvs ds ∧ Binds K fd ps ds
  sub : PySem.W.mroIn K C (.ref D) = some true
  third : PySem.W.nsIn K cStatics "thirdparty.any" = some none
theorem nocls_of {h : Heap} {x C : Addr} {ox : Obj} {od : Option Obj} (J : PySem.W.InstAt h x ox C od) : ∀ c, ox.data ≠ .cls c := fun c z => by
  have := J.no
  unfold PySem.W.notCls at this
  rw [z] at this
  cases this
theorem psup {f D : Addr} {F : NdefX.NF} {dvs : List V} {fd : FuncData} {ms : MS} {m : Str} {lv i : Nat} {W : WX} {t : TA} {p0 p1 p2 p3 : Pos} {es : List Expr} {ar : Arg} {pl : Sem Bool} (SF : SupFn X.prog X.K f F D dvs fd) (hE : X.env = NdefX.envF F f X.env.locals)
    (hsup : X.mg "super" = none) (hp : (F.params.posonlyargs ++ F.params.args).head? = some ar) (hN : X.N[i]? = some ar.arg) (hka : F.scope.names.lookup ar.arg = some .local)
    (hks : F.scope.names.lookup ("super" : Str) = some .globalImplicit) (hkc : F.scope.names.lookup ("__class__" : Str) = some .free) (hk : F.scope.kind = .function) (hmc : (m == ("__class__" : Str)) = false)
    (hms : ∀ e ∈ ms, Su X.prog X.w X.K X.mg X.base D e.1 m lv e.2.1 e.2.2) (hr : Room lv X.A) (tk : L2M.Takes X W) (ha : PA X (e :: es) t)
    (hst : starEach (e :: es) X.env = (false, eval e X.env) :: starEach es X.env := by rfl) (hpl : (backTo p3 (starEach es X.env)).any (·.1) = false := by rfl)
    (he : eval (.Call (.Attribute (.Call (.Name "super" p0) [] [] p1) m p2) (e :: es) [] p3) X.env = (do
      let ov ← attributeBase (.Call (.Name "super" p0) [] [] p1) m X.env (eval (.Call (.Name "super" p0) [] [] p1) X.env)
      standAt p2.atName
      let (f, first) ← holding [ov] (getMethod ov m pl)
      callWith p3 f first (backTo p3 (starEach (e :: es) X.env)) []) := by rfl) :
    PAe X F.body (.Call (.Attribute (.Call (.Name "super" p0) [] [] p1) m p2) (e :: es) [] p3) (tMe ms m W (tV i) t) := by
  refine ⟨fun pins s σ H Q I h => ?_⟩
  have hV : ∃ x, σ[i]? = some (some x) ∧ (fun x H1 => match x with
      | .ref a => look H1 a fun o => (match o with
        | some (.ins C dx fs) => pick ms C fun dvs sp => fs.lookup m = none ∧ t σ H1 fun vs H2 => sp (.ref a :: (vs ++ dvs)) H2 Q fun c d H' => W c d σ H'
        | _ => False)
      | _ => False) x H := by
    obtain ⟨x, e1, e2⟩ := tV_e h
    exact ⟨x, e1, e2⟩
  obtain ⟨x, hσ, q⟩ := hV
  cases x with
  | ref a =>
    obtain ⟨C, dx, fs, ea, en, hen, eC, l, q⟩ := tMe_e (k := fun dvs sp fs => fs.lookup m = none ∧ t σ H fun vs H2 => sp (.ref a :: (vs ++ dvs)) H2 Q fun c d H' => W c d σ H') q
    obtain ⟨⟨g, gd, ps, ds, FO, hsi, hty, hfn, hvd, hb⟩, hsub, h3⟩ := hms en hen
    subst eC
    obtain ⟨mA, O, _⟩ := ins_get I.hok ea
    obtain ⟨od, J, _⟩ := O.look
    have hnc := nocls_of J
    refine PySem.ks_wpAt_MethodCall (pl := pl) (sup_base SF hE I hsup hp i hN hσ hka J.at_ J.cls hnc hsub hks hkc hk hmc fun so s1 hso kp I1 => ?_) he
    have KX1 : X.K.In s1.heap := I1.kIn
    unfold PySem.W.ks_superIn at hsi
    cases hcl : PySem.W.clsIn X.K en.1 with
    | none => rw [hcl] at hsi; cases hsi
    | some cd =>
      rw [hcl] at hsi
      obtain ⟨of, hof, hofc⟩ : ∃ of, s1.heap.get? g = some of ∧ of.cls = .type "function" := by
        have ht : (X.K.lookup g).map (·.cls) = some (.type "function") := hty
        cases z : X.K.lookup g with
        | none => rw [z] at ht; cases ht
        | some of => rw [z] at ht; exact ⟨of, KX1 _ _ z, Option.some.inj ht⟩
      have hxC : a ≠ en.1 := PySem.W.ks_ne I.kIn J hcl
      obtain ⟨h1, g1, d1, t1', os1⟩ := s1
      refine PySem.ks_wpAny_getMethod_super hso (PySem.W.looks_opaque KX1 h3) (l₀ := cd.mro) ?_ rfl KX1 hsi hof hofc hxC hmc ?_
      · exact fun A Q E s k q => wpAny_bind ((PySem.W.looks_clsIn KX1 hcl) A _ E s k (wpAny_pure q))
      · have I2 : Inv X ((h1.objs.size, PySem.W.methodObj (.ref g) (.ref a)) :: pins) σ H ⟨h1.push (PySem.W.methodObj (.ref g) (.ref a)), g1, d1, t1' + 1, os1⟩ :=
          pin_new I1 (fun _ _ z => Heap.get?_push_of_some _ z) (Nat.le_refl _) (Heap.get?_push_size h1 rfl) (fun v z => nomatch z)
        have hq := pin_at I2
        have hb0 : X.base.get? h1.objs.size = none := base_none I1 (Nat.le_refl _)
        have hL : h1.objs.size ≠ X.env.locals := (I2.pin (h1.objs.size, PySem.W.methodObj (.ref g) (.ref a)) (List.mem_append_right _ List.mem_cons_self)).2.2.1
        refine PySem.W.callWith_M (K := X.K) (h₀ := X.base) (first := []) I.ok.mod.kin (news_at hL hb0 hq) List.mem_cons_self hfn (thn (ha.run p3 _ _ σ H _ I2 q) fun us s2 hv => ?_) hst hpl
        obtain ⟨vs, H2, I3, r, q2⟩ := hv
        refine ⟨⟨pin_at I3, I3.kIn⟩, ?_⟩
        have r2 : Vals ((.ref a :: vs) ++ en.2.1) ((.ref a :: us) ++ ds) := L2.Vals.append (Paired.cons rfl r) hvd
        have hl : ((.ref a :: us) ++ ds).length = ps.length := by rw [← r2.length]; exact FO.len _ _ _ _ q2
        have z : wpAny (model X.prog X.w) X.A (call (.ref h1.objs.size) us) (EP X ((h1.objs.size, PySem.W.methodObj (.ref g) (.ref a)) :: pins) σ Q) X.xe s2 := by
          refine wpAny_call (PySem.W.method_call (pin_at I3) (codeAny_mono (FO.run X.A X.stack s2 H2 ⟨.ref a :: us, []⟩ ((.ref a :: us) ++ ds) ((.ref a :: vs) ++ en.2.1) Q (WE W σ) hr I3.env0 (hb s2 (.ref a :: us) I3.kIn hl) r2 q2) fun r s' hq => ?_))
          cases r with
          | error er => exact L2M.passAt tk σ _ _ _ er s' I3 hq
          | ok fl =>
            cases fl with
            | ret u => exact I3.after hq
            | next => exact False.elim hq
            | brk => exact False.elim hq
            | cont => exact False.elim hq
        exact thn z fun _ _ y => unpinE y
  | _ => exact False.elim q
end
section
variable {P : Program} {w : World} {K : PySem.W.Frag} {mg : Str → Option Value} {base : Heap}
theorem fn_supA {f D : Addr} {F : NdefX.NF} {fd : FuncData} {N ps : List Str} {sp : Sp} {k : Nat} {dvs : List V} (SF : SupFn P K f F D dvs fd) (S : NdefX.NScope N ps ["__class__"] F.scope)
    (len : ∀ vs H Q E, sp vs H Q E → vs.length = ps.length)
    (t : WX → TS) (term : ∀ (A : Around) (outer : List Env) (s : Shared) (H : Hp) (E : XK), Room k (A.deeper (NdefX.envF F f s.heap.objs.size)) → PAt (NdefX.ncx (L2M.CX K P w) P w K mg base N F f A outer s H E) F.body F.body (t (WD E)))
    (rd : ∀ vs H Q E, sp vs H Q E → t (WD E) (EndD Q) (NdefX.startF N vs [some (.ref D)]) H) :
    FnOk P w K mg base (L2M.CX K P w) (k + 1) f fd ps sp := by
  obtain ⟨cc, oc, od, an, dV, kV, doc, pm, ct, osl, hcl, rfl, lk, hD, cl, cld, csl, hcell⟩ := SF.ex
  refine ⟨len, fun A outer s H args us vs Q E hr e0 hb r hsp => ?_⟩
  have hl := len _ _ _ _ hsp
  have KX : K.In s.heap := e0.mod.kin.keeps fun b o e => (e0.bs b o e).1
  have lim : s.heap.NoLimit := e0.mod.nolimit.keeps fun b o e => (e0.bs b o e).1
  have C : NdefX.CellsAt F.cl ["__class__"] [some (.ref D)] s.heap H := by
    rw [hcl]
    have hK : ∀ y c, ([("__class__", cc)] : List (Str × Addr)).lookup y = some c → y = "__class__" ∧ c = cc := fun y c e => by
      simp only [List.lookup] at e
      split at e
      · rename_i hb; cases e; exact ⟨eq_of_beq hb, rfl⟩
      · cases e
    refine ⟨rfl, fun y c e => ?_, fun x y c e1 e2 => (hK x c e1).1.trans (hK y c e2).1.symm, fun i y e => ?_⟩
    · obtain ⟨_, rfl⟩ := hK y c e
      exact ⟨(e0.bs _ _ (e0.mod.kin _ _ hcell)).2, _, _, KX _ _ hcell, rfl⟩
    · cases i with
      | zero =>
        have e' : y = "__class__" := by simpa using e.symm
        subst e'
        refine ⟨cc, by simp [List.lookup], fun v hv => ?_⟩
        have hv' : V.ref D = v := by simpa using hv
        subst hv'
        exact ⟨.ref D, rfl, _, KX _ _ hcell, rfl⟩
      | succ i => simp at e
  refine PySem.ks_codeAny_call_defAt hr.depth (KX _ _ lk) rfl lim (PySem.W.codeRec_of KX SF.cd) (body := F.body) rfl hb S.nocell (fun ⟨n, v⟩ hy => S.par n (List.of_mem_zip hy).1) (fun h₁ hns kp => ?_) S.co S.gen S.kind
  have ht := term A outer s H E (hr.deeper _)
  have hq := rd _ _ _ _ hsp
  have I : Inv (NdefX.ncx (L2M.CX K P w) P w K mg base N F f A outer s H E) [] (NdefX.startF N vs [some (.ref D)]) H { s with heap := h₁, toks := s.toks + (ps.zip us).length } := NdefX.inv_startN S hr.hd e0 hl r C hns kp
  have fin : ∀ {s' : Shared} {σ' : L2.St} {H' : Hp} {v : V} {u : Value}, Inv (NdefX.ncx (L2M.CX K P w) P w K mg base N F f A outer s H E) [] σ' H' s' → RelV v u → Q v H' → CE outer P w H s Q u s' :=
    fun {s' σ' H' v u} J rv q => ⟨v, H', J.os, J.bare, J.base, J.hok, rv, q⟩
  have key : PySem.wpAt (model P w) (A.deeper (NdefX.envF F f s.heap.objs.size)) (.func F.body (NdefX.envF F f s.heap.objs.size)) (execs F.body (NdefX.envF F f s.heap.objs.size))
      (fun fl s' => CR (L2M.CX K P w) outer P w H s Q E (.ok (.ret (match fl with | .ret v => v | _ => .none))) s') (NdefX.ncx (L2M.CX K P w) P w K mg base N F f A outer s H E).xe { s with heap := h₁, toks := s.toks + (ps.zip us).length } := by
    refine PySem.ks_wpAt_mono (ht.run [] _ _ H _ I hq) (fun fl s2 h2 => ?_) fun _ _ z => z
    cases fl with
    | ret u =>
      obtain ⟨v, σ', H', J, rv, q⟩ := h2
      exact fin J rv q
    | next =>
      obtain ⟨σ', H', J, q⟩ := h2
      exact fin (v := V.non) (u := Value.none) J rfl q
    | brk =>
      obtain ⟨_, _, _, q⟩ := h2
      exact False.elim q
    | cont =>
      obtain ⟨_, _, _, q⟩ := h2
      exact False.elim q
  exact key
theorem takesN {N : List Str} {F : NdefX.NF} {f : Addr} {A : Around} {outer : List Env} {s : Shared} {H : Hp} {E : XK} :
    L2M.Takes (NdefX.ncx (L2M.CX K P w) P w K mg base N F f A outer s H E) (WD E) := L2M.takes_of rfl rfl rfl rfl
theorem ownN {N : List Str} {F : NdefX.NF} {f : Addr} {A : Around} {outer : List Env} {s : Shared} {H : Hp} {E : XK} :
    PassesOwn (model P w) (NdefX.ncx (L2M.CX K P w) P w K mg base N F f A outer s H E).A (NdefX.ncx (L2M.CX K P w) P w K mg base N F f A outer s H E).env (NdefX.ncx (L2M.CX K P w) P w K mg base N F f A outer s H E).xe := PassesOwn.leaving
end
end Ta

set_option Elab.async false
set_option linter.all false
set_option maxRecDepth 100000
set_option maxHeartbeats 1000000
namespace Ta
open PySem PySem.Spec PyProof.Rows L2

/-! ### x[::-1] -/
section
variable {X : Cx} {e : Expr} {te : TE}
theorem rev_made (x : Str) (t u : Tok) : sliceMade x t none none (some (-1, u)) = .str (S (tl x).reverse) := by
  have e : slicePicked x none none (some (-1, u)) = (List.range x.length).reverse := by
    show Builtin.Str.strSliceIndices none none (-1) x.length = _
    show sliceRange ((x.length : Int) - 1) (-1) (-1) = _
    rw [PySem.W.krv_sliceRange, PySem.W.krv_range]
  unfold sliceMade
  rw [if_neg (by simp)]
  rw [e, List.filterMap_reverse]
  have h : (List.range x.length).filterMap (x.cps[·]?) = tl x := PySem.W.krv_all x.cps
  rw [h]
def tRev (te : TE) : TE := fun σ H Q => te σ H fun x H1 => match x with
  | .str z => (tl z).length ≤ 1000000 ∧ Q (.str (S (tl z).reverse)) H1
  | .ref a => look H1 a fun o => (match o with
    | some (.lst xs) => ∀ p, H1 p = none → Q (.ref p) (upd H1 p (.lst xs.reverse))
    | _ => False)
  | _ => False
theorem prev {k : Nat} {p1 p2 p3 pos : Pos} (he : PE X e te) : PE X (.Subscript e (.Slice none none (some (.UnaryOp .USub (.Constant (.int 1) k p1) p2)) p3) pos) (tRev te) := by
  refine ⟨fun pins s σ H Q I h => ?_⟩
  refine Subscript_ (thn (he.run pins s σ H _ I h) fun v s1 hv => ?_)
  obtain ⟨x, H1, I1, r1, q1⟩ := hv
  have hneg : PO X (some (.UnaryOp .USub (.Constant (.int 1) k p1) p2)) (tPart (tUn (rU fun i => .int (-i)) (tC (.int 1)))) := po_some (pe_un un_neg pe_int)
  refine wpAny_Slice (thn (po_none.run pins s1 σ H1 (fun o H2 => o = none ∧ H2 = H1) I1 ⟨rfl, rfl⟩) fun lo s2 h2 => ?_)
  obtain ⟨l, H2, I2, pl, el, e2⟩ := h2
  subst el e2
  refine thn (po_none.run pins s2 σ H2 (fun o H3 => o = none ∧ H3 = H2) I2 ⟨rfl, rfl⟩) fun hi s3 h3 => ?_
  obtain ⟨u, H3, I3, pu, eu, e3⟩ := h3
  subst eu e3
  refine thn (hneg.run pins s3 σ H3 (fun o H4 => o = some (-1) ∧ H4 = H3) I3 ⟨1, rfl, -1, rfl, rfl, rfl⟩) fun vs s4 h4 => ?_
  obtain ⟨o, H4, I4, ps, eo, e4⟩ := h4
  subst eo e4
  have I5 : Inv X pins σ H4 { s4 with heap := s4.heap.push { cls := .type "slice", data := .fields #[lo, hi, vs] } } := I4.kept (t' := s4.toks) fun b oo q => Heap.get?_push_of_some _ q
  cases x with
  | str z =>
    obtain ⟨hzz, q⟩ := q1
    obtain ⟨t, rfl⟩ := r1
    obtain ⟨u, rfl⟩ : ∃ u, vs = Value.int (-1) u := by
      cases ps with
      | int i u => exact ⟨u, rfl⟩
    cases pl
    cases pu
    show wpAny (model X.prog X.w) X.A (subscriptTail e (.Slice none none (some (.UnaryOp .USub (.Constant (.int 1) k p1) p2)) p3) (.str z t) (.ref s4.heap.objs.size)) (EP X pins σ Q) X.xe { s4 with heap := s4.heap.push { cls := .type "slice", data := .fields #[.none, .none, .int (-1) u] } }
    refine tail_any (ops := [.str z t, .ref s4.heap.objs.size]) (typeIs_str _ z t) (PySem.F.slot_str_getitem.lookup) ?_ (by with_unfolding_all rfl)
    refine wpAny_getItem_str_slice (l := none) (u := none) (st := some (-1, u)) ⟨_, Heap.get?_push_size _ rfl, rfl, rfl⟩ rfl ?_
    rw [rev_made]
    exact ⟨by rw [len_tl]; show (tl z).reverse.length ≤ _; rw [List.length_reverse, sizeLine_eq]; omega, .str (S (tl z).reverse), H4, I5.tok _, ⟨_, rfl⟩, q⟩
  | ref a =>
    have q1 := look_e q1
    cases ea : H4 a with
    | none => rw [ea] at q1; exact q1.elim
    | some oo =>
      rw [ea] at q1
      cases oo with
      | lst xs =>
        cases r1
        have hx : SqL X.K H4 a xs := SqL.of ea
        obtain ⟨us, rr, hus, hzz⟩ := I5.list hx
        have hul := rr.length
        show wpAny (model X.prog X.w) X.A (subscriptTail e (.Slice none none (some (.UnaryOp .USub (.Constant (.int 1) k p1) p2)) p3) (.ref a) (.ref s4.heap.objs.size)) (EP X pins σ Q) X.xe { s4 with heap := s4.heap.push { cls := .type "slice", data := .fields #[lo, hi, vs] } }
        refine tail_any (ops := [.ref a, .ref s4.heap.objs.size]) hus.isList.typeIs (PySem.slot_list_getitem.lookup) ?_ (by with_unfolding_all rfl)
        refine wpAny_getItem_list_slice hus.isList (Heap.IsSliceOf.new _ lo hi vs) pl pu ps (by decide) ?_ (by rw [List.size_toArray]; omega)
        rw [PySem.W.krv_pick]
        refine ⟨.ref _, _, I5.laid (t' := s4.toks) (o := .lst xs.reverse) (fun b oo q => Heap.get?_push_of_some _ q) (Nat.le_refl _) ?_, rfl, q1 _ (I5.hok.fresh (Nat.le_refl _))⟩
        exact ⟨by rw [List.length_reverse]; exact hzz, _, 0, rr.reverse, Heap.get?_push_size _ rfl⟩
      | _ => exact q1.elim
  | _ => exact False.elim q1
end
end Ta

set_option Elab.async false
set_option linter.all false
set_option maxRecDepth 100000
set_option maxHeartbeats 1000000
namespace Ta
open PySem PySem.Spec PyProof.Rows L2

/-! ### x[i] += e (x a list) and name += e -/
section
variable {X : Cx}
def zGetL : V → V → Hp → VK → Prop := fun o i H Q => match o with
  | .ref p => (match i with
    | .int k => look H p fun ob => (match ob with
      | some (.lst xs) => itm xs k fun v => Q v H
      | _ => False)
    | _ => False)
  | _ => False
theorem getp : PGet X zGetL := by
  intro pins s σ H o i ov iv Q I ro ri h
  cases o with
  | ref p =>
    cases i with
    | int k =>
      have h := look_e h
      revert h
      cases e : H p with
      | none => exact fun h => h.elim
      | some ob =>
        cases ob with
        | lst xs =>
          intro h
          obtain ⟨z, he, q⟩ := itm_e h
          cases ro
          obtain ⟨t, rfl⟩ := ri
          obtain ⟨its, r, pl, hz⟩ := I.list (SqL.of (K := X.K) e)
          obtain ⟨j, h1, h2, h3, h4, h5⟩ := atI_get he
          obtain ⟨w, ew, rw'⟩ := r.get h2
          have hl := r.length
          have hn := line63
          have fin : EP X pins σ Q w s := ⟨z, H, I, rw', q⟩
          by_cases h0 : 0 ≤ k
          · have hj : k.toNat = j := by
              rw [seqIndex_of h0 h5] at h1
              exact Option.some.inj h1
            exact wpAny_getItem_list pl.isList h0 (by omega) (by rw [hj]; simpa using ew) fin
          · have hj : (k + (its.toArray.size : Int)).toNat = j := by
              rw [seqIndex_neg (by omega) h4] at h1
              rw [List.size_toArray, ← hl]
              exact Option.some.inj h1
            exact wpAny_getItem_list_neg pl.isList (by omega) (by rw [List.size_toArray] <;> omega) (by omega) (by rw [hj]; simpa using ew) fin
        | _ => exact fun h => h.elim
    | _ => exact h.elim
  | _ => exact h.elim
/-- ints, added in place -/
def zIadd : TIp := fun x y H Q => match x with
  | .int i => (match y with
    | .int j => Q (.int (i + j)) H
    | _ => False)
  | _ => False
theorem ipadd : PIp X .Add zIadd := by
  intro pins s σ H x y v u Q I r1 r2 h
  cases x with
  | int i => cases y with
    | int j => exact ip_add pins s σ H (.int i) (.int j) v u Q I r1 r2 ⟨i, j, rfl, rfl, h⟩
    | _ => exact h.elim
  | _ => exact h.elim
variable {o i e : Expr} {to ti te : TE} {tpos pos : Pos}
def tAugI (to ti te : TE) : TS := fun D σ H => to σ H fun o H1 => ti σ H1 fun i H2 => zGetL o i H2 fun x H3 => te σ H3 fun y H4 => zIadd x y H4 fun z H5 => zSetP o i z H5 fun H6 => D.nx σ H6
theorem psaugi (ho : PE X o to) (hi : PE X i ti) (he : PE X e te)
    (ha : ∀ ov iv new, augStore i ov iv new = (do holding [new, ov, iv] (setItem ov iv new); release [new, ov, iv] []; pure .next) := by intros; rfl) : PS X (.AugAssign (.Subscript o i tpos) .Add e pos) (tAugI to ti te) :=
  ps_augS ho hi getp he ipadd setp ha
def tAugN (i : Nat) (te : TE) : TS := fun D σ H => match σ[i]? with
  | some (some x) => te σ H fun y H1 => zIadd x y H1 fun z H2 => D.nx (σ.set i (some z)) H2
  | _ => False
theorem psaugn {i : Nat} {x : Str} {pos' : Pos} (hN : X.N.Nodup) (he : PE X e te) (hi : X.N[i]? = some x := by rfl) (hx : Loc X.env.scope x := by first | exact Or.inl rfl | exact Or.inr rfl) (hf : X.fn x = true ∨ X.env.scope.names.lookup x = some .local := by first | exact .inl rfl | exact .inr rfl | assumption) :
    PS X (.AugAssign (.Name x pos') .Add e pos) (tAugN i te) := by
  refine ⟨fun pins s σ H D I h => ?_⟩
  cases ex : σ[i]? with
  | none => unfold tAugN at h; rw [ex] at h; exact h.elim
  | some ov =>
    cases ov with
    | none => unfold tAugN at h; rw [ex] at h; exact h.elim
    | some v =>
      unfold tAugN at h; rw [ex] at h
      exact (ps_aug (pos := pos) hN hi hx he ipadd hf).run pins s σ H D I ⟨v, ex, h⟩
end
end Ta

set_option Elab.async false
set_option linter.all false
set_option maxRecDepth 100000
set_option maxHeartbeats 1000000
namespace Ta
open PySem PySem.Spec PyProof.Rows L2

/-! ### len of an instance of an own class -/
def zLenO (C : Addr) (sp : Sp) : List V → Hp → VK → Prop := fun xs H Q => one xs fun x => match x with
  | .ref a => look H a fun o => (match o with
    | some (.ins C1 dx fs) => C1 = C ∧ sp [.ref a] H (fun v H' => match v with
      | .int i => 0 ≤ i ∧ i < 4611686018427387904 ∧ Q (.int i) H'
      | _ => False) fun _ _ _ => False
    | _ => False)
  | _ => False
section
variable {X : Cx}
/-- a call from within a builtin -/
theorem run_in1 {k : Nat} {f : Addr} {fd : FuncData} {ps : List Str} {sp : Sp} {ds : List Value} {dvs : List V} {E : St → XK} {CX : CXT} {pins : List (Addr × Obj)} {σ : St} {H : Hp} {s : Shared} {Q : VK} {us : List Value} {vs : List V} (F : FnOk X.prog X.w X.K X.mg X.base CX k f fd ps sp) (hr : Room (k + 1) X.A) (hb : Binds X.K fd ps ds) (hd : Vals dvs ds) (hx : PassesAt CX X σ (E σ))
    (I : Inv X pins σ H s) (r : Vals vs us) (h : sp (vs ++ dvs) H Q (E σ)) : wpAny (model X.prog X.w) X.A.in1 (call (.ref f) us) (EP X pins σ Q) X.xe s := by
  have r2 : Vals (vs ++ dvs) (us ++ ds) := r.append hd
  have hl : (us ++ ds).length = ps.length := by rw [← r2.length]; exact F.len _ _ _ _ h
  refine wpAny_call (codeAny_mono (F.run X.A.in1 X.stack s H ⟨us, []⟩ (us ++ ds) (vs ++ dvs) Q (E σ) hr.in1 I.env0.in1 (hb s us I.kIn hl) r2 h) fun r s' hq => ?_)
  cases r with
  | error e => exact hx pins H s e s' I hq
  | ok fl =>
    cases fl with
    | ret u => exact I.after hq
    | next => exact False.elim hq
    | brk => exact False.elim hq
    | cont => exact False.elim hq
theorem crlenO {C : Addr} {lv : Nat} {sp : Sp} (M : Me X.prog X.w X.K X.mg X.base C "__len__" lv [] sp) (hr : Room (lv + 1) X.A) : CallR X (.builtin "len") (zLenO C sp) := by
  intro pins s σ H xs us Q I r h
  obtain ⟨x, rfl, h⟩ := one_e h
  obtain ⟨u, rfl, rx⟩ := vals1 r
  cases x with
  | ref a =>
    have h := look_e h
    cases ea : H a with
    | none => rw [ea] at h; exact h.elim
    | some o =>
      rw [ea] at h
      cases o with
      | ins C1 dx fs =>
        obtain ⟨e1, h3⟩ := h
        subst e1
        cases rx
        obtain ⟨⟨f, fd, ps, ds, F, hm, hd, hb⟩, cl⟩ := M
        cases hd
        obtain ⟨mA, J, _⟩ := ins_get I.hok ea
        obtain ⟨od, J, _⟩ := J.look
        refine Calls.call_function_entry kind_len plain_len entry_len (args_len1 _) ?_
        unfold Builtin.«len»
        refine wpAny_bind (m := oneArg "len" _) (wpAny_pure ?_)
        refine wpAny_bind (m := callSpecial? (.ref a) (Str.ofString "__len__")) (PySem.W.special_fn I.kIn J hm.at_ (beq_iff_eq.mp hm.fn) ?_)
        refine wpAny_mono (run_in1 (E := WE WF) (us := [.ref a]) (vs := [.ref a]) F hr hb .nil (L2M.passAt L2M.takes0 σ) I (.cons rfl .nil) h3) (fun r s' q => ?_) fun _ _ z => z
        obtain ⟨z, H', I', rz, q⟩ := q
        cases z with
        | int i =>
          obtain ⟨t, rfl⟩ := rz
          obtain ⟨h0, h1, q⟩ := q
          show wpAny _ _ _ _ _ _
          refine wpAny_bind (wpAny_holding (wpAny_pure ?_))
          refine wpAny_bind (wpAny_letGo ?_)
          show wpAny _ _ (if i < 0 then _ else _) _ _ _
          rw [if_neg (by omega)]
          show wpAny _ _ (if i ≥ 2 ^ 63 then _ else _) _ _ _
          rw [if_neg (by omega)]
          exact wpAny_bind (wpAny_mkInt (wpAny_pure ⟨_, rfl, .int i, H', I'.tok _, ⟨_, rfl⟩, q⟩))
        | _ => exact q.elim
      | _ => exact h.elim
  | _ => exact h.elim
end
end Ta

set_option Elab.async false
set_option linter.all false
set_option maxRecDepth 100000
set_option maxHeartbeats 1000000
namespace Ta
open PySem PySem.Spec PyProof.Rows L2

/-! ### sorted(x), x a text or a list of signs -/
structure sgl (vs : List V) (k : List Nat → Prop) : Prop where
  out : ∃ l : List Nat, vs = sgn l ∧ k l
theorem sgl_i {l : List Nat} {k : List Nat → Prop} (q : k l) : sgl (sgn l) k := by refine ⟨?_⟩; exact ⟨l, rfl, q⟩
theorem sgl_e {vs : List V} {k : List Nat → Prop} (h : sgl vs k) : ∃ l : List Nat, vs = sgn l ∧ k l := by replace h := h.out; exact h
def zSrt2 (x : V) (H : Hp) (Q : VK) : Prop := match x with
  | .str z => (tl z).length < 64 ∧ ∀ p, H p = none → Q (.ref p) (upd H p (.lst (sgn (srt (tl z)))))
  | .ref a => look H a fun o => (match o with
    | some (.lst vs) => sgl vs fun l => l.length < 64 ∧ ∀ p, H p = none → Q (.ref p) (upd H p (.lst (sgn (srt l))))
    | _ => False)
  | _ => False
def zSort2 : List V → Hp → VK → Prop := fun xs H Q => one xs fun x => zSrt2 x H Q
section
variable {X : Cx}
theorem crsort2 (hcalm : X.calm = true) : CallR X (.builtin "sorted") zSort2 := by
  intro pins s σ H xs us Q I r q
  obtain ⟨x, rfl, q⟩ := one_e q
  cases x with
  | str z => exact crsort hcalm pins s σ H _ us Q I r q
  | ref a =>
    have q := look_e q
    cases ea : H a with
    | none => rw [ea] at q; exact q.elim
    | some o =>
      rw [ea] at q
      cases o with
      | lst vs =>
        obtain ⟨l, rfl, h64, q⟩ := sgl_e q
        have ev : ∀ l : List Nat, (l.map fun c => S [c]).map V.str = sgn l := fun l => by unfold sgn; rw [List.map_map]; rfl
        refine cr_sortedS pins s σ H _ us Q I r ⟨a, l.map fun c => S [c], rfl, .inl (.inl ?_), by rw [List.length_map]; exact h64, fun ys p g2 g3 hp => ?_⟩
        · rw [ev]; exact ea
        · obtain ⟨l', rfl, pl⟩ := perm_map_inv g2
          have el : l' = srt l := srt_uniq pl (sorted_one l' g3)
          subst el
          rw [ev]; exact q p hp
      | _ => exact q.elim
  | _ => exact q.elim
end
/-- over a list, any target -/
theorem loop_lg {xs : List V} {p : Addr} {g : TG} {tb : TS} {D : Ends} {σ : St} {H : Hp} (Pv : Nat → St → Hp → Prop) (h0 : Pv 0 σ H) (hst : ∀ i σ H, i ≤ xs.length → Pv i σ H → H p = some (.lst xs))
    (hs : ∀ i (hi : i < xs.length) σ H, Pv i σ H → g xs[i] σ H fun σ2 H2 => tb { D with nx := Pv (i + 1), ct := Pv (i + 1), bk := D.nx } σ2 H2) (hd : ∀ σ H, Pv xs.length σ H → D.nx σ H) :
    loop xs.length (itL xs) (fun H' => H' p = some (.lst xs)) g tb D σ H := by
  refine loop_i Pv h0 hst ?_ hd
  rintro i x σ H H' hi hP ⟨rfl, hx⟩
  rw [List.getElem?_eq_getElem hi] at hx
  cases hx
  exact hs i hi σ H' hP
end Ta

set_option Elab.async false
set_option linter.all false
set_option maxRecDepth 100000
set_option maxHeartbeats 1000000
namespace Ta
open PySem PySem.Spec PyProof.Rows L2

/-! ### // by a great number -/
def zDivW : R2 := zI2 CDivW fun i j => .int (i / j)
section
variable {X : Cx}
theorem opdivW : OpR X (binaryOp .FloorDiv) zDivW := op_imp op_fdivW fun _ _ _ _ h => zI2_e h
end
theorem divW {i j : Int} (h : 0 < j) (h2 : j < 1267650600228229401496703205376) : CDivW i j := wide_div (b := 100) h (by
  have e : (2 : Nat) ^ 100 = 1267650600228229401496703205376 := by decide
  rw [e]; omega) (by decide) (by decide)
/-- '' is in each text -/
theorem occ0 (b : List Nat) : occ [] b = true := (PySem.StrLaws.found_iff (S b) (S [])).mpr ⟨0, by show 0 + 0 ≤ _; omega, by simp [Builtin.Str.subAt, Str.length, S]⟩
end Ta

set_option Elab.async false
set_option linter.all false
set_option maxRecDepth 100000
set_option maxHeartbeats 1000000
namespace Ta
open PySem PySem.Spec PyProof.Rows L2
/-- a store at an index -/
theorem ixs_i {n : Nat} {r : Int} {k : Nat → Prop} (h0 : 0 ≤ r) (h1 : r < (n : Int)) (q : ∀ j : Nat, j < n → r = (j : Int) → k j) : ∃ j, ixN n r = some j ∧ k j := by
  obtain ⟨j, rfl⟩ := Int.eq_ofNat_of_zero_le h0
  have hj : j < n := by omega
  refine ⟨j, ?_, q j hj rfl⟩
  unfold ixN
  rw [if_pos (by omega), if_pos (by omega)]
  congr 1
/-! the goal's head, told by a step that leaves it -/
theorem look_id {H : Hp} {p : Addr} {k : Option HO → Prop} (h : look H p k) : look H p k := h
theorem itm_id {α : Type} {xs : List α} {i : Int} {k : α → Prop} (h : itm xs i k) : itm xs i k := h
theorem fld_id {fs : List (Str × V)} {f : Str} {k : V → Prop} (h : fld fs f k) : fld fs f k := h
theorem cnd_id {c : Bool} {p q : Prop} (h : cnd c p q) : cnd c p q := h
theorem isa_id {K : PySem.W.Frag} {t : Value} {c : V} {H : Hp} {Q : Bool → Prop} (h : isaP K t c H Q) : isaP K t c H Q := h
theorem joi_id {xs : List V} {s : List Nat} {k : List Nat → Prop} (h : joi xs s k) : joi xs s k := h
theorem and_id {p q : Prop} (h : p ∧ q) : p ∧ q := h
theorem ex_id {α : Type} {p : α → Prop} (h : ∃ x, p x) : ∃ x, p x := h
end Ta

set_option Elab.async false
set_option linter.all false
set_option maxRecDepth 100000
set_option maxHeartbeats 3200000
namespace Ta
open PySem PySem.Spec PyProof.Rows L2

/-! ### several except clauses, each with a name or without -/
inductive Hk where
  | na (c : Value) (ts : Addr → Value → Option Addr → TS)
  | as (i : Nat) (c : Value) (ts : Addr → Value → Option Addr → TS)
def wHk (K : PySem.W.Frag) (Wout : WX) (D : Ends) : List Hk → WX
  | [] => Wout
  | .na c ts :: r => fun cls d σ H => ∃ b, PySem.W.exmOne K cls c = some b ∧ (b = true → ∀ a, H a = none → ts a cls d D σ H) ∧ (b = false → wHk K Wout D r cls d σ H)
  | .as i c ts :: r => fun cls d σ H => ∃ b, PySem.W.exmOne K cls c = some b ∧ (b = true → ∀ a, H a = none → ts a cls d { nx := fun σ' H' => D.nx (σ'.set i none) H', rt := D.rt, bk := fun σ' H' => D.bk (σ'.set i none) H', ct := fun σ' H' => D.ct (σ'.set i none) H' } (σ.set i (some (.ref a))) H) ∧
      (b = false → wHk K Wout D r cls d σ H)
theorem whk_t {K : PySem.W.Frag} {c : Value} {ts : Addr → Value → Option Addr → TS} {Wout : WX} {D : Ends} {cls : Value} {d : Option Addr} {σ : St} {H : Hp} {r : List Hk} (h : PySem.W.exmOne K cls c = some true) (q : ∀ a, H a = none → ts a cls d D σ H) : wHk K Wout D (.na c ts :: r) cls d σ H :=
  ⟨true, h, fun _ => q, fun z => by cases z⟩
theorem whk_f {K : PySem.W.Frag} {c : Value} {ts : Addr → Value → Option Addr → TS} {Wout : WX} {D : Ends} {cls : Value} {d : Option Addr} {σ : St} {H : Hp} {r : List Hk} (h : PySem.W.exmOne K cls c = some false) (q : wHk K Wout D r cls d σ H) : wHk K Wout D (.na c ts :: r) cls d σ H :=
  ⟨false, h, (fun z => by cases z), fun _ => q⟩
theorem whk_at {K : PySem.W.Frag} {c : Value} {i : Nat} {ts : Addr → Value → Option Addr → TS} {Wout : WX} {D : Ends} {cls : Value} {d : Option Addr} {σ : St} {H : Hp} {r : List Hk} (h : PySem.W.exmOne K cls c = some true)
    (q : ∀ a, H a = none → ts a cls d { nx := fun σ' H' => D.nx (σ'.set i none) H', rt := D.rt, bk := fun σ' H' => D.bk (σ'.set i none) H', ct := fun σ' H' => D.ct (σ'.set i none) H' } (σ.set i (some (.ref a))) H) : wHk K Wout D (.as i c ts :: r) cls d σ H :=
  ⟨true, h, fun _ => q, fun z => by cases z⟩
theorem whk_af {K : PySem.W.Frag} {c : Value} {i : Nat} {ts : Addr → Value → Option Addr → TS} {Wout : WX} {D : Ends} {cls : Value} {d : Option Addr} {σ : St} {H : Hp} {r : List Hk} (h : PySem.W.exmOne K cls c = some false) (q : wHk K Wout D r cls d σ H) : wHk K Wout D (.as i c ts :: r) cls d σ H :=
  ⟨false, h, (fun z => by cases z), fun _ => q⟩
inductive HdsX (X : Cx) : List ExceptHandler → List Hk → Prop
  | nil : HdsX X [] []
  | na {x : Str} {c : Value} {ts : Addr → Value → Option Addr → TS} {b₀ : Stmt} {suite : List Stmt} {np pos' : Pos} {hds : List ExceptHandler} {l : List Hk} (hc : Names X x c)
      (hsu : ∀ (a : Addr) (oe : Obj) (cls : Value) (d : Option Addr) (pn : List (Addr × Obj)), L2M.Zm X.K cls d oe → (∃ vs, oe.data = .fields vs) → PSs (X.suite a ((a, oe) :: pn)) (b₀ :: suite) (ts a cls d)) (r : HdsX X hds l) :
      HdsX X (.ExceptHandler (some (.Name x np)) none (b₀ :: suite) pos' :: hds) (.na c ts :: l)
  | as {i : Nat} {x n : Str} {c : Value} {ts : Addr → Value → Option Addr → TS} {b₀ : Stmt} {suite : List Stmt} {np pos' : Pos} {hds : List ExceptHandler} {l : List Hk} (hi : X.N[i]? = some n) (hln : X.env.kindOf n = some .local) (hc : Names X x c)
      (hsu : ∀ (a : Addr) (oe : Obj) (cls : Value) (d : Option Addr) (pn : List (Addr × Obj)), L2M.Zm X.K cls d oe → (∃ vs, oe.data = .fields vs) → PSs (X.suite a ((a, oe) :: pn)) (b₀ :: suite) (ts a cls d)) (r : HdsX X hds l) :
      HdsX X (.ExceptHandler (some (.Name x np)) (some n) (b₀ :: suite) pos' :: hds) (.as i c ts :: l)
section
variable {X : Cx} {body : List Stmt} {h₀ : ExceptHandler} {hds : List ExceptHandler} {l : List Hk} {pos : Pos} {tb : WX → TS} {Wout : WX}
theorem ps_try_x (hs : X.stack = X.env :: X.outer) (hf : X.env.frame = some X.env.locals) (hN : X.N.Nodup) (tk : L2M.Takes X Wout)
    (hb : ∀ (W : WX) (pn : List (Addr × Obj)) (xe : Value → Shared → Prop), L2M.Takes (X.tr pn xe) W → PassesOwn (model X.prog X.w) X.A X.env xe → PSs (X.tr pn xe) body (tb W))
    (hh : HdsX X (h₀ :: hds) l) : PS X (.Try body (h₀ :: hds) [] [] pos) (fun D σ H => tb (wHk X.K Wout D l) D σ H) := by
  refine ⟨fun pins s σ H D I h => ?_⟩
  have ok := I.ok
  have hfr : X.A.frames = some (X.env :: X.outer) := by rw [ok.frames, hs]
  refine wpAny_Try_except ?_
  refine wpAny_mono ((hb (wHk X.K Wout D l) (X.pn ++ pins) (fun e s₁ => wpAny (model X.prog X.w) X.A (noteFrame e X.env) (fun _ s₂ => wpAny (model X.prog X.w) X.A (setFlight e none) (fun _ s₃ =>
    wpAny (model X.prog X.w) X.A (handleBy e X.env (h₀ :: hds)) (SP X pins D) X.xe s₃) X.xe s₂) X.xe s₁) (fun u s' xx => ?_) PassesOwn.looking).run [] s σ H D (I.toTry _) h) (fun f s1 hsp => ?_) (fun e s1 he => he)
  · -- the catch
    obtain ⟨a, B, sI, pins', σ', H', cls, d, rfl, J', nb, up, sky, na, os, ag, w⟩ := xx
    have J : Inv X pins σ' H' sI := J'.ofTry ok
    have sky' : Sky B (X.env :: X.outer) a (L2M.Zm X.K cls d) X.env.locals s'.heap := by rw [← hs]; exact sky
    show wpAny (model X.prog X.w) X.A (noteFrame (.ref a) X.env) _ _ _
    refine L2N.Sky.land L2M.Zm.steady hfr hf sky' fun h3 fl3 up3 => ?_
    have J3 : Inv X pins σ' H' { s' with heap := h3 } := J.landed nb fl3.1 (up.trans up3) os ag
    obtain ⟨oe3, vs3, he3, hz3, hd3⟩ := fl3.there
    have notFr : ∀ {h : Heap} {o : Obj} {vs : Array Value}, h.FunFrames B (X.env :: X.outer) → h.get? a = some o → o.data = .fields vs → a ∉ frs (X.env :: X.outer) := fun {h o vs} ff e dd hm => by
      obtain ⟨_, o', e', hnf⟩ := ff.mem hm
      rw [e] at e'; cases e'
      exact hnf _ dd
    have nfr := notFr fl3.2.2.1 he3 hd3
    have nL : a ≠ X.env.locals := fun z => nfr (List.mem_filterMap.mpr ⟨X.env, List.mem_cons_self, by rw [hf, z]⟩)
    have nF : a ∉ X.fs := fun hm => by
      obtain ⟨e, he, q⟩ := List.mem_filterMap.mp hm
      exact nfr (List.mem_filterMap.mpr ⟨e, List.mem_cons_of_mem _ he, q⟩)
    have S3 := J3.suite he3 hd3 na nL nF
    have LT : PySem.W.Looks (model X.prog X.w) h3 (typeOf (.ref a)) cls := fun A Q E s k q => wpAny_typeOf_ref (k _ _ he3) (by rw [hz3.1]; exact q)
    have tst : ∀ {x : Str} {c : Value} {np : Pos} (hc : Names X x c) {Q : Value → Shared → Prop} {E : Value → Shared → Prop}, Q c { s' with heap := h3 } → wpAny (model X.prog X.w) (X.A.mark (some (.ref a))) (eval (.Name x np) X.env) Q E { s' with heap := h3 } := fun {x c np} hc {Q E} q => by
      obtain ⟨hg, hdbg, hm | ⟨hm, hv, hnn⟩⟩ := hc
      · exact ld_glob (X := X.suite a ((a, oe3) :: (X.pn ++ pins))) S3 hg hm q hdbg
      · exact ld_blt (X := X.suite a ((a, oe3) :: (X.pn ++ pins))) S3 hg hm hv q hnn hdbg
    have go : ∀ {hds' : List ExceptHandler} {l' : List Hk}, HdsX X hds' l' → wHk X.K Wout D l' cls d σ' H' →
        wpAny (model X.prog X.w) X.A (handleBy (.ref a) X.env hds') (SP X pins D) X.xe { s' with heap := h3 } := by
      intro hds' l' hk
      induction hk with
      | nil =>
        intro w
        refine wpAny_handleBy_nil ?_
        obtain ⟨k1, k2, k3, oe, vs, T, oT, ts', he, hz, hd, h1, hr⟩ := id fl3
        unfold PySem.passOn
        refine wpAny_bind (wpAny_field he hd h1 ?_)
        rw [if_neg (show ¬ ((Value.ref T == Value.none) = true) from by simp)]
        have fin : wpAny (model X.prog X.w) X.A (setFlight (.ref a) X.env.frame) (fun _ s4 => wpAny (model X.prog X.w) X.A (throw (.ref a) : Sem Flow) (SP X pins D) X.xe s4) X.xe { s' with heap := h3 } := by
          rw [hf]
          refine HandSPX.setFlight_upZ fl3 fun h4 hh4 up4 => wpAny_throw (tk _ _ ?_)
          exact ⟨a, B, sI, pins, σ', H', cls, d, rfl, J, nb, (up.trans up3).trans up4, .inr (.inr (by rw [hs]; exact hh4)), na, os, ag, w⟩
        first
          | exact wpAny_bind (wpAny_pure (wpAny_bind fin))
          | exact wpAny_bind fin
      | @na x c ts b₀ suite np pos' hds2 l2 hc hsu r ih =>
        intro w
        obtain ⟨b, hb1, hyes, hno⟩ := w
        refine wpAny_handleBy_cons (codeAny_handlers_test ?_) (by intro q; cases q)
        have LM := PySem.W.exm_one (M := model X.prog X.w) (J3.kIn) LT hb1
        refine tst hc (LM.here ?_)
        cases b with
        | true =>
          refine codeAny_handlers_suite ?_
          refine HandSPX.lands_againZ fl3 fun h4 fl4 up4 => ?_
          have J4 : Inv X pins σ' H' { s' with heap := h4 } := J.landed nb fl4.1 ((up.trans up3).trans up4) os ag
          obtain ⟨oe4, vs4, he4, hz4, hd4⟩ := fl4.there
          have S4 := J4.suite he4 hd4 na nL nF
          refine wpAny_mono ((hsu a oe4 cls d (X.pn ++ pins) hz4 ⟨_, hd4⟩).run [] _ _ H' _ S4 (hyes rfl a na)) (fun f s6 hsp => ?_) (fun _ _ z => False.elim z)
          cases f with
          | next =>
            obtain ⟨σ6, H6, S6, q6⟩ := hsp
            exact ⟨_, _, S6.unsuite ok, q6⟩
          | brk =>
            obtain ⟨σ6, H6, S6, q6⟩ := hsp
            exact ⟨_, _, S6.unsuite ok, q6⟩
          | cont =>
            obtain ⟨σ6, H6, S6, q6⟩ := hsp
            exact ⟨_, _, S6.unsuite ok, q6⟩
          | ret u =>
            obtain ⟨v6, σ6, H6, S6, r6, q6⟩ := hsp
            exact ⟨_, _, _, S6.unsuite ok, r6, q6⟩
        | false =>
          show wpAny _ X.A (handleBy (.ref a) X.env hds2) _ _ _
          exact ih (hno rfl)
      | @as i x n c ts b₀ suite np pos' hds2 l2 hi hln hc hsu r ih =>
        intro w
        obtain ⟨b, hb1, hyes, hno⟩ := w
        have hloc : Loc X.env.scope n := .inl hln
        refine wpAny_handleBy_cons (codeAny_handlers_test ?_) (by intro q; cases q)
        have LM := PySem.W.exm_one (M := model X.prog X.w) (J3.kIn) LT hb1
        refine tst hc (LM.here ?_)
        cases b with
        | true =>
          refine codeAny_handlers_suite_as ?_
          refine HandSPX.lands_againZ fl3 fun h4 fl4 up4 => ?_
          have J4 : Inv X pins σ' H' { s' with heap := h4 } := J.landed nb fl4.1 ((up.trans up3).trans up4) os ag
          obtain ⟨oe4, vs4, he4, hz4, hd4⟩ := fl4.there
          have S4 := J4.suite he4 hd4 na nL nF
          refine store_ok (X := X.suite a ((a, oe4) :: (X.pn ++ pins))) (v := .ref a) S4 hN hi hloc rfl (fun s5 S5 => ?_) (.inr hln)
          refine wpAny_mono ((hsu a oe4 cls d (X.pn ++ pins) hz4 ⟨_, hd4⟩).run [] s5 _ H' _ S5 (hyes rfl a na)) (fun f s6 hsp => ?_) (fun _ _ z => False.elim z)
          have end_ : ∀ {σ6 : St} {H6 : Hp} {Q : Shared → Prop}, Inv (X.suite a ((a, oe4) :: (X.pn ++ pins))) [] σ6 H6 s6 → (∀ s7, Inv X pins (σ6.set i none) H6 s7 → Q s7) →
              wpAny (model X.prog X.w) X.A (do bindName X.env n .none; unbindBehindTheSuite X.env n pos') (fun _ s7 => Q s7) X.xe s6 := fun {σ6 H6 Q} S6 hq => gone_ok (S6.unsuite ok) hN hi hln hq
          cases f with
          | next =>
            obtain ⟨σ6, H6, S6, q6⟩ := hsp
            exact end_ S6 fun s7 J7 => ⟨_, _, J7, q6⟩
          | brk =>
            obtain ⟨σ6, H6, S6, q6⟩ := hsp
            exact end_ S6 fun s7 J7 => ⟨_, _, J7, q6⟩
          | cont =>
            obtain ⟨σ6, H6, S6, q6⟩ := hsp
            exact end_ S6 fun s7 J7 => ⟨_, _, J7, q6⟩
          | ret u =>
            obtain ⟨v6, σ6, H6, S6, r6, q6⟩ := hsp
            exact end_ S6 fun s7 J7 => ⟨_, _, _, J7, r6, q6⟩
        | false =>
          show wpAny _ X.A (handleBy (.ref a) X.env hds2) _ _ _
          exact ih (hno rfl)
    exact go hh w
  · cases f with
    | next =>
      obtain ⟨σ', H', J', q⟩ := hsp
      exact wpAny_execs_nil ⟨σ', H', J'.ofTry ok, q⟩
    | brk =>
      obtain ⟨σ', H', J', q⟩ := hsp
      exact ⟨σ', H', J'.ofTry ok, q⟩
    | cont =>
      obtain ⟨σ', H', J', q⟩ := hsp
      exact ⟨σ', H', J'.ofTry ok, q⟩
    | ret u =>
      obtain ⟨v, σ', H', J', r, q⟩ := hsp
      exact ⟨v, σ', H', J'.ofTry ok, r, q⟩
end

/-! ### own operators between two instances of one class, which may raise -/
def SelfF (K : PySem.W.Frag) (C : Addr) : Prop := PySem.W.selfFirst K C = true
def bSelf (x : Str) : BF := fun K => PySem.W.selfFirst K (He.ga K x)
theorem self_of {K : PySem.W.Frag} {x : Str} (c : bSelf x K = true) : SelfF K (He.ga K x) := c
def isIns (C : Addr) (x : V) (H : Hp) (k : Addr → Prop) : Prop := match x with
  | .ref a => look H a fun o => (match o with
    | some (.ins C1 dx fs) => C1 = C ∧ k a
    | _ => False)
  | _ => False
theorem isIns_e {C : Addr} {x : V} {H : Hp} {k : Addr → Prop} (h : isIns C x H k) : ∃ a dx fs, x = .ref a ∧ H a = some (.ins C dx fs) ∧ k a := by
  cases x with
  | ref a =>
    have h := look_e h
    cases ea : H a with
    | none => rw [ea] at h; exact h.elim
    | some o =>
      rw [ea] at h
      cases o with
      | ins C1 dx fs =>
        obtain ⟨e1, h2⟩ := h
        subst e1
        exact ⟨a, dx, fs, rfl, ea, h2⟩
      | _ => exact h.elim
  | _ => exact h.elim
/-- the answer is no NotImplemented -/
def someV (v : V) (p : Prop) : Prop := match v with
  | .ref _ => p
  | .int _ => p
  | .bl _ => p
  | .str _ => p
  | .non => p
  | _ => False
theorem someV_e {v : V} {u : Value} {p : Prop} (r : RelV v u) (h : someV v p) : p ∧ u ≠ .notImplemented := by
  cases v with
  | ref a => obtain rfl : u = Value.ref a := r; exact ⟨h, by intro z; cases z⟩
  | int a => obtain ⟨t, rfl⟩ : ∃ t, u = Value.int a t := r; exact ⟨h, by intro z; cases z⟩
  | bl a => obtain rfl : u = Value.bool a := r; exact ⟨h, by intro z; cases z⟩
  | str a => obtain ⟨t, rfl⟩ : ∃ t, u = Value.str a t := r; exact ⟨h, by intro z; cases z⟩
  | non => obtain rfl : u = Value.none := r; exact ⟨h, by intro z; cases z⟩
  | _ => exact h.elim
def tBinO (C : Addr) (sp : Sp) (W : WX) (ta tb : TE) : TE := fun σ H Q => ta σ H fun x H1 => tb σ H1 fun y H2 => isIns C x H2 fun a => isIns C y H2 fun b => sp [.ref a, .ref b] H2 (fun v H' => someV v (Q v H')) fun c d H' => W c d σ H'
section
variable {X : Cx} {a b : Expr} {ta tb : TE} {pos : Pos} {lv : Nat} {sp : Sp} {W : WX} {C : Addr}
theorem pe_binO {op : Operator} {m : Str} (M : Me X.prog X.w X.K X.mg X.base C m lv [] sp) (sf : SelfF X.K C) (hr : Room lv X.A) (tk : L2M.Takes X W) (ha : PE X a ta) (hb : PE X b tb) (hm' : PySem.dunder op.info.2 = m := by decide +kernel) : PE X (.BinOp a op b pos) (tBinO C sp W ta tb) := by
  subst hm'
  refine ⟨fun pins s σ H Q I h => ?_⟩
  refine wpAny_BinOp (binT ha hb I h fun v u s2 x y H2 I2 rx ry q => ?_)
  obtain ⟨p, dx, fs, rfl, hp, q⟩ := isIns_e q
  obtain ⟨p', dx', fs', rfl, hp', q⟩ := isIns_e q
  cases rx
  cases ry
  obtain ⟨⟨f, fd, ps, ds, F, hm, hd, hb⟩, cl⟩ := M
  cases hd
  obtain ⟨mA, J, _⟩ := ins_get I2.hok hp
  obtain ⟨mB, J', _⟩ := ins_get I2.hok hp'
  obtain ⟨od, J, _⟩ := J.look
  obtain ⟨od', J', _⟩ := J'.look
  obtain ⟨m, hF⟩ := I2.fr
  refine PySem.W.binop_K hF I2.ok.mod.kin J J'.type sf hm.at_ hm.fn ?_
  have r2 : Vals [V.ref p, V.ref p'] [Value.ref p, Value.ref p'] := .cons rfl (.cons rfl .nil)
  refine wpAny_mono (run_fnSD (E := WE W) (us := [.ref p, .ref p']) (vs := [.ref p, .ref p']) (Q := fun v H' => someV v (Q v H')) F hr hb .nil (L2M.passAt tk σ) I2 r2 q) (fun r s' q => ?_) fun _ _ z => z
  obtain ⟨z, H', I', rz, q⟩ := q
  obtain ⟨q, hn⟩ := someV_e rz q
  cases r with
  | notImplemented => exact absurd rfl hn
  | _ => exact ⟨z, H', I', rz, q⟩
end
/-! ### str of an instance -/
def zStrO (C : Addr) (sp : Sp) : List V → Hp → VK → Prop := fun xs H Q => one xs fun x => isIns C x H fun a => sp [.ref a] H (fun v H' => match v with
  | .str y => Q (.str y) H'
  | _ => False) fun _ _ _ => False
section
variable {X : Cx}
theorem crstrO {C : Addr} {lv : Nat} {sp : Sp} (M : Me X.prog X.w X.K X.mg X.base C "__str__" lv [] sp) (hr : Room (lv + 2) X.A) : CallR X (.type "str") (zStrO C sp) := by
  intro pins s σ H xs us Q I r h
  obtain ⟨x, rfl, h⟩ := one_e h
  obtain ⟨u, rfl, rx⟩ := vals1 r
  obtain ⟨a, dx, fs, rfl, ea, h3⟩ := isIns_e h
  cases rx
  obtain ⟨⟨f, fd, ps, ds, F, hm, hd, hb⟩, cl⟩ := M
  cases hd
  obtain ⟨mA, J, _⟩ := ins_get I.hok ea
  obtain ⟨od, J, _⟩ := J.look
  have hr2 : Room lv X.A.in1.in1 := (hr.in1 (k := lv + 1)).in1
  refine PySem.W.kso_call hr2.units0 I.kIn J hm.at_ hm.fn ?_
  have r2 : Vals ([V.ref a] ++ []) ([Value.ref a] ++ []) := .cons rfl .nil
  have hl : ([Value.ref a] ++ []).length = ps.length := by rw [← r2.length]; exact F.len _ _ _ _ h3
  refine wpAny_call (codeAny_mono (F.run X.A.in1.in1 X.stack s H ⟨[.ref a], []⟩ [.ref a] [.ref a] _ (WE WF σ) hr2 I.env0.in1.in1 (hb s [.ref a] I.kIn hl) r2 h3) fun r s' hq => ?_)
  cases r with
  | error e => exact L2M.passAt L2M.takes0 σ pins H s e s' I hq
  | ok fl =>
    cases fl with
    | ret u =>
      have q0 := I.after hq
      obtain ⟨z, H', I', rz, q⟩ := q0
      cases z with
      | str y =>
        obtain ⟨t, rfl⟩ : ∃ t, u = Value.str y t := rz
        exact ⟨.str y, H', I', ⟨t, rfl⟩, q⟩
      | _ => exact q.elim
    | next => exact False.elim hq
    | brk => exact False.elim hq
    | cont => exact False.elim hq
end
end Ta

set_option Elab.async false
set_option linter.all false
set_option maxRecDepth 100000
set_option maxHeartbeats 3200000
namespace Ta
open PySem PySem.Spec PyProof.Rows L2

/-! ### an own exception without fields -/
section
variable {X : Cx}
theorem mk_endN {pins : List (Addr × Obj)} {σ : St} {H1 H2 : Hp} {Q : XK} {hp hp2 h2 : Heap} {g1 g2 : Array GenState} {d1 d2 : Drawn} {t1 t2 : Nat} {os1 os2 : OsState} {a C : Addr} (T : Raises X (.ref C)) (I1 : Inv X pins σ H1 ⟨hp, g1, d1, t1, os1⟩)
    (ha : hp.objs.size ≤ a) (k : ∀ b o, hp.get? b = some o → hp2.get? b = some o) (un : Un (frs X.stack) [] (upd H1 a (exo a C none)) H2 hp2 h2) (hok : HOk X.prog X.w H2 h2) (ho : os2 = os1) (hb : AllBare g2)
    (ea : H2 a = some (exo a C none)) (q : Q (.ref C) none (del H2 a)) : L2M.MkP X pins σ Q (.ref a) ⟨h2, g2, d2, t2, os2⟩ := by
  obtain ⟨t0, hoe⟩ := exo_at hok ea
  have hn : H1 a = none := I1.hok.fresh ha
  obtain ⟨G, g1', g2'⟩ := restrict h2 fun b => decide (b ≠ a)
  have gk : ∀ b, b ≠ a → G.get? b = h2.get? b := fun b hb => g1' b (decide_eq_true hb)
  have ge : G.get? a = none := g2' a (by simp)
  have nha : ∀ {b : Addr} {o : Obj}, hp.get? b = some o → b ≠ a := fun {b o} z => Nat.ne_of_lt (Nat.lt_of_lt_of_le (Heap.lt_size z) ha)
  have up : ∀ {b : Addr}, b ≠ a → H1 b = none → upd H1 a (exo a C none) b = none := fun {b} hb n => by rw [upd_ne hb]; exact n
  have U : Un (frs X.stack) [] H1 (del H2 a) hp G := {
    keep := fun b o z n hf hx => by
      rw [gk b (nha z)]
      exact un.keep b o (k b o z) (up (nha z) n) hf hx
    slot := fun b o z n hf hx => by
      rw [gk b (nha z)]
      exact un.slot b o (k b o z) (up (nha z) n) hf hx
    free := fun b o z n hx => by
      rw [del_ne (nha z)]
      exact un.free b o (k b o z) (up (nha z) n) hx
    there := fun b o z hx => by
      rw [gk b (nha z)]
      exact un.there b o (k b o z) hx
    tups := fun b xs z => by
      rw [del_ne (ne_of_none z hn)]
      exact un.tups b xs (by rw [upd_ne (ne_of_none z hn)]; exact z)
    frzs := fun b o v z => by
      rw [del_ne (ne_of_none z hn)]
      exact un.frzs b o v (by rw [upd_ne (ne_of_none z hn)]; exact z)
    tbls := fun b ps z => by
      rw [del_ne (ne_of_none z hn)]
      exact un.tbls b ps (by rw [upd_ne (ne_of_none z hn)]; exact z) }
  have hok3 : HOk X.prog X.w (del H2 a) G := fun b o z => by
    have hba : b ≠ a := fun e => by
      rw [e, del_same] at z
      cases z
    rw [del_ne hba] at z
    have noa : ∀ {c : Addr}, H2 c = some (.own b) → c ≠ a := fun {c} hc => at_ne ea hc exo_own
    exact (hok b o z).stay (fun c v hc y => by
        have hca : c ≠ a := by
          rcases hc with hc | hc
          · rw [hc]
            exact hba
          · exact noa hc
        rw [gk c hca]
        exact y)
      (fun c hc => by rw [del_ne (noa hc)]; exact hc) (fun c xs hc => by rw [del_ne (at_ne ea hc exo_tup)]; exact hc)
  have J : Inv X pins σ (del H2 a) ⟨G, g2, d2, t2, os2⟩ := I1.call' (ch := []) ho U hok3 hb (fun b z => absurd z (by simp))
  refine ⟨a, _, _, ⟨G, g2, d2, t2, os2⟩, _, .ref C, none, rfl, J, fun b o z => ?_, ge, hoe, ⟨rfl, rfl, fun vs hv => by cases hv; rfl⟩, rfl, rfl, del_same, rfl, hb, T, q⟩
  by_cases hba : b = a
  · rw [hba, ge] at z
    cases z
  · exact (gk b hba).symm.trans z
theorem del_upd {H : Hp} {a : Addr} {o : HO} (h : H a = none) : del (upd H a o) a = H := by
  funext c
  unfold upd del
  by_cases h2 : c = a
  · subst h2; simp [h]
  · simp [h2]
variable {x : Str} {p pos : Pos} {W : WX} {C : Addr}
def tRs0 (C : Addr) (W : WX) : TS := fun _ σ H => W (.ref C) none σ H
theorem pmkE0 (G : Ex X.prog X.w X.K X.mg X.base x C []) (hr : Room 2 X.A) (tk : L2M.Takes X W) (hg : Gl X x) (hdb : (x == ("__debug__" : Str)) = false) :
    L2M.PMk X (.Call (.Name x p) [] [] pos) (fun σ H Q => Q (.ref C) none H) := by
  obtain ⟨fI, fd, ps, F1, iC, tI, hb, hm⟩ := G.ex
  have T := G.oex
  intro pins s σ H Q I q1
  obtain ⟨nm, q, N, bs, bm, sn, sub, ab, col, dd, k0, k1, k2, k3, k5, hC, hbm⟩ := T.cls
  refine wpAny_Call_Name_kw (ld_glob I hg hm ?_ hdb)
  refine PySem.W.callWith_K0 I.kIn T.kC ?_
  show wpAny _ _ (call (.ref C) []) _ _ _
  obtain ⟨hp, g, dr, tok, os⟩ := s
  have hsz : hp.objs.size ≤ hp.objs.size + 1 := Nat.le_succ _
  have hn : H (hp.objs.size + 1) = none := I.hok.fresh hsz
  have hq : spE C [] [.ref (hp.objs.size + 1)] (upd H (hp.objs.size + 1) (exo (hp.objs.size + 1) C none))
      (fun v H2 => v = .non ∧ H2 (hp.objs.size + 1) = some (exo (hp.objs.size + 1) C none) ∧ Q (.ref C) none (del H2 (hp.objs.size + 1))) (fun _ _ _ => False) := by
    refine ⟨_, [], rfl, rfl, upd_same, fun _ => ⟨rfl, upd_same, ?_⟩, fun e0 => absurd rfl e0⟩
    rw [del_upd hn]; exact q1
  have kk : ∀ b o, hp.get? b = some o → ((hp.push (PySem.W.kdv_tup [])).push (PySem.HandSPX.excO C hp.objs.size)).get? b = some o := fun b o e => Heap.get?_push_of_some _ (Heap.get?_push_of_some _ e)
  have hget : ((hp.push (PySem.W.kdv_tup [])).push (PySem.HandSPX.excO C hp.objs.size)).get? (hp.objs.size + 1) = some (PySem.HandSPX.excO C hp.objs.size) := by heap_get
  have I2 : Inv X pins σ (upd H (hp.objs.size + 1) (exo (hp.objs.size + 1) C none)) ⟨(hp.push (PySem.W.kdv_tup [])).push (PySem.HandSPX.excO C hp.objs.size), g, dr, tok, os⟩ :=
    I.laid (t' := tok) (a := hp.objs.size + 1) (o := exo (hp.objs.size + 1) C none) (h' := (hp.push (PySem.W.kdv_tup [])).push (PySem.HandSPX.excO C hp.objs.size)) kk hsz (exo_ok hget)
  have r2 : Vals [V.ref (hp.objs.size + 1)] [Value.ref (hp.objs.size + 1)] := .cons rfl .nil
  have hl : ([Value.ref (hp.objs.size + 1)] ++ []).length = ps.length := by
    have e := r2.length
    rw [F1.len _ _ _ _ hq] at e
    exact e.symm
  have hbi := hb ⟨(hp.push (PySem.W.kdv_tup [])).push (PySem.HandSPX.excO C hp.objs.size), g, dr, tok, os⟩ [Value.ref (hp.objs.size + 1)] I2.kIn hl
  rw [List.append_nil] at hbi
  refine wpAny_call (PySem.HandSPX.call_own PySem.F.excBase_ValueError (fun Y => PySem.HandSPX.refsVE_contains Y bm hbm) (I.kIn _ _ hC) (PySem.W.looks_findIn I.kIn iC) (fun self => PySem.W.bind_fn I.kIn self tI) (Nat.zero_le _)
    (codeAny_mono (F1.run _ X.stack _ _ ⟨[Value.ref (hp.objs.size + 1)], []⟩ [Value.ref (hp.objs.size + 1)] _ _ (fun _ _ _ => False) (hr.make C [] []) (I2.env0.make C [] []) hbi r2 hq) fun r s' hq' => ?_))
  cases r with
  | error er => exact tk er s' (L2M.XE.of_call I2 (fun _ _ _ z => z.elim) hq')
  | ok fl =>
    cases fl with
    | ret u =>
      obtain ⟨v, H2, os2, bare2, un2, hok2, rv, ev, ea, q2⟩ := hq'
      subst ev
      obtain ⟨h2, g2, d2, t2, os'⟩ := s'
      exact ⟨rv, mk_endN (raises_own T.exC T.tyC) I hsz kk un2 hok2 os2 bare2 ea q2⟩
    | next => exact False.elim hq'
    | brk => exact False.elim hq'
    | cont => exact False.elim hq'
theorem praise0 (G : Ex X.prog X.w X.K X.mg X.base x C []) (hr : Room 2 X.A) (tk : L2M.Takes X W) {pos' : Pos} (hc : X.calm = true := by rfl) (hg : Gl X x := by rfl) (hdb : (x == ("__debug__" : Str)) = false := by decide +kernel) :
    PS X (.Raise (some (.Call (.Name x p) [] [] pos)) none pos') (tRs0 C W) :=
  L2M.ps_raise hc tk (pmkE0 G hr tk hg hdb)
end
end Ta

set_option Elab.async false
set_option linter.all false
set_option maxRecDepth 100000
set_option maxHeartbeats 3200000
/-! != of two instances of a class with its own __eq__ -/
namespace PySem.W
open PySem PySem.Calls PyProof.Rows Builtin
section
variable {prog : Program} {w : World} {A : Around} {E : Value → Shared → Prop} {s : Shared} {K : Frag} {x C L f : Addr} {h₀ : Heap} {m : Str → Option Value} {ox : Obj} {od : Option Obj} {b : Value}
theorem ifBound_B {M : Model} {args : List Value} {name : Str} {i : String} {Q : Option Value → Shared → Prop} (X : K.In s.heap) (I : InstAt s.heap x ox C od) (hs : findIn K (.ref C) name = some (some (.builtin i))) (hb : bindSpecial (.builtin i) (.ref x) = pure (.builtin i, [.ref x]))
    (h : wpAny M A (call (.builtin i) (.ref x :: args)) (fun v => Q (some v)) E s) : wpAny M A (callSpecialIfBound? (.ref x) name args) Q E s := by
  simp only [callSpecialIfBound?, bindSpecialIfBound?]
  refine wpAny_holding (wpAny_bind (wpAny_bind (wpAny_bind (I.type.here ((looks_findIn X hs).here ?_)))))
  refine wpAny_bind (wpAny_askSetting (wpAny_ite ?_))
  have fin : wpAny M A (call (.builtin i) ([.ref x] ++ args) >>= fun v => pure (some v)) Q E s := wpAny_bind (wpAny_mono h (fun v s' h' => wpAny_pure h') fun _ _ h' => h')
  split
  · exact wpAny_bind ((Looks.of_pure hb).here (wpAny_pure (by exact fin)))
  · exact wpAny_tryCatch (wpAny_bind ((Looks.of_pure hb).here (wpAny_pure (by exact fin))))
theorem objNe_K (hu : A.units < cLine) (X : K.In s.heap) (I : InstAt s.heap x ox C od) (hs : findIn K (.ref C) "__eq__" = some (some (.ref f))) (hf : isFn K (.ref f) = true) {Q : Fin → Shared → Prop}
    (hcall : wpAny (model prog w) A (call (.ref f) [.ref x, b]) (fun v s' => ∃ k, v = .bool k ∧ Q (.done (.ret (.bool (!k)))) s') E s) :
    wpAny (model prog w) A (Builtin.«object.__ne__» ⟨[.ref x, b], []⟩) Q E s := by
  unfold Builtin.«object.__ne__»
  repeat (first
    | with_reducible refine wpAny_cRoomFor hu ?_
    | (refine wpAny_bind (m := callSpecialIfBound? (.ref x) (Str.ofString "__eq__") [b])
        (ifBound_K X I hs hf (wpAny_mono hcall (fun r s' hr => by
          obtain ⟨k, rfl, hq⟩ := hr
          repeat (first | exact hq | exact wpAny_pure hq | exact wpAny_truthy_bool hq | (refine wpAny_bind (m := truthy (.bool _)) (wpAny_truthy_bool ?_)) | wp_step)) fun _ _ e => e)))
    | wp_step)
theorem ne_K {Q : Value → Shared → Prop} (hu : A.units + 1 < cLine) (Fm : Fr h₀ L s.heap m) (X₀ : K.In h₀) (I : InstAt s.heap x ox C od) (hb : Looks (model prog w) s.heap (typeOf b) (.ref C))
    (hn : findIn K (.ref C) "__ne__" = some (some (.builtin "object.__ne__"))) (ho : subIn K (.ref C) (.type "object") = some true)
    (hs : findIn K (.ref C) "__eq__" = some (some (.ref f))) (hf : isFn K (.ref f) = true)
    (h : wpAny (model prog w) A.in1 (call (.ref f) [.ref x, b]) (fun v s' => ∃ k, v = .bool k ∧ Q (.bool (!k)) s') E s) : wpAny (model prog w) A (richCompare .NotEq (.ref x) b) Q E s := by
  have X := X₀.keeps Fm.keep
  have LI : Looks (model prog w) s.heap (isInstance (.ref x) (.type "object")) true := I.type.andThen (looks_subIn X ho)
  have one : wpAny (model prog w) A (tryCompare (.ref x) "__ne__" b) (fun r s' => ∃ v, r = some v ∧ Q v s') E s := by
    unfold tryCompare
    refine wpAny_bind (ifBound_B X I hn rfl ?_)
    refine wpAny_call (codeAny_call_builtin PySem.F.cmp_object.ne.plain PySem.F.cmpEntry_ne (check_slot PySem.F.cmpKind_ne PySem.F.cmpSplit_ne LI (PySem.F.cmpArgs_ne _ _) (objNe_K (A := A.in1) hu X I hs hf (wpAny_mono h (fun v s' hv => ?_) fun _ _ e => e))))
    obtain ⟨k, rfl, hq⟩ := hv
    first | exact ⟨k, rfl, wpAny_pure ⟨_, rfl, hq⟩⟩ | exact ⟨k, rfl, ⟨_, rfl, hq⟩⟩
  unfold richCompare
  simp only [oneThing_ref]
  refine wpAny_holding (wpAny_bind (wpAny_cRoomFor (Nat.lt_of_succ_lt hu) ?_))
  refine wpAny_bind (I.type.here (wpAny_bind (hb.here ?_)))
  split
  · rename_i q
    simp at q
  · refine wpAny_bind (wpAny_pure ?_)
    simp only [Bool.false_eq_true, if_false]
    refine wpAny_bind (wpAny_mono one (fun r s' z => ?_) fun _ _ e => e)
    obtain ⟨v, rfl, hq⟩ := z
    exact wpAny_pure hq
end
end PySem.W
namespace Ta
open PySem PySem.Spec PyProof.Rows L2
structure NeF (K : PySem.W.Frag) (C : Addr) : Prop where
  ne : PySem.W.findIn K (.ref C) "__ne__" = some (some (.builtin "object.__ne__"))
  ob : PySem.W.subIn K (.ref C) (.type "object") = some true
def bNe (x : Str) : BF := fun K => He.eqO (PySem.W.findIn K (.ref (He.ga K x)) "__ne__") (some (some (.builtin "object.__ne__"))) && decide (PySem.W.subIn K (.ref (He.ga K x)) (.type "object") = some true)
theorem ne_of {K : PySem.W.Frag} {x : Str} (c : bNe x K = true) : NeF K (He.ga K x) := by
  obtain ⟨c1, c2⟩ := Bool.and_eq_true_iff.mp c
  exact ⟨He.eqO_ok c1, of_decide_eq_true c2⟩
/-- a != b by the own == -/
def zOwnN (C : Addr) (sp : Sp) : R2 := fun x y H Q => zOwn C sp x y H fun v H' => match v with
  | .bl k => Q (.bl (!k)) H'
  | _ => False
section
variable {X : Cx}
theorem opownN {C : Addr} {lv : Nat} {sp : Sp} (M : Me X.prog X.w X.K X.mg X.base C "__eq__" lv [] sp) (nf : NeF X.K C) (hr : Room (lv + 1) X.A) : OpR X (compareOp .NotEq) (zOwnN C sp) := by
  intro pins s σ H x y v u Q I rx ry h
  obtain ⟨a, b, dx, fs, dy, gs, rfl, rfl, ha, hb', h⟩ := zOwn_e h
  cases rx
  cases ry
  obtain ⟨⟨f, fd, ps, ds, F, hm, hd, hb⟩, cl⟩ := M
  cases hd
  obtain ⟨mA, J, _⟩ := ins_get I.hok ha
  obtain ⟨mB, J', _⟩ := ins_get I.hok hb'
  obtain ⟨od, J, _⟩ := J.look
  obtain ⟨od', J', _⟩ := J'.look
  obtain ⟨m, hF⟩ := I.fr
  show wpAny (model X.prog X.w) X.A (richCompare .NotEq (.ref a) (.ref b)) (EP X pins σ Q) X.xe s
  refine PySem.W.ne_K (by have := hr.units; omega) hF I.ok.mod.kin J J'.type nf.ne nf.ob hm.at_ hm.fn ?_
  have r2 : Vals [V.ref a, V.ref b] [Value.ref a, Value.ref b] := .cons rfl (.cons rfl .nil)
  refine wpAny_mono (run_in1 (E := WE WF) (us := [.ref a, .ref b]) (vs := [.ref a, .ref b]) F hr hb .nil (L2M.passAt L2M.takes0 σ) I r2 h) (fun r s' q => ?_) fun _ _ z => z
  obtain ⟨z, H', I', rz, k, rfl, q⟩ := q
  cases rz
  exact ⟨k, rfl, .bl (!k), H', I', rfl, q⟩
end
end Ta

set_option Elab.async false
set_option linter.all false
set_option maxRecDepth 100000
set_option maxHeartbeats 3200000
namespace Ta
open PySem PySem.Spec PyProof.Rows L2
/-! ### x.endswith(c) -/
theorem ends_one (l : List Nat) (c : Nat) : Txt.endswith (S l) (S [c]) = decide (l.getLast? = some c) := by
  have h := StrLaws.subAt_one (S l) c ((S l).length - 1)
  have e : (S l).length = l.length := TL.len_tl (S l)
  have e1 : (S [c] : Str).length = 1 := rfl
  rw [Bool.eq_iff_iff, decide_eq_true_iff]
  unfold Txt.endswith
  rw [Bool.and_eq_true, decide_eq_true_iff, e1, List.getLast?_eq_getElem?]
  constructor
  · rintro ⟨h1, h2⟩
    have := h.mp ⟨by show (S l).length - 1 + 1 ≤ _; omega, h2⟩
    rw [e] at this
    exact this
  · intro z
    have z2 : (S l).cps.toList[(S l).length - 1]? = some c := by rw [e]; exact z
    obtain ⟨h1, h2⟩ := h.mpr z2
    have h1 : (S l).length - 1 + 1 ≤ (S l).length := h1
    obtain ⟨hlt, _⟩ := List.getElem?_eq_some_iff.mp z
    exact ⟨by omega, h2⟩
def zEnds : V → List V → Hp → VK → Prop := fun x xs H Q => match x with
  | .str a => one xs fun y => (match y with
    | .str b => (match tl b with
      | [c] => Q (.bl (decide ((tl a).getLast? = some c))) H
      | _ => False)
    | _ => False)
  | _ => False
theorem mtends : MtR X "str.endswith" zEnds := mt_imp mt_endswith fun x xs H Q h => by
  cases x with
  | str a =>
    obtain ⟨y, rfl, h⟩ := one_e h
    cases y with
    | str b =>
      have h : (match tl b with
        | [c] => Q (.bl (decide ((tl a).getLast? = some c))) H
        | _ => False) := h
      split at h
      · rename_i c e
        refine ⟨a, b, rfl, rfl, ?_⟩
        have := ends_one (tl a) c
        rw [S_tl, ← e, S_tl] at this
        rw [this]; exact h
      · exact h.elim
    | _ => exact h.elim
  | _ => exact h.elim
/-! ### str of a text, of a number -/
def zStr (K : PySem.W.Frag) : List V → Hp → VK → Prop := fun xs H Q => one xs fun x => match x with
  | .str a => Q (.str a) H
  | .int i => i.natAbs.log2 < 1920 ∧ Q (.str (toString i)) H
  | _ => False
theorem crstr {X : Cx} : CallR X (.type "str") (zStr X.K) := fun pins s σ H xs us Q I r h => by
  obtain ⟨x, rfl, h⟩ := one_e h
  cases x with
  | str a => exact SkE.call_str_str pins s σ H _ us Q I r ⟨a, rfl, h⟩
  | int i => exact call_str_int pins s σ H _ us Q I r ⟨i, rfl, h.1, h.2⟩
  | _ => exact h.elim
def zBool (K : PySem.W.Frag) : List V → Hp → VK → Prop := fun xs H Q => one xs fun x => match x with
  | .int i => Q (.bl (!decide (i = 0))) H
  | .bl k => Q (.bl k) H
  | _ => False
theorem crbool {X : Cx} : CallR X (.type "bool") (zBool X.K) := fun pins s σ H xs us Q I r h => by
  obtain ⟨x, rfl, h⟩ := one_e h
  cases x with
  | int i => exact call_bool1 pins s σ H _ us Q I r (.inl ⟨i, rfl, by
      have e : (i != 0) = !decide (i = 0) := by simp only [bne]; congr 1
      rw [e]; exact h⟩)
  | bl k => exact call_bool1 pins s σ H _ us Q I r (.inr ⟨k, rfl, h⟩)
  | _ => exact h.elim
/-! ### indexes from the end -/
theorem itm_m1 {α : Type} {l : List α} {k : α → Prop} (h : 0 < l.length) (q : ∀ (j : Nat) (hj : j < l.length), j = l.length - 1 → k l[j]) : itm l (-1) k := by
  refine itm_i (v := l[l.length - 1]) ?_ (q _ (by omega) rfl)
  have e : ixN l.length (-1) = some (l.length - 1) := by
    unfold ixN
    rw [if_neg (by omega), if_pos (by omega)]
    congr 1
    omega
  unfold atI
  rw [e]
  exact List.getElem?_eq_getElem (by omega)
theorem itm_last {α : Type} {l : List α} {x : α} {k : α → Prop} (q : k x) : itm (l ++ [x]) (-1) k := by
  refine itm_m1 (by simp) fun j hj e => ?_
  have : j = l.length := by rw [e]; simp
  subst this
  simpa using q
/-! ### while, by a measure -/
structure wn (W : Nat → St → Hp → Prop) (m : Nat) (k : (St → Hp → Prop) → Prop) : Prop where
  out : ∃ N : St → Hp → Prop, (∀ σ' H', N σ' H' → ∃ m', m' < m ∧ W m' σ' H') ∧ k N
theorem wn_i {W : Nat → St → Hp → Prop} {m : Nat} {k : (St → Hp → Prop) → Prop} (q : k fun σ' H' => Sd (∃ m', m' < m ∧ W m' σ' H')) : wn W m k := by
  refine ⟨?_⟩; exact ⟨_, fun _ _ h => sd_e h, q⟩
theorem whl_s {c : TT} {tb : TS} {D : Ends} {σ : St} {H : Hp} (W : Nat → St → Hp → Prop) (m : Nat) (h0 : W m σ H)
    (hs : ∀ m σ H, W m σ H → c σ H fun b H1 => cnd b (wn W m fun N => tb { D with nx := N, ct := N, bk := D.nx } σ H1) (D.nx σ H1)) : whl c tb D σ H := by
  refine whl_i W m h0 fun m σ H hW => ?_
  have h := hs m σ H hW
  have e : (fun (b : Bool) (H1 : Hp) => cnd b (wn W m fun N => tb { D with nx := N, ct := N, bk := D.nx } σ H1) (D.nx σ H1)) =
      fun b H1 => if b = true then ∃ N : St → Hp → Prop, (∀ σ' H', N σ' H' → ∃ m', m' < m ∧ W m' σ' H') ∧ tb { D with nx := N, ct := N, bk := D.nx } σ H1 else D.nx σ H1 := by
    funext b H1
    refine propext ⟨fun z => ?_, fun z => cnd_i (fun e => ?_) fun e => ?_⟩
    · have z := cnd_e z
      cases b with
      | true => have y := z.out; exact y
      | false => exact z
    · rw [if_pos e] at z; exact ⟨z⟩
    · rw [if_neg (by rw [e]; decide)] at z; exact z
  rw [e] at h
  exact h
end Ta

set_option Elab.async false
set_option linter.all false
set_option maxRecDepth 100000
set_option maxHeartbeats 3200000
namespace Ta
open PySem PySem.Spec PyProof.Rows L2
/-! ### comprehensions over a list whose items stand for α -/
theorem filter_takeA {α : Type} {l : List α} {f : α → Bool} {k : Nat} {c : α} (h : l[k]? = some c) : (l.take (k + 1)).filter f = (l.take k).filter f ++ (if f c = true then [c] else []) := by
  rw [List.take_succ, h]
  simp [List.filter_append, List.filter_cons]
theorem lcp_A0 {α : Type} {n : Nat} {it : Itm} {st : Hp → Prop} {l : List α} {r : α → V} {i : Nat} {tt : TT} {te : TE} {σ : St} {H1 : Hp} {Q : VK} {vs : List Nat} (hn : n = l.length) (hit : ∀ k H x H', it k H x H' → H' = H ∧ ∃ c, l[k]? = some c ∧ x = r c) (hst : ∀ D xs, H1 D = none → st (upd H1 D (.lst xs)))
    (f : α → Bool) (h : α → V) (hl : l.length < 1000000) (ht : ∀ c D H' Q', H1 D = none → c ∈ l → (∃ xs, H' = upd H1 D (.lst xs)) → Q' (f c) H' → tt ((wipe σ vs).set i (some (r c))) H' Q')
    (he : ∀ c D H' Q', H1 D = none → c ∈ l → f c = true → (∃ xs, H' = upd H1 D (.lst xs)) → Q' (h c) H' → te ((wipe σ vs).set i (some (r c))) H' Q')
    (hw : ∀ v, wipe ((wipe σ vs).set i v) vs = wipe σ vs) (q : ∀ D, H1 D = none → Q (.ref D) (upd H1 D (.lst ((l.filter f).map h)))) : lcp n it st (gName i) tt te vs σ H1 Q := by
  subst hn
  refine lcp_i (fun D k H => H = upd H1 D (.lst (((l.take k).filter f).map h))) (fun D hD => rfl) (fun D k H hD _ e => by rw [e]; exact hst D _ hD) ?_ ?_
  · rintro D k x H H' hD hk rfl hi
    obtain ⟨rfl, c, hc, rfl⟩ := hit _ _ _ _ hi
    have hm := List.mem_of_getElem? hc
    refine ⟨hw _, ht c D _ _ hD hm ⟨_, rfl⟩ ?_⟩
    cases e : f c with
    | true =>
      rw [if_pos rfl]
      refine he c D _ _ hD hm e ⟨_, rfl⟩ ⟨_, upd_at, ?_, ?_⟩
      · rw [List.length_map, sizeLine_eq]
        have h1 := List.length_filter_le f (l.take k)
        rw [List.length_take] at h1
        omega
      · rw [upd_tw, filter_takeA hc, e, if_pos rfl, List.map_append]
        rfl
    | false =>
      rw [if_neg (by simp), filter_takeA hc, e, if_neg (by simp), List.append_nil]
  · rintro D H hD rfl
    rw [List.take_length]
    exact q D hD
/-- over a list that stands -/
theorem lcp_A {α : Type} {l : List α} {r : α → V} {p : Addr} {i : Nat} {tt : TT} {te : TE} {σ : St} {H1 : Hp} {Q : VK} {vs : List Nat} (hp : H1 p = some (.lst (l.map r)))
    (f : α → Bool) (h : α → V) (hl : l.length < 1000000) (ht : ∀ c D H' Q', H1 D = none → c ∈ l → (∃ xs, H' = upd H1 D (.lst xs)) → Q' (f c) H' → tt ((wipe σ vs).set i (some (r c))) H' Q')
    (he : ∀ c D H' Q', H1 D = none → c ∈ l → f c = true → (∃ xs, H' = upd H1 D (.lst xs)) → Q' (h c) H' → te ((wipe σ vs).set i (some (r c))) H' Q')
    (hw : ∀ v, wipe ((wipe σ vs).set i v) vs = wipe σ vs) (q : ∀ D, H1 D = none → Q (.ref D) (upd H1 D (.lst ((l.filter f).map h)))) : lcp (l.map r).length (itL (l.map r)) (fun H' => H' p = some (.lst (l.map r))) (gName i) tt te vs σ H1 Q := by
  refine lcp_A0 (l := l) (r := r) (by rw [List.length_map]) (fun k H x H' z => ⟨z.1, ?_⟩) (fun D xs hD => upd_fr hD hp) f h hl ht he hw q
  have h2 := z.2
  rw [List.getElem?_map] at h2
  cases e : l[k]? with
  | none => rw [e] at h2; cases h2
  | some c => rw [e] at h2; exact ⟨c, rfl, (Option.some.inj h2).symm⟩
/-- over range(lo, lo + n) -/
theorem lcp_R {n : Nat} {lo : Int} {i : Nat} {tt : TT} {te : TE} {σ : St} {H1 : Hp} {Q : VK} {vs : List Nat}
    (f : Nat → Bool) (h : Nat → V) (hl : n < 1000000) (ht : ∀ c D H' Q', H1 D = none → c < n → (∃ xs, H' = upd H1 D (.lst xs)) → Q' (f c) H' → tt ((wipe σ vs).set i (some (.int (lo + c)))) H' Q')
    (he : ∀ c D H' Q', H1 D = none → c < n → f c = true → (∃ xs, H' = upd H1 D (.lst xs)) → Q' (h c) H' → te ((wipe σ vs).set i (some (.int (lo + c)))) H' Q')
    (hw : ∀ v, wipe ((wipe σ vs).set i v) vs = wipe σ vs) (q : ∀ D, H1 D = none → Q (.ref D) (upd H1 D (.lst (((List.range n).filter f).map h)))) : lcp n (itR lo) (fun _ => True) (gName i) tt te vs σ H1 Q := by
  have hr : (List.range n).length = n := List.length_range
  have hm : ∀ {c : Nat} {C : Prop}, c < n ∨ C → c < n ∨ C := fun h => h
  refine lcp_i (fun D k H => H = upd H1 D (.lst ((((List.range n).take k).filter f).map h))) (fun D hD => rfl) (fun _ _ _ _ _ _ => trivial) ?_ ?_
  · rintro D k x H H' hD hk rfl ⟨rfl, rfl⟩
    have hc : (List.range n)[k]? = some k := by rw [List.getElem?_range hk]
    refine ⟨hw _, ht k D _ _ hD hk ⟨_, rfl⟩ ?_⟩
    cases e : f k with
    | true =>
      rw [if_pos rfl]
      refine he k D _ _ hD hk e ⟨_, rfl⟩ ⟨_, upd_at, ?_, ?_⟩
      · rw [List.length_map, sizeLine_eq]
        have h1 := List.length_filter_le f ((List.range n).take k)
        rw [List.length_take] at h1
        omega
      · rw [upd_tw, filter_takeA hc, e, if_pos rfl, List.map_append]
        rfl
    | false =>
      rw [if_neg (by simp), filter_takeA hc, e, if_neg (by simp), List.append_nil]
  · rintro D H hD rfl
    rw [List.take_of_length_le (by rw [hr]; exact Nat.le_refl _)]
    exact q D hD
end Ta

set_option Elab.async false
set_option linter.all false
set_option maxRecDepth 100000
set_option maxHeartbeats 3200000
namespace Ta
open PySem PySem.Spec PyProof.Rows L2
/-- a comprehension whose test and element may lay objects -/
theorem lcp_K0 {α : Type} {n : Nat} {it : Itm} {st : Hp → Prop} {l : List α} {r : α → V} {i : Nat} {tt : TT} {te : TE} {σ : St} {H1 : Hp} {Q : VK} {vs : List Nat} (hn : n = l.length) (hit : ∀ k H x H', it k H x H' → H' = H ∧ ∃ c, l[k]? = some c ∧ x = r c) (hst : ∀ H', Kp [] H1 H' → st H')
    (f : α → Bool) (h : α → V) (hl : l.length < 1000000) (ht : ∀ c H' Q', c ∈ l → Kp [] H1 H' → (∀ H2, Kp [] H' H2 → Q' (f c) H2) → tt ((wipe σ vs).set i (some (r c))) H' Q')
    (he : ∀ c H' Q', c ∈ l → f c = true → Kp [] H1 H' → (∀ H2, Kp [] H' H2 → Q' (h c) H2) → te ((wipe σ vs).set i (some (r c))) H' Q')
    (hw : ∀ v, wipe ((wipe σ vs).set i v) vs = wipe σ vs) (q : ∀ D H', H1 D = none → Kp [] H1 H' → H' D = some (.lst ((l.filter f).map h)) → Q (.ref D) H') : lcp n it st (gName i) tt te vs σ H1 Q := by
  subst hn
  refine lcp_i (fun D k H => Kp [] H1 H ∧ H D = some (.lst (((l.take k).filter f).map h))) (fun D hD => ⟨Kp.rfl'.new hD, upd_at⟩) (fun D k H hD _ e => hst H e.1) ?_ ?_
  · rintro D k x H H' hD hk ⟨kk, hDD⟩ hi
    obtain ⟨rfl, c, hc, rfl⟩ := hit _ _ _ _ hi
    have hm := List.mem_of_getElem? hc
    refine ⟨hw _, ht c _ _ hm kk fun H2 k2 => ?_⟩
    cases e : f c with
    | true =>
      rw [if_pos rfl]
      refine he c _ _ hm e (kk.trans k2) fun H3 k3 => ⟨_, k3.get0 (k2.get0 hDD), ?_, ((kk.trans k2).trans k3).own hD, ?_⟩
      · rw [List.length_map, sizeLine_eq]
        have h1 := List.length_filter_le f (l.take k)
        rw [List.length_take] at h1
        omega
      · rw [filter_takeA hc, e, if_pos rfl, List.map_append]
        exact upd_at
    | false =>
      rw [if_neg (by simp)]
      refine ⟨kk.trans k2, ?_⟩
      rw [filter_takeA hc, e, if_neg (by simp), List.append_nil]
      exact k2.get0 hDD
  · rintro D H hD ⟨kk, hDD⟩
    rw [List.take_length] at hDD
    exact q D H hD kk hDD
theorem lcp_K {α : Type} {l : List α} {r : α → V} {p : Addr} {i : Nat} {tt : TT} {te : TE} {σ : St} {H1 : Hp} {Q : VK} {vs : List Nat} (hp : H1 p = some (.lst (l.map r)))
    (f : α → Bool) (h : α → V) (hl : l.length < 1000000) (ht : ∀ c H' Q', c ∈ l → Kp [] H1 H' → (∀ H2, Kp [] H' H2 → Q' (f c) H2) → tt ((wipe σ vs).set i (some (r c))) H' Q')
    (he : ∀ c H' Q', c ∈ l → f c = true → Kp [] H1 H' → (∀ H2, Kp [] H' H2 → Q' (h c) H2) → te ((wipe σ vs).set i (some (r c))) H' Q')
    (hw : ∀ v, wipe ((wipe σ vs).set i v) vs = wipe σ vs) (q : ∀ D H', H1 D = none → Kp [] H1 H' → H' D = some (.lst ((l.filter f).map h)) → Q (.ref D) H') : lcp (l.map r).length (itL (l.map r)) (fun H' => H' p = some (.lst (l.map r))) (gName i) tt te vs σ H1 Q := by
  refine lcp_K0 (l := l) (r := r) (by rw [List.length_map]) (fun k H x H' z => ⟨z.1, ?_⟩) (fun H' kk => kk.get0 hp) f h hl ht he hw q
  have h2 := z.2
  rw [List.getElem?_map] at h2
  cases e : l[k]? with
  | none => rw [e] at h2; cases h2
  | some c => rw [e] at h2; exact ⟨c, rfl, (Option.some.inj h2).symm⟩
end Ta

set_option Elab.async false
set_option linter.all false
set_option maxRecDepth 100000
set_option maxHeartbeats 2000000
namespace Ta
open PySem PySem.Spec PyProof.Rows L2
open L2H (RoomH PinOk cxH inv_startH roomH_of)

/-! ### calls of quiet defs (no loop, nothing raised) within an except suite -/
theorem _root_.L2H.RoomH.units {k : Nat} {A : Around} (r : RoomH k A) : A.units + 64 < cLine := by
  have := r.un
  omega
/-- what a quiet def promises, whatever is handled -/
structure FnQuO (P : Program) (w : World) (K : PySem.W.Frag) (mg : Str → Option Value) (base : Heap) (k : Nat) (f : Addr) (fd : FuncData) (ps : List Str) (sp : Sp) : Prop where
  qlen : ∀ vs H Q E, sp vs H Q E → vs.length = ps.length
  qrun : ∀ (A : Around) (outer : List Env) (s : Shared) (H : Hp) (args : Args) (us : List Value) (vs : List V) (Q : VK) (E : XK) (p : Addr × Obj),
    RoomH k A → PinOk outer H s p → Env0 P w K mg base A outer s H → BindsTo s fd args (ps.zip us) → Vals vs us → sp vs H Q E →
      codeAny (model P w) A (.call (.ref f) args) (CR (L2M.CX K P w) outer P w H s Q E) s
section
variable {P : Program} {w : World} {K : PySem.W.Frag} {mg : Str → Option Value} {base : Heap} {x qual : Str} {params : Arguments} {body : List Stmt} {scope : Scope} {dvs : List V} {kws : List (Str × V)} {f : Addr} {fd : FuncData}
theorem def_okQ {N ps : List Str} {k : Nat} {sp : Sp} (F : FunD K x qual params body scope dvs kws f fd) (S : FnScope N ps scope)
    (len : ∀ vs H Q E, sp vs H Q E → vs.length = ps.length) (t : WX → TS)
    (term : ∀ (cdv : Value) (A : Around) (outer : List Env) (s : Shared) (H : Hp) (E : XK) (p : Addr × Obj),
      RoomH k (A.deeper (envOfC qual scope s.heap.objs.size f cdv)) →
        PSs (cxH (L2M.CX K P w) P w K mg base N qual scope f cdv A outer s H E p) body (t (WD E)))
    (rd : ∀ vs H Q E, sp vs H Q E → t (WD E) (EndD Q) (start N vs) H) : FnQuO P w K mg base (k + 1) f fd ps sp := by
  obtain ⟨oc, od, dV, kV, doc, pm, an, cdv, ct, osl, rfl, fnd, cdi, _, _⟩ := F.ex
  refine ⟨len, fun A outer s H args us vs Q E p rm pin env0 bnd vals spc => ?_⟩
  have len1 := len _ _ _ _ spc
  have kIn := env0.mod.kin.keeps fun b o e => (env0.bs b o e).1
  have noLim := env0.mod.nolimit.keeps fun b o e => (env0.bs b o e).1
  have kinds : ∀ y ∈ ps.zip us, scope.names.lookup y.1 = some .local ∨
      (scope.names.lookup y.1 = some .cell ∧ ((cellsFrom (s.heap.objs.size + 1) scope.names []).lookup y.1).isSome = true) := by
    rintro ⟨n, v⟩ hy
    rcases S.par n (List.of_mem_zip hy).1 with z | z
    · exact Or.inl z
    · exact Or.inr ⟨z, PySem.W.cellsFrom_some _ _ _ (Or.inl z)⟩
  refine codeAny_call_function rm.depth (kIn _ _ fnd) rfl S.co S.gen rfl (PySem.W.codeRec_of kIn cdi) (bnd _ _ _ _ ?_)
  refine wpAny_newFunctionEnv_cells S.kind kinds fun env1 eenv s2 stt => ?_
  subst eenv
  refine ⟨noLim.keeps stt.toInCall.keep, codeAny_func ?_⟩
  have inv := inv_startH (CX := L2M.CX K P w) (E := E) S pin env0 len1 vals stt
  refine wpAny_mono ((term cdv A outer s H E p (rm.deeper _)).run [] s2 (start N vs) H _ inv (rd vs H Q E spc)) ?_ (fun _ _ z => z)
  intro flow s3 res
  match flow, res with
  | .ret u, res =>
    obtain ⟨v, _, H3, inv3, rel, q⟩ := res
    exact ⟨v, H3, inv3.os, inv3.bare, inv3.base, inv3.hok, rel, q⟩
  | .next, res =>
    obtain ⟨_, H3, inv3, q⟩ := res
    exact ⟨.non, H3, inv3.os, inv3.bare, inv3.base, inv3.hok, rfl, q⟩
  | .brk, res => exact (match res with | ⟨_, _, _, z⟩ => z.elim)
  | .cont, res => exact (match res with | ⟨_, _, _, z⟩ => z.elim)
variable (P w K mg base) in
structure FnQu (x : Str) (lv : Nat) (sp : Sp) : Prop where
  qex : ∃ (f : Addr) (fd : FuncData) (ps : List Str), FnQuO P w K mg base lv f fd ps sp ∧ mg x = some (.ref f) ∧ PySem.W.keepIn K (.ref f) = true ∧ Binds K fd ps []
end
section
variable {X : Cx} {x : Str} {p pos : Pos} {e : Expr} {es : List Expr} {t : TA} {lv k : Nat} {sp : Sp} {W : WX} {A0 : Around}
theorem pcallQ (F : FnQu X.prog X.w X.K X.mg X.base x lv sp) (rm : RoomH lv X.A) (pn : ∃ z : Addr × Obj, z ∈ X.pn) (tk : L2M.Takes X W) (args : PA X (e :: es) t) (hg : Gl X x := by rfl)
    (hdb : (x == ("__debug__" : Str)) = false := by decide +kernel)
    (he : starEach (e :: es) X.env = (false, eval e X.env) :: starEach es X.env := by rfl)
    (hpl : (backTo pos (starEach es X.env)).any (·.1) = false := by rfl) :
    PE X (.Call (.Name x p) (e :: es) [] pos) (tCal sp [] W t) := by
  obtain ⟨f, fd, ps, F, glo, kp, bnds⟩ := F.qex
  refine ⟨fun pins s σ H Q I h => wpAny_Call_Name_kw (ld_glob I hg glo ?_ hdb)⟩
  refine PySem.W.callWith_K (h₀ := X.base) I.ok.mod.kin kp (thn (args.run pos pins s σ H _ I h) fun us s1 ⟨vs, H1, I1, vals, q⟩ => ⟨I1.kIn, ?_⟩) he hpl
  dsimp only at q
  rw [List.append_nil] at q
  obtain ⟨z, hz⟩ := pn
  have lenU : us.length = ps.length := by
    rw [← vals.length]
    exact F.qlen _ _ _ _ q
  have bn := bnds s1 us I1.kIn (by rw [List.append_nil]; exact lenU)
  rw [List.append_nil] at bn
  obtain ⟨z1, z2, z3, z4, z5⟩ := I1.pin z (List.mem_append_left _ hz)
  have pinOk : PinOk X.stack H1 s1 z := ⟨z1, z2, fun hm => (List.mem_cons.mp (I1.stkSub z.1 hm)).elim z3 z4, z5⟩
  refine wpAny_call (codeAny_mono (F.qrun X.A X.stack s1 H1 ⟨us, []⟩ us vs Q (WE W σ) z rm pinOk I1.env0 bn vals q) ?_)
  intro r s' hr
  match r, hr with
  | .error e, hr => exact L2M.passAt tk σ pins H1 s1 e s' I1 hr
  | .ok (.ret u), hr => exact I1.after hr
  | .ok .next, hr => exact hr.elim
  | .ok .brk, hr => exact hr.elim
  | .ok .cont, hr => exact hr.elim
theorem roomQ {a : Option Value} (r : Room k A0) (h : lv ≤ k) : RoomH lv (A0.mark a) := by
  have r := roomH_of (r.mono h)
  exact ⟨r.dp, r.un⟩
/-- the wish of such a def's context -/
theorem takesQ {P : Program} {w : World} {K : PySem.W.Frag} {mg : Str → Option Value} {base : Heap} {N : List Str} {qual : Str} {scope : Scope} {f : Addr} {cdv : Value} {A : Around} {outer : List Env} {s : Shared} {H : Hp} {E : XK} {z : Addr × Obj} :
    L2M.Takes (cxH (L2M.CX K P w) P w K mg base N qual scope f cdv A outer s H E z) (WD E) := L2M.takes_of rfl rfl rfl rfl
end
end Ta

set_option Elab.async false
set_option linter.all false
set_option maxRecDepth 100000
set_option maxHeartbeats 2000000
namespace Ta
open PySem PySem.Spec PyProof.Rows L2
open Builtin.SmallTypes (nextOf)

/-! ### zip of two iterators of any kinds -/
/-- the iterator at it gives n items; what it stands on lies at fp -/
structure Nxt (prog : Program) (w : World) (it : Addr) (fp : List Addr) (n : Nat) (St : Nat → Heap → Prop) (Y : Nat → Value → Prop) : Prop where
  nitem : ∀ (A : Around) (i : Nat) (s : Shared) (Q : Value → Shared → Prop) (E : Value → Shared → Prop), i < n → St i s.heap →
    (∀ u h2 t2, Y i u → St (i + 1) h2 → Heap.SameBut it s.heap h2 → Q u { s with heap := h2, toks := t2 }) → wpAny (model prog w) A (nextOf (.ref it)) Q E s
  ndone : ∀ (A : Around) (s : Shared) (Q : Value → Shared → Prop) (E : Value → Shared → Prop), A.handled = none → St n s.heap →
    (∀ h2 e, Heap.ExtBut it s.heap h2 → (∃ o, h2.get? e = some o ∧ o.cls = .type "StopIteration") → E (.ref e) { s with heap := h2 }) → wpAny (model prog w) A (nextOf (.ref it)) Q E s
  nkeep : ∀ i h h2, St i h → (∀ b ∈ it :: fp, ∀ o, h.get? b = some o → h2.get? b = some o) → St i h2
theorem nx_ascii {prog : Program} {w : World} {it : Addr} {x : Str} {t : Tok} : Nxt prog w it [] x.cps.size (fun i h => h.IsStrIter it "str_ascii_iterator" x t i) (fun i u => ∃ c t', x.cps[i]? = some c ∧ u = .str ⟨#[c]⟩ t') where
  nitem := fun A i s Q E hi st q => by
    have e : x.cps[i]? = some x.cps[i] := by simp [hi]
    exact wpAny_nextOf_ascii_item st e fun h2 st2 sb => q _ h2 _ ⟨_, _, e, rfl⟩ st2 sb
  ndone := fun A s Q E hh st q => wpAny_nextOf_ascii_end hh st (by simp) q
  nkeep := fun i h h2 ⟨o, ho, r⟩ k => ⟨o, k it List.mem_cons_self _ ho, r⟩
theorem nx_list {prog : Program} {w : World} {it l : Addr} {xs : Array Value} : Nxt prog w it [l] xs.size (fun i h => h.IsListIter it l i ∧ h.IsList l xs) (fun i u => xs[i]? = some u) where
  nitem := fun A i s Q E hi ⟨st, sl⟩ q => by
    have e : xs[i]? = some xs[i] := by simp [hi]
    refine wpAny_nextOf_list_item st sl e fun h2 st2 sb => q _ h2 s.toks e ⟨st2, ?_⟩ sb
    by_cases el : l = it
    · obtain ⟨o, ho, hc, _⟩ := st
      obtain ⟨o', ho', hc', _⟩ := sl
      rw [el, ho] at ho'
      cases ho'
      rw [hc] at hc'
      exact absurd hc' (by simp)
    · obtain ⟨o, ho, r⟩ := sl
      exact ⟨o, (sb.2 l el).trans ho, r⟩
  ndone := fun A s Q E hh ⟨st, sl⟩ q => wpAny_nextOf_list_end hh st sl (by simp) q
  nkeep := fun i h h2 ⟨⟨o, ho, r⟩, o', ho', r'⟩ k => ⟨⟨o, k it List.mem_cons_self _ ho, r⟩, o', k l (by simp) _ ho', r'⟩
theorem nx_tup {prog : Program} {w : World} {it l : Addr} {xs : Array Value} : Nxt prog w it [l] xs.size (fun i h => h.IsTupleIter it l i ∧ h.IsTuple l xs) (fun i u => xs[i]? = some u) where
  nitem := fun A i s Q E hi ⟨st, sl⟩ q => by
    have e : xs[i]? = some xs[i] := by simp [hi]
    refine RZ.nextOf_tuple_item st sl e fun h2 st2 sb => q _ h2 s.toks e ⟨st2, ?_⟩ sb
    by_cases el : l = it
    · obtain ⟨o, ho, hc, _⟩ := st
      obtain ⟨o', ho', hc', _⟩ := sl
      rw [el, ho] at ho'
      cases ho'
      rw [hc] at hc'
      exact absurd hc' (by simp)
    · obtain ⟨o, ho, r⟩ := sl
      exact ⟨o, (sb.2 l el).trans ho, r⟩
  ndone := fun A s Q E hh ⟨st, sl⟩ q => RZ.nextOf_tuple_end hh st sl (by simp) q
  nkeep := fun i h h2 ⟨⟨o, ho, r⟩, o', ho', r'⟩ k => ⟨⟨o, k it List.mem_cons_self _ ho, r⟩, o', k l (by simp) _ ho', r'⟩
/-- all apart -/
structure ZAp (z TI TO i1 i2 : Addr) (f1 f2 : List Addr) : Prop where
  n1 : TI ≠ z
  n2 : TO ≠ z
  n3 : i1 ≠ z
  n4 : i2 ≠ z
  n5 : TI ≠ TO
  n6 : TI ≠ i1
  n7 : TI ≠ i2
  n8 : TO ≠ i1
  n9 : TO ≠ i2
  na : i1 ≠ i2
  nf1 : ∀ b ∈ f1, b ≠ z ∧ b ≠ TO ∧ b ≠ i2
  nf2 : ∀ b ∈ f2, b ≠ z ∧ b ≠ TO ∧ b ≠ i1
section
variable {prog : Program} {w : World} {A : Around} {E : Value → Shared → Prop} {s : Shared} {z TI TO i1 i2 : Addr} {f1 f2 : List Addr} {n1 n2 : Nat} {S1 S2 : Nat → Heap → Prop} {Y1 Y2 : Nat → Value → Prop} {k1 k2 : Nat} {a b : Value}
theorem zp_item {Q : Value → Shared → Prop} (N1 : Nxt prog w i1 f1 n1 S1 Y1) (N2 : Nxt prog w i2 f2 n2 S2 Y2) (D : ZAp z TI TO i1 i2 f1 f2) (pz : IsZip s.heap z TI TO .none) (pTI : IsPair s.heap TI (.ref i1) (.ref i2)) (pTO : IsPair s.heap TO a b)
    (st1 : S1 k1 s.heap) (st2 : S2 k2 s.heap) (l1 : k1 < n1) (l2 : k2 < n2)
    (hQ : ∀ u v h2 t2, Y1 k1 u → Y2 k2 v → IsZip h2 z TI TO (rawInt s.heap.objs.size) → IsPair h2 TO u v → S1 (k1 + 1) h2 → S2 (k2 + 1) h2 → IsPair h2 s.heap.objs.size u v → h2.objs.size = s.heap.objs.size + 1 →
      (∀ c o, c ≠ z → c ≠ TO → c ≠ i1 → c ≠ i2 → s.heap.get? c = some o → h2.get? c = some o) → Q (.ref s.heap.objs.size) { s with heap := h2, toks := t2 }) :
    wpAny (model prog w) A (Builtin.«zip.__next__» ⟨[.ref z], []⟩) (fun fin s2 => ∃ v, fin = .done (.ret v) ∧ Q v s2) E s := by
  show wpAny _ _ (field (.ref z) 2 >>= _) _ _ _
  refine wpAny_bind (wpAny_field pz rfl (x := .bool false) rfl ?_)
  show wpAny _ _ (field (.ref z) 3 >>= _) _ _ _
  refine wpAny_bind (wpAny_field pz rfl (x := .ref TI) rfl (wpAny_bind (wpAny_seqItems pTI rfl ?_)))
  show wpAny _ _ (Builtin.SmallTypes.ownedTupleIsFree (.ref z) >>= _) _ _ _
  refine wpAny_bind ?_; unfold Builtin.SmallTypes.ownedTupleIsFree
  refine wpAny_bind (wpAny_field pz rfl (x := .none) rfl (wpAny_pure ?_))
  simp only [if_true]
  refine wpAny_bind (wpAny_rule (wpAny_bind (wpAny_field pz rfl (x := .ref TO) rfl (wpAny_bind (wpAny_setField_rec pz (by simp) fun g1 z1 s1 => ?_)))))
  replace z1 : IsZip g1 z TI TO .ellipsis := z1
  refine wpAny_bind ?_; simp only [List.zipIdx_cons, List.zipIdx_nil, List.forIn_cons, List.forIn_nil]
  refine wpAny_bind (wpAny_bind (wpAny_onRaise ?_))
  show wpAny _ _ (nextOf (.ref i1) >>= _) _ _ _
  have a1 : S1 k1 g1 := N1.nkeep _ _ _ st1 fun c hc o e => s1.extBut _ _ (by rcases List.mem_cons.mp hc with rfl | hc; exact D.n3; exact (D.nf1 c hc).1) e
  refine wpAny_bind (N1.nitem _ _ _ _ _ l1 a1 fun u g2 t2 y1 b1 s2 => wpAny_pure ?_)
  have o2 : IsPair g2 TO a b := s2.extBut _ _ D.n8 (s1.extBut _ _ D.n2 pTO)
  refine wpAny_bind (wpAny_seqItems o2 rfl (wpAny_bind (wpAny_updateSeq_pair o2 fun g3 o3 s3 => ?_)))
  replace o3 : IsPair g3 TO u b := o3
  refine wpAny_bind (wpAny_letGo (wpAny_pure (wpAny_bind (wpAny_bind (wpAny_onRaise ?_)))))
  show wpAny _ _ (nextOf (.ref i2) >>= _) _ _ _
  have a3 : S2 k2 g3 := N2.nkeep _ _ _ st2 fun c hc o e => by
    rcases List.mem_cons.mp hc with rfl | hc
    · exact s3.extBut _ _ D.n9.symm (s2.extBut _ _ D.na.symm (s1.extBut _ _ D.n4 e))
    · obtain ⟨q1, q2, q3⟩ := D.nf2 c hc
      exact s3.extBut _ _ q2 (s2.extBut _ _ q3 (s1.extBut _ _ q1 e))
  refine wpAny_bind (N2.nitem _ _ _ _ _ l2 a3 fun v g4 t4 y2 b4 s4 => wpAny_pure ?_)
  have o4 : IsPair g4 TO u b := s4.extBut _ _ D.n9 o3
  refine wpAny_bind (wpAny_seqItems o4 rfl (wpAny_bind (wpAny_updateSeq_pair o4 fun g5 o5 s5 => ?_)))
  replace o5 : IsPair g5 TO u v := o5
  refine wpAny_bind (wpAny_letGo (wpAny_pure (wpAny_pure (wpAny_bind (wpAny_seqItems o5 rfl (wpAny_bind (wpAny_newTuple ?_)))))))
  have sz5 : g5.objs.size = s.heap.objs.size := by rw [s5.1, s4.1, s3.1, s2.1, s1.1]
  have z5 : IsZip g5 z TI TO .ellipsis := s5.extBut _ _ D.n2.symm (s4.extBut _ _ D.n4.symm (s3.extBut _ _ D.n2.symm (s2.extBut _ _ D.n3.symm z1)))
  have up5 : ∀ c o, c ≠ z → c ≠ TO → c ≠ i1 → c ≠ i2 → s.heap.get? c = some o → g5.get? c = some o := fun c o c1 c2 c3 c4 e =>
    s5.extBut _ _ c2 (s4.extBut _ _ c4 (s3.extBut _ _ c2 (s2.extBut _ _ c3 (s1.extBut _ _ c1 e))))
  have b5 : S1 (k1 + 1) g5 := N1.nkeep _ _ _ b1 fun c hc o e => by
    rcases List.mem_cons.mp hc with rfl | hc
    · exact s5.extBut _ _ D.n8.symm (s4.extBut _ _ D.na (s3.extBut _ _ D.n8.symm e))
    · obtain ⟨q1, q2, q3⟩ := D.nf1 c hc
      exact s5.extBut _ _ q2 (s4.extBut _ _ q3 (s3.extBut _ _ q2 e))
  have c5 : S2 (k2 + 1) g5 := N2.nkeep _ _ _ b4 fun c hc o e => by
    rcases List.mem_cons.mp hc with rfl | hc
    · exact s5.extBut _ _ D.n9.symm e
    · exact s5.extBut _ _ (D.nf2 c hc).2.1 e
  have zlt : z < g5.objs.size := Heap.lt_size z5
  show wpAny _ _ (Builtin.SmallTypes.ownedTupleHandOut (.ref z) (.ref g5.objs.size) >>= _) _ _ _
  refine wpAny_bind ?_; unfold Builtin.SmallTypes.ownedTupleHandOut
  have z6 : IsZip (g5.push { cls := .type "tuple", data := .seq #[u, v] }) z TI TO .ellipsis := Heap.get?_push_of_some _ z5
  refine wpAny_bind (wpAny_setField_rec z6 (by simp) fun g7 z7 s7 => ?_)
  replace z7 : IsZip g7 z TI TO (rawInt g5.objs.size) := z7
  refine wpAny_setField_rec z7 (by simp) fun g8 z8 s8 => ?_
  replace z8 : IsZip g8 z TI TO (rawInt g5.objs.size) := z8
  have up : ∀ c o, c ≠ z → g5.get? c = some o → g8.get? c = some o := fun c o c1 e => s8.extBut _ _ c1 (s7.extBut _ _ c1 (Heap.get?_push_of_some _ e))
  have t8 : IsPair g8 g5.objs.size u v := s8.extBut _ _ (Nat.ne_of_gt zlt) (s7.extBut _ _ (Nat.ne_of_gt zlt) (Heap.get?_push_size _ rfl))
  have sz8 : g8.objs.size = g5.objs.size + 1 := by rw [s8.1, s7.1, Heap.size_push]
  have b8 : S1 (k1 + 1) g8 := N1.nkeep _ _ _ b5 fun c hc o e => up c o (by rcases List.mem_cons.mp hc with rfl | hc; exact D.n3; exact (D.nf1 c hc).1) e
  have c8 : S2 (k2 + 1) g8 := N2.nkeep _ _ _ c5 fun c hc o e => up c o (by rcases List.mem_cons.mp hc with rfl | hc; exact D.n4; exact (D.nf2 c hc).1) e
  rw [sz5] at z8 t8 sz8
  refine wpAny_pure ⟨_, rfl, ?_⟩
  show Q (.ref g5.objs.size) _
  rw [sz5]
  exact hQ u v g8 _ y1 y2 z8 (up _ _ D.n2 o5) b8 c8 t8 sz8 fun c o c1 c2 c3 c4 e => up c o c1 (up5 c o c1 c2 c3 c4 e)
theorem zp_done {Q : Fin → Shared → Prop} (hh : A.handled = none) (N1 : Nxt prog w i1 f1 n1 S1 Y1) (N2 : Nxt prog w i2 f2 n2 S2 Y2) (D : ZAp z TI TO i1 i2 f1 f2) (pz : IsZip s.heap z TI TO .none) (pTI : IsPair s.heap TI (.ref i1) (.ref i2)) (pTO : IsPair s.heap TO a b)
    (st1 : S1 k1 s.heap) (st2 : S2 k2 s.heap) (l1 : k1 ≤ n1) (l2 : k2 ≤ n2) (le : k1 = n1 ∨ k2 = n2)
    (hE : ∀ h2 e t2, (∀ c o, c ≠ z → c ≠ TO → c ≠ i1 → c ≠ i2 → s.heap.get? c = some o → h2.get? c = some o) → (∃ o, h2.get? e = some o ∧ o.cls = .type "StopIteration") → E (.ref e) { s with heap := h2, toks := t2 }) :
    wpAny (model prog w) A (Builtin.«zip.__next__» ⟨[.ref z], []⟩) Q E s := by
  show wpAny _ _ (field (.ref z) 2 >>= _) _ _ _
  refine wpAny_bind (wpAny_field pz rfl (x := .bool false) rfl ?_)
  show wpAny _ _ (field (.ref z) 3 >>= _) _ _ _
  refine wpAny_bind (wpAny_field pz rfl (x := .ref TI) rfl (wpAny_bind (wpAny_seqItems pTI rfl ?_)))
  show wpAny _ _ (Builtin.SmallTypes.ownedTupleIsFree (.ref z) >>= _) _ _ _
  refine wpAny_bind ?_; unfold Builtin.SmallTypes.ownedTupleIsFree
  refine wpAny_bind (wpAny_field pz rfl (x := .none) rfl (wpAny_pure ?_))
  simp only [if_true]
  refine wpAny_bind (wpAny_rule (wpAny_bind (wpAny_field pz rfl (x := .ref TO) rfl (wpAny_bind (wpAny_setField_rec pz (by simp) fun g1 z1 s1 => ?_)))))
  replace z1 : IsZip g1 z TI TO .ellipsis := z1
  refine wpAny_bind ?_; simp only [List.zipIdx_cons, List.zipIdx_nil, List.forIn_cons, List.forIn_nil]
  refine wpAny_bind (wpAny_bind (wpAny_onRaise ?_))
  show wpAny _ _ (nextOf (.ref i1) >>= _) _ _ _
  have a1 : S1 k1 g1 := N1.nkeep _ _ _ st1 fun c hc o e => s1.extBut _ _ (by rcases List.mem_cons.mp hc with rfl | hc; exact D.n3; exact (D.nf1 c hc).1) e
  by_cases e1 : k1 = n1
  · subst e1
    refine wpAny_bind (N1.ndone _ _ _ _ hh a1 fun g2 e s2 ⟨oe, hoe, hce⟩ => ?_)
    have z2 : IsZip g2 z TI TO .ellipsis := s2 _ _ D.n3.symm z1
    have ez : e ≠ z := fun q => by
      subst q
      rw [z2] at hoe
      cases hoe
      simp at hce
    exact wpAny_setField_rec z2 (by simp) fun g3 _ s3 => hE g3 e _ (fun c o c1 _ c3 _ q => s3.extBut _ _ c1 (s2 _ _ c3 (s1.extBut _ _ c1 q))) ⟨oe, s3.extBut _ _ ez hoe, hce⟩
  · have e2 : k2 = n2 := le.resolve_left e1
    subst e2
    refine wpAny_bind (N1.nitem _ _ _ _ _ (by omega) a1 fun u g2 t2 y1 b1 s2 => wpAny_pure ?_)
    have o2 : IsPair g2 TO a b := s2.extBut _ _ D.n8 (s1.extBut _ _ D.n2 pTO)
    refine wpAny_bind (wpAny_seqItems o2 rfl (wpAny_bind (wpAny_updateSeq_pair o2 fun g3 o3 s3 => ?_)))
    refine wpAny_bind (wpAny_letGo (wpAny_pure (wpAny_bind (wpAny_bind (wpAny_onRaise ?_)))))
    show wpAny _ _ (nextOf (.ref i2) >>= _) _ _ _
    have a3 : S2 k2 g3 := N2.nkeep _ _ _ st2 fun c hc o e => by
      rcases List.mem_cons.mp hc with rfl | hc
      · exact s3.extBut _ _ D.n9.symm (s2.extBut _ _ D.na.symm (s1.extBut _ _ D.n4 e))
      · obtain ⟨q1, q2, q3⟩ := D.nf2 c hc
        exact s3.extBut _ _ q2 (s2.extBut _ _ q3 (s1.extBut _ _ q1 e))
    refine wpAny_bind (N2.ndone _ _ _ _ hh a3 fun g4 e s4 ⟨oe, hoe, hce⟩ => ?_)
    have z4 : IsZip g4 z TI TO .ellipsis := s4 _ _ D.n4.symm (s3.extBut _ _ D.n2.symm (s2.extBut _ _ D.n3.symm z1))
    have ez : e ≠ z := fun q => by
      subst q
      rw [z4] at hoe
      cases hoe
      simp at hce
    exact wpAny_setField_rec z4 (by simp) fun g5 _ s5 => hE g5 e _ (fun c o c1 c2 c3 c4 q => s5.extBut _ _ c1 (s4 _ _ c4 (s3.extBut _ _ c2 (s2.extBut _ _ c3 (s1.extBut _ _ c1 q))))) ⟨oe, s5.extBut _ _ ez hoe, hce⟩
theorem pyNext_zp_item {Q : Option Value → Shared → Prop} (N1 : Nxt prog w i1 f1 n1 S1 Y1) (N2 : Nxt prog w i2 f2 n2 S2 Y2) (D : ZAp z TI TO i1 i2 f1 f2) (pz : IsZip s.heap z TI TO .none) (pTI : IsPair s.heap TI (.ref i1) (.ref i2)) (pTO : IsPair s.heap TO a b)
    (st1 : S1 k1 s.heap) (st2 : S2 k2 s.heap) (l1 : k1 < n1) (l2 : k2 < n2)
    (hQ : ∀ u v h2 t2, Y1 k1 u → Y2 k2 v → IsZip h2 z TI TO (rawInt s.heap.objs.size) → IsPair h2 TO u v → S1 (k1 + 1) h2 → S2 (k2 + 1) h2 → IsPair h2 s.heap.objs.size u v → h2.objs.size = s.heap.objs.size + 1 →
      (∀ c o, c ≠ z → c ≠ TO → c ≠ i1 → c ≠ i2 → s.heap.get? c = some o → h2.get? c = some o) → Q (some (.ref s.heap.objs.size)) { s with heap := h2, toks := t2 }) :
    wpAny (model prog w) A (pyNext (.ref z)) Q E s := by
  have tz : s.TypeIs (.ref z) "zip" := ⟨_, pz, rfl⟩
  unfold pyNext
  exact wpAny_bind (wpAny_attempt (wpAny_callSpecial?_slot (name := Str.ofString "__next__") tz F.slot_zip_next (wpAny_call_entry F.slot_zip_next tz F.entry_zip_next
    (zp_item N1 N2 D pz pTI pTO st1 st2 l1 l2 fun u v h2 t2 b1 b2 b3 b4 b5 b6 b7 b8 b9 => wpAny_pure (hQ u v h2 t2 b1 b2 b3 b4 b5 b6 b7 b8 b9)) (F.args_zip_next_1 _))))
theorem pyNext_zp_end {Q : Option Value → Shared → Prop} (hh : A.handled = none) (N1 : Nxt prog w i1 f1 n1 S1 Y1) (N2 : Nxt prog w i2 f2 n2 S2 Y2) (D : ZAp z TI TO i1 i2 f1 f2) (pz : IsZip s.heap z TI TO .none) (pTI : IsPair s.heap TI (.ref i1) (.ref i2)) (pTO : IsPair s.heap TO a b)
    (st1 : S1 k1 s.heap) (st2 : S2 k2 s.heap) (l1 : k1 ≤ n1) (l2 : k2 ≤ n2) (le : k1 = n1 ∨ k2 = n2)
    (hQ : ∀ h2 t2, (∀ c o, c ≠ z → c ≠ TO → c ≠ i1 → c ≠ i2 → s.heap.get? c = some o → h2.get? c = some o) → Q none { s with heap := h2, toks := t2 }) : wpAny (model prog w) A (pyNext (.ref z)) Q E s := by
  have tz : s.TypeIs (.ref z) "zip" := ⟨_, pz, rfl⟩
  unfold pyNext
  refine wpAny_bind (wpAny_attempt (wpAny_callSpecial?_slot (name := Str.ofString "__next__") tz F.slot_zip_next (wpAny_call_entry F.slot_zip_next tz F.entry_zip_next
    (zp_done hh N1 N2 D pz pTI pTO st1 st2 l1 l2 le fun h2 e t2 up ⟨o, ho, hc⟩ => ?_) (F.args_zip_next_1 _))))
  exact wpAny_bind (wpAny_isInstance (T := "StopIteration") (b := true) ⟨o, ho, hc⟩ isSubtype_stop (wpAny_pure (hQ _ _ up)))
end
/-! ### zip(text, list or tuple): made -/
abbrev zq1 (h : Heap) (x : Str) (t : Tok) : Heap := h.push { cls := .type "str_ascii_iterator", data := .fields #[.str x t, .int 0 0] }
abbrev zq2 (ty : String) (h : Heap) (x : Str) (t : Tok) (l : Addr) : Heap := (zq1 h x t).push { cls := .type ty, data := .fields #[.ref l, .int 0 0] }
abbrev zq3 (ty : String) (h : Heap) (x : Str) (t : Tok) (l : Addr) : Heap := (zq2 ty h x t l).push { cls := .type "tuple", data := .seq #[.ref h.objs.size, .ref (zq1 h x t).objs.size] }
abbrev zq4 (ty : String) (h : Heap) (x : Str) (t : Tok) (l : Addr) : Heap := (zq3 ty h x t l).push { cls := .type "tuple", data := .seq #[.none, .none] }
abbrev zq5 (ty : String) (h : Heap) (x : Str) (t : Tok) (l : Addr) : Heap :=
  (zq4 ty h x t l).push { cls := .type "zip", data := .fields #[.none, .bool false, .bool false, .ref (zq2 ty h x t l).objs.size, .ref (zq3 ty h x t l).objs.size] }
theorem mz_list (x : Str) (t : Tok) (l : Addr) (ys : Array Value) (ha : x.cps.all (· < 128) = true) :
    Meets (Builtin.«zip.__new__» ⟨[.type "zip", .str x t, .ref l], []⟩) (fun _ R s => s.heap.IsList l ys ∧ R (.ok (.ret (.ref (zq4 "list_iterator" s.heap x t l).objs.size))) { s with heap := zq5 "list_iterator" s.heap x t l }) :=
  .of_wp fun prog w A R s h => by
    obtain ⟨hp, g, d, tk, os⟩ := s; obtain ⟨hl, h⟩ := h
    have hsub := sub_zip
    have hL : Heap.IsList (Shared.heap ⟨hp.push { cls := .type "str_ascii_iterator", data := .fields #[.str x t, .int 0 0] }, g, d, tk, os⟩) l ys := Heap.IsList.push hl _
    wp_walk using wpAny_pyIter_ascii ha, wpAny_pyIter_list hL
    exact ⟨_, rfl, h⟩
theorem mz_tup (x : Str) (t : Tok) (l : Addr) (ys : Array Value) (ha : x.cps.all (· < 128) = true) :
    Meets (Builtin.«zip.__new__» ⟨[.type "zip", .str x t, .ref l], []⟩) (fun _ R s => s.heap.IsTuple l ys ∧ R (.ok (.ret (.ref (zq4 "tuple_iterator" s.heap x t l).objs.size))) { s with heap := zq5 "tuple_iterator" s.heap x t l }) :=
  .of_wp fun prog w A R s h => by
    obtain ⟨hp, g, d, tk, os⟩ := s; obtain ⟨hl, h⟩ := h
    have hsub := sub_zip
    have hL : Heap.IsTuple (Shared.heap ⟨hp.push { cls := .type "str_ascii_iterator", data := .fields #[.str x t, .int 0 0] }, g, d, tk, os⟩) l ys := Heap.IsTuple.push hl _
    wp_walk using wpAny_pyIter_ascii ha, wpAny_pyIter_tuple hL
    exact ⟨_, rfl, h⟩
end Ta

set_option Elab.async false
set_option linter.all false
set_option maxRecDepth 100000
set_option maxHeartbeats 2000000
namespace Ta
open PySem PySem.Spec PyProof.Rows L2
open Builtin.SmallTypes (nextOf)

section
variable {prog : Program} {w : World} {A : Around} {E : Value → Shared → Prop} {s : Shared}
theorem zq_facts (ty : String) (h : Heap) (x : Str) (t : Tok) (l : Addr) :
    IsZip (zq5 ty h x t l) (h.objs.size + 4) (h.objs.size + 2) (h.objs.size + 3) .none ∧ IsPair (zq5 ty h x t l) (h.objs.size + 2) (.ref h.objs.size) (.ref (h.objs.size + 1)) ∧ IsPair (zq5 ty h x t l) (h.objs.size + 3) .none .none ∧
      (zq5 ty h x t l).get? h.objs.size = some { cls := .type "str_ascii_iterator", data := .fields #[.str x t, .int 0 0] } ∧ (zq5 ty h x t l).get? (h.objs.size + 1) = some { cls := .type ty, data := .fields #[.ref l, .int 0 0] } ∧
      (zq4 ty h x t l).objs.size = h.objs.size + 4 ∧ ∀ c o, h.get? c = some o → (zq5 ty h x t l).get? c = some o := by
  have y1 : (zq1 h x t).objs.size = h.objs.size + 1 := Heap.size_push ..
  have y2 : (zq2 ty h x t l).objs.size = h.objs.size + 2 := by rw [Heap.size_push, y1]
  have y3 : (zq3 ty h x t l).objs.size = h.objs.size + 3 := by rw [Heap.size_push, y2]
  have y4 : (zq4 ty h x t l).objs.size = h.objs.size + 4 := by rw [Heap.size_push, y3]
  have e5 : (zq5 ty h x t l).get? (zq4 ty h x t l).objs.size = some _ := Heap.get?_push_size _ rfl
  have e4 : (zq5 ty h x t l).get? (zq3 ty h x t l).objs.size = some _ := Heap.get?_push_of_some _ (Heap.get?_push_size _ rfl)
  have e3 : (zq5 ty h x t l).get? (zq2 ty h x t l).objs.size = some _ := Heap.get?_push_of_some _ (Heap.get?_push_of_some _ (Heap.get?_push_size _ rfl))
  have e2 : (zq5 ty h x t l).get? (zq1 h x t).objs.size = some _ := Heap.get?_push_of_some _ (Heap.get?_push_of_some _ (Heap.get?_push_of_some _ (Heap.get?_push_size _ rfl)))
  have e1 : (zq5 ty h x t l).get? h.objs.size = some _ := Heap.get?_push_of_some _ (Heap.get?_push_of_some _ (Heap.get?_push_of_some _ (Heap.get?_push_of_some _ (Heap.get?_push_size _ rfl))))
  rw [y2, y3, y4] at e5
  rw [y1, y2] at e3
  rw [y3] at e4
  rw [y1] at e2
  exact ⟨e5, e3, e4, e1, e2, y4, fun c o q => Heap.get?_push_of_some _ (Heap.get?_push_of_some _ (Heap.get?_push_of_some _ (Heap.get?_push_of_some _ (Heap.get?_push_of_some _ q))))⟩
theorem call_zq {x : Str} {t : Tok} {l : Addr} {ys : Array Value} {Q : Value → Shared → Prop} (tp : Bool) (ha : x.cps.all (· < 128) = true) (hl : if tp then s.heap.IsTuple l ys else s.heap.IsList l ys)
    (h : Q (.ref (s.heap.objs.size + 4)) { s with heap := zq5 (if tp then "tuple_iterator" else "list_iterator") s.heap x t l }) : wpAny (model prog w) A (call (.type "zip") [.str x t, .ref l]) Q E s := by
  cases tp with
  | false =>
    refine callType_new F.called_zip (by decide) (F.typeCall_zip_2 _ _) (F.newCall_zip_2 _ _) (fun obj => F.args_object_init_3 obj _ _) F.entry_zip_new (mz_list x t l ys ha) ⟨hl, ?_⟩
    obtain ⟨e5, _, _, _, _, y4, _⟩ := zq_facts "list_iterator" s.heap x t l
    show _ ∧ _
    rw [y4]
    exact ⟨⟨_, e5, rfl⟩, h⟩
  | true =>
    refine callType_new F.called_zip (by decide) (F.typeCall_zip_2 _ _) (F.newCall_zip_2 _ _) (fun obj => F.args_object_init_3 obj _ _) F.entry_zip_new (mz_tup x t l ys ha) ⟨hl, ?_⟩
    obtain ⟨e5, _, _, _, _, y4, _⟩ := zq_facts "tuple_iterator" s.heap x t l
    show _ ∧ _
    rw [y4]
    exact ⟨⟨_, e5, rfl⟩, h⟩
end
/-! ### its walk -/
/-- the signs of x, the items of the list or tuple at b, in new pairs -/
def Itq (tp : Bool) (K : PySem.W.Frag) (x : Str) (b : Addr) : It :=
  ⟨fun i H => i < x.cps.size ∧ ∃ ys : List V, (if tp then SqT K H b ys else SqL K H b ys) ∧ i < ys.length,
    fun i H v H' => ∃ T c y, v = .ref T ∧ H T = none ∧ H' = upd H T (.tup [.str ⟨#[c]⟩, y]) ∧ x.cps[i]? = some c ∧ ∀ ys, (if tp then SqT K H b ys else SqL K H b ys) → ys[i]? = some y,
    fun i H => i ≤ x.cps.size ∧ ∃ ys : List V, (if tp then SqT K H b ys else SqL K H b ys) ∧ i ≤ ys.length ∧ (i = x.cps.size ∨ i = ys.length)⟩
theorem zap_of (I l : Nat) (hl : l < I) : ZAp (I + 4) (I + 2) (I + 3) I (I + 1) [] [l] := by
  have ne : ∀ {a b : Nat}, a < b → (a : Addr) ≠ b := fun h e => Nat.ne_of_lt h e
  refine ⟨ne (by omega), ne (by omega), ne (by omega), ne (by omega), ne (by omega), (ne (by omega)).symm, (ne (by omega)).symm, (ne (by omega)).symm, (ne (by omega)).symm, ne (by omega), fun b hb => (nomatch hb), fun b hb => ?_⟩
  rw [List.mem_singleton.mp hb]
  exact ⟨ne (by omega), ne (by omega), ne hl⟩
theorem turn_zq {P : Program} {w : World} {K : PySem.W.Frag} {elts : List Expr} {kk : Nat} {tpos : Pos} {b z TI TO i1 i2 : Addr} {x : Str} {t : Tok} (tp : Bool) (D : ZAp z TI TO i1 i2 [] [b]) :
    Turn P w K (.Tuple elts kk tpos) (Itq tp K x b) [z, TI, TO, i1, i2] z (fun i h => IsZip h z TI TO .none ∧ IsPair h TI (.ref i1) (.ref i2) ∧ (∃ u v, IsPair h TO u v) ∧ h.IsStrIter i1 "str_ascii_iterator" x t i ∧ (if tp then h.IsTupleIter i2 b i else h.IsListIter i2 b i)) where
  mem := by simp
  obj := fun i h st c hc => by
    obtain ⟨pz, pTI, ⟨u, v, pTO⟩, ⟨o1, g1, _, d1⟩, st2⟩ := st
    have g2 : ∃ o, h.get? i2 = some o ∧ ∀ v, o.data ≠ .cell v := by
      cases tp with
      | true => obtain ⟨o, ho, _, hd⟩ := st2; exact ⟨o, ho, fun v q => by rw [hd] at q; cases q⟩
      | false => obtain ⟨o, ho, _, hd⟩ := st2; exact ⟨o, ho, fun v q => by rw [hd] at q; cases q⟩
    simp only [List.mem_cons, List.not_mem_nil, or_false] at hc
    rcases hc with rfl | rfl | rfl | rfl | rfl
    · exact ⟨_, pz, fun v q => nomatch q⟩
    · exact ⟨_, pTI, fun v q => nomatch q⟩
    · exact ⟨_, pTO, fun v q => nomatch q⟩
    · exact ⟨o1, g1, fun v q => by rw [d1] at q; cases q⟩
    · exact g2
  keep := fun i h h2 st k => by
    obtain ⟨pz, pTI, ⟨u, v, pTO⟩, ⟨o1, g1, r1⟩, st2⟩ := st
    refine ⟨k z (by simp) _ pz, k TI (by simp) _ pTI, ⟨u, v, k TO (by simp) _ pTO⟩, ⟨o1, k i1 (by simp) _ g1, r1⟩, ?_⟩
    cases tp with
    | true => obtain ⟨o, ho, r⟩ := st2; exact ⟨o, k i2 (by simp) _ ho, r⟩
    | false => obtain ⟨o, ho, r⟩ := st2; exact ⟨o, k i2 (by simp) _ ho, r⟩
  item := by
    intro X hP hw hK hc i pins s σ H E I hf st hg
    subst hP hw hK
    obtain ⟨pz, pTI, ⟨u0, v0, pTO⟩, st1, st2⟩ := st
    obtain ⟨hx, ys, hy, hyl⟩ := hg
    have hzl : z < s.heap.objs.size := Heap.lt_size pz
    have ex : x.cps[i]? = some x.cps[i] := by simp [hx]
    have ey : ys[i]? = some ys[i] := by simp [hyl]
    have fin : ∀ {its : List Value} {S2 : Nat → Heap → Prop}, Vals ys its → Nxt X.prog X.w i2 [b] its.toArray.size S2 (fun i u => its.toArray[i]? = some u) → S2 i s.heap → (∀ h, S2 (i + 1) h → (if tp then h.IsTupleIter i2 b (i + 1) else h.IsListIter i2 b (i + 1))) →
        (∀ zs, (if tp then SqT X.K H b zs else SqL X.K H b zs) → zs = ys) →
        wpAny (model X.prog X.w) X.A (pyNext (.ref z)) (fun r s1 => ∃ u, r = some u ∧ wpAny (model X.prog X.w) X.A (letOwnedTupleGo (.Tuple elts kk tpos) (.ref z) u) (fun _ s2 => ∃ v H', Inv X pins σ H' s2 ∧ RelV v u ∧ (Itq tp X.K x b).yld i H v H' ∧
          (IsZip s2.heap z TI TO .none ∧ IsPair s2.heap TI (.ref i1) (.ref i2) ∧ (∃ u v, IsPair s2.heap TO u v) ∧ s2.heap.IsStrIter i1 "str_ascii_iterator" x t (i + 1) ∧ (if tp then s2.heap.IsTupleIter i2 b (i + 1) else s2.heap.IsListIter i2 b (i + 1))) ∧ ∀ c ∈ [z, TI, TO, i1, i2], H' c = none) E s1) E s := by
      intro its S2 rel N2 a2 fin2 uniq
      obtain ⟨uy, huy, ry⟩ := rel.get ey
      have il : i < its.toArray.size := by simp; exact (List.getElem?_eq_some_iff.mp huy).1
      refine pyNext_zp_item nx_ascii N2 D pz pTI pTO st1 a2 hx il fun u v h2 t2 y1 y2 z2 o2 b1 b2 p2 sz up => ?_
      obtain ⟨c, t', ec, rfl⟩ := y1
      rw [ex] at ec
      cases ec
      have ev : v = uy := by
        rw [List.getElem?_toArray, huy] at y2
        exact (Option.some.inj y2).symm
      subst ev
      refine ⟨_, rfl, wpAny_letOwnedTupleGo_zip (s := { s with heap := h2, toks := t2 }) z2 fun h3 z3 sb => ?_⟩
      have p3 : h3.get? s.heap.objs.size = some { cls := .type "tuple", data := .seq #[.str ⟨#[x.cps[i]]⟩ t', v] } := (sb.2 _ (Nat.ne_of_gt hzl)).trans p2
      have new : ObjOk X.prog X.w (upd H s.heap.objs.size (.tup [.str ⟨#[x.cps[i]]⟩, ys[i]])) h3 s.heap.objs.size (.tup [.str ⟨#[x.cps[i]]⟩, ys[i]]) :=
        ⟨by show 2 ≤ sizeLine; decide, [.str ⟨#[x.cps[i]]⟩ t', v], .cons ⟨t', rfl⟩ (.cons ry .nil), ⟨_, p3, rfl, _, rfl⟩⟩
      have J : Inv X pins σ (upd H s.heap.objs.size (.tup [.str ⟨#[x.cps[i]]⟩, ys[i]])) { s with heap := h3, toks := t2 } :=
        I.turnedNew (t' := t2) (ch := [z, TI, TO, i1, i2]) (fun c o hb q => by
          simp only [List.mem_cons, List.not_mem_nil, or_false, not_or] at hb
          exact (sb.2 c hb.1).trans (up c o hb.1 hb.2.2.1 hb.2.2.2.1 hb.2.2.2.2 q)) hf (Nat.le_refl _) new
      refine ⟨.ref s.heap.objs.size, _, J, rfl, ⟨_, x.cps[i], ys[i], rfl, I.hok.fresh (Nat.le_refl _), rfl, ex, fun zs hz => by rw [uniq zs hz]; exact ey⟩, ⟨z3, ?_, ⟨_, _, (sb.2 _ D.n2).trans o2⟩, ?_, ?_⟩, fun c hcm => ?_⟩
      · exact (sb.2 _ D.n1).trans (up _ _ D.n1 D.n5 D.n6 D.n7 pTI)
      · obtain ⟨o, ho, r⟩ := b1
        exact ⟨o, (sb.2 _ D.n3).trans ho, r⟩
      · have := fin2 _ b2
        cases tp with
        | true => obtain ⟨o, ho, r⟩ := this; exact ⟨o, (sb.2 _ D.n4).trans ho, r⟩
        | false => obtain ⟨o, ho, r⟩ := this; exact ⟨o, (sb.2 _ D.n4).trans ho, r⟩
      · have hlt : c < s.heap.objs.size := by
          obtain ⟨o1, g1, _⟩ := st1
          have g2 : i2 < s.heap.objs.size := by
            cases tp with
            | true => obtain ⟨o, ho, _⟩ := st2; exact Heap.lt_size ho
            | false => obtain ⟨o, ho, _⟩ := st2; exact Heap.lt_size ho
          simp only [List.mem_cons, List.not_mem_nil, or_false] at hcm
          rcases hcm with rfl | rfl | rfl | rfl | rfl
          · exact hzl
          · exact Heap.lt_size pTI
          · exact Heap.lt_size pTO
          · exact Heap.lt_size g1
          · exact g2
        rw [upd_ne (Nat.ne_of_lt hlt)]
        exact (hf c hcm).1
    cases tp with
    | false =>
      obtain ⟨its, rv, p, _⟩ := I.list hy
      exact fin rv nx_list ⟨st2, p.isList⟩ (fun h q => q.1) fun zs hz => I.list_inj hz hy
    | true =>
      obtain ⟨its, rv, p, _⟩ := I.tuple hy
      exact fin rv nx_tup ⟨st2, p⟩ (fun h q => q.1) fun zs hz => I.tuple_inj hz hy
  done := by
    intro X hP hw hK hc i pins s σ H E I hf st hg
    subst hP hw hK
    obtain ⟨pz, pTI, ⟨u0, v0, pTO⟩, st1, st2⟩ := st
    obtain ⟨hx, ys, hy, hyl, hend⟩ := hg
    have fin : ∀ {n2 : Nat} {S2 : Nat → Heap → Prop} {Y2 : Nat → Value → Prop}, n2 = ys.length → Nxt X.prog X.w i2 [b] n2 S2 Y2 → S2 i s.heap → wpAny (model X.prog X.w) X.A (pyNext (.ref z)) (fun r s1 => r = none ∧ Inv X pins σ H s1) E s := by
      intro n2 S2 Y2 en N2 a2
      refine pyNext_zp_end (I.ok.hd hc) nx_ascii N2 D pz pTI pTO st1 a2 hx (by omega) (by omega) fun h2 t2 up => ⟨rfl, I.turnedL (t' := t2) (ch := [z, TI, TO, i1, i2]) (fun c o hb q => ?_) hf⟩
      simp only [List.mem_cons, List.not_mem_nil, or_false, not_or] at hb
      exact up c o hb.1 hb.2.2.1 hb.2.2.2.1 hb.2.2.2.2 q
    cases tp with
    | false =>
      obtain ⟨its, rv, p, _⟩ := I.list hy
      have := rv.length
      exact fin (by simp; omega) nx_list ⟨st2, p.isList⟩
    | true =>
      obtain ⟨its, rv, p, _⟩ := I.tuple hy
      have := rv.length
      exact fin (by simp; omega) nx_tup ⟨st2, p⟩
  self := fun A i s Q E st h => wpAny_pyIter_zip st.1 h
/-- zip(text, list or tuple) as it is walked -/
def itZ (l : List Nat) (ys : List V) : Itm := fun i H v H' => ∃ T c y, v = .ref T ∧ H T = none ∧ H' = upd H T (.tup [.str (S [c]), y]) ∧ l[i]? = some c ∧ ys[i]? = some y
def jZq (ta : TA) : TJ := fun σ H R => ta σ H fun vs H1 => two vs fun x y => match x with
  | .str z => (match y with
    | .ref b => look H1 b fun o => (match o with
      | some (.lst ys) => (tl z).all (· < 128) = true ∧ (tl z).length = ys.length ∧ R ys.length (itZ (tl z) ys) (fun H' => H' b = some (.lst ys)) H1
      | some (.tup ys) => (tl z).all (· < 128) = true ∧ (tl z).length = ys.length ∧ R ys.length (itZ (tl z) ys) (fun H' => H' b = some (.tup ys)) H1
      | _ => False)
    | _ => False)
  | _ => False
theorem adm_zq {K : PySem.W.Frag} {x : Str} {b : Addr} {ys : List V} {st : Hp → Prop} (tp : Bool) (hl : (tl x).length = ys.length) (hs : ∀ H, st H → (if tp then SqT K H b ys else SqL K H b ys)) : Adm (Itq tp K x b) ys.length (itZ (tl x) ys) st := by
  have e : x.cps.size = ys.length := by rw [← hl]; simp [tl]
  refine ⟨fun i H hi q => ⟨by omega, ys, hs H q, hi⟩, fun i H v H' hi q y => ?_, fun H q => ⟨by omega, ys, hs H q, Nat.le_refl _, .inr rfl⟩⟩
  obtain ⟨T, c, y, h1, h2, h3, h4, h5⟩ := y
  exact ⟨T, c, y, h1, h2, h3, by simpa [tl] using h4, h5 ys (hs H q)⟩
theorem pjzq {X : Cx} {e e2 : Expr} {ta : TA} {p pos tpos : Pos} {elts : List Expr} {kk : Nat} (hm : X.mg "zip" = none) (ha : PA X [e, e2] ta) (hg : Gl X "zip" := by rfl)
    (hst : starEach [e, e2] X.env = (false, eval e X.env) :: starEach [e2] X.env := by rfl) (hpl : (backTo pos (starEach [e2] X.env)).any (·.1) = false := by rfl) :
    PJ X (.Tuple elts kk tpos) (.Call (.Name "zip" p) [e, e2] [] pos) (jZq ta) := by
  refine ⟨fun pins s σ H R I h => ?_⟩
  refine Call_ (ld_blt I hg hm PyProof.Rows.boot_zip (PyProof.Rows.callWith_type1 (thn (ha.run pos pins s σ H _ I h) fun us s1 ⟨vs, H1, J, rel, q1⟩ => ?_) hst hpl))
  obtain ⟨x, y, rfl, q⟩ := two_e q1
  cases x with
  | str z =>
    cases y with
    | ref b =>
      cases rel with
      | cons r rr =>
        cases rr with
        | cons r' rr =>
          cases rr
          cases r'
          obtain ⟨t, rfl⟩ := r
          have q := look_e q
          have fresh5 : ∀ c, c ∈ [s1.heap.objs.size + 4, s1.heap.objs.size + 2, s1.heap.objs.size + 3, s1.heap.objs.size, s1.heap.objs.size + 1] → FpOk X pins H1 c := fun c hcm => by
            have hle : s1.heap.objs.size ≤ c := by
              simp only [List.mem_cons, List.not_mem_nil, or_false] at hcm
              rcases hcm with rfl | rfl | rfl | rfl | rfl
              · exact Nat.le_add_right _ _
              · exact Nat.le_add_right _ _
              · exact Nat.le_add_right _ _
              · exact Nat.le_refl _
              · exact Nat.le_add_right _ _
            exact J.fpOk hle (J.hok.fresh hle)
          have fin : ∀ (tp : Bool) {ys : Array Value}, z.cps.all (· < 128) = true → (if tp then s1.heap.IsTuple b ys else s1.heap.IsList b ys) → b < s1.heap.objs.size → R (Itq tp X.K z b) H1 →
              wpAny (model X.prog X.w) X.A (call (.type "zip") [.str z t, .ref b]) (fun v s2 => wpAny (model X.prog X.w) X.A (pyIter v) (PIE X pins σ (.Tuple elts kk tpos) R) X.xe s2) X.xe s1 := fun tp ys hz hl hb q => by
            refine call_zq tp hz hl ?_
            obtain ⟨e5, e3, e4, e1, e2, _, up⟩ := zq_facts (if tp then "tuple_iterator" else "list_iterator") s1.heap z t b
            refine wpAny_pyIter_zip e5 ?_
            have J2 : Inv X pins σ H1 { s1 with heap := zq5 (if tp then "tuple_iterator" else "list_iterator") s1.heap z t b } := J.kept (t' := s1.toks) up
            refine ⟨s1.heap.objs.size + 4, _, _, _, H1, rfl, J2, turn_zq (t := t) tp (zap_of s1.heap.objs.size b hb), ⟨e5, e3, ⟨_, _, e4⟩, ⟨_, e1, rfl, rfl⟩, ?_⟩, fresh5, q⟩
            cases tp with
            | true => exact ⟨_, e2, rfl, rfl⟩
            | false => exact ⟨_, e2, rfl, rfl⟩
          have asc : (tl z).all (· < 128) = true → z.cps.all (· < 128) = true := fun h => by
            rw [← Array.all_toList]; exact h
          cases eb : H1 b with
          | none => rw [eb] at q; exact q.elim
          | some o =>
            rw [eb] at q
            cases o with
            | lst ys =>
              obtain ⟨q1, q2, q3⟩ := q
              obtain ⟨its, rv, p, _⟩ := J.list (SqL.of eb)
              obtain ⟨ob, hob, _⟩ := id p.isList
              exact fin false (asc q1) p.isList (Heap.lt_size hob) (q3 _ (adm_zq false q2 fun H' h => SqL.of h))
            | tup ys =>
              obtain ⟨q1, q2, q3⟩ := q
              obtain ⟨its, rv, p, _⟩ := J.tuple (SqT.of eb)
              obtain ⟨ob, hob, _⟩ := id p
              exact fin true (ys := its.toArray) (asc q1) p (Heap.lt_size hob) (q3 _ (adm_zq true q2 fun H' h => SqT.of h))
            | _ => exact q.elim
    | _ => exact q.elim
  | _ => exact q.elim
end Ta

set_option Elab.async false
set_option linter.all false
set_option maxRecDepth 100000
set_option maxHeartbeats 2000000
namespace Ta
open PySem PySem.Spec PyProof.Rows L2
open Builtin.SmallTypes (nextOf)

/-! ### any reading, made monotone -/
def upA (t : TA) : TA := fun σ H Q => ∃ Q0 : List V → Hp → Prop, t σ H Q0 ∧ ∀ vs H1, Q0 vs H1 → Q vs H1
def upE (t : TE) : TE := fun σ H Q => ∃ Q0 : VK, t σ H Q0 ∧ ∀ v H1, Q0 v H1 → Q v H1
section
variable {X : Cx}
theorem pa_up {es : List Expr} {t : TA} (h : PA X es t) : PA X es (upA t) := by
  refine ⟨fun pos pins s σ H Q I ⟨Q0, h0, im⟩ => ?_⟩
  refine thn (h.run pos pins s σ H Q0 I h0) fun us s1 ⟨vs, H1, I1, r, q⟩ => ⟨vs, H1, I1, r, im vs H1 q⟩
theorem pe_up {e : Expr} {t : TE} (h : PE X e t) : PE X e (upE t) := by
  refine ⟨fun pins s σ H Q I ⟨Q0, h0, im⟩ => ?_⟩
  refine thn (h.run pins s σ H Q0 I h0) fun us s1 ⟨v, H1, I1, r, q⟩ => ⟨v, H1, I1, r, im v H1 q⟩
end

/-! ### enumerate(list) -/
def itE (ys : List V) : Itm := fun i H v H' => ∃ T y, v = .ref T ∧ H T = none ∧ H' = upd H T (.tup [.int (i : Nat), y]) ∧ ys[i]? = some y
def jEn (K : PySem.W.Frag) (ta : TA) : TJ := fun σ H R => ta σ H fun vs H1 => one vs fun x => match x with
  | .ref a => look H1 a fun o => (match o with
    | some (.lst ys) => R ys.length (itE ys) (fun H' => H' a = some (.lst ys)) H1
    | _ => False)
  | _ => False
theorem adm_en {K : PySem.W.Frag} {a : Addr} {ys : List V} : Adm (Ite K a) ys.length (itE ys) (fun H => H a = some (.lst ys)) := by
  refine ⟨fun i H hi q => ⟨ys, ys[i], SqL.of q, by simp [hi]⟩, fun i H v H' hi q y => ?_, fun H q => ⟨ys, SqL.of q, Nat.le_refl _⟩⟩
  obtain ⟨T, y, h1, h2, h3, h4⟩ := y
  exact ⟨T, y, h1, h2, h3, h4 ys (SqL.of q)⟩
theorem pjen {X : Cx} {e : Expr} {ta : TA} {p pos tpos : Pos} {elts : List Expr} {kk : Nat} (hm : X.mg "enumerate" = none) (ha : PA X [e] ta) (hg : Gl X "enumerate" := by rfl) (hs : starEach [e] X.env = [(false, eval e X.env)] := by rfl) :
    PJ X (.Tuple elts kk tpos) (.Call (.Name "enumerate" p) [e] [] pos) (jEn X.K ta) := by
  have h := pi_enum (X := X) (e := e) (ta := upA ta) (p := p) (pos := pos) (tpos := tpos) (elts := elts) (kk := kk) hg hm (pa_up ha) hs
  refine ⟨fun pins s σ H R I q => h.run pins s σ H R I ⟨_, q, fun vs H1 q => ?_⟩⟩
  obtain ⟨x, rfl, q⟩ := one_e q
  cases x with
  | ref a =>
    have q := look_e q
    cases ea : H1 a with
    | none => rw [ea] at q; exact q.elim
    | some o =>
      rw [ea] at q
      cases o with
      | lst xs => exact ⟨a, xs, rfl, SqL.of ea, q _ adm_en⟩
      | _ => exact q.elim
  | _ => exact q.elim

/-! ### [e for x in xs if .. for y in ys if ..] -/
structure lc2 (n : Nat) (it : Itm) (st : Hp → Prop) (g : TG) (tt : TT) (wi1 : TJ) (g1 : TG) (tt1 : TT) (te : TE) (vs vs1 : List Nat) (σ : St) (H1 : Hp) (Q : VK) : Prop where
  out : ∀ J, Adm J n it st → ∀ D, H1 D = none → ∃ W : Nat → Nat → Hp → Prop, (∃ m, W 0 m (upd H1 D (.lst []))) ∧ ∀ i m H, W i m H →
  (J.stop i H ∧ Q (.ref D) H) ∨ (J.go i H ∧ ∃ Nx : Hp → Prop, (∀ H', Nx H' → ∃ m', m' < m ∧ W (i + 1) m' H') ∧ ∀ x H', J.yld i H x H' → g x (wipe σ vs) H' fun σ2 H2 => wipe σ2 vs = wipe σ vs ∧ tt σ2 H2 fun b H3 =>
    if b = true then toI wi1 σ2 H3 fun J1 H4 => ∃ W1 : Nat → Nat → Hp → Prop, (∃ m, W1 0 m H4) ∧ ∀ j k H, W1 j k H →
      (J1.stop j H ∧ Nx H) ∨ (J1.go j H ∧ ∃ Nx1 : Hp → Prop, (∀ H', Nx1 H' → ∃ k', k' < k ∧ W1 (j + 1) k' H') ∧ ∀ x H', J1.yld j H x H' → g1 x (wipe σ2 vs1) H' fun σ3 H5 => wipe σ3 vs1 = wipe σ2 vs1 ∧ tt1 σ3 H5 fun b H6 =>
        if b = true then te σ3 H6 fun y H7 => ∃ acc, H7 D = some (.lst acc) ∧ acc.length < sizeLine ∧ Nx1 (upd H7 D (.lst (acc ++ [y]))) else Nx1 H6)
    else Nx H3)
def tLc2P (wi : TJ) (g : TG) (tt : TT) (wi1 : TJ) (g1 : TG) (tt1 : TT) (te : TE) (vs vs1 : List Nat) : TE := fun σ H Q => wi σ H fun n it st H1 => lc2 n it st g tt wi1 g1 tt1 te vs vs1 σ H1 Q
theorem tLc2P_e {wi : TJ} {g : TG} {tt : TT} {wi1 : TJ} {g1 : TG} {tt1 : TT} {te : TE} {vs vs1 : List Nat} {σ : St} {H : Hp} {Q : VK} (h : tLc2P wi g tt wi1 g1 tt1 te vs vs1 σ H Q) : tLc2 (toI wi) g tt (toI wi1) g1 tt1 te vs vs1 σ H Q := by
  have e : (fun n it st H1 => lc2 n it st g tt wi1 g1 tt1 te vs vs1 σ H1 Q) = (fun n it st H1 => ∀ J, Adm J n it st → ∀ D, H1 D = none → ∃ W : Nat → Nat → Hp → Prop, (∃ m, W 0 m (upd H1 D (.lst []))) ∧ ∀ i m H, W i m H →
      (J.stop i H ∧ Q (.ref D) H) ∨ (J.go i H ∧ ∃ Nx : Hp → Prop, (∀ H', Nx H' → ∃ m', m' < m ∧ W (i + 1) m' H') ∧ ∀ x H', J.yld i H x H' → g x (wipe σ vs) H' fun σ2 H2 => wipe σ2 vs = wipe σ vs ∧ tt σ2 H2 fun b H3 =>
        if b = true then toI wi1 σ2 H3 fun J1 H4 => ∃ W1 : Nat → Nat → Hp → Prop, (∃ m, W1 0 m H4) ∧ ∀ j k H, W1 j k H →
          (J1.stop j H ∧ Nx H) ∨ (J1.go j H ∧ ∃ Nx1 : Hp → Prop, (∀ H', Nx1 H' → ∃ k', k' < k ∧ W1 (j + 1) k' H') ∧ ∀ x H', J1.yld j H x H' → g1 x (wipe σ2 vs1) H' fun σ3 H5 => wipe σ3 vs1 = wipe σ2 vs1 ∧ tt1 σ3 H5 fun b H6 =>
            if b = true then te σ3 H6 fun y H7 => ∃ acc, H7 D = some (.lst acc) ∧ acc.length < sizeLine ∧ Nx1 (upd H7 D (.lst (acc ++ [y]))) else Nx1 H6)
        else Nx H3)) := by
    funext n it st H1
    exact propext ⟨fun h => h.out, fun h => ⟨h⟩⟩
  have h : wi σ H fun n it st H1 => lc2 n it st g tt wi1 g1 tt1 te vs vs1 σ H1 Q := h
  rw [e] at h
  exact h
section
variable {X : Cx} {tg : Expr}
theorem plc2 {elt iter tg1 iter1 : Expr} {ifs ifs1 : List Expr} {scope : Scope} (own : List (Str × Nat)) (vs1 : List Nat) {pos : Pos} {wi wi1 : TJ} {g g1 : TG} {tt tt1 : TT} {te : TE} (hc : X.calm = true) (hN : X.N.Nodup) (hi : PJ X tg iter wi) (ok : blkC X.N X.env.scope scope own = true) (hv : ∀ i ∈ vs1, i ∈ own.map (·.2))
    (hg : ∀ (s : Shared) (H : Hp) (C : Addr) (cl : List (Str × Addr)) (fp : List Addr), PG (X.blk s H scope (compEnvC scope cl C X.env) fp) tg g) (ht : ∀ (s : Shared) (H : Hp) (C : Addr) (cl : List (Str × Addr)) (fp : List Addr), PTs (X.blk s H scope (compEnvC scope cl C X.env) fp) ifs tt)
    (hi1 : ∀ (s : Shared) (H : Hp) (C : Addr) (cl : List (Str × Addr)) (fp : List Addr), PJ (X.blk s H scope (compEnvC scope cl C X.env) fp) tg1 iter1 wi1)
    (hg1 : ∀ (s : Shared) (H : Hp) (C : Addr) (cl : List (Str × Addr)) (fp : List Addr), PG (X.blk s H scope (compEnvC scope cl C X.env) fp) tg1 g1) (ht1 : ∀ (s : Shared) (H : Hp) (C : Addr) (cl : List (Str × Addr)) (fp : List Addr), PTs (X.blk s H scope (compEnvC scope cl C X.env) fp) ifs1 tt1)
    (he : ∀ (s : Shared) (H : Hp) (C : Addr) (cl : List (Str × Addr)) (fp : List Addr), PE (X.blk s H scope (compEnvC scope cl C X.env) fp) elt te) (hs : ∀ x, foldedSetIterable iter X.env x = pure x := by intro _; rfl) (hs1 : ∀ env x, foldedSetIterable iter1 env x = pure x := by intro _ _; rfl) :
    PE X (.ListComp elt [⟨tg, iter, ifs, 0⟩, ⟨tg1, iter1, ifs1, 0⟩] scope pos) (tLc2P wi g tt wi1 g1 tt1 te (own.map (·.2)) vs1) :=
  pe_imp (pe_lc2 hc hN hi (blkOk_by ok) hv hg ht hi1 hg1 ht1 he hs hs1) fun _ _ _ h => tLc2P_e h
theorem pslc2 {i : Nat} {y : Str} {py : Pos} {elt iter tg1 iter1 : Expr} {ifs ifs1 : List Expr} {scope : Scope} (own : List (Str × Nat)) (vs1 : List Nat) {pos spos : Pos} {wi wi1 : TJ} {g g1 : TG} {tt tt1 : TT} {te : TE} (hc : X.calm = true) (hN : X.N.Nodup) (hy : X.N[i]? = some y) (hyl : X.env.scope.names.lookup y = some .local)
    (hsw : swapsWith (.ListComp elt [⟨tg, iter, ifs, 0⟩, ⟨tg1, iter1, ifs1, 0⟩] scope pos) (some (.Name y py)) spos.line X.env = pure true) (hi : PJ X tg iter wi) (ok : blkC X.N X.env.scope scope own = true) (hv : ∀ i ∈ vs1, i ∈ own.map (·.2))
    (hg : ∀ (s : Shared) (H : Hp) (C : Addr) (cl : List (Str × Addr)) (fp : List Addr), PG (X.blk s H scope (compEnvC scope cl C X.env) fp) tg g) (ht : ∀ (s : Shared) (H : Hp) (C : Addr) (cl : List (Str × Addr)) (fp : List Addr), PTs (X.blk s H scope (compEnvC scope cl C X.env) fp) ifs tt)
    (hi1 : ∀ (s : Shared) (H : Hp) (C : Addr) (cl : List (Str × Addr)) (fp : List Addr), PJ (X.blk s H scope (compEnvC scope cl C X.env) fp) tg1 iter1 wi1)
    (hg1 : ∀ (s : Shared) (H : Hp) (C : Addr) (cl : List (Str × Addr)) (fp : List Addr), PG (X.blk s H scope (compEnvC scope cl C X.env) fp) tg1 g1) (ht1 : ∀ (s : Shared) (H : Hp) (C : Addr) (cl : List (Str × Addr)) (fp : List Addr), PTs (X.blk s H scope (compEnvC scope cl C X.env) fp) ifs1 tt1)
    (he : ∀ (s : Shared) (H : Hp) (C : Addr) (cl : List (Str × Addr)) (fp : List Addr), PE (X.blk s H scope (compEnvC scope cl C X.env) fp) elt te) (hs : ∀ x, foldedSetIterable iter X.env x = pure x := by intro _; rfl) (hs1 : ∀ env x, foldedSetIterable iter1 env x = pure x := by intro _ _; rfl) :
    PS X (.Assign [.Name y py] (.ListComp elt [⟨tg, iter, ifs, 0⟩, ⟨tg1, iter1, ifs1, 0⟩] scope pos) spos) (tAsg (tLc2P wi g tt wi1 g1 tt1 te (own.map (·.2)) vs1) (gName i)) :=
  ps_imp (ps_setLc2 hc hN hy hyl hsw hi (blkOk_by ok) hv hg ht hi1 hg1 ht1 he hs hs1) fun D σ H h => tLc2P_e h
/-- by a word on the outer turns; within, the second source's own walk is asked with a word of its own -/
theorem lc2_i {n : Nat} {it : Itm} {st : Hp → Prop} {g : TG} {tt : TT} {wi1 : TJ} {g1 : TG} {tt1 : TT} {te : TE} {vs vs1 : List Nat} {σ : St} {H1 : Hp} {Q : VK} (Pv : Addr → Nat → Hp → Prop) (h0 : ∀ D, H1 D = none → Pv D 0 (upd H1 D (.lst []))) (hst : ∀ D i H, H1 D = none → i ≤ n → Pv D i H → st H)
    (hs : ∀ D i x H H', H1 D = none → i < n → Pv D i H → it i H x H' → g x (wipe σ vs) H' fun σ2 H2 => wipe σ2 vs = wipe σ vs ∧ tt σ2 H2 fun b H3 =>
      if b = true then wi1 σ2 H3 fun n1 it1 st1 H4 => ∃ Pw : Nat → Hp → Prop, Pw 0 H4 ∧ (∀ j H, j ≤ n1 → Pw j H → st1 H) ∧ (∀ H, Pw n1 H → Pv D (i + 1) H) ∧
        ∀ j y H H', j < n1 → Pw j H → it1 j H y H' → g1 y (wipe σ2 vs1) H' fun σ3 H5 => wipe σ3 vs1 = wipe σ2 vs1 ∧ tt1 σ3 H5 fun b H6 =>
          if b = true then te σ3 H6 fun v H7 => ∃ acc, H7 D = some (.lst acc) ∧ acc.length < sizeLine ∧ Pw (j + 1) (upd H7 D (.lst (acc ++ [v]))) else Pw (j + 1) H6
      else Pv D (i + 1) H3)
    (hd : ∀ D H, H1 D = none → Pv D n H → Q (.ref D) H) (mg : ∀ x σ H (F G : St → Hp → Prop), (∀ σ H, F σ H → G σ H) → g x σ H F → g x σ H G) (mt : ∀ σ H (F G : Bool → Hp → Prop), (∀ b H, F b H → G b H) → tt σ H F → tt σ H G)
    (mw : ∀ σ H (F G : Nat → Itm → (Hp → Prop) → Hp → Prop), (∀ n it st H, F n it st H → G n it st H) → wi1 σ H F → wi1 σ H G) : lc2 n it st g tt wi1 g1 tt1 te vs vs1 σ H1 Q := by
  refine ⟨?_⟩
  intro J A D hD
  refine ⟨fun i m H => m = n - i ∧ i ≤ n ∧ Pv D i H, ⟨n, by simp, Nat.zero_le _, h0 D hD⟩, ?_⟩
  rintro i m H ⟨rfl, hi, p⟩
  have q := hst D i H hD hi p
  by_cases hlt : i < n
  · refine .inr ⟨A.go i H hlt q, Pv D (i + 1), fun H' p' => ⟨n - (i + 1), by omega, rfl, hlt, p'⟩, fun x H' y => ?_⟩
    refine mg _ _ _ _ _ (fun σ2 H2 ⟨e, h⟩ => ⟨e, mt _ _ _ _ (fun b H3 h => ?_) h⟩) (hs D i x H H' hD hlt p (A.yl i H x H' hlt q y))
    cases b with
    | false => exact h
    | true =>
      refine mw _ _ _ _ (fun n1 it1 st1 H4 ⟨Pw, w0, wst, wd, ws⟩ J1 A1 => ?_) h
      refine ⟨fun j k H => k = n1 - j ∧ j ≤ n1 ∧ Pw j H, ⟨n1, by simp, Nat.zero_le _, w0⟩, ?_⟩
      rintro j k H ⟨rfl, hj, pw⟩
      have q1 := wst j H hj pw
      by_cases hlt1 : j < n1
      · exact .inr ⟨A1.go j H hlt1 q1, Pw (j + 1), fun H' p' => ⟨n1 - (j + 1), by omega, rfl, hlt1, p'⟩, fun x H' y => ws j x H H' hlt1 pw (A1.yl j H x H' hlt1 q1 y)⟩
      · have e1 : j = n1 := by omega
        subst e1
        exact .inl ⟨A1.sp H q1, wd H pw⟩
  · have e : i = n := by omega
    subst e
    exact .inl ⟨A.sp H q, hd D H hD p⟩
end
end Ta

set_option Elab.async false
set_option linter.all false
set_option maxRecDepth 100000
set_option maxHeartbeats 2000000
namespace Ta
open PySem PySem.Spec PyProof.Rows L2 He

/-! ### f-strings of texts and whole numbers -/
def digs (i : Int) : List Nat := tl (toString i : Str)
def tFv (te : TE) : TE := fun σ H Q => te σ H fun x H1 => match x with
  | .str y => Lim (tl y).length ∧ Q (.str y) H1
  | .int i => i.natAbs.log2 < 1920 ∧ Q (.str (S (digs i))) H1
  | _ => False
def tFs : List TE → List Nat → St → Hp → (List Nat → Hp → Prop) → Prop
  | [], acc, _, H, Q => Q acc H
  | t :: ts, acc, σ, H, Q => t σ H fun x H1 => match x with
    | .str y => Lim (acc ++ tl y).length ∧ tFs ts (acc ++ tl y) σ H1 Q
    | _ => False
def tFstr (ts : List TE) : TE := fun σ H Q => tFs ts [] σ H fun out H1 => Q (.str (S out)) H1
section
variable {X : Cx}
theorem pfv {e : Expr} {te : TE} {pos : Pos} (he : PE X e te) : PE X (.FormattedValue e (-1) none pos) (tFv te) := by
  refine pe_imp (pe_fmt (te := upE te) (pe_up he)) fun σ H Q h => ⟨_, h, fun x H1 h => ?_⟩
  cases x with
  | str y =>
    obtain ⟨h1, h2⟩ := h
    exact .inl ⟨y, rfl, by rw [len_tl]; exact h1, h2⟩
  | int i =>
    obtain ⟨h1, h2⟩ := h
    exact .inr ⟨i, rfl, h1, h2⟩
  | _ => exact h.elim
inductive PFs (X : Cx) : List Expr → List TE → Prop where
  | nil : PFs X [] []
  | cons {e : Expr} {t : TE} {es : List Expr} {ts : List TE} (h : PE X e t) (r : PFs X es ts) : PFs X (e :: es) (t :: ts)
theorem PFs.up {es : List Expr} {ts : List TE} (h : PFs X es ts) : L2.PJ X es (ts.map upE) := by
  induction h with
  | nil => exact .nil
  | cons h r ih => exact .cons (pe_up h) ih
theorem tFs_e : ∀ {ts : List TE} {acc : Str} {σ : St} {H : Hp} {Q : Str → Hp → Prop}, tFs ts (tl acc) σ H (fun out H1 => Q (S out) H1) → tJs (ts.map upE) acc σ H Q
  | [], acc, σ, H, Q, h => by
    have h : Q (S (tl acc)) H := h
    rw [S_tl] at h
    exact h
  | t :: ts, acc, σ, H, Q, h => by
    refine ⟨_, h, fun x H1 h => ?_⟩
    cases x with
    | str y =>
      obtain ⟨h1, h2⟩ := h
      refine ⟨y, rfl, ?_, tFs_e (acc := acc ++ y) ?_⟩
      · rw [len_tl, add_S]; exact h1
      · rw [add_S]; exact h2
    | _ => exact h.elim
theorem pfstr {v1 v2 : Expr} {rest : List Expr} {ts : List TE} {pos : Pos} (h : PFs X (v1 :: v2 :: rest) ts) : PE X (.JoinedStr (v1 :: v2 :: rest) pos) (tFstr ts) :=
  pe_imp (pe_joined h.up) fun σ H Q h => tFs_e (acc := Str.empty) h
theorem pfstr1 {e : Expr} {te : TE} {pos : Pos} (h : PE X e te) : PE X (.JoinedStr [e] pos) te := pe_joined1 h
end

/-! ### C.m(..), m a classmethod; cls(..) -/
section
variable (P : Program) (w : World) (K : PySem.W.Frag) (mg : Str → Option Value) (base : Heap)
structure Cmt (C : Addr) (m : Str) (lv : Nat) (dvs : List V) (sp : Sp) : Prop where
  ex : ∃ (mc : Value) (p g : Addr) (fd : FuncData) (ps : List Str) (ds : List Value), ClX.CRead K C mc ∧ ClX.CMet K C mc m p g ∧ FnOk P w K mg base (L2M.CX K P w) lv g fd ps sp ∧ Vals dvs ds ∧ Binds K fd ps ds
end
def tCme (C : Addr) (sp : Sp) (dvs : List V) (W : WX) (ta : TE) (t : TA) : TE := fun σ H Q => ta σ H fun x H1 => match x with
  | .ref a => a = C ∧ t σ H1 fun vs H2 => sp (.ref C :: (vs ++ dvs)) H2 Q fun c d H' => W c d σ H'
  | _ => False
section
variable {X : Cx} {m : Str} {p pos apos : Pos} {e o : Expr} {es : List Expr} {ta : TE} {t : TA} {lv i : Nat} {dvs : List V} {sp : Sp} {W : WX} {C : Addr} {x : Str}
theorem run_fnC {CX : CXT} {k : Nat} {f : Addr} {fd : FuncData} {ps : List Str} {ds : List Value} {E : St → XK} {pins : List (Addr × Obj)} {σ : St} {H : Hp} {s : Shared} {Q : VK} {us : List Value} {vs : List V} (F : FnOk X.prog X.w X.K X.mg X.base CX k f fd ps sp) (rm : Room k X.A) (bn : Binds X.K fd ps ds) (dv : Vals dvs ds)
    (hx : PassesAt CX X σ (E σ)) (I : Inv X pins σ H s) (r : Vals vs us) (h : sp (vs ++ dvs) H Q (E σ)) :
    codeAny (model X.prog X.w) X.A (.call (.ref f) ⟨us, []⟩) (fun r s2 => match r with
      | .ok (.ret v) => EP X pins σ Q v s2
      | .ok _ => False
      | .error e => X.xe e s2) s := by
  have all : Vals (vs ++ dvs) (us ++ ds) := r.append dv
  have lenA : (us ++ ds).length = ps.length := by
    rw [← all.length]
    exact F.len _ _ _ _ h
  refine codeAny_mono (F.run X.A X.stack s H ⟨us, []⟩ _ _ Q (E σ) rm I.env0 (bn s us I.kIn lenA) all h) fun r s2 q => ?_
  match r, q with
  | .error e, q => exact hx pins H s e s2 I q
  | .ok (.ret u), q => exact I.after q
  | .ok .next, q => exact q.elim
  | .ok .brk, q => exact q.elim
  | .ok .cont, q => exact q.elim
theorem pcme {pl : Sem Bool} (F : Cmt X.prog X.w X.K X.mg X.base C m lv dvs sp) (hr : Room lv X.A) (tk : L2M.Takes X W) (ho : PE X o ta) (ha : PA X (e :: es) t)
    (hst : starEach (e :: es) X.env = (false, eval e X.env) :: starEach es X.env := by rfl) (hpl : (backTo pos (starEach es X.env)).any (·.1) = false := by rfl)
    (ht : eval (.Call (.Attribute o m apos) (e :: es) [] pos) X.env = (do
      let ov ← eval o X.env
      standAt apos.atName
      let (f, first) ← holding [ov] (getMethod ov m pl)
      callWith pos f first (backTo pos (starEach (e :: es) X.env)) (backToKw pos (keywordEach [] X.env))) := by rfl) :
    PE X (.Call (.Attribute o m apos) (e :: es) [] pos) (tCme C sp dvs W ta t) := by
  obtain ⟨mc, p, g, fd, ps, ds, cr, cm, F2, hd, hb⟩ := F.ex
  refine ⟨fun pins s σ H Q I h => PySem.W.methodCall_KW (pl := pl) (thn (ho.run pins s σ H _ I h) fun u s1 ⟨x, H1, I1, rx, q⟩ => ?_) ht⟩
  cases x with
  | ref a =>
    obtain ⟨rfl, q⟩ := q
    obtain rfl : u = Value.ref a := rx
    refine ClX.getmethcm_ok I1 cr cm fun s2 I2 => ?_
    refine ClX.callwith_cm I2 (ClX.base_none I1 (Nat.le_refl _)) cm.fi (thn (ha.run pos _ s2 σ H1 _ I2 q) fun us s3 ⟨vs, H2, I3, rv, q2⟩ => ⟨⟨ClX.pin_at I3, I3.kIn⟩, ?_⟩) hst hpl
    refine thn (wpAny_call (PySem.W.method_call (ClX.pin_at I3) (run_fnC (E := WE W) (us := .ref a :: us) (vs := .ref a :: vs) F2 hr hb hd (L2M.passAt tk σ) I3 (.cons rfl rv) q2))) fun _ _ y => ClX.unpinE y
  | _ => exact q.elim
/-- cls(..), the i-th slot holds the class -/
def tMkL (i : Nat) (C : Addr) (sp : Sp) (dvs : List V) (W : WX) (t : TA) : TE := fun σ H Q => match σ[i]? with
  | some (some (.ref a)) => a = C ∧ tMak C sp dvs W t σ H Q
  | _ => False
theorem pmkl {y : Str} (F : Mks X.prog X.w X.K X.mg X.base y C lv dvs sp) (hr : Room (lv + 1) X.A) (tk : L2M.Takes X W) (ha : PA X (e :: es) t) (hN : X.N[i]? = some x := by rfl)
    (hv : Vis X.env.scope x := by first | exact Or.inl rfl | exact Or.inr (Or.inl rfl) | exact Or.inr (Or.inr rfl)) (hdb : (x == ("__debug__" : Str)) = false := by decide +kernel) (hcd : (x == ("__classdict__" : Str)) = false := by decide +kernel)
    (he : starEach (e :: es) X.env = (false, eval e X.env) :: starEach es X.env := by rfl) (hpl : (backTo pos (starEach es X.env)).any (·.1) = false := by rfl) :
    PE X (.Call (.Name x p) (e :: es) [] pos) (tMkL i C sp dvs W t) := by
  obtain ⟨f, fd, ps, ds, F, M, hm, hd, hb⟩ := F.ex
  refine ⟨fun pins s σ H Q I h => ?_⟩
  have h2 : σ[i]? = some (some (.ref C)) ∧ tMak C sp dvs W t σ H Q := by
    unfold tMkL at h
    split at h
    · rename_i a ea
      obtain ⟨rfl, h⟩ := h
      exact ⟨ea, h⟩
    · exact h.elim
  obtain ⟨hs, ht⟩ := h2
  refine wpAny_Call_Name_kw (thn ((pe_var (pos := p) hN hv hdb hcd).run pins s σ H (fun v H1 => v = .ref C ∧ H1 = H) I ⟨.ref C, hs, rfl, rfl⟩) fun u s1 ⟨v, H1, I1, r1, q1⟩ => ?_)
  obtain ⟨rfl, rfl⟩ := q1
  cases r1
  refine PySem.W.callWith_K (h₀ := X.base) I.ok.mod.kin M.kp (thn (ha.run pos pins s1 σ _ _ I1 ht) fun us s2 ⟨vs, H2, I2, r, q⟩ => ⟨I2.kIn, ?_⟩) he hpl
  exact run_makeS M F hr hb hd tk I2 r q
end
def bCm (x m : Str) : BF := fun K => PySem.W.readsIn K (ga K x) (.type "type") && (eqO (PySem.W.specialIn K (.ref (ga K x)) "__getattribute__") (some (some (.builtin "type.__getattribute__"))) &&
  (He5.wrapB K (ga K x) "classmethod" "classmethod.__get__" m && PySem.W.fnIn K (He5.wf K (ga K x) "classmethod" m)))
def cmA (K : PySem.W.Frag) (C : Addr) (m : Str) : Addr := He5.wf K C "classmethod" m
theorem cm_of {K : PySem.W.Frag} {x m : Str} (c : bCm x m K = true) : ClX.CRead K (ga K x) (.type "type") ∧ ClX.CMet K (ga K x) (.type "type") m (ma K (ga K x) m) (cmA K (ga K x) m) := by
  obtain ⟨c1, c⟩ := He.ba c
  obtain ⟨c2, c⟩ := He.ba c
  obtain ⟨c3, c4⟩ := He.ba c
  exact ⟨⟨c1, eqO_ok c2⟩, He5.cmet_of c3 c4⟩
end Ta

set_option Elab.async false
set_option linter.all false
set_option maxRecDepth 100000
set_option maxHeartbeats 2000000
namespace Ta
open PySem PySem.Spec PyProof.Rows L2 He

/-! ### o[i], x in o, ~o by own methods -/
def tSubO (C : Addr) (sp : Sp) (W : WX) (ta tb : TE) : TE := fun σ H Q => ta σ H fun x H1 => tb σ H1 fun y H2 => isIns C x H2 fun a => sp [.ref a, y] H2 Q fun c d H' => W c d σ H'
def boV (v : V) (k : Bool → Prop) : Prop := match v with
  | .bl b => k b
  | _ => False
theorem boV_e {v : V} {k : Bool → Prop} (h : boV v k) : ∃ b, v = .bl b ∧ k b := by
  cases v with
  | bl b => exact ⟨b, rfl, h⟩
  | _ => exact h.elim
def zInO (C : Addr) (sp : Sp) : R2 := fun x y H Q => isIns C y H fun b => sp [.ref b, x] H (fun v H' => boV v fun k => Q (.bl k) H') fun _ _ _ => False
def zNinO (C : Addr) (sp : Sp) : R2 := fun x y H Q => isIns C y H fun b => sp [.ref b, x] H (fun v H' => boV v fun k => Q (.bl (!k)) H') fun _ _ _ => False
/-- the method stands as a def -/
def MethFn (K : PySem.W.Frag) (C : Addr) (m : Str) : Prop := ∃ g, PySem.W.findIn K (.ref C) m = some (some (.ref g)) ∧ PySem.W.fnIn K g = true
def bFnm (x m : Str) : BF := fun K => match PySem.W.findIn K (.ref (ga K x)) m with
  | some (some (.ref g)) => PySem.W.fnIn K g
  | _ => false
theorem fnm_of {K : PySem.W.Frag} {x m : Str} (c : bFnm x m K = true) : MethFn K (ga K x) m := by
  unfold bFnm at c
  split at c
  · rename_i g e
    exact ⟨g, e, c⟩
  · cases c
def zInvO (C : Addr) (sp : Sp) : V → Hp → VK → Prop := fun x H Q => isIns C x H fun a => sp [.ref a] H Q fun _ _ _ => False
section
variable {X : Cx} {a b : Expr} {ta tb : TE} {pos : Pos} {lv : Nat} {sp : Sp} {W : WX} {C : Addr}
theorem psubO (M : Me X.prog X.w X.K X.mg X.base C "__getitem__" lv [] sp) (mf : MethFn X.K C "__getitem__") (hr : Room (lv + 1) X.A) (tk : L2M.Takes X W) (ha : PE X a ta) (hb : PE X b tb)
    (hsl : ∀ (x : Addr) (i : Value), subscripted b true (.ref x) i = runValue (.builtin "lifetime.subscript" ⟨[.ref x, i], []⟩) := by intro _ _; with_unfolding_all rfl) : PE X (.Subscript a b pos) (tSubO C sp W ta tb) := by
  refine ⟨fun pins s σ H Q I h => Subscript_ (binT ha hb I h fun v u s2 x y H2 I2 rx ry q => ?_)⟩
  obtain ⟨p, dx, fs, rfl, hp, q⟩ := isIns_e q
  cases rx
  obtain ⟨⟨f, fd, ps, ds, F, hm, hd, bn⟩, cl⟩ := M
  cases hd
  obtain ⟨mA, J, _⟩ := ins_get I2.hok hp
  obtain ⟨od, J, _⟩ := J.look
  obtain ⟨m, fr⟩ := I2.fr
  have isf : PySem.W.fnIn X.K f = true := by
    obtain ⟨g, e1, e2⟩ := mf
    have e3 := hm.at_
    rw [e1] at e3
    cases e3
    exact e2
  exact PySem.W.sub_K fr I2.ok.mod.kin J hm.at_ isf hm.fn (run_in1 (E := WE W) (us := [.ref p, u]) (vs := [.ref p, y]) F hr bn .nil (L2M.passAt tk σ) I2 (.cons rfl (.cons ry .nil)) q) (hsl p u)
theorem opinO (M : Me X.prog X.w X.K X.mg X.base C "__contains__" lv [] sp) (hr : Room lv X.A) : OpR X (compareOp .In) (zInO C sp) := by
  intro pins s σ H x y v u Q I rx ry h
  obtain ⟨p, dx, fs, rfl, hp, q⟩ := isIns_e h
  cases ry
  obtain ⟨⟨f, fd, ps, ds, F, hm, hd, bn⟩, cl⟩ := M
  cases hd
  obtain ⟨mA, J, _⟩ := ins_get I.hok hp
  obtain ⟨od, J, _⟩ := J.look
  obtain ⟨m, fr⟩ := I.fr
  refine PySem.W.in_K fr I.ok.mod.kin J hm.at_ hm.fn (wpAny_mono (run_fnSD (E := WE WF) (us := [.ref p, v]) (vs := [.ref p, x]) F hr bn .nil (L2M.passAt L2M.takes0 σ) I (.cons rfl (.cons rx .nil)) q) (fun r s' q => ?_) fun _ _ z => z)
  obtain ⟨z, H', I', rz, q⟩ := q
  obtain ⟨k, rfl, q⟩ := boV_e q
  cases rz
  exact wpAny_truthy_bool ⟨.bl k, H', I', rfl, q⟩
theorem opninO (M : Me X.prog X.w X.K X.mg X.base C "__contains__" lv [] sp) (hr : Room lv X.A) : OpR X (compareOp .NotIn) (zNinO C sp) := by
  intro pins s σ H x y v u Q I rx ry h
  obtain ⟨p, dx, fs, rfl, hp, q⟩ := isIns_e h
  cases ry
  obtain ⟨⟨f, fd, ps, ds, F, hm, hd, bn⟩, cl⟩ := M
  cases hd
  obtain ⟨mA, J, _⟩ := ins_get I.hok hp
  obtain ⟨od, J, _⟩ := J.look
  obtain ⟨m, fr⟩ := I.fr
  refine PySem.W.notIn_K fr I.ok.mod.kin J hm.at_ hm.fn (wpAny_mono (run_fnSD (E := WE WF) (us := [.ref p, v]) (vs := [.ref p, x]) F hr bn .nil (L2M.passAt L2M.takes0 σ) I (.cons rfl (.cons rx .nil)) q) (fun r s' q => ?_) fun _ _ z => z)
  obtain ⟨z, H', I', rz, q⟩ := q
  obtain ⟨k, rfl, q⟩ := boV_e q
  cases rz
  exact wpAny_truthy_bool ⟨.bl (!k), H', I', rfl, q⟩
theorem uninvO (M : Me X.prog X.w X.K X.mg X.base C "__invert__" lv [] sp) (hr : Room lv X.A) : UnR X (unaryOp .Invert) (zInvO C sp) := by
  intro pins s σ H x v Q I rx h
  obtain ⟨p, dx, fs, rfl, hp, q⟩ := isIns_e h
  cases rx
  obtain ⟨⟨f, fd, ps, ds, F, hm, hd, bn⟩, cl⟩ := M
  cases hd
  obtain ⟨mA, J, _⟩ := ins_get I.hok hp
  obtain ⟨od, J, _⟩ := J.look
  obtain ⟨m, fr⟩ := I.fr
  exact PySem.W.ksp_inv fr I.ok.mod.kin J hm.at_ hm.fn (run_fnSD (E := WE WF) (us := [.ref p]) (vs := [.ref p]) F hr bn .nil (L2M.passAt L2M.takes0 σ) I (.cons rfl .nil) q)
end
/-! ### x in a list or tuple of data of any depth -/
structure din (K : PySem.W.Frag) (x y : V) (H : Hp) (Q : Bool → Prop) : Prop where
  out : ∃ d ds, Dp K H x d ∧ SeqAt.shaped d = true ∧ ((Dp K H y (.list ds) ∧ SeqAt.shaped (.list ds) = true) ∨ (Dp K H y (.tuple ds) ∧ SeqAt.shaped (.tuple ds) = true)) ∧ Q (ds.any fun z => PyData.eqv z d)
def zInD (K : PySem.W.Frag) : R2 := fun x y H Q => din K x y H fun k => Q (.bl k) H
def zNinD (K : PySem.W.Frag) : R2 := fun x y H Q => din K x y H fun k => Q (.bl (!k)) H
section
variable {X : Cx}
theorem opind (hu2 : X.A.units + 65 < cLine) : OpR X (compareOp .In) (zInD X.K) := by
  intro pins s σ H x y v u Q I rx ry h
  obtain ⟨d, ds, hd, sd, he, q⟩ := h.out
  obtain ⟨as, r1⟩ := Dp.reads I d x v hd rx
  rcases he with ⟨he, se⟩ | ⟨he, se⟩
  · obtain ⟨bs, r2⟩ := Dp.reads I (.list ds) y u he ry
    exact SeqAt.in_list_reads r2 r1 (SeqAt.canLay_of_shaped se) (SeqAt.canLay_of_shaped sd) (room_in_shaped sd hu2) ⟨.bl _, H, I, rfl, q⟩
  · obtain ⟨bs, r2⟩ := Dp.reads I (.tuple ds) y u he ry
    exact SeqAt.in_tuple_reads r2 r1 (SeqAt.canLay_of_shaped se) (SeqAt.canLay_of_shaped sd) (room_in_shaped sd hu2) ⟨.bl _, H, I, rfl, q⟩
theorem opnind (hu2 : X.A.units + 65 < cLine) : OpR X (compareOp .NotIn) (zNinD X.K) := by
  intro pins s σ H x y v u Q I rx ry h
  obtain ⟨d, ds, hd, sd, he, q⟩ := h.out
  obtain ⟨as, r1⟩ := Dp.reads I d x v hd rx
  rcases he with ⟨he, se⟩ | ⟨he, se⟩
  · obtain ⟨bs, r2⟩ := Dp.reads I (.list ds) y u he ry
    exact SeqAt.notIn_list_reads r2 r1 (SeqAt.canLay_of_shaped se) (SeqAt.canLay_of_shaped sd) (room_in_shaped sd hu2) ⟨.bl _, H, I, rfl, q⟩
  · obtain ⟨bs, r2⟩ := Dp.reads I (.tuple ds) y u he ry
    exact SeqAt.notIn_tuple_reads r2 r1 (SeqAt.canLay_of_shaped se) (SeqAt.canLay_of_shaped sd) (room_in_shaped sd hu2) ⟨.bl _, H, I, rfl, q⟩
end
theorem _root_.L2.Room.units65 {k : Nat} {A : Around} (r : Room k A) : A.units + 65 < cLine := by
  have := r.un
  omega
end Ta

set_option Elab.async false
set_option linter.all false
set_option maxRecDepth 100000
set_option maxHeartbeats 2000000
namespace Ta
open PySem PySem.Spec PyProof.Rows L2
open Builtin.SmallTypes (nextOf)

/-! ### enumerate of an iterator of any kind; of a text -/
section
variable {prog : Program} {w : World} {A : Around} {E : Value → Shared → Prop} {s : Shared} {e it : Addr} {f1 : List Addr} {n : Nat} {S1 : Nat → Heap → Prop} {Y1 : Nat → Value → Prop} {i : Nat} {old : Value}
theorem en_item {Q : Value → Shared → Prop} (N : Nxt prog w it f1 n S1 Y1) (pe : IsEnum s.heap e it i old) (st : S1 i s.heap) (hi : i < n) (ne : e ≠ it) (nf : ∀ b ∈ f1, b ≠ e)
    (hQ : ∀ u h2 t1 t2, Y1 i u → IsEnumOut h2 e it ((i : Int) + 1) u s.heap.objs.size → S1 (i + 1) h2 → h2.get? s.heap.objs.size = some { cls := .type "tuple", data := .seq #[.int i t1, u] } → h2.objs.size = s.heap.objs.size + 1 →
      (∀ b o, b ≠ e → b ≠ it → s.heap.get? b = some o → h2.get? b = some o) → Q (.ref s.heap.objs.size) { s with heap := h2, toks := t2 }) :
    wpAny (model prog w) A (Builtin.«enumerate.__next__» ⟨[.ref e], []⟩) (fun fin s2 => ∃ v, fin = .done (.ret v) ∧ Q v s2) E s := by
  show wpAny _ _ (field (.ref e) 2 >>= _) _ _ _
  refine wpAny_bind (wpAny_field pe rfl (x := .ref it) rfl (wpAny_bind (N.nitem _ _ _ _ _ hi st fun u g1 t1 y1 a1 s1 => ?_)))
  have p1 : IsEnum g1 e it i old := (s1.2 e ne).trans pe
  show wpAny _ _ (field (.ref e) 3 >>= _) _ _ _
  refine wpAny_bind (wpAny_field p1 rfl (x := rawInt i) rfl ?_)
  show wpAny _ _ (field (.ref e) 4 >>= _) _ _ _
  refine wpAny_bind (wpAny_field p1 rfl (x := .none) rfl ?_)
  show wpAny _ _ (mkInt i >>= _) _ _ _
  refine wpAny_bind (wpAny_mkInt ?_)
  show wpAny _ _ (setField (.ref e) 3 (rawInt ((i : Int) + 1)) >>= _) _ _ _
  refine wpAny_bind (wpAny_setField_rec p1 (by simp) fun g2 p2 s2 => ?_)
  replace p2 : IsEnum g2 e it ((i : Int) + 1) old := p2
  show wpAny _ _ (setField (.ref e) 4 .none >>= _) _ _ _
  refine wpAny_bind (wpAny_setField_rec p2 (by simp) fun g3 p3 s3 => ?_)
  replace p3 : IsEnum g3 e it ((i : Int) + 1) old := p3
  show wpAny _ _ (newTuple [.int i t1, u] >>= _) _ _ _
  refine wpAny_bind (wpAny_newTuple ?_)
  have p4 : IsEnum (g3.push { cls := .type "tuple", data := .seq #[.int i t1, u] }) e it ((i : Int) + 1) old := Heap.get?_push_of_some _ p3
  have sz : g3.objs.size = s.heap.objs.size := by rw [s3.1, s2.1, s1.1]
  have el : e < s.heap.objs.size := Heap.lt_size pe
  have t4 : (g3.push { cls := .type "tuple", data := .seq #[.int i t1, u] }).get? s.heap.objs.size = some { cls := .type "tuple", data := .seq #[.int i t1, u] } := by rw [← sz]; exact Heap.get?_push_size _ rfl
  have k4 : ∀ b o, b ≠ e → b ≠ it → s.heap.get? b = some o → (g3.push { cls := .type "tuple", data := .seq #[.int i t1, u] }).get? b = some o := fun b o c1 c2 q =>
    Heap.get?_push_of_some _ (s3.extBut b o c1 (s2.extBut b o c1 (s1.extBut b o c2 q)))
  have a4 : S1 (i + 1) (g3.push { cls := .type "tuple", data := .seq #[.int i t1, u] }) := N.nkeep _ _ _ a1 fun c hc o q => by
    have c1 : c ≠ e := by
      rcases List.mem_cons.mp hc with rfl | hc
      · exact ne.symm
      · exact nf c hc
    exact Heap.get?_push_of_some _ (s3.extBut c o c1 (s2.extBut c o c1 q))
  have z4 : (g3.push { cls := .type "tuple", data := .seq #[.int i t1, u] }).objs.size = s.heap.objs.size + 1 := by rw [Heap.size_push, sz]
  show wpAny _ _ (Builtin.SmallTypes.ownedTupleIsFree (.ref e) >>= _) _ _ _
  rw [sz]
  generalize g3.push { cls := .type "tuple", data := .seq #[.int i t1, u] } = g4 at p4 t4 k4 a4 z4
  refine wpAny_bind ?_; unfold Builtin.SmallTypes.ownedTupleIsFree
  refine wpAny_bind (wpAny_field p4 rfl (x := .none) rfl (wpAny_pure ?_))
  simp only [if_true]
  refine wpAny_bind (wpAny_rule (wpAny_bind (wpAny_field p4 rfl (x := old) rfl (wpAny_bind (wpAny_setField_rec p4 (by simp) fun g5 p5 s5 => ?_)))))
  replace p5 : IsEnum g5 e it ((i : Int) + 1) u := p5
  show wpAny _ _ (Builtin.SmallTypes.ownedTupleHandOut (.ref e) (.ref s.heap.objs.size) >>= _) _ _ _
  refine wpAny_bind ?_; unfold Builtin.SmallTypes.ownedTupleHandOut
  refine wpAny_bind (wpAny_setField_rec p5 (by simp) fun g6 p6 s6 => ?_)
  replace p6 : IsEnumOut g6 e it ((i : Int) + 1) u s.heap.objs.size := p6
  refine wpAny_setField_rec p6 (by simp) fun g7 p7 s7 => ?_
  replace p7 : IsEnumOut g7 e it ((i : Int) + 1) u s.heap.objs.size := p7
  have up : ∀ b o, b ≠ e → g4.get? b = some o → g7.get? b = some o := fun b o c1 q => s7.extBut b o c1 (s6.extBut b o c1 (s5.extBut b o c1 q))
  refine wpAny_bind (wpAny_letGo (wpAny_pure ⟨_, rfl, hQ u g7 t1 _ y1 p7 ?_ (up _ _ (Nat.ne_of_gt el) t4) (by rw [s7.1, s6.1, s5.1, z4]) fun b o c1 c2 q => up b o c1 (k4 b o c1 c2 q)⟩))
  exact N.nkeep _ _ _ a4 fun c hc o q => up c o (by
    rcases List.mem_cons.mp hc with rfl | hc
    · exact ne.symm
    · exact nf c hc) q
theorem pyNext_en_item {Q : Option Value → Shared → Prop} (N : Nxt prog w it f1 n S1 Y1) (pe : IsEnum s.heap e it i old) (st : S1 i s.heap) (hi : i < n) (ne : e ≠ it) (nf : ∀ b ∈ f1, b ≠ e)
    (hQ : ∀ u h2 t1 t2, Y1 i u → IsEnumOut h2 e it ((i : Int) + 1) u s.heap.objs.size → S1 (i + 1) h2 → h2.get? s.heap.objs.size = some { cls := .type "tuple", data := .seq #[.int i t1, u] } → h2.objs.size = s.heap.objs.size + 1 →
      (∀ b o, b ≠ e → b ≠ it → s.heap.get? b = some o → h2.get? b = some o) → Q (some (.ref s.heap.objs.size)) { s with heap := h2, toks := t2 }) :
    wpAny (model prog w) A (pyNext (.ref e)) Q E s := by
  have te : s.TypeIs (.ref e) "enumerate" := ⟨_, pe, rfl⟩
  unfold pyNext
  exact wpAny_bind (wpAny_attempt (wpAny_callSpecial?_slot (name := Str.ofString "__next__") te F.slot_enumerate_next (wpAny_call_entry F.slot_enumerate_next te F.entry_enumerate_next
    (en_item N pe st hi ne nf fun u h2 t1 t2 b1 b2 b3 b4 b5 b6 => wpAny_pure (hQ u h2 t1 t2 b1 b2 b3 b4 b5 b6)) (F.args_enumerate_next_1 _))))
theorem pyNext_en_end {Q : Option Value → Shared → Prop} (hh : A.handled = none) (N : Nxt prog w it f1 n S1 Y1) (pe : IsEnum s.heap e it n old) (st : S1 n s.heap)
    (hQ : ∀ h2, Heap.ExtBut it s.heap h2 → Q none { s with heap := h2 }) : wpAny (model prog w) A (pyNext (.ref e)) Q E s := by
  have te : s.TypeIs (.ref e) "enumerate" := ⟨_, pe, rfl⟩
  unfold pyNext
  refine wpAny_bind (wpAny_attempt (wpAny_callSpecial?_slot (name := Str.ofString "__next__") te F.slot_enumerate_next (wpAny_call_entry F.slot_enumerate_next te F.entry_enumerate_next ?_ (F.args_enumerate_next_1 _))))
  show wpAny _ _ (field (.ref e) 2 >>= _) _ _ _
  refine wpAny_bind (wpAny_field pe rfl (x := .ref it) rfl (wpAny_bind (N.ndone _ _ _ _ hh st fun h2 x up ⟨o, ho, hc⟩ => ?_)))
  exact wpAny_bind (wpAny_isInstance (T := "StopIteration") (b := true) ⟨o, ho, hc⟩ isSubtype_stop (wpAny_pure (hQ _ up)))
end
/-- the signs of x, numbered, in new pairs -/
def Ites (x : Str) : It :=
  ⟨fun i _ => i < x.cps.size, fun i H v H' => ∃ T c, v = .ref T ∧ H T = none ∧ H' = upd H T (.tup [.int (i : Nat), .str ⟨#[c]⟩]) ∧ x.cps[i]? = some c, fun i _ => i = x.cps.size⟩
theorem turn_ens {P : Program} {w : World} {K : PySem.W.Frag} {elts : List Expr} {kk : Nat} {tpos : Pos} {x : Str} {t : Tok} (e it : Addr) :
    Turn P w K (.Tuple elts kk tpos) (Ites x) [e, it] e (fun i h => (∃ old, IsEnum h e it ((i : Nat) : Int) old) ∧ h.IsStrIter it "str_ascii_iterator" x t i ∧ e ≠ it) where
  mem := by simp
  obj := fun i h st b hb => by
    obtain ⟨⟨old, he⟩, ⟨o, ho, hc, hd⟩, _⟩ := st
    simp only [List.mem_cons, List.not_mem_nil, or_false] at hb
    rcases hb with rfl | rfl
    · exact ⟨_, he, fun v q => nomatch q⟩
    · exact ⟨o, ho, fun v q => by rw [hd] at q; cases q⟩
  keep := fun i h h2 st k => by
    obtain ⟨⟨old, he⟩, ⟨o, ho, r⟩, ne⟩ := st
    exact ⟨⟨old, k e (by simp) _ he⟩, ⟨o, k it (by simp) _ ho, r⟩, ne⟩
  item := by
    intro X hP hw hK hc i pins s σ H E I hf st hg
    subst hP hw hK
    obtain ⟨⟨old, he⟩, hit, ne⟩ := st
    have hi : i < x.cps.size := hg
    have ex : x.cps[i]? = some x.cps[i] := by simp [hi]
    have hel : e < s.heap.objs.size := Heap.lt_size he
    have hil : it < s.heap.objs.size := by obtain ⟨_, q, _⟩ := hit; exact Heap.lt_size q
    refine pyNext_en_item nx_ascii he hit hi ne (fun b hb => (nomatch hb)) fun u h2 t1 t2 y1 o2 b2 p2 sz up => ?_
    obtain ⟨c, t', ec, rfl⟩ := y1
    rw [ex] at ec
    cases ec
    refine ⟨_, rfl, wpAny_letOwnedTupleGo_enum (s := { s with heap := h2, toks := t2 }) o2 fun h3 e3 sb => ?_⟩
    have p3 : h3.get? s.heap.objs.size = some { cls := .type "tuple", data := .seq #[.int i t1, .str ⟨#[x.cps[i]]⟩ t'] } := (sb.2 _ (Nat.ne_of_gt hel)).trans p2
    have new : ObjOk X.prog X.w (upd H s.heap.objs.size (.tup [.int (i : Nat), .str ⟨#[x.cps[i]]⟩])) h3 s.heap.objs.size (.tup [.int (i : Nat), .str ⟨#[x.cps[i]]⟩]) :=
      ⟨by show 2 ≤ sizeLine; decide, [.int i t1, .str ⟨#[x.cps[i]]⟩ t'], .cons ⟨_, rfl⟩ (.cons ⟨_, rfl⟩ .nil), ⟨_, p3, rfl, _, rfl⟩⟩
    have J : Inv X pins σ (upd H s.heap.objs.size (.tup [.int (i : Nat), .str ⟨#[x.cps[i]]⟩])) { s with heap := h3, toks := t2 } :=
      I.turnedNew (t' := t2) (ch := [e, it]) (fun b ob hb q => by
        simp only [List.mem_cons, List.not_mem_nil, or_false, not_or] at hb
        exact (sb.2 b hb.1).trans (up b ob hb.1 hb.2 q)) hf (Nat.le_refl _) new
    refine ⟨.ref s.heap.objs.size, _, J, rfl, ⟨_, x.cps[i], rfl, I.hok.fresh (Nat.le_refl _), rfl, ex⟩, ⟨⟨.str ⟨#[x.cps[i]]⟩ t', ?_⟩, ?_, ne⟩, fun b hb => ?_⟩
    · have e1 : ((i + 1 : Nat) : Int) = (i : Int) + 1 := by omega
      rw [e1]; exact e3
    · obtain ⟨o, ho, r⟩ := b2
      exact ⟨o, (sb.2 it (Ne.symm ne)).trans ho, r⟩
    · have hlt : b < s.heap.objs.size := by
        simp only [List.mem_cons, List.not_mem_nil, or_false] at hb
        rcases hb with rfl | rfl
        · exact hel
        · exact hil
      rw [upd_ne (Nat.ne_of_lt hlt)]
      exact (hf b hb).1
  done := by
    intro X hP hw hK hc i pins s σ H E I hf st hg
    subst hP hw hK
    obtain ⟨⟨old, he⟩, hit, ne⟩ := st
    have hi : i = x.cps.size := hg
    subst hi
    obtain ⟨f0, g1, g2, g3, g4, g5⟩ := hf it (by simp)
    exact pyNext_en_end (I.ok.hd hc) nx_ascii he hit fun h2 up => ⟨rfl, I.turned (t' := s.toks) (fun b o hb q => up b o hb q) f0 g1 g3 g4 g5⟩
  self := fun A i s Q E st h => let ⟨⟨_, he⟩, _⟩ := st; wpAny_pyIter_enum he h
def itEs (l : List Nat) : Itm := fun i H v H' => ∃ T c, v = .ref T ∧ H T = none ∧ H' = upd H T (.tup [.int (i : Nat), .str (S [c])]) ∧ l[i]? = some c
def jEs (ta : TA) : TJ := fun σ H R => ta σ H fun vs H1 => one vs fun x => match x with
  | .str z => (tl z).all (· < 128) = true ∧ R (tl z).length (itEs (tl z)) (fun _ => True) H1
  | _ => False
theorem pjes {X : Cx} {e : Expr} {ta : TA} {p pos tpos : Pos} {elts : List Expr} {kk : Nat} (hm : X.mg "enumerate" = none) (ha : PA X [e] ta) (hg : Gl X "enumerate" := by rfl) (hst : starEach [e] X.env = [(false, eval e X.env)] := by rfl) :
    PJ X (.Tuple elts kk tpos) (.Call (.Name "enumerate" p) [e] [] pos) (jEs ta) := by
  refine ⟨fun pins s σ H R I h => ?_⟩
  refine Call_ (ld_blt I hg hm boot_enumerate (PyProof.Rows.callWith_type1 (thn (ha.run pos pins s σ H _ I h) fun us s1 ⟨vs, H1, J, rel, q1⟩ => ?_) hst rfl))
  obtain ⟨x, rfl, q⟩ := one_e q1
  cases x with
  | str z =>
    obtain ⟨q1, q2⟩ := q
    cases rel with
    | cons r rr =>
      cases rr
      obtain ⟨t, rfl⟩ := r
      have asc : z.cps.all (· < 128) = true := by rw [← Array.all_toList]; exact q1
      have ety : strIterType z = "str_ascii_iterator" := by unfold strIterType; rw [asc]; rfl
      have es : z.cps.size = (tl z).length := by simp [tl]
      refine call_enumerate_str fun h2 he hit hsz up => wpAny_pyIter_enum he ?_
      rw [ety] at hit
      have J2 : Inv X pins σ H1 { s1 with heap := h2 } := J.kept (t' := s1.toks) up
      refine ⟨s1.heap.objs.size + 1, [s1.heap.objs.size + 1, s1.heap.objs.size], _, _, H1, rfl, J2, turn_ens (t := t) (s1.heap.objs.size + 1) s1.heap.objs.size, ⟨⟨.none, he⟩, hit, Nat.succ_ne_self _⟩, fun b hb => ?_, q2 (Ites z) ⟨fun i H hi _ => by show i < z.cps.size; omega, fun i H v H' hi _ y => ?_, fun H _ => es.symm⟩⟩
      · have hle : s1.heap.objs.size ≤ b := by
          simp only [List.mem_cons, List.not_mem_nil, or_false] at hb
          rcases hb with rfl | rfl
          · exact Nat.le_add_right _ _
          · exact Nat.le_refl _
        exact J.fpOk hle (J.hok.fresh hle)
      · obtain ⟨T, c, h1, h2, h3, h4⟩ := y
        exact ⟨T, c, h1, h2, h3, by simpa [tl] using h4⟩
  | _ => exact q.elim
end Ta

set_option Elab.async false
set_option linter.all false
set_option maxRecDepth 100000
set_option maxHeartbeats 2000000
namespace Ta
open PySem PySem.Spec PyProof.Rows L2 He

/-! ### return super().m(..), x = super().m(..) -/
section
variable {X : Cx} {body : List Stmt} {e : Expr} {te : TE} {pos pos' : Pos}
theorem pas_ret (h : PAe X body e te) : PAs X body (.Return (some e) pos) (tRet te) := by
  refine ⟨fun pins s σ H D I q => PySem.ks_wpAt_Return_some (PySem.ks_wpAt_mono (h.run pins s σ H _ I q) (fun v s1 h1 => ?_) fun _ _ z => z)⟩
  obtain ⟨x, H1, I1, r1, q1⟩ := h1
  exact ⟨x, σ, H1, I1, r1, q1⟩
theorem pas_set {i : Nat} {x : Str} (hN : X.N.Nodup) (h : PAe X body e te) (hi : X.N[i]? = some x := by rfl) (hx : Loc X.env.scope x := by first | exact Or.inl rfl | exact Or.inr rfl) (hs : swapsWith e (some (.Name x pos')) pos.line X.env = pure false := by rfl)
    (hf : X.fn x = true ∨ X.env.scope.names.lookup x = some .local := by first | exact .inl rfl | exact .inr rfl) : PAs X body (.Assign [.Name x pos'] e pos) (tAsg te (gName i)) := by
  refine ⟨fun pins s σ H D I q => PySem.ks_wpAt_Assign_Name (PySem.ks_wpAt_mono (h.run pins s σ H _ I q) (fun v s1 h1 => ?_) fun _ _ z => z) hs⟩
  obtain ⟨y, H1, I1, r1, q1⟩ := h1
  exact store_ok I1 hN hi hx r1 (fun s2 I2 => ⟨_, H1, I2, q1⟩) hf
end
/-! ### upper -/
def zUpper : V → List V → Hp → VK → Prop := fun x xs H Q => match x with
  | .str a => xs = [] ∧ (tl a).length ≤ 5592405 ∧ Q (.str (Txt.upper a)) H
  | _ => False
theorem mtupper {X : Cx} : MtR X "str.upper" zUpper := mt_imp mt_upper fun x xs H Q h => by
  cases x with
  | str a => exact ⟨a, rfl, h.1, by rw [len_tl]; exact h.2.1, h.2.2⟩
  | _ => exact h.elim
end Ta

set_option Elab.async false
set_option linter.all false
set_option maxRecDepth 100000
set_option maxHeartbeats 2000000
namespace Ta
open PySem PySem.Spec PyProof.Rows L2 He

/-! ### s.m() of a text -/
def tSM0 (r : V → List V → Hp → VK → Prop) (to : TE) : TE := fun σ H Q => to σ H fun x H1 => match x with
  | .str a => r (.str a) [] H1 Q
  | _ => False
theorem psm0 {X : Cx} {o : Expr} {to : TE} {id : String} {name : Str} {apos pos : Pos} {r : V → List V → Hp → VK → Prop} (slot : Slot "str" name id) (ty : typeOf (.builtin id) = pure (.type "method_descriptor")) (rule : MtR X id r) (ho : PE X o to)
    (hbase : attributeBase o name X.env (eval o X.env) = eval o X.env := by rfl) (hline : (apos.endLine == pos.line) = true := by rfl) : PE X (.Call (.Attribute o name apos) [] [] pos) (tSM0 r to) :=
  pe_imp (pe_m0 (to := upE to) slot ty rule (pe_up ho) hbase hline) fun σ H Q h => ⟨_, h, fun x H1 h => by
    cases x with
    | str a => exact ⟨⟨a, rfl⟩, h⟩
    | _ => exact h.elim⟩

/-! ### inherited methods and properties -/
def bSame (x y m : Str) : BF := fun K => decide (ma K (ga K x) m = ma K (ga K y) m)
theorem same_me {K : PySem.W.Frag} {C : Addr} {x y m : Str} (h : Meth K C m (ma K (ga K x) m)) (e : bSame x y m K = true) : Meth K C m (ma K (ga K y) m) := by
  rw [← of_decide_eq_true e]; exact h
def bSameP (x y m : Str) : BF := fun K => decide (prA K (ga K x) m = prA K (ga K y) m)
theorem same_pr {K : PySem.W.Frag} {C p : Addr} {x y m : Str} (h : PropOf K C m p (prA K (ga K x) m)) (e : bSameP x y m K = true) : PropOf K C m p (prA K (ga K y) m) := by
  rw [← of_decide_eq_true e]; exact h
def tPrpM (ms : MS) (ta : TE) : TE := fun σ H Q => ta σ H fun x H1 => match x with
  | .ref a => look H1 a fun ob => (match ob with
    | some (.ins C dx fs) => pick ms C fun _ sp => sp [.ref a] H1 Q fun _ _ _ => False
    | _ => False)
  | _ => False
theorem pprpM {X : Cx} {e : Expr} {ta : TE} {f : Str} {lv : Nat} {ms : MS} {pos : Pos} (F : ∀ z ∈ ms, Pr X.prog X.w X.K X.mg X.base z.1 f lv z.2.2) (hr : Room (lv + 1) X.A) (he : PE X e ta) (hab : attributeBase e f X.env (eval e X.env) = eval e X.env := by rfl) : PE X (.Attribute e f pos) (tPrpM ms ta) := by
  refine ⟨fun pins s σ H Q I h => attr_of hab (thn (he.run pins s σ H _ I h) fun u s1 ⟨x, H1, I1, rx, q⟩ => ?_)⟩
  cases x with
  | ref a =>
    have q1 := look_e q
    clear q
    cases ea : H1 a with
    | none => rw [ea] at q1; exact q1.elim
    | some ob =>
      rw [ea] at q1
      cases ob with
      | ins C' dx fs =>
        obtain ⟨y, hy, e2, q2⟩ := q1.out
        have e2 : y.1 = C' := e2
        subst e2
        obtain ⟨⟨p, g, fd, ps, hp, F1, hb⟩, cl⟩ := F y hy
        obtain rfl : u = Value.ref a := rx
        exact getprop_ok (E := fun _ _ _ => False) I1 ea cl hp F1 hr hb .nil (fun _ _ _ _ _ _ _ z => False.elim (let ⟨_, _, _, _, _, _, _, _, _, _, _, _, z⟩ := z; z)) q2
      | _ => exact q1.elim
  | _ => exact q.elim
/-! ### what super().m is -/
/-- of an object of class x, said in class d, it is the m of class t -/
def bSu (x d m t : Str) : BF := fun K => eqO (PySem.W.ks_superIn K (ga K x) (ga K d) m) (some (some (.ref (ma K (ga K t) m)))) && (decide (PySem.W.typeIn K (.ref (ma K (ga K t) m)) = some (.type "function")) &&
  (PySem.W.fnIn K (ma K (ga K t) m) && (decide (PySem.W.mroIn K (ga K x) (.ref (ga K d)) = some true) && eqO (PySem.W.nsIn K cStatics "thirdparty.any") (some none))))
theorem su_of {P : Program} {w : World} {K : PySem.W.Frag} {mg : Str → Option Value} {base : Heap} {x d m t : Str} {lv : Nat} {dvs : List V} {sp : Sp} {fd : FuncData} {ps : List Str} {ds : List Value} (c : bSu x d m t K = true)
    (O : FnOk P w K mg base (L2M.CX K P w) lv (ma K (ga K t) m) fd ps sp) (v : Vals dvs ds) (b : Binds K fd ps ds) : Su P w K mg base (ga K d) (ga K x) m lv dvs sp := by
  obtain ⟨c1, c⟩ := He.ba c
  obtain ⟨c2, c⟩ := He.ba c
  obtain ⟨c3, c⟩ := He.ba c
  obtain ⟨c4, c5⟩ := He.ba c
  exact ⟨⟨_, fd, ps, ds, O, eqO_ok c1, of_decide_eq_true c2, c3, v, b⟩, of_decide_eq_true c4, eqO_ok c5⟩
end Ta

set_option Elab.async false
set_option linter.all false
set_option maxRecDepth 100000
set_option maxHeartbeats 2000000
namespace Ta
open PySem PySem.Spec PyProof.Rows L2 He

/-! ### promises of several classes at one level -/
section
variable {P : Program} {w : World} {K : PySem.W.Frag} {mg : Str → Option Value} {base : Heap} {C : Addr} {m x y : Str} {j k : Nat} {dvs : List V} {sp : Sp}
theorem me_up (M : Me P w K mg base C m j dvs sp) (h : j ≤ k) : Me P w K mg base C m k dvs sp := by
  obtain ⟨⟨f, fd, ps, ds, F, r⟩, c⟩ := M
  exact ⟨⟨f, fd, ps, ds, F.mono h, r⟩, c⟩
theorem pr_up (M : Pr P w K mg base C m j sp) (h : j ≤ k) : Pr P w K mg base C m k sp := by
  obtain ⟨⟨p, g, fd, ps, h1, F, b⟩, c⟩ := M
  exact ⟨⟨p, g, fd, ps, h1, F.mono h, b⟩, c⟩
theorem same_mk (h : Mk K C (ma K (ga K x) "__init__")) (e : bSame x y "__init__" K = true) : Mk K C (ma K (ga K y) "__init__") := by
  rw [← of_decide_eq_true e]; exact h
end
/-! ### tuple(x) of a list or a tuple -/
def zTuple (K : PySem.W.Frag) : List V → Hp → VK → Prop := fun xs H Q => one xs fun x => match x with
  | .ref p => look H p fun o => (match o with
    | some (.lst ys) => ∀ l, H l = none → Q (.ref l) (upd H l (.tup ys))
    | some (.tup ys) => Q (.ref p) H
    | _ => False)
  | _ => False
theorem crtuple {X : Cx} : CallR X (.type "tuple") (zTuple X.K) := by
  intro pins s σ H xs us Q I r q
  obtain ⟨x, rfl, q1⟩ := one_e q
  cases x with
  | ref p =>
    obtain ⟨u, eu, rx⟩ := vals1 r
    subst eu
    refine rl_tuple pins s σ H (.ref p) u Q I rx ?_
    have q1 := look_e q1
    cases e : H p with
    | none => rw [e] at q1; exact q1.elim
    | some o =>
      rw [e] at q1
      cases o with
      | lst ys => exact .inl ⟨p, ys, rfl, SqL.of e, q1⟩
      | tup ys => exact .inr ⟨p, ys, rfl, SqT.of e, q1⟩
      | _ => exact q1.elim
  | _ => exact False.elim q1
/-! ### comprehensions of two clauses, without any word on monotony -/
/-- the second source's walk -/
structure inn (J1 : It) (H4 : Hp) (N : Hp → Prop) (D : Addr) (g1 : TG) (tt1 : TT) (te : TE) (vs1 : List Nat) (σ2 : St) : Prop where
  out : ∃ W1 : Nat → Nat → Hp → Prop, (∃ m, W1 0 m H4) ∧ ∀ j k H, W1 j k H →
      (J1.stop j H ∧ N H) ∨ (J1.go j H ∧ ∃ Nx1 : Hp → Prop, (∀ H', Nx1 H' → ∃ k', k' < k ∧ W1 (j + 1) k' H') ∧ ∀ x H', J1.yld j H x H' → g1 x (wipe σ2 vs1) H' fun σ3 H5 => wipe σ3 vs1 = wipe σ2 vs1 ∧ tt1 σ3 H5 fun b H6 =>
        if b = true then te σ3 H6 fun y H7 => ∃ acc, H7 D = some (.lst acc) ∧ acc.length < sizeLine ∧ Nx1 (upd H7 D (.lst (acc ++ [y]))) else Nx1 H6)
theorem inn_eq {J1 : It} {H4 : Hp} {N : Hp → Prop} {D : Addr} {g1 : TG} {tt1 : TT} {te : TE} {vs1 : List Nat} {σ2 : St} : inn J1 H4 N D g1 tt1 te vs1 σ2 = (∃ W1 : Nat → Nat → Hp → Prop, (∃ m, W1 0 m H4) ∧ ∀ j k H, W1 j k H →
      (J1.stop j H ∧ N H) ∨ (J1.go j H ∧ ∃ Nx1 : Hp → Prop, (∀ H', Nx1 H' → ∃ k', k' < k ∧ W1 (j + 1) k' H') ∧ ∀ x H', J1.yld j H x H' → g1 x (wipe σ2 vs1) H' fun σ3 H5 => wipe σ3 vs1 = wipe σ2 vs1 ∧ tt1 σ3 H5 fun b H6 =>
        if b = true then te σ3 H6 fun y H7 => ∃ acc, H7 D = some (.lst acc) ∧ acc.length < sizeLine ∧ Nx1 (upd H7 D (.lst (acc ++ [y]))) else Nx1 H6)) := propext ⟨fun h => h.out, fun h => ⟨h⟩⟩
theorem lc2_j {n : Nat} {it : Itm} {st : Hp → Prop} {g : TG} {tt : TT} {wi1 : TJ} {g1 : TG} {tt1 : TT} {te : TE} {vs vs1 : List Nat} {σ : St} {H1 : Hp} {Q : VK} (Pv : Addr → Nat → Hp → Prop) (h0 : ∀ D, H1 D = none → Pv D 0 (upd H1 D (.lst []))) (hst : ∀ D i H, H1 D = none → i ≤ n → Pv D i H → st H)
    (hs : ∀ D i x H H', H1 D = none → i < n → Pv D i H → it i H x H' → g x (wipe σ vs) H' fun σ2 H2 => wipe σ2 vs = wipe σ vs ∧ tt σ2 H2 fun b H3 =>
      if b = true then toI wi1 σ2 H3 fun J1 H4 => inn J1 H4 (Pv D (i + 1)) D g1 tt1 te vs1 σ2 else Pv D (i + 1) H3)
    (hd : ∀ D H, H1 D = none → Pv D n H → Q (.ref D) H) : lc2 n it st g tt wi1 g1 tt1 te vs vs1 σ H1 Q := by
  refine ⟨?_⟩
  intro J A D hD
  refine ⟨fun i m H => m = n - i ∧ i ≤ n ∧ Pv D i H, ⟨n, by simp, Nat.zero_le _, h0 D hD⟩, ?_⟩
  rintro i m H ⟨rfl, hi, p⟩
  have q := hst D i H hD hi p
  by_cases hlt : i < n
  · refine .inr ⟨A.go i H hlt q, Pv D (i + 1), fun H' p' => ⟨n - (i + 1), by omega, rfl, hlt, p'⟩, fun x H' y => ?_⟩
    have z := hs D i x H H' hD hlt p (A.yl i H x H' hlt q y)
    simp only [inn_eq] at z
    exact z
  · have e : i = n := by omega
    subst e
    exact .inl ⟨A.sp H q, hd D H hD p⟩
theorem inn_i {J1 : It} {n1 : Nat} {it1 : Itm} {st1 : Hp → Prop} {H4 : Hp} {N : Hp → Prop} {D : Addr} {g1 : TG} {tt1 : TT} {te : TE} {vs1 : List Nat} {σ2 : St} (A : Adm J1 n1 it1 st1) (Pw : Nat → Hp → Prop) (w0 : Pw 0 H4) (wst : ∀ j H, j ≤ n1 → Pw j H → st1 H) (wd : ∀ H, Pw n1 H → N H)
    (ws : ∀ j x H H', j < n1 → Pw j H → it1 j H x H' → g1 x (wipe σ2 vs1) H' fun σ3 H5 => wipe σ3 vs1 = wipe σ2 vs1 ∧ tt1 σ3 H5 fun b H6 => if b = true then te σ3 H6 fun y H7 => ∃ acc, H7 D = some (.lst acc) ∧ acc.length < sizeLine ∧ Pw (j + 1) (upd H7 D (.lst (acc ++ [y]))) else Pw (j + 1) H6) : inn J1 H4 N D g1 tt1 te vs1 σ2 := by
  refine ⟨fun j k H => k = n1 - j ∧ j ≤ n1 ∧ Pw j H, ⟨n1, by simp, Nat.zero_le _, w0⟩, ?_⟩
  rintro j k H ⟨rfl, hj, pw⟩
  have q1 := wst j H hj pw
  by_cases hlt1 : j < n1
  · exact .inr ⟨A.go j H hlt1 q1, Pw (j + 1), fun H' p' => ⟨n1 - (j + 1), by omega, rfl, hlt1, p'⟩, fun x H' y => ws j x H H' hlt1 pw (A.yl j H x H' hlt1 q1 y)⟩
  · have e1 : j = n1 := by omega
    subst e1
    exact .inl ⟨A.sp H q1, wd H pw⟩
/-! ### targets that are tuples -/
theorem gtup2 {K : PySem.W.Frag} {T : Addr} {u v : V} {i j : Nat} {σ : St} {H : Hp} {Q : St → Hp → Prop} (h : H T = some (.tup [u, v])) (q : Q ((σ.set i (some u)).set j (some v)) H) : gTup K 2 (gCons (gName i) (gCons (gName j) gNil)) (.ref T) σ H Q :=
  ⟨T, _, rfl, SqT.of h, rfl, u, [v], rfl, v, [], rfl, rfl, q⟩
theorem gtup3 {K : PySem.W.Frag} {T : Addr} {u v w : V} {i j k : Nat} {σ : St} {H : Hp} {Q : St → Hp → Prop} (h : H T = some (.tup [u, v, w])) (q : Q (((σ.set i (some u)).set j (some v)).set k (some w)) H) : gTup K 3 (gCons (gName i) (gCons (gName j) (gCons (gName k) gNil))) (.ref T) σ H Q :=
  ⟨T, _, rfl, SqT.of h, rfl, u, [v, w], rfl, v, [w], rfl, w, [], rfl, rfl, q⟩
/-- i, (a, b) -/
theorem gtup12 {K : PySem.W.Frag} {T T2 : Addr} {u v w : V} {i j k : Nat} {σ : St} {H : Hp} {Q : St → Hp → Prop} (h : H T = some (.tup [u, .ref T2])) (h2 : H T2 = some (.tup [v, w])) (q : Q (((σ.set i (some u)).set j (some v)).set k (some w)) H) : gTup K 2 (gCons (gName i) (gCons (gTup K 2 (gCons (gName j) (gCons (gName k) gNil))) gNil)) (.ref T) σ H Q :=
  ⟨T, _, rfl, SqT.of h, rfl, u, [.ref T2], rfl, .ref T2, [], rfl, gtup2 h2 ⟨rfl, q⟩⟩
end Ta

set_option Elab.async false
set_option linter.all false
set_option maxRecDepth 100000
set_option maxHeartbeats 2000000
namespace Ta
open PySem PySem.Spec PyProof.Rows L2 He

/-! ### a[n:hi].replace(c, '') with written texts -/
structure PE1 (X : Cx) (e : Expr) (t : TE) : Prop where
  run : ∀ (pins : List (Addr × Obj)) (s : Shared) (σ : St) (H : Hp) (Q : VK), Inv X pins σ H s → t σ H Q → wpAny (model X.prog X.w) X.A (eval e X.env) (fun u s' => EP X pins σ Q u s' ∧ 1 ≤ s'.toks) X.xe s
section
variable {X : Cx} {a : Expr} {ta : TE} {t2 : TO} {hi : Option Expr} {p0 p2 pos : Pos} {j : Nat} {n : Int}
theorem psl1 (ha : PE X a ta) (hh : PO X hi t2) : PE1 X (.Subscript a (.Slice (some (.Constant (.int n) j p0)) hi none p2) pos) (tSl (zSlP X.K) ta (tPrt (tC (.int n))) t2) := by
  refine ⟨fun pins s σ H Q I h => ?_⟩
  refine Subscript_ (thn (ha.run pins s σ H _ I h) fun v s1 ⟨x, H1, I1, r1, q1⟩ => ?_)
  have q1 : t2 σ H1 fun u H3 => zSlP X.K x (some n) u H3 Q := q1
  refine wpAny_Slice ?_
  rw [evalPart_some]
  refine wpAny_Constant_int ?_
  have I2 : Inv X pins σ H1 { s1 with toks := s1.toks + 1 } := I1.tok _
  refine wpAny_mono (wpAny_toks_of (n := 1) (Nat.succ_le_succ (Nat.zero_le _)) (hh.run pins _ σ H1 _ I2 q1)) (fun vu s3 ⟨hk, u, H3, I3, pu, q3⟩ => ?_) fun _ _ z => z.2
  rw [evalPart_none]
  refine wpAny_pure ?_
  have I4 : Inv X pins σ H3 { s3 with heap := s3.heap.push { cls := .type "slice", data := .fields #[.int n s1.toks, vu, .none] } } := I3.kept (t' := s3.toks) fun b ob q => Heap.get?_push_of_some _ q
  obtain ⟨T, id, hT, ht, hg⟩ := slp pins { s3 with heap := s3.heap.push { cls := .type "slice", data := .fields #[.int n s1.toks, vu, .none] } } σ H3 x v (.int n s1.toks) vu (some n) u s3.heap.objs.size Q I4 r1 (Heap.IsSliceOf.new ..) (.int n _) pu q3
  exact wpAny_mono (wpAny_toks_of (n := 1) hk (tail_any (ops := [.ref s3.heap.objs.size, v]) ht hT hg (by with_unfolding_all rfl))) (fun u s' z => ⟨z.2, z.1⟩) fun _ _ z => z.2
end
def tRpK (c : Nat) (t : TE) : TE := fun σ H Q => t σ H fun x H1 => match x with
  | .str z => (tl z).length ≤ 1000000 ∧ Q (.str (S (rpE c (tl z)))) H1
  | _ => False
theorem prepK {X : Cx} {e : Expr} {t : TE} {c j1 j2 : Nat} {x1 : Str} {p1 p3 apos pos : Pos} (he : PE1 X e t) (hx : x1 = S [c] := by decide +kernel)
    (hst : starEach [.Constant (.str x1) j1 p1, .Constant (.str (S [])) j2 p3] X.env = [(false, eval (.Constant (.str x1) j1 p1) X.env), (false, eval (.Constant (.str (S [])) j2 p3) X.env)] := by rfl)
    (hbase : attributeBase e "replace" X.env (eval e X.env) = eval e X.env := by rfl) (hline : (apos.endLine == pos.line) = true := by rfl) :
    PE X (.Call (.Attribute e "replace" apos) [.Constant (.str x1) j1 p1, .Constant (.str (S [])) j2 p3] [] pos) (tRpK c t) := by
  subst hx
  refine ⟨fun pins s σ H Q I h => ?_⟩
  refine PySem.Call_method2 hbase hst hline (thn (he.run pins s σ H _ I h) fun v s1 ⟨⟨x, H1, I1, r1, q1⟩, h1⟩ => ?_)
  cases x with
  | str z =>
    obtain ⟨hb, q⟩ := q1
    obtain ⟨tx, rfl⟩ := r1
    refine ⟨"str", _, F.plainAttrs_str, F.slot_str_replace, F.type_str_replace, typeIs_str _ _ _, (fun _ e => nomatch e), Calls.callWith_builtin rfl (Calls.evalArgs_plain (Calls.spliced_cons ?_))⟩
    refine Calls.Constant_str (Calls.spliced_cons (Calls.Constant_str (Calls.spliced_nil ?_)))
    refine PySem.SC.replace (show s1.toks ≠ (0 : Nat) from by omega) (show s1.toks + 1 ≠ (0 : Nat) from by omega) (show s1.toks ≠ s1.toks + 1 from by omega) (by simp only [beq_eq_false_iff_ne]; exact fun z => absurd (congrArg (fun y : Str => (tl y).length) z) (show ¬ (1 = 0) by decide)) (by
      have : (S []).length = 0 := by rw [len_tl]; rfl
      rw [this, len_tl]; omega) fun t' k => ⟨.str (S (rpE c (tl z))), H1, I1.tok k, ⟨t', by rw [repl_SE]⟩, q⟩
  | _ => exact False.elim q1
/-! ### bool(x): any truth, own __bool__ -/
section
variable {prog : Program} {w : World} {A : Around} {E : Value → Shared → Prop} {s : Shared}
theorem bool_meets (v : Value) : MeetsIn prog w (Builtin.«bool.__new__» ⟨[.type "bool", v], []⟩) (fun A R s => wpAny (model prog w) A.in1 (truthy v) (fun k s' => R (.ok (.ret (.bool k))) s') (fun e s' => R (.error e) s') s) := by
  intro A R s h
  unfold Builtin.«bool.__new__»
  refine wpAny_bind (m := isType (.type "bool")) (wpAny_pure ?_)
  refine wpAny_bind (wpAny_of_eq F.conv_sub_bool ?_)
  refine wpAny_bind (m := someArgs "bool" 0 1 _) (wpAny_pure ?_)
  exact wpAny_bind (wpAny_mono h (fun k s' q => wpAny_pure q) fun _ _ q => q)
theorem call_boolG {v : Value} {Q : Value → Shared → Prop} (h : wpAny (model prog w) A.in1.in1 (truthy v) (fun k s' => Q (.bool k) s') E s) : wpAny (model prog w) A (call (.type "bool") [v]) Q E s :=
  callType_newIn F.called_bool F.newNe_bool (F.typeCall_bool_1 v) (F.newCall_bool_1 v) (fun obj => F.args_object_init_2 obj v) F.entry_bool_new (bool_meets v) (wpAny_mono h (fun k s' q => ⟨rfl, q⟩) fun _ _ q => q)
end
def zBoolX (K : PySem.W.Frag) : List V → Hp → VK → Prop := fun xs H Q => one xs fun x => match x with
  | .int i => Q (.bl (!decide (i = 0))) H
  | .bl k => Q (.bl k) H
  | .ref p => look H p fun o => (match o with
    | some (.lst xs) => Q (.bl (!xs.isEmpty)) H
    | some (.tup xs) => Q (.bl (!xs.isEmpty)) H
    | _ => False)
  | _ => False
theorem crboolX {X : Cx} : CallR X (.type "bool") (zBoolX X.K) := fun pins s σ H xs us Q I r h => by
  obtain ⟨x, rfl, h⟩ := one_e h
  cases x with
  | int i => exact call_bool1 pins s σ H _ us Q I r (.inl ⟨i, rfl, by
      have e : (i != 0) = !decide (i = 0) := by simp only [bne]; congr 1
      rw [e]; exact h⟩)
  | bl k => exact call_bool1 pins s σ H _ us Q I r (.inr ⟨k, rfl, h⟩)
  | ref p =>
    obtain ⟨u, rfl, rx⟩ := vals1 r
    cases rx
    have hl := line63
    have h := look_e h
    cases e : H p with
    | none => rw [e] at h; exact h.elim
    | some o =>
      rw [e] at h
      cases o with
      | lst ys =>
        obtain ⟨its, r, pl, hz⟩ := I.list (SqL.of e)
        have hlen := r.length
        exact call_boolG (wpAny_truthy_list pl.isList (by simp only [List.size_toArray]; omega) ⟨.bl _, H, I.tok _, rfl, by rw [isEmpty_of r]; exact h⟩)
      | tup ys =>
        obtain ⟨its, r, pl, hz⟩ := I.tuple (SqT.of e)
        have hlen := r.length
        exact call_boolG (truthy_tuple pl (by simp only [List.size_toArray]; omega) ⟨.bl _, H, I.tok _, rfl, by rw [isEmpty_of r]; exact h⟩)
      | _ => exact h.elim
  | _ => exact h.elim
def zBoolO (C : Addr) (sp : Sp) : List V → Hp → VK → Prop := fun xs H Q => one xs fun x => isIns C x H fun a => sp [.ref a] H (fun v H' => boV v fun k => Q (.bl k) H') fun _ _ _ => False
theorem crboolO {X : Cx} {C : Addr} {lv : Nat} {sp : Sp} (M : Me X.prog X.w X.K X.mg X.base C "__bool__" lv [] sp) (hr : Room (lv + 2) X.A) : CallR X (.type "bool") (zBoolO C sp) := by
  intro pins s σ H xs us Q I r h
  obtain ⟨x, rfl, h⟩ := one_e h
  obtain ⟨u, rfl, rx⟩ := vals1 r
  obtain ⟨a, dx, fs, rfl, ea, h3⟩ := isIns_e h
  cases rx
  obtain ⟨⟨f, fd, ps, ds, F, hm, hd, hb⟩, cl⟩ := M
  cases hd
  obtain ⟨mA, J, _⟩ := ins_get I.hok ea
  obtain ⟨od, J, _⟩ := J.look
  obtain ⟨m, fr⟩ := I.fr
  have hr2 : Room lv X.A.in1.in1 := (hr.in1 (k := lv + 1)).in1
  refine call_boolG (PySem.W.truthy_K fr I.ok.mod.kin J hm.at_ hm.fn ?_)
  have r2 : Vals ([V.ref a] ++ []) ([Value.ref a] ++ []) := .cons rfl .nil
  have hl : ([Value.ref a] ++ []).length = ps.length := by rw [← r2.length]; exact F.len _ _ _ _ h3
  refine wpAny_call (codeAny_mono (F.run X.A.in1.in1 X.stack s H ⟨[.ref a], []⟩ [.ref a] [.ref a] _ (WE WF σ) hr2 I.env0.in1.in1 (hb s [.ref a] I.kIn hl) r2 h3) fun r s' hq => ?_)
  cases r with
  | error e => exact L2M.passAt L2M.takes0 σ pins H s e s' I hq
  | ok fl =>
    cases fl with
    | ret u =>
      have q0 := I.after hq
      obtain ⟨z, H', I', rz, q⟩ := q0
      obtain ⟨k, rfl, q⟩ := boV_e q
      cases rz
      exact ⟨.bl k, H', I', rfl, q⟩
    | next => exact False.elim hq
    | brk => exact False.elim hq
    | cont => exact False.elim hq
end Ta

set_option Elab.async false
set_option linter.all false
set_option maxRecDepth 100000
set_option maxHeartbeats 2000000
namespace Ta
open PySem PySem.Spec PyProof.Rows L2 He

/-! ### x.split(y), x.startswith(y) -/
theorem ne0_len {b : Str} (h : tl b ≠ []) : (b.length == 0) = false := by
  rw [beq_eq_false_iff_ne, len_tl]
  exact fun e => h (List.length_eq_zero_iff.mp e)
def zSplit : V → List V → Hp → VK → Prop := fun x xs H Q => match x with
  | .str a => one xs fun y => (match y with
    | .str b => (tl b ≠ [] ∧ (tl b).all (· < 256) = true) ∧ (tl a).length ≤ 1000000 ∧ ∀ p, H p = none → Q (.ref p) (upd H p (.lst ((TL.spl (tl b) 0 [] (tl a)).map fun t => V.str (S t))))
    | _ => False)
  | _ => False
theorem mtsplit {X : Cx} : MtR X "str.split" zSplit := mt_imp mt_split fun x xs H Q h => by
  cases x with
  | str a =>
    obtain ⟨y, rfl, h⟩ := one_e h
    cases y with
    | str b =>
      obtain ⟨⟨h0, h1⟩, h2, h⟩ := h
      refine ⟨a, b, rfl, rfl, ne0_len h0, by rw [len_tl, sizeLine_eq]; omega, fun p hp => ?_⟩
      have e := SX.split_S (a := tl a) (b := tl b) h0 h1
      have e' : Txt.split a b = (TL.spl (tl b) 0 [] (tl a)).map SX.S := by
        rw [← e]
      rw [e', List.map_map]
      exact h p hp
    | _ => exact h.elim
  | _ => exact h.elim
def zStarts : V → List V → Hp → VK → Prop := fun x xs H Q => match x with
  | .str a => one xs fun y => (match y with
    | .str b => Q (.bl (decide ((tl a).take (tl b).length = tl b))) H
    | _ => False)
  | _ => False
theorem starts_tl (a b : Str) : Txt.startswith a b = decide ((tl a).take (tl b).length = tl b) := by
  unfold Txt.startswith
  rw [PySem.StrLaws.subAt_eq, len_tl, len_tl]
  show (decide (0 + (tl b).length ≤ (tl a).length) && ((tl a).drop 0).take (tl b).length == tl b) = _
  rw [List.drop_zero, Nat.zero_add]
  by_cases h : (tl a).take (tl b).length = tl b
  · have hl := congrArg List.length h
    rw [List.length_take] at hl
    rw [decide_eq_true h, decide_eq_true (by omega : (tl b).length ≤ (tl a).length), Bool.true_and]
    exact beq_iff_eq.mpr h
  · rw [decide_eq_false h]
    have : ((tl a).take (tl b).length == tl b) = false := beq_eq_false_iff_ne.mpr h
    rw [this, Bool.and_false]
theorem mtstarts {X : Cx} : MtR X "str.startswith" zStarts := mt_imp mt_startswith fun x xs H Q h => by
  cases x with
  | str a =>
    obtain ⟨y, rfl, h⟩ := one_e h
    cases y with
    | str b => exact ⟨a, b, rfl, rfl, by rw [starts_tl]; exact h⟩
    | _ => exact h.elim
  | _ => exact h.elim
/-! ### cuts at one sign -/
def splc (c : Nat) : List Nat → List (List Nat)
  | [] => [[]]
  | a :: l => if a = c then [] :: splc c l else (match splc c l with
    | [] => [[a]]
    | h :: t => (a :: h) :: t)
theorem splc_ne (c : Nat) : ∀ l : List Nat, splc c l ≠ []
  | [] => fun e => nomatch e
  | a :: l => by
    rw [splc]
    split
    · exact fun e => nomatch e
    · split
      · exact fun e => nomatch e
      · exact fun e => nomatch e
theorem splc_miss {c a : Nat} {l h : List Nat} {t : List (List Nat)} (hn : a ≠ c) (e : splc c l = h :: t) : splc c (a :: l) = (a :: h) :: t := by
  rw [splc, if_neg hn, e]
theorem spl_splc (c : Nat) : ∀ (l acc h : List Nat) (t : List (List Nat)), splc c l = h :: t → TL.spl [c] 0 acc l = (acc ++ h) :: t
  | [], acc, h, t, e => by
    rw [splc] at e
    injection e with e1 e2
    subst e1 e2
    rw [TL.spl_nil, List.append_nil]
  | a :: l, acc, h, t, e => by
    by_cases hac : a = c
    · subst hac
      rw [splc, if_pos rfl] at e
      injection e with e1 e2
      subst e1 e2
      rw [TL.spl_hit (by simp [TL.pre]), List.append_nil]
      show acc :: TL.spl [a] 0 [] l = acc :: splc a l
      cases e3 : splc a l with
      | nil => exact absurd e3 (splc_ne a l)
      | cons h' t' => rw [spl_splc a l [] h' t' e3]; rfl
    · rw [TL.spl_miss (by simp [TL.pre, hac])]
      cases e3 : splc c l with
      | nil => exact absurd e3 (splc_ne c l)
      | cons h' t' =>
        rw [splc_miss hac e3] at e
        injection e with e1 e2
        subst e1 e2
        rw [spl_splc c l (acc ++ [a]) h' t' e3, List.append_assoc]; rfl
theorem spl1 (c : Nat) (l : List Nat) : TL.spl [c] 0 [] l = splc c l := by
  cases e3 : splc c l with
  | nil => exact absurd e3 (splc_ne c l)
  | cons h' t' => rw [spl_splc c l [] h' t' e3]; rfl
theorem splc_app {c : Nat} : ∀ {y : List Nat} {r : List Nat}, (∀ a ∈ y, a ≠ c) → splc c (y ++ c :: r) = y :: splc c r
  | [], r, _ => by rw [List.nil_append, splc, if_pos rfl]
  | a :: y, r, h => by rw [List.cons_append]; exact splc_miss (h a List.mem_cons_self) (splc_app fun x hx => h x (List.mem_cons_of_mem _ hx))
theorem splc_one {c : Nat} : ∀ {y : List Nat}, (∀ a ∈ y, a ≠ c) → splc c y = [y]
  | [], _ => rfl
  | a :: y, h => splc_miss (h a List.mem_cons_self) (splc_one fun x hx => h x (List.mem_cons_of_mem _ hx))
/-- what was joined is cut back -/
theorem splc_join {c : Nat} : ∀ {ys : List (List Nat)}, ys ≠ [] → (∀ y ∈ ys, ∀ a ∈ y, a ≠ c) → splc c (TL.joinL [c] ys) = ys
  | [], h, _ => absurd rfl h
  | [y], _, h => splc_one (h y List.mem_cons_self)
  | y :: z :: ys, _, h => by
    show splc c (y ++ ([c] ++ TL.joinL [c] (z :: ys))) = _
    rw [List.singleton_append, splc_app (h y List.mem_cons_self), splc_join (List.cons_ne_nil _ _) fun x hx => h x (List.mem_cons_of_mem _ hx)]
theorem splc_free (c : Nat) : ∀ l : List Nat, ∀ y ∈ splc c l, ∀ a ∈ y, a ≠ c
  | [], y, hy, a, ha => by rw [List.mem_singleton.mp (show y ∈ [([] : List Nat)] from hy)] at ha; cases ha
  | b :: l, y, hy, a, ha => by
    rw [splc] at hy
    split at hy
    · rcases List.mem_cons.mp hy with rfl | hy
      · cases ha
      · exact splc_free c l y hy a ha
    · rename_i hb
      cases e : splc c l with
      | nil => exact absurd e (splc_ne c l)
      | cons h t =>
        rw [e] at hy
        rcases List.mem_cons.mp hy with rfl | hy
        · rcases List.mem_cons.mp ha with rfl | ha
          · exact hb
          · exact splc_free c l h (by rw [e]; exact List.mem_cons_self) a ha
        · exact splc_free c l y (by rw [e]; exact List.mem_cons_of_mem _ hy) a ha
theorem splc_sub (c : Nat) : ∀ l : List Nat, ∀ y ∈ splc c l, ∀ a ∈ y, a ∈ l
  | [], y, hy, a, ha => by rw [List.mem_singleton.mp (show y ∈ [([] : List Nat)] from hy)] at ha; cases ha
  | b :: l, y, hy, a, ha => by
    rw [splc] at hy
    split at hy
    · rcases List.mem_cons.mp hy with rfl | hy
      · cases ha
      · exact List.mem_cons_of_mem _ (splc_sub c l y hy a ha)
    · cases e : splc c l with
      | nil => exact absurd e (splc_ne c l)
      | cons h t =>
        rw [e] at hy
        rcases List.mem_cons.mp hy with rfl | hy
        · rcases List.mem_cons.mp ha with rfl | ha
          · exact List.mem_cons_self
          · exact List.mem_cons_of_mem _ (splc_sub c l h (by rw [e]; exact List.mem_cons_self) a ha)
        · exact List.mem_cons_of_mem _ (splc_sub c l y (by rw [e]; exact List.mem_cons_of_mem _ hy) a ha)
theorem splc_len (c : Nat) : ∀ l : List Nat, ((splc c l).map List.length).sum + (splc c l).length = l.length + 1
  | [] => rfl
  | b :: l => by
    have ih := splc_len c l
    rw [splc]
    split
    · rw [List.map_cons, List.sum_cons, List.length_cons, List.length_cons]; simp only [List.length_nil]; omega
    · cases e : splc c l with
      | nil => exact absurd e (splc_ne c l)
      | cons h t =>
        rw [e] at ih
        simp only [List.map_cons, List.sum_cons, List.length_cons] at ih ⊢
        omega
theorem le_sum : ∀ {ys : List (List Nat)} {y : List Nat}, y ∈ ys → y.length ≤ (ys.map List.length).sum
  | z :: ys, y, h => by
    rw [List.map_cons, List.sum_cons]
    rcases List.mem_cons.mp h with rfl | h
    · omega
    · have := le_sum h; omega
end Ta

set_option Elab.async false
set_option linter.all false
set_option maxRecDepth 100000
set_option maxHeartbeats 2000000
namespace Ta
open PySem PySem.Spec PyProof.Rows L2
open L2H (RoomH PinOk HotC Hot1 cxH roomH_of FnH)

/-! ### try: body, except x as n: a suite that raises -/
section
variable {X : Cx} {pins : List (Addr × Obj)} {σ : St} {H : Hp} {s : Shared}
/-- the locals forgotten: only the frame's object is another one -/
theorem inv_forget (I : Inv X pins σ H s) {h' : Heap} (hs : ∀ b, b ≠ X.env.locals → h'.get? b = s.heap.get? b) {m : Str → Option Value} (hn : h'.Ns X.env.locals m) : Inv X pins (σ.map fun _ => none) H { s with heap := h' } := by
  have neL : ∀ b o, X.s_0.heap.get? b = some o → b ≠ X.env.locals := fun b o e => Nat.ne_of_lt (Nat.lt_of_lt_of_le (Heap.lt_size e) I.ok.above)
  have cellK : ∀ {c : Addr} {v : Option Value}, c ≠ X.env.locals → s.heap.IsCell c v → h'.IsCell c v := fun {c v} ne ⟨o, ho, hd⟩ => ⟨o, (hs c ne).trans ho, hd⟩
  refine ⟨I.ok, I.os, I.bare, ⟨fun b o e n hb hx => ?_, fun b o e n hb hx => ?_, I.base.free, fun b o e hx => ?_, I.base.tups, I.base.frzs, I.base.tbls⟩, ⟨m, hn, fun j y v e1 e2 _ => ?_⟩, fun y c e => ?_, I.free, I.freeC, fun p hp => ?_, fun b ob e => ?_, by rw [List.length_map]; exact I.len⟩
  · exact (hs b (neL b o e)).trans (I.base.keep b o e n hb hx)
  · obtain ⟨sl, e1⟩ := I.base.slot b o e n hb hx
    exact ⟨sl, (hs b (neL b o e)).trans e1⟩
  · obtain ⟨o', e1⟩ := I.base.there b o e hx
    exact ⟨o', (hs b (neL b o e)).trans e1⟩
  · rw [List.getElem?_map] at e2
    cases q : σ[j]? with
    | none => rw [q] at e2; cases e2
    | some u => rw [q] at e2; cases e2
  · obtain ⟨w', z⟩ := I.cell y c e
    exact ⟨w', cellK (I.cne y c e) z⟩
  · obtain ⟨e, n, ne, nf, d⟩ := I.pin p hp
    exact ⟨(hs p.1 ne).trans e, n, ne, nf, d⟩
  · refine (I.hok b ob e).stay (fun c w' hc q => (hs c ?_).trans q) (fun _ q => q) fun _ _ q => q
    intro z
    subst z
    rcases hc with hc | hc
    · rw [← hc, I.free] at e; cases e
    · rw [I.free] at hc; cases hc
theorem sky_note {M : Model} {A : Around} {E₁ : Value → Shared → Prop} {env : Env} {outer : List Env} {B : Heap} {L a : Addr} {Z : Obj → Prop} {Q : Unit → Shared → Prop} (hZ : PXN.Steady1 Z) (hfr : A.frames = some (env :: outer)) (hf : env.frame = some L)
    (x : Sky B (env :: outer) a Z L s.heap) (hQ : ∀ h', HandSPX.HeldZ B (env :: outer) a Z L h' → s.heap.UpToSlots h' → Q () { s with heap := h' }) : wpAny M A (noteFrame (.ref a) env) Q E₁ s := by
  rcases x with ⟨hB, hn, hl, oe, vs, he, hz, hd, h1⟩ | fl | hh
  · exact PXN.look_newZ hZ hfr hl hf he hB hn hd h1 hz hQ
  · exact PXN.looks_onZ hZ hfr hf fl hQ
  · exact HandSPX.againZ hf hh.2.2.2 (hQ s.heap hh (Heap.UpToSlots.refl _))
end
theorem funFrames_swap {h h' B : Heap} {L : Addr} {oL : Obj} (hs : ∀ b, b ≠ L → h'.get? b = h.get? b) (hL : h'.get? L = some oL) (hd : ∀ vs, oL.data ≠ .fields vs) : ∀ {l : List Env}, h.FunFrames B l → h'.FunFrames B l
  | [], _ => trivial
  | env :: l, x => by
    obtain ⟨hk, ⟨L1, o, hf, hb, ho, hnf⟩, r⟩ := x
    refine ⟨hk, ?_, funFrames_swap hs hL hd r⟩
    by_cases e : L1 = L
    · exact ⟨L1, oL, hf, hb, by rw [e]; exact hL, hd⟩
    · exact ⟨L1, o, hf, hb, (hs L1 e).trans ho, hnf⟩
theorem ns_obj {h : Heap} {a : Addr} {m : Str → Option Value} (hn : h.Ns a m) : ∃ o, h.get? a = some o ∧ (∀ vs, o.data ≠ .fields vs) ∧ o.isFreed = false := by
  obtain ⟨o, es, ep, ho, hd, _⟩ := hn
  have nf : ∀ vs, o.data ≠ .fields vs := fun vs z => by
    rw [hd] at z
    cases z
  exact ⟨o, ho, nf, PySem.Obj.isFreed_of_dict hd⟩
theorem held_swap {h h' B : Heap} {L a : Addr} {l : List Env} {Z : Obj → Prop} {m m' : Str → Option Value} (hn : h.Ns L m) (hs : ∀ b, b ≠ L → h'.get? b = h.get? b) (hn' : h'.Ns L m') (hB : B.get? L = none) (x : HandSPX.HeldZ B l a Z L h) : HandSPX.HeldZ B l a Z L h' := by
  obtain ⟨k1, k2, k3, oe, vs, T, oT, ts, he, hz, hd, h1, h2, h3, h4, h5, h6⟩ := x
  obtain ⟨oL, ho, hf, _⟩ := ns_obj hn
  obtain ⟨oL', ho', hf', _⟩ := ns_obj hn'
  have na : a ≠ L := fun z => by rw [z, ho] at he; cases he; exact hf _ hd
  have nT : T ≠ L := fun z => by rw [z, ho] at h4; cases h4; exact hf _ h5
  refine ⟨fun b o e => ?_, k2, funFrames_swap hs ho' hf' k3, oe, vs, T, oT, ts, (hs a na).trans he, hz, hd, h1, h2, h3, (hs T nT).trans h4, h5, h6⟩
  have nb : b ≠ L := fun z => by rw [z, hB] at e; cases e
  exact (hs b nb).trans (k1 b o e)
/-- what the clause wishes: the exceptions that it names are of the calm kind -/
def wAsX (K : PySem.W.Frag) (c : Value) (i : Nat) (ts : Addr → Value → Option Addr → TS) (Wout : WX) (D : Ends) : WX := fun cls d σ H =>
  ∃ b, PySem.W.exmOne K cls c = some b ∧ (b = true → L2M.calmC K cls = true ∧ ∀ a, H a = none → ts a cls d { nx := fun σ' H' => D.nx (σ'.set i none) H', rt := D.rt, bk := fun σ' H' => D.bk (σ'.set i none) H', ct := fun σ' H' => D.ct (σ'.set i none) H' } (σ.set i (some (.ref a))) H) ∧
    (b = false → Wout cls d σ H)
/-- the context of a suite that may raise -/
abbrev suiteY (X : Cx) (a : Addr) (pn : List (Addr × Obj)) (xe : Value → Shared → Prop) : Cx := { X with A := X.A.mark (some (.ref a)), calm := false, pn := pn, xe := xe }
section
variable {X : Cx} {x n : Str} {c : Value} {i : Nat} {body suite : List Stmt} {b₀ : Stmt} {np pos pos' : Pos} {tb : WX → TS} {ts : Addr → Value → Option Addr → TS} {Wout : WX}
theorem ps_try_asX (hs : X.stack = X.env :: X.outer) (hf : X.env.frame = some X.env.locals) (hN : X.N.Nodup) (hi : X.N[i]? = some n) (hln : X.env.kindOf n = some .local) (hc : Names X x c) (tk : L2M.Takes X Wout) (hW : ∀ cls d σ σ' H, Wout cls d σ H → Wout cls d σ' H)
    (hb : ∀ (W : WX) (pn : List (Addr × Obj)) (xe : Value → Shared → Prop), L2M.Takes (X.tr pn xe) W → PassesOwn (model X.prog X.w) X.A X.env xe → PSs (X.tr pn xe) body (tb W))
    (hsu : ∀ (a : Addr) (oe : Obj) (cls : Value) (d : Option Addr) (pn : List (Addr × Obj)) (xe : Value → Shared → Prop), L2M.Zm X.K cls d oe → (∃ vs, oe.data = .fields vs) → L2M.Takes (suiteY X a ((a, oe) :: pn) xe) Wout → HotC (suiteY X a ((a, oe) :: pn) xe) →
      PSs (suiteY X a ((a, oe) :: pn) xe) (b₀ :: suite) (ts a cls d)) :
    PS X (.Try body [.ExceptHandler (some (.Name x np)) (some n) (b₀ :: suite) pos'] [] [] pos) (fun D σ H => tb (wAsX X.K c i ts Wout D) D σ H) := by
  refine ⟨fun pins s σ H D I h => ?_⟩
  have ok := I.ok
  have hfr : X.A.frames = some (X.env :: X.outer) := by rw [ok.frames, hs]
  have hloc : Loc X.env.scope n := .inl hln
  refine wpAny_Try_except ?_
  refine wpAny_mono ((hb (wAsX X.K c i ts Wout D) (X.pn ++ pins) (fun e s₁ => wpAny (model X.prog X.w) X.A (noteFrame e X.env) (fun _ s₂ => wpAny (model X.prog X.w) X.A (setFlight e none) (fun _ s₃ =>
    wpAny (model X.prog X.w) X.A (handleBy e X.env [.ExceptHandler (some (.Name x np)) (some n) (b₀ :: suite) pos']) (SP X pins D) X.xe s₃) X.xe s₂) X.xe s₁) (fun u s' xx => ?_) PassesOwn.looking).run [] s σ H D (I.toTry _) h) (fun f s1 hsp => ?_) (fun e s1 he => he)
  · obtain ⟨a, B, sI, pins', σ', H', cls, d, rfl, J', nb, up, sky, na, os, ag, b, hb1, hyes, hno⟩ := xx
    have J : Inv X pins σ' H' sI := J'.ofTry ok
    have sky' : Sky B (X.env :: X.outer) a (L2M.Zm X.K cls d) X.env.locals s'.heap := by rw [← hs]; exact sky
    show wpAny (model X.prog X.w) X.A (noteFrame (.ref a) X.env) _ _ _
    refine L2N.Sky.land L2M.Zm.steady hfr hf sky' fun h3 fl3 up3 => ?_
    have J3 : Inv X pins σ' H' { s' with heap := h3 } := J.landed nb fl3.1 (up.trans up3) os ag
    obtain ⟨oe3, vs3, he3, hz3, hd3⟩ := fl3.there
    have notFr : ∀ {a B : Addr} {B : Heap} {h : Heap} {o : Obj} {vs : Array Value}, h.FunFrames B (X.env :: X.outer) → h.get? a = some o → o.data = .fields vs → a ∉ frs (X.env :: X.outer) := fun {a _ B h o vs} ff e dd hm => by
      obtain ⟨_, o', e', hnf⟩ := ff.mem hm
      rw [e] at e'; cases e'
      exact hnf _ dd
    have nfr := notFr (B := 0) fl3.2.2.1 he3 hd3
    have nL : a ≠ X.env.locals := fun z => nfr (List.mem_filterMap.mpr ⟨X.env, List.mem_cons_self, by rw [hf, z]⟩)
    have nF : a ∉ X.fs := fun hm => by
      obtain ⟨e, he, q⟩ := List.mem_filterMap.mp hm
      exact nfr (List.mem_filterMap.mpr ⟨e, List.mem_cons_of_mem _ he, q⟩)
    have S3 := J3.suite he3 hd3 na nL nF
    refine wpAny_handleBy_cons (codeAny_handlers_test ?_) (by intro q; cases q)
    have LT : PySem.W.Looks (model X.prog X.w) h3 (typeOf (.ref a)) cls := fun A Q E s k q => wpAny_typeOf_ref (k _ _ he3) (by rw [hz3.1]; exact q)
    have LM := PySem.W.exm_one (M := model X.prog X.w) (J3.kIn) LT hb1
    have test : ∀ {Q : Value → Shared → Prop} {E : Value → Shared → Prop}, Q c { s' with heap := h3 } → wpAny (model X.prog X.w) (X.A.mark (some (.ref a))) (eval (.Name x np) X.env) Q E { s' with heap := h3 } := fun {Q E} q => by
      obtain ⟨hg, hdbg, hm | ⟨hm, hv, hnn⟩⟩ := hc
      · exact ld_glob (X := X.suite a ((a, oe3) :: (X.pn ++ pins))) S3 hg hm q hdbg
      · exact ld_blt (X := X.suite a ((a, oe3) :: (X.pn ++ pins))) S3 hg hm hv q hnn hdbg
    refine test (LM.here ?_)
    have flyOn : ∀ {a : Addr} {B : Heap} {sI s' : Shared} {σ' : St} {H' : Hp} {cls : Value} {d : Option Addr} {h3 : Heap}, Inv X pins σ' H' sI → (∀ b o, sI.heap.get? b = some o → b ∉ frs X.stack → B.get? b = some o) → sI.heap.UpToSlots h3 →
        HandSPX.HeldZ B (X.env :: X.outer) a (L2M.Zm X.K cls d) X.env.locals h3 → H' a = none → s'.os = sI.os → AllBare s'.gens → Wout cls d σ' H' → X.xe (.ref a) { s' with heap := h3 } := by
      intro a B sI s' σ' H' cls d h3 J nb up hh na os ag w
      exact tk _ _ ⟨a, B, sI, pins, σ', H', cls, d, rfl, J, nb, up, .inr (.inr (by rw [hs]; exact hh)), na, os, ag, w⟩
    cases b with
    | true =>
      obtain ⟨hcalm, hyes⟩ := hyes rfl
      refine codeAny_handlers_suite_as ?_
      refine HandSPX.lands_againZ fl3 fun h4 fl4 up4 => ?_
      have J4 : Inv X pins σ' H' { s' with heap := h4 } := J.landed nb fl4.1 ((up.trans up3).trans up4) os ag
      obtain ⟨oe4, vs4, he4, hz4, hd4⟩ := fl4.there
      have S4 := J4.suite he4 hd4 na nL nF
      refine store_ok (X := X.suite a ((a, oe4) :: (X.pn ++ pins))) (v := .ref a) S4 hN hi hloc rfl (fun s5 S5 => ?_) (.inr hln)
      have hot : ∀ xe, HotC (suiteY X a ((a, oe4) :: (X.pn ++ pins)) xe) := fun xe => ⟨(a, oe4), ⟨rfl, vs4, hd4, hz4.2.2 hcalm vs4 hd4⟩, List.mem_cons_self⟩
      have S5' := fun xe => Inv.unwish (X := suiteY X a ((a, oe4) :: (X.pn ++ pins)) xe) (E := fun _ _ => False) S5
      refine wpAny_mono ((hsu a oe4 cls d (X.pn ++ pins) _ hz4 ⟨_, hd4⟩ ?_ (hot _)).run [] s5 _ H' _ (S5' _) (hyes a na)) (fun f s6 hsp => ?_) (fun _ _ z => z)
      · intro u2 s2 x2
        obtain ⟨a2, B2, sI2, pn2, σ2, H2, cls2, d2, rfl, I2, nb2, up2, sky2, na2, os2, ag2, w2⟩ := x2
        have sky2' : Sky B2 (X.env :: X.outer) a2 (L2M.Zm X.K cls2 d2) X.env.locals s2.heap := by rw [← hs]; exact sky2
        have I2' : Inv X pins σ2 H2 sI2 := Inv.unsuite (X := X) (a := a) (q := (a, oe4)) (pn' := pn2) (show Inv (X.suite a ((a, oe4) :: (X.pn ++ pins))) pn2 σ2 H2 sI2 from I2.wish fun _ _ => False) ok
        refine sky_note (A := X.A.mark (some (.ref a))) L2M.Zm.steady hfr hf sky2' fun h6 hh6 up6 => ?_
        have I6 : Inv X pins σ2 H2 { s2 with heap := h6 } := I2'.landed nb2 hh6.1 (up2.trans up6) os2 ag2
        obtain ⟨m6, hn6, _⟩ := id I6.loc
        have hcls : (X.env.scope.kind == .class || (X.env.scope.kind == .module && X.env.locals != X.env.globals)) = false := by rw [ok.kind]; rfl
        refine wpAny_nameGoes_keeps hln hn6 hcls fun h7 v7 hn7 hs7 => ?_
        have hL : X.env.locals ∈ frs X.stack := List.mem_filterMap.mpr ⟨X.env, by rw [hs]; exact List.mem_cons_self, hf⟩
        have hBL : B2.get? X.env.locals = none := (hh6.2.2.1.mem (by rw [← hs]; exact hL)).1
        have hh7 := held_swap hn6 hs7.2 hn7 hBL hh6
        obtain ⟨oL7, ho7, hf7, hfr7⟩ := ns_obj hn7
        obtain ⟨mI, hnI, _⟩ := id I2'.loc
        obtain ⟨oLI, hoI, _, _⟩ := ns_obj hnI
        have hIL : (sI2.heap.update X.env.locals fun _ => oL7).get? X.env.locals = some oL7 := Heap.get?_update_self (fun _ => oL7) hoI hfr7
        have hIo : ∀ b, b ≠ X.env.locals → (sI2.heap.update X.env.locals fun _ => oL7).get? b = sI2.heap.get? b := fun b nb => Heap.get?_update_other _ _ (Ne.symm nb)
        have hnI7 : ∃ m, (sI2.heap.update X.env.locals fun _ => oL7).Ns X.env.locals m := by
          obtain ⟨o, es, ep, e1, r⟩ := hn7
          rw [ho7] at e1
          cases e1
          exact ⟨_, oL7, es, ep, hIL, r⟩
        obtain ⟨mI7, hnI7⟩ := hnI7
        have I7 := inv_forget I2' hIo hnI7
        have up7 : (sI2.heap.update X.env.locals fun _ => oL7).UpToSlots h7 := fun b o e nf => by
          by_cases z : b = X.env.locals
          · rw [z, hIL] at e
            cases e
            exact ⟨oL7.slots, by rw [z]; exact ho7⟩
          · rw [hIo b z] at e
            obtain ⟨sl, e1⟩ := (up2.trans up6) b o e nf
            exact ⟨sl, (hs7.2 b z).trans e1⟩
        have nb7 : ∀ b o, (sI2.heap.update X.env.locals fun _ => oL7).get? b = some o → b ∉ frs X.stack → B2.get? b = some o := fun b o e nb => by
          rw [hIo b fun z => nb (by rw [z]; exact hL)] at e
          exact nb2 b o e nb
        obtain ⟨g1, g2, g3, oe, vs, T, oT, ts', he, hz, hd, h1, hr⟩ := id hh7
        have nT : ¬ ((Value.ref T == Value.none) = true) := by simp
        show wpAny _ _ (PySem.passOn "try.except-as" (Value.ref a2) X.env) _ _ _
        unfold PySem.passOn
        refine wpAny_bind (wpAny_field he hd h1 ?_)
        rw [if_neg nT]
        have fin : ∀ h8, HandSPX.HeldZ B2 (X.env :: X.outer) a2 (L2M.Zm X.K cls2 d2) X.env.locals h8 → h7.UpToSlots h8 →
            notedBy (model X.prog X.w) (X.A.mark (some (.ref a))) X.env (cameBackBy (model X.prog X.w) X.A X.env X.xe) (.ref a2) { s2 with heap := h8, toks := s2.toks + 1 } := fun h8 hh8 up8 => by
          refine sky_note (A := X.A.mark (some (.ref a))) L2M.Zm.steady hfr hf (.inr (.inr hh8)) fun h9 hh9 up9 => ?_
          obtain ⟨g1, g2, g3, oe, vs, T, oT, ts', he, hz, hd, h1, hr⟩ := id hh9
          have nT : ¬ ((Value.ref T == Value.none) = true) := by simp
          show wpAny _ _ _ _ _ _
          refine wpAny_bind (wpAny_field he hd h1 ?_)
          rw [if_neg nT]
          have fin2 : wpAny (model X.prog X.w) X.A (setFlight (.ref a2) X.env.frame) (fun _ s9 => X.xe (.ref a2) s9) X.xe { s2 with heap := h9, toks := s2.toks + 1 } := by
            rw [hf]
            exact HandSPX.setFlight_anyZ g1 g3 hh9.2.2.2 fun h' k1 k2 k3 k4 => flyOn I7 nb7 (((up7.trans up8).trans up9).trans k4) ⟨k1, g2, k2, k3⟩ na2 os2 ag2 (hW _ _ _ _ _ w2)
          first
            | exact wpAny_bind (wpAny_pure fin2)
            | exact fin2
            | exact wpAny_pure fin2
        have fin3 : wpAny (model X.prog X.w) (X.A.mark (some (.ref a))) (setFlight (.ref a2) X.env.frame) (fun _ s4 => wpAny (model X.prog X.w) (X.A.mark (some (.ref a))) (throw (.ref a2) : Sem Flow) (fun _ _ => False) (notedBy (model X.prog X.w) (X.A.mark (some (.ref a))) X.env (cameBackBy (model X.prog X.w) X.A X.env X.xe)) s4)
            (notedBy (model X.prog X.w) (X.A.mark (some (.ref a))) X.env (cameBackBy (model X.prog X.w) X.A X.env X.xe)) { s2 with heap := h7, toks := s2.toks + 1 } := by
          rw [hf]
          exact HandSPX.setFlight_anyZ g1 g3 hh7.2.2.2 fun h' k1 k2 k3 k4 => wpAny_throw (fin h' ⟨k1, g2, k2, k3⟩ k4)
        first
          | exact wpAny_bind (wpAny_pure (wpAny_bind fin3))
          | exact wpAny_bind fin3
      · have end_ : ∀ {σ6 : St} {H6 : Hp} {Q : Shared → Prop}, Inv (X.suite a ((a, oe4) :: (X.pn ++ pins))) [] σ6 H6 s6 → (∀ s7, Inv X pins (σ6.set i none) H6 s7 → Q s7) →
            wpAny (model X.prog X.w) X.A (do bindName X.env n .none; unbindBehindTheSuite X.env n pos') (fun _ s7 => Q s7) X.xe s6 := fun {σ6 H6 Q} S6 hq => gone_ok (S6.unsuite ok) hN hi hln hq
        have S6 : ∀ {σ6 : St} {H6 : Hp} {xe : Value → Shared → Prop}, Inv (suiteY X a ((a, oe4) :: (X.pn ++ pins)) xe) [] σ6 H6 s6 → Inv (X.suite a ((a, oe4) :: (X.pn ++ pins))) [] σ6 H6 s6 := fun I => I.wish fun _ _ => False
        cases f with
        | next =>
          obtain ⟨σ6, H6, I6, q6⟩ := hsp
          exact end_ (S6 I6) fun s7 J7 => ⟨_, _, J7, q6⟩
        | brk =>
          obtain ⟨σ6, H6, I6, q6⟩ := hsp
          exact end_ (S6 I6) fun s7 J7 => ⟨_, _, J7, q6⟩
        | cont =>
          obtain ⟨σ6, H6, I6, q6⟩ := hsp
          exact end_ (S6 I6) fun s7 J7 => ⟨_, _, J7, q6⟩
        | ret u =>
          obtain ⟨v6, σ6, H6, I6, r6, q6⟩ := hsp
          exact end_ (S6 I6) fun s7 J7 => ⟨_, _, _, J7, r6, q6⟩
    | false =>
      show wpAny _ X.A (handleBy (.ref a) X.env []) _ _ _
      refine wpAny_handleBy_nil ?_
      obtain ⟨k1, k2, k3, oe, vs, T, oT, ts', he, hz, hd, h1, hr⟩ := id fl3
      unfold PySem.passOn
      refine wpAny_bind (wpAny_field he hd h1 ?_)
      rw [if_neg (show ¬ ((Value.ref T == Value.none) = true) from by simp)]
      have fin : wpAny (model X.prog X.w) X.A (setFlight (.ref a) X.env.frame) (fun _ s4 => wpAny (model X.prog X.w) X.A (throw (.ref a) : Sem Flow) (SP X pins D) X.xe s4) X.xe { s' with heap := h3 } := by
        rw [hf]
        exact HandSPX.setFlight_upZ fl3 fun h4 hh4 up4 => wpAny_throw (flyOn J nb ((up.trans up3).trans up4) hh4 na os ag (hno rfl))
      first
        | exact wpAny_bind (wpAny_pure (wpAny_bind fin))
        | exact wpAny_bind fin
  · cases f with
    | next =>
      obtain ⟨σ', H', J', q⟩ := hsp
      exact wpAny_execs_nil ⟨σ', H', J'.ofTry ok, q⟩
    | brk =>
      obtain ⟨σ', H', J', q⟩ := hsp
      exact ⟨σ', H', J'.ofTry ok, q⟩
    | cont =>
      obtain ⟨σ', H', J', q⟩ := hsp
      exact ⟨σ', H', J'.ofTry ok, q⟩
    | ret u =>
      obtain ⟨v, σ', H', J', r, q⟩ := hsp
      exact ⟨v, σ', H', J'.ofTry ok, r, q⟩
end
end Ta

set_option Elab.async false
set_option linter.all false
set_option maxRecDepth 100000
set_option maxHeartbeats 2000000
namespace Ta
open PySem PySem.Spec PyProof.Rows L2
open L2H (RoomH PinOk HotC Hot1 cxH roomH_of FnH PMk5)

/-! ### __init__ of an exception, called where another one is handled -/
section
variable {P : Program} {w : World} {K : PySem.W.Frag} {mg : Str → Option Value} {base : Heap}
theorem fn_supH {f D : Addr} {F : NdefX.NF} {fd : FuncData} {N ps : List Str} {sp : Sp} {k : Nat} {st0 : Stmt} {rest : List Stmt} {dvs : List V} (SF : SupFn P K f F D dvs fd) (hbd : F.body = st0 :: rest) (S : NdefX.NScope N ps ["__class__"] F.scope)
    (len : ∀ vs H Q E, sp vs H Q E → vs.length = ps.length)
    (hbody : ∀ (A : Around) (outer : List Env) (s : Shared) (H : Hp) (vs : List V) (Q : VK) (E : XK) (p : Addr × Obj), RoomH k (A.deeper (NdefX.envF F f s.heap.objs.size)) → sp vs H Q E →
      ∃ (t : TS), PSs (NdefX.ncxH (L2M.CX K P w) P w K mg base N F f A outer s H E p) rest t ∧
        ∀ s', Inv (NdefX.ncxH (L2M.CX K P w) P w K mg base N F f A outer s H E p) [] (NdefX.startF N vs [some (.ref D)]) H s' →
          PySem.wpAt (model P w) (A.deeper (NdefX.envF F f s.heap.objs.size)) (.func F.body (NdefX.envF F f s.heap.objs.size)) (exec st0 (NdefX.envF F f s.heap.objs.size))
            (fun fl s'' => fl = .next ∧ ∃ σ' H', Inv (NdefX.ncxH (L2M.CX K P w) P w K mg base N F f A outer s H E p) [] σ' H' s'' ∧ t { nx := fun _ H' => Q .non H', rt := Q } σ' H')
            (NdefX.ncxH (L2M.CX K P w) P w K mg base N F f A outer s H E p).xe s') :
    FnH P w K mg base (L2M.CX K P w) (k + 1) f fd ps sp := by
  obtain ⟨cc, oc, od, an, dV, kV, doc, pm, ct, osl, hcl, rfl, lk, hD, cl, cld, csl, hcell⟩ := SF.ex
  refine ⟨len, fun A outer s H args us vs Q E p hr hot hpin e0 hb r hsp => ?_⟩
  have hl := len _ _ _ _ hsp
  have KX : K.In s.heap := e0.mod.kin.keeps fun b o e => (e0.bs b o e).1
  have lim : s.heap.NoLimit := e0.mod.nolimit.keeps fun b o e => (e0.bs b o e).1
  have C : NdefX.CellsAt F.cl ["__class__"] [some (.ref D)] s.heap H := by
    rw [hcl]
    have hK : ∀ y c, ([("__class__", cc)] : List (Str × Addr)).lookup y = some c → y = "__class__" ∧ c = cc := fun y c e => by
      simp only [List.lookup] at e
      split at e
      · rename_i hb; cases e; exact ⟨eq_of_beq hb, rfl⟩
      · cases e
    refine ⟨rfl, fun y c e => ?_, fun x y c e1 e2 => (hK x c e1).1.trans (hK y c e2).1.symm, fun i y e => ?_⟩
    · obtain ⟨_, rfl⟩ := hK y c e
      exact ⟨(e0.bs _ _ (e0.mod.kin _ _ hcell)).2, _, _, KX _ _ hcell, rfl⟩
    · cases i with
      | zero =>
        have e' : y = "__class__" := by simpa using e.symm
        subst e'
        refine ⟨cc, by simp [List.lookup], fun v hv => ?_⟩
        have hv' : V.ref D = v := by simpa using hv
        subst hv'
        exact ⟨.ref D, rfl, _, KX _ _ hcell, rfl⟩
      | succ i => simp at e
  refine PySem.ks_codeAny_call_defAt hr.depth (KX _ _ lk) rfl lim (PySem.W.codeRec_of KX SF.cd) (body := F.body) rfl hb S.nocell (fun ⟨n, v⟩ hy => S.par n (List.of_mem_zip hy).1) (fun h₁ hns kp => ?_) S.co S.gen S.kind
  obtain ⟨t, ht, hq⟩ := hbody A outer s H vs Q E p (hr.deeper _) hsp
  have I : Inv (NdefX.ncxH (L2M.CX K P w) P w K mg base N F f A outer s H E p) [] (NdefX.startF N vs [some (.ref D)]) H { s with heap := h₁, toks := s.toks + (ps.zip us).length } := NdefX.inv_startNH S hpin e0 hl r C hns kp
  have fin : ∀ {s' : Shared} {σ' : L2.St} {H' : Hp} {v : V} {u : Value}, Inv (NdefX.ncxH (L2M.CX K P w) P w K mg base N F f A outer s H E p) [] σ' H' s' → RelV v u → Q v H' → CE outer P w H s Q u s' :=
    fun {s' σ' H' v u} J rv q => ⟨v, H', J.os, J.bare, J.base, J.hok, rv, q⟩
  have key : PySem.wpAt (model P w) (A.deeper (NdefX.envF F f s.heap.objs.size)) (.func F.body (NdefX.envF F f s.heap.objs.size)) (execs F.body (NdefX.envF F f s.heap.objs.size))
      (fun fl s' => CR (L2M.CX K P w) outer P w H s Q E (.ok (.ret (match fl with | .ret v => v | _ => .none))) s') (NdefX.ncxH (L2M.CX K P w) P w K mg base N F f A outer s H E p).xe { s with heap := h₁, toks := s.toks + (ps.zip us).length } := by
    have q0 := hq _ I
    rw [hbd] at q0 ⊢
    refine PySem.ks_wpAt_execs_cons (PySem.ks_wpAt_mono q0 (fun fl s1 h1 => ?_) fun _ _ z => z)
    obtain ⟨rfl, σ1, H1, I1, q1⟩ := h1
    refine PySem.wpAt_of_wpAny (thn (ht.run [] s1 σ1 H1 _ I1 q1) fun fl s2 h2 => ?_)
    cases fl with
    | ret u =>
      obtain ⟨v, σ', H', J, rv, q⟩ := h2
      exact fin J rv q
    | next =>
      obtain ⟨σ', H', J, q⟩ := h2
      exact fin (v := V.non) (u := Value.none) J rfl q
    | brk =>
      obtain ⟨_, _, _, q⟩ := h2
      exact False.elim q
    | cont =>
      obtain ⟨_, _, _, q⟩ := h2
      exact False.elim q
  exact key
end
section
variable {P : Program} {w : World} {K : PySem.W.Frag} {mg : Str → Option Value} {base : Heap} {f D C : Addr} {F : NdefX.NF} {fd : FuncData}
  {p0 p1 p2 p3 p4 p5 q0 q1 q2 q3 r0 r1 r2 r3 s0 s1 s2 s3 : Pos} {j : Nat} {msg g1 g2 g3 : Str}
theorem sup_startH {N ps : List Str} {A : Around} {outer : List Env} {s : Shared} {H : Hp} {vs ws : List V} {E : XK} {pz : Addr × Obj} {T : St → Hp → Prop} {a : Addr} {ar : Arg} (SF : SupFn P K f F D [] fd) (SE : SupExc K C D) (S : NdefX.NScope N ps ["__class__"] F.scope)
    (hsup : mg "super" = none) (hp : (F.params.posonlyargs ++ F.params.args).head? = some ar) (hN : N[0]? = some ar.arg) (hka : F.scope.names.lookup ar.arg = some .local) (hks : F.scope.names.lookup ("super" : Str) = some .globalImplicit)
    (hev : ∀ env : Env, ∃ pl, eval (.Call (.Attribute (.Call (.Name "super" p0) [] [] p1) "__init__" p2) [.Constant (.str msg) j p5] [] p3) env = (do
      let ov ← attributeBase (.Call (.Name "super" p0) [] [] p1) "__init__" env (eval (.Call (.Name "super" p0) [] [] p1) env)
      standAt p2.atName
      let (f, first) ← holding [ov] (getMethod ov "__init__" pl)
      callWith p3 f first (backTo p3 (starEach [.Constant (.str msg) j p5] env)) [])) (hvs : vs = .ref a :: ws) (ha : H a = some (exo a C none)) (q : T (NdefX.startF N vs [some (.ref D)]) H) :
    ∀ s', Inv (NdefX.ncxH (L2M.CX K P w) P w K mg base N F f A outer s H E pz) [] (NdefX.startF N vs [some (.ref D)]) H s' →
      PySem.wpAt (model P w) (A.deeper (NdefX.envF F f s.heap.objs.size)) (.func F.body (NdefX.envF F f s.heap.objs.size)) (exec (supSt p0 p1 p2 p3 p4 p5 j msg) (NdefX.envF F f s.heap.objs.size))
        (fun fl s'' => fl = .next ∧ ∃ σ' H', Inv (NdefX.ncxH (L2M.CX K P w) P w K mg base N F f A outer s H E pz) [] σ' H' s'' ∧ T σ' H')
        (NdefX.ncxH (L2M.CX K P w) P w K mg base N F f A outer s H E pz).xe s' := fun s' I => by
  obtain ⟨pl, hev⟩ := hev (NdefX.envF F f s.heap.objs.size)
  refine sup_exc (X := NdefX.ncxH (L2M.CX K P w) P w K mg base N F f A outer s H E pz) SF SE rfl I hsup hp 0 hN (by subst hvs; rfl) hka ha hks (S.frk _ List.mem_cons_self) S.kind (fun s2 I2 => ⟨rfl, _, _, I2, q⟩) rfl rfl pl hev
theorem ok_exc1H (hbd : F.body = [supSt p0 p1 p2 p3 p4 p5 j msg, stoSt q0 q1 q2 q3 g1]) (SF : SupFn P K f F D [] fd) (SE : SupExc K C D) (S : NdefX.NScope ["self", g1, "__class__"] ["self", g1] ["__class__"] F.scope) (hsup : mg "super" = none)
    (hp : (F.params.posonlyargs ++ F.params.args).head?.map (·.arg) = some ("self" : Str)) (hks : F.scope.names.lookup ("super" : Str) = some .globalImplicit) (hg : PySem.W.findIn K (.ref C) g1 = some none)
    (hd : (g1 == ("__debug__" : Str)) = false) (hd2 : (g1 == ("__classdict__" : Str)) = false)
    (hev : ∀ env : Env, ∃ pl, eval (.Call (.Attribute (.Call (.Name "super" p0) [] [] p1) "__init__" p2) [.Constant (.str msg) j p5] [] p3) env = (do
      let ov ← attributeBase (.Call (.Name "super" p0) [] [] p1) "__init__" env (eval (.Call (.Name "super" p0) [] [] p1) env)
      standAt p2.atName
      let (f, first) ← holding [ov] (getMethod ov "__init__" pl)
      callWith p3 f first (backTo p3 (starEach [.Constant (.str msg) j p5] env)) [])) : FnH P w K mg base (L2M.CX K P w) 1 f fd ["self", g1] (spE C [g1]) := by
  obtain ⟨ar, hp, har⟩ := Option.map_eq_some_iff.mp hp
  refine fn_supH SF hbd S (fun vs H Q E h => ?_) (fun A outer s H vs Q E pz hr h => ?_)
  · obtain ⟨a, ws, rfl, hl, _⟩ := h
    simpa using hl
  · obtain ⟨a, ws, rfl, hl, ha, h1, h2⟩ := h
    obtain ⟨v, rfl⟩ : ∃ v, ws = [v] := by
      match ws, hl with
      | [v], _ => exact ⟨v, rfl⟩
    have hv := S.par g1 (by simp)
    have hs := S.par "self" (by simp)
    refine ⟨_, pss_one (ps_ost (pe_var (i := 0) rfl (.inl hs) (by decide +kernel) (by decide +kernel)) (pe_var (i := 1) rfl (.inl hv) hd hd2) (by rfl)), ?_⟩
    refine sup_startH (T := tOst K g1 (tVar 0) (tVar 1) _) SF SE S hsup hp (by rw [har]; rfl) (by rw [har]; exact hs) hks hev rfl ha ?_
    exact ⟨v, rfl, .ref a, rfl, a, C, rfl, SE.oex, hg, .inl ⟨ha, fun dx n ne => h2 (by simp) dx n ne⟩⟩
theorem ok_exc2H (hbd : F.body = [supSt p0 p1 p2 p3 p4 p5 j msg, stoSt q0 q1 q2 q3 g1, stoSt r0 r1 r2 r3 g2]) (SF : SupFn P K f F D [] fd) (SE : SupExc K C D) (S : NdefX.NScope ["self", g1, g2, "__class__"] ["self", g1, g2] ["__class__"] F.scope) (hsup : mg "super" = none)
    (hp : (F.params.posonlyargs ++ F.params.args).head?.map (·.arg) = some ("self" : Str)) (hks : F.scope.names.lookup ("super" : Str) = some .globalImplicit) (hg : PySem.W.findIn K (.ref C) g1 = some none) (hg2 : PySem.W.findIn K (.ref C) g2 = some none)
    (hd : (g1 == ("__debug__" : Str)) = false) (hd2 : (g1 == ("__classdict__" : Str)) = false) (hd3 : (g2 == ("__debug__" : Str)) = false) (hd4 : (g2 == ("__classdict__" : Str)) = false)
    (hev : ∀ env : Env, ∃ pl, eval (.Call (.Attribute (.Call (.Name "super" p0) [] [] p1) "__init__" p2) [.Constant (.str msg) j p5] [] p3) env = (do
      let ov ← attributeBase (.Call (.Name "super" p0) [] [] p1) "__init__" env (eval (.Call (.Name "super" p0) [] [] p1) env)
      standAt p2.atName
      let (f, first) ← holding [ov] (getMethod ov "__init__" pl)
      callWith p3 f first (backTo p3 (starEach [.Constant (.str msg) j p5] env)) [])) : FnH P w K mg base (L2M.CX K P w) 1 f fd ["self", g1, g2] (spE C [g1, g2]) := by
  obtain ⟨ar, hp, har⟩ := Option.map_eq_some_iff.mp hp
  refine fn_supH SF hbd S (fun vs H Q E h => ?_) (fun A outer s H vs Q E pz hr h => ?_)
  · obtain ⟨a, ws, rfl, hl, _⟩ := h
    simpa using hl
  · obtain ⟨a, ws, rfl, hl, ha, h1, h2⟩ := h
    obtain ⟨v, v2, rfl⟩ : ∃ v v2, ws = [v, v2] := by
      match ws, hl with
      | [v, v2], _ => exact ⟨v, v2, rfl⟩
    have hv := S.par g1 (by simp)
    have hv2 := S.par g2 (by simp)
    have hs := S.par "self" (by simp)
    refine ⟨_, pss_cons (ps_ost (pe_var (i := 0) rfl (.inl hs) (by decide +kernel) (by decide +kernel)) (pe_var (i := 1) rfl (.inl hv) hd hd2) (by rfl)) (pss_one (ps_ost (pe_var (i := 0) rfl (.inl hs) (by decide +kernel) (by decide +kernel)) (pe_var (i := 2) rfl (.inl hv2) hd3 hd4) (by rfl))), ?_⟩
    refine sup_startH (T := tSeq (tOst K g1 (tVar 0) (tVar 1)) (tOst K g2 (tVar 0) (tVar 2)) _) SF SE S hsup hp (by rw [har]; rfl) (by rw [har]; exact hs) hks hev rfl ha ?_
    refine ⟨v, rfl, .ref a, rfl, a, C, rfl, SE.oex, hg, .inl ⟨ha, fun dx n ne => ?_⟩⟩
    refine ⟨v2, rfl, .ref a, rfl, a, C, rfl, SE.oex, hg2, .inr ⟨dx, _, upd_same, by rw [upd_ne ne, upd_same], by simp, ?_⟩⟩
    have e := h2 (by simp) dx n ne
    rw [upd_comm (Ne.symm ne), upd_upd]
    exact e
end
section
variable (P : Program) (w : World) (K : PySem.W.Frag) (mg : Str → Option Value) (base : Heap)
structure ExH (x : Str) (C : Addr) (fs : List Str) : Prop where
  ex : ∃ (f : Addr) (fd : FuncData) (ps : List Str), FnH P w K mg base (L2M.CX K P w) 1 f fd ps (spE C fs) ∧ PySem.W.findIn K (.ref C) "__init__" = some (some (.ref f)) ∧ PySem.W.typeIn K (.ref f) = some (.type "function") ∧ Binds K fd ps [] ∧ mg x = some (.ref C)
  oex : OexC K C
end
section
variable {X : Cx} {x : Str} {p pos : Pos} {e : Expr} {es : List Expr} {t : TA} {W : WX} {C : Addr} {fs : List Str}
theorem pmkEH (G : ExH X.prog X.w X.K X.mg X.base x C fs) (hne : fs ≠ []) (hlen : fs.length ≤ 900) (hr : RoomH 2 X.A) (hot : HotC X) (tk : L2M.Takes X W) (ha : PA X (e :: es) t) (hg : Gl X x) (hdb : (x == ("__debug__" : Str)) = false)
    (he : starEach (e :: es) X.env = (false, eval e X.env) :: starEach es X.env) (hpl : (backTo pos (starEach es X.env)).any (·.1) = false) :
    PMk5 X (.Call (.Name x p) (e :: es) [] pos) (fun σ H Q => t σ H fun vs H1 => vs.length = fs.length ∧ ∀ d, H1 d = none → Q (.ref C) (some d) (upd H1 d (.xd (fs.zip vs).reverse))) := by
  obtain ⟨fI, fd, ps, F1, iC, tI, hb, hm⟩ := G.ex
  intro pins s σ H Q I h
  have ha' : PA X (e :: es) (fun σ H Q => ∃ Q0, t σ H Q0 ∧ ∀ vs H1, Q0 vs H1 → Q vs H1) := ⟨fun ps pins s σ H Q I h => by
    obtain ⟨Q0, h, im⟩ := h
    refine thn (ha.run ps pins s σ H Q0 I h) fun us s1 hh => ?_
    obtain ⟨vs, H1, I1, r1, q1⟩ := hh
    exact ⟨vs, H1, I1, r1, im _ _ q1⟩⟩
  have K1 := L2H.pmk5_oexH (p := p) (pos := pos) G.oex iC tI F1 hr hot hb (L2M.passes_call (W := W) tk fun _ _ _ _ z => z.elim) hg hm ha' hdb he hpl pins s σ H Q I
  refine K1 ⟨_, h, fun vs H1 q => ?_⟩
  obtain ⟨hz, q1⟩ := q
  refine ⟨by omega, fun a hn => ?_⟩
  rw [List.append_nil]
  refine ⟨_, vs, rfl, hz, upd_same, fun e0 => absurd e0 hne, fun _ dx n ne => ⟨rfl, dx, _, upd_same, by rw [upd_ne ne, upd_same], ?_, ?_⟩⟩
  · rw [upd_ne ne] at n; exact n
  · rw [upd_ne ne] at n
    rw [xd_eq hn ne]; exact q1 dx n
end
/-! ### raise X(..) from e, in an except suite -/
def causeFrom (h : Heap) (a : Addr) (c : Value) : Heap := (h.update a (Obj.mapFields (·.setIfInBounds 3 c))).update a (Obj.mapFields (·.setIfInBounds 4 (.bool true)))
theorem cause_at {h : Heap} {a : Addr} {c : Value} {oe : Obj} {vs : Array Value} (ha : h.get? a = some oe) (hd : oe.data = .fields vs) :
    (causeFrom h a c).get? a = some ((oe.mapFields (·.setIfInBounds 3 c)).mapFields (·.setIfInBounds 4 (.bool true))) ∧ ((oe.mapFields (·.setIfInBounds 3 c)).mapFields (·.setIfInBounds 4 (.bool true))).data = .fields ((vs.setIfInBounds 3 c).setIfInBounds 4 (.bool true)) := by
  have d3 := Obj.data_mapFields hd (·.setIfInBounds 3 c)
  have a3 := Heap.get?_update_self (Obj.mapFields (·.setIfInBounds 3 c)) ha (PySem.Obj.isFreed_of_fields d3)
  have d4 := Obj.data_mapFields d3 (·.setIfInBounds 4 (.bool true))
  exact ⟨Heap.get?_update_self (Obj.mapFields (·.setIfInBounds 4 (.bool true))) a3 (PySem.Obj.isFreed_of_fields d4), d4⟩
theorem cause_other {h : Heap} {a b : Addr} {c : Value} (hne : a ≠ b) : (causeFrom h a c).get? b = h.get? b := by
  unfold causeFrom
  rw [Heap.get?_update_other _ _ hne, Heap.get?_update_other _ _ hne]
theorem isType_rec {M : Model} {A : Around} {E : Value → Shared → Prop} {s : Shared} {a : Addr} {oe : Obj} {vs : Array Value} {Q : Bool → Shared → Prop} (ha : s.heap.get? a = some oe) (hd : oe.data = .fields vs) (hq : Q false s) : wpAny M A (isType (.ref a)) Q E s := by
  simp only [isType, loadHead]
  refine wpAny_bind (wpAny_loadPart ha ?_)
  rw [hd]
  exact wpAny_pure hq
theorem raise_cause {prog : Program} {w : World} {A : Around} {E : Value → Shared → Prop} {env : Env} {s : Shared} {x c : Sem Value} {Q : Flow → Shared → Prop} {x1 : Addr}
    (h : wpAny (model prog w) A x (fun v s₁ => ∃ a oe vs cls z oz zs, v = .ref a ∧ s₁.heap.get? a = some oe ∧ oe.cls = cls ∧ oe.data = .fields vs ∧ vs[1]? = some .none ∧ 4 < vs.size ∧ x1 ≠ a ∧ HotX.HotAt A x1 s₁.heap ∧
      (∀ Q' : Value → Shared → Prop, Q' (.ref z) s₁ → wpAny (model prog w) A c Q' E s₁) ∧ s₁.heap.get? z = some oz ∧ oz.data = .fields zs ∧ PySem.W.Looks (model prog w) s₁.heap (isSubtype oz.cls (.type "BaseException")) true ∧
      PySem.W.Looks (model prog w) s₁.heap (isSubtype cls (.type "BaseException")) true ∧ PySem.W.Looks (model prog w) (causeFrom s₁.heap a (.ref z)) (typeOf cls) (.type "type") ∧
      E (.ref a) { s₁ with heap := (causeFrom s₁.heap a (.ref z)).update a (Obj.mapFields (·.setIfInBounds 2 (.ref x1))) }) E s) :
    wpAny (model prog w) A (raiseStmt env (some x) (some c)) Q E s := by
  unfold raiseStmt
  dsimp only
  refine wpAny_bind (wpAny_mono h (fun v s₁ h₁ => ?_) fun _ _ x => x)
  obtain ⟨a, oe, vs, cls, z, oz, zs, rfl, ha, hcls, hd, h1, hi, hne, hot, hc, hz, hzd, L0, L1, L3, hE⟩ := h₁
  have LT : PySem.W.Looks (model prog w) s₁.heap (typeOf (.ref a)) cls := fun A Q E s k q => wpAny_typeOf_ref (k _ _ ha) (by rw [hcls]; exact q)
  have LI : PySem.W.Looks (model prog w) s₁.heap (isInstance (.ref a) (.type "BaseException")) true := LT.andThen L1
  have LZ : PySem.W.Looks (model prog w) s₁.heap (typeOf (.ref z)) oz.cls := fun A Q E s k q => wpAny_typeOf_ref (k _ _ hz) q
  have LJ : PySem.W.Looks (model prog w) s₁.heap (isInstance (.ref z) (.type "BaseException")) true := LZ.andThen L0
  obtain ⟨ha4, hd4⟩ := cause_at (c := .ref z) ha hd
  have s3 : 3 < vs.size := by omega
  have hd3 := Obj.data_mapFields hd (·.setIfInBounds 3 (.ref z))
  have ha3 := Heap.get?_update_self (Obj.mapFields (·.setIfInBounds 3 (.ref z))) ha (PySem.Obj.isFreed_of_fields hd3)
  have s4 : 4 < (vs.setIfInBounds 3 (Value.ref z)).size := by rw [HotX.set_size]; exact hi
  have s2 : 2 < ((vs.setIfInBounds 3 (Value.ref z)).setIfInBounds 4 (Value.bool true)).size := by rw [HotX.set_size, HotX.set_size]; omega
  have h14 : ((vs.setIfInBounds 3 (Value.ref z)).setIfInBounds 4 (Value.bool true))[1]? = some Value.none := HotX.set_other (by decide) (HotX.set_other (by decide) h1)
  have hcls4 : ((oe.mapFields (·.setIfInBounds 3 (.ref z))).mapFields (·.setIfInBounds 4 (.bool true))).cls = cls := by rw [Obj.cls_mapFields, Obj.cls_mapFields]; exact hcls
  have LT4 : PySem.W.Looks (model prog w) (causeFrom s₁.heap a (.ref z)) (typeOf (.ref a)) cls := fun A Q E s k q => wpAny_typeOf_ref (k _ _ ha4) (by rw [hcls4]; exact q)
  have hot4 : HotX.HotAt A x1 (causeFrom s₁.heap a (.ref z)) := by
    obtain ⟨q1, o, vs', q2, q3, q4⟩ := hot
    exact ⟨q1, o, vs', by rw [cause_other (Ne.symm hne)]; exact q2, q3, q4⟩
  have tail : wpAny (model prog w) A (do
      let b ← isType (.ref a)
      if b = true then do
        let e ← holding [.ref a] (raisedFor (.ref a) (.ref a))
        setFlight e none
        raiseNew e
      else do
        let e ← raisedInstance (.ref a)
        setFlight e none
        raiseNew e : Sem Flow) Q E { s₁ with heap := causeFrom s₁.heap a (.ref z) } := by
    refine wpAny_bind (isType_rec ha4 hd4 ?_)
    simp only [Bool.false_eq_true, if_false]
    unfold raisedInstance
    refine wpAny_bind (wpAny_bind (LT4.here (wpAny_bind (L3.here ?_))))
    rw [if_pos (beq_self_eq_true _)]
    refine wpAny_pure ?_
    unfold setFlight
    refine wpAny_bind (wpAny_bind (wpAny_field ha4 hd4 h14 ?_))
    rw [if_neg (by decide)]
    refine wpAny_pure ?_
    exact HotX.raiseNew_hot hot4 hne ha4 hd4 s2 hE
  refine wpAny_bind (wpAny_holding (hc _ (wpAny_bind (wpAny_pure ?_))))
  dsimp only
  refine wpAny_bind (wpAny_holding ?_)
  unfold excFromValue isExcClass
  refine wpAny_bind (wpAny_bind (isType_rec ha hd ?_))
  simp only [Bool.false_eq_true, if_false]
  refine wpAny_pure ?_
  simp only [Bool.false_eq_true, if_false]
  refine wpAny_bind (LI.here ?_)
  simp only [if_true]
  refine wpAny_pure ?_
  rw [if_neg (show ¬ ((Value.ref z == Value.none) = true) from by simp)]
  refine wpAny_bind (wpAny_holding (wpAny_bind (wpAny_bind (isType_rec hz hzd ?_))))
  simp only [Bool.false_eq_true, if_false]
  refine wpAny_pure ?_
  simp only [Bool.false_eq_true, if_false]
  refine wpAny_bind (LJ.here ?_)
  simp only [if_true]
  refine wpAny_pure ?_
  refine wpAny_bind (wpAny_setField ha hd s3 (wpAny_bind (wpAny_setField ha3 hd3 s4 ?_)))
  exact tail
/-- the value of a local variable, with the state as it was -/
theorem var_at {X : Cx} {pins : List (Addr × Obj)} {σ : St} {H : Hp} {s : Shared} {i : Nat} {x : Str} {pos : Pos} {a : Addr} {Q : Value → Shared → Prop} {E : Value → Shared → Prop} (I : Inv X pins σ H s) (hN : X.N[i]? = some x) (e : σ[i]? = some (some (.ref a))) (hv : Vis X.env.scope x) (hd : (x == ("__debug__" : Str)) = false) (hcd : (x == ("__classdict__" : Str)) = false)
    (h : Q (.ref a) s) : wpAny (model X.prog X.w) X.A (eval (.Name x pos) X.env) Q E s := by
  obtain ⟨m, hn, hl⟩ := I.loc
  obtain ⟨u, r, l⟩ := hl i x _ hN e hv
  obtain rfl : u = Value.ref a := r
  rcases l with ⟨hk, hm⟩ | ⟨hk, c, hc, hcell⟩
  · exact wpAny_Name (wpAny_loadName_local I.ok.kind hk hn hm h) hd
  · rcases hk with hk | hk
    · exact wpAny_Name (wpAny_loadName_cell I.ok.kind hk hc hcell h) hd
    · exact wpAny_Name (wpAny_loadName_free I.ok.kind hk hc hcell h hcd) hd
/-- raise X(..) from n, in the suite of except .. as n -/
def tRsF (K : PySem.W.Frag) (i : Nat) (a : Addr) (cls : Value) (C : Addr) (fs : List Str) (W : WX) (t : TA) : TS := fun _ σ H => σ[i]? = some (some (.ref a)) ∧ PySem.W.subIn K cls (.type "BaseException") = some true ∧
  t σ H fun vs H1 => vs.length = fs.length ∧ ∀ d, H1 d = none → L2M.calmC K (.ref C) = false ∧ W (.ref C) (some d) σ (upd H1 d (.xd (fs.zip vs).reverse))
section
variable {X : Cx} {x n : Str} {p pos cpos : Pos} {e : Expr} {es : List Expr} {t : TA} {W : WX} {C : Addr} {fs : List Str} {i : Nat} {a : Addr} {oe : Obj} {cls : Value} {d0 : Option Addr} {pn : List (Addr × Obj)} {xe : Value → Shared → Prop}
theorem praiseF (G : ExH X.prog X.w X.K X.mg X.base x C fs) (hr : Room 2 X.A) (hz : L2M.Zm X.K cls d0 oe) (hf : ∃ vs, oe.data = .fields vs) (hot : HotC (suiteY X a ((a, oe) :: pn) xe)) (tk : L2M.Takes (suiteY X a ((a, oe) :: pn) xe) W) (ha : PA (suiteY X a ((a, oe) :: pn) xe) (e :: es) t) {pos' : Pos}
    (hN : X.N[i]? = some n) (hv : Vis X.env.scope n) (hd : (n == ("__debug__" : Str)) = false := by decide +kernel) (hcd : (n == ("__classdict__" : Str)) = false := by decide +kernel)
    (hne : fs ≠ [] := by decide) (hlen : fs.length ≤ 900 := by decide) (hg : Gl X x := by rfl) (hdb : (x == ("__debug__" : Str)) = false := by decide +kernel)
    (he : starEach (e :: es) X.env = (false, eval e X.env) :: starEach es X.env := by rfl) (hpl : (backTo pos (starEach es X.env)).any (·.1) = false := by rfl) :
    PS (suiteY X a ((a, oe) :: pn) xe) (.Raise (some (.Call (.Name x p) (e :: es) [] pos)) (some (.Name n cpos)) pos') (tRsF X.K i a cls C fs W t) := by
  have he5 := pmkEH (X := suiteY X a ((a, oe) :: pn) xe) (p := p) G hne hlen (L2H.roomH_mark hr _) hot tk ha hg hdb he hpl
  refine ⟨fun pins s σ H D I h => ?_⟩
  obtain ⟨hσ, hsub, h⟩ := h
  obtain ⟨p1, ⟨hh, v1, e1, c1⟩, hp⟩ := hot
  show wpAny _ _ (do standAt pos'; raiseStmt X.env (some (do let v ← eval (.Call (.Name x p) (e :: es) [] pos) X.env; standAt pos'; pure v)) (some (do let v ← eval (.Name n cpos) X.env; standAt pos'; pure v))) _ _ _
  refine wpAny_bind (wpAny_standAt (raise_cause (x1 := p1.1) (wpAny_bind (wpAny_mono (he5 pins s σ H (fun cls d H' => L2M.calmC X.K cls = false ∧ W cls d σ H') I h) (fun u s1 hu => wpAny_bind (wpAny_standAt (wpAny_pure ?_))) fun _ _ x => x))))
  obtain ⟨⟨b, ob, vs, sI, H', cls', d, rfl, J, k, hne', hb, hzb, hdb', h1, na, os, ag, r, hcls', q⟩, h5⟩ := hu
  have hi : 4 < vs.size := h5 b ob vs rfl hb hdb'
  have k4 : ∀ c u, sI.heap.get? c = some u → (causeFrom s1.heap b (.ref a)).get? c = some u := fun c u z => by
    have nab : b ≠ c := fun y => by
      rw [← y, hne'] at z
      cases z
    rw [cause_other nab]
    exact k c u z
  obtain ⟨r1, _⟩ := r (model X.prog X.w) s1.heap (J.kIn.keeps k)
  obtain ⟨_, r2⟩ := r (model X.prog X.w) (causeFrom s1.heap b (.ref a)) (J.kIn.keeps k4)
  have P1 := (J.pin p1 (List.mem_append_left _ hp)).1
  have PA1 := (J.pin (a, oe) (List.mem_append_left _ List.mem_cons_self)).1
  have nap : p1.1 ≠ b := fun z => by
    rw [z, hne'] at P1
    cases P1
  obtain ⟨ha4, hd4⟩ := cause_at (c := .ref a) hb hdb'
  have h12 : (((vs.setIfInBounds 3 (Value.ref a)).setIfInBounds 4 (Value.bool true)).setIfInBounds 2 (Value.ref p1.1))[1]? = some Value.none := HotX.set_other (by decide) (HotX.set_other (by decide) (HotX.set_other (by decide) h1))
  have J1 : Inv (suiteY X a ((a, oe) :: pn) xe) pins σ H' s1 := J.landed (B := PySem.W.hideAll sI.heap (frs X.stack)) (fun c o e hb => PySem.W.hideAll_get _ e hb) (fun c o e => k c o (PySem.W.of_hideAll _ e)) (Heap.UpToSlots.of_keeps k) os ag
  obtain ⟨fv, hfv⟩ := hf
  refine ⟨b, ob, vs, cls', a, oe, fv, rfl, hb, hzb.1, hdb', h1, hi, nap, ⟨hh, p1.2, v1, k _ _ P1, e1, c1⟩, fun Q' q' => wpAny_bind (var_at J1 hN hσ hv hd hcd (wpAny_bind (wpAny_standAt (wpAny_pure q')))), k _ _ PA1, hfv, ?_, r1, r2,
    tk _ _ (L2M.XE.new J (fun c u z => ?_) hne' (Heap.get?_update_self _ ha4 (PySem.Obj.isFreed_of_fields (Obj.data_mapFields hd4 _)))
    ⟨by rw [Obj.cls_mapFields, Obj.cls_mapFields, Obj.cls_mapFields]; exact hzb.1, by rw [HandSPX.dict_mapFields, HandSPX.dict_mapFields, HandSPX.dict_mapFields]; exact hzb.2.1, fun z => by rw [hcls'] at z; cases z⟩ (Obj.data_mapFields hd4 _) h12 na os ag q)⟩
  · rw [hz.1]
    exact PySem.W.looks_subIn (J.kIn.keeps k) hsub
  · have nab : b ≠ c := fun y => by
      rw [← y, hne'] at z
      cases z
    show ((causeFrom s1.heap b (.ref a)).update b (Obj.mapFields (·.setIfInBounds 2 (.ref p1.1)))).get? c = some u
    rw [Heap.get?_update_other _ _ nab]
    exact k4 c u z
end
/-! ### facts -/
def bCalm (x : Str) (b : Bool) : BF := fun K => L2M.calmC K (.ref (He.ga K x)) == b
theorem calm_of {K : PySem.W.Frag} {x : Str} {b : Bool} (c : bCalm x b K = true) : L2M.calmC K (.ref (He.ga K x)) = b := eq_of_beq c
def bSubB (x : Str) : BF := fun K => decide (PySem.W.subIn K (.ref (He.ga K x)) (.type "BaseException") = some true)
theorem subB_of {K : PySem.W.Frag} {x : Str} (c : bSubB x K = true) : PySem.W.subIn K (.ref (He.ga K x)) (.type "BaseException") = some true := of_decide_eq_true c
end Ta

set_option Elab.async false
set_option linter.all false
set_option maxRecDepth 100000
set_option maxHeartbeats 2000000
namespace Ta
open PySem PySem.Spec PyProof.Rows L2

/-! ### xs[n:] = ys, of two lists -/
theorem bounds_from {a n : Nat} (h : a ≤ n) : sliceBounds (some (a : Int)) none none n = ((a : Int), (n : Int), 1) := by
  obtain ⟨h1, h2, h3⟩ := slice_bounds (some (a : Int)) none n
  refine Prod.ext (h1.trans ?_) (Prod.ext (h2.trans ?_) h3)
  · rw [HT.sIx_nat]
    show ((min a n : Nat) : Int) = (a : Int)
    omega
  · rfl
section
variable {prog : Program} {w : World} {A : Around} {E : Value → Shared → Prop} {s : Shared}
theorem setItem_from {l b sl : Addr} {items new : Array Value} {n n2 : Nat} {vl : Value} {a : Nat} {Q : Unit → Shared → Prop}
    (e : s.heap.get? l = some { cls := .type "list", data := .seq items n }) (e2 : s.heap.get? b = some { cls := .type "list", data := .seq new n2 }) (hne : l ≠ b)
    (hs : s.heap.IsSliceOf sl vl .none .none) (pl : IsPart vl (some (a : Int))) (ha : a ≤ items.size)
    (hsz : items.size + new.size ≤ sizeLine) (h : Q () { s with heap := s.heap.update l (Obj.mapSeq fun xs => xs.extract 0 a ++ new ++ xs.extract items.size xs.size) }) :
    wpAny (model prog w) A (setItem (.ref l) (.ref sl) (.ref b)) Q E s := by
  have hl : s.heap.IsList l items := PySem.IsL.isList e
  have hb : s.heap.IsList b new := PySem.IsL.isList e2
  obtain ⟨os, hos, hcs, hds⟩ := id hs
  have hT : s.TypeIs (.ref sl) "slice" := ⟨os, hos, hcs⟩
  have hmax : (max (a : Int) (items.size : Int)).toNat = items.size := by omega
  have hsame : Builtin.List.listSameRef (.ref l) (.ref b) = false := beq_eq_false_iff_ne.mpr hne
  have hz' : ((fun xs : Array Value => xs.extract 0 a ++ new ++ xs.extract items.size xs.size) items).size ≤ sizeLine + 1 := by
    simp only [Array.size_append, Array.size_extract]
    omega
  unfold setItem
  try with_reducible refine wpAny_holding ?_
  first | refine wpAny_bind (wpAny_pure ?_) | skip
  refine wpAny_bind (wpAny_sequenceKey hl.typeIs (by decide) ?_)
  refine wpAny_bind (wpAny_callSpecial?_slot (name := Str.ofString "__setitem__") hl.typeIs slot_list_setitem (wpAny_call_entry slot_list_setitem hl.typeIs entry_list_setitem ?_ (args_list_setitem _ _ _)))
  show wpAny _ _ (Builtin.List.listSubscript? (.ref sl) >>= _) _ _ s
  refine wpAny_bind ?_
  unfold Builtin.List.listSubscript?
  refine wpAny_bind (wpAny_specialOf hT slice_no_index ?_)
  simp only [Option.isNone_none, if_true]
  refine wpAny_pure ?_
  show wpAny _ _ (typeOf (.ref sl) >>= _) _ _ s
  refine wpAny_bind (wpAny_typeOf hT ?_)
  refine PySem.W.KFB.if_not (by decide) ?_
  rw [listSliceParts_eq]
  refine wpAny_bind (wpAny_bind (wpAny_field hos hds (x := .none) rfl (wpAny_bind (wpAny_listPart .none ?_))))
  rw [if_neg (show ¬ ((rawPart none == rawInt 0) = true) from Bool.false_ne_true)]
  refine wpAny_bind (wpAny_field hos hds (x := vl) rfl (wpAny_bind (wpAny_listPart pl ?_)))
  refine wpAny_bind (wpAny_field hos hds (x := .none) rfl (wpAny_bind (wpAny_listPart .none (wpAny_pure ?_))))
  first
    | simp only [hsame, Bool.false_eq_true, if_false]
    | refine PySem.W.KFB.if_not hsame ?_
  refine wpAny_bind (m := Builtin.List.listAllItems (.ref b) "must assign iterable to extended slice") ?_
  unfold Builtin.List.listAllItems
  refine wpAny_bind (wpAny_typeOf hb.typeIs ?_)
  first
    | refine PySem.W.KFB.if_so (by decide) ?_
    | simp only [beq_self_eq_true, Bool.true_or, if_true]
  unfold Builtin.List.listItems
  refine wpAny_bind (wpAny_seqItems e2 rfl (wpAny_pure ?_))
  refine wpAny_bind (wpAny_bind (wpAny_seqItems e rfl (wpAny_pure ?_)))
  refine wpAny_bind (wpAny_of_eq ((sliceIndices_raw (some (a : Int)) none none items.size (by simp)).trans (congrArg (pure : Int × Int × Int → Sem (Int × Int × Int)) (bounds_from ha))) ?_)
  show wpAny _ _ (if ((1 : Int) == 1) = true then _ else _) _ _ s
  rw [if_pos (by decide)]
  refine wpAny_bind (wpAny_rule ?_)
  first
    | simp only [notLongL hsz, Bool.false_eq_true, if_false]
    | refine PySem.W.KFB.if_not (notLongL hsz) ?_
  first | refine wpAny_bind (wpAny_pure ?_) | skip
  show wpAny _ _ (updateSeq l (fun xs => xs.extract 0 ((a : Int)).toNat ++ new ++ xs.extract (max (a : Int) (items.size : Int)).toNat xs.size) >>= _) _ _ s
  rw [hmax, Int.toNat_natCast]
  refine wpAny_bind (wpAny_updateSeq (hz := Nat.le_trans (Nat.le_add_right _ _) hsz) (_hz' := hz') e rfl ?_)
  refine wpAny_bind (wpAny_letGo ?_)
  first
    | exact wpAny_bind (wpAny_pure (wpAny_pure ⟨.none, rfl, wpAny_pure h⟩))
    | exact wpAny_pure ⟨.none, rfl, wpAny_pure h⟩
end
/-- o[k:] = x, both lists, k within the list -/
def zFrom (o k x : V) (H : Hp) (Q : Hp → Prop) : Prop := match o with
  | .ref p => (match k with
    | .int i => (match x with
      | .ref b => look H p fun ob => (match ob with
        | some (.lst xs) => look H b fun ob2 => (match ob2 with
          | some (.lst ys) => 0 ≤ i ∧ i ≤ xs.length ∧ xs.length + ys.length ≤ sizeLine ∧ p ≠ b ∧ Q (upd H p (.lst (xs.take i.toNat ++ ys)))
          | _ => False)
        | _ => False)
      | _ => False)
    | _ => False)
  | _ => False
theorem zFrom_e {o k x : V} {H : Hp} {Q : Hp → Prop} (h : zFrom o k x H Q) : ∃ p i b xs ys, o = .ref p ∧ k = .int i ∧ x = .ref b ∧ H p = some (.lst xs) ∧ H b = some (.lst ys) ∧ 0 ≤ i ∧ i ≤ xs.length ∧ xs.length + ys.length ≤ sizeLine ∧ p ≠ b ∧ Q (upd H p (.lst (xs.take i.toNat ++ ys))) := by
  cases o with
  | ref p => cases k with
    | int i => cases x with
      | ref b =>
        have h := look_e h
        cases ea : H p with
        | none => rw [ea] at h; exact h.elim
        | some ob =>
          rw [ea] at h
          cases ob with
          | lst xs =>
            have h := look_e h
            cases eb : H b with
            | none => rw [eb] at h; exact h.elim
            | some ob2 =>
              rw [eb] at h
              cases ob2 with
              | lst ys =>
                obtain ⟨h1, h2, h3, h4, h5⟩ := h
                exact ⟨p, i, b, xs, ys, rfl, rfl, rfl, ea, eb, h1, h2, h3, h4, h5⟩
              | _ => exact h.elim
          | _ => exact h.elim
      | _ => exact h.elim
    | _ => exact h.elim
  | _ => exact h.elim
def tFrom (te to tl : TE) : TS := fun D σ H => te σ H fun x H0 => to σ H0 fun o H1 => tl σ H1 fun k H2 => zFrom o k x H2 fun H3 => D.nx σ H3
section
variable {X : Cx}
theorem psfrom {o lo e : Expr} {to tl te : TE} {pos pos' p2 : Pos} (he : PE X e te) (ho : PE X o to) (hl : PE X lo tl) (hs : swapsWithSole [.Subscript o (.Slice (some lo) none none p2) pos'] e pos.line X.env = pure false := by rfl) (hw : swappedStores [.Subscript o (.Slice (some lo) none none p2) pos'] e X.env = pure none := by rfl)
    (h3 : List.map (fun x => x.snd) (assignEach [.Subscript o (.Slice (some lo) none none p2) pos'] X.env) = [assign (.Subscript o (.Slice (some lo) none none p2) pos') X.env] := by rfl) (h4 : ∀ v : Value, assign (.Subscript o (.Slice (some lo) none none p2) pos') X.env v = (do
      let ov ← holding [v] (eval o X.env)
      let iv ← holding [v, ov] (eval (.Slice (some lo) none none p2) X.env)
      standAt pos'
      holding [v, ov, iv] (setItem ov iv v)
      release [iv, v, ov] []) := by intro v; rfl) : PS X (.Assign [.Subscript o (.Slice (some lo) none none p2) pos'] e pos) (tFrom te to tl) := by
  refine ⟨fun pins s σ H D I h => ?_⟩
  refine wpAny_Assign_stores (thn (he.run pins s σ H _ I h) fun v s0 ⟨x, H0, I0, r0, q0⟩ => ?_) hs hw
  rw [h3]
  show wpAny _ _ (assign (.Subscript o (.Slice (some lo) none none p2) pos') X.env v) _ _ _
  rw [h4]
  refine wpAny_bind (wpAny_holding (thn (ho.run pins s0 σ H0 _ I0 q0) fun ov s1 ⟨y, H1, I1, r1, q1⟩ => ?_))
  refine wpAny_bind (wpAny_holding (wpAny_Slice ?_))
  rw [evalPart_some]
  refine thn (hl.run pins s1 σ H1 _ I1 q1) fun kv s2 ⟨k, H2, I2, r2, q2⟩ => ?_
  rw [evalPart_none]
  refine wpAny_pure (wpAny_pure ?_)
  have I4 : Inv X pins σ H2 { s2 with heap := s2.heap.push { cls := .type "slice", data := .fields #[kv, .none, .none] } } := I2.kept (t' := s2.toks) fun b ob q => Heap.get?_push_of_some _ q
  obtain ⟨p, i, b, xs, ys, rfl, rfl, rfl, hp, hb, h1, h2, h3', h4', q⟩ := zFrom_e q2
  obtain rfl : ov = Value.ref p := r1
  obtain rfl : v = Value.ref b := r0
  obtain ⟨t, rfl⟩ := (show ∃ t, kv = Value.int i t from r2)
  obtain ⟨a, rfl⟩ := Int.eq_ofNat_of_zero_le h1
  obtain ⟨z, its, n, r, hl, e⟩ := I4.lstM hp
  obtain ⟨z2, its2, n2, r2', hl2, e2⟩ := I4.lstM hb
  have hlen : (a : Nat) ≤ its.length := by omega
  refine wpAny_bind (wpAny_standAt (wpAny_bind (wpAny_holding (setItem_from (a := a) e e2 h4' (Heap.IsSliceOf.new ..) (.int _ _) (by rw [List.size_toArray]; exact hlen) (by rw [List.size_toArray, List.size_toArray]; omega) ?_))))
  refine wpAny_release ⟨σ, _, ?_, q⟩
  refine I4.lset (its' := its.take a ++ its2 ++ its.drop its.length) (t' := s2.toks) hp e ?_ ?_ ?_
  · exact (splice_eq its its2 a its.toArray.size).trans (by rw [List.size_toArray])
  · rw [List.drop_length, List.append_nil, Int.toNat_natCast]
    exact Vals.append (r.take _) r2'
  · rw [List.length_append, List.length_take]
    omega
end
/-! ### x(..) of an instance with __call__ -/
def tObj (ms : MS) (W : WX) (to : TE) (t : TA) : TE := fun σ H Q => to σ H fun x H1 => match x with
  | .ref a => t σ H1 fun vs H2 => look H2 a fun o => (match o with
    | some (.ins C dx fs) => pick ms C fun dvs sp => sp (.ref a :: (vs ++ dvs)) H2 Q fun c d H' => W c d σ H'
    | _ => False)
  | _ => False
section
variable {X : Cx} {x : Str} {p pos : Pos} {e : Expr} {es : List Expr} {t : TA} {to : TE} {lv : Nat} {W : WX}
theorem callWith_ins {M : Model} {A : Around} {E : Value → Shared → Prop} {s : Shared} {env : Env} {pos : Pos} {a : Addr} {Q : Value → Shared → Prop} {e : Expr} {rest : List Expr}
    (h : wpAny M A (spliced (backTo pos (starEach (e :: rest) env))) (fun vs s₁ => (∃ ox, s₁.heap.get? a = some ox ∧ ox.data = .plain) ∧ wpAny M A (call (.ref a) vs) Q E s₁) E s)
    (he : starEach (e :: rest) env = (false, eval e env) :: starEach rest env) (hplain : (backTo pos (starEach rest env)).any (·.1) = false) :
    wpAny M A (callWith pos (.ref a) [] (backTo pos (starEach (e :: rest) env)) []) Q E s := by
  rw [he] at h ⊢
  have hpl : ((backTo pos ((false, eval e env) :: starEach rest env)).any (·.1) || ([] : List (Option Str × Sem Value)).any (·.1.isNone)) = false := by
    show ((false || (backTo pos (starEach rest env)).any (·.1)) || false) = false
    rw [hplain]
    rfl
  have h2 : wpAny M A (evalArgs (.ref a) true (backTo pos ((false, eval e env) :: starEach rest env)) []) (fun r s₁ => (∃ ox, s₁.heap.get? a = some ox ∧ ox.data = .plain) ∧ wpAny M A (call (.ref a) ([] ++ r.pos) r.kw) Q E s₁) E s := Calls.evalArgs_plain h
  unfold callWith
  refine wpAny_bind (wpAny_holding (wpAny_mono h2 (fun r s₁ h₁ => wpAny_bind (wpAny_standAt ?_)) fun _ _ y => y))
  obtain ⟨⟨ox, ho, hd⟩, hc⟩ := h₁
  have L : PySem.W.Looks M s₁.heap (keeperOf (.ref a)) .caller := by
    refine (PySem.W.Looks.ld (part := none) ho).andThen ?_
    simp only [hd]
    exact .now
  simp only [hpl]
  refine wpAny_bind (L.here ?_)
  have tail : ∀ {t : Sem Value}, wpAny M A t Q E s₁ → wpAny M A (t >>= fun r => holding [r] point >>= fun _ => pure r) Q E s₁ :=
    fun ht => wpAny_bind (wpAny_mono ht (fun r s₂ hr => wpAny_bind (wpAny_holding (wpAny_point (wpAny_pure hr)))) fun _ _ y => y)
  exact tail (wpAny_operateT hc)
theorem pocall {ms : MS} (hms : ∀ e ∈ ms, Me X.prog X.w X.K X.mg X.base e.1 "__call__" lv e.2.1 e.2.2 ∧ MethFn X.K e.1 "__call__") (hr : Room lv X.A) (tk : L2M.Takes X W) (ho : PE X (.Name x p) to) (ha : PA X (e :: es) t)
    (he : starEach (e :: es) X.env = (false, eval e X.env) :: starEach es X.env := by rfl) (hpl : (backTo pos (starEach es X.env)).any (·.1) = false := by rfl) :
    PE X (.Call (.Name x p) (e :: es) [] pos) (tObj ms W to t) := by
  refine ⟨fun pins s σ H Q I h => ?_⟩
  refine wpAny_Call_Name_kw (thn (ho.run pins s σ H _ I h) fun u s1 ⟨v, H1, I1, r1, q⟩ => ?_)
  show wpAny _ _ (callWith pos u [] (backTo pos (starEach (e :: es) X.env)) []) _ _ _
  cases v with
  | ref a =>
    obtain rfl : u = Value.ref a := r1
    refine callWith_ins (thn (ha.run pos pins s1 σ H1 _ I1 q) fun us s2 ⟨vs, H2, I2, r, q2⟩ => ?_) he hpl
    obtain ⟨C, dx, fs, ea, en, hen, eC, q3⟩ := tMe_e (k := fun dvs sp fs => sp (.ref a :: (vs ++ dvs)) H2 Q fun c d H' => W c d σ H') q2
    obtain ⟨⟨⟨f, fd, ps, ds, F, hm, hd, hb⟩, cl⟩, mf⟩ := hms en hen
    rw [← eC] at ea
    obtain ⟨mA, J, _⟩ := ins_get I2.hok ea
    obtain ⟨od, J, _⟩ := J.look
    have isf : PySem.W.fnIn X.K f = true := by
      obtain ⟨g, e1, e2⟩ := mf
      have e3 := hm.at_
      rw [e1] at e3
      cases e3
      exact e2
    refine ⟨⟨_, J.at_, rfl⟩, ?_⟩
    have r2 : Vals (.ref a :: (vs ++ en.2.1)) (.ref a :: (us ++ ds)) := .cons rfl (r.append hd)
    have hl : (Value.ref a :: us ++ ds).length = ps.length := by
      have e := r2.length
      rw [F.len _ _ _ _ q3] at e
      exact e.symm
    refine wpAny_call (PySem.W.kco_code I2.kIn J rfl hm.at_ hm.fn isf (codeAny_mono (F.run X.A X.stack s2 H2 ⟨.ref a :: us, []⟩ (.ref a :: (us ++ ds)) _ Q (WE W σ) hr I2.env0 (hb s2 (.ref a :: us) I2.kIn hl) r2 q3) fun r s' hq => ?_))
    cases r with
    | error e => exact L2M.passAt tk σ pins _ _ e s' I2 hq
    | ok fl =>
      cases fl with
      | ret u => exact I2.after hq
      | next => exact False.elim hq
      | brk => exact False.elim hq
      | cont => exact False.elim hq
  | _ => exact q.elim
end
/-! ### str of an instance of one of several classes -/
def zStrM (ms : MS) : List V → Hp → VK → Prop := fun xs H Q => one xs fun x => match x with
  | .ref a => look H a fun o => (match o with
    | some (.ins C dx fs) => pick ms C fun dvs sp => sp (.ref a :: dvs) H (fun v H' => match v with
      | .str y => Q (.str y) H'
      | _ => False) fun _ _ _ => False
    | _ => False)
  | _ => False
section
variable {X : Cx}
theorem crstrM {ms : MS} {lv : Nat} (hms : ∀ e ∈ ms, Me X.prog X.w X.K X.mg X.base e.1 "__str__" lv e.2.1 e.2.2) (hr : Room (lv + 2) X.A) : CallR X (.type "str") (zStrM ms) := by
  intro pins s σ H xs us Q I r h
  obtain ⟨x, rfl, h⟩ := one_e h
  obtain ⟨u, rfl, rx⟩ := vals1 r
  cases x with
  | ref a =>
    obtain ⟨C, dx, fs, ea, en, hen, eC, h3⟩ := tMe_e (k := fun dvs sp fs => sp (.ref a :: dvs) H (fun v H' => match v with
      | .str y => Q (.str y) H'
      | _ => False) fun _ _ _ => False) h
    obtain rfl : u = Value.ref a := rx
    obtain ⟨⟨f, fd, ps, ds, F, hm, hd, hb⟩, cl⟩ := hms en hen
    rw [← eC] at ea
    obtain ⟨mA, J, _⟩ := ins_get I.hok ea
    obtain ⟨od, J, _⟩ := J.look
    have hr2 : Room lv X.A.in1.in1 := (hr.in1 (k := lv + 1)).in1
    refine PySem.W.kso_call hr2.units0 I.kIn J hm.at_ hm.fn ?_
    have r2 : Vals ([V.ref a] ++ en.2.1) ([Value.ref a] ++ ds) := .cons rfl hd
    have hl : ([Value.ref a] ++ ds).length = ps.length := by rw [← r2.length]; exact F.len _ _ _ _ h3
    refine wpAny_call (codeAny_mono (F.run X.A.in1.in1 X.stack s H ⟨[.ref a], []⟩ ([.ref a] ++ ds) ([.ref a] ++ en.2.1) _ (WE WF σ) hr2 I.env0.in1.in1 (hb s [.ref a] I.kIn hl) r2 h3) fun r s' hq => ?_)
    cases r with
    | error e => exact L2M.passAt L2M.takes0 σ pins H s e s' I hq
    | ok fl =>
      cases fl with
      | ret u =>
        have q0 := I.after hq
        obtain ⟨z, H', I', rz, q⟩ := q0
        cases z with
        | str y =>
          obtain ⟨t, rfl⟩ : ∃ t, u = Value.str y t := rz
          exact ⟨.str y, H', I', ⟨t, rfl⟩, q⟩
        | _ => exact q.elim
      | next => exact False.elim hq
      | brk => exact False.elim hq
      | cont => exact False.elim hq
  | _ => exact h.elim
end
end Ta

set_option Elab.async false
set_option linter.all false
set_option maxRecDepth 100000
set_option maxHeartbeats 2000000
namespace Ta
open PySem PySem.Spec PyProof.Rows L2 ClX He

/-! ### calls with keywords -/
section
variable (P : Program) (w : World) (K : PySem.W.Frag) (mg : Str → Option Value) (base : Heap)
structure FnKw (x : Str) (n : Nat) (ks : List Str) (gV : List V → List V → List V) (lv : Nat) (sp : Sp) : Prop where
  ex : ∃ (f : Addr) (fd : FuncData) (ps : List Str) (g : List Value → List Value → List Value), FnOk P w K mg base (L2M.CX K P w) lv f fd ps sp ∧ mg x = some (.ref f) ∧ PySem.W.keepIn K (.ref f) = true ∧ KBn K fd ps n ks g gV
structure MkKw (x : Str) (C : Addr) (n : Nat) (ks : List Str) (gV : List V → List V → List V) (lv : Nat) (sp : Sp) : Prop where
  ex : ∃ (f : Addr) (fd : FuncData) (ps : List Str) (g : List Value → List Value → List Value), FnOk P w K mg base (L2M.CX K P w) lv f fd ps sp ∧ Mk K C f ∧ mg x = some (.ref C) ∧ KBn K fd ps (n + 1) ks g gV
/-- what super().m(.., k = v) is for an object of class C, said in a def of class D -/
structure SuKw (D C : Addr) (m : Str) (n : Nat) (ks : List Str) (gV : List V → List V → List V) (lv : Nat) (sp : Sp) : Prop where
  ex : ∃ (f : Addr) (fd : FuncData) (ps : List Str) (g : List Value → List Value → List Value), FnOk P w K mg base (L2M.CX K P w) lv f fd ps sp ∧ PySem.W.ks_superIn K C D m = some (some (.ref f)) ∧ PySem.W.typeIn K (.ref f) = some (.type "function") ∧ PySem.W.fnIn K f = true ∧ KBn K fd ps (n + 1) ks g gV
  sub : PySem.W.mroIn K C (.ref D) = some true
  third : PySem.W.nsIn K cStatics "thirdparty.any" = some none
end
def tCalK (sp : Sp) (n m : Nat) (gV : List V → List V → List V) (W : WX) (t tk : TA) : TE := fun σ H Q => t σ H fun vs H1 => tk σ H1 fun zs H2 => vs.length = n ∧ zs.length = m ∧ sp (gV vs zs) H2 Q fun c d H' => W c d σ H'
def tMakK (C : Addr) (sp : Sp) (n m : Nat) (gV : List V → List V → List V) (W : WX) (t tk : TA) : TE := fun σ H Q => t σ H fun vs H1 => tk σ H1 fun zs H2 => vs.length = n ∧ zs.length = m ∧ ∀ x dx, H2 x = none → H2 dx = none → dx ≠ x →
  sp (gV (.ref x :: vs) zs) (upd (upd H2 dx (.own x)) x (.ins C dx [])) (fun v H3 => v = .non ∧ Q (.ref x) H3) fun c d H' => W c d σ H'
/-- rows: class, how the values are put in order, the promise -/
abbrev MSK := List (Addr × (List V → List V → List V) × Sp)
structure pickK (ms : MSK) (C : Addr) (k : (List V → List V → List V) → Sp → Prop) : Prop where
  out : ∃ e ∈ ms, e.1 = C ∧ k e.2.1 e.2.2
theorem pickK_1 {C : Addr} {gV : List V → List V → List V} {sp : Sp} {k : (List V → List V → List V) → Sp → Prop} {r : MSK} (h : k gV sp) : pickK ((C, gV, sp) :: r) C k := by refine ⟨?_⟩; exact ⟨_, List.mem_cons_self, rfl, h⟩
theorem pickK_n {ms : MSK} {C : Addr} {k : (List V → List V → List V) → Sp → Prop} {e} (h : pickK ms C k) : pickK (e :: ms) C k := by
  replace h := h.out; refine ⟨?_⟩
  obtain ⟨e', h1, h2⟩ := h
  exact ⟨e', List.mem_cons_of_mem _ h1, h2⟩
def tMeK (ms : MSK) (m : Str) (n j : Nat) (W : WX) (ta : TE) (t tk : TA) : TE := fun σ H Q => ta σ H fun x H1 => match x with
  | .ref a => look H1 a fun o => (match o with
    | some (.ins C dx fs) => pickK ms C fun gV sp => fs.lookup m = none ∧ t σ H1 fun vs H2 => tk σ H2 fun zs H3 => vs.length = n ∧ zs.length = j ∧ sp (gV (.ref a :: vs) zs) H3 Q fun c d H' => W c d σ H'
    | _ => False)
  | _ => False
theorem tMeK_e {ms : MSK} {a : Addr} {H : Hp} {k : (List V → List V → List V) → Sp → List (Str × V) → Prop} (h : look H a fun o => (match o with
    | some (.ins C dx fs) => pickK ms C fun gV sp => k gV sp fs
    | _ => False)) : ∃ C dx fs, H a = some (.ins C dx fs) ∧ ∃ e ∈ ms, e.1 = C ∧ k e.2.1 e.2.2 fs := by
  have h := look_e h
  revert h
  cases e : H a with
  | none => exact fun h => h.elim
  | some o =>
    cases o with
    | ins C dx fs => exact fun h => ⟨C, dx, fs, rfl, by replace h := h.out; exact h⟩
    | _ => exact fun h => h.elim
section
variable {X : Cx} {x : Str} {p pos : Pos} {e : Expr} {es : List Expr} {t tk : TA} {lv n : Nat} {sp : Sp} {W : WX} {C : Addr} {ks : List Str} {gV : List V → List V → List V} {kws : List Keyword}
theorem run_fnNS {pins : List (Addr × Obj)} {σ : St} {H : Hp} {s : Shared} {Q : VK} {us ws : List Value} {vs zs : List V} {f : Addr} {fd : FuncData} {ps : List Str} {g : List Value → List Value → List Value} (F : FnOk X.prog X.w X.K X.mg X.base (L2M.CX X.K X.prog X.w) lv f fd ps sp) (hr : Room lv X.A) (hb : KBn X.K fd ps n ks g gV) (hx : L2M.Takes X W)
    (I : Inv X pins σ H s) (r : Vals vs us) (rz : Vals zs ws) (l1 : vs.length = n) (l2 : zs.length = ks.length) (h : sp (gV vs zs) H Q (WE W σ)) : wpAny (model X.prog X.w) X.A (call (.ref f) us (ks.zip ws)) (EP X pins σ Q) X.xe s := by
  have r2 := hb.rel r rz
  refine wpAny_call (codeAny_mono (F.run X.A X.stack s H ⟨us, ks.zip ws⟩ (g us ws) (gV vs zs) Q (WE W σ) hr I.env0 (hb.to s us ws I.kIn (r.length.symm.trans l1) (rz.length.symm.trans l2)) r2 h) fun r s' hq => ?_)
  cases r with
  | error e => exact L2M.passAt hx σ pins H s e s' I hq
  | ok fl =>
    cases fl with
    | ret u => exact I.after hq
    | next => exact False.elim hq
    | brk => exact False.elim hq
    | cont => exact False.elim hq
theorem run_makeKS {pins : List (Addr × Obj)} {σ : St} {H : Hp} {s : Shared} {Q : VK} {us ws : List Value} {vs zs : List V} {f : Addr} {fd : FuncData} {ps : List Str} {g : List Value → List Value → List Value} (M : Mk X.K C f) (F : FnOk X.prog X.w X.K X.mg X.base (L2M.CX X.K X.prog X.w) lv f fd ps sp) (hr : Room (lv + 1) X.A) (hb : KBn X.K fd ps (n + 1) ks g gV) (hx : L2M.Takes X W)
    (I : Inv X pins σ H s) (r : Vals vs us) (rz : Vals zs ws) (l1 : vs.length = n) (l2 : zs.length = ks.length)
    (h : ∀ x dx, H x = none → H dx = none → dx ≠ x → sp (gV (.ref x :: vs) zs) (upd (upd H dx (.own x)) x (.ins C dx [])) (fun v H2 => v = .non ∧ Q (.ref x) H2) (WE W σ)) :
    wpAny (model X.prog X.w) X.A (call (.ref C) us (ks.zip ws)) (EP X pins σ Q) X.xe s := by
  have hq := h (s.heap.objs.size + 1) s.heap.objs.size (I.hok.fresh (Nat.le_succ _)) (I.hok.fresh (Nat.le_refl _)) (Nat.ne_of_lt (Nat.lt_succ_self _))
  have I2 := Inv.made (C := C) I
  have r1 : Vals (V.ref (s.heap.objs.size + 1) :: vs) (Value.ref (s.heap.objs.size + 1) :: us) := .cons rfl r
  have r2 := hb.rel r1 rz
  have n1 : (Value.ref (s.heap.objs.size + 1) :: us).length = n + 1 := by
    rw [List.length_cons, ← r.length, l1]
  refine wpAny_call (make_map (f := f) I.kIn M.makes M.init (beq_iff_eq.mp M.fn) (codeAny_mono (F.run _ X.stack _ _ ⟨Value.ref (s.heap.objs.size + 1) :: us, ks.zip ws⟩ (g (Value.ref (s.heap.objs.size + 1) :: us) ws) _ _ (WE W σ) (hr.make C us (ks.zip ws))
    (I2.env0.make C us (ks.zip ws)) (hb.to _ (Value.ref (s.heap.objs.size + 1) :: us) ws I2.kIn n1 (rz.length.symm.trans l2)) r2 hq) fun r s' hq' => ?_))
  cases r with
  | error e => exact L2M.passAt hx σ pins _ _ e s' I2 hq'
  | ok fl =>
    cases fl with
    | ret u =>
      obtain ⟨v, H', I3, rv, ev, q3⟩ := I2.after hq'
      subst ev
      exact ⟨rv, ⟨V.ref (s.heap.objs.size + 1), H', I3, rfl, q3⟩⟩
    | next => exact False.elim hq'
    | brk => exact False.elim hq'
    | cont => exact False.elim hq'
theorem pcallK (F : FnKw X.prog X.w X.K X.mg X.base x n ks gV lv sp) (hr : Room lv X.A) (tke : L2M.Takes X W) (ha : PA X (e :: es) t) (hkw : PK X kws tk) (hg : Gl X x := by rfl)
    (hall : (backToKw pos (keywordEach kws X.env)).all (·.1.isSome) = true := by rfl) (hks : (backToKw pos (keywordEach kws X.env)).filterMap (·.1) = ks := by rfl) (hdb : (x == ("__debug__" : Str)) = false := by decide +kernel)
    (he : starEach (e :: es) X.env = (false, eval e X.env) :: starEach es X.env := by rfl) (hpl : ((backTo pos (starEach (e :: es) X.env)).any (·.1) || (backToKw pos (keywordEach kws X.env)).any (·.1.isNone)) = false := by rfl) :
    PE X (.Call (.Name x p) (e :: es) kws pos) (tCalK sp n ks.length gV W t tk) := by
  obtain ⟨f, fd, ps, g, F, hm, hk, hb⟩ := F.ex
  refine ⟨fun pins s σ H Q I h => ?_⟩
  refine wpAny_Call_Name_kw (ld_glob I hg hm ?_ hdb)
  refine PySem.W.callWith_KW (h₀ := X.base) I.ok.mod.kin hk hall (thn (ha.run pos pins s σ H _ I h) fun us s1 ⟨vs, H1, I1, r, q⟩ => ?_) hpl he
  refine thn (hkw.run pos pins s1 σ H1 _ I1 q) fun ws s2 ⟨zs, H2, I2, rz, l1, l2, q2⟩ => ⟨I2.kIn, ?_⟩
  rw [hks]
  exact run_fnNS F hr hb tke I2 r rz l1 l2 q2
theorem pmakK (F : MkKw X.prog X.w X.K X.mg X.base x C n ks gV lv sp) (hr : Room (lv + 1) X.A) (tke : L2M.Takes X W) (ha : PA X (e :: es) t) (hkw : PK X kws tk) (hg : Gl X x := by rfl)
    (hall : (backToKw pos (keywordEach kws X.env)).all (·.1.isSome) = true := by rfl) (hks : (backToKw pos (keywordEach kws X.env)).filterMap (·.1) = ks := by rfl) (hdb : (x == ("__debug__" : Str)) = false := by decide +kernel)
    (he : starEach (e :: es) X.env = (false, eval e X.env) :: starEach es X.env := by rfl) (hpl : ((backTo pos (starEach (e :: es) X.env)).any (·.1) || (backToKw pos (keywordEach kws X.env)).any (·.1.isNone)) = false := by rfl) :
    PE X (.Call (.Name x p) (e :: es) kws pos) (tMakK C sp n ks.length gV W t tk) := by
  obtain ⟨f, fd, ps, g, F, M, hm, hb⟩ := F.ex
  refine ⟨fun pins s σ H Q I h => ?_⟩
  refine wpAny_Call_Name_kw (ld_glob I hg hm ?_ hdb)
  refine PySem.W.callWith_KW (h₀ := X.base) I.ok.mod.kin M.kp hall (thn (ha.run pos pins s σ H _ I h) fun us s1 ⟨vs, H1, I1, r, q⟩ => ?_) hpl he
  refine thn (hkw.run pos pins s1 σ H1 _ I1 q) fun ws s2 ⟨zs, H2, I2, rz, l1, l2, q2⟩ => ⟨I2.kIn, ?_⟩
  rw [hks]
  exact run_makeKS M F hr hb tke I2 r rz l1 l2 q2
end
theorem callWith_MKW {M : Model} {A : Around} {E : Value → Shared → Prop} {s : Shared} {K : PySem.W.Frag} {env : Env} {pos : Pos} {first : List Value} {Q : Value → Shared → Prop} {q g : Addr} {self : Value} {e : Expr} {rest : List Expr} {kws : List Keyword} (hf : PySem.W.fnIn K g = true) (hall : (backToKw pos (keywordEach kws env)).all (·.1.isSome) = true)
    (h : wpAny M A (spliced (backTo pos (starEach (e :: rest) env))) (fun vs s₁ => wpAny M A (evalAll ((backToKw pos (keywordEach kws env)).map (·.2)))
      (fun ks s₂ => PySem.W.MethP K q g self s₂.heap ∧ wpAny M A (call (.ref q) (first ++ vs) (((backToKw pos (keywordEach kws env)).filterMap (·.1)).zip ks)) Q E s₂) E s₁) E s)
    (hplain : ((backTo pos (starEach (e :: rest) env)).any (·.1) || (backToKw pos (keywordEach kws env)).any (·.1.isNone)) = false := by rfl) (he : starEach (e :: rest) env = (false, eval e env) :: starEach rest env := by rfl) :
    wpAny M A (callWith pos (.ref q) first (backTo pos (starEach (e :: rest) env)) (backToKw pos (keywordEach kws env))) Q E s :=
  PySem.W.callWith_of hplain (PySem.W.keeps_M hf) (evalArgs_kw2 hall h he)
theorem wpAt_MethodCallK {M : Model} {A : Around} {c : Code} {E : Value → Shared → Prop} {s : Shared} {env : Env} {o : Expr} {name : Str} {apos pos : Pos} {args : List Expr} {kws : List Keyword} {pl : Sem Bool} {Q : Value → Shared → Prop}
    (h : PySem.wpAt M A c (attributeBase o name env (eval o env)) (fun ov s₁ => wpAny M A (getMethod ov name pl) (fun fx s₂ => wpAny M A (callWith pos fx.1 fx.2 (backTo pos (starEach args env)) (backToKw pos (keywordEach kws env))) Q E s₂) E s₁) E s)
    (he : eval (.Call (.Attribute o name apos) args kws pos) env = (do
      let ov ← attributeBase o name env (eval o env)
      standAt apos.atName
      let (f, first) ← holding [ov] (getMethod ov name pl)
      callWith pos f first (backTo pos (starEach args env)) (backToKw pos (keywordEach kws env))) := by rfl) :
    PySem.wpAt M A c (eval (.Call (.Attribute o name apos) args kws pos) env) Q E s := by
  rw [he]
  refine PySem.wpAt_bind (PySem.ks_wpAt_mono h (fun ov s₁ h₁ => PySem.wpAt_of_wpAny (wpAny_bind (wpAny_standAt (wpAny_bind (wpAny_holding (wpAny_mono h₁ (fun fx s₂ h₂ => ?_) fun _ _ x => x)))))) fun _ _ x => x)
  exact h₂
section
variable {X : Cx}
theorem psupK {f D : Addr} {F : NdefX.NF} {dvs : List V} {fd : FuncData} {ms : MSK} {m : Str} {lv i n : Nat} {ks : List Str} {W : WX} {t tk : TA} {p0 p1 p2 p3 : Pos} {e : Expr} {es : List Expr} {kws : List Keyword} {ar : Arg} {pl : Sem Bool} (SF : SupFn X.prog X.K f F D dvs fd) (hE : X.env = NdefX.envF F f X.env.locals)
    (hsup : X.mg "super" = none) (hp : (F.params.posonlyargs ++ F.params.args).head? = some ar) (hN : X.N[i]? = some ar.arg) (hka : F.scope.names.lookup ar.arg = some .local)
    (hks : F.scope.names.lookup ("super" : Str) = some .globalImplicit) (hkc : F.scope.names.lookup ("__class__" : Str) = some .free) (hk : F.scope.kind = .function) (hmc : (m == ("__class__" : Str)) = false)
    (hms : ∀ e ∈ ms, SuKw X.prog X.w X.K X.mg X.base D e.1 m n ks e.2.1 lv e.2.2) (hr : Room lv X.A) (tke : L2M.Takes X W) (ha : PA X (e :: es) t) (hkw : PK X kws tk)
    (hall : (backToKw p3 (keywordEach kws X.env)).all (·.1.isSome) = true := by rfl) (hkn : (backToKw p3 (keywordEach kws X.env)).filterMap (·.1) = ks := by rfl)
    (hst : starEach (e :: es) X.env = (false, eval e X.env) :: starEach es X.env := by rfl) (hpl : ((backTo p3 (starEach (e :: es) X.env)).any (·.1) || (backToKw p3 (keywordEach kws X.env)).any (·.1.isNone)) = false := by rfl)
    (he : eval (.Call (.Attribute (.Call (.Name "super" p0) [] [] p1) m p2) (e :: es) kws p3) X.env = (do
      let ov ← attributeBase (.Call (.Name "super" p0) [] [] p1) m X.env (eval (.Call (.Name "super" p0) [] [] p1) X.env)
      standAt p2.atName
      let (f, first) ← holding [ov] (getMethod ov m pl)
      callWith p3 f first (backTo p3 (starEach (e :: es) X.env)) (backToKw p3 (keywordEach kws X.env))) := by rfl) :
    PAe X F.body (.Call (.Attribute (.Call (.Name "super" p0) [] [] p1) m p2) (e :: es) kws p3) (tMeK ms m n ks.length W (tV i) t tk) := by
  refine ⟨fun pins s σ H Q I h => ?_⟩
  have hV : ∃ x, σ[i]? = some (some x) ∧ (fun x H1 => match x with
      | .ref a => look H1 a fun o => (match o with
        | some (.ins C dx fs) => pickK ms C fun gV sp => fs.lookup m = none ∧ t σ H1 fun vs H2 => tk σ H2 fun zs H3 => vs.length = n ∧ zs.length = ks.length ∧ sp (gV (.ref a :: vs) zs) H3 Q fun c d H' => W c d σ H'
        | _ => False)
      | _ => False) x H := by
    obtain ⟨x, e1, e2⟩ := tV_e h
    exact ⟨x, e1, e2⟩
  obtain ⟨x, hσ, q⟩ := hV
  cases x with
  | ref a =>
    obtain ⟨C, dx, fs, ea, en, hen, eC, l, q⟩ := tMeK_e (k := fun gV sp fs => fs.lookup m = none ∧ t σ H fun vs H2 => tk σ H2 fun zs H3 => vs.length = n ∧ zs.length = ks.length ∧ sp (gV (.ref a :: vs) zs) H3 Q fun c d H' => W c d σ H') q
    obtain ⟨⟨g, gd, ps, gg, FO, hsi, hty, hfn, hb⟩, hsub, h3⟩ := hms en hen
    subst eC
    obtain ⟨mA, O, _⟩ := ins_get I.hok ea
    obtain ⟨od, J, _⟩ := O.look
    have hnc := nocls_of J
    refine wpAt_MethodCallK (pl := pl) (sup_base SF hE I hsup hp i hN hσ hka J.at_ J.cls hnc hsub hks hkc hk hmc fun so s1 hso kp I1 => ?_) he
    have KX1 : X.K.In s1.heap := I1.kIn
    unfold PySem.W.ks_superIn at hsi
    cases hcl : PySem.W.clsIn X.K en.1 with
    | none => rw [hcl] at hsi; cases hsi
    | some cd =>
      rw [hcl] at hsi
      obtain ⟨of, hof, hofc⟩ : ∃ of, s1.heap.get? g = some of ∧ of.cls = .type "function" := by
        have ht : (X.K.lookup g).map (·.cls) = some (.type "function") := hty
        cases z : X.K.lookup g with
        | none => rw [z] at ht; cases ht
        | some of => rw [z] at ht; exact ⟨of, KX1 _ _ z, Option.some.inj ht⟩
      have hxC : a ≠ en.1 := PySem.W.ks_ne I.kIn J hcl
      obtain ⟨h1, g1, d1, t1', os1⟩ := s1
      refine PySem.ks_wpAny_getMethod_super hso (PySem.W.looks_opaque KX1 h3) (l₀ := cd.mro) ?_ rfl KX1 hsi hof hofc hxC hmc ?_
      · exact fun A Q E s k q => wpAny_bind ((PySem.W.looks_clsIn KX1 hcl) A _ E s k (wpAny_pure q))
      · have I2 : Inv X ((h1.objs.size, PySem.W.methodObj (.ref g) (.ref a)) :: pins) σ H ⟨h1.push (PySem.W.methodObj (.ref g) (.ref a)), g1, d1, t1' + 1, os1⟩ :=
          pin_new I1 (fun _ _ z => Heap.get?_push_of_some _ z) (Nat.le_refl _) (Heap.get?_push_size h1 rfl) (fun v z => nomatch z)
        refine callWith_MKW (K := X.K) (self := .ref a) (first := []) hfn hall (thn (ha.run p3 _ _ σ H _ I2 q) fun us s2 hv => ?_) hpl hst
        obtain ⟨vs, H2, I3, r, q2⟩ := hv
        refine thn (hkw.run p3 _ _ σ H2 _ I3 q2) fun ws s3 ⟨zs, H3, I4, rz, l1, l2, q3⟩ => ?_
        refine ⟨⟨pin_at I4, I4.kIn⟩, ?_⟩
        rw [hkn]
        have r1 : Vals (V.ref a :: vs) (Value.ref a :: us) := .cons rfl r
        have r2 := hb.rel r1 rz
        have n1 : (Value.ref a :: us).length = n + 1 := by rw [List.length_cons, ← r.length, l1]
        have z : wpAny (model X.prog X.w) X.A (call (.ref h1.objs.size) us (ks.zip ws)) (EP X ((h1.objs.size, PySem.W.methodObj (.ref g) (.ref a)) :: pins) σ Q) X.xe s3 := by
          refine wpAny_call (PySem.W.method_call (pin_at I4) (codeAny_mono (FO.run X.A X.stack s3 H3 ⟨.ref a :: us, ks.zip ws⟩ (gg (.ref a :: us) ws) (en.2.1 (.ref a :: vs) zs) Q (WE W σ) hr I4.env0 (hb.to s3 (.ref a :: us) ws I4.kIn n1 (rz.length.symm.trans l2)) r2 q3) fun r s' hq => ?_))
          cases r with
          | error er => exact L2M.passAt tke σ _ _ _ er s' I4 hq
          | ok fl =>
            cases fl with
            | ret u => exact I4.after hq
            | next => exact False.elim hq
            | brk => exact False.elim hq
            | cont => exact False.elim hq
        exact thn z fun _ _ y => unpinE y
  | _ => exact False.elim q
end
/-! ### how defs with keyword-only parameters bind -/
/-- the keyword-only defaults that stand in K -/
def KwF (K : PySem.W.Frag) (f : Addr) (kws : List (Str × V)) : Prop := ∀ oc od fd osl, K.lookup f = some ⟨oc, od, .func fd, osl⟩ → KwdV K fd.kwdefaults kws
def bKwF (c m : Str) (kws : List (Str × V)) : BF := fun K => match K.lookup (ma K (ga K c) m) with
  | some ⟨_, _, .func fd, _⟩ => kwdB K fd.kwdefaults kws
  | _ => false
theorem kwF_of {K : PySem.W.Frag} {c m : Str} {kws : List (Str × V)} (h : bKwF c m kws K = true) : KwF K (ma K (ga K c) m) kws := fun oc od fd osl e => by
  unfold bKwF at h
  rw [e] at h
  exact kwdB_ok h
section
variable {P : Program} {K : PySem.W.Frag} {f D : Addr} {F : NdefX.NF} {fd : FuncData} {ps : List Str} {kws : List (Str × V)}
theorem SupFn.binds0 (SF : SupFn P K f F D [] fd) (hf : KwF K f kws) (n : Nat) (hk : kws ≠ []) (hn : n + kws.length = ps.length)
    (h : ∀ (D : Addr) (doc pm : Value) (an : Option Addr) (ct : Value) (us ks : List Value), us.length = n → ks.length = kws.length →
      KwChain D ((kws.map (·.1)).zip ks) (bindArgs (PySem.W.fnX F.name F.qual F.params F.body F.scope F.cl .none (.ref D) doc pm an (.ref F.c) ct) ⟨us, []⟩) (ps.zip (us ++ ks))) : ∃ ds, Vals (kws.map (·.2)) ds ∧ Binds K fd ps ds := by
  obtain ⟨cc, oc, od, an, dV, kV, doc, pm, ct, osl, hcl, rfl, lk, hD, _⟩ := SF.ex
  rcases hD with ⟨_, rfl⟩ | ⟨e, _⟩
  · rcases hf _ _ _ _ lk with e | ⟨D, e, hq⟩
    · exact absurd e hk
    · obtain rfl : kV = .ref D := e
      obtain ⟨ks, hl, rk, hks⟩ := kwd_vals hq
      refine ⟨ks, rk, fun s us X hlen => ?_⟩
      have l2 : us.length = n := by
        rw [List.length_append, hl] at hlen
        omega
      exact BindsTo.of_looks fun M => KwChain.looks X hks (h D doc pm an ct us ks l2 hl)
  · exact absurd rfl e
theorem SupFn.kbinds0 (SF : SupFn P K f F D [] fd) (hf : KwF K f kws) (n : Nat) (ks : List Str) (ms : List (Str × V)) (g : {α : Type} → List α → List α → List α → List α) (hk : kws ≠ []) (hms : ∀ q ∈ ms, q ∈ kws)
    (hrel : ∀ {vs mz zs : List V} {us mv ws : List Value}, Vals vs us → Vals mz mv → Vals zs ws → Vals (g vs mz zs) (g us mv ws))
    (h : ∀ (D : Addr) (doc pm : Value) (an : Option Addr) (ct : Value) (us mv ws : List Value), us.length = n → mv.length = ms.length → ws.length = ks.length →
      KwChain D ((ms.map (·.1)).zip mv) (bindArgs (PySem.W.fnX F.name F.qual F.params F.body F.scope F.cl .none (.ref D) doc pm an (.ref F.c) ct) ⟨us, ks.zip ws⟩) (ps.zip (g us mv ws))) :
    ∃ mv : List Value, KBn K fd ps n ks (fun us ws => g us mv ws) (fun vs zs => g vs (ms.map (·.2)) zs) := by
  obtain ⟨cc, oc, od, an, dV, kV, doc, pm, ct, osl, hcl, rfl, lk, hD, _⟩ := SF.ex
  rcases hD with ⟨_, rfl⟩ | ⟨e, _⟩
  · rcases hf _ _ _ _ lk with e | ⟨D, e, hq⟩
    · exact absurd e hk
    · obtain rfl : kV = .ref D := e
      obtain ⟨mv, hl, rk, hks⟩ := kwd_vals (ms := ms) fun q hm => hq q (hms q hm)
      exact ⟨mv, ⟨fun s us ws X l1 l2 => BindsTo.of_looks fun M => KwChain.looks X hks (h D doc pm an ct us mv ws l1 hl l2), fun r1 r2 => hrel r1 rk r2⟩⟩
  · exact absurd rfl e
end
/-- the values in the parameters' order: (true, i) is the i-th default, (false, i) the i-th keyword's value -/
def gkF (ix : List (Bool × Nat)) {α : Type} (us mv ws : List α) : List α := us ++ ix.flatMap fun p => (match p.1 with | true => mv[p.2]? | false => ws[p.2]?).toList
theorem vals_at {zs : List V} {ws : List Value} (h : Vals zs ws) (i : Nat) : Vals (zs[i]?).toList (ws[i]?).toList := by
  induction h generalizing i with
  | nil => exact .nil
  | cons a _ ih =>
    cases i with
    | zero => exact .cons a .nil
    | succ i => simpa using ih i
theorem gkF_rel (ix : List (Bool × Nat)) {vs mz zs : List V} {us mv ws : List Value} (r1 : Vals vs us) (r2 : Vals mz mv) (r3 : Vals zs ws) : Vals (gkF ix vs mz zs) (gkF ix us mv ws) := by
  unfold gkF
  refine L2.Vals.append r1 ?_
  induction ix with
  | nil => exact .nil
  | cons p ix ih =>
    rw [List.flatMap_cons, List.flatMap_cons]
    refine L2.Vals.append ?_ ih
    obtain ⟨b, i⟩ := p
    cases b
    · exact vals_at r3 i
    · exact vals_at r2 i
theorem suK_of {P : Program} {w : World} {K : PySem.W.Frag} {mg : Str → Option Value} {base : Heap} {x d m t : Str} {lv n : Nat} {ks : List Str} {g : List Value → List Value → List Value} {gV : List V → List V → List V} {sp : Sp} {fd : FuncData} {ps : List Str} (c : bSu x d m t K = true)
    (O : FnOk P w K mg base (L2M.CX K P w) lv (ma K (ga K t) m) fd ps sp) (b : KBn K fd ps (n + 1) ks g gV) : SuKw P w K mg base (ga K d) (ga K x) m n ks gV lv sp := by
  obtain ⟨c1, c⟩ := He.ba c
  obtain ⟨c2, c⟩ := He.ba c
  obtain ⟨c3, c⟩ := He.ba c
  obtain ⟨c4, c5⟩ := He.ba c
  exact ⟨⟨_, fd, ps, g, O, eqO_ok c1, of_decide_eq_true c2, c3, b⟩, of_decide_eq_true c4, eqO_ok c5⟩
/-! ### a, b = super().m(..) -/
theorem wpAt_Assign_stores {M : Model} {A : Around} {c : Code} {E : Value → Shared → Prop} {s : Shared} {env : Env} {targets : List Expr} {value : Expr} {pos : Pos} {Q : Flow → Shared → Prop}
    (h : PySem.wpAt M A c (eval value env) (fun v s₁ => wpAny M A (assignAll v ((assignEach targets env).map (·.2))) (fun _ => Q .next) E s₁) E s)
    (hs : swapsWithSole targets value pos.line env = pure false) (hw : swappedStores targets value env = pure none) :
    PySem.wpAt M A c (exec (.Assign targets value pos) env) Q E s := by
  rw [exec_Assign_arm]
  refine PySem.wpAt_bind (PySem.wpAt_of_wpAny (wpAny_standAt ?_))
  rw [hs]
  refine PySem.wpAt_bind (PySem.wpAt_of_wpAny (wpAny_pure ?_))
  rw [if_neg (by decide)]
  refine PySem.wpAt_bind (PySem.ks_wpAt_mono h (fun v s₁ h₁ => ?_) fun _ _ x => x)
  rw [hw]
  refine PySem.wpAt_of_wpAny (wpAny_bind (wpAny_pure ?_))
  show wpAny M A (do assignAll v ((assignEach targets env).map (·.2)); pure .next) Q E s₁
  exact wpAny_bind (wpAny_mono h₁ (fun _ _ x => wpAny_pure x) fun _ _ x => x)
theorem pas_asg {X : Cx} {body : List Stmt} {e tg : Expr} {te : TE} {pos : Pos} {g : TG} (he : PAe X body e te) (hg : PG X tg g) (hs : swapsWithSole [tg] e pos.line X.env = pure false := by rfl) (hw : swappedStores [tg] e X.env = pure none := by rfl)
    (h1 : (assignEach [tg] X.env).map (·.2) = [assign tg X.env] := by rfl) : PAs X body (.Assign [tg] e pos) (tAsg te g) := by
  refine ⟨fun pins s σ H D I h => ?_⟩
  refine wpAt_Assign_stores (PySem.ks_wpAt_mono (he.run pins s σ H _ I h) (fun v s1 h2 => ?_) fun _ _ z => z) hs hw
  obtain ⟨x, H1, I1, r1, q1⟩ := h2
  rw [h1]
  exact thn (hg.run pins s1 σ H1 x v _ I1 r1 q1) fun _ s2 q => q
end Ta

set_option Elab.async false
set_option linter.all false
set_option maxRecDepth 100000
set_option maxHeartbeats 4000000
namespace Lw
open PySem PySem.Spec PyProof.Rows L2 Ta
def top (i : Nat) : Stmt := PySem.Challenge.pw_talepost_k36_drops.main.body.getD i (.Pass ⟨0, 0, 0, 0⟩)
abbrev s_l_take : Stmt := top 22
abbrev s_Alphabet_is_text : Stmt := inClass (top 10) 6
abbrev s_Alphabet_check : Stmt := inClass (top 10) 7
abbrev s_Drop_advance : Stmt := inClass (top 18) 5
abbrev s_LastDrop_advance : Stmt := inClass (top 19) 5
abbrev s_handed_on : Stmt := top 14
abbrev s_Drop_begin : Stmt := inClass (top 18) 4
abbrev s_LastDrop_begin : Stmt := inClass (top 19) 4
abbrev s_Stage_finish : Stmt := inClass (top 16) 3
abbrev s_LastDrop_finish : Stmt := inClass (top 19) 6
abbrev s_closed : Stmt := top 15
abbrev s_Stage_result : Stmt := inClass (top 16) 4
abbrev s_Drop_call : Stmt := inClass (top 18) 2
abbrev s_LastDrop_call : Stmt := inClass (top 19) 2
abbrev s_l_refuses_text : Stmt := top 33
abbrev s_l_drop : Stmt := top 28
abbrev s_l_members : Stmt := top 25
abbrev s_l_text : Stmt := top 27
abbrev s_l_box : Stmt := top 21
abbrev s_Stage_init : Stmt := inClass (top 16) 0
abbrev s_Alphabet_listed_signs : Stmt := inClass (top 10) 5
abbrev s_Alphabet_signs_of : Stmt := inClass (top 10) 4
abbrev s_signs_named : Stmt := top 13
abbrev s_drop_spelling : Stmt := top 17
abbrev s_Drop_init : Stmt := inClass (top 18) 0
abbrev s_LastDrop_init : Stmt := inClass (top 19) 0
abbrev s_l_refusal : Stmt := top 32
abbrev s_l_refusals : Stmt := top 34
abbrev s_l_object : Stmt := top 30
abbrev s_Drop_str : Stmt := inClass (top 18) 1
abbrev s_LastDrop_str : Stmt := inClass (top 19) 1
abbrev s_l_written : Stmt := top 29
abbrev s_Alphabet_eq : Stmt := inClass (top 10) 3
abbrev s_l_shown : Stmt := top 31
abbrev s_l_name : Stmt := top 24
abbrev s_l_form : Stmt := top 26
abbrev s_l_world : Stmt := top 23
abbrev s_all_different : Stmt := top 9
abbrev s_Alphabet_init : Stmt := inClass (top 10) 2
abbrev s_law : Stmt := top 35
end Lw

set_option Elab.async false
set_option linter.all false
set_option maxRecDepth 100000
set_option maxHeartbeats 4000000
namespace Lw
open PySem PySem.Spec PyProof.Rows L2 Ta
abbrev PP : Program := PySem.Challenge.rw_talepost_k36_drops.prog
abbrev R : PySem.W.OpenRow := PySem.W.OpenLaw.row PySem.Challenge.rw_talepost_k36_drops
def fa : List BF := [bFree "ValueError", bFree "int", bFree "isinstance", bFree "len", bFree "list", bFree "max", bFree "min", bFree "range", bFree "set", bFree "sorted", bFree "str", bFree "super", bGlo "Alphabet", bGlo "BadSet", bGlo "BadStage", bGlo "BadText", bGlo "Drop", bGlo "LastDrop", bVal "MOST_AFTER" (.int 3), bVal "SMALL" (.str (S [97, 98, 99, 100, 101, 102, 103, 104, 105, 106, 107, 108, 109, 110, 111, 112, 113, 114, 115, 116, 117, 118, 119, 120, 121, 122])), bGlo "Stage", bGlo "TaleError", bCC "Alphabet" "JOINT" (.str (S [45])), bCC "Alphabet" "MOST" (.int 4), bCls "Alphabet", bCls "Drop", bCls "LastDrop", bCls "Stage", bIsc "Alphabet", bNo "Alphabet" "letters", bNo "Alphabet" "vowels", bNo "Alphabet" "consonants", bNo "Alphabet" "signs", bIsc "Stage", bIsc "Drop", bIsc "LastDrop", bNo "Stage" "alphabet", bNo "Drop" "alphabet", bNo "Drop" "chosen", bNo "Drop" "name", bNo "Drop" "after", bNo "Drop" "each", bNo "Drop" "spelling", bNo "LastDrop" "alphabet", bNo "LastDrop" "chosen", bNo "LastDrop" "name", bNo "LastDrop" "after", bNo "LastDrop" "each", bNo "LastDrop" "spelling", bXc "BadSet", bNo "BadSet" "name", bXc "BadText", bNo "BadText" "text", bXc "BadStage", bNo "BadStage" "what", bExm "BadSet" "BadSet" true, bExm "BadText" "BadText" true, bKit "BadText" "TaleError" true, bKitT "BadText" "ValueError" true, bExm "BadStage" "BadStage" true, bKit "BadStage" "TaleError" true, bKitT "BadStage" "ValueError" true, bKit "Alphabet" "Alphabet" true, bKit "Drop" "Drop" true, bKit "Drop" "LastDrop" false, bKit "Drop" "Stage" true, bKit "LastDrop" "Drop" true, bKit "LastDrop" "LastDrop" true, bKit "LastDrop" "Stage" true, bCalm "BadSet" true, bCalm "BadStage" false, bSubB "BadSet", bFnm "Drop" "__call__", bFnm "LastDrop" "__call__", bNo "BadAlphabet" "part", bOex "BadAlphabet", bSup "BadAlphabet" "BadAlphabet", bGlo "BadAlphabet", bOex "BadSet", bSup "BadSet" "BadSet", bOex "BadStage", bSup "BadStage" "BadStage", bOex "BadText", bSup "BadText" "BadText", bGlo "_law_take", bMe "Alphabet" "is_text", bMe "Alphabet" "check", bMe "Drop" "advance", bSu "LastDrop" "LastDrop" "advance" "Drop", bMe "LastDrop" "advance", bGlo "handed_on", bMe "Drop" "begin", bMe "LastDrop" "begin", bMe "Drop" "finish", bSame "Drop" "Stage" "finish", bMe "LastDrop" "finish", bGlo "closed", bMe "Drop" "result", bSame "Drop" "Stage" "result", bMe "LastDrop" "result", bSame "LastDrop" "Stage" "result", bMe "Drop" "__call__", bMe "LastDrop" "__call__", bGlo "_law_refuses_text", bGlo "_law_drop", bGlo "_law_members", bGlo "_law_text", bGlo "_law_box", bMe "Alphabet" "listed_signs", bMe "Alphabet" "signs_of", bGlo "signs_named", bGlo "drop_spelling", bSu "Drop" "Drop" "__init__" "Stage", bSu "LastDrop" "Drop" "__init__" "Stage", bKwF "Drop" "__init__" [("after", .int 0), ("each", .bl false)], bMk "Drop", bSu "LastDrop" "LastDrop" "__init__" "Drop", bKwF "LastDrop" "__init__" [("after", .int 0), ("each", .bl false)], bMk "LastDrop", bGlo "_law_refusal", bGlo "_law_refusals", bGlo "_law_object", bMe "Drop" "__str__", bMe "LastDrop" "__str__", bGlo "_law_written", bMe "Alphabet" "__eq__", bGlo "_law_shown", bGlo "_law_name", bGlo "_law_form", bGlo "_law_world", bGlo "all_different", bMk "Alphabet", bNoL, bGlo "law"]
def dd_l_take : XD := ⟨fun K => (He.fAd K ("_law_take", none)), "_law_take", "_law_take", defArgs s_l_take, defBody s_l_take, defScope s_l_take, [], []⟩
def dd_Alphabet_is_text : XD := ⟨fun K => (He.fAd K ("Alphabet", some "is_text")), "is_text", "Alphabet.is_text", defArgs s_Alphabet_is_text, defBody s_Alphabet_is_text, defScope s_Alphabet_is_text, [], []⟩
def dd_Alphabet_check : XD := ⟨fun K => (He.fAd K ("Alphabet", some "check")), "check", "Alphabet.check", defArgs s_Alphabet_check, defBody s_Alphabet_check, defScope s_Alphabet_check, [], []⟩
def dd_Drop_advance : XD := ⟨fun K => (He.fAd K ("Drop", some "advance")), "advance", "Drop.advance", defArgs s_Drop_advance, defBody s_Drop_advance, defScope s_Drop_advance, [], []⟩
def sd_LastDrop_advance : SupD := ⟨"LastDrop", "advance", "LastDrop.advance", defArgs s_LastDrop_advance, defBody s_LastDrop_advance, defScope s_LastDrop_advance⟩
def dd_handed_on : XD := ⟨fun K => (He.fAd K ("handed_on", none)), "handed_on", "handed_on", defArgs s_handed_on, defBody s_handed_on, defScope s_handed_on, [], []⟩
def dd_Drop_begin : XD := ⟨fun K => (He.fAd K ("Drop", some "begin")), "begin", "Drop.begin", defArgs s_Drop_begin, defBody s_Drop_begin, defScope s_Drop_begin, [], []⟩
def dd_LastDrop_begin : XD := ⟨fun K => (He.fAd K ("LastDrop", some "begin")), "begin", "LastDrop.begin", defArgs s_LastDrop_begin, defBody s_LastDrop_begin, defScope s_LastDrop_begin, [], []⟩
def dd_Stage_finish : XD := ⟨fun K => (He.fAd K ("Stage", some "finish")), "finish", "Stage.finish", defArgs s_Stage_finish, defBody s_Stage_finish, defScope s_Stage_finish, [], []⟩
def dd_LastDrop_finish : XD := ⟨fun K => (He.fAd K ("LastDrop", some "finish")), "finish", "LastDrop.finish", defArgs s_LastDrop_finish, defBody s_LastDrop_finish, defScope s_LastDrop_finish, [], []⟩
def dd_closed : XD := ⟨fun K => (He.fAd K ("closed", none)), "closed", "closed", defArgs s_closed, defBody s_closed, defScope s_closed, [], []⟩
def dd_Stage_result : XD := ⟨fun K => (He.fAd K ("Stage", some "result")), "result", "Stage.result", defArgs s_Stage_result, defBody s_Stage_result, defScope s_Stage_result, [], []⟩
def dd_Drop_call : XD := ⟨fun K => (He.fAd K ("Drop", some "__call__")), "__call__", "Drop.__call__", defArgs s_Drop_call, defBody s_Drop_call, defScope s_Drop_call, [], []⟩
def dd_LastDrop_call : XD := ⟨fun K => (He.fAd K ("LastDrop", some "__call__")), "__call__", "LastDrop.__call__", defArgs s_LastDrop_call, defBody s_LastDrop_call, defScope s_LastDrop_call, [], []⟩
def dd_l_refuses_text : XD := ⟨fun K => (He.fAd K ("_law_refuses_text", none)), "_law_refuses_text", "_law_refuses_text", defArgs s_l_refuses_text, defBody s_l_refuses_text, defScope s_l_refuses_text, [], []⟩
def dd_l_drop : XD := ⟨fun K => (He.fAd K ("_law_drop", none)), "_law_drop", "_law_drop", defArgs s_l_drop, defBody s_l_drop, defScope s_l_drop, [], []⟩
def dd_l_members : XD := ⟨fun K => (He.fAd K ("_law_members", none)), "_law_members", "_law_members", defArgs s_l_members, defBody s_l_members, defScope s_l_members, [], []⟩
def dd_l_text : XD := ⟨fun K => (He.fAd K ("_law_text", none)), "_law_text", "_law_text", defArgs s_l_text, defBody s_l_text, defScope s_l_text, [], []⟩
def dd_l_box : XD := ⟨fun K => (He.fAd K ("_law_box", none)), "_law_box", "_law_box", defArgs s_l_box, defBody s_l_box, defScope s_l_box, [], []⟩
def dd_Stage_init : XD := ⟨fun K => (He.fAd K ("Stage", some "__init__")), "__init__", "Stage.__init__", defArgs s_Stage_init, defBody s_Stage_init, defScope s_Stage_init, [], []⟩
def dd_Alphabet_listed_signs : XD := ⟨fun K => (He.fAd K ("Alphabet", some "listed_signs")), "listed_signs", "Alphabet.listed_signs", defArgs s_Alphabet_listed_signs, defBody s_Alphabet_listed_signs, defScope s_Alphabet_listed_signs, [], []⟩
def dd_Alphabet_signs_of : XD := ⟨fun K => (He.fAd K ("Alphabet", some "signs_of")), "signs_of", "Alphabet.signs_of", defArgs s_Alphabet_signs_of, defBody s_Alphabet_signs_of, defScope s_Alphabet_signs_of, [], []⟩
def dd_signs_named : XD := ⟨fun K => (He.fAd K ("signs_named", none)), "signs_named", "signs_named", defArgs s_signs_named, defBody s_signs_named, defScope s_signs_named, [], []⟩
def dd_drop_spelling : XD := ⟨fun K => (He.fAd K ("drop_spelling", none)), "drop_spelling", "drop_spelling", defArgs s_drop_spelling, defBody s_drop_spelling, defScope s_drop_spelling, [], []⟩
def sd_Drop_init : SupD := ⟨"Drop", "__init__", "Drop.__init__", defArgs s_Drop_init, defBody s_Drop_init, defScope s_Drop_init⟩
def sd_LastDrop_init : SupD := ⟨"LastDrop", "__init__", "LastDrop.__init__", defArgs s_LastDrop_init, defBody s_LastDrop_init, defScope s_LastDrop_init⟩
def dd_l_refusal : XD := ⟨fun K => (He.fAd K ("_law_refusal", none)), "_law_refusal", "_law_refusal", defArgs s_l_refusal, defBody s_l_refusal, defScope s_l_refusal, [], []⟩
def dd_l_refusals : XD := ⟨fun K => (He.fAd K ("_law_refusals", none)), "_law_refusals", "_law_refusals", defArgs s_l_refusals, defBody s_l_refusals, defScope s_l_refusals, [], []⟩
def dd_l_object : XD := ⟨fun K => (He.fAd K ("_law_object", none)), "_law_object", "_law_object", defArgs s_l_object, defBody s_l_object, defScope s_l_object, [], []⟩
def dd_Drop_str : XD := ⟨fun K => (He.fAd K ("Drop", some "__str__")), "__str__", "Drop.__str__", defArgs s_Drop_str, defBody s_Drop_str, defScope s_Drop_str, [], []⟩
def dd_LastDrop_str : XD := ⟨fun K => (He.fAd K ("LastDrop", some "__str__")), "__str__", "LastDrop.__str__", defArgs s_LastDrop_str, defBody s_LastDrop_str, defScope s_LastDrop_str, [], []⟩
def dd_l_written : XD := ⟨fun K => (He.fAd K ("_law_written", none)), "_law_written", "_law_written", defArgs s_l_written, defBody s_l_written, defScope s_l_written, [], []⟩
def dd_Alphabet_eq : XD := ⟨fun K => (He.fAd K ("Alphabet", some "__eq__")), "__eq__", "Alphabet.__eq__", defArgs s_Alphabet_eq, defBody s_Alphabet_eq, defScope s_Alphabet_eq, [], []⟩
def dd_l_shown : XD := ⟨fun K => (He.fAd K ("_law_shown", none)), "_law_shown", "_law_shown", defArgs s_l_shown, defBody s_l_shown, defScope s_l_shown, [], []⟩
def dd_l_name : XD := ⟨fun K => (He.fAd K ("_law_name", none)), "_law_name", "_law_name", defArgs s_l_name, defBody s_l_name, defScope s_l_name, [], []⟩
def dd_l_form : XD := ⟨fun K => (He.fAd K ("_law_form", none)), "_law_form", "_law_form", defArgs s_l_form, defBody s_l_form, defScope s_l_form, [], []⟩
def dd_l_world : XD := ⟨fun K => (He.fAd K ("_law_world", none)), "_law_world", "_law_world", defArgs s_l_world, defBody s_l_world, defScope s_l_world, [], []⟩
def dd_all_different : XD := ⟨fun K => (He.fAd K ("all_different", none)), "all_different", "all_different", defArgs s_all_different, defBody s_all_different, defScope s_all_different, [], []⟩
def dd_Alphabet_init : XD := ⟨fun K => (He.fAd K ("Alphabet", some "__init__")), "__init__", "Alphabet.__init__", defArgs s_Alphabet_init, defBody s_Alphabet_init, defScope s_Alphabet_init, [.str (S [])], []⟩
def dd_law : XD := ⟨fun K => (He.fAd K ("law", none)), "law", "law", defArgs s_law, defBody s_law, defScope s_law, [], []⟩
def sd_BadAlphabet : SupD := ⟨"BadAlphabet", "__init__", "BadAlphabet.__init__", defArgs (inClass (top 3) 0), defBody (inClass (top 3) 0), defScope (inClass (top 3) 0)⟩
def sd_BadSet : SupD := ⟨"BadSet", "__init__", "BadSet.__init__", defArgs (inClass (top 5) 0), defBody (inClass (top 5) 0), defScope (inClass (top 5) 0)⟩
def sd_BadStage : SupD := ⟨"BadStage", "__init__", "BadStage.__init__", defArgs (inClass (top 6) 0), defBody (inClass (top 6) 0), defScope (inClass (top 6) 0)⟩
def sd_BadText : SupD := ⟨"BadText", "__init__", "BadText.__init__", defArgs (inClass (top 4) 0), defBody (inClass (top 4) 0), defScope (inClass (top 4) 0)⟩
def fn : List XD := [dd_l_take, dd_Alphabet_is_text, dd_Alphabet_check, dd_Drop_advance, dd_handed_on, dd_Drop_begin, dd_LastDrop_begin, dd_Stage_finish, dd_LastDrop_finish, dd_closed, dd_Stage_result, dd_Drop_call, dd_LastDrop_call, dd_l_refuses_text, dd_l_drop, dd_l_members, dd_l_text, dd_l_box, dd_Stage_init, dd_Alphabet_listed_signs, dd_Alphabet_signs_of, dd_signs_named, dd_drop_spelling, dd_l_refusal, dd_l_refusals, dd_l_object, dd_Drop_str, dd_LastDrop_str, dd_l_written, dd_Alphabet_eq, dd_l_shown, dd_l_name, dd_l_form, dd_l_world, dd_all_different, dd_Alphabet_init, dd_law]
def sn : List SupD := [sd_BadAlphabet, sd_BadSet, sd_BadStage, sd_BadText, sd_LastDrop_advance, sd_Drop_init, sd_LastDrop_init]
def loose : List Str := (["_wall", "TaleError", "BadAlphabet", "BadText", "BadSet", "BadStage", "SMALL", "all_different", "Alphabet", "MOST_AFTER", "signs_named", "handed_on", "closed", "Stage", "drop_spelling", "Drop"] : List Str) ++ (["LastDrop", "_law_box", "_law_take", "_law_world", "_law_name", "_law_members", "_law_form", "_law_text", "_law_drop", "_law_written", "_law_object", "_law_shown", "_law_refusal", "_law_refuses_text", "_law_refusals"] : List Str)
abbrev hk : PySem.W.Hook := hookX 5 PP.main.file fa fn sn
def ob (s : PySem.W.SharedT) : AlX := obsXG 5 PP.main.file fa fn sn (HandSHeadRun.getT s)
theorem ob_eq (s : PySem.W.SharedT) : ob s = hk.obs s.abs := obsXG_eq (HandSHeadRun.getT_eq s)
theorem run (w : World) : HandSHeadRun.RunEq R (PySem.W.view R.prog [35]) hk ob 12000 loose w := by
  intro os
  kernel_rfl

end Lw

set_option Elab.async false
set_option linter.all false
set_option maxRecDepth 100000
set_option maxHeartbeats 4000000
namespace Lw
open PySem PySem.Spec PyProof.Rows L2 Ta
structure Tx (K : PySem.W.Frag) (mg : Str → Option Value) : Prop where
  f_ValueError : mg "ValueError" = none
  f_int : mg "int" = none
  f_isinstance : mg "isinstance" = none
  f_len : mg "len" = none
  f_list : mg "list" = none
  f_max : mg "max" = none
  f_min : mg "min" = none
  f_range : mg "range" = none
  f_set : mg "set" = none
  f_sorted : mg "sorted" = none
  f_str : mg "str" = none
  f_super : mg "super" = none
  v_Alphabet : GlobV mg "Alphabet" (.ref (He.ga K "Alphabet"))
  v_BadSet : GlobV mg "BadSet" (.ref (He.ga K "BadSet"))
  v_BadStage : GlobV mg "BadStage" (.ref (He.ga K "BadStage"))
  v_BadText : GlobV mg "BadText" (.ref (He.ga K "BadText"))
  v_Drop : GlobV mg "Drop" (.ref (He.ga K "Drop"))
  v_LastDrop : GlobV mg "LastDrop" (.ref (He.ga K "LastDrop"))
  v_MOST_AFTER : GlobV mg "MOST_AFTER" (.int 3)
  v_SMALL : GlobV mg "SMALL" (.str (S [97, 98, 99, 100, 101, 102, 103, 104, 105, 106, 107, 108, 109, 110, 111, 112, 113, 114, 115, 116, 117, 118, 119, 120, 121, 122]))
  v_Stage : GlobV mg "Stage" (.ref (He.ga K "Stage"))
  v_TaleError : GlobV mg "TaleError" (.ref (He.ga K "TaleError"))
  cc_Alphabet_JOINT : ClsConst K mg "Alphabet" "JOINT" (.str (S [45]))
  cc_Alphabet_MOST : ClsConst K mg "Alphabet" "MOST" (.int 4)
  k_Alphabet : Cls K (He.ga K "Alphabet")
  k_Drop : Cls K (He.ga K "Drop")
  k_LastDrop : Cls K (He.ga K "LastDrop")
  k_Stage : Cls K (He.ga K "Stage")
  i_Alphabet : IsC K (He.ga K "Alphabet")
  n_Alphabet_letters : NoAttr K (He.ga K "Alphabet") "letters"
  n_Alphabet_vowels : NoAttr K (He.ga K "Alphabet") "vowels"
  n_Alphabet_consonants : NoAttr K (He.ga K "Alphabet") "consonants"
  n_Alphabet_signs : NoAttr K (He.ga K "Alphabet") "signs"
  i_Stage : IsC K (He.ga K "Stage")
  i_Drop : IsC K (He.ga K "Drop")
  i_LastDrop : IsC K (He.ga K "LastDrop")
  n_Stage_alphabet : NoAttr K (He.ga K "Stage") "alphabet"
  n_Drop_alphabet : NoAttr K (He.ga K "Drop") "alphabet"
  n_Drop_chosen : NoAttr K (He.ga K "Drop") "chosen"
  n_Drop_name : NoAttr K (He.ga K "Drop") "name"
  n_Drop_after : NoAttr K (He.ga K "Drop") "after"
  n_Drop_each : NoAttr K (He.ga K "Drop") "each"
  n_Drop_spelling : NoAttr K (He.ga K "Drop") "spelling"
  n_LastDrop_alphabet : NoAttr K (He.ga K "LastDrop") "alphabet"
  n_LastDrop_chosen : NoAttr K (He.ga K "LastDrop") "chosen"
  n_LastDrop_name : NoAttr K (He.ga K "LastDrop") "name"
  n_LastDrop_after : NoAttr K (He.ga K "LastDrop") "after"
  n_LastDrop_each : NoAttr K (He.ga K "LastDrop") "each"
  n_LastDrop_spelling : NoAttr K (He.ga K "LastDrop") "spelling"
  x_BadSet : XC K (He.ga K "BadSet")
  nx_BadSet_name : PySem.W.findIn K (.ref (He.ga K "BadSet")) "name" = some none
  x_BadText : XC K (He.ga K "BadText")
  nx_BadText_text : PySem.W.findIn K (.ref (He.ga K "BadText")) "text" = some none
  x_BadStage : XC K (He.ga K "BadStage")
  nx_BadStage_what : PySem.W.findIn K (.ref (He.ga K "BadStage")) "what" = some none
  e_BadSet_BadSet : PySem.W.exmOne K (.ref (He.ga K "BadSet")) (.ref (He.ga K "BadSet")) = some true
  e_BadText_BadText : PySem.W.exmOne K (.ref (He.ga K "BadText")) (.ref (He.ga K "BadText")) = some true
  o_BadText_TaleError : PySem.W.kitOne K (.ref (He.ga K "BadText")) (.ref (He.ga K "TaleError")) = some true
  o_BadText_ValueError : PySem.W.kitOne K (.ref (He.ga K "BadText")) (.type "ValueError") = some true
  e_BadStage_BadStage : PySem.W.exmOne K (.ref (He.ga K "BadStage")) (.ref (He.ga K "BadStage")) = some true
  o_BadStage_TaleError : PySem.W.kitOne K (.ref (He.ga K "BadStage")) (.ref (He.ga K "TaleError")) = some true
  o_BadStage_ValueError : PySem.W.kitOne K (.ref (He.ga K "BadStage")) (.type "ValueError") = some true
  o_Alphabet_Alphabet : PySem.W.kitOne K (.ref (He.ga K "Alphabet")) (.ref (He.ga K "Alphabet")) = some true
  o_Drop_Drop : PySem.W.kitOne K (.ref (He.ga K "Drop")) (.ref (He.ga K "Drop")) = some true
  o_Drop_LastDrop : PySem.W.kitOne K (.ref (He.ga K "Drop")) (.ref (He.ga K "LastDrop")) = some false
  o_Drop_Stage : PySem.W.kitOne K (.ref (He.ga K "Drop")) (.ref (He.ga K "Stage")) = some true
  o_LastDrop_Drop : PySem.W.kitOne K (.ref (He.ga K "LastDrop")) (.ref (He.ga K "Drop")) = some true
  o_LastDrop_LastDrop : PySem.W.kitOne K (.ref (He.ga K "LastDrop")) (.ref (He.ga K "LastDrop")) = some true
  o_LastDrop_Stage : PySem.W.kitOne K (.ref (He.ga K "LastDrop")) (.ref (He.ga K "Stage")) = some true
  cm_BadSet : L2M.calmC K (.ref (He.ga K "BadSet")) = true
  cm_BadStage : L2M.calmC K (.ref (He.ga K "BadStage")) = false
  sb_BadSet : PySem.W.subIn K (.ref (He.ga K "BadSet")) (.type "BaseException") = some true
  fm_Drop___call__ : MethFn K (He.ga K "Drop") "__call__"
  fm_LastDrop___call__ : MethFn K (He.ga K "LastDrop") "__call__"
abbrev pr (a b : Int) : HO := .lst [.int a, .int b]
abbrev scr (ob : Obj) (ns : List Int) : HO := .frz ob (.lst (ns.map V.int))
abbrev AZ : List Nat := [97, 98, 99, 100, 101, 102, 103, 104, 105, 106, 107, 108, 109, 110, 111, 112, 113, 114, 115, 116, 117, 118, 119, 120, 121, 122]
def dif (l : List Nat) : Bool := decide ((dn l : Int) = (l.length : Int))
def badL (l : List Nat) : Bool := l.any (fun c => !decide (c ∈ AZ)) || !(decide (1 ≤ l.length ∧ l.length ≤ 4)) || !dif l
def badV (l v : List Nat) : Bool := v.any (fun c => !decide (c ∈ l)) || !dif v
abbrev tLet : List Nat := [108, 101, 116, 116, 101, 114, 115]
abbrev tVow : List Nat := [118, 111, 119, 101, 108, 115]
def alf (l v : List Nat) : List (Str × V) := [("letters", .str (S (srt l))), ("vowels", .str (S (srt v))), ("consonants", .str (S ((srt l).filter fun c => !decide (c ∈ v)))), ("signs", .str (S (45 :: srt l)))]
theorem badL1 {l : List Nat} (h : (sgn (l.filter fun c => !decide (c ∈ AZ))).isEmpty = false) : badL l = true := by
  rw [sgn_fe] at h
  unfold badL
  simp only [Bool.not_eq_false'] at h
  rw [h, Bool.true_or, Bool.true_or]
theorem badL2 {l : List Nat} (h : ¬ (1 : Int) ≤ (l.length : Int)) : badL l = true := by
  unfold badL
  rw [decide_eq_false (by omega : ¬ (1 ≤ l.length ∧ l.length ≤ 4)), Bool.not_false, Bool.or_true, Bool.true_or]
theorem badL3 {l : List Nat} (h : ¬ (l.length : Int) ≤ 4) : badL l = true := by
  unfold badL
  rw [decide_eq_false (by omega : ¬ (1 ≤ l.length ∧ l.length ≤ 4)), Bool.not_false, Bool.or_true, Bool.true_or]
theorem badL4 {l : List Nat} (h : ¬ (dn l : Int) = (l.length : Int)) : badL l = true := by
  unfold badL dif
  rw [decide_eq_false h, Bool.not_false, Bool.or_true]
theorem badL0 {l : List Nat} (h : (sgn (l.filter fun c => !decide (c ∈ AZ))).isEmpty = true) (h1 : (1 : Int) ≤ (l.length : Int)) (h2 : (l.length : Int) ≤ 4) (h3 : (dn l : Int) = (l.length : Int)) : badL l = false := by
  rw [sgn_fe] at h
  unfold badL dif
  simp only [Bool.not_eq_true'] at h
  rw [h, decide_eq_true (by omega : 1 ≤ l.length ∧ l.length ≤ 4), decide_eq_true h3]; rfl
theorem badV1 {l v : List Nat} (h : (sgn (v.filter fun c => !decide (c ∈ l))).isEmpty = false) : badV l v = true := by
  rw [sgn_fe] at h
  unfold badV
  simp only [Bool.not_eq_false'] at h
  rw [h, Bool.true_or]
theorem badV2 {l v : List Nat} (h : ¬ (dn v : Int) = (v.length : Int)) : badV l v = true := by
  unfold badV dif
  rw [decide_eq_false h, Bool.not_false, Bool.or_true]
theorem badV0 {l v : List Nat} (h : (sgn (v.filter fun c => !decide (c ∈ l))).isEmpty = true) (h3 : (dn v : Int) = (v.length : Int)) : badV l v = false := by
  rw [sgn_fe] at h
  unfold badV dif
  simp only [Bool.not_eq_true'] at h
  rw [h, decide_eq_true h3]; rfl
theorem dif_nd (l : List Nat) : dif l = true ↔ l.Nodup := by
  unfold dif
  rw [decide_eq_true_iff, ← dn_nodup]
  omega
theorem badL_any {l : List Nat} {c : Nat} (h : c ∈ l) (hc : ¬ c ∈ AZ) : badL l = true := by
  unfold badL
  have z : (l.any fun c => !decide (c ∈ AZ)) = true := List.any_eq_true.mpr ⟨c, h, by rw [decide_eq_false hc]; rfl⟩
  rw [z, Bool.true_or, Bool.true_or]
theorem badL_nd {l : List Nat} (h : ¬ l.Nodup) : badL l = true := by
  unfold badL
  have z : dif l = false := by
    cases e : dif l with
    | false => rfl
    | true => exact absurd ((dif_nd l).mp e) h
  rw [z, Bool.not_false, Bool.or_true]
theorem badV_any {l v : List Nat} {c : Nat} (h : c ∈ v) (hc : ¬ c ∈ l) : badV l v = true := by
  unfold badV
  have z : (v.any fun c => !decide (c ∈ l)) = true := List.any_eq_true.mpr ⟨c, h, by rw [decide_eq_false hc]; rfl⟩
  rw [z, Bool.true_or]
theorem badV_nd {l v : List Nat} (h : ¬ v.Nodup) : badV l v = true := by
  unfold badV
  have z : dif v = false := by
    cases e : dif v with
    | false => rfl
    | true => exact absurd ((dif_nd v).mp e) h
  rw [z, Bool.not_false, Bool.or_true]
theorem badL_ok {l : List Nat} (h1 : 1 ≤ l.length) (h2 : l.length ≤ 4) (h3 : l.Nodup) (h4 : ∀ c ∈ l, c ∈ AZ) : badL l = false := by
  unfold badL
  have z : (l.any fun c => !decide (c ∈ AZ)) = false := List.any_eq_false.mpr fun c hc => by rw [decide_eq_true (h4 c hc)]; decide
  rw [z, (dif_nd l).mpr h3, decide_eq_true ⟨h1, h2⟩]; rfl
theorem badV_ok {l v : List Nat} (h3 : v.Nodup) (h4 : ∀ c ∈ v, c ∈ l) : badV l v = false := by
  unfold badV
  have z : (v.any fun c => !decide (c ∈ l)) = false := List.any_eq_false.mpr fun c hc => by rw [decide_eq_true (h4 c hc)]; decide
  rw [z, (dif_nd v).mpr h3]; rfl
theorem nd_at {l : List Nat} {j : Nat} (hj : j < l.length) (h : l[j] ∈ l.take j) : ¬ l.Nodup := fun nd => by
  obtain ⟨i, hi, e⟩ := List.mem_iff_getElem.mp h
  have hi2 : i < j := by rw [List.length_take] at hi; omega
  rw [List.getElem_take] at e
  exact absurd ((List.getElem_inj nd).mp e) (by omega)
theorem nd_take {l : List Nat} {j : Nat} (hj : j < l.length) (h : ¬ l[j] ∈ l.take j) (nd : (l.take j).Nodup) : (l.take (j + 1)).Nodup := by
  rw [List.take_succ_eq_append_getElem hj]
  refine List.nodup_append.mpr ⟨nd, by simp, fun a ha b hb => ?_⟩
  rw [List.mem_singleton.mp hb]
  exact fun e => h (e ▸ ha)
theorem al_take {l m : List Nat} {j : Nat} (hj : j < l.length) (h : l[j] ∈ m) (al : ∀ c ∈ l.take j, c ∈ m) : ∀ c ∈ l.take (j + 1), c ∈ m := fun c hc => by
  rw [List.take_succ_eq_append_getElem hj] at hc
  rcases List.mem_append.mp hc with z | z
  · exact al c z
  · rw [List.mem_singleton.mp z]; exact h
/-- letters and vowels that an alphabet takes -/
def good (l v : List Nat) : Prop := badL l = false ∧ badV l v = false
abbrev alo (K : PySem.W.Frag) (dA : Addr) (l v : List Nat) : HO := .ins (He.ga K "Alphabet") dA (alf l v)
def mid (n : List Nat) : List Nat := cut n (some 1) (some (-1))
def asc (m sg : List Nat) : Bool := m.all (fun c => decide (c ∈ sg)) && decide (srt m.eraseDups = m)
abbrev nAll : List Nat := [97, 108, 108]
abbrev nLet : List Nat := [108, 101, 116, 116, 101, 114, 115]
abbrev nVow : List Nat := [118, 111, 119, 101, 108, 115]
abbrev nCon : List Nat := [99, 111, 110, 115, 111, 110, 97, 110, 116, 115]
abbrev nJoi : List Nat := [106, 111, 105, 110, 116, 115]
def lsv (l n : List Nat) : Option (List Nat) := if n.length < 3 ∨ ¬ n[0]? = some 91 ∨ ¬ n[n.length - 1]? = some 93 then none else if asc (mid n) (45 :: srt l) = true then some (mid n) else none
def stv (l v n : List Nat) : Option (List Nat) := if n = nAll then some (45 :: srt l) else if n = nLet then some (srt l) else if n = nVow then some (srt v) else if n = nCon then some ((srt l).filter fun c => !decide (c ∈ v)) else if n = nJoi then some [45] else lsv l n
/-- what a set's name gives: its signs, or BadSet -/
structure setK (K : PySem.W.Frag) (o : Option (List Nat)) (n : List Nat) (H : Hp) (Q : VK) (E : XK) : Prop where
  out : match o with
  | some m => ∀ H', Kp [] H H' → Q (.str (S m)) H'
  | none => ∀ H' d, Kp [] H H' → H' d = none → E (.ref (He.ga K "BadSet")) (some d) (upd H' d (.xd [("name", .str (S n))]))
theorem itm_m1 {α : Type} {l : List α} {k : α → Prop} (h : 0 < l.length) (q : ∀ (j : Nat) (hj : j < l.length), j = l.length - 1 → k l[j]) : itm l (-1) k := by
  refine itm_i (v := l[l.length - 1]) ?_ (q _ (by omega) rfl)
  have e : ixN l.length (-1) = some (l.length - 1) := by
    unfold ixN
    rw [if_neg (by omega), if_pos (by omega)]
    congr 1
    omega
  unfold atI
  rw [e]
  exact List.getElem?_eq_getElem (by omega)
theorem setK_n {K : PySem.W.Frag} {o : Option (List Nat)} {n : List Nat} {H : Hp} {Q : VK} {E : XK} (q : setK K o n H Q E) (e : o = none) : ∀ H' d, Kp [] H H' → H' d = none → E (.ref (He.ga K "BadSet")) (some d) (upd H' d (.xd [("name", .str (S n))])) := by have q := q.out; rw [e] at q; exact q
theorem setK_s {K : PySem.W.Frag} {o : Option (List Nat)} {n m : List Nat} {H : Hp} {Q : VK} {E : XK} (q : setK K o n H Q E) (e : o = some m) : ∀ H', Kp [] H H' → Q (.str (S m)) H' := by have q := q.out; rw [e] at q; exact q
theorem lsv_1 {l n : List Nat} (h : n.length < 3) : lsv l n = none := by unfold lsv; rw [if_pos (.inl h)]
theorem lsv_2 {l n : List Nat} {j : Nat} (hj : j < n.length) (e : (0 : Int) = j) (h : ¬ [n[j]] = [91]) : lsv l n = none := by
  have : j = 0 := by omega
  subst this
  have hz : ¬ n[0]? = some 91 := fun z => h (by
    have z := (List.getElem?_eq_getElem hj).symm.trans z
    exact congrArg (fun c => [c]) (Option.some.inj z))
  unfold lsv; rw [if_pos (.inr (.inl hz))]
theorem lsv_3 {l n : List Nat} {j : Nat} (hj : j < n.length) (e : j = n.length - 1) (h : ¬ [n[j]] = [93]) : lsv l n = none := by
  subst e
  have hz : ¬ n[n.length - 1]? = some 93 := fun z => h (by
    have z := (List.getElem?_eq_getElem hj).symm.trans z
    exact congrArg (fun c => [c]) (Option.some.inj z))
  unfold lsv; rw [if_pos (.inr (.inr hz))]
theorem lsv_0 {l n : List Nat} {i j : Nat} (h1 : ¬ n.length < 3) (hi : i < n.length) (e : (0 : Int) = i) (h : [n[i]] = [91]) (hj : j < n.length) (e2 : j = n.length - 1) (h2 : [n[j]] = [93]) : lsv l n = if asc (mid n) (45 :: srt l) = true then some (mid n) else none := by
  have : i = 0 := by omega
  subst this
  subst e2
  unfold lsv
  rw [if_neg]
  simp only [not_or, Classical.not_not]
  refine ⟨h1, ?_, ?_⟩
  · rw [List.getElem?_eq_getElem hi]; injection h with h; rw [h]
  · rw [List.getElem?_eq_getElem hj]; injection h2 with h2; rw [h2]
/-- a box: a number, whether it is great, a count, a seed -/
structure bx (H : Hp) (b : Addr) : Prop where
  out : ∃ (a n m : Int) (f : Bool), H b = some (.lst [.int a, .bl f, .int n, .int m])
theorem bx.kp {H H' : Hp} {b : Addr} (h : bx H b) (k : Kp [] H H') : bx H' b := by
  obtain ⟨a, n, m, f, h1⟩ := h.out
  exact ⟨a, n, m, f, k.get0 h1⟩
theorem bx.nn {H : Hp} {b p : Addr} (h : bx H b) (hp : H p = none) : p ≠ b := by
  obtain ⟨a, n, m, f, h1⟩ := h.out
  exact ne_none' h1 hp
theorem bx.nn1 {H : Hp} {b p q : Addr} {o : HO} (h : bx H b) (hp : upd H q o p = none) : p ≠ b := h.nn (by
  unfold upd at hp
  split at hp
  · cases hp
  · exact hp)
theorem bx.nn2 {H : Hp} {b p q q' : Addr} {o o' : HO} (h : bx H b) (hp : upd (upd H q o) q' o' p = none) : p ≠ b := h.nn1 (q := q) (o := o) (by
  unfold upd at hp
  split at hp
  · cases hp
  · exact hp)
theorem bx.off {H : Hp} {b p : Addr} {o : HO} (h : bx H b) (hp : p ≠ b) : bx (upd H p o) b := by
  obtain ⟨a, n, m, f, h1⟩ := h.out
  exact ⟨a, n, m, f, upd_off hp.symm h1⟩
abbrev pol (po : List Nat) : HO := .lst (po.map fun c => V.str (S [c]))
/-- the names that are drawn, the signs behind them -/
structure nmOk (l v n m : List Nat) : Prop where
  n1 : n.length < 60
  st : stv l v n = some m
abbrev sg (l : List Nat) : List Nat := 45 :: srt l
def isS (g t : List Nat) : Bool := match t with
  | [c] => decide (c ∈ g)
  | _ => false
theorem isS_i {g t : List Nat} (h : isS g t = true) : ∃ c, t = [c] ∧ c ∈ g := by
  match t, h with
  | [c], h => exact ⟨c, rfl, of_decide_eq_true h⟩
/-- an own error with one value -/
structure errK (K : PySem.W.Frag) (x f : Str) (u : V) (H : Hp) (E : XK) : Prop where
  out : ∀ H' d, Kp [] H H' → H' d = none → E (.ref (He.ga K x)) (some d) (upd H' d (.xd [(f, u)]))
theorem errK.kp {K : PySem.W.Frag} {x f : Str} {u : V} {H H' : Hp} {E : XK} (e : errK K x f u H E) (k : Kp [] H H') : errK K x f u H' E := ⟨fun H2 d k2 hd => e.out H2 d (k.trans k2) hd⟩
abbrev wSign : List Nat := [115, 105, 103, 110]
abbrev wSet : List Nat := [115, 101, 116]
abbrev wAfter : List Nat := [97, 102, 116, 101, 114]
/-- the written form of a drop -/
def dgt (a : Nat) : List Nat := if a = 0 then [] else [32, 97, 102, 116, 101, 114, 32, 48 + a]
def spl (n : List Nat) (a : Nat) (e : Bool) : List Nat := [100, 114, 111, 112, 32] ++ n ++ dgt a ++ (if e = true then [32, 101, 97, 99, 104] else [])
/-- the classes of stages, their fields -/
def cSt (K : PySem.W.Frag) : Nat → Addr
  | 0 => He.ga K "Write"
  | 1 => He.ga K "Once"
  | 2 => He.ga K "Add"
  | 3 => He.ga K "Drop"
  | 4 => He.ga K "LastDrop"
  | _ => He.ga K "Stage"
def fSt (A : Addr) (n m : List Nat) (c a : Nat) (e : Bool) : Nat → List (Str × V)
  | 0 => [("alphabet", .ref A), ("chosen", .str (S m)), ("sign", .str (S [c])), ("name", .str (S n))]
  | 1 => [("alphabet", .ref A), ("chosen", .str (S m)), ("name", .str (S n))]
  | 2 => [("alphabet", .ref A), ("sign", .str (S [c]))]
  | 3 => [("alphabet", .ref A), ("chosen", .str (S m)), ("name", .str (S n)), ("after", .int (a : Int)), ("each", .bl e), ("spelling", .str (S (spl n a e)))]
  | 4 => [("alphabet", .ref A), ("chosen", .str (S m)), ("name", .str (S n)), ("after", .int (a : Int)), ("each", .bl e), ("spelling", .str (S (spl n a e ++ [32, 98, 117, 116, 32, 108, 97, 115, 116])))]
  | _ => [("alphabet", .ref A)]
structure stgAt (K : PySem.W.Frag) (H : Hp) (x : Addr) (k : Nat) (A : Addr) (n m : List Nat) (c a : Nat) (e : Bool) : Prop where
  out : ∃ dx, H x = some (.ins (cSt K k) dx (fSt A n m c a e k))
theorem stgAt.kp {K : PySem.W.Frag} {H H' : Hp} {x A : Addr} {k c a : Nat} {e : Bool} {n m : List Nat} (h : stgAt K H x k A n m c a e) (kk : Kp [] H H') : stgAt K H' x k A n m c a e := by
  obtain ⟨dx, h⟩ := h.out
  exact ⟨dx, kk.get0 h⟩
/-- a stage's state: a count, signs that are kept -/
abbrev St2 := Nat × List Nat
structure stR (k : Nat) (s : St2) (H : Hp) (v : V) : Prop where
  out : match k with
    | 1 => v = .str (S s.2)
    | 3 => v = .int (s.1 : Int)
    | 4 => ∃ t, v = .ref t ∧ H t = some (.tup [.int (s.1 : Int), .str (S s.2)])
    | _ => v = .int 0
theorem stR.kp {k : Nat} {s : St2} {H H' : Hp} {v : V} (h : stR k s H v) (kk : Kp [] H H') : stR k s H' v := by
  have h := h.out
  refine ⟨?_⟩
  split at h
  · exact h
  · exact h
  · obtain ⟨t, e, h⟩ := h
    exact ⟨t, e, kk.get0 h⟩
  · rename_i n1 n2 n3
    exact h
def dr (m : List Nat) (a : Nat) (e : Bool) (i x : Nat) : Nat × List Nat := if e = true ∧ x = 45 then (0, [x]) else if i < a then (i + 1, [x]) else (i, if x ∈ m then [] else [x])
def adv (k : Nat) (m : List Nat) (c a : Nat) (e : Bool) (s : St2) (x : Nat) : St2 × List Nat := match k with
  | 0 => ((0, []), if x ∈ m then [c] else [x])
  | 1 => ((0, [x]), if [x] = s.2 ∧ x ∈ m then [] else [x])
  | 3 => (((dr m a e s.1 x).1, []), (dr m a e s.1 x).2)
  | 4 => if e = true ∧ x = 45 then (((dr m a e s.1 x).1, []), s.2 ++ (dr m a e s.1 x).2) else if (dr m a e s.1 x).2 = [] then (((dr m a e s.1 x).1, [x]), []) else (((dr m a e s.1 x).1, []), (dr m a e s.1 x).2)
  | _ => ((0, []), [x])
def hnd (k : Nat) (m : List Nat) (c a : Nat) (e : Bool) : St2 → List Nat → St2 × List Nat
  | s, [] => (s, [])
  | s, x :: t => ((hnd k m c a e (adv k m c a e s x).1 t).1, (adv k m c a e s x).2 ++ (hnd k m c a e (adv k m c a e s x).1 t).2)
def fin (k c : Nat) (s : St2) : List Nat := match k with
  | 2 => [c]
  | 4 => s.2
  | _ => []
/-- what a stage makes of a text -/
def res (k : Nat) (m : List Nat) (c a : Nat) (e : Bool) (t : List Nat) : List Nat := (hnd k m c a e (0, []) t).2 ++ fin k c (hnd k m c a e (0, []) t).1
abbrev wBut : List Nat := [32, 98, 117, 116, 32, 108, 97, 115, 116]
/-- what the law's walk leaves -/
def ldr (m : List Nat) (a : Nat) (e la : Bool) : Nat → List Nat → List Nat
  | _, [] => []
  | i, x :: t => (if ¬ x ∈ m ∨ (if e = true ∧ x = 45 then 0 else i + 1) ≤ a ∨ (la = true ∧ (t = [] ∨ (e = true ∧ t.head? = some 45))) then [x] else []) ++ ldr m a e la (if e = true ∧ x = 45 then 0 else i + 1) t
abbrev kd (la : Bool) : Nat := if la = true then 4 else 3

/-! _law_take -/
theorem sc_l_take : FnScope ["_law_box_here", "_law_many", "_law_digit", "_law_one", "_law_two"] ["_law_box_here", "_law_many"] (defScope s_l_take) := ⟨rfl, rfl, rfl, by decide +kernel, rfl, by decide +kernel, by decide +kernel⟩
structure sp_l_take (K : PySem.W.Frag) (vs : List V) (H : Hp) (Q : VK) (E : XK) : Prop where
  out : ∃ (b : Addr) (z : Int), vs = [.ref b, .int z] ∧ (bx H b) ∧ (0 < z ∧ z ≤ 1000) ∧ (∀ r H', 0 ≤ r → r < z → Kp [b] H H' → bx H' b → Q (.int r) H')
theorem i_l_take {K : PySem.W.Frag} {b : Addr} {z : Int} {H : Hp} {Q : VK} {E : XK} (hb : bx H b) (hz : 0 < z ∧ z ≤ 1000) (q1 : ∀ r H', 0 ≤ r → r < z → Kp [b] H H' → bx H' b → Q (.int r) H') : sp_l_take K [.ref b, .int z] H Q E := by
  exact ⟨⟨b, z, rfl, hb, hz, q1⟩⟩
theorem d_l_take {K : PySem.W.Frag} {vs : List V} {H : Hp} {Q : VK} {E : XK} (h : sp_l_take K vs H Q E) : sp_l_take K vs H Q E := h


def t_l_take (K : PySem.W.Frag) (W : WX) : TS :=
  (tSeq (tAsg (tOp zAdd (tOp (zIxP K) (tV 0) (tC (.int 2))) (tC (.int 1))) (gSub (tV 0) (tC (.int 2)) zSetP))
  (tSeq (tIfP (tAndP (tTru K (tOp (zIxP K) (tV 0) (tC (.int 1)))) (tTst (tOp zGt (tOp (zIxP K) (tV 0) (tC (.int 0))) (tC (.int 0))))) (tSeq (tAsg (tOp zMod (tCB (zInt) (tCons (tOp (zIxP K) (tV 0) (tC (.int 0))) tNil)) (tV 1)) (gName 2))
  (tSeq (tAsg (tOp zDivW (tOp (zIxP K) (tV 0) (tC (.int 0))) (tV 1)) (gSub (tV 0) (tC (.int 0)) zSetP))
  (tRet (tV 2)))) tNext)
  (tSeq (tAsg (tOp zMod (tCB (zInt) (tCons (tOp zAdd (tOp zAdd (tOp zMul (tOp (zIxP K) (tV 0) (tC (.int 3))) (tC (.int 31))) (tOp zMul (tOp (zIxP K) (tV 0) (tC (.int 2))) (tC (.int 17)))) (tC (.int 5))) tNil)) (tC (.int 1009))) (gName 3))
  (tSeq (tAsg (tOp zMod (tCB (zInt) (tCons (tOp zAdd (tOp zAdd (tOp zMul (tV 3) (tV 3)) (tOp (zIxP K) (tV 0) (tC (.int 3)))) (tOp zMul (tOp (zIxP K) (tV 0) (tC (.int 2))) (tC (.int 29)))) tNil)) (tC (.int 997))) (gName 4))
  (tRet (tOp zMod (tOp zMod (tCB (zInt) (tCons (tOp zAdd (tOp zMul (tV 4) (tV 4)) (tOp zMul (tV 3) (tC (.int 7)))) tNil)) (tC (.int 991))) (tV 1)))))))
theorem tm_l_take {P : Program} {w : World} {K : PySem.W.Frag} {mg : Str → Option Value} {base : Heap} {f : Addr} {cdv : Value} {A : Around} {outer : List Env} {s : Shared} {H : Hp} {E : XK} (T : Tx K mg) (hr : Room 4 (A.deeper (envOfC "_law_take" (defScope s_l_take) s.heap.objs.size f cdv))) :
    PSs (cxOf (L2M.CX K P w) P w K mg base ["_law_box_here", "_law_many", "_law_digit", "_law_one", "_law_two"] "_law_take" (defScope s_l_take) f cdv A outer s H E) (defBody s_l_take) (t_l_take K (WD E)) :=
  (pss_cons (psub (pe_op opadd (pix (Ta.pv 0) pe_int) pe_int) (Ta.pv 0) pe_int)
  (pss_cons (psif (PW.pt (pwand (ptru (pix (Ta.pv 0) pe_int)) (pw_and1 (ptcmp opgt (pix (Ta.pv 0) pe_int) pe_int)))) (pss_cons (pset 2 sc_l_take.nd (pe_op opmod (pct (crint) T.f_int (pa_cons (pix (Ta.pv 0) pe_int) pa_nil)) (Ta.pv 1)))
  (pss_cons (psub (pe_op opdivW (pix (Ta.pv 0) pe_int) (Ta.pv 1)) (Ta.pv 0) pe_int)
  (pss_one (ps_ret (Ta.pv 2))))) pss_nil)
  (pss_cons (pset 3 sc_l_take.nd (pe_op opmod (pct (crint) T.f_int (pa_cons (pe_op opadd (pe_op opadd (pe_op opmul (pix (Ta.pv 0) pe_int) pe_int) (pe_op opmul (pix (Ta.pv 0) pe_int) pe_int)) pe_int) pa_nil)) pe_int))
  (pss_cons (pset 4 sc_l_take.nd (pe_op opmod (pct (crint) T.f_int (pa_cons (pe_op opadd (pe_op opadd (pe_op opmul (Ta.pv 3) (Ta.pv 3)) (pix (Ta.pv 0) pe_int)) (pe_op opmul (pix (Ta.pv 0) pe_int) pe_int)) pa_nil)) pe_int))
  (pss_one (ps_ret (pe_op opmod (pe_op opmod (pct (crint) T.f_int (pa_cons (pe_op opadd (pe_op opmul (Ta.pv 4) (Ta.pv 4)) (pe_op opmul (Ta.pv 3) pe_int)) pa_nil)) pe_int) (Ta.pv 1))))))))
/-! Alphabet_is_text -/
theorem sc_Alphabet_is_text : FnScope ["self", "text", "sign"] ["self", "text"] (defScope s_Alphabet_is_text) := ⟨rfl, rfl, rfl, by decide +kernel, rfl, by decide +kernel, by decide +kernel⟩
structure sp_Alphabet_is_text (K : PySem.W.Frag) (vs : List V) (H : Hp) (Q : VK) (E : XK) : Prop where
  out : ∃ (A dA : Addr) (l v t : List Nat), vs = [.ref A, .str (S t)] ∧ H A = some (alo K dA l v) ∧ Q (.bl (t.all fun c => decide (c ∈ 45 :: srt l))) H
theorem i_Alphabet_is_text {K : PySem.W.Frag} {A dA : Addr} {l v t : List Nat} {H : Hp} {Q : VK} {E : XK} (hA : H A = some (alo K dA l v)) (q : Q (.bl (t.all fun c => decide (c ∈ 45 :: srt l))) H) : sp_Alphabet_is_text K [.ref A, .str (S t)] H Q E := by
  exact ⟨⟨A, dA, l, v, t, rfl, hA, q⟩⟩

def b_Alphabet_is_text_1 (K : PySem.W.Frag) (W : WX) : TS :=
  (tIfP (tTst (tOp (zNinP K) (tV 2) (tAt K (tV 0) "signs"))) (tRet (tC (.bl false))) tNext)
def t_Alphabet_is_text (K : PySem.W.Frag) (W : WX) : TS :=
  (tSeq (tForP (jA K (tV 1)) (gName 2) (b_Alphabet_is_text_1 K W))
  (tRet (tC (.bl true))))
theorem tm_Alphabet_is_text {P : Program} {w : World} {K : PySem.W.Frag} {mg : Str → Option Value} {base : Heap} {f : Addr} {cdv : Value} {A : Around} {outer : List Env} {s : Shared} {H : Hp} {E : XK} (T : Tx K mg) (hr : Room 4 (A.deeper (envOfC "Alphabet.is_text" (defScope s_Alphabet_is_text) s.heap.objs.size f cdv))) :
    PSs (cxOf (L2M.CX K P w) P w K mg base ["self", "text", "sign"] "Alphabet.is_text" (defScope s_Alphabet_is_text) f cdv A outer s H E) (defBody s_Alphabet_is_text) (t_Alphabet_is_text K (WD E)) :=
  (pss_cons (psfor ownD rfl (pja (Ta.pv 1)) (pgn 2 sc_Alphabet_is_text.nd) (pss_one (psif (ptcmp opnin (Ta.pv 2) (patt (Ta.pv 0))) (pss_one (ps_ret pe_bl)) pss_nil)))
  (pss_one (ps_ret pe_bl)))
/-! Alphabet_check -/
theorem sc_Alphabet_check : FnScope ["self", "text"] ["self", "text"] (defScope s_Alphabet_check) := ⟨rfl, rfl, rfl, by decide +kernel, rfl, by decide +kernel, by decide +kernel⟩
structure sp_Alphabet_check (K : PySem.W.Frag) (vs : List V) (H : Hp) (Q : VK) (E : XK) : Prop where
  out : ∃ (A dA : Addr) (l v t : List Nat), vs = [.ref A, .str (S t)] ∧ H A = some (alo K dA l v) ∧ ((∀ c ∈ t, c ∈ 45 :: srt l) → Q .non H) ∧ ((t.all fun c => decide (c ∈ 45 :: srt l)) = false → ∀ d, H d = none → E (.ref (He.ga K "BadText")) (some d) (upd H d (.xd [("text", .str (S t))])))
theorem i_Alphabet_checkB {K : PySem.W.Frag} {A dA : Addr} {l v t : List Nat} {H : Hp} {Q : VK} {E : XK} (hA : H A = some (alo K dA l v)) (q1 : (∀ c ∈ t, c ∈ 45 :: srt l) → Q .non H) (q2 : (t.all fun c => decide (c ∈ 45 :: srt l)) = false → ∀ d, H d = none → E (.ref (He.ga K "BadText")) (some d) (upd H d (.xd [("text", .str (S t))]))) : sp_Alphabet_check K [.ref A, .str (S t)] H Q E := by
  exact ⟨⟨A, dA, l, v, t, rfl, hA, q1, q2⟩⟩

def t_Alphabet_check (K : PySem.W.Frag) (W : WX) : TS :=
  (tIfP (tNot (tTru K (tMe [(He.ga K "Alphabet", [], sp_Alphabet_is_text K)] "is_text" W (tV 0) (tCons (tV 1) tNil)))) (tRs (He.ga K "BadText") ["text"] W (tCons (tV 1) tNil)) tNext)
theorem tm_Alphabet_check {P : Program} {w : World} {K : PySem.W.Frag} {mg : Str → Option Value} {base : Heap} {f : Addr} {cdv : Value} {A : Around} {outer : List Env} {s : Shared} {H : Hp} {E : XK} (T : Tx K mg) (G_Alphabet_is_text : Me P w K mg base (He.ga K "Alphabet") "is_text" 5 [] (sp_Alphabet_is_text K)) (X_BadText : Ex P w K mg base "BadText" (He.ga K "BadText") ["text"]) (hr : Room 6 (A.deeper (envOfC "Alphabet.check" (defScope s_Alphabet_check) s.heap.objs.size f cdv))) :
    PSs (cxOf (L2M.CX K P w) P w K mg base ["self", "text"] "Alphabet.check" (defScope s_Alphabet_check) f cdv A outer s H E) (defBody s_Alphabet_check) (t_Alphabet_check K (WD E)) :=
  (pss_one (psif (pt_not (ptru (pmeth (ms := [(He.ga K "Alphabet", [], sp_Alphabet_is_text K)]) (fun e he => by obtain rfl := List.mem_singleton.mp he; exact G_Alphabet_is_text) (hr.mono (by decide)) takesD (Ta.pv 0) (pa_cons (Ta.pv 1) pa_nil)))) (pss_one (praise X_BadText (hr.mono (by decide)) takesD (pa_cons (Ta.pv 1) pa_nil))) pss_nil))
/-! Drop_advance -/
theorem sc_Drop_advance : FnScope ["self", "state", "sign"] ["self", "state", "sign"] (defScope s_Drop_advance) := ⟨rfl, rfl, rfl, by decide +kernel, rfl, by decide +kernel, by decide +kernel⟩
structure sp_Drop_advance (K : PySem.W.Frag) (vs : List V) (H : Hp) (Q : VK) (E : XK) : Prop where
  out : ∃ (x A : Addr) (n m : List Nat) (c a : Nat) (e : Bool) (k i y : Nat), vs = [.ref x, .int (i : Int), .str (S [y])] ∧ (k = 3 ∨ k = 4) ∧ (stgAt K H x k A n m c a e) ∧ (∀ r, H r = none → Q (.ref r) (upd H r (.tup [.int ((dr m a e i y).1 : Int), .str (S (dr m a e i y).2)])))
theorem i_Drop_advance {K : PySem.W.Frag} {x A : Addr} {n m : List Nat} {c a : Nat} {e : Bool} {k i y : Nat} {u0 : Int} {H : Hp} {Q : VK} {E : XK} (e_u0 : u0 = (i : Int)) (hk : k = 3 ∨ k = 4) (hx : stgAt K H x k A n m c a e) (q1 : ∀ r, H r = none → Q (.ref r) (upd H r (.tup [.int ((dr m a e i y).1 : Int), .str (S (dr m a e i y).2)]))) : sp_Drop_advance K [.ref x, .int u0, .str (S [y])] H Q E := by
  subst e_u0; exact ⟨⟨x, A, n, m, c, a, e, k, i, y, rfl, hk, hx, q1⟩⟩
theorem d_Drop_advance {K : PySem.W.Frag} {vs : List V} {H : Hp} {Q : VK} {E : XK} (h : sp_Drop_advance K vs H Q E) : sp_Drop_advance K vs H Q E := h


def t_Drop_advance (K : PySem.W.Frag) (W : WX) : TS :=
  (tSeq (tIfP (tAndP (tTru K (tAt K (tV 0) "each")) (tTst (tOp (zEqP K) (tV 2) (tC (.str (S [45])))))) (tRet (tTup (tCons (tC (.int 0)) (tCons (tV 2) tNil)))) tNext)
  (tSeq (tIfP (tTst (tOp zLt (tV 1) (tAt K (tV 0) "after"))) (tRet (tTup (tCons (tOp zAdd (tV 1) (tC (.int 1))) (tCons (tV 2) tNil)))) tNext)
  (tRet (tTup (tCons (tV 1) (tCons (tIfE (tTst (tOp (zInP K) (tV 2) (tAt K (tV 0) "chosen"))) (tC (.str (S []))) (tV 2)) tNil))))))
theorem tm_Drop_advance {P : Program} {w : World} {K : PySem.W.Frag} {mg : Str → Option Value} {base : Heap} {f : Addr} {cdv : Value} {A : Around} {outer : List Env} {s : Shared} {H : Hp} {E : XK} (T : Tx K mg) (hr : Room 4 (A.deeper (envOfC "Drop.advance" (defScope s_Drop_advance) s.heap.objs.size f cdv))) :
    PSs (cxOf (L2M.CX K P w) P w K mg base ["self", "state", "sign"] "Drop.advance" (defScope s_Drop_advance) f cdv A outer s H E) (defBody s_Drop_advance) (t_Drop_advance K (WD E)) :=
  (pss_cons (psif (PW.pt (pwand (ptru (patt (Ta.pv 0))) (pw_and1 (ptcmp (opeq hr.units) (Ta.pv 2) (pclv T.cc_Alphabet_JOINT))))) (pss_one (ps_ret (pe_tup (pa_cons pe_int (pa_cons (Ta.pv 2) pa_nil))))) pss_nil)
  (pss_cons (psif (ptcmp oplt (Ta.pv 1) (patt (Ta.pv 0))) (pss_one (ps_ret (pe_tup (pa_cons (pe_op opadd (Ta.pv 1) pe_int) (pa_cons (Ta.pv 2) pa_nil))))) pss_nil)
  (pss_one (ps_ret (pe_tup (pa_cons (Ta.pv 1) (pa_cons (peif (ptcmp opin (Ta.pv 2) (patt (Ta.pv 0))) (pstr []) (Ta.pv 2)) pa_nil)))))))
/-! LastDrop_advance -/
theorem sc_LastDrop_advance : NdefX.NScope ["self", "state", "sign", "__class__", "count", "waiting", "written"] ["self", "state", "sign"] ["__class__"] (defScope s_LastDrop_advance) := NdefX.nscope_by (by decide +kernel)
structure sp_LastDrop_advance (K : PySem.W.Frag) (vs : List V) (H : Hp) (Q : VK) (E : XK) : Prop where
  out : ∃ (x A : Addr) (n m : List Nat) (c a : Nat) (e : Bool) (i y : Nat) (w : List Nat) (t : Addr), vs = [.ref x, .ref t, .str (S [y])] ∧ (stgAt K H x 4 A n m c a e) ∧ (H t = some (.tup [.int (i : Int), .str (S w)])) ∧ (w.length < 1000) ∧ (∀ r t' H', Kp [] H H' → H r = none → H' r = some (.tup [.ref t', .str (S (adv 4 m c a e (i, w) y).2)]) → H' t' = some (.tup [.int ((adv 4 m c a e (i, w) y).1.1 : Int), .str (S (adv 4 m c a e (i, w) y).1.2)]) → Q (.ref r) H')
theorem i_LastDrop_advance {K : PySem.W.Frag} {x A : Addr} {n m : List Nat} {c a : Nat} {e : Bool} {i y : Nat} {w : List Nat} {t : Addr} {H : Hp} {Q : VK} {E : XK} (hx : stgAt K H x 4 A n m c a e) (ht : H t = some (.tup [.int (i : Int), .str (S w)])) (hw : w.length < 1000) (q1 : ∀ r t' H', Kp [] H H' → H r = none → H' r = some (.tup [.ref t', .str (S (adv 4 m c a e (i, w) y).2)]) → H' t' = some (.tup [.int ((adv 4 m c a e (i, w) y).1.1 : Int), .str (S (adv 4 m c a e (i, w) y).1.2)]) → Q (.ref r) H') : sp_LastDrop_advance K [.ref x, .ref t, .str (S [y])] H Q E := by
  exact ⟨⟨x, A, n, m, c, a, e, i, y, w, t, rfl, hx, ht, hw, q1⟩⟩
theorem d_LastDrop_advance {K : PySem.W.Frag} {vs : List V} {H : Hp} {Q : VK} {E : XK} (h : sp_LastDrop_advance K vs H Q E) : sp_LastDrop_advance K vs H Q E := h


def t_LastDrop_advance (K : PySem.W.Frag) (W : WX) : TS :=
  (tSeq (tAsg (tV 1) (gTup K 2 (gCons (gName 4) (gCons (gName 5) gNil))))
  (tSeq (tAsg (tMe [(He.ga K "LastDrop", [], sp_Drop_advance K)] "advance" W (tV 0) (tCons (tV 4) (tCons (tV 2) tNil))) (gTup K 2 (gCons (gName 4) (gCons (gName 6) gNil))))
  (tSeq (tIfP (tAndP (tTru K (tAt K (tV 0) "each")) (tTst (tOp (zEqP K) (tV 2) (tC (.str (S [45])))))) (tRet (tTup (tCons (tTup (tCons (tV 4) (tCons (tC (.str (S []))) tNil))) (tCons (tOp zAdd (tV 5) (tV 6)) tNil)))) tNext)
  (tSeq (tIfP (tTst (tOp (zEqP K) (tV 6) (tC (.str (S []))))) (tRet (tTup (tCons (tTup (tCons (tV 4) (tCons (tV 2) tNil))) (tCons (tC (.str (S []))) tNil)))) tNext)
  (tRet (tTup (tCons (tTup (tCons (tV 4) (tCons (tC (.str (S []))) tNil))) (tCons (tV 6) tNil))))))))
theorem tm_LastDrop_advance {P : Program} {w : World} {K : PySem.W.Frag} {mg : Str → Option Value} {base : Heap} {f D c : Addr} {cl : List (Str × Addr)} {fd : FuncData} {A : Around} {outer : List Env} {s : Shared} {H : Hp} {E : XK} (T : Tx K mg) (SF : SupFn P K f ⟨"advance", "LastDrop.advance", defArgs s_LastDrop_advance, defBody s_LastDrop_advance, defScope s_LastDrop_advance, cl, c⟩ D [] fd) (SU : ∀ e ∈ ([(He.ga K "LastDrop", [], sp_Drop_advance K)] : MS), Su P w K mg base D e.1 "advance" 5 e.2.1 e.2.2) (hr : Room 6 (A.deeper (NdefX.envF ⟨"advance", "LastDrop.advance", defArgs s_LastDrop_advance, defBody s_LastDrop_advance, defScope s_LastDrop_advance, cl, c⟩ f s.heap.objs.size))) :
    PAt (NdefX.ncx (L2M.CX K P w) P w K mg base ["self", "state", "sign", "__class__", "count", "waiting", "written"] ⟨"advance", "LastDrop.advance", defArgs s_LastDrop_advance, defBody s_LastDrop_advance, defScope s_LastDrop_advance, cl, c⟩ f A outer s H E) (defBody s_LastDrop_advance) (defBody s_LastDrop_advance) (t_LastDrop_advance K (WD E)) :=
  (pat_cons (pas_of (ps_asg (Ta.pv 1) (pg_tup rfl (pgs_cons (pgn 4 sc_LastDrop_advance.nd) (pgs_cons (pgn 5 sc_LastDrop_advance.nd) pgs_nil)))))
  (pat_cons (pas_asg (psup (i := 0) (ms := [(He.ga K "LastDrop", [], sp_Drop_advance K)]) SF rfl T.f_super rfl rfl (show (defScope s_LastDrop_advance).names.lookup ("self" : Str) = some .local by decide +kernel) (show (defScope s_LastDrop_advance).names.lookup ("super" : Str) = some .globalImplicit by decide +kernel) (show (defScope s_LastDrop_advance).names.lookup ("__class__" : Str) = some .free by decide +kernel) rfl rfl SU (hr.mono (by decide)) takesN (pa_cons (Ta.pv 4) (pa_cons (Ta.pv 2) pa_nil))) (pg_tup rfl (pgs_cons (pgn 4 sc_LastDrop_advance.nd) (pgs_cons (pgn 6 sc_LastDrop_advance.nd) pgs_nil))))
  (pat_of (pss_cons (psif (PW.pt (pwand (ptru (patt (Ta.pv 0))) (pw_and1 (ptcmp (opeq hr.units) (Ta.pv 2) (pclv T.cc_Alphabet_JOINT))))) (pss_one (ps_ret (pe_tup (pa_cons (pe_tup (pa_cons (Ta.pv 4) (pa_cons (pstr []) pa_nil))) (pa_cons (pe_op opadd (Ta.pv 5) (Ta.pv 6)) pa_nil))))) pss_nil)
  (pss_cons (psif (ptcmp (opeq hr.units) (Ta.pv 6) (pstr [])) (pss_one (ps_ret (pe_tup (pa_cons (pe_tup (pa_cons (Ta.pv 4) (pa_cons (Ta.pv 2) pa_nil))) (pa_cons (pstr []) pa_nil))))) pss_nil)
  (pss_one (ps_ret (pe_tup (pa_cons (pe_tup (pa_cons (Ta.pv 4) (pa_cons (pstr []) pa_nil))) (pa_cons (Ta.pv 6) pa_nil))))))))))
/-! handed_on -/
theorem sc_handed_on : FnScope ["stages", "states", "text", "moved", "number", "state", "written", "sign", "part"] ["stages", "states", "text"] (defScope s_handed_on) := ⟨rfl, rfl, rfl, by decide +kernel, rfl, by decide +kernel, by decide +kernel⟩
structure sp_handed_on (K : PySem.W.Frag) (vs : List V) (H : Hp) (Q : VK) (E : XK) : Prop where
  out : ∃ (p q x A : Addr) (k c a : Nat) (e : Bool) (n m : List Nat) (s : St2) (sv : V) (t : List Nat) (b : Bool), vs = [.ref p, .ref q, .str (S t)] ∧ (k = 3 ∨ k = 4) ∧ (b = true → stgAt K H x k A n m c a e) ∧ (H p = some (.lst (if b = true then [.ref x] else []))) ∧ (H q = some (.lst (if b = true then [sv] else []))) ∧ (b = true → stR k s H sv) ∧ (s.2.length ≤ 1) ∧ (t.length < 1000) ∧ (∀ r w sv' H', Kp [] H H' → H w = none → H r = none → w ≠ r → H' r = some (.tup [.ref w, .str (S (if b = true then (hnd k m c a e s t).2 else t))]) → H' w = some (.lst (if b = true then [sv'] else [])) → (b = true → stR k (hnd k m c a e s t).1 H' sv') → Q (.ref r) H')
theorem i_handed_on {K : PySem.W.Frag} {p q x A : Addr} {k c a : Nat} {e : Bool} {n m : List Nat} {s : St2} {sv : V} {t : List Nat} {b : Bool} {H : Hp} {Q : VK} {E : XK} (hk : k = 3 ∨ k = 4) (hx : b = true → stgAt K H x k A n m c a e) (hp : H p = some (.lst (if b = true then [.ref x] else []))) (hq : H q = some (.lst (if b = true then [sv] else []))) (hs : b = true → stR k s H sv) (hl : s.2.length ≤ 1) (ht : t.length < 1000) (q1 : ∀ r w sv' H', Kp [] H H' → H w = none → H r = none → w ≠ r → H' r = some (.tup [.ref w, .str (S (if b = true then (hnd k m c a e s t).2 else t))]) → H' w = some (.lst (if b = true then [sv'] else [])) → (b = true → stR k (hnd k m c a e s t).1 H' sv') → Q (.ref r) H') : sp_handed_on K [.ref p, .ref q, .str (S t)] H Q E := by
  exact ⟨⟨p, q, x, A, k, c, a, e, n, m, s, sv, t, b, rfl, hk, hx, hp, hq, hs, hl, ht, q1⟩⟩
theorem d_handed_on {K : PySem.W.Frag} {vs : List V} {H : Hp} {Q : VK} {E : XK} (h : sp_handed_on K vs H Q E) : sp_handed_on K vs H Q E := h


def b_handed_on_2 (K : PySem.W.Frag) (W : WX) : TS :=
  (tSeq (tAsg (tMe [(He.ga K "Drop", [], sp_Drop_advance K), (He.ga K "LastDrop", [], sp_LastDrop_advance K)] "advance" W (tOp (zIxP K) (tV 0) (tV 4)) (tCons (tV 5) (tCons (tV 7) tNil))) (gTup K 2 (gCons (gName 5) (gCons (gName 8) gNil))))
  (tDrop (tLM zAppP (tV 6) (tCons (tV 8) tNil))))
def b_handed_on_1 (K : PySem.W.Frag) (W : WX) : TS :=
  (tSeq (tAsg (tOp (zIxP K) (tV 1) (tV 4)) (gName 5))
  (tSeq (tAsg (tLst tNil) (gName 6))
  (tSeq (tForP (jA K (tV 2)) (gName 7) (b_handed_on_2 K W))
  (tSeq (tDrop (tLM zAppP (tV 3) (tCons (tV 5) tNil)))
  (tAsg (tSM (zJoin K) (tC (.str (S []))) (tCons (tV 6) tNil)) (gName 2))))))
def t_handed_on (K : PySem.W.Frag) (W : WX) : TS :=
  (tSeq (tAsg (tLst tNil) (gName 3))
  (tSeq (tForP (jR1 (tCons (tCB (zLen K) (tCons (tV 0) tNil)) tNil)) (gName 4) (b_handed_on_1 K W))
  (tRet (tTup (tCons (tV 3) (tCons (tV 2) tNil))))))
theorem tm_handed_on {P : Program} {w : World} {K : PySem.W.Frag} {mg : Str → Option Value} {base : Heap} {f : Addr} {cdv : Value} {A : Around} {outer : List Env} {s : Shared} {H : Hp} {E : XK} (T : Tx K mg) (G_Drop_advance : Me P w K mg base (He.ga K "Drop") "advance" 7 [] (sp_Drop_advance K)) (G_LastDrop_advance : Me P w K mg base (He.ga K "LastDrop") "advance" 7 [] (sp_LastDrop_advance K)) (hr : Room 8 (A.deeper (envOfC "handed_on" (defScope s_handed_on) s.heap.objs.size f cdv))) :
    PSs (cxOf (L2M.CX K P w) P w K mg base ["stages", "states", "text", "moved", "number", "state", "written", "sign", "part"] "handed_on" (defScope s_handed_on) f cdv A outer s H E) (defBody s_handed_on) (t_handed_on K (WD E)) :=
  (pss_cons (pset 3 sc_handed_on.nd (pe_lst pa_nil))
  (pss_cons (psfor ownD rfl (pjr1 T.f_range (pa_cons (pcb (crlen) T.f_len (pa_cons (Ta.pv 0) pa_nil)) pa_nil)) (pgn 4 sc_handed_on.nd) (pss_cons (pset 5 sc_handed_on.nd (pix (Ta.pv 1) (Ta.pv 4)))
  (pss_cons (pset 6 sc_handed_on.nd (pe_lst pa_nil))
  (pss_cons (psfor ownD rfl (pja (Ta.pv 2)) (pgn 7 sc_handed_on.nd) (pss_cons (ps_asg (pmeth (ms := [(He.ga K "Drop", [], sp_Drop_advance K), (He.ga K "LastDrop", [], sp_LastDrop_advance K)]) (fun e he => by simp only [List.mem_cons, List.not_mem_nil, or_false] at he; rcases he with rfl | rfl <;> first | exact G_Drop_advance | exact G_LastDrop_advance) (hr.mono (by decide)) takesD (pix (Ta.pv 0) (Ta.pv 4)) (pa_cons (Ta.pv 5) (pa_cons (Ta.pv 7) pa_nil))) (pg_tup rfl (pgs_cons (pgn 5 sc_handed_on.nd) (pgs_cons (pgn 8 sc_handed_on.nd) pgs_nil))))
  (pss_one (ps_expr (plm PySem.F.slot_list_append PySem.F.type_list_append mtapp (Ta.pv 6) (pa_cons (Ta.pv 8) pa_nil))))))
  (pss_cons (ps_expr (plm PySem.F.slot_list_append PySem.F.type_list_append mtapp (Ta.pv 3) (pa_cons (Ta.pv 5) pa_nil)))
  (pss_one (pset 2 sc_handed_on.nd (psm PySem.F.slot_str_join PySem.F.type_str_join mtjoin (pstr []) (pa_cons (Ta.pv 6) pa_nil)))))))))
  (pss_one (ps_ret (pe_tup (pa_cons (Ta.pv 3) (pa_cons (Ta.pv 2) pa_nil)))))))
/-! Drop_begin -/
theorem sc_Drop_begin : FnScope ["self"] ["self"] (defScope s_Drop_begin) := ⟨rfl, rfl, rfl, by decide +kernel, rfl, by decide +kernel, by decide +kernel⟩
structure sp_Drop_begin (K : PySem.W.Frag) (vs : List V) (H : Hp) (Q : VK) (E : XK) : Prop where
  out : ∃ (x : Addr), vs = [.ref x] ∧ (Q (.int 0) H)
theorem i_Drop_begin {K : PySem.W.Frag} {x : Addr} {H : Hp} {Q : VK} {E : XK} (q1 : Q (.int 0) H) : sp_Drop_begin K [.ref x] H Q E := by
  exact ⟨⟨x, rfl, q1⟩⟩
theorem d_Drop_begin {K : PySem.W.Frag} {vs : List V} {H : Hp} {Q : VK} {E : XK} (h : sp_Drop_begin K vs H Q E) : sp_Drop_begin K vs H Q E := h


def t_Drop_begin (K : PySem.W.Frag) (W : WX) : TS :=
  (tRet (tC (.int 0)))
theorem tm_Drop_begin {P : Program} {w : World} {K : PySem.W.Frag} {mg : Str → Option Value} {base : Heap} {f : Addr} {cdv : Value} {A : Around} {outer : List Env} {s : Shared} {H : Hp} {E : XK} (T : Tx K mg) (hr : Room 4 (A.deeper (envOfC "Drop.begin" (defScope s_Drop_begin) s.heap.objs.size f cdv))) :
    PSs (cxOf (L2M.CX K P w) P w K mg base ["self"] "Drop.begin" (defScope s_Drop_begin) f cdv A outer s H E) (defBody s_Drop_begin) (t_Drop_begin K (WD E)) :=
  (pss_one (ps_ret pe_int))
/-! LastDrop_begin -/
theorem sc_LastDrop_begin : FnScope ["self"] ["self"] (defScope s_LastDrop_begin) := ⟨rfl, rfl, rfl, by decide +kernel, rfl, by decide +kernel, by decide +kernel⟩
structure sp_LastDrop_begin (K : PySem.W.Frag) (vs : List V) (H : Hp) (Q : VK) (E : XK) : Prop where
  out : ∃ (x : Addr), vs = [.ref x] ∧ (∀ r, H r = none → Q (.ref r) (upd H r (.tup [.int 0, .str (S [])])))
theorem i_LastDrop_begin {K : PySem.W.Frag} {x : Addr} {H : Hp} {Q : VK} {E : XK} (q1 : ∀ r, H r = none → Q (.ref r) (upd H r (.tup [.int 0, .str (S [])]))) : sp_LastDrop_begin K [.ref x] H Q E := by
  exact ⟨⟨x, rfl, q1⟩⟩
theorem d_LastDrop_begin {K : PySem.W.Frag} {vs : List V} {H : Hp} {Q : VK} {E : XK} (h : sp_LastDrop_begin K vs H Q E) : sp_LastDrop_begin K vs H Q E := h


def t_LastDrop_begin (K : PySem.W.Frag) (W : WX) : TS :=
  (tRet (tTup (tCons (tC (.int 0)) (tCons (tC (.str (S []))) tNil))))
theorem tm_LastDrop_begin {P : Program} {w : World} {K : PySem.W.Frag} {mg : Str → Option Value} {base : Heap} {f : Addr} {cdv : Value} {A : Around} {outer : List Env} {s : Shared} {H : Hp} {E : XK} (T : Tx K mg) (hr : Room 4 (A.deeper (envOfC "LastDrop.begin" (defScope s_LastDrop_begin) s.heap.objs.size f cdv))) :
    PSs (cxOf (L2M.CX K P w) P w K mg base ["self"] "LastDrop.begin" (defScope s_LastDrop_begin) f cdv A outer s H E) (defBody s_LastDrop_begin) (t_LastDrop_begin K (WD E)) :=
  (pss_one (ps_ret (pe_tup (pa_cons pe_int (pa_cons (pstr []) pa_nil)))))
/-! Stage_finish -/
theorem sc_Stage_finish : FnScope ["self", "state"] ["self", "state"] (defScope s_Stage_finish) := ⟨rfl, rfl, rfl, by decide +kernel, rfl, by decide +kernel, by decide +kernel⟩
structure sp_Stage_finish (K : PySem.W.Frag) (vs : List V) (H : Hp) (Q : VK) (E : XK) : Prop where
  out : ∃ (x : Addr) (s : V), vs = [.ref x, s] ∧ (Q (.str (S [])) H)
theorem i_Stage_finish {K : PySem.W.Frag} {x : Addr} {s : V} {H : Hp} {Q : VK} {E : XK} (q1 : Q (.str (S [])) H) : sp_Stage_finish K [.ref x, s] H Q E := by
  exact ⟨⟨x, s, rfl, q1⟩⟩
theorem d_Stage_finish {K : PySem.W.Frag} {vs : List V} {H : Hp} {Q : VK} {E : XK} (h : sp_Stage_finish K vs H Q E) : sp_Stage_finish K vs H Q E := h


def t_Stage_finish (K : PySem.W.Frag) (W : WX) : TS :=
  (tRet (tC (.str (S []))))
theorem tm_Stage_finish {P : Program} {w : World} {K : PySem.W.Frag} {mg : Str → Option Value} {base : Heap} {f : Addr} {cdv : Value} {A : Around} {outer : List Env} {s : Shared} {H : Hp} {E : XK} (T : Tx K mg) (hr : Room 4 (A.deeper (envOfC "Stage.finish" (defScope s_Stage_finish) s.heap.objs.size f cdv))) :
    PSs (cxOf (L2M.CX K P w) P w K mg base ["self", "state"] "Stage.finish" (defScope s_Stage_finish) f cdv A outer s H E) (defBody s_Stage_finish) (t_Stage_finish K (WD E)) :=
  (pss_one (ps_ret (pstr [])))
/-! LastDrop_finish -/
theorem sc_LastDrop_finish : FnScope ["self", "state"] ["self", "state"] (defScope s_LastDrop_finish) := ⟨rfl, rfl, rfl, by decide +kernel, rfl, by decide +kernel, by decide +kernel⟩
structure sp_LastDrop_finish (K : PySem.W.Frag) (vs : List V) (H : Hp) (Q : VK) (E : XK) : Prop where
  out : ∃ (x t : Addr) (i : Nat) (w : List Nat), vs = [.ref x, .ref t] ∧ (H t = some (.tup [.int (i : Int), .str (S w)])) ∧ (Q (.str (S w)) H)
theorem i_LastDrop_finish {K : PySem.W.Frag} {x t : Addr} {i : Nat} {w : List Nat} {H : Hp} {Q : VK} {E : XK} (ht : H t = some (.tup [.int (i : Int), .str (S w)])) (q1 : Q (.str (S w)) H) : sp_LastDrop_finish K [.ref x, .ref t] H Q E := by
  exact ⟨⟨x, t, i, w, rfl, ht, q1⟩⟩
theorem d_LastDrop_finish {K : PySem.W.Frag} {vs : List V} {H : Hp} {Q : VK} {E : XK} (h : sp_LastDrop_finish K vs H Q E) : sp_LastDrop_finish K vs H Q E := h


def t_LastDrop_finish (K : PySem.W.Frag) (W : WX) : TS :=
  (tRet (tOp (zIxP K) (tV 1) (tC (.int 1))))
theorem tm_LastDrop_finish {P : Program} {w : World} {K : PySem.W.Frag} {mg : Str → Option Value} {base : Heap} {f : Addr} {cdv : Value} {A : Around} {outer : List Env} {s : Shared} {H : Hp} {E : XK} (T : Tx K mg) (hr : Room 4 (A.deeper (envOfC "LastDrop.finish" (defScope s_LastDrop_finish) s.heap.objs.size f cdv))) :
    PSs (cxOf (L2M.CX K P w) P w K mg base ["self", "state"] "LastDrop.finish" (defScope s_LastDrop_finish) f cdv A outer s H E) (defBody s_LastDrop_finish) (t_LastDrop_finish K (WD E)) :=
  (pss_one (ps_ret (pix (Ta.pv 1) pe_int)))
/-! closed -/
theorem sc_closed : FnScope ["stages", "states", "moved", "written", "number", "tail", "later", "part"] ["stages", "states"] (defScope s_closed) := ⟨rfl, rfl, rfl, by decide +kernel, rfl, by decide +kernel, by decide +kernel⟩
structure sp_closed (K : PySem.W.Frag) (vs : List V) (H : Hp) (Q : VK) (E : XK) : Prop where
  out : ∃ (p q x A : Addr) (k c a : Nat) (e : Bool) (n m : List Nat) (s : St2) (sv : V), vs = [.ref p, .ref q] ∧ (k = 3 ∨ k = 4) ∧ (stgAt K H x k A n m c a e) ∧ (H p = some (.lst [.ref x])) ∧ (H q = some (.lst [sv])) ∧ (stR k s H sv) ∧ (s.2.length ≤ 1) ∧ (∀ H', Kp [] H H' → Q (.str (S (fin k c s))) H')
theorem i_closed {K : PySem.W.Frag} {p q x A : Addr} {k c a : Nat} {e : Bool} {n m : List Nat} {s : St2} {sv : V} {H : Hp} {Q : VK} {E : XK} (hk : k = 3 ∨ k = 4) (hx : stgAt K H x k A n m c a e) (hp : H p = some (.lst [.ref x])) (hq : H q = some (.lst [sv])) (hs : stR k s H sv) (hl : s.2.length ≤ 1) (q1 : ∀ H', Kp [] H H' → Q (.str (S (fin k c s))) H') : sp_closed K [.ref p, .ref q] H Q E := by
  exact ⟨⟨p, q, x, A, k, c, a, e, n, m, s, sv, rfl, hk, hx, hp, hq, hs, hl, q1⟩⟩
theorem d_closed {K : PySem.W.Frag} {vs : List V} {H : Hp} {Q : VK} {E : XK} (h : sp_closed K vs H Q E) : sp_closed K vs H Q E := h


def b_closed_1 (K : PySem.W.Frag) (W : WX) : TS :=
  (tSeq (tAsg (tMe [(He.ga K "Drop", [], sp_Stage_finish K), (He.ga K "LastDrop", [], sp_LastDrop_finish K)] "finish" W (tOp (zIxP K) (tV 0) (tV 4)) (tCons (tOp (zIxP K) (tV 2) (tV 4)) tNil)) (gName 5))
  (tSeq (tAsg (tCal (sp_handed_on K) [] W (tCons (tSl (zSlP K) (tV 0) (tPrt (tOp zAdd (tV 4) (tC (.int 1)))) tNoPart) (tCons (tSl (zSlP K) (tV 2) (tPrt (tOp zAdd (tV 4) (tC (.int 1)))) tNoPart) (tCons (tV 5) tNil)))) (gTup K 2 (gCons (gName 6) (gCons (gName 7) gNil))))
  (tSeq (tFrom (tV 6) (tV 2) (tOp zAdd (tV 4) (tC (.int 1))))
  (tDrop (tLM zAppP (tV 3) (tCons (tV 7) tNil))))))
def t_closed (K : PySem.W.Frag) (W : WX) : TS :=
  (tSeq (tAsg (tCB (zListX K) (tCons (tV 1) tNil)) (gName 2))
  (tSeq (tAsg (tLst tNil) (gName 3))
  (tSeq (tForP (jR1 (tCons (tCB (zLen K) (tCons (tV 0) tNil)) tNil)) (gName 4) (b_closed_1 K W))
  (tRet (tSM (zJoin K) (tC (.str (S []))) (tCons (tV 3) tNil))))))
theorem tm_closed {P : Program} {w : World} {K : PySem.W.Frag} {mg : Str → Option Value} {base : Heap} {f : Addr} {cdv : Value} {A : Around} {outer : List Env} {s : Shared} {H : Hp} {E : XK} (T : Tx K mg) (G_Drop_finish : Me P w K mg base (He.ga K "Drop") "finish" 5 [] (sp_Stage_finish K)) (G_LastDrop_finish : Me P w K mg base (He.ga K "LastDrop") "finish" 5 [] (sp_LastDrop_finish K)) (G_handed_on : Fn P w K mg base "handed_on" 9 [] (sp_handed_on K)) (hr : Room 10 (A.deeper (envOfC "closed" (defScope s_closed) s.heap.objs.size f cdv))) :
    PSs (cxOf (L2M.CX K P w) P w K mg base ["stages", "states", "moved", "written", "number", "tail", "later", "part"] "closed" (defScope s_closed) f cdv A outer s H E) (defBody s_closed) (t_closed K (WD E)) :=
  (pss_cons (pset 2 sc_closed.nd (pct (crlistX rfl) T.f_list (pa_cons (Ta.pv 1) pa_nil)))
  (pss_cons (pset 3 sc_closed.nd (pe_lst pa_nil))
  (pss_cons (psfor ownD rfl (pjr1 T.f_range (pa_cons (pcb (crlen) T.f_len (pa_cons (Ta.pv 0) pa_nil)) pa_nil)) (pgn 4 sc_closed.nd) (pss_cons (pset 5 sc_closed.nd (pmeth (ms := [(He.ga K "Drop", [], sp_Stage_finish K), (He.ga K "LastDrop", [], sp_LastDrop_finish K)]) (fun e he => by simp only [List.mem_cons, List.not_mem_nil, or_false] at he; rcases he with rfl | rfl <;> first | exact G_Drop_finish | exact G_LastDrop_finish) (hr.mono (by decide)) takesD (pix (Ta.pv 0) (Ta.pv 4)) (pa_cons (pix (Ta.pv 2) (Ta.pv 4)) pa_nil)))
  (pss_cons (ps_asg (pcall G_handed_on (hr.mono (by decide)) takesD (pa_cons (psl (Ta.pv 0) (posome (pe_op opadd (Ta.pv 4) pe_int)) po_none) (pa_cons (psl (Ta.pv 2) (posome (pe_op opadd (Ta.pv 4) pe_int)) po_none) (pa_cons (Ta.pv 5) pa_nil)))) (pg_tup rfl (pgs_cons (pgn 6 sc_closed.nd) (pgs_cons (pgn 7 sc_closed.nd) pgs_nil))))
  (pss_cons (psfrom (Ta.pv 6) (Ta.pv 2) (pe_op opadd (Ta.pv 4) pe_int))
  (pss_one (ps_expr (plm PySem.F.slot_list_append PySem.F.type_list_append mtapp (Ta.pv 3) (pa_cons (Ta.pv 7) pa_nil))))))))
  (pss_one (ps_ret (psm PySem.F.slot_str_join PySem.F.type_str_join mtjoin (pstr []) (pa_cons (Ta.pv 3) pa_nil)))))))
/-! Stage_result -/
theorem sc_Stage_result : FnScope ["self", "text", "states", "written"] ["self", "text"] (defScope s_Stage_result) := ⟨rfl, rfl, rfl, by decide +kernel, rfl, by decide +kernel, by decide +kernel⟩
structure sp_Stage_result (K : PySem.W.Frag) (vs : List V) (H : Hp) (Q : VK) (E : XK) : Prop where
  out : ∃ (x A dA : Addr) (k c a : Nat) (e : Bool) (l v n m t : List Nat), vs = [.ref x, .str (S t)] ∧ (k = 3 ∨ k = 4) ∧ (stgAt K H x k A n m c a e) ∧ (H A = some (alo K dA l v)) ∧ (t.length < 1000) ∧ ((∀ z ∈ t, z ∈ sg l) → ∀ H', Kp [] H H' → Q (.str (S (res k m c a e t))) H') ∧ ((t.all fun z => decide (z ∈ sg l)) = false → ∀ H' d, Kp [] H H' → H' d = none → E (.ref (He.ga K "BadText")) (some d) (upd H' d (.xd [("text", .str (S t))])))
theorem i_Stage_result {K : PySem.W.Frag} {x A dA : Addr} {k c a : Nat} {e : Bool} {l v n m t : List Nat} {H : Hp} {Q : VK} {E : XK} (hk : k = 3 ∨ k = 4) (hx : stgAt K H x k A n m c a e) (hA : H A = some (alo K dA l v)) (ht : t.length < 1000) (q1 : (∀ z ∈ t, z ∈ sg l) → ∀ H', Kp [] H H' → Q (.str (S (res k m c a e t))) H') (q2 : (t.all fun z => decide (z ∈ sg l)) = false → ∀ H' d, Kp [] H H' → H' d = none → E (.ref (He.ga K "BadText")) (some d) (upd H' d (.xd [("text", .str (S t))]))) : sp_Stage_result K [.ref x, .str (S t)] H Q E := by
  exact ⟨⟨x, A, dA, k, c, a, e, l, v, n, m, t, rfl, hk, hx, hA, ht, q1, q2⟩⟩
theorem d_Stage_result {K : PySem.W.Frag} {vs : List V} {H : Hp} {Q : VK} {E : XK} (h : sp_Stage_result K vs H Q E) : sp_Stage_result K vs H Q E := h


def t_Stage_result (K : PySem.W.Frag) (W : WX) : TS :=
  (tSeq (tDrop (tMe [(He.ga K "Alphabet", [], sp_Alphabet_check K)] "check" W (tAt K (tV 0) "alphabet") (tCons (tV 1) tNil)))
  (tSeq (tAsg (tCal (sp_handed_on K) [] W (tCons (tLst (tCons (tV 0) tNil)) (tCons (tLst (tCons (tMe [(He.ga K "Drop", [], sp_Drop_begin K), (He.ga K "LastDrop", [], sp_LastDrop_begin K)] "begin" W (tV 0) tNil) tNil)) (tCons (tV 1) tNil)))) (gTup K 2 (gCons (gName 2) (gCons (gName 3) gNil))))
  (tRet (tOp zAdd (tV 3) (tCal (sp_closed K) [] W (tCons (tLst (tCons (tV 0) tNil)) (tCons (tV 2) tNil)))))))
theorem tm_Stage_result {P : Program} {w : World} {K : PySem.W.Frag} {mg : Str → Option Value} {base : Heap} {f : Addr} {cdv : Value} {A : Around} {outer : List Env} {s : Shared} {H : Hp} {E : XK} (T : Tx K mg) (G_Alphabet_check : Me P w K mg base (He.ga K "Alphabet") "check" 7 [] (sp_Alphabet_check K)) (G_Drop_begin : Me P w K mg base (He.ga K "Drop") "begin" 5 [] (sp_Drop_begin K)) (G_LastDrop_begin : Me P w K mg base (He.ga K "LastDrop") "begin" 5 [] (sp_LastDrop_begin K)) (G_closed : Fn P w K mg base "closed" 11 [] (sp_closed K)) (G_handed_on : Fn P w K mg base "handed_on" 9 [] (sp_handed_on K)) (hr : Room 12 (A.deeper (envOfC "Stage.result" (defScope s_Stage_result) s.heap.objs.size f cdv))) :
    PSs (cxOf (L2M.CX K P w) P w K mg base ["self", "text", "states", "written"] "Stage.result" (defScope s_Stage_result) f cdv A outer s H E) (defBody s_Stage_result) (t_Stage_result K (WD E)) :=
  (pss_cons (ps_expr (pmeth (ms := [(He.ga K "Alphabet", [], sp_Alphabet_check K)]) (fun e he => by obtain rfl := List.mem_singleton.mp he; exact G_Alphabet_check) (hr.mono (by decide)) takesD (patt (Ta.pv 0)) (pa_cons (Ta.pv 1) pa_nil)))
  (pss_cons (ps_asg (pcall G_handed_on (hr.mono (by decide)) takesD (pa_cons (pe_lst (pa_cons (Ta.pv 0) pa_nil)) (pa_cons (pe_lst (pa_cons (pmeth0 (ms := [(He.ga K "Drop", [], sp_Drop_begin K), (He.ga K "LastDrop", [], sp_LastDrop_begin K)]) (fun e he => by simp only [List.mem_cons, List.not_mem_nil, or_false] at he; rcases he with rfl | rfl <;> first | exact G_Drop_begin | exact G_LastDrop_begin) (hr.mono (by decide)) takesD (Ta.pv 0)) pa_nil)) (pa_cons (Ta.pv 1) pa_nil)))) (pg_tup rfl (pgs_cons (pgn 2 sc_Stage_result.nd) (pgs_cons (pgn 3 sc_Stage_result.nd) pgs_nil))))
  (pss_one (ps_ret (pe_op opadd (Ta.pv 3) (pcall G_closed (hr.mono (by decide)) takesD (pa_cons (pe_lst (pa_cons (Ta.pv 0) pa_nil)) (pa_cons (Ta.pv 2) pa_nil))))))))
/-! Drop___call__ -/
theorem sc_Drop_call : FnScope ["self", "text"] ["self", "text"] (defScope s_Drop_call) := ⟨rfl, rfl, rfl, by decide +kernel, rfl, by decide +kernel, by decide +kernel⟩
structure sp_Drop_call (K : PySem.W.Frag) (vs : List V) (H : Hp) (Q : VK) (E : XK) : Prop where
  out : ∃ (x A dA : Addr) (c a : Nat) (e : Bool) (l v n m t : List Nat), vs = [.ref x, .str (S t)] ∧ (stgAt K H x 3 A n m c a e) ∧ (H A = some (alo K dA l v)) ∧ (t.length < 1000) ∧ ((∀ z ∈ t, z ∈ sg l) → ∀ H', Kp [] H H' → Q (.str (S (res 3 m c a e t))) H') ∧ ((t.all fun z => decide (z ∈ sg l)) = false → ∀ H' d, Kp [] H H' → H' d = none → E (.ref (He.ga K "BadText")) (some d) (upd H' d (.xd [("text", .str (S t))])))
theorem i_Drop_call {K : PySem.W.Frag} {x A dA : Addr} {c a : Nat} {e : Bool} {l v n m t : List Nat} {H : Hp} {Q : VK} {E : XK} (hx : stgAt K H x 3 A n m c a e) (hA : H A = some (alo K dA l v)) (ht : t.length < 1000) (q1 : (∀ z ∈ t, z ∈ sg l) → ∀ H', Kp [] H H' → Q (.str (S (res 3 m c a e t))) H') (q2 : (t.all fun z => decide (z ∈ sg l)) = false → ∀ H' d, Kp [] H H' → H' d = none → E (.ref (He.ga K "BadText")) (some d) (upd H' d (.xd [("text", .str (S t))]))) : sp_Drop_call K [.ref x, .str (S t)] H Q E := by
  exact ⟨⟨x, A, dA, c, a, e, l, v, n, m, t, rfl, hx, hA, ht, q1, q2⟩⟩
theorem d_Drop_call {K : PySem.W.Frag} {vs : List V} {H : Hp} {Q : VK} {E : XK} (h : sp_Drop_call K vs H Q E) : sp_Drop_call K vs H Q E := h


def t_Drop_call (K : PySem.W.Frag) (W : WX) : TS :=
  (tRet (tMe [(He.ga K "Drop", [], sp_Stage_result K), (He.ga K "LastDrop", [], sp_Stage_result K)] "result" W (tV 0) (tCons (tV 1) tNil)))
theorem tm_Drop_call {P : Program} {w : World} {K : PySem.W.Frag} {mg : Str → Option Value} {base : Heap} {f : Addr} {cdv : Value} {A : Around} {outer : List Env} {s : Shared} {H : Hp} {E : XK} (T : Tx K mg) (G_Drop_result : Me P w K mg base (He.ga K "Drop") "result" 13 [] (sp_Stage_result K)) (G_LastDrop_result : Me P w K mg base (He.ga K "LastDrop") "result" 13 [] (sp_Stage_result K)) (hr : Room 14 (A.deeper (envOfC "Drop.__call__" (defScope s_Drop_call) s.heap.objs.size f cdv))) :
    PSs (cxOf (L2M.CX K P w) P w K mg base ["self", "text"] "Drop.__call__" (defScope s_Drop_call) f cdv A outer s H E) (defBody s_Drop_call) (t_Drop_call K (WD E)) :=
  (pss_one (ps_ret (pmeth (ms := [(He.ga K "Drop", [], sp_Stage_result K), (He.ga K "LastDrop", [], sp_Stage_result K)]) (fun e he => by simp only [List.mem_cons, List.not_mem_nil, or_false] at he; rcases he with rfl | rfl <;> first | exact G_Drop_result | exact G_LastDrop_result) (hr.mono (by decide)) takesD (Ta.pv 0) (pa_cons (Ta.pv 1) pa_nil))))
/-! LastDrop___call__ -/
theorem sc_LastDrop_call : FnScope ["self", "text"] ["self", "text"] (defScope s_LastDrop_call) := ⟨rfl, rfl, rfl, by decide +kernel, rfl, by decide +kernel, by decide +kernel⟩
structure sp_LastDrop_call (K : PySem.W.Frag) (vs : List V) (H : Hp) (Q : VK) (E : XK) : Prop where
  out : ∃ (x A dA : Addr) (c a : Nat) (e : Bool) (l v n m t : List Nat), vs = [.ref x, .str (S t)] ∧ (stgAt K H x 4 A n m c a e) ∧ (H A = some (alo K dA l v)) ∧ (t.length < 1000) ∧ ((∀ z ∈ t, z ∈ sg l) → ∀ H', Kp [] H H' → Q (.str (S (res 4 m c a e t))) H') ∧ ((t.all fun z => decide (z ∈ sg l)) = false → ∀ H' d, Kp [] H H' → H' d = none → E (.ref (He.ga K "BadText")) (some d) (upd H' d (.xd [("text", .str (S t))])))
theorem i_LastDrop_call {K : PySem.W.Frag} {x A dA : Addr} {c a : Nat} {e : Bool} {l v n m t : List Nat} {H : Hp} {Q : VK} {E : XK} (hx : stgAt K H x 4 A n m c a e) (hA : H A = some (alo K dA l v)) (ht : t.length < 1000) (q1 : (∀ z ∈ t, z ∈ sg l) → ∀ H', Kp [] H H' → Q (.str (S (res 4 m c a e t))) H') (q2 : (t.all fun z => decide (z ∈ sg l)) = false → ∀ H' d, Kp [] H H' → H' d = none → E (.ref (He.ga K "BadText")) (some d) (upd H' d (.xd [("text", .str (S t))]))) : sp_LastDrop_call K [.ref x, .str (S t)] H Q E := by
  exact ⟨⟨x, A, dA, c, a, e, l, v, n, m, t, rfl, hx, hA, ht, q1, q2⟩⟩
theorem d_LastDrop_call {K : PySem.W.Frag} {vs : List V} {H : Hp} {Q : VK} {E : XK} (h : sp_LastDrop_call K vs H Q E) : sp_LastDrop_call K vs H Q E := h


def t_LastDrop_call (K : PySem.W.Frag) (W : WX) : TS :=
  (tRet (tMe [(He.ga K "Drop", [], sp_Stage_result K), (He.ga K "LastDrop", [], sp_Stage_result K)] "result" W (tV 0) (tCons (tV 1) tNil)))
theorem tm_LastDrop_call {P : Program} {w : World} {K : PySem.W.Frag} {mg : Str → Option Value} {base : Heap} {f : Addr} {cdv : Value} {A : Around} {outer : List Env} {s : Shared} {H : Hp} {E : XK} (T : Tx K mg) (G_Drop_result : Me P w K mg base (He.ga K "Drop") "result" 13 [] (sp_Stage_result K)) (G_LastDrop_result : Me P w K mg base (He.ga K "LastDrop") "result" 13 [] (sp_Stage_result K)) (hr : Room 14 (A.deeper (envOfC "LastDrop.__call__" (defScope s_LastDrop_call) s.heap.objs.size f cdv))) :
    PSs (cxOf (L2M.CX K P w) P w K mg base ["self", "text"] "LastDrop.__call__" (defScope s_LastDrop_call) f cdv A outer s H E) (defBody s_LastDrop_call) (t_LastDrop_call K (WD E)) :=
  (pss_one (ps_ret (pmeth (ms := [(He.ga K "Drop", [], sp_Stage_result K), (He.ga K "LastDrop", [], sp_Stage_result K)]) (fun e he => by simp only [List.mem_cons, List.not_mem_nil, or_false] at he; rcases he with rfl | rfl <;> first | exact G_Drop_result | exact G_LastDrop_result) (hr.mono (by decide)) takesD (Ta.pv 0) (pa_cons (Ta.pv 1) pa_nil))))
/-! _law_refuses_text -/
theorem sc_l_refuses_text : FnScope ["_law_stage", "_law_text_here", "e"] ["_law_stage", "_law_text_here"] (defScope s_l_refuses_text) := ⟨rfl, rfl, rfl, by decide +kernel, rfl, by decide +kernel, by decide +kernel⟩
structure sp_l_refuses_text (K : PySem.W.Frag) (vs : List V) (H : Hp) (Q : VK) (E : XK) : Prop where
  out : ∃ (x A dA : Addr) (k c a : Nat) (e : Bool) (l v n m t : List Nat), vs = [.ref x, .str (S t)] ∧ (k = 3 ∨ k = 4) ∧ (stgAt K H x k A n m c a e) ∧ (H A = some (alo K dA l v)) ∧ (t.length < 1000) ∧ ((t.all fun z => decide (z ∈ sg l)) = false) ∧ (∀ H', Kp [] H H' → Q (.bl true) H')
theorem i_l_refuses_text {K : PySem.W.Frag} {x A dA : Addr} {k c a : Nat} {e : Bool} {l v n m t : List Nat} {H : Hp} {Q : VK} {E : XK} (hk : k = 3 ∨ k = 4) (hx : stgAt K H x k A n m c a e) (hA : H A = some (alo K dA l v)) (ht : t.length < 1000) (hb : (t.all fun z => decide (z ∈ sg l)) = false) (q1 : ∀ H', Kp [] H H' → Q (.bl true) H') : sp_l_refuses_text K [.ref x, .str (S t)] H Q E := by
  exact ⟨⟨x, A, dA, k, c, a, e, l, v, n, m, t, rfl, hk, hx, hA, ht, hb, q1⟩⟩
theorem d_l_refuses_text {K : PySem.W.Frag} {vs : List V} {H : Hp} {Q : VK} {E : XK} (h : sp_l_refuses_text K vs H Q E) : sp_l_refuses_text K vs H Q E := h


def t_l_refuses_text (K : PySem.W.Frag) (W : WX) : TS :=
  (tSeq (fun D0 σ0 H0 => (fun (W1 : WX) => (tDrop (tObj [(He.ga K "Drop", [], sp_Drop_call K), (He.ga K "LastDrop", [], sp_LastDrop_call K)] W1 (tV 0) (tCons (tV 1) tNil)))) (wHk K W D0 [(Hk.as 2 (.ref (He.ga K "BadText")) (fun a cls d => (tRet (tAndE K (tCB (zIsX K a cls d) (tCons (tV 2) (tCons (tC (.ref (He.ga K "TaleError"))) tNil))) (tAndE K (tCB (zIsX K a cls d) (tCons (tV 2) (tCons (tC (.ty "ValueError")) tNil))) (tOp (zEqP K) (tXat K a cls d "text" (tV 2)) (tV 1)))))))]) D0 σ0 H0)
  (tRet (tC (.bl false))))
theorem tm_l_refuses_text {P : Program} {w : World} {K : PySem.W.Frag} {mg : Str → Option Value} {base : Heap} {f : Addr} {cdv : Value} {A : Around} {outer : List Env} {s : Shared} {H : Hp} {E : XK} (T : Tx K mg) (G_Drop___call__ : Me P w K mg base (He.ga K "Drop") "__call__" 15 [] (sp_Drop_call K)) (G_LastDrop___call__ : Me P w K mg base (He.ga K "LastDrop") "__call__" 15 [] (sp_LastDrop_call K)) (hr : Room 16 (A.deeper (envOfC "_law_refuses_text" (defScope s_l_refuses_text) s.heap.objs.size f cdv))) :
    PSs (cxOf (L2M.CX K P w) P w K mg base ["_law_stage", "_law_text_here", "e"] "_law_refuses_text" (defScope s_l_refuses_text) f cdv A outer s H E) (defBody s_l_refuses_text) (t_l_refuses_text K (WD E)) :=
  (pss_cons (ps_try_x rfl rfl sc_l_refuses_text.nd takesD (tb := fun W1 => (tDrop (tObj [(He.ga K "Drop", [], sp_Drop_call K), (He.ga K "LastDrop", [], sp_LastDrop_call K)] W1 (tV 0) (tCons (tV 1) tNil)))) (l := [(Hk.as 2 (.ref (He.ga K "BadText")) (fun a cls d => (tRet (tAndE K (tCB (zIsX K a cls d) (tCons (tV 2) (tCons (tC (.ref (He.ga K "TaleError"))) tNil))) (tAndE K (tCB (zIsX K a cls d) (tCons (tV 2) (tCons (tC (.ty "ValueError")) tNil))) (tOp (zEqP K) (tXat K a cls d "text" (tV 2)) (tV 1)))))))]) (fun W1 pn xe tk1 _ => (pss_one (ps_expr (pocall (ms := [(He.ga K "Drop", [], sp_Drop_call K), (He.ga K "LastDrop", [], sp_LastDrop_call K)]) (fun e he => by simp only [List.mem_cons, List.not_mem_nil, or_false] at he; rcases he with rfl | rfl <;> first | exact ⟨G_Drop___call__, T.fm_Drop___call__⟩ | exact ⟨G_LastDrop___call__, T.fm_LastDrop___call__⟩) (hr.mono (by decide)) tk1 (Ta.pv 0) (pa_cons (Ta.pv 1) pa_nil))))) (HdsX.as (i := 2) rfl rfl (names_of T.v_BadText) (fun a oe cls d pn hz hf => (pss_one (ps_ret (peand (pcb (crisx hz hf) T.f_isinstance (pa_cons (Ta.pv 2) (pa_cons (pglo T.v_TaleError) pa_nil))) (peand (pcb (crisx hz hf) T.f_isinstance (pa_cons (Ta.pv 2) (pa_cons (pbty T.f_ValueError) pa_nil))) (pe_one (pe_cmpR (opeq hr.units) (pxat hz hf (Ta.pv 2)) (Ta.pv 1) rfl))))))) HdsX.nil))
  (pss_one (ps_ret pe_bl)))
/-! _law_drop -/
theorem sc_l_drop : FnScope ["_law_text_here", "_law_members_here", "_law_number", "_law_joined", "_law_last", "_law_out", "_law_count", "_law_k", "_law_stays"] ["_law_text_here", "_law_members_here", "_law_number", "_law_joined", "_law_last"] (defScope s_l_drop) := ⟨rfl, rfl, rfl, by decide +kernel, rfl, by decide +kernel, by decide +kernel⟩
structure sp_l_drop (K : PySem.W.Frag) (vs : List V) (H : Hp) (Q : VK) (E : XK) : Prop where
  out : ∃ (t m : List Nat) (a : Nat) (e la : Bool), vs = [.str (S t), .str (S m), .int (a : Int), .bl e, .bl la] ∧ (t.length < 1000) ∧ (Q (.str (S (res (kd la) m 0 a e t))) H)
theorem i_l_drop {K : PySem.W.Frag} {t m : List Nat} {a : Nat} {e la : Bool} {u0 : Int} {H : Hp} {Q : VK} {E : XK} (e_u0 : u0 = (a : Int)) (ht : t.length < 1000) (q1 : Q (.str (S (res (kd la) m 0 a e t))) H) : sp_l_drop K [.str (S t), .str (S m), .int u0, .bl e, .bl la] H Q E := by
  subst e_u0; exact ⟨⟨t, m, a, e, la, rfl, ht, q1⟩⟩
theorem d_l_drop {K : PySem.W.Frag} {vs : List V} {H : Hp} {Q : VK} {E : XK} (h : sp_l_drop K vs H Q E) : sp_l_drop K vs H Q E := h


def b_l_drop_1 (K : PySem.W.Frag) (W : WX) : TS :=
  (tSeq (tAsg (tOp zAdd (tV 6) (tC (.int 1))) (gName 6))
  (tSeq (tIfP (tAndP (tTru K (tV 3)) (tTst (tOp (zEqP K) (tOp (zIxP K) (tV 0) (tV 7)) (tC (.str (S [45])))))) (tAsg (tC (.int 0)) (gName 6)) tNext)
  (tSeq (tAsg (tOrE K (tOp (zNinP K) (tOp (zIxP K) (tV 0) (tV 7)) (tV 1)) (tOp zLe (tV 6) (tV 2))) (gName 8))
  (tSeq (tIfP (tAndP (tTru K (tV 4)) (tOrP (tTst (tOp (zEqP K) (tV 7) (tOp zSub (tCB (zLen K) (tCons (tV 0) tNil)) (tC (.int 1))))) (tAndP (tTru K (tV 3)) (tTst (tOp (zEqP K) (tOp (zIxP K) (tV 0) (tOp zAdd (tV 7) (tC (.int 1)))) (tC (.str (S [45])))))))) (tAsg (tC (.bl true)) (gName 8)) tNext)
  (tIfP (tTru K (tV 8)) (tAsg (tOp zAdd (tV 5) (tOp (zIxP K) (tV 0) (tV 7))) (gName 5)) tNext)))))
def t_l_drop (K : PySem.W.Frag) (W : WX) : TS :=
  (tSeq (tAsg (tC (.str (S []))) (gName 5))
  (tSeq (tAsg (tC (.int 0)) (gName 6))
  (tSeq (tForP (jR1 (tCons (tCB (zLen K) (tCons (tV 0) tNil)) tNil)) (gName 7) (b_l_drop_1 K W))
  (tRet (tV 5)))))
theorem tm_l_drop {P : Program} {w : World} {K : PySem.W.Frag} {mg : Str → Option Value} {base : Heap} {f : Addr} {cdv : Value} {A : Around} {outer : List Env} {s : Shared} {H : Hp} {E : XK} (T : Tx K mg) (hr : Room 4 (A.deeper (envOfC "_law_drop" (defScope s_l_drop) s.heap.objs.size f cdv))) :
    PSs (cxOf (L2M.CX K P w) P w K mg base ["_law_text_here", "_law_members_here", "_law_number", "_law_joined", "_law_last", "_law_out", "_law_count", "_law_k", "_law_stays"] "_law_drop" (defScope s_l_drop) f cdv A outer s H E) (defBody s_l_drop) (t_l_drop K (WD E)) :=
  (pss_cons (pset 5 sc_l_drop.nd (pstr []))
  (pss_cons (pset 6 sc_l_drop.nd pe_int)
  (pss_cons (psfor ownD rfl (pjr1 T.f_range (pa_cons (pcb (crlen) T.f_len (pa_cons (Ta.pv 0) pa_nil)) pa_nil)) (pgn 7 sc_l_drop.nd) (pss_cons (pset 6 sc_l_drop.nd (pe_op opadd (Ta.pv 6) pe_int))
  (pss_cons (psif (PW.pt (pwand (ptru (Ta.pv 3)) (pw_and1 (ptcmp (opeq hr.units) (pix (Ta.pv 0) (Ta.pv 7)) (pstr [45]))))) (pss_one (pset 6 sc_l_drop.nd pe_int)) pss_nil)
  (pss_cons (pset 8 sc_l_drop.nd (peor (pe_cmpR opnin (pix (Ta.pv 0) (Ta.pv 7)) (Ta.pv 1) rfl) (pe_one (pe_cmpR ople (Ta.pv 6) (Ta.pv 2) rfl))))
  (pss_cons (psif (PW.pt (pwand (ptru (Ta.pv 4)) (pw_and1 (PW.pt (pwor (ptcmp (opeq hr.units) (Ta.pv 7) (pe_op opsub (pcb (crlen) T.f_len (pa_cons (Ta.pv 0) pa_nil)) pe_int)) (pw_or1 (PW.pt (pwand (ptru (Ta.pv 3)) (pw_and1 (ptcmp (opeq hr.units) (pix (Ta.pv 0) (pe_op opadd (Ta.pv 7) pe_int)) (pstr [45]))))))))))) (pss_one (pset 8 sc_l_drop.nd pe_bl)) pss_nil)
  (pss_one (psif (ptru (Ta.pv 8)) (pss_one (pset 5 sc_l_drop.nd (pe_op opadd (Ta.pv 5) (pix (Ta.pv 0) (Ta.pv 7))))) pss_nil)))))))
  (pss_one (ps_ret (Ta.pv 5))))))
/-! _law_members -/
theorem sc_l_members : FnScope ["_law_name_here", "_law_signs", "_law_vowels", "_law_one"] ["_law_name_here", "_law_signs", "_law_vowels"] (defScope s_l_members) := ⟨rfl, rfl, rfl, by decide +kernel, rfl, by decide +kernel, by decide +kernel⟩
structure sp_l_members (K : PySem.W.Frag) (vs : List V) (H : Hp) (Q : VK) (E : XK) : Prop where
  out : ∃ (l v n m : List Nat), vs = [.str (S n), .str (S (sg l)), .str (S v)] ∧ (good l v) ∧ (nmOk l v n m) ∧ (∀ H', Kp [] H H' → Q (.str (S m)) H')
theorem i_l_members {K : PySem.W.Frag} {l v n m : List Nat} {H : Hp} {Q : VK} {E : XK} (hg : good l v) (hn : nmOk l v n m) (q1 : ∀ H', Kp [] H H' → Q (.str (S m)) H') : sp_l_members K [.str (S n), .str (S (sg l)), .str (S v)] H Q E := by
  exact ⟨⟨l, v, n, m, rfl, hg, hn, q1⟩⟩
theorem d_l_members {K : PySem.W.Frag} {vs : List V} {H : Hp} {Q : VK} {E : XK} (h : sp_l_members K vs H Q E) : sp_l_members K vs H Q E := h


def t_l_members (K : PySem.W.Frag) (W : WX) : TS :=
  (tSeq (tIfP (tTst (tOp (zEqP K) (tV 0) (tC (.str (S [97, 108, 108]))))) (tRet (tV 1)) tNext)
  (tSeq (tIfP (tTst (tOp (zEqP K) (tV 0) (tC (.str (S [108, 101, 116, 116, 101, 114, 115]))))) (tRet (tSl (zSlP K) (tV 1) (tPrt (tC (.int 1))) tNoPart)) tNext)
  (tSeq (tIfP (tTst (tOp (zEqP K) (tV 0) (tC (.str (S [118, 111, 119, 101, 108, 115]))))) (tRet (tSM (zJoin K) (tC (.str (S []))) (tCons (tLcP (jA K (tSl (zSlP K) (tV 1) (tPrt (tC (.int 1))) tNoPart)) (gName 3) (tTst (tOp (zInP K) (tV 3) (tV 2))) (tV 3) [3]) tNil))) tNext)
  (tSeq (tIfP (tTst (tOp (zEqP K) (tV 0) (tC (.str (S [99, 111, 110, 115, 111, 110, 97, 110, 116, 115]))))) (tRet (tSM (zJoin K) (tC (.str (S []))) (tCons (tLcP (jA K (tSl (zSlP K) (tV 1) (tPrt (tC (.int 1))) tNoPart)) (gName 3) (tTst (tOp (zNinP K) (tV 3) (tV 2))) (tV 3) [3]) tNil))) tNext)
  (tSeq (tIfP (tTst (tOp (zEqP K) (tV 0) (tC (.str (S [106, 111, 105, 110, 116, 115]))))) (tRet (tC (.str (S [45])))) tNext)
  (tRet (tSl (zSlP K) (tV 0) (tPrt (tC (.int 1))) (tPrt (tUn zNeg (tC (.int 1)))))))))))
theorem tm_l_members {P : Program} {w : World} {K : PySem.W.Frag} {mg : Str → Option Value} {base : Heap} {f : Addr} {cdv : Value} {A : Around} {outer : List Env} {s : Shared} {H : Hp} {E : XK} (T : Tx K mg) (hr : Room 4 (A.deeper (envOfC "_law_members" (defScope s_l_members) s.heap.objs.size f cdv))) :
    PSs (cxOf (L2M.CX K P w) P w K mg base ["_law_name_here", "_law_signs", "_law_vowels", "_law_one"] "_law_members" (defScope s_l_members) f cdv A outer s H E) (defBody s_l_members) (t_l_members K (WD E)) :=
  (pss_cons (psif (ptcmp (opeq hr.units) (Ta.pv 0) (pstr [97, 108, 108])) (pss_one (ps_ret (Ta.pv 1))) pss_nil)
  (pss_cons (psif (ptcmp (opeq hr.units) (Ta.pv 0) (pstr [108, 101, 116, 116, 101, 114, 115])) (pss_one (ps_ret (psl (Ta.pv 1) (posome pe_int) po_none))) pss_nil)
  (pss_cons (psif (ptcmp (opeq hr.units) (Ta.pv 0) (pstr [118, 111, 119, 101, 108, 115])) (pss_one (ps_ret (psm PySem.F.slot_str_join PySem.F.type_str_join mtjoin (pstr []) (pa_cons (plc [("_law_one", 3)] rfl sc_l_members.nd (pja (psl (Ta.pv 1) (posome pe_int) po_none)) (by kernel_rfl) (fun _ _ _ _ _ => (pgn 3 sc_l_members.nd)) (fun _ _ _ _ _ => (pts_one (ptcmp opin (Ta.pv 3) (Ta.pv 2)))) (fun _ _ _ _ _ => (Ta.pv 3))) pa_nil)))) pss_nil)
  (pss_cons (psif (ptcmp (opeq hr.units) (Ta.pv 0) (pstr [99, 111, 110, 115, 111, 110, 97, 110, 116, 115])) (pss_one (ps_ret (psm PySem.F.slot_str_join PySem.F.type_str_join mtjoin (pstr []) (pa_cons (plc [("_law_one", 3)] rfl sc_l_members.nd (pja (psl (Ta.pv 1) (posome pe_int) po_none)) (by kernel_rfl) (fun _ _ _ _ _ => (pgn 3 sc_l_members.nd)) (fun _ _ _ _ _ => (pts_one (ptcmp opnin (Ta.pv 3) (Ta.pv 2)))) (fun _ _ _ _ _ => (Ta.pv 3))) pa_nil)))) pss_nil)
  (pss_cons (psif (ptcmp (opeq hr.units) (Ta.pv 0) (pstr [106, 111, 105, 110, 116, 115])) (pss_one (ps_ret (pstr [45]))) pss_nil)
  (pss_one (ps_ret (psl (Ta.pv 0) (posome pe_int) (posome (pe_un unneg pe_int))))))))))
/-! _law_text -/
theorem sc_l_text : FnScope ["_law_box_here", "_law_signs", "_law_size", "_law_out", "_law_k"] ["_law_box_here", "_law_signs"] (defScope s_l_text) := ⟨rfl, rfl, rfl, by decide +kernel, rfl, by decide +kernel, by decide +kernel⟩
structure sp_l_text (K : PySem.W.Frag) (vs : List V) (H : Hp) (Q : VK) (E : XK) : Prop where
  out : ∃ (b : Addr) (l : List Nat), vs = [.ref b, .str (S (sg l))] ∧ (bx H b) ∧ (2 ≤ (sg l).length ∧ (sg l).length ≤ 5) ∧ (∀ t H', t.length < 70 → (∀ z ∈ t, z ∈ sg l) → Kp [b] H H' → bx H' b → Q (.str (S t)) H')
theorem i_l_text {K : PySem.W.Frag} {b : Addr} {l : List Nat} {H : Hp} {Q : VK} {E : XK} (hb : bx H b) (hl : 2 ≤ (sg l).length ∧ (sg l).length ≤ 5) (q1 : ∀ t H', t.length < 70 → (∀ z ∈ t, z ∈ sg l) → Kp [b] H H' → bx H' b → Q (.str (S t)) H') : sp_l_text K [.ref b, .str (S (sg l))] H Q E := by
  exact ⟨⟨b, l, rfl, hb, hl, q1⟩⟩
theorem d_l_text {K : PySem.W.Frag} {vs : List V} {H : Hp} {Q : VK} {E : XK} (h : sp_l_text K vs H Q E) : sp_l_text K vs H Q E := h


def b_l_text_1 (K : PySem.W.Frag) (W : WX) : TS :=
  (tAsg (tOp zAdd (tV 3) (tOp (zIxP K) (tV 1) (tCal (sp_l_take K) [] W (tCons (tV 0) (tCons (tCB (zLen K) (tCons (tV 1) tNil)) tNil))))) (gName 3))
def t_l_text (K : PySem.W.Frag) (W : WX) : TS :=
  (tSeq (tAsg (tCal (sp_l_take K) [] W (tCons (tV 0) (tCons (tC (.int 8)) tNil))) (gName 2))
  (tSeq (tIfP (tTst (tOp (zEqP K) (tCal (sp_l_take K) [] W (tCons (tV 0) (tCons (tC (.int 8)) tNil))) (tC (.int 7)))) (tAsg (tOp zAdd (tV 2) (tCal (sp_l_take K) [] W (tCons (tV 0) (tCons (tC (.int 53)) tNil)))) (gName 2)) tNext)
  (tSeq (tAsg (tC (.str (S []))) (gName 3))
  (tSeq (tForP (jR1 (tCons (tV 2) tNil)) (gName 4) (b_l_text_1 K W))
  (tRet (tV 3))))))
theorem tm_l_text {P : Program} {w : World} {K : PySem.W.Frag} {mg : Str → Option Value} {base : Heap} {f : Addr} {cdv : Value} {A : Around} {outer : List Env} {s : Shared} {H : Hp} {E : XK} (T : Tx K mg) (G_l_take : Fn P w K mg base "_law_take" 5 [] (sp_l_take K)) (hr : Room 6 (A.deeper (envOfC "_law_text" (defScope s_l_text) s.heap.objs.size f cdv))) :
    PSs (cxOf (L2M.CX K P w) P w K mg base ["_law_box_here", "_law_signs", "_law_size", "_law_out", "_law_k"] "_law_text" (defScope s_l_text) f cdv A outer s H E) (defBody s_l_text) (t_l_text K (WD E)) :=
  (pss_cons (pset 2 sc_l_text.nd (pcall G_l_take (hr.mono (by decide)) takesD (pa_cons (Ta.pv 0) (pa_cons pe_int pa_nil))))
  (pss_cons (psif (ptcmp (opeq hr.units) (pcall G_l_take (hr.mono (by decide)) takesD (pa_cons (Ta.pv 0) (pa_cons pe_int pa_nil))) pe_int) (pss_one (pset 2 sc_l_text.nd (pe_op opadd (Ta.pv 2) (pcall G_l_take (hr.mono (by decide)) takesD (pa_cons (Ta.pv 0) (pa_cons pe_int pa_nil)))))) pss_nil)
  (pss_cons (pset 3 sc_l_text.nd (pstr []))
  (pss_cons (psfor ownD rfl (pjr1 T.f_range (pa_cons (Ta.pv 2) pa_nil)) (pgn 4 sc_l_text.nd) (pss_one (pset 3 sc_l_text.nd (pe_op opadd (Ta.pv 3) (pix (Ta.pv 1) (pcall G_l_take (hr.mono (by decide)) takesD (pa_cons (Ta.pv 0) (pa_cons (pcb (crlen) T.f_len (pa_cons (Ta.pv 1) pa_nil)) pa_nil))))))))
  (pss_one (ps_ret (Ta.pv 3)))))))
/-! _law_box -/
theorem sc_l_box : FnScope ["_law_script", "_law_at", "_law_cell"] ["_law_script", "_law_at"] (defScope s_l_box) := ⟨rfl, rfl, rfl, by decide +kernel, rfl, by decide +kernel, by decide +kernel⟩
structure sp_l_box (K : PySem.W.Frag) (vs : List V) (H : Hp) (Q : VK) (E : XK) : Prop where
  out : ∃ (p : Addr) (ob : Obj) (ns : List Int) (i : Nat), vs = [.ref p, .int (i : Int)] ∧ (H p = some (.frz ob (.lst (ns.map V.int)))) ∧ (ns.length < 1000) ∧ (i < 1000) ∧ (∀ b H', Kp [] H H' → H b = none → bx H' b → Q (.ref b) H')
theorem i_l_box {K : PySem.W.Frag} {p : Addr} {ob : Obj} {ns : List Int} {i : Nat} {u0 : Int} {H : Hp} {Q : VK} {E : XK} (e_u0 : u0 = (i : Int)) (hp : H p = some (.frz ob (.lst (ns.map V.int)))) (h1 : ns.length < 1000) (hi : i < 1000) (q1 : ∀ b H', Kp [] H H' → H b = none → bx H' b → Q (.ref b) H') : sp_l_box K [.ref p, .int u0] H Q E := by
  subst e_u0; exact ⟨⟨p, ob, ns, i, rfl, hp, h1, hi, q1⟩⟩
theorem d_l_box {K : PySem.W.Frag} {vs : List V} {H : Hp} {Q : VK} {E : XK} (h : sp_l_box K vs H Q E) : sp_l_box K vs H Q E := h


def t_l_box (K : PySem.W.Frag) (W : WX) : TS :=
  (tSeq (tIfP (tTst (tOp zLt (tV 1) (tCB (zLen K) (tCons (tV 0) tNil)))) (tAsg (tOp (zIxP K) (tV 0) (tV 1)) (gName 2)) (tIfP (tTst (tOp (zEqP K) (tCB (zLen K) (tCons (tV 0) tNil)) (tC (.int 0)))) (tAsg (tV 1) (gName 2)) (tAsg (tOp zAdd (tOp zMod (tCB (zInt) (tCons (tOp (zIxP K) (tV 0) (tOp zMod (tCB (zInt) (tCons (tV 1) tNil)) (tCB (zLen K) (tCons (tV 0) tNil)))) tNil)) (tC (.int 99991))) (tOp zMul (tC (.int 101)) (tV 1))) (gName 2))))
  (tRet (tLst (tCons (tV 2) (tCons (tOp zGe (tV 2) (tOp zPow (tC (.int 10)) (tC (.int 18)))) (tCons (tC (.int 0)) (tCons (tOp zMod (tCB (zInt) (tCons (tV 2) tNil)) (tC (.int 1005973))) tNil)))))))
theorem tm_l_box {P : Program} {w : World} {K : PySem.W.Frag} {mg : Str → Option Value} {base : Heap} {f : Addr} {cdv : Value} {A : Around} {outer : List Env} {s : Shared} {H : Hp} {E : XK} (T : Tx K mg) (hr : Room 4 (A.deeper (envOfC "_law_box" (defScope s_l_box) s.heap.objs.size f cdv))) :
    PSs (cxOf (L2M.CX K P w) P w K mg base ["_law_script", "_law_at", "_law_cell"] "_law_box" (defScope s_l_box) f cdv A outer s H E) (defBody s_l_box) (t_l_box K (WD E)) :=
  (pss_cons (psif (ptcmp oplt (Ta.pv 1) (pcb (crlen) T.f_len (pa_cons (Ta.pv 0) pa_nil))) (pss_one (pset 2 sc_l_box.nd (pix (Ta.pv 0) (Ta.pv 1)))) (pss_one (psif (ptcmp (opeq hr.units) (pcb (crlen) T.f_len (pa_cons (Ta.pv 0) pa_nil)) pe_int) (pss_one (pset 2 sc_l_box.nd (Ta.pv 1))) (pss_one (pset 2 sc_l_box.nd (pe_op opadd (pe_op opmod (pct (crint) T.f_int (pa_cons (pix (Ta.pv 0) (pe_op opmod (pct (crint) T.f_int (pa_cons (Ta.pv 1) pa_nil)) (pcb (crlen) T.f_len (pa_cons (Ta.pv 0) pa_nil)))) pa_nil)) pe_int) (pe_op opmul pe_int (Ta.pv 1))))))))
  (pss_one (ps_ret (pe_lst (pa_cons (Ta.pv 2) (pa_cons (pe_cmpR opge (Ta.pv 2) (pe_op oppow pe_int pe_int) rfl) (pa_cons pe_int (pa_cons (pe_op opmod (pct (crint) T.f_int (pa_cons (Ta.pv 2) pa_nil)) pe_int) pa_nil))))))))
/-! Stage___init__ -/
theorem sc_Stage_init : FnScope ["self", "alphabet"] ["self", "alphabet"] (defScope s_Stage_init) := ⟨rfl, rfl, rfl, by decide +kernel, rfl, by decide +kernel, by decide +kernel⟩
structure sp_Stage_init (K : PySem.W.Frag) (vs : List V) (H : Hp) (Q : VK) (E : XK) : Prop where
  out : ∃ (x dx A : Addr) (k : Nat), vs = [.ref x, .ref A] ∧ (k = 3 ∨ k = 4 ∨ k = 5) ∧ (H x = some (.ins (cSt K k) dx [])) ∧ (Q .non (upd H x (.ins (cSt K k) dx [("alphabet", .ref A)])))
theorem i_Stage_init {K : PySem.W.Frag} {x dx A : Addr} {k : Nat} {H : Hp} {Q : VK} {E : XK} (hk : k = 3 ∨ k = 4 ∨ k = 5) (hx : H x = some (.ins (cSt K k) dx [])) (q1 : Q .non (upd H x (.ins (cSt K k) dx [("alphabet", .ref A)]))) : sp_Stage_init K [.ref x, .ref A] H Q E := by
  exact ⟨⟨x, dx, A, k, rfl, hk, hx, q1⟩⟩
theorem d_Stage_init {K : PySem.W.Frag} {vs : List V} {H : Hp} {Q : VK} {E : XK} (h : sp_Stage_init K vs H Q E) : sp_Stage_init K vs H Q E := h


def t_Stage_init (K : PySem.W.Frag) (W : WX) : TS :=
  (sAt K (tV 0) (tV 1) "alphabet")
theorem tm_Stage_init {P : Program} {w : World} {K : PySem.W.Frag} {mg : Str → Option Value} {base : Heap} {f : Addr} {cdv : Value} {A : Around} {outer : List Env} {s : Shared} {H : Hp} {E : XK} (T : Tx K mg) (hr : Room 4 (A.deeper (envOfC "Stage.__init__" (defScope s_Stage_init) s.heap.objs.size f cdv))) :
    PSs (cxOf (L2M.CX K P w) P w K mg base ["self", "alphabet"] "Stage.__init__" (defScope s_Stage_init) f cdv A outer s H E) (defBody s_Stage_init) (t_Stage_init K (WD E)) :=
  (pss_one (psat (Ta.pv 0) (Ta.pv 1)))
/-! Alphabet_listed_signs -/
theorem sc_Alphabet_listed_signs : FnScope ["self", "name", "signs"] ["self", "name"] (defScope s_Alphabet_listed_signs) := ⟨rfl, rfl, rfl, by decide +kernel, rfl, by decide +kernel, by decide +kernel⟩
structure sp_Alphabet_listed_signs (K : PySem.W.Frag) (vs : List V) (H : Hp) (Q : VK) (E : XK) : Prop where
  out : ∃ (A dA : Addr) (l v n : List Nat), vs = [.ref A, .str (S n)] ∧ H A = some (alo K dA l v) ∧ n.length < 60 ∧ setK K (lsv l n) n H Q E
theorem i_Alphabet_listed_signs {K : PySem.W.Frag} {A dA : Addr} {l v n : List Nat} {H : Hp} {Q : VK} {E : XK} (hA : H A = some (alo K dA l v)) (hn : n.length < 60) (q : setK K (lsv l n) n H Q E) : sp_Alphabet_listed_signs K [.ref A, .str (S n)] H Q E := by
  exact ⟨⟨A, dA, l, v, n, rfl, hA, hn, q⟩⟩

def t_Alphabet_listed_signs (K : PySem.W.Frag) (W : WX) : TS :=
  (tSeq (tIfP (tOrP (tTst (tOp zLt (tCB (zLen K) (tCons (tV 1) tNil)) (tC (.int 3)))) (tOrP (tTst (tOp (zNeP K) (tOp (zIxP K) (tV 1) (tC (.int 0))) (tC (.str (S [91]))))) (tTst (tOp (zNeP K) (tOp (zIxP K) (tV 1) (tUn zNeg (tC (.int 1)))) (tC (.str (S [93]))))))) (tRs (He.ga K "BadSet") ["name"] W (tCons (tV 1) tNil)) tNext)
  (tSeq (tAsg (tSl (zSlP K) (tV 1) (tPrt (tC (.int 1))) (tPrt (tUn zNeg (tC (.int 1))))) (gName 2))
  (tSeq (tIfP (tOrP (tNot (tTru K (tMe [(He.ga K "Alphabet", [], sp_Alphabet_is_text K)] "is_text" W (tV 0) (tCons (tV 2) tNil)))) (tTst (tOp (zNeP K) (tSM (zJoin K) (tC (.str (S []))) (tCons (tSS (tV 2)) tNil)) (tV 2)))) (tRs (He.ga K "BadSet") ["name"] W (tCons (tV 1) tNil)) tNext)
  (tRet (tV 2)))))
theorem tm_Alphabet_listed_signs {P : Program} {w : World} {K : PySem.W.Frag} {mg : Str → Option Value} {base : Heap} {f : Addr} {cdv : Value} {A : Around} {outer : List Env} {s : Shared} {H : Hp} {E : XK} (T : Tx K mg) (G_Alphabet_is_text : Me P w K mg base (He.ga K "Alphabet") "is_text" 5 [] (sp_Alphabet_is_text K)) (X_BadSet : Ex P w K mg base "BadSet" (He.ga K "BadSet") ["name"]) (hr : Room 6 (A.deeper (envOfC "Alphabet.listed_signs" (defScope s_Alphabet_listed_signs) s.heap.objs.size f cdv))) :
    PSs (cxOf (L2M.CX K P w) P w K mg base ["self", "name", "signs"] "Alphabet.listed_signs" (defScope s_Alphabet_listed_signs) f cdv A outer s H E) (defBody s_Alphabet_listed_signs) (t_Alphabet_listed_signs K (WD E)) :=
  (pss_cons (psif (PW.pt (pwor (ptcmp oplt (pcb (crlen) T.f_len (pa_cons (Ta.pv 1) pa_nil)) pe_int) (pwor (ptcmp (opne hr.units) (pix (Ta.pv 1) pe_int) (pstr [91])) (pw_or1 (ptcmp (opne hr.units) (pix (Ta.pv 1) (pe_un unneg pe_int)) (pstr [93])))))) (pss_one (praise X_BadSet (hr.mono (by decide)) takesD (pa_cons (Ta.pv 1) pa_nil))) pss_nil)
  (pss_cons (pset 2 sc_Alphabet_listed_signs.nd (psl (Ta.pv 1) (posome pe_int) (posome (pe_un unneg pe_int))))
  (pss_cons (psif (PW.pt (pwor (pt_not (ptru (pmeth (ms := [(He.ga K "Alphabet", [], sp_Alphabet_is_text K)]) (fun e he => by obtain rfl := List.mem_singleton.mp he; exact G_Alphabet_is_text) (hr.mono (by decide)) takesD (Ta.pv 0) (pa_cons (Ta.pv 2) pa_nil)))) (pw_or1 (ptcmp (opne hr.units) (psm PySem.F.slot_str_join PySem.F.type_str_join mtjoin (pstr []) (pa_cons (pss_set rfl T.f_sorted T.f_set (Ta.pv 2)) pa_nil)) (Ta.pv 2))))) (pss_one (praise X_BadSet (hr.mono (by decide)) takesD (pa_cons (Ta.pv 1) pa_nil))) pss_nil)
  (pss_one (ps_ret (Ta.pv 2))))))
/-! Alphabet_signs_of -/
theorem sc_Alphabet_signs_of : FnScope ["self", "name"] ["self", "name"] (defScope s_Alphabet_signs_of) := ⟨rfl, rfl, rfl, by decide +kernel, rfl, by decide +kernel, by decide +kernel⟩
structure sp_Alphabet_signs_of (K : PySem.W.Frag) (vs : List V) (H : Hp) (Q : VK) (E : XK) : Prop where
  out : ∃ (A dA : Addr) (l v n : List Nat), vs = [.ref A, .str (S n)] ∧ H A = some (alo K dA l v) ∧ n.length < 60 ∧ setK K (stv l v n) n H Q E
theorem i_Alphabet_signs_of {K : PySem.W.Frag} {A dA : Addr} {l v n : List Nat} {H : Hp} {Q : VK} {E : XK} (hA : H A = some (alo K dA l v)) (hn : n.length < 60) (q : setK K (stv l v n) n H Q E) : sp_Alphabet_signs_of K [.ref A, .str (S n)] H Q E := by
  exact ⟨⟨A, dA, l, v, n, rfl, hA, hn, q⟩⟩

def t_Alphabet_signs_of (K : PySem.W.Frag) (W : WX) : TS :=
  (tMat (tV 1) (mVal [97, 108, 108] (tRet (tAt K (tV 0) "signs")) (mVal [108, 101, 116, 116, 101, 114, 115] (tRet (tAt K (tV 0) "letters")) (mVal [118, 111, 119, 101, 108, 115] (tRet (tAt K (tV 0) "vowels")) (mVal [99, 111, 110, 115, 111, 110, 97, 110, 116, 115] (tRet (tAt K (tV 0) "consonants")) (mVal [106, 111, 105, 110, 116, 115] (tRet (tC (.str (S [45])))) (mWild (tRet (tMe [(He.ga K "Alphabet", [], sp_Alphabet_listed_signs K)] "listed_signs" W (tV 0) (tCons (tV 1) tNil))))))))))
theorem tm_Alphabet_signs_of {P : Program} {w : World} {K : PySem.W.Frag} {mg : Str → Option Value} {base : Heap} {f : Addr} {cdv : Value} {A : Around} {outer : List Env} {s : Shared} {H : Hp} {E : XK} (T : Tx K mg) (G_Alphabet_listed_signs : Me P w K mg base (He.ga K "Alphabet") "listed_signs" 7 [] (sp_Alphabet_listed_signs K)) (hr : Room 8 (A.deeper (envOfC "Alphabet.signs_of" (defScope s_Alphabet_signs_of) s.heap.objs.size f cdv))) :
    PSs (cxOf (L2M.CX K P w) P w K mg base ["self", "name"] "Alphabet.signs_of" (defScope s_Alphabet_signs_of) f cdv A outer s H E) (defBody s_Alphabet_signs_of) (t_Alphabet_signs_of K (WD E)) :=
  (pss_one (psmat (Ta.pv 1) (pms_val [97, 108, 108] (pss_one (ps_ret (patt (Ta.pv 0)))) (pms_val [108, 101, 116, 116, 101, 114, 115] (pss_one (ps_ret (patt (Ta.pv 0)))) (pms_val [118, 111, 119, 101, 108, 115] (pss_one (ps_ret (patt (Ta.pv 0)))) (pms_val [99, 111, 110, 115, 111, 110, 97, 110, 116, 115] (pss_one (ps_ret (patt (Ta.pv 0)))) (pms_val [106, 111, 105, 110, 116, 115] (pss_one (ps_ret (pclv T.cc_Alphabet_JOINT))) (pms_wild (pss_one (ps_ret (pmeth (ms := [(He.ga K "Alphabet", [], sp_Alphabet_listed_signs K)]) (fun e he => by obtain rfl := List.mem_singleton.mp he; exact G_Alphabet_listed_signs) (hr.mono (by decide)) takesD (Ta.pv 0) (pa_cons (Ta.pv 1) pa_nil))))))))))))
/-! signs_named -/
theorem sc_signs_named : FnScope ["alphabet", "name", "e"] ["alphabet", "name"] (defScope s_signs_named) := ⟨rfl, rfl, rfl, by decide +kernel, rfl, by decide +kernel, by decide +kernel⟩
structure sp_signs_named (K : PySem.W.Frag) (vs : List V) (H : Hp) (Q : VK) (E : XK) : Prop where
  out : ∃ (A dA : Addr) (l v n : List Nat), vs = [.ref A, .str (S n)] ∧ (H A = some (alo K dA l v)) ∧ (n.length < 60) ∧ (∀ m, stv l v n = some m → ∀ H', Kp [] H H' → Q (.str (S m)) H') ∧ (stv l v n = none → errK K "BadStage" "what" (.str (S wSet)) H E)
theorem i_signs_named {K : PySem.W.Frag} {A dA : Addr} {l v n : List Nat} {H : Hp} {Q : VK} {E : XK} (hA : H A = some (alo K dA l v)) (h1 : n.length < 60) (q1 : ∀ m, stv l v n = some m → ∀ H', Kp [] H H' → Q (.str (S m)) H') (q2 : stv l v n = none → errK K "BadStage" "what" (.str (S wSet)) H E) : sp_signs_named K [.ref A, .str (S n)] H Q E := by
  exact ⟨⟨A, dA, l, v, n, rfl, hA, h1, q1, q2⟩⟩
theorem d_signs_named {K : PySem.W.Frag} {vs : List V} {H : Hp} {Q : VK} {E : XK} (h : sp_signs_named K vs H Q E) : sp_signs_named K vs H Q E := h


def t_signs_named (K : PySem.W.Frag) (W : WX) : TS :=
  (fun D0 σ0 H0 => (fun (W1 : WX) => (tRet (tMe [(He.ga K "Alphabet", [], sp_Alphabet_signs_of K)] "signs_of" W1 (tV 0) (tCons (tV 1) tNil)))) (wAsX K (.ref (He.ga K "BadSet")) 2 (fun a cls d => (tRsF K 2 a cls (He.ga K "BadStage") ["what"] W (tCons (tC (.str (S [115, 101, 116]))) tNil))) W D0) D0 σ0 H0)
theorem tm_signs_named {P : Program} {w : World} {K : PySem.W.Frag} {mg : Str → Option Value} {base : Heap} {f : Addr} {cdv : Value} {A : Around} {outer : List Env} {s : Shared} {H : Hp} {E : XK} (T : Tx K mg) (G_Alphabet_signs_of : Me P w K mg base (He.ga K "Alphabet") "signs_of" 9 [] (sp_Alphabet_signs_of K)) (XH_BadStage : ExH P w K mg base "BadStage" (He.ga K "BadStage") ["what"]) (hr : Room 10 (A.deeper (envOfC "signs_named" (defScope s_signs_named) s.heap.objs.size f cdv))) :
    PSs (cxOf (L2M.CX K P w) P w K mg base ["alphabet", "name", "e"] "signs_named" (defScope s_signs_named) f cdv A outer s H E) (defBody s_signs_named) (t_signs_named K (WD E)) :=
  (pss_one (ps_try_asX (i := 2) rfl rfl sc_signs_named.nd rfl rfl (names_of T.v_BadSet) takesD (fun _ _ _ _ _ h => h) (tb := fun W1 => (tRet (tMe [(He.ga K "Alphabet", [], sp_Alphabet_signs_of K)] "signs_of" W1 (tV 0) (tCons (tV 1) tNil)))) (ts := fun a cls d => (tRsF K 2 a cls (He.ga K "BadStage") ["what"] (WD E) (tCons (tC (.str (S [115, 101, 116]))) tNil))) (fun W1 pn xe tk1 _ => (pss_one (ps_ret (pmeth (ms := [(He.ga K "Alphabet", [], sp_Alphabet_signs_of K)]) (fun e he => by obtain rfl := List.mem_singleton.mp he; exact G_Alphabet_signs_of) (hr.mono (by decide)) tk1 (Ta.pv 0) (pa_cons (Ta.pv 1) pa_nil))))) (fun a oe cls d pn xe hz hf tk2 hot => (pss_one (praiseF XH_BadStage (hr.mono (by decide)) hz hf hot tk2 (pa_cons (pstr [115, 101, 116]) pa_nil) rfl (.inl rfl))))))
/-! drop_spelling -/
theorem sc_drop_spelling : FnScope ["name", "after", "each", "counted"] ["name", "after", "each"] (defScope s_drop_spelling) := ⟨rfl, rfl, rfl, by decide +kernel, rfl, by decide +kernel, by decide +kernel⟩
structure sp_drop_spelling (K : PySem.W.Frag) (vs : List V) (H : Hp) (Q : VK) (E : XK) : Prop where
  out : ∃ (n : List Nat) (a : Nat) (e : Bool), vs = [.str (S n), .int (a : Int), .bl e] ∧ (n.length < 60) ∧ (a < 4) ∧ (∀ H', Kp [] H H' → Q (.str (S (spl n a e))) H')
theorem i_drop_spelling {K : PySem.W.Frag} {n : List Nat} {a : Nat} {e : Bool} {u0 : Int} {H : Hp} {Q : VK} {E : XK} (e_u0 : u0 = (a : Int)) (h1 : n.length < 60) (h2 : a < 4) (q1 : ∀ H', Kp [] H H' → Q (.str (S (spl n a e))) H') : sp_drop_spelling K [.str (S n), .int u0, .bl e] H Q E := by
  subst e_u0; exact ⟨⟨n, a, e, rfl, h1, h2, q1⟩⟩
theorem d_drop_spelling {K : PySem.W.Frag} {vs : List V} {H : Hp} {Q : VK} {E : XK} (h : sp_drop_spelling K vs H Q E) : sp_drop_spelling K vs H Q E := h


def t_drop_spelling (K : PySem.W.Frag) (W : WX) : TS :=
  (tSeq (tAsg (tIfE (tTst (tOp zGt (tV 1) (tC (.int 0)))) (tFstr [(tC (.str (S [32, 97, 102, 116, 101, 114, 32]))), (tFv (tV 1))]) (tC (.str (S [])))) (gName 3))
  (tRet (tSM (zJoin K) (tC (.str (S []))) (tCons (tLst (tCons (tC (.str (S [100, 114, 111, 112, 32]))) (tCons (tV 0) (tCons (tV 3) (tCons (tIfE (tTru K (tV 2)) (tC (.str (S [32, 101, 97, 99, 104]))) (tC (.str (S [])))) tNil))))) tNil))))
theorem tm_drop_spelling {P : Program} {w : World} {K : PySem.W.Frag} {mg : Str → Option Value} {base : Heap} {f : Addr} {cdv : Value} {A : Around} {outer : List Env} {s : Shared} {H : Hp} {E : XK} (T : Tx K mg) (hr : Room 4 (A.deeper (envOfC "drop_spelling" (defScope s_drop_spelling) s.heap.objs.size f cdv))) :
    PSs (cxOf (L2M.CX K P w) P w K mg base ["name", "after", "each", "counted"] "drop_spelling" (defScope s_drop_spelling) f cdv A outer s H E) (defBody s_drop_spelling) (t_drop_spelling K (WD E)) :=
  (pss_cons (pset 3 sc_drop_spelling.nd (peif (ptcmp opgt (Ta.pv 1) pe_int) (pfstr (PFs.cons (pstr [32, 97, 102, 116, 101, 114, 32]) (PFs.cons (pfv (Ta.pv 1)) PFs.nil))) (pstr [])))
  (pss_one (ps_ret (psm PySem.F.slot_str_join PySem.F.type_str_join mtjoin (pstr []) (pa_cons (pe_lst (pa_cons (pstr [100, 114, 111, 112, 32]) (pa_cons (Ta.pv 0) (pa_cons (Ta.pv 3) (pa_cons (peif (ptru (Ta.pv 2)) (pstr [32, 101, 97, 99, 104]) (pstr [])) pa_nil))))) pa_nil)))))
/-! Drop___init__ -/
theorem sc_Drop_init : NdefX.NScope ["self", "alphabet", "name", "after", "each", "__class__"] ["self", "alphabet", "name", "after", "each"] ["__class__"] (defScope s_Drop_init) := NdefX.nscope_by (by decide +kernel)
structure sp_Drop_init (K : PySem.W.Frag) (vs : List V) (H : Hp) (Q : VK) (E : XK) : Prop where
  out : ∃ (x dx A dA : Addr) (k : Nat) (l v n : List Nat) (i : Int) (e : Bool), vs = [.ref x, .ref A, .str (S n), .int i, .bl e] ∧ (k = 3 ∨ k = 4) ∧ (H x = some (.ins (cSt K k) dx [])) ∧ (H A = some (alo K dA l v)) ∧ (n.length < 60) ∧ (∀ m a, stv l v n = some m → i = ((a : Nat) : Int) → a < 4 → ∀ H', Kp [x] H H' → H' x = some (.ins (cSt K k) dx (fSt A n m 0 a e 3)) → Q .non H') ∧ (stv l v n = none → ∀ H', Kp [x] H H' → errK K "BadStage" "what" (.str (S wSet)) H' E) ∧ (¬ stv l v n = none → ¬ (0 ≤ i ∧ i < 4) → ∀ H', Kp [x] H H' → errK K "BadStage" "what" (.str (S wAfter)) H' E)
theorem i_Drop_init {K : PySem.W.Frag} {x dx A dA : Addr} {k : Nat} {l v n : List Nat} {i : Int} {e : Bool} {H : Hp} {Q : VK} {E : XK} (hk : k = 3 ∨ k = 4) (hx : H x = some (.ins (cSt K k) dx [])) (hA : H A = some (alo K dA l v)) (h1 : n.length < 60) (q1 : ∀ m a, stv l v n = some m → i = ((a : Nat) : Int) → a < 4 → ∀ H', Kp [x] H H' → H' x = some (.ins (cSt K k) dx (fSt A n m 0 a e 3)) → Q .non H') (q2 : stv l v n = none → ∀ H', Kp [x] H H' → errK K "BadStage" "what" (.str (S wSet)) H' E) (q3 : ¬ stv l v n = none → ¬ (0 ≤ i ∧ i < 4) → ∀ H', Kp [x] H H' → errK K "BadStage" "what" (.str (S wAfter)) H' E) : sp_Drop_init K [.ref x, .ref A, .str (S n), .int i, .bl e] H Q E := by
  exact ⟨⟨x, dx, A, dA, k, l, v, n, i, e, rfl, hk, hx, hA, h1, q1, q2, q3⟩⟩
theorem d_Drop_init {K : PySem.W.Frag} {vs : List V} {H : Hp} {Q : VK} {E : XK} (h : sp_Drop_init K vs H Q E) : sp_Drop_init K vs H Q E := h


def t_Drop_init (K : PySem.W.Frag) (W : WX) : TS :=
  (tSeq (tDrop (tMe [(He.ga K "Drop", [], sp_Stage_init K), (He.ga K "LastDrop", [], sp_Stage_init K)] "__init__" W (tV 0) (tCons (tV 1) tNil)))
  (tSeq (sAt K (tV 0) (tCal (sp_signs_named K) [] W (tCons (tV 1) (tCons (tV 2) tNil))) "chosen")
  (tSeq (tIfP (tNot (tTst (tChn zLe zLe (tC (.int 0)) (tV 3) (tC (.int 3))))) (tRs (He.ga K "BadStage") ["what"] W (tCons (tC (.str (S [97, 102, 116, 101, 114]))) tNil)) tNext)
  (tSeq (sAt K (tV 0) (tV 2) "name")
  (tSeq (sAt K (tV 0) (tV 3) "after")
  (tSeq (sAt K (tV 0) (tV 4) "each")
  (sAt K (tV 0) (tCal (sp_drop_spelling K) [] W (tCons (tV 2) (tCons (tV 3) (tCons (tV 4) tNil)))) "spelling")))))))
theorem tm_Drop_init {P : Program} {w : World} {K : PySem.W.Frag} {mg : Str → Option Value} {base : Heap} {f D c : Addr} {cl : List (Str × Addr)} {fd : FuncData} {A : Around} {outer : List Env} {s : Shared} {H : Hp} {E : XK} (T : Tx K mg) (SF : SupFn P K f ⟨"__init__", "Drop.__init__", defArgs s_Drop_init, defBody s_Drop_init, defScope s_Drop_init, cl, c⟩ D [] fd) (SU : ∀ e ∈ ([(He.ga K "Drop", [], sp_Stage_init K), (He.ga K "LastDrop", [], sp_Stage_init K)] : MS), Su P w K mg base D e.1 "__init__" 5 e.2.1 e.2.2) (G_drop_spelling : Fn P w K mg base "drop_spelling" 5 [] (sp_drop_spelling K)) (G_signs_named : Fn P w K mg base "signs_named" 11 [] (sp_signs_named K)) (X_BadStage : Ex P w K mg base "BadStage" (He.ga K "BadStage") ["what"]) (hr : Room 12 (A.deeper (NdefX.envF ⟨"__init__", "Drop.__init__", defArgs s_Drop_init, defBody s_Drop_init, defScope s_Drop_init, cl, c⟩ f s.heap.objs.size))) :
    PAt (NdefX.ncx (L2M.CX K P w) P w K mg base ["self", "alphabet", "name", "after", "each", "__class__"] ⟨"__init__", "Drop.__init__", defArgs s_Drop_init, defBody s_Drop_init, defScope s_Drop_init, cl, c⟩ f A outer s H E) (defBody s_Drop_init) (defBody s_Drop_init) (t_Drop_init K (WD E)) :=
  (pat_cons (pas_expr (psup (i := 0) (ms := [(He.ga K "Drop", [], sp_Stage_init K), (He.ga K "LastDrop", [], sp_Stage_init K)]) SF rfl T.f_super rfl rfl (show (defScope s_Drop_init).names.lookup ("self" : Str) = some .local by decide +kernel) (show (defScope s_Drop_init).names.lookup ("super" : Str) = some .globalImplicit by decide +kernel) (show (defScope s_Drop_init).names.lookup ("__class__" : Str) = some .free by decide +kernel) rfl rfl SU (hr.mono (by decide)) takesN (pa_cons (Ta.pv 1) pa_nil)))
  (pat_of (pss_cons (psat (Ta.pv 0) (pcall G_signs_named (hr.mono (by decide)) takesN (pa_cons (Ta.pv 1) (pa_cons (Ta.pv 2) pa_nil))))
  (pss_cons (psif (pt_not (ptchn ople ople pe_int (Ta.pv 3) (pglo T.v_MOST_AFTER))) (pss_one (praise X_BadStage (hr.mono (by decide)) takesN (pa_cons (pstr [97, 102, 116, 101, 114]) pa_nil))) pss_nil)
  (pss_cons (psat (Ta.pv 0) (Ta.pv 2))
  (pss_cons (psat (Ta.pv 0) (Ta.pv 3))
  (pss_cons (psat (Ta.pv 0) (Ta.pv 4))
  (pss_one (psat (Ta.pv 0) (pcall G_drop_spelling (hr.mono (by decide)) takesN (pa_cons (Ta.pv 2) (pa_cons (Ta.pv 3) (pa_cons (Ta.pv 4) pa_nil)))))))))))))
/-! LastDrop___init__ -/
theorem sc_LastDrop_init : NdefX.NScope ["self", "alphabet", "name", "after", "each", "__class__"] ["self", "alphabet", "name", "after", "each"] ["__class__"] (defScope s_LastDrop_init) := NdefX.nscope_by (by decide +kernel)
structure sp_LastDrop_init (K : PySem.W.Frag) (vs : List V) (H : Hp) (Q : VK) (E : XK) : Prop where
  out : ∃ (x dx A dA : Addr) (l v n : List Nat) (i : Int) (e : Bool), vs = [.ref x, .ref A, .str (S n), .int i, .bl e] ∧ (H x = some (.ins (He.ga K "LastDrop") dx [])) ∧ (H A = some (alo K dA l v)) ∧ (n.length < 60) ∧ (∀ m a, stv l v n = some m → i = ((a : Nat) : Int) → a < 4 → ∀ H', Kp [x] H H' → H' x = some (.ins (He.ga K "LastDrop") dx (fSt A n m 0 a e 4)) → Q .non H') ∧ (stv l v n = none → ∀ H', Kp [x] H H' → errK K "BadStage" "what" (.str (S wSet)) H' E) ∧ (¬ stv l v n = none → ¬ (0 ≤ i ∧ i < 4) → ∀ H', Kp [x] H H' → errK K "BadStage" "what" (.str (S wAfter)) H' E)
theorem i_LastDrop_init {K : PySem.W.Frag} {x dx A dA : Addr} {l v n : List Nat} {i : Int} {e : Bool} {H : Hp} {Q : VK} {E : XK} (hx : H x = some (.ins (He.ga K "LastDrop") dx [])) (hA : H A = some (alo K dA l v)) (h1 : n.length < 60) (q1 : ∀ m a, stv l v n = some m → i = ((a : Nat) : Int) → a < 4 → ∀ H', Kp [x] H H' → H' x = some (.ins (He.ga K "LastDrop") dx (fSt A n m 0 a e 4)) → Q .non H') (q2 : stv l v n = none → ∀ H', Kp [x] H H' → errK K "BadStage" "what" (.str (S wSet)) H' E) (q3 : ¬ stv l v n = none → ¬ (0 ≤ i ∧ i < 4) → ∀ H', Kp [x] H H' → errK K "BadStage" "what" (.str (S wAfter)) H' E) : sp_LastDrop_init K [.ref x, .ref A, .str (S n), .int i, .bl e] H Q E := by
  exact ⟨⟨x, dx, A, dA, l, v, n, i, e, rfl, hx, hA, h1, q1, q2, q3⟩⟩
theorem d_LastDrop_init {K : PySem.W.Frag} {vs : List V} {H : Hp} {Q : VK} {E : XK} (h : sp_LastDrop_init K vs H Q E) : sp_LastDrop_init K vs H Q E := h


def t_LastDrop_init (K : PySem.W.Frag) (W : WX) : TS :=
  (tSeq (tDrop (tMeK [(He.ga K "LastDrop", (fun (vs zs : List V) => gkF [(false, 0), (false, 1)] vs ([] : List V) zs), sp_Drop_init K)] "__init__" 2 2 W (tV 0) (tCons (tV 1) (tCons (tV 2) tNil)) (tCons (tV 3) (tCons (tV 4) tNil))))
  (sAt K (tV 0) (tOp zAdd (tCal (sp_drop_spelling K) [] W (tCons (tV 2) (tCons (tV 3) (tCons (tV 4) tNil)))) (tC (.str (S [32, 98, 117, 116, 32, 108, 97, 115, 116])))) "spelling"))
theorem tm_LastDrop_init {P : Program} {w : World} {K : PySem.W.Frag} {mg : Str → Option Value} {base : Heap} {f D c : Addr} {cl : List (Str × Addr)} {fd : FuncData} {A : Around} {outer : List Env} {s : Shared} {H : Hp} {E : XK} (T : Tx K mg) (SF : SupFn P K f ⟨"__init__", "LastDrop.__init__", defArgs s_LastDrop_init, defBody s_LastDrop_init, defScope s_LastDrop_init, cl, c⟩ D [] fd) (SU : ∀ e ∈ ([(He.ga K "LastDrop", (fun (vs zs : List V) => gkF [(false, 0), (false, 1)] vs ([] : List V) zs), sp_Drop_init K)] : MSK), SuKw P w K mg base D e.1 "__init__" 2 ["after", "each"] e.2.1 13 e.2.2) (G_drop_spelling : Fn P w K mg base "drop_spelling" 5 [] (sp_drop_spelling K)) (hr : Room 14 (A.deeper (NdefX.envF ⟨"__init__", "LastDrop.__init__", defArgs s_LastDrop_init, defBody s_LastDrop_init, defScope s_LastDrop_init, cl, c⟩ f s.heap.objs.size))) :
    PAt (NdefX.ncx (L2M.CX K P w) P w K mg base ["self", "alphabet", "name", "after", "each", "__class__"] ⟨"__init__", "LastDrop.__init__", defArgs s_LastDrop_init, defBody s_LastDrop_init, defScope s_LastDrop_init, cl, c⟩ f A outer s H E) (defBody s_LastDrop_init) (defBody s_LastDrop_init) (t_LastDrop_init K (WD E)) :=
  (pat_cons (pas_expr (psupK (i := 0) (ms := [(He.ga K "LastDrop", (fun (vs zs : List V) => gkF [(false, 0), (false, 1)] vs ([] : List V) zs), sp_Drop_init K)]) SF rfl T.f_super rfl rfl (show (defScope s_LastDrop_init).names.lookup ("self" : Str) = some .local by decide +kernel) (show (defScope s_LastDrop_init).names.lookup ("super" : Str) = some .globalImplicit by decide +kernel) (show (defScope s_LastDrop_init).names.lookup ("__class__" : Str) = some .free by decide +kernel) rfl rfl SU (hr.mono (by decide)) takesN (pa_cons (Ta.pv 1) (pa_cons (Ta.pv 2) pa_nil)) (pk_cons (Ta.pv 3) (pk_cons (Ta.pv 4) pk_nil))))
  (pat_of (pss_one (psat (Ta.pv 0) (pe_op opadd (pcall G_drop_spelling (hr.mono (by decide)) takesN (pa_cons (Ta.pv 2) (pa_cons (Ta.pv 3) (pa_cons (Ta.pv 4) pa_nil)))) (pstr [32, 98, 117, 116, 32, 108, 97, 115, 116]))))))
/-! _law_refusal -/
theorem sc_l_refusal : FnScope ["_law_alpha", "_law_last", "_law_name_here", "_law_number", "_law_joined", "e"] ["_law_alpha", "_law_last", "_law_name_here", "_law_number", "_law_joined"] (defScope s_l_refusal) := ⟨rfl, rfl, rfl, by decide +kernel, rfl, by decide +kernel, by decide +kernel⟩
structure sp_l_refusal (K : PySem.W.Frag) (vs : List V) (H : Hp) (Q : VK) (E : XK) : Prop where
  out : ∃ (A dA : Addr) (l v n : List Nat) (i : Int) (e la : Bool), vs = [.ref A, .bl la, .str (S n), .int i, .bl e] ∧ (H A = some (alo K dA l v)) ∧ (n.length < 60) ∧ (∀ w b u H', ((stv l v n = none ∧ b = true ∧ u = wSet) ∨ (¬ stv l v n = none ∧ ¬ (0 ≤ i ∧ i < 4) ∧ b = true ∧ u = wAfter) ∨ (¬ stv l v n = none ∧ (0 ≤ i ∧ i < 4) ∧ b = false ∧ u = [])) → Kp [] H H' → H w = none → H' w = some (.tup [.bl b, .str (S u)]) → Q (.ref w) H')
theorem i_l_refusal {K : PySem.W.Frag} {A dA : Addr} {l v n : List Nat} {i : Int} {e la : Bool} {H : Hp} {Q : VK} {E : XK} (hA : H A = some (alo K dA l v)) (h1 : n.length < 60) (q1 : ∀ w b u H', ((stv l v n = none ∧ b = true ∧ u = wSet) ∨ (¬ stv l v n = none ∧ ¬ (0 ≤ i ∧ i < 4) ∧ b = true ∧ u = wAfter) ∨ (¬ stv l v n = none ∧ (0 ≤ i ∧ i < 4) ∧ b = false ∧ u = [])) → Kp [] H H' → H w = none → H' w = some (.tup [.bl b, .str (S u)]) → Q (.ref w) H') : sp_l_refusal K [.ref A, .bl la, .str (S n), .int i, .bl e] H Q E := by
  exact ⟨⟨A, dA, l, v, n, i, e, la, rfl, hA, h1, q1⟩⟩
theorem d_l_refusal {K : PySem.W.Frag} {vs : List V} {H : Hp} {Q : VK} {E : XK} (h : sp_l_refusal K vs H Q E) : sp_l_refusal K vs H Q E := h


def t_l_refusal (K : PySem.W.Frag) (W : WX) : TS :=
  (tSeq (fun D0 σ0 H0 => (fun (W1 : WX) => (tIfP (tTru K (tV 1)) (tDrop (tMakK (He.ga K "LastDrop") (sp_LastDrop_init K) 2 2 (fun (vs zs : List V) => gkF [(false, 0), (false, 1)] vs ([] : List V) zs) W1 (tCons (tV 0) (tCons (tV 2) tNil)) (tCons (tV 3) (tCons (tV 4) tNil)))) (tDrop (tMakK (He.ga K "Drop") (sp_Drop_init K) 2 2 (fun (vs zs : List V) => gkF [(false, 0), (false, 1)] vs ([] : List V) zs) W1 (tCons (tV 0) (tCons (tV 2) tNil)) (tCons (tV 3) (tCons (tV 4) tNil)))))) (wHk K W D0 [(Hk.as 5 (.ref (He.ga K "BadStage")) (fun a cls d => (tRet (tTup (tCons (tAndE K (tCB (zIsX K a cls d) (tCons (tV 5) (tCons (tC (.ref (He.ga K "TaleError"))) tNil))) (tCB (zIsX K a cls d) (tCons (tV 5) (tCons (tC (.ty "ValueError")) tNil)))) (tCons (tXat K a cls d "what" (tV 5)) tNil))))))]) D0 σ0 H0)
  (tRet (tTup (tCons (tC (.bl false)) (tCons (tC (.str (S []))) tNil)))))
theorem tm_l_refusal {P : Program} {w : World} {K : PySem.W.Frag} {mg : Str → Option Value} {base : Heap} {f : Addr} {cdv : Value} {A : Around} {outer : List Env} {s : Shared} {H : Hp} {E : XK} (T : Tx K mg) (GK_Drop_2_after_each : MkKw P w K mg base "Drop" (He.ga K "Drop") 2 ["after", "each"] (fun (vs zs : List V) => gkF [(false, 0), (false, 1)] vs ([] : List V) zs) 13 (sp_Drop_init K)) (GK_LastDrop_2_after_each : MkKw P w K mg base "LastDrop" (He.ga K "LastDrop") 2 ["after", "each"] (fun (vs zs : List V) => gkF [(false, 0), (false, 1)] vs ([] : List V) zs) 15 (sp_LastDrop_init K)) (hr : Room 16 (A.deeper (envOfC "_law_refusal" (defScope s_l_refusal) s.heap.objs.size f cdv))) :
    PSs (cxOf (L2M.CX K P w) P w K mg base ["_law_alpha", "_law_last", "_law_name_here", "_law_number", "_law_joined", "e"] "_law_refusal" (defScope s_l_refusal) f cdv A outer s H E) (defBody s_l_refusal) (t_l_refusal K (WD E)) :=
  (pss_cons (ps_try_x rfl rfl sc_l_refusal.nd takesD (tb := fun W1 => (tIfP (tTru K (tV 1)) (tDrop (tMakK (He.ga K "LastDrop") (sp_LastDrop_init K) 2 2 (fun (vs zs : List V) => gkF [(false, 0), (false, 1)] vs ([] : List V) zs) W1 (tCons (tV 0) (tCons (tV 2) tNil)) (tCons (tV 3) (tCons (tV 4) tNil)))) (tDrop (tMakK (He.ga K "Drop") (sp_Drop_init K) 2 2 (fun (vs zs : List V) => gkF [(false, 0), (false, 1)] vs ([] : List V) zs) W1 (tCons (tV 0) (tCons (tV 2) tNil)) (tCons (tV 3) (tCons (tV 4) tNil)))))) (l := [(Hk.as 5 (.ref (He.ga K "BadStage")) (fun a cls d => (tRet (tTup (tCons (tAndE K (tCB (zIsX K a cls d) (tCons (tV 5) (tCons (tC (.ref (He.ga K "TaleError"))) tNil))) (tCB (zIsX K a cls d) (tCons (tV 5) (tCons (tC (.ty "ValueError")) tNil)))) (tCons (tXat K a cls d "what" (tV 5)) tNil))))))]) (fun W1 pn xe tk1 _ => (pss_one (psif (ptru (Ta.pv 1)) (pss_one (ps_expr (pmakK GK_LastDrop_2_after_each (hr.mono (by decide)) tk1 (pa_cons (Ta.pv 0) (pa_cons (Ta.pv 2) pa_nil)) (pk_cons (Ta.pv 3) (pk_cons (Ta.pv 4) pk_nil))))) (pss_one (ps_expr (pmakK GK_Drop_2_after_each (hr.mono (by decide)) tk1 (pa_cons (Ta.pv 0) (pa_cons (Ta.pv 2) pa_nil)) (pk_cons (Ta.pv 3) (pk_cons (Ta.pv 4) pk_nil)))))))) (HdsX.as (i := 5) rfl rfl (names_of T.v_BadStage) (fun a oe cls d pn hz hf => (pss_one (ps_ret (pe_tup (pa_cons (peand (pcb (crisx hz hf) T.f_isinstance (pa_cons (Ta.pv 5) (pa_cons (pglo T.v_TaleError) pa_nil))) (pe_one (pcb (crisx hz hf) T.f_isinstance (pa_cons (Ta.pv 5) (pa_cons (pbty T.f_ValueError) pa_nil))))) (pa_cons (pxat hz hf (Ta.pv 5)) pa_nil)))))) HdsX.nil))
  (pss_one (ps_ret (pe_tup (pa_cons pe_bl (pa_cons (pstr []) pa_nil))))))
/-! _law_refusals -/
theorem sc_l_refusals : FnScope ["_law_box_here", "_law_alpha", "_law_signs", "_law_pool", "_law_form_here", "_law_names", "_law_bad", "_law_far", "_law_last", "_law_joined", "_law_number"] ["_law_box_here", "_law_alpha", "_law_signs", "_law_pool", "_law_form_here"] (defScope s_l_refusals) := ⟨rfl, rfl, rfl, by decide +kernel, rfl, by decide +kernel, by decide +kernel⟩
structure sp_l_refusals (K : PySem.W.Frag) (vs : List V) (H : Hp) (Q : VK) (E : XK) : Prop where
  out : ∃ (b A dA p r : Addr) (l v po n : List Nat) (a : Nat) (e : Bool), vs = [.ref b, .ref A, .str (S (sg l)), .ref p, .ref r] ∧ (bx H b) ∧ (H A = some (alo K dA l v)) ∧ (good l v) ∧ (H p = some (pol po)) ∧ ((l ++ po).Perm AZ) ∧ (H r = some (.tup [.str (S n), .int (a : Int), .bl e])) ∧ (∃ m, nmOk l v n m) ∧ (a < 4) ∧ (∀ H', Kp [b] H H' → bx H' b → Q (.bl true) H')
theorem i_l_refusals {K : PySem.W.Frag} {b A dA p r : Addr} {l v po n : List Nat} {a : Nat} {e : Bool} {H : Hp} {Q : VK} {E : XK} (hb : bx H b) (hA : H A = some (alo K dA l v)) (hg : good l v) (hp : H p = some (pol po)) (hq : (l ++ po).Perm AZ) (hr : H r = some (.tup [.str (S n), .int (a : Int), .bl e])) (hn : ∃ m, nmOk l v n m) (ha : a < 4) (q1 : ∀ H', Kp [b] H H' → bx H' b → Q (.bl true) H') : sp_l_refusals K [.ref b, .ref A, .str (S (sg l)), .ref p, .ref r] H Q E := by
  exact ⟨⟨b, A, dA, p, r, l, v, po, n, a, e, rfl, hb, hA, hg, hp, hq, hr, hn, ha, q1⟩⟩
theorem d_l_refusals {K : PySem.W.Frag} {vs : List V} {H : Hp} {Q : VK} {E : XK} (h : sp_l_refusals K vs H Q E) : sp_l_refusals K vs H Q E := h


def b_l_refusals_3 (K : PySem.W.Frag) (W : WX) : TS :=
  (tIfP (tTst (tOp (zNeP K) (tCal (sp_l_refusal K) [] W (tCons (tV 1) (tCons (tV 8) (tCons (tOp (zIxP K) (tV 4) (tC (.int 0))) (tCons (tV 10) (tCons (tV 9) tNil)))))) (tTup (tCons (tC (.bl false)) (tCons (tC (.str (S []))) tNil))))) (tRet (tC (.bl false))) tNext)
def b_l_refusals_2 (K : PySem.W.Frag) (W : WX) : TS :=
  (tSeq (tIfP (tTst (tOp (zNeP K) (tCal (sp_l_refusal K) [] W (tCons (tV 1) (tCons (tV 8) (tCons (tV 6) (tCons (tOp (zIxP K) (tV 4) (tC (.int 1))) (tCons (tV 9) tNil)))))) (tTup (tCons (tC (.bl true)) (tCons (tC (.str (S [115, 101, 116]))) tNil))))) (tRet (tC (.bl false))) tNext)
  (tSeq (tIfP (tTst (tOp (zNeP K) (tCal (sp_l_refusal K) [] W (tCons (tV 1) (tCons (tV 8) (tCons (tV 6) (tCons (tV 7) (tCons (tV 9) tNil)))))) (tTup (tCons (tC (.bl true)) (tCons (tC (.str (S [115, 101, 116]))) tNil))))) (tRet (tC (.bl false))) tNext)
  (tSeq (tIfP (tTst (tOp (zNeP K) (tCal (sp_l_refusal K) [] W (tCons (tV 1) (tCons (tV 8) (tCons (tOp (zIxP K) (tV 4) (tC (.int 0))) (tCons (tV 7) (tCons (tV 9) tNil)))))) (tTup (tCons (tC (.bl true)) (tCons (tC (.str (S [97, 102, 116, 101, 114]))) tNil))))) (tRet (tC (.bl false))) tNext)
  (tForP (jR1 (tCons (tC (.int 4)) tNil)) (gName 10) (b_l_refusals_3 K W)))))
def b_l_refusals_1 (K : PySem.W.Frag) (W : WX) : TS :=
  (tForP (jA K (tLst (tCons (tC (.bl false)) (tCons (tC (.bl true)) tNil)))) (gName 9) (b_l_refusals_2 K W))
structure t_l_refusals_4 (K : PySem.W.Frag) (W : WX) (D : Ends) (σ : L2.St) (H : Hp) : Prop where
  out : (tSeq (tForP (jA K (tLst (tCons (tC (.bl false)) (tCons (tC (.bl true)) tNil)))) (gName 8) (b_l_refusals_1 K W))
  (tRet (tC (.bl true)))) D σ H
structure t_l_refusals_3 (K : PySem.W.Frag) (W : WX) (D : Ends) (σ : L2.St) (H : Hp) : Prop where
  out : (tSeq (tAsg (tOp (zIxP K) (tLst (tCons (tUn zNeg (tC (.int 1))) (tCons (tC (.int 4)) (tCons (tOp zPow (tC (.int 10)) (tC (.int 39))) (tCons (tUn zNeg (tOp zPow (tC (.int 10)) (tC (.int 39)))) (tCons (tOp zAdd (tC (.int 5)) (tCal (sp_l_take K) [] W (tCons (tV 0) (tCons (tC (.int 90)) tNil)))) tNil)))))) (tCal (sp_l_take K) [] W (tCons (tV 0) (tCons (tC (.int 5)) tNil)))) (gName 7))
  (t_l_refusals_4 K W)) D σ H
def t_l_refusals (K : PySem.W.Frag) (W : WX) : TS :=
  (tSeq (tAsg (tLst (tCons (tC (.str (S []))) (tCons (tC (.str (S [91, 93]))) (tCons (tC (.str (S [91, 97, 97, 93]))) (tCons (tC (.str (S [91, 97, 45, 93]))) (tCons (tC (.str (S [118, 111, 119, 101, 108]))) (tCons (tC (.str (S [65, 108, 108]))) (tCons (tC (.str (S [97, 108, 108, 32]))) (tCons (tC (.str (S [91, 97]))) (tCons (tC (.str (S [97, 93]))) (tCons (tC (.str (S [106, 111, 105, 110, 116]))) (tCons (tC (.str (S [45]))) (tCons (tC (.str (S [91, 65, 93]))) (tCons (tC (.str (S [91, 45, 45, 93]))) (tCons (tC (.str (S [91, 32, 93]))) (tCons (tC (.str (S [32, 97, 108, 108]))) tNil)))))))))))))))) (gName 5))
  (tSeq (tAsg (tOp zAdd (tV 5) (tLst (tCons (tC (.str (S [91, 45]))) (tCons (tOp zAdd (tOp zAdd (tC (.str (S [91]))) (tOp (zIxP K) (tV 2) (tC (.int 1)))) (tC (.str (S [45, 93])))) (tCons (tOp zAdd (tOp zAdd (tC (.str (S [91]))) (tOp (zIxP K) (tV 3) (tCal (sp_l_take K) [] W (tCons (tV 0) (tCons (tCB (zLen K) (tCons (tV 3) tNil)) tNil))))) (tC (.str (S [93])))) tNil))))) (gName 5))
  (tSeq (tAsg (tOp (zIxP K) (tV 5) (tCal (sp_l_take K) [] W (tCons (tV 0) (tCons (tC (.int 18)) tNil)))) (gName 6))
  (t_l_refusals_3 K W))))
theorem tm_l_refusals {P : Program} {w : World} {K : PySem.W.Frag} {mg : Str → Option Value} {base : Heap} {f : Addr} {cdv : Value} {A : Around} {outer : List Env} {s : Shared} {H : Hp} {E : XK} (T : Tx K mg) (G_l_refusal : Fn P w K mg base "_law_refusal" 17 [] (sp_l_refusal K)) (G_l_take : Fn P w K mg base "_law_take" 5 [] (sp_l_take K)) (hr : Room 18 (A.deeper (envOfC "_law_refusals" (defScope s_l_refusals) s.heap.objs.size f cdv))) :
    PSs (cxOf (L2M.CX K P w) P w K mg base ["_law_box_here", "_law_alpha", "_law_signs", "_law_pool", "_law_form_here", "_law_names", "_law_bad", "_law_far", "_law_last", "_law_joined", "_law_number"] "_law_refusals" (defScope s_l_refusals) f cdv A outer s H E) (defBody s_l_refusals) (t_l_refusals K (WD E)) :=
  (pss_cons (pset 5 sc_l_refusals.nd (pe_lst (pa_cons (pstr []) (pa_cons (pstr [91, 93]) (pa_cons (pstr [91, 97, 97, 93]) (pa_cons (pstr [91, 97, 45, 93]) (pa_cons (pstr [118, 111, 119, 101, 108]) (pa_cons (pstr [65, 108, 108]) (pa_cons (pstr [97, 108, 108, 32]) (pa_cons (pstr [91, 97]) (pa_cons (pstr [97, 93]) (pa_cons (pstr [106, 111, 105, 110, 116]) (pa_cons (pstr [45]) (pa_cons (pstr [91, 65, 93]) (pa_cons (pstr [91, 45, 45, 93]) (pa_cons (pstr [91, 32, 93]) (pa_cons (pstr [32, 97, 108, 108]) pa_nil)))))))))))))))))
  (pss_cons (pset 5 sc_l_refusals.nd (pe_op opadd (Ta.pv 5) (pe_lst (pa_cons (pstr [91, 45]) (pa_cons (pe_op opadd (pe_op opadd (pstr [91]) (pix (Ta.pv 2) pe_int)) (pstr [45, 93])) (pa_cons (pe_op opadd (pe_op opadd (pstr [91]) (pix (Ta.pv 3) (pcall G_l_take (hr.mono (by decide)) takesD (pa_cons (Ta.pv 0) (pa_cons (pcb (crlen) T.f_len (pa_cons (Ta.pv 3) pa_nil)) pa_nil))))) (pstr [93])) pa_nil))))))
  (pss_cons (pset 6 sc_l_refusals.nd (pix (Ta.pv 5) (pcall G_l_take (hr.mono (by decide)) takesD (pa_cons (Ta.pv 0) (pa_cons pe_int pa_nil)))))
  (pss_imp (pss_cons (pset 7 sc_l_refusals.nd (pix (pe_lst (pa_cons (pe_un unneg pe_int) (pa_cons pe_int (pa_cons (pe_op oppow pe_int pe_int) (pa_cons (pe_un unneg (pe_op oppow pe_int pe_int)) (pa_cons (pe_op opadd pe_int (pcall G_l_take (hr.mono (by decide)) takesD (pa_cons (Ta.pv 0) (pa_cons pe_int pa_nil)))) pa_nil)))))) (pcall G_l_take (hr.mono (by decide)) takesD (pa_cons (Ta.pv 0) (pa_cons pe_int pa_nil)))))
  (pss_imp (pss_cons (psfor ownD rfl (pja (pe_lst (pa_cons pe_bl (pa_cons pe_bl pa_nil)))) (pgn 8 sc_l_refusals.nd) (pss_one (psfor ownD rfl (pja (pe_lst (pa_cons pe_bl (pa_cons pe_bl pa_nil)))) (pgn 9 sc_l_refusals.nd) (pss_cons (psif (ptcmp (opne hr.units) (pcall G_l_refusal (hr.mono (by decide)) takesD (pa_cons (Ta.pv 1) (pa_cons (Ta.pv 8) (pa_cons (Ta.pv 6) (pa_cons (pix (Ta.pv 4) pe_int) (pa_cons (Ta.pv 9) pa_nil)))))) (pe_tup (pa_cons pe_bl (pa_cons (pstr [115, 101, 116]) pa_nil)))) (pss_one (ps_ret pe_bl)) pss_nil)
  (pss_cons (psif (ptcmp (opne hr.units) (pcall G_l_refusal (hr.mono (by decide)) takesD (pa_cons (Ta.pv 1) (pa_cons (Ta.pv 8) (pa_cons (Ta.pv 6) (pa_cons (Ta.pv 7) (pa_cons (Ta.pv 9) pa_nil)))))) (pe_tup (pa_cons pe_bl (pa_cons (pstr [115, 101, 116]) pa_nil)))) (pss_one (ps_ret pe_bl)) pss_nil)
  (pss_cons (psif (ptcmp (opne hr.units) (pcall G_l_refusal (hr.mono (by decide)) takesD (pa_cons (Ta.pv 1) (pa_cons (Ta.pv 8) (pa_cons (pix (Ta.pv 4) pe_int) (pa_cons (Ta.pv 7) (pa_cons (Ta.pv 9) pa_nil)))))) (pe_tup (pa_cons pe_bl (pa_cons (pstr [97, 102, 116, 101, 114]) pa_nil)))) (pss_one (ps_ret pe_bl)) pss_nil)
  (pss_one (psfor ownD rfl (pjr1 T.f_range (pa_cons pe_int pa_nil)) (pgn 10 sc_l_refusals.nd) (pss_one (psif (ptcmp (opne hr.units) (pcall G_l_refusal (hr.mono (by decide)) takesD (pa_cons (Ta.pv 1) (pa_cons (Ta.pv 8) (pa_cons (pix (Ta.pv 4) pe_int) (pa_cons (Ta.pv 10) (pa_cons (Ta.pv 9) pa_nil)))))) (pe_tup (pa_cons pe_bl (pa_cons (pstr []) pa_nil)))) (pss_one (ps_ret pe_bl)) pss_nil))))))))))
  (pss_one (ps_ret pe_bl))) fun _ _ _ h => h.out)) fun _ _ _ h => h.out))))
/-! _law_object -/
theorem sc_l_object : FnScope ["_law_alpha", "_law_form_here", "_law_last", "_law_name_here", "_law_number", "_law_joined"] ["_law_alpha", "_law_form_here", "_law_last"] (defScope s_l_object) := ⟨rfl, rfl, rfl, by decide +kernel, rfl, by decide +kernel, by decide +kernel⟩
structure sp_l_object (K : PySem.W.Frag) (vs : List V) (H : Hp) (Q : VK) (E : XK) : Prop where
  out : ∃ (A dA r : Addr) (l v n : List Nat) (a : Nat) (e la : Bool), vs = [.ref A, .ref r, .bl la] ∧ (H A = some (alo K dA l v)) ∧ (H r = some (.tup [.str (S n), .int (a : Int), .bl e])) ∧ (∃ m, nmOk l v n m) ∧ (a < 4) ∧ (∀ x m H', stv l v n = some m → Kp [] H H' → H x = none → stgAt K H' x (kd la) A n m 0 a e → Q (.ref x) H')
theorem i_l_object {K : PySem.W.Frag} {A dA r : Addr} {l v n : List Nat} {a : Nat} {e la : Bool} {H : Hp} {Q : VK} {E : XK} (hA : H A = some (alo K dA l v)) (hr : H r = some (.tup [.str (S n), .int (a : Int), .bl e])) (hn : ∃ m, nmOk l v n m) (h2 : a < 4) (q1 : ∀ x m H', stv l v n = some m → Kp [] H H' → H x = none → stgAt K H' x (kd la) A n m 0 a e → Q (.ref x) H') : sp_l_object K [.ref A, .ref r, .bl la] H Q E := by
  exact ⟨⟨A, dA, r, l, v, n, a, e, la, rfl, hA, hr, hn, h2, q1⟩⟩
theorem d_l_object {K : PySem.W.Frag} {vs : List V} {H : Hp} {Q : VK} {E : XK} (h : sp_l_object K vs H Q E) : sp_l_object K vs H Q E := h


def t_l_object (K : PySem.W.Frag) (W : WX) : TS :=
  (tSeq (tAsg (tV 1) (gTup K 3 (gCons (gName 3) (gCons (gName 4) (gCons (gName 5) gNil)))))
  (tSeq (tIfP (tAndP (tTru K (tV 2)) (tAndP (tTst (tOp (zEqP K) (tV 4) (tC (.int 0)))) (tNot (tTru K (tV 5))))) (tRet (tMak (He.ga K "LastDrop") (sp_LastDrop_init K) [.int 0, .bl false] W (tCons (tV 0) (tCons (tV 3) tNil)))) tNext)
  (tSeq (tIfP (tAndP (tTru K (tV 2)) (tTst (tOp (zEqP K) (tV 4) (tC (.int 0))))) (tRet (tMakK (He.ga K "LastDrop") (sp_LastDrop_init K) 2 1 (fun (vs zs : List V) => gkF [(true, 0), (false, 0)] vs ([.int 0] : List V) zs) W (tCons (tV 0) (tCons (tV 3) tNil)) (tCons (tC (.bl true)) tNil))) tNext)
  (tSeq (tIfP (tAndP (tTru K (tV 2)) (tNot (tTru K (tV 5)))) (tRet (tMakK (He.ga K "LastDrop") (sp_LastDrop_init K) 2 1 (fun (vs zs : List V) => gkF [(false, 0), (true, 0)] vs ([.bl false] : List V) zs) W (tCons (tV 0) (tCons (tV 3) tNil)) (tCons (tV 4) tNil))) tNext)
  (tSeq (tIfP (tTru K (tV 2)) (tRet (tMakK (He.ga K "LastDrop") (sp_LastDrop_init K) 2 2 (fun (vs zs : List V) => gkF [(false, 1), (false, 0)] vs ([] : List V) zs) W (tCons (tV 0) (tCons (tV 3) tNil)) (tCons (tC (.bl true)) (tCons (tV 4) tNil)))) tNext)
  (tSeq (tIfP (tAndP (tTst (tOp (zEqP K) (tV 4) (tC (.int 0)))) (tNot (tTru K (tV 5)))) (tRet (tMak (He.ga K "Drop") (sp_Drop_init K) [.int 0, .bl false] W (tCons (tV 0) (tCons (tV 3) tNil)))) tNext)
  (tSeq (tIfP (tTst (tOp (zEqP K) (tV 4) (tC (.int 0)))) (tRet (tMakK (He.ga K "Drop") (sp_Drop_init K) 2 1 (fun (vs zs : List V) => gkF [(true, 0), (false, 0)] vs ([.int 0] : List V) zs) W (tCons (tV 0) (tCons (tV 3) tNil)) (tCons (tC (.bl true)) tNil))) tNext)
  (tSeq (tIfP (tNot (tTru K (tV 5))) (tRet (tMakK (He.ga K "Drop") (sp_Drop_init K) 2 1 (fun (vs zs : List V) => gkF [(false, 0), (true, 0)] vs ([.bl false] : List V) zs) W (tCons (tV 0) (tCons (tV 3) tNil)) (tCons (tV 4) tNil))) tNext)
  (tRet (tMakK (He.ga K "Drop") (sp_Drop_init K) 2 2 (fun (vs zs : List V) => gkF [(false, 0), (false, 1)] vs ([] : List V) zs) W (tCons (tV 0) (tCons (tV 3) tNil)) (tCons (tV 4) (tCons (tC (.bl true)) tNil))))))))))))
theorem tm_l_object {P : Program} {w : World} {K : PySem.W.Frag} {mg : Str → Option Value} {base : Heap} {f : Addr} {cdv : Value} {A : Around} {outer : List Env} {s : Shared} {H : Hp} {E : XK} (T : Tx K mg) (GK_Drop_2_after : MkKw P w K mg base "Drop" (He.ga K "Drop") 2 ["after"] (fun (vs zs : List V) => gkF [(false, 0), (true, 0)] vs ([.bl false] : List V) zs) 13 (sp_Drop_init K)) (GK_Drop_2_after_each : MkKw P w K mg base "Drop" (He.ga K "Drop") 2 ["after", "each"] (fun (vs zs : List V) => gkF [(false, 0), (false, 1)] vs ([] : List V) zs) 13 (sp_Drop_init K)) (GK_Drop_2_each : MkKw P w K mg base "Drop" (He.ga K "Drop") 2 ["each"] (fun (vs zs : List V) => gkF [(true, 0), (false, 0)] vs ([.int 0] : List V) zs) 13 (sp_Drop_init K)) (GK_LastDrop_2_after : MkKw P w K mg base "LastDrop" (He.ga K "LastDrop") 2 ["after"] (fun (vs zs : List V) => gkF [(false, 0), (true, 0)] vs ([.bl false] : List V) zs) 15 (sp_LastDrop_init K)) (GK_LastDrop_2_each : MkKw P w K mg base "LastDrop" (He.ga K "LastDrop") 2 ["each"] (fun (vs zs : List V) => gkF [(true, 0), (false, 0)] vs ([.int 0] : List V) zs) 15 (sp_LastDrop_init K)) (GK_LastDrop_2_each_after : MkKw P w K mg base "LastDrop" (He.ga K "LastDrop") 2 ["each", "after"] (fun (vs zs : List V) => gkF [(false, 1), (false, 0)] vs ([] : List V) zs) 15 (sp_LastDrop_init K)) (G_Drop_2 : Mks P w K mg base "Drop" (He.ga K "Drop") 13 [.int 0, .bl false] (sp_Drop_init K)) (G_LastDrop_2 : Mks P w K mg base "LastDrop" (He.ga K "LastDrop") 15 [.int 0, .bl false] (sp_LastDrop_init K)) (hr : Room 16 (A.deeper (envOfC "_law_object" (defScope s_l_object) s.heap.objs.size f cdv))) :
    PSs (cxOf (L2M.CX K P w) P w K mg base ["_law_alpha", "_law_form_here", "_law_last", "_law_name_here", "_law_number", "_law_joined"] "_law_object" (defScope s_l_object) f cdv A outer s H E) (defBody s_l_object) (t_l_object K (WD E)) :=
  (pss_cons (ps_asg (Ta.pv 1) (pg_tup rfl (pgs_cons (pgn 3 sc_l_object.nd) (pgs_cons (pgn 4 sc_l_object.nd) (pgs_cons (pgn 5 sc_l_object.nd) pgs_nil)))))
  (pss_cons (psif (PW.pt (pwand (ptru (Ta.pv 2)) (pwand (ptcmp (opeq hr.units) (Ta.pv 4) pe_int) (pw_and1 (pt_not (ptru (Ta.pv 5))))))) (pss_one (ps_ret (pmak G_LastDrop_2 (hr.mono (by decide)) takesD (pa_cons (Ta.pv 0) (pa_cons (Ta.pv 3) pa_nil))))) pss_nil)
  (pss_cons (psif (PW.pt (pwand (ptru (Ta.pv 2)) (pw_and1 (ptcmp (opeq hr.units) (Ta.pv 4) pe_int)))) (pss_one (ps_ret (pmakK GK_LastDrop_2_each (hr.mono (by decide)) takesD (pa_cons (Ta.pv 0) (pa_cons (Ta.pv 3) pa_nil)) (pk_cons pe_bl pk_nil)))) pss_nil)
  (pss_cons (psif (PW.pt (pwand (ptru (Ta.pv 2)) (pw_and1 (pt_not (ptru (Ta.pv 5)))))) (pss_one (ps_ret (pmakK GK_LastDrop_2_after (hr.mono (by decide)) takesD (pa_cons (Ta.pv 0) (pa_cons (Ta.pv 3) pa_nil)) (pk_cons (Ta.pv 4) pk_nil)))) pss_nil)
  (pss_cons (psif (ptru (Ta.pv 2)) (pss_one (ps_ret (pmakK GK_LastDrop_2_each_after (hr.mono (by decide)) takesD (pa_cons (Ta.pv 0) (pa_cons (Ta.pv 3) pa_nil)) (pk_cons pe_bl (pk_cons (Ta.pv 4) pk_nil))))) pss_nil)
  (pss_cons (psif (PW.pt (pwand (ptcmp (opeq hr.units) (Ta.pv 4) pe_int) (pw_and1 (pt_not (ptru (Ta.pv 5)))))) (pss_one (ps_ret (pmak G_Drop_2 (hr.mono (by decide)) takesD (pa_cons (Ta.pv 0) (pa_cons (Ta.pv 3) pa_nil))))) pss_nil)
  (pss_cons (psif (ptcmp (opeq hr.units) (Ta.pv 4) pe_int) (pss_one (ps_ret (pmakK GK_Drop_2_each (hr.mono (by decide)) takesD (pa_cons (Ta.pv 0) (pa_cons (Ta.pv 3) pa_nil)) (pk_cons pe_bl pk_nil)))) pss_nil)
  (pss_cons (psif (pt_not (ptru (Ta.pv 5))) (pss_one (ps_ret (pmakK GK_Drop_2_after (hr.mono (by decide)) takesD (pa_cons (Ta.pv 0) (pa_cons (Ta.pv 3) pa_nil)) (pk_cons (Ta.pv 4) pk_nil)))) pss_nil)
  (pss_one (ps_ret (pmakK GK_Drop_2_after_each (hr.mono (by decide)) takesD (pa_cons (Ta.pv 0) (pa_cons (Ta.pv 3) pa_nil)) (pk_cons (Ta.pv 4) (pk_cons pe_bl pk_nil)))))))))))))
/-! Drop___str__ -/
theorem sc_Drop_str : FnScope ["self"] ["self"] (defScope s_Drop_str) := ⟨rfl, rfl, rfl, by decide +kernel, rfl, by decide +kernel, by decide +kernel⟩
structure sp_Drop_str (K : PySem.W.Frag) (vs : List V) (H : Hp) (Q : VK) (E : XK) : Prop where
  out : ∃ (x A : Addr) (n m : List Nat) (c a : Nat) (e : Bool), vs = [.ref x] ∧ (stgAt K H x 3 A n m c a e) ∧ (n.length < 60) ∧ (Q (.str (S (spl n a e))) H)
theorem i_Drop_str {K : PySem.W.Frag} {x A : Addr} {n m : List Nat} {c a : Nat} {e : Bool} {H : Hp} {Q : VK} {E : XK} (hx : stgAt K H x 3 A n m c a e) (h1 : n.length < 60) (q1 : Q (.str (S (spl n a e))) H) : sp_Drop_str K [.ref x] H Q E := by
  exact ⟨⟨x, A, n, m, c, a, e, rfl, hx, h1, q1⟩⟩
theorem d_Drop_str {K : PySem.W.Frag} {vs : List V} {H : Hp} {Q : VK} {E : XK} (h : sp_Drop_str K vs H Q E) : sp_Drop_str K vs H Q E := h


def t_Drop_str (K : PySem.W.Frag) (W : WX) : TS :=
  (tRet (tFv (tAt K (tV 0) "spelling")))
theorem tm_Drop_str {P : Program} {w : World} {K : PySem.W.Frag} {mg : Str → Option Value} {base : Heap} {f : Addr} {cdv : Value} {A : Around} {outer : List Env} {s : Shared} {H : Hp} {E : XK} (T : Tx K mg) (hr : Room 4 (A.deeper (envOfC "Drop.__str__" (defScope s_Drop_str) s.heap.objs.size f cdv))) :
    PSs (cxOf (L2M.CX K P w) P w K mg base ["self"] "Drop.__str__" (defScope s_Drop_str) f cdv A outer s H E) (defBody s_Drop_str) (t_Drop_str K (WD E)) :=
  (pss_one (ps_ret (pfstr1 (pfv (patt (Ta.pv 0))))))
/-! LastDrop___str__ -/
theorem sc_LastDrop_str : FnScope ["self"] ["self"] (defScope s_LastDrop_str) := ⟨rfl, rfl, rfl, by decide +kernel, rfl, by decide +kernel, by decide +kernel⟩
structure sp_LastDrop_str (K : PySem.W.Frag) (vs : List V) (H : Hp) (Q : VK) (E : XK) : Prop where
  out : ∃ (x A : Addr) (n m : List Nat) (c a : Nat) (e : Bool), vs = [.ref x] ∧ (stgAt K H x 4 A n m c a e) ∧ (n.length < 60) ∧ (Q (.str (S (spl n a e ++ [32, 98, 117, 116, 32, 108, 97, 115, 116]))) H)
theorem i_LastDrop_str {K : PySem.W.Frag} {x A : Addr} {n m : List Nat} {c a : Nat} {e : Bool} {H : Hp} {Q : VK} {E : XK} (hx : stgAt K H x 4 A n m c a e) (h1 : n.length < 60) (q1 : Q (.str (S (spl n a e ++ [32, 98, 117, 116, 32, 108, 97, 115, 116]))) H) : sp_LastDrop_str K [.ref x] H Q E := by
  exact ⟨⟨x, A, n, m, c, a, e, rfl, hx, h1, q1⟩⟩
theorem d_LastDrop_str {K : PySem.W.Frag} {vs : List V} {H : Hp} {Q : VK} {E : XK} (h : sp_LastDrop_str K vs H Q E) : sp_LastDrop_str K vs H Q E := h


def t_LastDrop_str (K : PySem.W.Frag) (W : WX) : TS :=
  (tRet (tFv (tAt K (tV 0) "spelling")))
theorem tm_LastDrop_str {P : Program} {w : World} {K : PySem.W.Frag} {mg : Str → Option Value} {base : Heap} {f : Addr} {cdv : Value} {A : Around} {outer : List Env} {s : Shared} {H : Hp} {E : XK} (T : Tx K mg) (hr : Room 4 (A.deeper (envOfC "LastDrop.__str__" (defScope s_LastDrop_str) s.heap.objs.size f cdv))) :
    PSs (cxOf (L2M.CX K P w) P w K mg base ["self"] "LastDrop.__str__" (defScope s_LastDrop_str) f cdv A outer s H E) (defBody s_LastDrop_str) (t_LastDrop_str K (WD E)) :=
  (pss_one (ps_ret (pfstr1 (pfv (patt (Ta.pv 0))))))
/-! _law_written -/
theorem sc_l_written : FnScope ["_law_form_here", "_law_last", "_law_words"] ["_law_form_here", "_law_last"] (defScope s_l_written) := ⟨rfl, rfl, rfl, by decide +kernel, rfl, by decide +kernel, by decide +kernel⟩
structure sp_l_written (K : PySem.W.Frag) (vs : List V) (H : Hp) (Q : VK) (E : XK) : Prop where
  out : ∃ (r : Addr) (n : List Nat) (a : Nat) (e la : Bool), vs = [.ref r, .bl la] ∧ (H r = some (.tup [.str (S n), .int (a : Int), .bl e])) ∧ (n.length < 60) ∧ (a < 4) ∧ (Q (.str (S (spl n a e ++ if la = true then wBut else []))) H)
theorem i_l_written {K : PySem.W.Frag} {r : Addr} {n : List Nat} {a : Nat} {e la : Bool} {H : Hp} {Q : VK} {E : XK} (hr : H r = some (.tup [.str (S n), .int (a : Int), .bl e])) (h1 : n.length < 60) (h2 : a < 4) (q1 : Q (.str (S (spl n a e ++ if la = true then wBut else []))) H) : sp_l_written K [.ref r, .bl la] H Q E := by
  exact ⟨⟨r, n, a, e, la, rfl, hr, h1, h2, q1⟩⟩
theorem d_l_written {K : PySem.W.Frag} {vs : List V} {H : Hp} {Q : VK} {E : XK} (h : sp_l_written K vs H Q E) : sp_l_written K vs H Q E := h


def t_l_written (K : PySem.W.Frag) (W : WX) : TS :=
  (tSeq (tAsg (tOp zAdd (tC (.str (S [100, 114, 111, 112, 32]))) (tOp (zIxP K) (tV 0) (tC (.int 0)))) (gName 2))
  (tSeq (tIfP (tTst (tOp zGt (tOp (zIxP K) (tV 0) (tC (.int 1))) (tC (.int 0)))) (tAsg (tOp zAdd (tOp zAdd (tV 2) (tC (.str (S [32, 97, 102, 116, 101, 114, 32])))) (tCB (zStr K) (tCons (tOp (zIxP K) (tV 0) (tC (.int 1))) tNil))) (gName 2)) tNext)
  (tSeq (tIfP (tTru K (tOp (zIxP K) (tV 0) (tC (.int 2)))) (tAsg (tOp zAdd (tV 2) (tC (.str (S [32, 101, 97, 99, 104])))) (gName 2)) tNext)
  (tSeq (tIfP (tTru K (tV 1)) (tAsg (tOp zAdd (tV 2) (tC (.str (S [32, 98, 117, 116, 32, 108, 97, 115, 116])))) (gName 2)) tNext)
  (tRet (tV 2))))))
theorem tm_l_written {P : Program} {w : World} {K : PySem.W.Frag} {mg : Str → Option Value} {base : Heap} {f : Addr} {cdv : Value} {A : Around} {outer : List Env} {s : Shared} {H : Hp} {E : XK} (T : Tx K mg) (hr : Room 4 (A.deeper (envOfC "_law_written" (defScope s_l_written) s.heap.objs.size f cdv))) :
    PSs (cxOf (L2M.CX K P w) P w K mg base ["_law_form_here", "_law_last", "_law_words"] "_law_written" (defScope s_l_written) f cdv A outer s H E) (defBody s_l_written) (t_l_written K (WD E)) :=
  (pss_cons (pset 2 sc_l_written.nd (pe_op opadd (pstr [100, 114, 111, 112, 32]) (pix (Ta.pv 0) pe_int)))
  (pss_cons (psif (ptcmp opgt (pix (Ta.pv 0) pe_int) pe_int) (pss_one (pset 2 sc_l_written.nd (pe_op opadd (pe_op opadd (Ta.pv 2) (pstr [32, 97, 102, 116, 101, 114, 32])) (pct (crstr) T.f_str (pa_cons (pix (Ta.pv 0) pe_int) pa_nil))))) pss_nil)
  (pss_cons (psif (ptru (pix (Ta.pv 0) pe_int)) (pss_one (pset 2 sc_l_written.nd (pe_op opadd (Ta.pv 2) (pstr [32, 101, 97, 99, 104])))) pss_nil)
  (pss_cons (psif (ptru (Ta.pv 1)) (pss_one (pset 2 sc_l_written.nd (pe_op opadd (Ta.pv 2) (pstr [32, 98, 117, 116, 32, 108, 97, 115, 116])))) pss_nil)
  (pss_one (ps_ret (Ta.pv 2)))))))
/-! Alphabet___eq__ -/
theorem sc_Alphabet_eq : FnScope ["self", "other"] ["self", "other"] (defScope s_Alphabet_eq) := ⟨rfl, rfl, rfl, by decide +kernel, rfl, by decide +kernel, by decide +kernel⟩
structure sp_Alphabet_eq (K : PySem.W.Frag) (vs : List V) (H : Hp) (Q : VK) (E : XK) : Prop where
  out : ∃ a b dx dy l v m u, vs = [.ref a, .ref b] ∧ H a = some (.ins (He.ga K "Alphabet") dx (alf l v)) ∧ H b = some (.ins (He.ga K "Alphabet") dy (alf m u)) ∧ Q (.bl (decide (srt l = srt m) && decide (srt v = srt u))) H
theorem i_Alphabet_eq {K : PySem.W.Frag} {a b dx dy : Addr} {l v m u : List Nat} {H : Hp} {Q : VK} {E : XK} (ha : H a = some (.ins (He.ga K "Alphabet") dx (alf l v))) (hb : H b = some (.ins (He.ga K "Alphabet") dy (alf m u))) (q : Q (.bl (decide (srt l = srt m) && decide (srt v = srt u))) H) : sp_Alphabet_eq K [.ref a, .ref b] H Q E := by
  exact ⟨⟨a, b, dx, dy, l, v, m, u, rfl, ha, hb, q⟩⟩
theorem i_Alphabet_eqS {K : PySem.W.Frag} {a dx : Addr} {l v : List Nat} {H : Hp} {Q : VK} {E : XK} (ha : H a = some (.ins (He.ga K "Alphabet") dx (alf l v))) (q : Q (.bl true) H) : sp_Alphabet_eq K [.ref a, .ref a] H Q E :=
  i_Alphabet_eq ha ha (by rw [decide_eq_true rfl, decide_eq_true rfl]; exact q)

def t_Alphabet_eq (K : PySem.W.Frag) (W : WX) : TS :=
  (tRet (tAndE K (tCB (zIsa K) (tCons (tV 1) (tCons (tC (.ref (He.ga K "Alphabet"))) tNil))) (tAndE K (tOp (zEqP K) (tAt K (tV 0) "letters") (tAt K (tV 1) "letters")) (tOp (zEqP K) (tAt K (tV 0) "vowels") (tAt K (tV 1) "vowels")))))
theorem tm_Alphabet_eq {P : Program} {w : World} {K : PySem.W.Frag} {mg : Str → Option Value} {base : Heap} {f : Addr} {cdv : Value} {A : Around} {outer : List Env} {s : Shared} {H : Hp} {E : XK} (T : Tx K mg) (hr : Room 4 (A.deeper (envOfC "Alphabet.__eq__" (defScope s_Alphabet_eq) s.heap.objs.size f cdv))) :
    PSs (cxOf (L2M.CX K P w) P w K mg base ["self", "other"] "Alphabet.__eq__" (defScope s_Alphabet_eq) f cdv A outer s H E) (defBody s_Alphabet_eq) (t_Alphabet_eq K (WD E)) :=
  (pss_one (ps_ret (peand (pcb (crisa) T.f_isinstance (pa_cons (Ta.pv 1) (pa_cons (pglo T.v_Alphabet) pa_nil))) (peand (pe_cmpR (opeq hr.units) (patt (Ta.pv 0)) (patt (Ta.pv 1)) rfl) (pe_one (pe_cmpR (opeq hr.units) (patt (Ta.pv 0)) (patt (Ta.pv 1)) rfl))))))
/-! _law_shown -/
theorem sc_l_shown : FnScope ["_law_stage", "_law_alpha", "_law_form_here", "_law_last", "_law_written_here"] ["_law_stage", "_law_alpha", "_law_form_here", "_law_last"] (defScope s_l_shown) := ⟨rfl, rfl, rfl, by decide +kernel, rfl, by decide +kernel, by decide +kernel⟩
structure sp_l_shown (K : PySem.W.Frag) (vs : List V) (H : Hp) (Q : VK) (E : XK) : Prop where
  out : ∃ (x A dA r : Addr) (l v n m : List Nat) (a : Nat) (e la : Bool), vs = [.ref x, .ref A, .ref r, .bl la] ∧ (stgAt K H x (kd la) A n m 0 a e) ∧ (H A = some (alo K dA l v)) ∧ (H r = some (.tup [.str (S n), .int (a : Int), .bl e])) ∧ (n.length < 60) ∧ (a < 4) ∧ (∀ H', Kp [] H H' → Q (.bl true) H')
theorem i_l_shown {K : PySem.W.Frag} {x A dA r : Addr} {l v n m : List Nat} {a : Nat} {e la : Bool} {H : Hp} {Q : VK} {E : XK} (hx : stgAt K H x (kd la) A n m 0 a e) (hA : H A = some (alo K dA l v)) (hr : H r = some (.tup [.str (S n), .int (a : Int), .bl e])) (h1 : n.length < 60) (h2 : a < 4) (q1 : ∀ H', Kp [] H H' → Q (.bl true) H') : sp_l_shown K [.ref x, .ref A, .ref r, .bl la] H Q E := by
  exact ⟨⟨x, A, dA, r, l, v, n, m, a, e, la, rfl, hx, hA, hr, h1, h2, q1⟩⟩
theorem d_l_shown {K : PySem.W.Frag} {vs : List V} {H : Hp} {Q : VK} {E : XK} (h : sp_l_shown K vs H Q E) : sp_l_shown K vs H Q E := h


def t_l_shown (K : PySem.W.Frag) (W : WX) : TS :=
  (tSeq (tIfP (tOrP (tNot (tTru K (tCB (zIsa K) (tCons (tV 0) (tCons (tC (.ref (He.ga K "Stage"))) tNil))))) (tOrP (tNot (tTru K (tCB (zIsa K) (tCons (tV 0) (tCons (tC (.ref (He.ga K "Drop"))) tNil))))) (tTst (tOp (zNeP K) (tCB (zIsa K) (tCons (tV 0) (tCons (tC (.ref (He.ga K "LastDrop"))) tNil))) (tV 3))))) (tRet (tC (.bl false))) tNext)
  (tSeq (tAsg (tCB (zStrM [(He.ga K "Drop", [], sp_Drop_str K), (He.ga K "LastDrop", [], sp_LastDrop_str K)]) (tCons (tV 0) tNil)) (gName 4))
  (tRet (tAndE K (tOp (zEqP K) (tV 4) (tCal (sp_l_written K) [] W (tCons (tV 2) (tCons (tV 3) tNil)))) (tOp (zOwn (He.ga K "Alphabet") (sp_Alphabet_eq K)) (tAt K (tV 0) "alphabet") (tV 1))))))
theorem tm_l_shown {P : Program} {w : World} {K : PySem.W.Frag} {mg : Str → Option Value} {base : Heap} {f : Addr} {cdv : Value} {A : Around} {outer : List Env} {s : Shared} {H : Hp} {E : XK} (T : Tx K mg) (G_Alphabet___eq__ : Me P w K mg base (He.ga K "Alphabet") "__eq__" 5 [] (sp_Alphabet_eq K)) (G_Drop___str__ : Me P w K mg base (He.ga K "Drop") "__str__" 5 [] (sp_Drop_str K)) (G_LastDrop___str__ : Me P w K mg base (He.ga K "LastDrop") "__str__" 5 [] (sp_LastDrop_str K)) (G_l_written : Fn P w K mg base "_law_written" 5 [] (sp_l_written K)) (hr : Room 7 (A.deeper (envOfC "_law_shown" (defScope s_l_shown) s.heap.objs.size f cdv))) :
    PSs (cxOf (L2M.CX K P w) P w K mg base ["_law_stage", "_law_alpha", "_law_form_here", "_law_last", "_law_written_here"] "_law_shown" (defScope s_l_shown) f cdv A outer s H E) (defBody s_l_shown) (t_l_shown K (WD E)) :=
  (pss_cons (psif (PW.pt (pwor (pt_not (ptru (pcb (crisa) T.f_isinstance (pa_cons (Ta.pv 0) (pa_cons (pglo T.v_Stage) pa_nil))))) (pwor (pt_not (ptru (pcb (crisa) T.f_isinstance (pa_cons (Ta.pv 0) (pa_cons (pglo T.v_Drop) pa_nil))))) (pw_or1 (ptcmp (opne hr.units) (pcb (crisa) T.f_isinstance (pa_cons (Ta.pv 0) (pa_cons (pglo T.v_LastDrop) pa_nil))) (Ta.pv 3)))))) (pss_one (ps_ret pe_bl)) pss_nil)
  (pss_cons (pset 4 sc_l_shown.nd (pct (crstrM (ms := [(He.ga K "Drop", [], sp_Drop_str K), (He.ga K "LastDrop", [], sp_LastDrop_str K)]) (fun e he => by simp only [List.mem_cons, List.not_mem_nil, or_false] at he; rcases he with rfl | rfl <;> first | exact G_Drop___str__ | exact G_LastDrop___str__) (hr.mono (by decide))) T.f_str (pa_cons (Ta.pv 0) pa_nil)))
  (pss_one (ps_ret (peand (pe_cmpR (opeq hr.units) (Ta.pv 4) (pcall G_l_written (hr.mono (by decide)) takesD (pa_cons (Ta.pv 2) (pa_cons (Ta.pv 3) pa_nil))) rfl) (pe_one (pe_cmpR (opown G_Alphabet___eq__ (hr.mono (by decide))) (patt (Ta.pv 0)) (Ta.pv 1) rfl)))))))
/-! _law_name -/
theorem sc_l_name : FnScope ["_law_box_here", "_law_signs", "_law_pick", "_law_picked", "_law_one"] ["_law_box_here", "_law_signs"] (defScope s_l_name) := ⟨rfl, rfl, rfl, by decide +kernel, rfl, by decide +kernel, by decide +kernel⟩
structure sp_l_name (K : PySem.W.Frag) (vs : List V) (H : Hp) (Q : VK) (E : XK) : Prop where
  out : ∃ (b : Addr) (l : List Nat), vs = [.ref b, .str (S (sg l))] ∧ (bx H b) ∧ (2 ≤ (sg l).length ∧ (sg l).length ≤ 5) ∧ ((sg l).Pairwise (· < ·)) ∧ (∀ n H', (∀ v, ∃ m, nmOk l v n m) → Kp [b] H H' → bx H' b → Q (.str (S n)) H')
theorem i_l_name {K : PySem.W.Frag} {b : Addr} {l : List Nat} {H : Hp} {Q : VK} {E : XK} (hb : bx H b) (hl : 2 ≤ (sg l).length ∧ (sg l).length ≤ 5) (hs : (sg l).Pairwise (· < ·)) (q1 : ∀ n H', (∀ v, ∃ m, nmOk l v n m) → Kp [b] H H' → bx H' b → Q (.str (S n)) H') : sp_l_name K [.ref b, .str (S (sg l))] H Q E := by
  exact ⟨⟨b, l, rfl, hb, hl, hs, q1⟩⟩
theorem d_l_name {K : PySem.W.Frag} {vs : List V} {H : Hp} {Q : VK} {E : XK} (h : sp_l_name K vs H Q E) : sp_l_name K vs H Q E := h


def b_l_name_1 (K : PySem.W.Frag) (W : WX) : TS :=
  (tIfP (tTst (tOp (zEqP K) (tCal (sp_l_take K) [] W (tCons (tV 0) (tCons (tC (.int 2)) tNil))) (tC (.int 1)))) (tAsg (tOp zAdd (tV 3) (tV 4)) (gName 3)) tNext)
def t_l_name (K : PySem.W.Frag) (W : WX) : TS :=
  (tSeq (tAsg (tCal (sp_l_take K) [] W (tCons (tV 0) (tCons (tC (.int 7)) tNil))) (gName 2))
  (tSeq (tIfP (tTst (tOp zLt (tV 2) (tC (.int 5)))) (tRet (tOp (zIxP K) (tLst (tCons (tC (.str (S [97, 108, 108]))) (tCons (tC (.str (S [108, 101, 116, 116, 101, 114, 115]))) (tCons (tC (.str (S [118, 111, 119, 101, 108, 115]))) (tCons (tC (.str (S [99, 111, 110, 115, 111, 110, 97, 110, 116, 115]))) (tCons (tC (.str (S [106, 111, 105, 110, 116, 115]))) tNil)))))) (tV 2))) tNext)
  (tSeq (tAsg (tC (.str (S []))) (gName 3))
  (tSeq (tForP (jA K (tV 1)) (gName 4) (b_l_name_1 K W))
  (tSeq (tIfP (tTst (tOp (zEqP K) (tV 3) (tC (.str (S []))))) (tAsg (tOp (zIxP K) (tV 1) (tCal (sp_l_take K) [] W (tCons (tV 0) (tCons (tCB (zLen K) (tCons (tV 1) tNil)) tNil)))) (gName 3)) tNext)
  (tRet (tOp zAdd (tOp zAdd (tC (.str (S [91]))) (tV 3)) (tC (.str (S [93]))))))))))
theorem tm_l_name {P : Program} {w : World} {K : PySem.W.Frag} {mg : Str → Option Value} {base : Heap} {f : Addr} {cdv : Value} {A : Around} {outer : List Env} {s : Shared} {H : Hp} {E : XK} (T : Tx K mg) (G_l_take : Fn P w K mg base "_law_take" 5 [] (sp_l_take K)) (hr : Room 6 (A.deeper (envOfC "_law_name" (defScope s_l_name) s.heap.objs.size f cdv))) :
    PSs (cxOf (L2M.CX K P w) P w K mg base ["_law_box_here", "_law_signs", "_law_pick", "_law_picked", "_law_one"] "_law_name" (defScope s_l_name) f cdv A outer s H E) (defBody s_l_name) (t_l_name K (WD E)) :=
  (pss_cons (pset 2 sc_l_name.nd (pcall G_l_take (hr.mono (by decide)) takesD (pa_cons (Ta.pv 0) (pa_cons pe_int pa_nil))))
  (pss_cons (psif (ptcmp oplt (Ta.pv 2) pe_int) (pss_one (ps_ret (pix (pe_lst (pa_cons (pstr [97, 108, 108]) (pa_cons (pstr [108, 101, 116, 116, 101, 114, 115]) (pa_cons (pstr [118, 111, 119, 101, 108, 115]) (pa_cons (pstr [99, 111, 110, 115, 111, 110, 97, 110, 116, 115]) (pa_cons (pstr [106, 111, 105, 110, 116, 115]) pa_nil)))))) (Ta.pv 2)))) pss_nil)
  (pss_cons (pset 3 sc_l_name.nd (pstr []))
  (pss_cons (psfor ownD rfl (pja (Ta.pv 1)) (pgn 4 sc_l_name.nd) (pss_one (psif (ptcmp (opeq hr.units) (pcall G_l_take (hr.mono (by decide)) takesD (pa_cons (Ta.pv 0) (pa_cons pe_int pa_nil))) pe_int) (pss_one (pset 3 sc_l_name.nd (pe_op opadd (Ta.pv 3) (Ta.pv 4)))) pss_nil)))
  (pss_cons (psif (ptcmp (opeq hr.units) (Ta.pv 3) (pstr [])) (pss_one (pset 3 sc_l_name.nd (pix (Ta.pv 1) (pcall G_l_take (hr.mono (by decide)) takesD (pa_cons (Ta.pv 0) (pa_cons (pcb (crlen) T.f_len (pa_cons (Ta.pv 1) pa_nil)) pa_nil)))))) pss_nil)
  (pss_one (ps_ret (pe_op opadd (pe_op opadd (pstr [91]) (Ta.pv 3)) (pstr [93])))))))))
/-! _law_form -/
theorem sc_l_form : FnScope ["_law_box_here", "_law_signs", "_law_name_here", "_law_number", "_law_joined"] ["_law_box_here", "_law_signs"] (defScope s_l_form) := ⟨rfl, rfl, rfl, by decide +kernel, rfl, by decide +kernel, by decide +kernel⟩
structure sp_l_form (K : PySem.W.Frag) (vs : List V) (H : Hp) (Q : VK) (E : XK) : Prop where
  out : ∃ (b : Addr) (l : List Nat), vs = [.ref b, .str (S (sg l))] ∧ (bx H b) ∧ (2 ≤ (sg l).length ∧ (sg l).length ≤ 5) ∧ ((sg l).Pairwise (· < ·)) ∧ (∀ n a e r H', (∀ v, ∃ m, nmOk l v n m) → a < 4 → Kp [b] H H' → bx H' b → H r = none → H' r = some (.tup [.str (S n), .int ((a : Nat) : Int), .bl e]) → Q (.ref r) H')
theorem i_l_form {K : PySem.W.Frag} {b : Addr} {l : List Nat} {H : Hp} {Q : VK} {E : XK} (hb : bx H b) (hl : 2 ≤ (sg l).length ∧ (sg l).length ≤ 5) (hs : (sg l).Pairwise (· < ·)) (q1 : ∀ n a e r H', (∀ v, ∃ m, nmOk l v n m) → a < 4 → Kp [b] H H' → bx H' b → H r = none → H' r = some (.tup [.str (S n), .int ((a : Nat) : Int), .bl e]) → Q (.ref r) H') : sp_l_form K [.ref b, .str (S (sg l))] H Q E := by
  exact ⟨⟨b, l, rfl, hb, hl, hs, q1⟩⟩
theorem d_l_form {K : PySem.W.Frag} {vs : List V} {H : Hp} {Q : VK} {E : XK} (h : sp_l_form K vs H Q E) : sp_l_form K vs H Q E := h


def t_l_form (K : PySem.W.Frag) (W : WX) : TS :=
  (tSeq (tAsg (tCal (sp_l_name K) [] W (tCons (tV 0) (tCons (tV 1) tNil))) (gName 2))
  (tSeq (tAsg (tCal (sp_l_take K) [] W (tCons (tV 0) (tCons (tC (.int 4)) tNil))) (gName 3))
  (tSeq (tAsg (tOp (zEqP K) (tCal (sp_l_take K) [] W (tCons (tV 0) (tCons (tC (.int 2)) tNil))) (tC (.int 1))) (gName 4))
  (tRet (tTup (tCons (tV 2) (tCons (tV 3) (tCons (tV 4) tNil))))))))
theorem tm_l_form {P : Program} {w : World} {K : PySem.W.Frag} {mg : Str → Option Value} {base : Heap} {f : Addr} {cdv : Value} {A : Around} {outer : List Env} {s : Shared} {H : Hp} {E : XK} (T : Tx K mg) (G_l_name : Fn P w K mg base "_law_name" 7 [] (sp_l_name K)) (G_l_take : Fn P w K mg base "_law_take" 5 [] (sp_l_take K)) (hr : Room 8 (A.deeper (envOfC "_law_form" (defScope s_l_form) s.heap.objs.size f cdv))) :
    PSs (cxOf (L2M.CX K P w) P w K mg base ["_law_box_here", "_law_signs", "_law_name_here", "_law_number", "_law_joined"] "_law_form" (defScope s_l_form) f cdv A outer s H E) (defBody s_l_form) (t_l_form K (WD E)) :=
  (pss_cons (pset 2 sc_l_form.nd (pcall G_l_name (hr.mono (by decide)) takesD (pa_cons (Ta.pv 0) (pa_cons (Ta.pv 1) pa_nil))))
  (pss_cons (pset 3 sc_l_form.nd (pcall G_l_take (hr.mono (by decide)) takesD (pa_cons (Ta.pv 0) (pa_cons pe_int pa_nil))))
  (pss_cons (pset 4 sc_l_form.nd (pe_cmpR (opeq hr.units) (pcall G_l_take (hr.mono (by decide)) takesD (pa_cons (Ta.pv 0) (pa_cons pe_int pa_nil))) pe_int rfl))
  (pss_one (ps_ret (pe_tup (pa_cons (Ta.pv 2) (pa_cons (Ta.pv 3) (pa_cons (Ta.pv 4) pa_nil)))))))))
/-! _law_world -/
theorem sc_l_world : FnScope ["_law_box_here", "_law_count", "_law_pool", "_law_letters", "_law_vowels", "_law_k", "_law_one"] ["_law_box_here", "_law_count"] (defScope s_l_world) := ⟨rfl, rfl, rfl, by decide +kernel, rfl, by decide +kernel, by decide +kernel⟩
structure sp_l_world (K : PySem.W.Frag) (vs : List V) (H : Hp) (Q : VK) (E : XK) : Prop where
  out : ∃ (b : Addr) (c : Nat), vs = [.ref b, .int (c : Int)] ∧ (bx H b) ∧ (1 ≤ c ∧ c ≤ 4) ∧ (∀ r p l v po H', good l v → (l ++ po).Perm AZ → Kp [b] H H' → bx H' b → H r = none → H p = none → p ≠ r → H' p = some (pol po) → H' r = some (.tup [.str (S l), .str (S v), .ref p]) → Q (.ref r) H')
theorem i_l_world {K : PySem.W.Frag} {b : Addr} {c : Nat} {u0 : Int} {H : Hp} {Q : VK} {E : XK} (e_u0 : u0 = (c : Int)) (hb : bx H b) (hc : 1 ≤ c ∧ c ≤ 4) (q1 : ∀ r p l v po H', good l v → (l ++ po).Perm AZ → Kp [b] H H' → bx H' b → H r = none → H p = none → p ≠ r → H' p = some (pol po) → H' r = some (.tup [.str (S l), .str (S v), .ref p]) → Q (.ref r) H') : sp_l_world K [.ref b, .int u0] H Q E := by
  subst e_u0; exact ⟨⟨b, c, rfl, hb, hc, q1⟩⟩
theorem d_l_world {K : PySem.W.Frag} {vs : List V} {H : Hp} {Q : VK} {E : XK} (h : sp_l_world K vs H Q E) : sp_l_world K vs H Q E := h


def b_l_world_1 (K : PySem.W.Frag) (W : WX) : TS :=
  (tSeq (tAsg (tLM zPopAtP (tV 2) (tCons (tCal (sp_l_take K) [] W (tCons (tV 0) (tCons (tCB (zLen K) (tCons (tV 2) tNil)) tNil))) tNil)) (gName 6))
  (tSeq (tAsg (tOp zAdd (tV 3) (tV 6)) (gName 3))
  (tIfP (tTst (tOp (zEqP K) (tCal (sp_l_take K) [] W (tCons (tV 0) (tCons (tC (.int 2)) tNil))) (tC (.int 1)))) (tAsg (tOp zAdd (tV 6) (tV 4)) (gName 4)) tNext)))
def t_l_world (K : PySem.W.Frag) (W : WX) : TS :=
  (tSeq (tAsg (tCB (zListX K) (tCons (tC (.str (S [97, 98, 99, 100, 101, 102, 103, 104, 105, 106, 107, 108, 109, 110, 111, 112, 113, 114, 115, 116, 117, 118, 119, 120, 121, 122]))) tNil)) (gName 2))
  (tSeq (tAsg (tC (.str (S []))) (gName 3))
  (tSeq (tAsg (tC (.str (S []))) (gName 4))
  (tSeq (tForP (jR1 (tCons (tOp zAdd (tC (.int 1)) (tCal (sp_l_take K) [] W (tCons (tV 0) (tCons (tV 1) tNil)))) tNil)) (gName 5) (b_l_world_1 K W))
  (tRet (tTup (tCons (tV 3) (tCons (tV 4) (tCons (tV 2) tNil)))))))))
theorem tm_l_world {P : Program} {w : World} {K : PySem.W.Frag} {mg : Str → Option Value} {base : Heap} {f : Addr} {cdv : Value} {A : Around} {outer : List Env} {s : Shared} {H : Hp} {E : XK} (T : Tx K mg) (G_l_take : Fn P w K mg base "_law_take" 5 [] (sp_l_take K)) (hr : Room 6 (A.deeper (envOfC "_law_world" (defScope s_l_world) s.heap.objs.size f cdv))) :
    PSs (cxOf (L2M.CX K P w) P w K mg base ["_law_box_here", "_law_count", "_law_pool", "_law_letters", "_law_vowels", "_law_k", "_law_one"] "_law_world" (defScope s_l_world) f cdv A outer s H E) (defBody s_l_world) (t_l_world K (WD E)) :=
  (pss_cons (pset 2 sc_l_world.nd (pct (crlistX rfl) T.f_list (pa_cons (pstr [97, 98, 99, 100, 101, 102, 103, 104, 105, 106, 107, 108, 109, 110, 111, 112, 113, 114, 115, 116, 117, 118, 119, 120, 121, 122]) pa_nil)))
  (pss_cons (pset 3 sc_l_world.nd (pstr []))
  (pss_cons (pset 4 sc_l_world.nd (pstr []))
  (pss_cons (psfor ownD rfl (pjr1 T.f_range (pa_cons (pe_op opadd pe_int (pcall G_l_take (hr.mono (by decide)) takesD (pa_cons (Ta.pv 0) (pa_cons (Ta.pv 1) pa_nil)))) pa_nil)) (pgn 5 sc_l_world.nd) (pss_cons (pset 6 sc_l_world.nd (plm PySem.F.slot_list_pop PySem.F.type_list_pop mtpopat (Ta.pv 2) (pa_cons (pcall G_l_take (hr.mono (by decide)) takesD (pa_cons (Ta.pv 0) (pa_cons (pcb (crlen) T.f_len (pa_cons (Ta.pv 2) pa_nil)) pa_nil))) pa_nil)))
  (pss_cons (pset 3 sc_l_world.nd (pe_op opadd (Ta.pv 3) (Ta.pv 6)))
  (pss_one (psif (ptcmp (opeq hr.units) (pcall G_l_take (hr.mono (by decide)) takesD (pa_cons (Ta.pv 0) (pa_cons pe_int pa_nil))) pe_int) (pss_one (pset 4 sc_l_world.nd (pe_op opadd (Ta.pv 6) (Ta.pv 4)))) pss_nil)))))
  (pss_one (ps_ret (pe_tup (pa_cons (Ta.pv 3) (pa_cons (Ta.pv 4) (pa_cons (Ta.pv 2) pa_nil))))))))))
/-! all_different -/
theorem sc_all_different : FnScope ["string"] ["string"] (defScope s_all_different) := ⟨rfl, rfl, rfl, by decide +kernel, rfl, by decide +kernel, by decide +kernel⟩
structure sp_all_different (K : PySem.W.Frag) (vs : List V) (H : Hp) (Q : VK) (E : XK) : Prop where
  out : ∃ (l : List Nat), vs = [.str (S l)] ∧ l.length < 4000 ∧ Q (.bl (dif l)) H
theorem i_all_different {K : PySem.W.Frag} {l : List Nat} {H : Hp} {Q : VK} {E : XK} (h : l.length < 4000) (q : Q (.bl (dif l)) H) : sp_all_different K [.str (S l)] H Q E := by
  exact ⟨⟨l, rfl, h, q⟩⟩

def t_all_different (K : PySem.W.Frag) (W : WX) : TS :=
  (tRet (tOp (zEqP K) (tLset (tV 0)) (tCB (zLen K) (tCons (tV 0) tNil))))
theorem tm_all_different {P : Program} {w : World} {K : PySem.W.Frag} {mg : Str → Option Value} {base : Heap} {f : Addr} {cdv : Value} {A : Around} {outer : List Env} {s : Shared} {H : Hp} {E : XK} (T : Tx K mg) (hr : Room 4 (A.deeper (envOfC "all_different" (defScope s_all_different) s.heap.objs.size f cdv))) :
    PSs (cxOf (L2M.CX K P w) P w K mg base ["string"] "all_different" (defScope s_all_different) f cdv A outer s H E) (defBody s_all_different) (t_all_different K (WD E)) :=
  (pss_one (ps_ret (pe_cmpR (opeq hr.units) (plset rfl T.f_len T.f_set (Ta.pv 0)) (pcb (crlen) T.f_len (pa_cons (Ta.pv 0) pa_nil)) rfl)))
/-! Alphabet___init__ -/
theorem sc_Alphabet_init : FnScope ["self", "letters", "vowels", "foreign", "sign"] ["self", "letters", "vowels"] (defScope s_Alphabet_init) := ⟨rfl, rfl, rfl, by decide +kernel, rfl, by decide +kernel, by decide +kernel⟩
structure sp_Alphabet_init (K : PySem.W.Frag) (vs : List V) (H : Hp) (Q : VK) (E : XK) : Prop where
  out : ∃ (a dx : Addr) (l v : List Nat), vs = [.ref a, .str (S l), .str (S v)] ∧ H a = some (.ins (He.ga K "Alphabet") dx []) ∧ l.length < 64 ∧ v.length < 64 ∧
  (badL l = true → ∀ H' d, Kp [] H H' → H' d = none → E (.ref (He.ga K "BadAlphabet")) (some d) (upd H' d (.xd [("part", .str (S tLet))]))) ∧
  (badL l = false → badV l v = true → ∀ H' d, Kp [] H H' → H' d = none → E (.ref (He.ga K "BadAlphabet")) (some d) (upd H' d (.xd [("part", .str (S tVow))]))) ∧
  (badL l = false → badV l v = false → ∀ H', Kp [a] H H' → H' a = some (.ins (He.ga K "Alphabet") dx (alf l v)) → Q .non H')
theorem i_Alphabet_init {K : PySem.W.Frag} {a dx : Addr} {l v : List Nat} {H : Hp} {Q : VK} {E : XK} (ha : H a = some (.ins (He.ga K "Alphabet") dx [])) (h1 : l.length < 64) (h2 : v.length < 64)
  (q1 : badL l = true → ∀ H' d, Kp [] H H' → H' d = none → E (.ref (He.ga K "BadAlphabet")) (some d) (upd H' d (.xd [("part", .str (S tLet))])))
  (q2 : badL l = false → badV l v = true → ∀ H' d, Kp [] H H' → H' d = none → E (.ref (He.ga K "BadAlphabet")) (some d) (upd H' d (.xd [("part", .str (S tVow))])))
  (q3 : badL l = false → badV l v = false → ∀ H', Kp [a] H H' → H' a = some (.ins (He.ga K "Alphabet") dx (alf l v)) → Q .non H') : sp_Alphabet_init K [.ref a, .str (S l), .str (S v)] H Q E := by
  exact ⟨⟨a, dx, l, v, rfl, ha, h1, h2, q1, q2, q3⟩⟩
/-- good letters and vowels -/
theorem g_Alphabet_init {K : PySem.W.Frag} {a dx : Addr} {l v : List Nat} {H : Hp} {Q : VK} {E : XK} (ha : H a = some (.ins (He.ga K "Alphabet") dx [])) (h1 : l.length < 64) (h2 : v.length < 64) (e1 : badL l = false) (e2 : badV l v = false)
  (q3 : ∀ H', Kp [a] H H' → H' a = some (.ins (He.ga K "Alphabet") dx (alf l v)) → Q .non H') : sp_Alphabet_init K [.ref a, .str (S l), .str (S v)] H Q E := by
  refine i_Alphabet_init ha h1 h2 (fun z => ?_) (fun _ z => ?_) fun _ _ => q3
  · rw [e1] at z; cases z
  · rw [e2] at z; cases z

def t_Alphabet_init (K : PySem.W.Frag) (W : WX) : TS :=
  (tSeq (tAsg (tLcP (jA K (tV 1)) (gName 4) (tTst (tOp (zNinP K) (tV 4) (tC (.str (S [97, 98, 99, 100, 101, 102, 103, 104, 105, 106, 107, 108, 109, 110, 111, 112, 113, 114, 115, 116, 117, 118, 119, 120, 121, 122]))))) (tV 4) [4]) (gName 3))
  (tSeq (tIfP (tOrP (tTru K (tV 3)) (tOrP (tNot (tTst (tChn zLe zLe (tC (.int 1)) (tCB (zLen K) (tCons (tV 1) tNil)) (tC (.int 4))))) (tNot (tTru K (tCal (sp_all_different K) [] W (tCons (tV 1) tNil)))))) (tRs (He.ga K "BadAlphabet") ["part"] W (tCons (tC (.str (S [108, 101, 116, 116, 101, 114, 115]))) tNil)) tNext)
  (tSeq (tIfP (tOrP (tTru K (tLcP (jA K (tV 2)) (gName 4) (tTst (tOp (zNinP K) (tV 4) (tV 1))) (tV 4) [4])) (tNot (tTru K (tCal (sp_all_different K) [] W (tCons (tV 2) tNil))))) (tRs (He.ga K "BadAlphabet") ["part"] W (tCons (tC (.str (S [118, 111, 119, 101, 108, 115]))) tNil)) tNext)
  (tSeq (sAt K (tV 0) (tSM (zJoin K) (tC (.str (S []))) (tCons (tCB (zSort1) (tCons (tV 1) tNil)) tNil)) "letters")
  (tSeq (sAt K (tV 0) (tSM (zJoin K) (tC (.str (S []))) (tCons (tCB (zSort1) (tCons (tV 2) tNil)) tNil)) "vowels")
  (tSeq (sAt K (tV 0) (tSM (zJoin K) (tC (.str (S []))) (tCons (tLcP (jA K (tCB (zSort1) (tCons (tV 1) tNil))) (gName 4) (tTst (tOp (zNinP K) (tV 4) (tV 2))) (tV 4) [4]) tNil)) "consonants")
  (sAt K (tV 0) (tOp zAdd (tC (.str (S [45]))) (tAt K (tV 0) "letters")) "signs")))))))
theorem tm_Alphabet_init {P : Program} {w : World} {K : PySem.W.Frag} {mg : Str → Option Value} {base : Heap} {f : Addr} {cdv : Value} {A : Around} {outer : List Env} {s : Shared} {H : Hp} {E : XK} (T : Tx K mg) (G_all_different : Fn P w K mg base "all_different" 5 [] (sp_all_different K)) (X_BadAlphabet : Ex P w K mg base "BadAlphabet" (He.ga K "BadAlphabet") ["part"]) (hr : Room 6 (A.deeper (envOfC "Alphabet.__init__" (defScope s_Alphabet_init) s.heap.objs.size f cdv))) :
    PSs (cxOf (L2M.CX K P w) P w K mg base ["self", "letters", "vowels", "foreign", "sign"] "Alphabet.__init__" (defScope s_Alphabet_init) f cdv A outer s H E) (defBody s_Alphabet_init) (t_Alphabet_init K (WD E)) :=
  (pss_cons (pslc (i := 3) [("sign", 4)] rfl sc_Alphabet_init.nd rfl rfl (sw_true rfl rfl rfl (by decide +kernel)) (pja (Ta.pv 1)) (by kernel_rfl) (fun _ _ _ _ _ => (pgn 4 sc_Alphabet_init.nd)) (fun _ _ _ _ _ => (pts_one (ptcmp opnin (Ta.pv 4) (pglo T.v_SMALL)))) (fun _ _ _ _ _ => (Ta.pv 4)))
  (pss_cons (psif (PW.pt (pwor (ptru (Ta.pv 3)) (pwor (pt_not (ptchn ople ople pe_int (pcb (crlen) T.f_len (pa_cons (Ta.pv 1) pa_nil)) (pclv T.cc_Alphabet_MOST))) (pw_or1 (pt_not (ptru (pcall G_all_different (hr.mono (by decide)) takesD (pa_cons (Ta.pv 1) pa_nil)))))))) (pss_one (praise X_BadAlphabet (hr.mono (by decide)) takesD (pa_cons (pstr [108, 101, 116, 116, 101, 114, 115]) pa_nil))) pss_nil)
  (pss_cons (psif (PW.pt (pwor (ptru (plc [("sign", 4)] rfl sc_Alphabet_init.nd (pja (Ta.pv 2)) (by kernel_rfl) (fun _ _ _ _ _ => (pgn 4 sc_Alphabet_init.nd)) (fun _ _ _ _ _ => (pts_one (ptcmp opnin (Ta.pv 4) (Ta.pv 1)))) (fun _ _ _ _ _ => (Ta.pv 4)))) (pw_or1 (pt_not (ptru (pcall G_all_different (hr.mono (by decide)) takesD (pa_cons (Ta.pv 2) pa_nil))))))) (pss_one (praise X_BadAlphabet (hr.mono (by decide)) takesD (pa_cons (pstr [118, 111, 119, 101, 108, 115]) pa_nil))) pss_nil)
  (pss_cons (psat (Ta.pv 0) (psm PySem.F.slot_str_join PySem.F.type_str_join mtjoin (pstr []) (pa_cons (pcb (crsort rfl) T.f_sorted (pa_cons (Ta.pv 1) pa_nil)) pa_nil)))
  (pss_cons (psat (Ta.pv 0) (psm PySem.F.slot_str_join PySem.F.type_str_join mtjoin (pstr []) (pa_cons (pcb (crsort rfl) T.f_sorted (pa_cons (Ta.pv 2) pa_nil)) pa_nil)))
  (pss_cons (psat (Ta.pv 0) (psm PySem.F.slot_str_join PySem.F.type_str_join mtjoin (pstr []) (pa_cons (plc [("sign", 4)] rfl sc_Alphabet_init.nd (pja (pcb (crsort rfl) T.f_sorted (pa_cons (Ta.pv 1) pa_nil))) (by kernel_rfl) (fun _ _ _ _ _ => (pgn 4 sc_Alphabet_init.nd)) (fun _ _ _ _ _ => (pts_one (ptcmp opnin (Ta.pv 4) (Ta.pv 2)))) (fun _ _ _ _ _ => (Ta.pv 4))) pa_nil)))
  (pss_one (psat (Ta.pv 0) (pe_op opadd (pclv T.cc_Alphabet_JOINT) (patt (Ta.pv 0)))))))))))
/-! law -/
theorem sc_law : FnScope ["_law_script", "_law_letters", "_law_vowels", "_law_pool", "_law_alpha", "_law_signs", "_law_forms", "_law_stages", "_law_k", "_law_box_here", "_law_texts", "_law_at", "_law_text_here", "_law_name_here", "_law_number", "_law_joined", "_law_due", "_law_stage", "_law_told", "_law_index", "_law_strange"] ["_law_script"] (defScope s_law) := ⟨rfl, rfl, rfl, by decide +kernel, rfl, by decide +kernel, by decide +kernel⟩
structure sp_law (K : PySem.W.Frag) (vs : List V) (H : Hp) (Q : VK) (E : XK) : Prop where
  out : ∃ (p : Addr) (ob : Obj) (ns : List Int), vs = [.ref p] ∧ (H p = some (.frz ob (.lst (ns.map V.int)))) ∧ (ns.length < 1000) ∧ (∀ H', Q (.bl true) H')
theorem i_law {K : PySem.W.Frag} {p : Addr} {ob : Obj} {ns : List Int} {H : Hp} {Q : VK} {E : XK} (hp : H p = some (.frz ob (.lst (ns.map V.int)))) (h1 : ns.length < 1000) (q : ∀ H', Q (.bl true) H') : sp_law K [.ref p] H Q E := by
  exact ⟨⟨p, ob, ns, rfl, hp, h1, q⟩⟩
theorem d_law {K : PySem.W.Frag} {vs : List V} {H : Hp} {Q : VK} {E : XK} (h : sp_law K vs H Q E) : sp_law K vs H Q E := h


def b_law_5 (K : PySem.W.Frag) (W : WX) : TS :=
  (tIfP (tNot (tTru K (tCal (sp_l_refuses_text K) [] W (tCons (tV 17) (tCons (tOp zAdd (tOp zAdd (tSl (zSlP K) (tV 12) tNoPart (tPrt (tV 19))) (tV 20)) (tSl (zSlP K) (tV 12) (tPrt (tV 19)) tNoPart)) tNil))))) (tRet (tC (.bl false))) tNext)
def b_law_4 (K : PySem.W.Frag) (W : WX) : TS :=
  (tSeq (tAsg (tOp (zIxP K) (tV 6) (tOp zDivW (tV 8) (tC (.int 2)))) (gTup K 3 (gCons (gName 13) (gCons (gName 14) (gCons (gName 15) gNil)))))
  (tSeq (tAsg (tCal (sp_l_drop K) [] W (tCons (tV 12) (tCons (tCal (sp_l_members K) [] W (tCons (tV 13) (tCons (tV 5) (tCons (tV 2) tNil)))) (tCons (tV 14) (tCons (tV 15) (tCons (tOp (zEqP K) (tOp zMod (tV 8) (tC (.int 2))) (tC (.int 1))) tNil)))))) (gName 16))
  (tSeq (tAsg (tOp (zIxP K) (tV 7) (tV 8)) (gName 17))
  (tSeq (tAsg (tObj [(He.ga K "Drop", [], sp_Drop_call K), (He.ga K "LastDrop", [], sp_LastDrop_call K)] W (tV 17) (tCons (tV 12) tNil)) (gName 18))
  (tIfP (tOrP (tNot (tTru K (tCB (zIsa K) (tCons (tV 18) (tCons (tC (.ty "str")) tNil))))) (tTst (tOp (zNeP K) (tV 18) (tV 16)))) (tRet (tC (.bl false))) tNext)))))
def b_law_3 (K : PySem.W.Frag) (W : WX) : TS :=
  (tForP (jA K (tLst (tCons (tC (.int 0)) (tCons (tC (.int 1)) (tCons (tC (.int 2)) (tCons (tC (.int 3)) (tCons (tC (.int 1)) (tCons (tC (.int 0)) tNil)))))))) (gName 8) (b_law_4 K W))
def b_law_2 (K : PySem.W.Frag) (W : WX) : TS :=
  (tDrop (tLM zAppP (tV 10) (tCons (tCal (sp_l_text K) [] W (tCons (tCal (sp_l_box K) [] W (tCons (tV 0) (tCons (tV 11) tNil))) (tCons (tV 5) tNil))) tNil)))
def b_law_1 (K : PySem.W.Frag) (W : WX) : TS :=
  (tIfP (tNot (tTru K (tCal (sp_l_shown K) [] W (tCons (tOp (zIxP K) (tV 7) (tV 8)) (tCons (tV 4) (tCons (tOp (zIxP K) (tV 6) (tOp zDivW (tV 8) (tC (.int 2)))) (tCons (tOp (zEqP K) (tOp zMod (tV 8) (tC (.int 2))) (tC (.int 1))) tNil))))))) (tRet (tC (.bl false))) tNext)
structure t_law_11 (K : PySem.W.Frag) (W : WX) (D : Ends) (σ : L2.St) (H : Hp) : Prop where
  out : (tSeq (tAsg (tOp (zIxP K) (tV 10) (tOp zSub (tCB (zLen K) (tCons (tV 10) tNil)) (tC (.int 1)))) (gName 12))
  (tSeq (tAsg (tCal (sp_l_take K) [] W (tCons (tV 9) (tCons (tOp zAdd (tCB (zLen K) (tCons (tV 12) tNil)) (tC (.int 1))) tNil))) (gName 19))
  (tSeq (tAsg (tOp (zIxP K) (tLst (tCons (tC (.str (S [65]))) (tCons (tC (.str (S [32]))) (tCons (tOp (zIxP K) (tV 3) (tCal (sp_l_take K) [] W (tCons (tV 9) (tCons (tCB (zLen K) (tCons (tV 3) tNil)) tNil)))) (tCons (tC (.str (S [95]))) (tCons (tC (.str (S [10]))) tNil)))))) (tCal (sp_l_take K) [] W (tCons (tV 9) (tCons (tC (.int 5)) tNil)))) (gName 20))
  (tSeq (tForP (jA K (tV 7)) (gName 17) (b_law_5 K W))
  (tRet (tC (.bl true))))))) D σ H
structure t_law_10 (K : PySem.W.Frag) (W : WX) (D : Ends) (σ : L2.St) (H : Hp) : Prop where
  out : (tSeq (tForP (jA K (tV 10)) (gName 12) (b_law_3 K W))
  (t_law_11 K W)) D σ H
structure t_law_8 (K : PySem.W.Frag) (W : WX) (D : Ends) (σ : L2.St) (H : Hp) : Prop where
  out : (tSeq (tAsg (tLst (tCons (tC (.str (S []))) tNil)) (gName 10))
  (tSeq (tForP (jR2 (tCons (tC (.int 4)) (tCons (tCB (zMin2) (tCons (tC (.int 63)) (tCons (tCB (zMax2) (tCons (tC (.int 5)) (tCons (tCB (zLen K) (tCons (tV 0) tNil)) tNil))) tNil))) tNil))) (gName 11) (b_law_2 K W))
  (t_law_10 K W))) D σ H
structure t_law_6 (K : PySem.W.Frag) (W : WX) (D : Ends) (σ : L2.St) (H : Hp) : Prop where
  out : (tSeq (tAsg (tCal (sp_l_box K) [] W (tCons (tV 0) (tCons (tC (.int 3)) tNil))) (gName 9))
  (tSeq (tIfP (tNot (tTru K (tCal (sp_l_refusals K) [] W (tCons (tV 9) (tCons (tV 4) (tCons (tV 5) (tCons (tV 3) (tCons (tOp (zIxP K) (tV 6) (tC (.int 0))) tNil)))))))) (tRet (tC (.bl false))) tNext)
  (t_law_8 K W))) D σ H
structure t_law_4 (K : PySem.W.Frag) (W : WX) (D : Ends) (σ : L2.St) (H : Hp) : Prop where
  out : (tSeq (tAsg (tLcP (jR1 (tCons (tC (.int 4)) tNil)) (gName 8) tYes (tCal (sp_l_object K) [] WF (tCons (tV 4) (tCons (tOp (zIxP K) (tV 6) (tOp zDivW (tV 8) (tC (.int 2)))) (tCons (tOp (zEqP K) (tOp zMod (tV 8) (tC (.int 2))) (tC (.int 1))) tNil)))) [8]) (gName 7))
  (tSeq (tForP (jR1 (tCons (tC (.int 4)) tNil)) (gName 8) (b_law_1 K W))
  (t_law_6 K W))) D σ H
structure t_law_2 (K : PySem.W.Frag) (W : WX) (D : Ends) (σ : L2.St) (H : Hp) : Prop where
  out : (tSeq (tAsg (tOp zAdd (tC (.str (S [45]))) (tSM (zJoin K) (tC (.str (S []))) (tCons (tCB (zSort2) (tCons (tCB (zListX K) (tCons (tV 1) tNil)) tNil)) tNil))) (gName 5))
  (tSeq (tAsg (tLst (tCons (tCal (sp_l_form K) [] W (tCons (tCal (sp_l_box K) [] W (tCons (tV 0) (tCons (tC (.int 1)) tNil))) (tCons (tV 5) tNil))) (tCons (tCal (sp_l_form K) [] W (tCons (tCal (sp_l_box K) [] W (tCons (tV 0) (tCons (tC (.int 2)) tNil))) (tCons (tV 5) tNil))) tNil))) (gName 6))
  (t_law_4 K W))) D σ H
def t_law (K : PySem.W.Frag) (W : WX) : TS :=
  (tSeq (tAsg (tCal (sp_l_world K) [] W (tCons (tCal (sp_l_box K) [] W (tCons (tV 0) (tCons (tC (.int 0)) tNil))) (tCons (tC (.int 4)) tNil))) (gTup K 3 (gCons (gName 1) (gCons (gName 2) (gCons (gName 3) gNil)))))
  (tSeq (tAsg (tMak (He.ga K "Alphabet") (sp_Alphabet_init K) [] W (tCons (tV 1) (tCons (tV 2) tNil))) (gName 4))
  (t_law_2 K W)))
theorem tm_law {P : Program} {w : World} {K : PySem.W.Frag} {mg : Str → Option Value} {base : Heap} {f : Addr} {cdv : Value} {A : Around} {outer : List Env} {s : Shared} {H : Hp} {E : XK} (T : Tx K mg) (G_Alphabet : Mks P w K mg base "Alphabet" (He.ga K "Alphabet") 7 [] (sp_Alphabet_init K)) (G_Drop___call__ : Me P w K mg base (He.ga K "Drop") "__call__" 15 [] (sp_Drop_call K)) (G_LastDrop___call__ : Me P w K mg base (He.ga K "LastDrop") "__call__" 15 [] (sp_LastDrop_call K)) (G_l_box : Fn P w K mg base "_law_box" 5 [] (sp_l_box K)) (G_l_drop : Fn P w K mg base "_law_drop" 5 [] (sp_l_drop K)) (G_l_form : Fn P w K mg base "_law_form" 9 [] (sp_l_form K)) (G_l_members : Fn P w K mg base "_law_members" 5 [] (sp_l_members K)) (G_l_object : Fn P w K mg base "_law_object" 17 [] (sp_l_object K)) (G_l_refusals : Fn P w K mg base "_law_refusals" 19 [] (sp_l_refusals K)) (G_l_refuses_text : Fn P w K mg base "_law_refuses_text" 17 [] (sp_l_refuses_text K)) (G_l_shown : Fn P w K mg base "_law_shown" 8 [] (sp_l_shown K)) (G_l_take : Fn P w K mg base "_law_take" 5 [] (sp_l_take K)) (G_l_text : Fn P w K mg base "_law_text" 7 [] (sp_l_text K)) (G_l_world : Fn P w K mg base "_law_world" 7 [] (sp_l_world K)) (hr : Room 20 (A.deeper (envOfC "law" (defScope s_law) s.heap.objs.size f cdv))) :
    PSs (cxOf (L2M.CX K P w) P w K mg base ["_law_script", "_law_letters", "_law_vowels", "_law_pool", "_law_alpha", "_law_signs", "_law_forms", "_law_stages", "_law_k", "_law_box_here", "_law_texts", "_law_at", "_law_text_here", "_law_name_here", "_law_number", "_law_joined", "_law_due", "_law_stage", "_law_told", "_law_index", "_law_strange"] "law" (defScope s_law) f cdv A outer s H E) (defBody s_law) (t_law K (WD E)) :=
  (pss_cons (ps_asg (pcall G_l_world (hr.mono (by decide)) takesD (pa_cons (pcall G_l_box (hr.mono (by decide)) takesD (pa_cons (Ta.pv 0) (pa_cons pe_int pa_nil))) (pa_cons pe_int pa_nil))) (pg_tup rfl (pgs_cons (pgn 1 sc_law.nd) (pgs_cons (pgn 2 sc_law.nd) (pgs_cons (pgn 3 sc_law.nd) pgs_nil)))))
  (pss_cons (pset 4 sc_law.nd (pmak G_Alphabet (hr.mono (by decide)) takesD (pa_cons (Ta.pv 1) (pa_cons (Ta.pv 2) pa_nil))))
  (pss_imp (pss_cons (pset 5 sc_law.nd (pe_op opadd (pstr [45]) (psm PySem.F.slot_str_join PySem.F.type_str_join mtjoin (pstr []) (pa_cons (pcb (crsort2 rfl) T.f_sorted (pa_cons (pct (crlistX rfl) T.f_list (pa_cons (Ta.pv 1) pa_nil)) pa_nil)) pa_nil))))
  (pss_cons (pset 6 sc_law.nd (pe_lst (pa_cons (pcall G_l_form (hr.mono (by decide)) takesD (pa_cons (pcall G_l_box (hr.mono (by decide)) takesD (pa_cons (Ta.pv 0) (pa_cons pe_int pa_nil))) (pa_cons (Ta.pv 5) pa_nil))) (pa_cons (pcall G_l_form (hr.mono (by decide)) takesD (pa_cons (pcall G_l_box (hr.mono (by decide)) takesD (pa_cons (Ta.pv 0) (pa_cons pe_int pa_nil))) (pa_cons (Ta.pv 5) pa_nil))) pa_nil))))
  (pss_imp (pss_cons (pslc (i := 7) [("_law_k", 8)] rfl sc_law.nd rfl rfl (sw_true rfl rfl rfl (by decide +kernel)) (pjr1 T.f_range (pa_cons pe_int pa_nil)) (by kernel_rfl) (fun _ _ _ _ _ => (pgn 8 sc_law.nd)) (fun _ _ _ _ _ => pts_nil) (fun _ _ _ _ _ => (pcall G_l_object (hr.mono (by decide)) L2M.takes0 (pa_cons (Ta.pv 4) (pa_cons (pix (Ta.pv 6) (pe_op opdivW (Ta.pv 8) pe_int)) (pa_cons (pe_cmpR (opeq hr.units) (pe_op opmod (Ta.pv 8) pe_int) pe_int rfl) pa_nil))))))
  (pss_cons (psfor ownD rfl (pjr1 T.f_range (pa_cons pe_int pa_nil)) (pgn 8 sc_law.nd) (pss_one (psif (pt_not (ptru (pcall G_l_shown (hr.mono (by decide)) takesD (pa_cons (pix (Ta.pv 7) (Ta.pv 8)) (pa_cons (Ta.pv 4) (pa_cons (pix (Ta.pv 6) (pe_op opdivW (Ta.pv 8) pe_int)) (pa_cons (pe_cmpR (opeq hr.units) (pe_op opmod (Ta.pv 8) pe_int) pe_int rfl) pa_nil))))))) (pss_one (ps_ret pe_bl)) pss_nil)))
  (pss_imp (pss_cons (pset 9 sc_law.nd (pcall G_l_box (hr.mono (by decide)) takesD (pa_cons (Ta.pv 0) (pa_cons pe_int pa_nil))))
  (pss_cons (psif (pt_not (ptru (pcall G_l_refusals (hr.mono (by decide)) takesD (pa_cons (Ta.pv 9) (pa_cons (Ta.pv 4) (pa_cons (Ta.pv 5) (pa_cons (Ta.pv 3) (pa_cons (pix (Ta.pv 6) pe_int) pa_nil)))))))) (pss_one (ps_ret pe_bl)) pss_nil)
  (pss_imp (pss_cons (pset 10 sc_law.nd (pe_lst (pa_cons (pstr []) pa_nil)))
  (pss_cons (psfor ownD rfl (pjr2 T.f_range (pa_cons pe_int (pa_cons (pcb (crmin rfl) T.f_min (pa_cons pe_int (pa_cons (pcb (crmax rfl) T.f_max (pa_cons pe_int (pa_cons (pcb (crlen) T.f_len (pa_cons (Ta.pv 0) pa_nil)) pa_nil))) pa_nil))) pa_nil))) (pgn 11 sc_law.nd) (pss_one (ps_expr (plm PySem.F.slot_list_append PySem.F.type_list_append mtapp (Ta.pv 10) (pa_cons (pcall G_l_text (hr.mono (by decide)) takesD (pa_cons (pcall G_l_box (hr.mono (by decide)) takesD (pa_cons (Ta.pv 0) (pa_cons (Ta.pv 11) pa_nil))) (pa_cons (Ta.pv 5) pa_nil))) pa_nil)))))
  (pss_imp (pss_cons (psfor ownD rfl (pja (Ta.pv 10)) (pgn 12 sc_law.nd) (pss_one (psfor ownD rfl (pja (pe_lst (pa_cons pe_int (pa_cons pe_int (pa_cons pe_int (pa_cons pe_int (pa_cons pe_int (pa_cons pe_int pa_nil)))))))) (pgn 8 sc_law.nd) (pss_cons (ps_asg (pix (Ta.pv 6) (pe_op opdivW (Ta.pv 8) pe_int)) (pg_tup rfl (pgs_cons (pgn 13 sc_law.nd) (pgs_cons (pgn 14 sc_law.nd) (pgs_cons (pgn 15 sc_law.nd) pgs_nil)))))
  (pss_cons (pset 16 sc_law.nd (pcall G_l_drop (hr.mono (by decide)) takesD (pa_cons (Ta.pv 12) (pa_cons (pcall G_l_members (hr.mono (by decide)) takesD (pa_cons (Ta.pv 13) (pa_cons (Ta.pv 5) (pa_cons (Ta.pv 2) pa_nil)))) (pa_cons (Ta.pv 14) (pa_cons (Ta.pv 15) (pa_cons (pe_cmpR (opeq hr.units) (pe_op opmod (Ta.pv 8) pe_int) pe_int rfl) pa_nil)))))))
  (pss_cons (pset 17 sc_law.nd (pix (Ta.pv 7) (Ta.pv 8)))
  (pss_cons (pset 18 sc_law.nd (pocall (ms := [(He.ga K "Drop", [], sp_Drop_call K), (He.ga K "LastDrop", [], sp_LastDrop_call K)]) (fun e he => by simp only [List.mem_cons, List.not_mem_nil, or_false] at he; rcases he with rfl | rfl <;> first | exact ⟨G_Drop___call__, T.fm_Drop___call__⟩ | exact ⟨G_LastDrop___call__, T.fm_LastDrop___call__⟩) (hr.mono (by decide)) takesD (Ta.pv 17) (pa_cons (Ta.pv 12) pa_nil)))
  (pss_one (psif (PW.pt (pwor (pt_not (ptru (pcb (crisa) T.f_isinstance (pa_cons (Ta.pv 18) (pa_cons (pbty T.f_str) pa_nil))))) (pw_or1 (ptcmp (opne hr.units) (Ta.pv 18) (Ta.pv 16))))) (pss_one (ps_ret pe_bl)) pss_nil)))))))))
  (pss_imp (pss_cons (pset 12 sc_law.nd (pix (Ta.pv 10) (pe_op opsub (pcb (crlen) T.f_len (pa_cons (Ta.pv 10) pa_nil)) pe_int)))
  (pss_cons (pset 19 sc_law.nd (pcall G_l_take (hr.mono (by decide)) takesD (pa_cons (Ta.pv 9) (pa_cons (pe_op opadd (pcb (crlen) T.f_len (pa_cons (Ta.pv 12) pa_nil)) pe_int) pa_nil))))
  (pss_cons (pset 20 sc_law.nd (pix (pe_lst (pa_cons (pstr [65]) (pa_cons (pstr [32]) (pa_cons (pix (Ta.pv 3) (pcall G_l_take (hr.mono (by decide)) takesD (pa_cons (Ta.pv 9) (pa_cons (pcb (crlen) T.f_len (pa_cons (Ta.pv 3) pa_nil)) pa_nil)))) (pa_cons (pstr [95]) (pa_cons (pstr [10]) pa_nil)))))) (pcall G_l_take (hr.mono (by decide)) takesD (pa_cons (Ta.pv 9) (pa_cons pe_int pa_nil)))))
  (pss_cons (psfor ownD rfl (pja (Ta.pv 7)) (pgn 17 sc_law.nd) (pss_one (psif (pt_not (ptru (pcall G_l_refuses_text (hr.mono (by decide)) takesD (pa_cons (Ta.pv 17) (pa_cons (pe_op opadd (pe_op opadd (psl (Ta.pv 12) po_none (posome (Ta.pv 19))) (Ta.pv 20)) (psl (Ta.pv 12) (posome (Ta.pv 19)) po_none)) pa_nil))))) (pss_one (ps_ret pe_bl)) pss_nil)))
  (pss_one (ps_ret pe_bl)))))) fun _ _ _ h => h.out)) fun _ _ _ h => h.out))) fun _ _ _ h => h.out))) fun _ _ _ h => h.out))) fun _ _ _ h => h.out))) fun _ _ _ h => h.out)))
end Lw

set_option Elab.async false
set_option linter.all false
set_option maxRecDepth 100000
set_option maxHeartbeats 4000000
namespace Lw
open PySem PySem.Spec PyProof.Rows L2 Ta
theorem nd_len {l m : List Nat} (hn : l.Nodup) (hs : ∀ c ∈ l, c ∈ m) : l.length ≤ m.length := by
  induction l generalizing m with
  | nil => exact Nat.zero_le _
  | cons a l ih =>
    obtain ⟨h1, h2⟩ := List.nodup_cons.mp hn
    have ha := hs a List.mem_cons_self
    have := ih (m := m.erase a) h2 fun c hc => (List.mem_erase_of_ne (fun e : c = a => h1 (by rw [← e]; exact hc))).mpr (hs c (List.mem_cons_of_mem _ hc))
    rw [List.length_erase_of_mem ha] at this
    have hp : 0 < m.length := List.length_pos_of_mem ha
    rw [List.length_cons]
    omega
theorem badL_inv {l : List Nat} (h : badL l = false) : 1 ≤ l.length ∧ l.length ≤ 4 ∧ l.Nodup ∧ ∀ c ∈ l, c ∈ AZ := by
  unfold badL at h
  simp only [Bool.or_eq_false_iff, Bool.not_eq_false', decide_eq_true_eq, List.any_eq_false] at h
  obtain ⟨⟨h1, h2⟩, h3⟩ := h
  refine ⟨h2.1, h2.2, (dif_nd l).mp h3, fun c hc => ?_⟩
  have z := h1 c hc
  exact Decidable.byContradiction fun hn => z (by rw [decide_eq_false hn]; rfl)
theorem badV_inv {l v : List Nat} (h : badV l v = false) : v.Nodup ∧ ∀ c ∈ v, c ∈ l := by
  unfold badV at h
  simp only [Bool.or_eq_false_iff, Bool.not_eq_false', List.any_eq_false] at h
  obtain ⟨h1, h3⟩ := h
  refine ⟨(dif_nd v).mp h3, fun c hc => ?_⟩
  have z := h1 c hc
  simpa using z
theorem good_v {l v : List Nat} (h : good l v) : v.length ≤ 4 := by
  have h1 := badL_inv h.1
  have h2 := badV_inv h.2
  have := nd_len h2.1 h2.2
  omega
theorem pick_sub {m r s : List Nat} (hp : (m ++ r).Perm s) (hn : s.Nodup) : m.Nodup ∧ ∀ c ∈ m, c ∈ s := by
  have h := hp.nodup_iff.mpr hn
  exact ⟨(List.nodup_append.mp h).1, fun c hc => hp.mem_iff.mp (List.mem_append_left _ hc)⟩
theorem pick_all {m r s : List Nat} (hp : (m ++ r).Perm s) (hl : m.length = s.length) : m.Perm s := by
  have e := hp.length_eq
  rw [List.length_append] at e
  have : r = [] := List.length_eq_zero_iff.mp (by omega)
  rw [this, List.append_nil] at hp
  exact hp
theorem good_perm {l v m u : List Nat} (h : good l v) (hm : m.Perm l) (hu : u.Perm v) : good m u := by
  obtain ⟨a1, a2, a3, a4⟩ := badL_inv h.1
  obtain ⟨b1, b2⟩ := badV_inv h.2
  have e := hm.length_eq
  exact ⟨badL_ok (by omega) (by omega) (hm.nodup_iff.mpr a3) fun c hc => a4 c (hm.mem_iff.mp hc), badV_ok (hu.nodup_iff.mpr b1) fun c hc => hm.mem_iff.mpr (b2 c (hu.mem_iff.mp hc))⟩
theorem good_sub {l u r : List Nat} (h : badL l = false) (hu : (u ++ r).Perm l) : good l u := by
  obtain ⟨a1, a2, a3, a4⟩ := badL_inv h
  obtain ⟨b1, b2⟩ := pick_sub hu a3
  exact ⟨h, badV_ok b1 b2⟩
theorem good_new {m r : List Nat} (h1 : 1 ≤ m.length) (h2 : m.length ≤ 4) (hm : (m ++ r).Perm AZ) : badL m = false := by
  obtain ⟨b1, b2⟩ := pick_sub hm (by decide)
  exact badL_ok h1 h2 b1 b2
abbrev oth (l : List Nat) : List Nat := AZ.filter fun c => !decide (c ∈ l)
theorem oth_mem {l : List Nat} {d : Nat} (h : d ∈ oth l) : d ∈ AZ ∧ ¬ d ∈ l := by
  have := List.mem_filter.mp h
  simpa using this
theorem flt_len (f : Nat → Bool) : ∀ s : List Nat, (s.filter f).length + (s.filter fun c => !f c).length = s.length
  | [] => rfl
  | a :: s => by
    have ih := flt_len f s
    rw [List.filter_cons, List.filter_cons]
    cases f a with
    | true => simp only [Bool.not_true, List.length_cons, if_true]; simp; omega
    | false => simp only [Bool.not_false, List.length_cons, if_true]; simp; omega
theorem oth_len {l : List Nat} (h : l.length ≤ 4) : 22 ≤ (oth l).length ∧ (oth l).length ≤ 26 := by
  have h1 : (AZ.filter fun c => decide (c ∈ l)).length ≤ l.length := nd_len (List.Pairwise.filter _ (by decide : AZ.Nodup)) fun c hc => by
    have := (List.mem_filter.mp hc).2
    simpa using this
  have h2 := flt_len (fun c => decide (c ∈ l)) AZ
  have h3 : AZ.length = 26 := rfl
  show 22 ≤ (AZ.filter fun c => !decide (c ∈ l)).length ∧ (AZ.filter fun c => !decide (c ∈ l)).length ≤ 26
  have h4 := List.length_filter_le (fun c => !decide (c ∈ l)) AZ
  omega
theorem good_rp {l v : List Nat} {c d : Nat} (h : good l v) (hc : c ∈ l) (hd : d ∈ oth l) : good (rp c d l) (rp c d v) := by
  obtain ⟨a1, a2, a3, a4⟩ := badL_inv h.1
  obtain ⟨b1, b2⟩ := badV_inv h.2
  obtain ⟨d1, d2⟩ := oth_mem hd
  have inj : ∀ s : List Nat, s.Nodup → (∀ x ∈ s, x ∈ l) → (rp c d s).Nodup := fun s => by
    induction s with
    | nil => exact fun _ _ => .nil
    | cons x s ih =>
      intro hn hs
      obtain ⟨n1, n2⟩ := List.nodup_cons.mp hn
      have hx := hs x List.mem_cons_self
      show ((if x = c then d else x) :: rp c d s).Nodup
      refine List.nodup_cons.mpr ⟨fun hm => ?_, ih n2 fun y hy => hs y (List.mem_cons_of_mem _ hy)⟩
      obtain ⟨y, hy, e⟩ := List.mem_map.mp hm
      have hyl := hs y (List.mem_cons_of_mem _ hy)
      by_cases e1 : x = c
      · rw [if_pos e1] at e
        by_cases e2 : y = c
        · exact n1 (by rw [e1, ← e2]; exact hy)
        · rw [if_neg e2] at e; exact d2 (e ▸ hyl)
      · rw [if_neg e1] at e
        by_cases e2 : y = c
        · rw [if_pos e2] at e; exact d2 (e ▸ hx)
        · rw [if_neg e2] at e; exact n1 (e ▸ hy)
  have len : (rp c d l).length = l.length := List.length_map _
  refine ⟨badL_ok (by omega) (by omega) (inj l a3 fun _ h => h) fun x hx => ?_, badV_ok (inj v b1 b2) fun x hx => ?_⟩
  · obtain ⟨y, hy, e⟩ := List.mem_map.mp hx
    rw [← e]
    split
    · exact d1
    · exact a4 y hy
  · obtain ⟨y, hy, e⟩ := List.mem_map.mp hx
    exact List.mem_map.mpr ⟨y, b2 y hy, e⟩
theorem good_cons {l v : List Nat} {d : Nat} (h : good l v) (hl : l.length < 4) (hd : d ∈ oth l) : good (d :: l) v := by
  obtain ⟨a1, a2, a3, a4⟩ := badL_inv h.1
  obtain ⟨b1, b2⟩ := badV_inv h.2
  obtain ⟨d1, d2⟩ := oth_mem hd
  refine ⟨badL_ok (by simp) (by simp; omega) (List.nodup_cons.mpr ⟨d2, a3⟩) fun x hx => ?_, badV_ok b1 fun x hx => List.mem_cons_of_mem _ (b2 x hx)⟩
  rcases List.mem_cons.mp hx with rfl | hx
  · exact d1
  · exact a4 x hx
theorem sg_len {l v : List Nat} (h : good l v) : 2 ≤ (sg l).length ∧ (sg l).length ≤ 5 := by
  obtain ⟨h1, h2, _⟩ := badL_inv h.1
  have h3 := srt_len l
  show 2 ≤ (srt l).length + 1 ∧ (srt l).length + 1 ≤ 5
  omega
theorem asc_iff {m sg : List Nat} : asc m sg = true ↔ (∀ c ∈ m, c ∈ sg) ∧ m.Pairwise (· < ·) := by
  unfold asc
  rw [Bool.and_eq_true, decide_eq_true_eq, pw_srt, List.all_eq_true]
  simp only [decide_eq_true_eq]
theorem mid_br {u : List Nat} : mid (91 :: (u ++ [93])) = u := by
  show ((91 :: (u ++ [93])).take ((91 :: (u ++ [93])).length - 1)).drop 1 = u
  rw [List.length_cons, List.length_append]
  show ((91 :: (u ++ [93])).take (u.length + 1 + 1 - 1)).drop 1 = u
  rw [show u.length + 1 + 1 - 1 = u.length + 1 by omega, List.take_succ_cons, List.drop_succ_cons, List.drop_zero, List.take_left]
theorem sg_hd {l : List Nat} {c : Nat} (h : c ∈ srt l) : c ∈ sg l := List.mem_cons_of_mem _ h
theorem sg_az {l v : List Nat} (h : good l v) {c : Nat} (hc : c ∈ sg l) : c = 45 ∨ c ∈ AZ := by
  rcases List.mem_cons.mp hc with rfl | hc
  · exact .inl rfl
  · exact .inr ((badL_inv h.1).2.2.2 c ((srt_perm l).mem_iff.mp hc))
theorem sg_no {l v : List Nat} (h : good l v) {c : Nat} (h1 : c ≠ 45) (h2 : ¬ c ∈ AZ) : ¬ c ∈ sg l := fun z => (sg_az h z).elim h1 h2
theorem po_no {l v po : List Nat} (h : good l v) (q : (l ++ po).Perm AZ) {c : Nat} (hc : c ∈ po) : ¬ c ∈ sg l := fun z => by
  have nd := q.nodup_iff.mpr (by decide : AZ.Nodup)
  rcases List.mem_cons.mp z with e | z
  · have := q.mem_iff.mp (List.mem_append_right _ hc)
    rw [e] at this
    revert this; decide
  · exact (List.nodup_append.mp nd).2.2 _ ((srt_perm l).mem_iff.mp z) _ hc rfl
theorem isS_1 {g : List Nat} {c : Nat} (h : ¬ c ∈ g) : isS g [c] = false := decide_eq_false h
theorem asc_m {m g : List Nat} {c : Nat} (hc : c ∈ m) (h : ¬ c ∈ g) : asc m g = false := Bool.eq_false_iff.mpr fun z => h ((asc_iff.mp z).1 c hc)
theorem asc_2 {g : List Nat} {a b : Nat} (h : b ≤ a) : asc [a, b] g = false := Bool.eq_false_iff.mpr fun z => by
  have := (List.pairwise_cons.mp (asc_iff.mp z).2).1 b List.mem_cons_self
  omega
theorem lsv_n {l n : List Nat} (h : asc (mid n) (sg l) = false) : lsv l n = none := by
  unfold lsv
  split
  · rfl
  · rw [if_neg (by rw [h]; decide)]
theorem stv_n {l v n : List Nat} (h : ¬ n = nAll ∧ ¬ n = nLet ∧ ¬ n = nVow ∧ ¬ n = nCon ∧ ¬ n = nJoi) (h2 : lsv l n = none) : stv l v n = none := by
  unfold stv
  rw [if_neg h.1, if_neg h.2.1, if_neg h.2.2.1, if_neg h.2.2.2.1, if_neg h.2.2.2.2, h2]
/-- a name that is no set -/
structure nobad (l v n : List Nat) : Prop where
  n1 : n.length < 60
  st : stv l v n = none
theorem nobad_s {l v n : List Nat} (h1 : n.length < 60) (h : ¬ n = nAll ∧ ¬ n = nLet ∧ ¬ n = nVow ∧ ¬ n = nCon ∧ ¬ n = nJoi) (h2 : n.length < 3 ∨ ¬ n[0]? = some 91 ∨ ¬ n[n.length - 1]? = some 93) : nobad l v n := ⟨h1, stv_n h (by unfold lsv; rw [if_pos h2])⟩
theorem nobad_m {l v u : List Nat} (h1 : u.length < 50) (h2 : asc u (sg l) = false) : nobad l v (91 :: (u ++ [93])) := by
  refine ⟨by rw [List.length_cons, List.length_append]; show u.length + 1 + 1 < 60; omega, stv_n ⟨?_, ?_, ?_, ?_, ?_⟩ (lsv_n (by rw [mid_br]; exact h2))⟩ <;> (intro z; cases z)
theorem bad_all {l v po : List Nat} (h : good l v) (q : (l ++ po).Perm AZ) {c d : Nat} (hc : c ∈ sg l) (hd : d ∈ po) : ∀ x ∈ ([.str (S []), .str (S [91, 93]), .str (S [91, 97, 97, 93]), .str (S [91, 97, 45, 93]), .str (S [118, 111, 119, 101, 108]), .str (S [65, 108, 108]), .str (S [97, 108, 108, 32]), .str (S [91, 97]), .str (S [97, 93]), .str (S [106, 111, 105, 110, 116]), .str (S [45]), .str (S [91, 65, 93]), .str (S [91, 45, 45, 93]), .str (S [91, 32, 93]), .str (S [32, 97, 108, 108]), .str (S [91, 45]), .str (S ([91] ++ [c] ++ [45, 93])), .str (S ([91] ++ [d] ++ [93]))] : List V), ∃ n, x = .str (S n) ∧ nobad l v n := by
  have hl := (badL_inv h.1)
  have hc2 : 45 ≤ c := by
    rcases sg_az h hc with e | e
    · omega
    · revert e; unfold AZ; simp only [List.mem_cons, List.not_mem_nil, or_false]; omega
  intro x hx
  simp only [List.mem_cons, List.not_mem_nil, or_false] at hx
  rcases hx with rfl | rfl | rfl | rfl | rfl | rfl | rfl | rfl | rfl | rfl | rfl | rfl | rfl | rfl | rfl | rfl | rfl | rfl
  · exact ⟨_, rfl, nobad_s (by decide) (by decide) (by decide)⟩
  · exact ⟨_, rfl, nobad_s (by decide) (by decide) (by decide)⟩
  · exact ⟨_, rfl, nobad_m (u := [97, 97]) (by decide) (asc_2 (by decide))⟩
  · exact ⟨_, rfl, nobad_m (u := [97, 45]) (by decide) (asc_2 (by decide))⟩
  · exact ⟨_, rfl, nobad_s (by decide) (by decide) (by decide)⟩
  · exact ⟨_, rfl, nobad_s (by decide) (by decide) (by decide)⟩
  · exact ⟨_, rfl, nobad_s (by decide) (by decide) (by decide)⟩
  · exact ⟨_, rfl, nobad_s (by decide) (by decide) (by decide)⟩
  · exact ⟨_, rfl, nobad_s (by decide) (by decide) (by decide)⟩
  · exact ⟨_, rfl, nobad_s (by decide) (by decide) (by decide)⟩
  · exact ⟨_, rfl, nobad_s (by decide) (by decide) (by decide)⟩
  · exact ⟨_, rfl, nobad_m (u := [65]) (by decide) (asc_m List.mem_cons_self (sg_no h (by decide) (by decide)))⟩
  · exact ⟨_, rfl, nobad_m (u := [45, 45]) (by decide) (asc_2 (by decide))⟩
  · exact ⟨_, rfl, nobad_m (u := [32]) (by decide) (asc_m List.mem_cons_self (sg_no h (by decide) (by decide)))⟩
  · exact ⟨_, rfl, nobad_s (by decide) (by decide) (by decide)⟩
  · exact ⟨_, rfl, nobad_s (by decide) (by decide) (by decide)⟩
  · exact ⟨_, rfl, nobad_m (u := [c, 45]) (by show 2 < 50; decide) (asc_2 hc2)⟩
  · exact ⟨_, rfl, nobad_m (u := [d]) (by show 1 < 50; decide) (asc_m List.mem_cons_self (po_no h q hd))⟩
theorem str_all {l v po : List Nat} (h : good l v) (q : (l ++ po).Perm AZ) {c1 c2 c3 d : Nat} {y : V} (hy : y = .str (S [d])) (hd : d ∈ po) : ∀ x ∈ ([.str (S []), .str (S [45, 45]), .str (S [65]), .str (S [32]), .str (S [97, 108, 108]), .str (S [91, 45, 93]), .str (S [95]), .str (S ([c1] ++ [c2])), .str (S ([45] ++ [c3])), y] : List V), ∃ n, x = .str (S n) ∧ n.length < 1000 ∧ isS (sg l) n = false := by
  subst hy
  intro x hx
  simp only [List.mem_cons, List.not_mem_nil, or_false] at hx
  rcases hx with rfl | rfl | rfl | rfl | rfl | rfl | rfl | rfl | rfl | rfl
  · exact ⟨_, rfl, by decide, rfl⟩
  · exact ⟨_, rfl, by decide, rfl⟩
  · exact ⟨_, rfl, by decide, isS_1 (sg_no h (by decide) (by decide))⟩
  · exact ⟨_, rfl, by decide, isS_1 (sg_no h (by decide) (by decide))⟩
  · exact ⟨_, rfl, by decide, rfl⟩
  · exact ⟨_, rfl, by decide, rfl⟩
  · exact ⟨_, rfl, by decide, isS_1 (sg_no h (by decide) (by decide))⟩
  · exact ⟨_, rfl, by show 2 < 1000; decide, rfl⟩
  · exact ⟨_, rfl, by show 2 < 1000; decide, rfl⟩
  · exact ⟨_, rfl, by show 1 < 1000; decide, isS_1 (po_no h q hd)⟩
theorem bx.ne {H : Hp} {b p : Addr} {o : HO} (h : bx H b) (hp : H p = some o) (n : ∀ (a n m : Int) (f : Bool), o ≠ .lst [.int a, .bl f, .int n, .int m]) : p ≠ b := by
  obtain ⟨a, n', m, f, h1⟩ := h.out
  exact ne_ho hp h1 (n a n' m f)
theorem bx.nl {H : Hp} {b p : Addr} {po : List Nat} (h : bx H b) (hp : H p = some (pol po)) : p ≠ b := h.ne hp fun a n m f e => by
  rcases po with _ | ⟨c, po⟩
  · cases e
  · injection e with e
    injection e with e1 e2
    cases e1
theorem eq_bs {K : PySem.W.Frag} {H : Hp} {p r : Addr} {b : Bool} {u : List Nat} {k : Bool → Prop} (h1 : H p = some (.tup [.bl b, .str (S u)])) (h2 : H r = some (.tup [.bl b, .str (S u)])) (h : ∀ c ∈ u, c < 128) (q : k true) : dpq K (.ref p) (.ref r) H k := by
  refine eq_tup (ds := [.bool b, .str (S u)]) h1 h2 ?_ q
  show (flt (.bl b)).bind _ = _
  show (flts [.str (S u)]).map _ = _
  show (((flt (.str (S u))).bind _)).map _ = _
  rw [flt_s h]
  rfl
theorem lcp_refs {te : TE} {σ : L2.St} {H1 : Hp} {Q : VK} {vs : List Nat} {i m : Nat} (P : Nat → Hp → Addr → Prop) (hk : ∀ j H H' x, P j H x → Kp [] H H' → P j H' x) (ho : ∀ j H x D ys o, P j H x → H D = some (.lst ys) → P j (upd H D o) x) (hm : m < 1000000) (hw : ∀ v, wipe ((wipe σ vs).set i v) vs = wipe σ vs)
    (he : ∀ j H' Q', j < m → Kp [] H1 H' → (∀ x H2, Kp [] H' H2 → P j H2 x → Q' (.ref x) H2) → te ((wipe σ vs).set i (some (.int (0 + (j : Int))))) H' Q')
    (q : ∀ (D : Addr) (ps : List Addr) (H' : Hp), H1 D = none → Kp [] H1 H' → H' D = some (.lst (ps.map V.ref)) → ps.length = m → (∀ (i : Nat) (hi : i < ps.length), P i H' ps[i]) → Q (.ref D) H') : lcp m (itR 0) (fun _ => True) (gName i) tYes te vs σ H1 Q := by
  refine lcp_i (fun D k H' => ∃ ps : List Addr, Kp [] H1 H' ∧ H' D = some (.lst (ps.map V.ref)) ∧ ps.length = k ∧ ∀ (i : Nat) (hi : i < ps.length), P i H' ps[i]) ?_ (fun _ _ _ _ _ _ => trivial) ?_ ?_
  · exact fun D hD => ⟨[], Kp.rfl'.new hD, upd_at, rfl, fun i hi => absurd hi (by simp)⟩
  · rintro D j x H' H'' hD hj ⟨ps, k1, d1, l1, pp⟩ ⟨rfl, rfl⟩
    refine ⟨hw _, ?_⟩
    unfold tYes; dsimp only
    rw [if_pos rfl]
    refine he _ _ _ hj k1 fun x H2 k2 hx => ?_
    have d2 := k2.get0 d1
    refine ⟨ps.map V.ref, d2, by rw [List.length_map, sizeLine_eq]; omega, ps ++ [x], (k1.trans k2).own hD, by rw [List.map_append]; exact upd_at, by rw [List.length_append, l1]; rfl, fun i hi => ?_⟩
    by_cases hil : i < ps.length
    · rw [List.getElem_append_left hil]
      exact ho _ _ _ _ _ _ (hk _ _ _ _ (pp i hil) k2) d2
    · have : i = ps.length := by rw [List.length_append, List.length_singleton] at hi; omega
      subst this
      rw [List.getElem_append_right (Nat.le_refl _)]
      simp only [Nat.sub_self, List.getElem_cons_zero]
      rw [l1]
      exact ho _ _ _ _ _ _ hx d2
  · rintro D H' hD ⟨ps, k1, d1, l1, pp⟩
    exact q D ps H' hD k1 d1 l1 pp
def alt {α : Type} (a b : α) (i : Nat) : α := if i % 2 = 0 then a else b
theorem alt_0 {α : Type} {a b : α} {i : Nat} (h : i % 2 = 0) : alt a b i = a := if_pos h
theorem alt_1 {α : Type} {a b : α} {i : Nat} (h : ¬ i % 2 = 0) : alt a b i = b := if_neg h
theorem sg_pw {l v : List Nat} (h : good l v) : (sg l).Pairwise (· < ·) := by
  have hl := badL_inv h.1
  refine List.pairwise_cons.mpr ⟨fun c hc => ?_, srt_lt hl.2.2.1⟩
  have := hl.2.2.2 c ((srt_perm l).mem_iff.mp hc)
  revert this
  unfold AZ
  simp only [List.mem_cons, List.not_mem_nil, or_false]
  omega
theorem dr_len {m : List Nat} {a : Nat} {e : Bool} {i x : Nat} : (dr m a e i x).2.length ≤ 1 := by
  unfold dr
  split
  · exact Nat.le_refl _
  · split
    · exact Nat.le_refl _
    · dsimp only; split
      · exact Nat.zero_le _
      · exact Nat.le_refl _
theorem adv_len {k : Nat} {m : List Nat} {c a : Nat} {e : Bool} {s : St2} {x : Nat} (h : s.2.length ≤ 1) : (adv k m c a e s x).2.length ≤ 2 ∧ (adv k m c a e s x).1.2.length ≤ 1 := by
  have hd := dr_len (m := m) (a := a) (e := e) (i := s.1) (x := x)
  unfold adv
  split
  · dsimp only; split <;> exact ⟨by show 1 ≤ 2; omega, Nat.zero_le _⟩
  · dsimp only; split
    · exact ⟨Nat.zero_le _, Nat.le_refl _⟩
    · exact ⟨by show 1 ≤ 2; omega, Nat.le_refl _⟩
  · exact ⟨by show (dr m a e s.1 x).2.length ≤ 2; omega, Nat.zero_le _⟩
  · split
    · exact ⟨by show (s.2 ++ (dr m a e s.1 x).2).length ≤ 2; rw [List.length_append]; omega, Nat.zero_le _⟩
    · split
      · exact ⟨Nat.zero_le _, Nat.le_refl _⟩
      · exact ⟨by show (dr m a e s.1 x).2.length ≤ 2; omega, Nat.zero_le _⟩
  · exact ⟨by show 1 ≤ 2; omega, Nat.zero_le _⟩
theorem hnd_snoc {k : Nat} {m : List Nat} {c a : Nat} {e : Bool} {x : Nat} : ∀ {t : List Nat} {s : St2}, hnd k m c a e s (t ++ [x]) = ((adv k m c a e (hnd k m c a e s t).1 x).1, (hnd k m c a e s t).2 ++ (adv k m c a e (hnd k m c a e s t).1 x).2)
  | [], s => by show ((adv k m c a e s x).1, (adv k m c a e s x).2 ++ []) = _; rw [List.append_nil]; rfl
  | b :: t, s => by
    have h := hnd_snoc (k := k) (m := m) (c := c) (a := a) (e := e) (x := x) (t := t) (s := (adv k m c a e s b).1)
    show ((hnd k m c a e (adv k m c a e s b).1 (t ++ [x])).1, (adv k m c a e s b).2 ++ (hnd k m c a e (adv k m c a e s b).1 (t ++ [x])).2) = _
    rw [h]
    show (_, (adv k m c a e s b).2 ++ (_ ++ _)) = (_, ((adv k m c a e s b).2 ++ _) ++ _)
    rw [List.append_assoc]
    rfl
theorem hnd_len {k : Nat} {m : List Nat} {c a : Nat} {e : Bool} : ∀ {t : List Nat} {s : St2}, s.2.length ≤ 1 → (hnd k m c a e s t).2.length ≤ 2 * t.length ∧ (hnd k m c a e s t).1.2.length ≤ 1
  | [], s, h => ⟨Nat.zero_le _, h⟩
  | b :: t, s, h => by
    have h2 := adv_len (k := k) (m := m) (c := c) (a := a) (e := e) (x := b) h
    have h3 := hnd_len (k := k) (m := m) (c := c) (a := a) (e := e) (t := t) (s := (adv k m c a e s b).1) h2.2
    refine ⟨?_, h3.2⟩
    show ((adv k m c a e s b).2 ++ (hnd k m c a e (adv k m c a e s b).1 t).2).length ≤ 2 * (t.length + 1)
    rw [List.length_append]
    omega
theorem fin_len {k c : Nat} {s : St2} (h : s.2.length ≤ 1) : (fin k c s).length ≤ 1 := by
  unfold fin
  split
  · exact Nat.le_refl _
  · exact h
  · exact Nat.zero_le _
theorem joinL_nil : ∀ ys : List (List Nat), TL.joinL [] ys = ys.flatten
  | [] => rfl
  | [y] => by show y = y ++ []; rw [List.append_nil]
  | y :: z :: r => by
    show y ++ ([] ++ TL.joinL [] (z :: r)) = y ++ (z :: r).flatten
    rw [joinL_nil (z :: r), List.nil_append]
theorem joi_t {ys : List (List Nat)} {k : List Nat → Prop} (h : ys.flatten.length ≤ 1000000) (q : k ys.flatten) : joi (ys.map fun y => V.str (S y)) (tl (S [])) k := by
  rw [List.length_flatten] at h
  refine ⟨ys, rfl, ?_, by rw [show tl (S []) = ([] : List Nat) from rfl, joinL_nil]; exact q⟩
  show _ + ys.length * 0 ≤ _
  omega
theorem dr_e {m : List Nat} {a : Nat} {e : Bool} {i x : Nat} (h : e = true ∧ x = 45) : dr m a e i x = (0, [x]) := by unfold dr; rw [if_pos h]
theorem dr_lt {m : List Nat} {a : Nat} {e : Bool} {i x : Nat} (h : ¬ (e = true ∧ x = 45)) (h2 : i < a) : dr m a e i x = (i + 1, [x]) := by unfold dr; rw [if_neg h, if_pos h2]
theorem dr_in {m : List Nat} {a : Nat} {e : Bool} {i x : Nat} (h : ¬ (e = true ∧ x = 45)) (h2 : ¬ i < a) (h3 : x ∈ m) : dr m a e i x = (i, []) := by unfold dr; rw [if_neg h, if_neg h2, if_pos h3]
theorem dr_ni {m : List Nat} {a : Nat} {e : Bool} {i x : Nat} (h : ¬ (e = true ∧ x = 45)) (h2 : ¬ i < a) (h3 : ¬ x ∈ m) : dr m a e i x = (i, [x]) := by unfold dr; rw [if_neg h, if_neg h2, if_neg h3]
theorem adv4_e {m : List Nat} {c a : Nat} {e : Bool} {s : St2} {x : Nat} (h : e = true ∧ x = 45) : adv 4 m c a e s x = (((dr m a e s.1 x).1, []), s.2 ++ (dr m a e s.1 x).2) := if_pos h
theorem adv4_n {m : List Nat} {c a : Nat} {e : Bool} {s : St2} {x : Nat} (h : ¬ (e = true ∧ x = 45)) : adv 4 m c a e s x = if (dr m a e s.1 x).2 = [] then (((dr m a e s.1 x).1, [x]), []) else (((dr m a e s.1 x).1, []), (dr m a e s.1 x).2) := if_neg h
theorem ne45 {e : Bool} {y : Nat} (h : ¬ tl (S [y]) = tl (S [45])) : ¬ (e = true ∧ y = 45) := fun z => h (by rw [z.2])
theorem is45 {y : Nat} (h : tl (S [y]) = tl (S [45])) : y = 45 := by
  have h : [y] = [45] := h
  injection h
theorem neF {e : Bool} {y : Nat} (h : e = false) : ¬ (e = true ∧ y = 45) := by rintro ⟨z, _⟩; rw [h] at z; cases z
theorem dgt_len {a : Nat} : (dgt a).length ≤ 8 := by
  unfold dgt
  split
  · exact Nat.zero_le _
  · exact Nat.le_refl _
theorem spl_len {n : List Nat} {a : Nat} {e : Bool} (h : n.length < 60) : (spl n a e).length < 100 := by
  have h1 := dgt_len (a := a)
  unfold spl
  rw [List.length_append, List.length_append, List.length_append]
  have h2 : (if e = true then [32, 101, 97, 99, 104] else ([] : List Nat)).length ≤ 5 := by split <;> decide
  show 5 + n.length + _ + _ < 100
  omega
theorem spl_fl {n : List Nat} {a : Nat} {e : Bool} : [[100, 114, 111, 112, 32], n, dgt a, if e = true then [32, 101, 97, 99, 104] else []].flatten = spl n a e := by
  unfold spl
  rw [List.flatten_cons, List.flatten_cons, List.flatten_cons, List.flatten_cons, List.flatten_nil, List.append_nil, List.append_assoc, List.append_assoc]
theorem joi_spl {n : List Nat} {a : Nat} {e : Bool} {x y : List Nat} {k : List Nat → Prop} (h : n.length < 60) (hx : x = dgt a) (hy : y = if e = true then [32, 101, 97, 99, 104] else []) (q : k (spl n a e)) : joi [V.str (S [100, 114, 111, 112, 32]), V.str (S n), V.str (S x), V.str (S y)] (tl (S [])) k := by
  subst hx hy
  have h2 := spl_len (a := a) (e := e) h
  rw [← spl_fl] at h2 q
  exact joi_t (ys := [[100, 114, 111, 112, 32], n, dgt a, if e = true then [32, 101, 97, 99, 104] else []]) (by omega) q
theorem ldr_drop {m : List Nat} {a : Nat} {e : Bool} : ∀ {t : List Nat} {i : Nat}, (hnd 3 m 0 a e (min i a, []) t).2 = ldr m a e false i t
  | [], i => rfl
  | x :: t, i => by
    show (dr m a e (min i a) x).2 ++ (hnd 3 m 0 a e ((dr m a e (min i a) x).1, []) t).2 = _
    unfold ldr
    by_cases h : e = true ∧ x = 45
    · rw [dr_e h, if_pos h, if_pos (.inr (.inl (Nat.zero_le _)))]
      have := ldr_drop (m := m) (a := a) (e := e) (t := t) (i := 0)
      rw [Nat.zero_min] at this
      rw [this]
    · rw [if_neg h]
      by_cases h2 : i < a
      · rw [dr_lt h (by omega), if_pos (.inr (.inl h2))]
        have := ldr_drop (m := m) (a := a) (e := e) (t := t) (i := i + 1)
        rw [show min (i + 1) a = min i a + 1 by omega] at this
        rw [this]
      · have := ldr_drop (m := m) (a := a) (e := e) (t := t) (i := i + 1)
        rw [show min (i + 1) a = min i a by omega] at this
        by_cases h3 : x ∈ m
        · rw [dr_in h (by omega) h3, this, if_neg]
          rintro (z | z | z)
          · exact z h3
          · omega
          · exact Bool.noConfusion z.1
        · rw [dr_ni h (by omega) h3, this, if_pos (.inl h3)]
theorem ldr_last {m : List Nat} {a : Nat} {e : Bool} : ∀ {t w : List Nat} {i : Nat}, (hnd 4 m 0 a e (min i a, w) t).2 ++ fin 4 0 (hnd 4 m 0 a e (min i a, w) t).1 = (if t = [] ∨ (e = true ∧ t.head? = some 45) then w else []) ++ ldr m a e true i t
  | [], w, i => by
    rw [if_pos (.inl rfl)]
    show [] ++ w = w ++ []
    rw [List.nil_append, List.append_nil]
  | x :: t, w, i => by
    show ((adv 4 m 0 a e (min i a, w) x).2 ++ (hnd 4 m 0 a e (adv 4 m 0 a e (min i a, w) x).1 t).2) ++ fin 4 0 (hnd 4 m 0 a e (adv 4 m 0 a e (min i a, w) x).1 t).1 = _
    rw [List.append_assoc]
    unfold ldr
    by_cases h : e = true ∧ x = 45
    · rw [adv4_e h, dr_e h, if_pos h, if_pos (.inr ⟨h.1, by rw [h.2]; rfl⟩), if_pos (.inr (.inl (Nat.zero_le _)))]
      have := ldr_last (m := m) (a := a) (e := e) (t := t) (w := []) (i := 0)
      rw [Nat.zero_min] at this
      show (w ++ [x]) ++ ((hnd 4 m 0 a e (0, []) t).2 ++ _) = _
      rw [this, ite_self, List.nil_append, List.append_assoc]
    · have pre : ¬ ((x :: t) = [] ∨ (e = true ∧ (x :: t).head? = some 45)) := by
        rintro (z | ⟨z1, z2⟩)
        · cases z
        · exact h ⟨z1, Option.some.inj z2⟩
      rw [adv4_n h, if_neg h, if_neg pre, List.nil_append]
      by_cases h2 : i < a
      · rw [dr_lt h (show (min i a, w).1 < a by show min i a < a; omega), if_neg (by intro z; cases z), if_pos (.inr (.inl h2))]
        have := ldr_last (m := m) (a := a) (e := e) (t := t) (w := []) (i := i + 1)
        rw [show min (i + 1) a = min i a + 1 by omega, ite_self, List.nil_append] at this
        show [x] ++ ((hnd 4 m 0 a e (min i a + 1, []) t).2 ++ _) = _
        rw [this]
      · have hn : ¬ (min i a, w).1 < a := by show ¬ min i a < a; omega
        by_cases h3 : x ∈ m
        · rw [dr_in h hn h3, if_pos rfl, List.nil_append]
          have := ldr_last (m := m) (a := a) (e := e) (t := t) (w := [x]) (i := i + 1)
          rw [show min (i + 1) a = min i a by omega] at this
          show (hnd 4 m 0 a e (min i a, [x]) t).2 ++ _ = _
          rw [this]
          congr 1
          by_cases h4 : t = [] ∨ (e = true ∧ t.head? = some 45)
          · rw [if_pos h4, if_pos (.inr (.inr ⟨rfl, h4⟩))]
          · rw [if_neg h4, if_neg]
            rintro (z | z | z)
            · exact z h3
            · omega
            · exact h4 z.2
        · rw [dr_ni h hn h3, if_neg (by intro z; cases z), if_pos (.inl h3)]
          have := ldr_last (m := m) (a := a) (e := e) (t := t) (w := []) (i := i + 1)
          rw [show min (i + 1) a = min i a by omega, ite_self, List.nil_append] at this
          show [x] ++ ((hnd 4 m 0 a e (min i a, []) t).2 ++ _) = _
          rw [this]
theorem res_ldr {m : List Nat} {a : Nat} {e la : Bool} {t : List Nat} : res (kd la) m 0 a e t = ldr m a e la 0 t := by
  cases la with
  | false =>
    show (hnd 3 m 0 a e (0, []) t).2 ++ [] = _
    rw [List.append_nil]
    have := ldr_drop (m := m) (a := a) (e := e) (t := t) (i := 0)
    rw [Nat.zero_min] at this
    exact this
  | true =>
    have := ldr_last (m := m) (a := a) (e := e) (t := t) (w := []) (i := 0)
    rw [Nat.zero_min, ite_self, List.nil_append] at this
    exact this
theorem ldr_cons {m : List Nat} {a : Nat} {e la : Bool} {i x : Nat} {t : List Nat} : ldr m a e la i (x :: t) = (if ¬ x ∈ m ∨ (if e = true ∧ x = 45 then 0 else i + 1) ≤ a ∨ (la = true ∧ (t = [] ∨ (e = true ∧ t.head? = some 45))) then [x] else []) ++ ldr m a e la (if e = true ∧ x = 45 then 0 else i + 1) t := rfl
theorem ldr_st {m t u R : List Nat} {a i j : Nat} {e la : Bool} (eu : u ++ ldr m a e la i (t.drop j) = R) (hj : j < t.length) {i' : Nat} {u' : List Nat} (hi : i' = if e = true ∧ t[j] = 45 then 0 else i + 1)
    (hu : u' = u ++ (if ¬ t[j] ∈ m ∨ i' ≤ a ∨ (la = true ∧ (j + 1 = t.length ∨ (e = true ∧ t[j + 1]? = some 45))) then [t[j]] else [])) : u' ++ ldr m a e la i' (t.drop (j + 1)) = R := by
  rw [List.drop_eq_getElem_cons hj, ldr_cons, ← hi, ← List.append_assoc] at eu
  rw [← eu, hu]
  have h1 : t.drop (j + 1) = [] ↔ j + 1 = t.length := by
    rw [List.drop_eq_nil_iff]
    omega
  have h2 : (t.drop (j + 1)).head? = t[j + 1]? := List.head?_drop
  simp only [h1, h2]
def sl {α : Type} (a b : α) (j : Nat) : α := if j < 2 then a else b
theorem sl_0 {α : Type} {a b : α} {j : Nat} (h : j < 2) : sl a b j = a := if_pos h
theorem sl_1 {α : Type} {a b : α} {j : Nat} (h : ¬ j < 2) : sl a b j = b := if_neg h
abbrev od (j : Nat) : Bool := decide ((0 + (j : Int)) % 2 = 1)
/-- a stage made of a form -/
structure stk (K : PySem.W.Frag) (H : Hp) (x A : Addr) (l v n : List Nat) (a : Nat) (e la : Bool) : Prop where
  out : ∃ m, stv l v n = some m ∧ stgAt K H x (kd la) A n m 0 a e
theorem stk.kp {K : PySem.W.Frag} {H H' : Hp} {x A : Addr} {l v n : List Nat} {a : Nat} {e la : Bool} (h : stk K H x A l v n a e la) (kk : Kp [] H H') : stk K H' x A l v n a e la := by
  obtain ⟨m, h1, h2⟩ := h.out
  exact ⟨m, h1, h2.kp kk⟩
theorem stk.off {K : PySem.W.Frag} {H : Hp} {x A D : Addr} {l v n : List Nat} {a : Nat} {e la : Bool} {ys : List V} {o : HO} (h : stk K H x A l v n a e la) (hD : H D = some (.lst ys)) : stk K (upd H D o) x A l v n a e la := by
  obtain ⟨m, h1, h2⟩ := h.out
  obtain ⟨d, h2⟩ := h2.out
  exact ⟨m, h1, ⟨d, upd_off (fun e => by rw [e, hD] at h2; cases h2) h2⟩⟩
-- two addresses
local macro_rules | `(tactic| and_intros) => `(tactic| first
  | assumption
  | (apply Ne.symm; assumption)
  | (apply ne_x; (focus assumption); (focus (apply Exists.intro; contradiction)))
  | (apply ne_y; (focus assumption); (focus (apply Exists.intro; contradiction)))
  | (apply bx.nn; rotate_left 1; (focus assumption); (focus assumption))
  | (apply bx.nn1; rotate_left 1; (focus assumption); (focus assumption))
  | (apply bx.nn2; rotate_left 1; (focus assumption); (focus assumption)))
-- heap facts
local macro_rules | `(tactic| contradiction) => `(tactic| first
  | assumption
  | with_reducible exact upd_at
  | ((first | (apply upd_fr; (focus assumption)) | (apply upd_off; (focus (and_intros; done)))); contradiction)
  | (apply Kp.get0; (focus assumption); contradiction)
  | (apply Kp.get1; (focus assumption); (focus contradiction); (focus (and_intros; done)))
  | (apply Kp.get2; (focus assumption); (focus contradiction); (focus (and_intros; done)); (focus (and_intros; done))))
-- what is kept
local macro_rules | `(tactic| left) => `(tactic| first
  | exact Kp.rfl'
  | assumption
  | (apply Kp.nil; assumption)
  | (apply Kp.at; (focus left); (focus first | exact List.mem_cons_self | exact List.mem_cons_of_mem _ List.mem_cons_self))
  | (apply Kp.new; (focus left); (focus assumption))
  | (apply Kp.own; (focus left); (focus assumption))
  | (apply Kp.trans; rotate_left 1; (focus (first | assumption | (apply Kp.nil; assumption))); (focus left)))
-- side facts
local macro_rules | `(tactic| bv_omega) => `(tactic| first
  | with_reducible assumption
  | omega
  | (with_reducible refine lim_of ?_; omega)
  | (simp only [tl, S, List.toList_toArray, srt_len, sgn_len, List.length_append, List.length_cons, List.length_nil, List.length_take, List.length_drop, List.length_map, List.length_set, cut_to, cut_from, cut_both, cut_one, cut_fr1, cut_t1]; omega)
  | (with_reducible refine lim_of ?_; simp only [tl, S, List.toList_toArray, srt_len, sgn_len, List.length_append, List.length_cons, List.length_nil, List.length_take, List.length_drop, List.length_map, List.length_set, cut_to, cut_from, cut_both, cut_one, cut_fr1, cut_t1]; omega)
  | exact rfl
  | exact flat_k _
  | (refine rg_ok ?_ ?_ ?_ ?_ <;> omega)
  | (refine rg_ok ?_ ?_ ?_ ?_ <;> (simp only [tl, S, List.toList_toArray, List.length_cons, List.length_nil]; omega))
  | (refine And.intro ?_ ?_ <;> omega)
  | (refine Or.inr (And.intro ?_ ?_) <;> omega)
  | (refine Or.inl (And.intro ?_ ?_) <;> omega)
  | (dsimp only; omega)
  | (refine And.intro ?_ ?_ <;> (simp only [tl, S, List.toList_toArray, srt_len, sgn_len, List.length_append, List.length_cons, List.length_nil, List.length_take, List.length_drop, List.length_map, List.length_set, cut_to, cut_from, cut_both, cut_one, cut_fr1, cut_t1]; omega))
  | (show _ < 1000; exact Nat.le_of_ble_eq_true (Eq.refl true))
  | (rw [sizeLine_eq]; exact Nat.le_of_ble_eq_true (Eq.refl true))
  | (with_reducible refine lim_of ?_; simp only [tl, S, List.toList_toArray, srt_len, sgn_len, List.length_append, List.length_cons, List.length_nil, List.length_take, List.length_drop, List.length_map, List.length_set, cut_to, cut_from, cut_both, cut_one, cut_fr1, cut_t1]; grind [cut_len])
  | assumption)
-- one step
local macro_rules | `(tactic| ac_rfl) => `(tactic| (conv => whnf) <;> first
  | (with_reducible intro _)
  | ((with_reducible refine look_id ?_); apply look_i; (focus contradiction))
  | ((with_reducible refine itm_id ?_); first
    | (refine itm_i (by first | rfl | assumption) ?_)
    | (refine itm_0 ?_)
    | (refine itm_1 ?_)
    | (apply itm_z0; (focus omega))
    | (apply itm_z1; (focus omega))
    | (apply itm_2; (focus omega); (focus omega))
    | (apply itm_3; (focus omega); (focus omega))
    | (apply itm_k; (focus bv_omega); (focus bv_omega))
    | (apply itm_s; (focus bv_omega); (focus bv_omega)))
  | ((with_reducible refine fld_id ?_); refine fld_i (by first | rfl | assumption) ?_)
  | ((with_reducible refine isa_id ?_); first
    | (refine isa_1 rfl (by first | assumption | rfl) ?_)
    | (apply isa_t; (focus contradiction); (focus rfl); (focus assumption)))
  | ((with_reducible refine joi_id ?_); refine joi_i ?_ ?_; (focus bv_omega))
  | ((with_reducible refine cnd_id ?_); first
    | (refine cnd_t (Eq.refl true) ?_)
    | (refine cnd_f (Eq.refl false) ?_)
    | (refine cnd_n ?_)
    | (refine cnd_t (by with_reducible assumption) ?_)
    | (refine cnd_f (by with_reducible assumption) ?_)
    | (apply cnd_t; (focus (apply decide_eq_true; omega)))
    | (apply cnd_f; (focus (apply decide_eq_false; omega)))
    | (refine cnd_d (fun _ => ?_) (fun _ => ?_))
    | (refine cnd_i (fun _ => ?_) (fun _ => ?_)))
  | (refine wn_i ?_)
  | (with_reducible refine pick_1 ?_)
  | (with_reducible refine pick_n ?_)
  | (with_reducible refine pickK_1 ?_)
  | (with_reducible refine pickK_n ?_)
  | (refine i_all_different ?_ ?_; (focus bv_omega))
  | (apply i_Alphabet_eqS; (focus contradiction))
  | (apply i_Alphabet_eq; (focus contradiction); (focus contradiction))
  | (apply i_Alphabet_is_text; (focus contradiction))
  | (apply i_Alphabet_listed_signs; (focus contradiction); (focus assumption))
  | (refine pick_1 ?_)
  | (apply itm_m1; (focus bv_omega))
  | (exact sd_i (divW (by decide) (by decide)))
  | (apply eq_bs; (focus contradiction); (focus contradiction); (focus decide))
  | (refine Exists.intro _ (Exists.intro _ (And.intro rfl (And.intro (SqT.of (by contradiction)) (And.intro rfl ?_)))))
  | (refine Exists.intro _ (Exists.intro _ (And.intro rfl ?_)))
  | (refine And.intro (Eq.refl []) ?_)
  | ((with_reducible refine d_l_form ?_); apply i_l_form; (focus (first | assumption | (apply bx.kp; (focus assumption); (focus left)))); (focus bv_omega); (focus bv_omega))
  | ((with_reducible refine d_l_text ?_); apply i_l_text; (focus (first | assumption | (apply bx.kp; (focus assumption); (focus left)))); (focus bv_omega))
  | ((with_reducible refine d_l_written ?_); apply i_l_written; (focus contradiction); (focus bv_omega); (focus bv_omega))
  | ((with_reducible refine d_l_object ?_); apply i_l_object; (focus contradiction); (focus contradiction); (focus assumption); (focus bv_omega))
  | ((with_reducible refine d_l_shown ?_); apply i_l_shown; (focus (first | assumption | (apply stgAt.kp; (focus assumption); (focus left)))); (focus contradiction); (focus contradiction); (focus bv_omega); (focus bv_omega))
  | ((with_reducible refine d_l_refuses_text ?_); apply i_l_refuses_text; (focus first | assumption | bv_omega); (focus (first | assumption | (apply stgAt.kp; (focus assumption); (focus left)))); (focus contradiction); (focus bv_omega); (focus first | assumption | bv_omega))
  | ((with_reducible refine d_law ?_); apply i_law; (focus contradiction); (focus bv_omega))
  | ((with_reducible refine d_signs_named ?_); apply i_signs_named; (focus contradiction); (focus bv_omega))
  | ((with_reducible refine d_drop_spelling ?_); apply i_drop_spelling; (focus first | rfl | assumption | bv_omega); (focus bv_omega); (focus bv_omega))
  | ((with_reducible refine d_Drop_begin ?_); apply i_Drop_begin)
  | ((with_reducible refine d_LastDrop_begin ?_); apply i_LastDrop_begin)
  | ((with_reducible refine d_Drop_advance ?_); apply i_Drop_advance; (focus first | rfl | assumption | bv_omega); (focus first | assumption | bv_omega); (focus (first | assumption | (apply stgAt.kp; (focus assumption); (focus left)))))
  | ((with_reducible refine d_LastDrop_advance ?_); apply i_LastDrop_advance; (focus (first | assumption | (apply stgAt.kp; (focus assumption); (focus left)))); (focus contradiction); (focus bv_omega))
  | ((with_reducible refine d_Stage_finish ?_); apply i_Stage_finish)
  | ((with_reducible refine d_LastDrop_finish ?_); apply i_LastDrop_finish; (focus contradiction))
  | ((with_reducible refine d_Stage_result ?_); apply i_Stage_result; (focus first | assumption | bv_omega); (focus (first | assumption | (apply stgAt.kp; (focus assumption); (focus left)))); (focus contradiction); (focus bv_omega))
  | ((with_reducible refine d_Drop_call ?_); apply i_Drop_call; (focus (first | assumption | (apply stgAt.kp; (focus assumption); (focus left)))); (focus contradiction); (focus bv_omega))
  | ((with_reducible refine d_LastDrop_call ?_); apply i_LastDrop_call; (focus (first | assumption | (apply stgAt.kp; (focus assumption); (focus left)))); (focus contradiction); (focus bv_omega))
  | ((with_reducible refine d_Drop_str ?_); apply i_Drop_str; (focus (first | assumption | (apply stgAt.kp; (focus assumption); (focus left)))); (focus bv_omega))
  | ((with_reducible refine d_LastDrop_str ?_); apply i_LastDrop_str; (focus (first | assumption | (apply stgAt.kp; (focus assumption); (focus left)))); (focus bv_omega))
  | ((with_reducible refine d_l_take ?_); apply i_l_take; (focus (first | assumption | (apply bx.kp; (focus assumption); (focus left)))); (focus bv_omega))
  | ((with_reducible refine d_l_world ?_); apply i_l_world; (focus first | rfl | assumption | bv_omega); (focus (first | assumption | (apply bx.kp; (focus assumption); (focus left)))); (focus bv_omega))
  | ((with_reducible refine d_l_name ?_); apply i_l_name; (focus (first | assumption | (apply bx.kp; (focus assumption); (focus left)))); (focus bv_omega); (focus bv_omega))
  | ((with_reducible refine d_l_members ?_); apply i_l_members; (focus first | assumption | bv_omega); (focus first | assumption | bv_omega))
  | ((with_reducible refine and_id ?_); first
    | (refine And.intro (fun (_ : true = true) => ?_) (fun (z : true = false) => Bool.noConfusion z))
    | (refine And.intro (fun (z : false = true) => Bool.noConfusion z) (fun (_ : false = false) => ?_))
    | (refine And.intro ?_ ?_; (focus bv_omega))
    | (refine And.intro (sd_e ?_) ?_))
  | ((with_reducible refine ex_id ?_); first
    | (refine Exists.intro _ (And.intro (by first | rfl | assumption) ?_))
    | (apply ixs_i; (focus bv_omega); (focus bv_omega)))
  | (intro _))


theorem rd_l_take {K : PySem.W.Frag} {mg : Str → Option Value} (T : Tx K mg) : ∀ vs H Q E, sp_l_take K vs H Q E → t_l_take K (WD E) (EndD Q) (start ["_law_box_here", "_law_many", "_law_digit", "_law_one", "_law_two"] vs) H := by
  intro vs H Q E h
  replace h := h.out
  obtain ⟨b, z, rfl, hb, hz, q1⟩ := h
  have T0 := T
  cases T
  obtain ⟨a, n, m, f, hb0⟩ := hb.out
  have hm : ∀ x : Int, 0 ≤ x % z ∧ x % z < z := fun x => ⟨Int.emod_nonneg _ (by omega), Int.emod_lt_of_pos _ hz.1⟩
  have hw : ∀ n, CDivW n z := fun n => divW hz.1 (by omega)
  repeat' ac_rfl
  all_goals (try (conv => whnf))
  · exact sd_i (hw _)
  · exact q1 _ _ (hm _).1 (hm _).2 ((Kp.rfl'.at List.mem_cons_self).at List.mem_cons_self) ⟨_, _, _, _, upd_at⟩
  · exact q1 _ _ (hm _).1 (hm _).2 (Kp.rfl'.at List.mem_cons_self) ⟨_, _, _, _, upd_at⟩
  · exact q1 _ _ (hm _).1 (hm _).2 (Kp.rfl'.at List.mem_cons_self) ⟨_, _, _, _, upd_at⟩


theorem rd_Alphabet_is_text {K : PySem.W.Frag} {mg : Str → Option Value} (T : Tx K mg) : ∀ vs H Q E, sp_Alphabet_is_text K vs H Q E → t_Alphabet_is_text K (WD E) (EndD Q) (start ["self", "text", "sign"] vs) H := by
  intro vs H Q E h
  replace h := h.out
  obtain ⟨A, dA, l, v, t, rfl, hA, q⟩ := h
  cases T
  repeat' ac_rfl
  all_goals (try (conv => whnf))
  refine loop_s (fun i σ H' => Sd (∃ v2 : Option V, σ = [some (.ref A), some (.str (S t)), v2] ∧ H' = H ∧ ∀ c ∈ t.take i, c ∈ 45 :: srt l)) ?_ ?_ ?_
  · exact sd_i ⟨none, rfl, rfl, fun _ z => (nomatch z)⟩
  · rintro i hi σ H' hP
    obtain ⟨v2, rfl, rfl, al⟩ := sd_e hP
    repeat' ac_rfl
    all_goals (try (conv => whnf))
    · rename_i x
      exact sd_i ⟨_, rfl, rfl, al_take hi x al⟩
    · rename_i x
      refine q_bl ?_ q
      symm
      rw [List.all_eq_false]
      exact ⟨_, List.getElem_mem hi, by rw [decide_eq_false x]; decide⟩
  · rintro σ H' hP
    obtain ⟨v2, rfl, rfl, al⟩ := sd_e hP
    have e : t.take (tl (S t)).length = t := List.take_length
    rw [e] at al
    repeat' ac_rfl
    all_goals (try (conv => whnf))
    refine q_bl ?_ q
    symm
    rw [List.all_eq_true]
    exact fun c hc => decide_eq_true (al c hc)


theorem rd_Alphabet_check {K : PySem.W.Frag} {mg : Str → Option Value} (T : Tx K mg) : ∀ vs H Q E, sp_Alphabet_check K vs H Q E → t_Alphabet_check K (WD E) (EndD Q) (start ["self", "text"] vs) H := by
  intro vs H Q E h
  replace h := h.out
  obtain ⟨A, dA, l, v, t, rfl, hA, q1, q2⟩ := h
  cases T
  repeat' ac_rfl
  all_goals (try (conv => whnf))
  · rename_i x
    exact q1 fun c hc => of_decide_eq_true (List.all_eq_true.mp x c hc)
  · rename_i x d hd
    exact q2 x d hd


theorem rd_Drop_advance {K : PySem.W.Frag} {mg : Str → Option Value} (T : Tx K mg) : ∀ vs H Q E, sp_Drop_advance K vs H Q E → t_Drop_advance K (WD E) (EndD Q) (start ["self", "state", "sign"] vs) H := by
  intro vs H Q E h
  replace h := h.out
  obtain ⟨x, A, n, m, c, a, e, k, i, y, rfl, hk, hx, q1⟩ := h
  have T0 := T
  cases T
  obtain ⟨dx, hx0⟩ := hx.out
  rcases (show k = 3 ∨ k = 4 by omega) with rfl | rfl
  · have hx1 : H x = some (.ins (He.ga K "Drop") dx [("alphabet", .ref A), ("chosen", .str (S m)), ("name", .str (S n)), ("after", .int (a : Int)), ("each", .bl e), ("spelling", .str (S (spl n a e)))]) := hx0
    repeat' ac_rfl
    all_goals (try (conv => whnf))
    · rename_i h1 h2 p hp
      have q1 := q1 p hp
      rw [dr_e ⟨h1, is45 h2⟩] at q1
      exact q1
    · rename_i h1 h2 h3 p hp
      have q1 := q1 p hp
      rw [dr_lt (ne45 h2) (by omega)] at q1
      exact q1
    · rename_i h1 h2 h3 h4 p hp
      have q1 := q1 p hp
      rw [dr_in (ne45 h2) (by omega) h4] at q1
      exact q1
    · rename_i h1 h2 h3 h4 p hp
      have q1 := q1 p hp
      rw [dr_ni (ne45 h2) (by omega) h4] at q1
      exact q1
    · rename_i h2 h3 p hp
      have q1 := q1 p hp
      rw [dr_lt (neF h2) (by omega)] at q1
      exact q1
    · rename_i h2 h3 h4 p hp
      have q1 := q1 p hp
      rw [dr_in (neF h2) (by omega) h4] at q1
      exact q1
    · rename_i h2 h3 h4 p hp
      have q1 := q1 p hp
      rw [dr_ni (neF h2) (by omega) h4] at q1
      exact q1
  · have hx1 : H x = some (.ins (He.ga K "LastDrop") dx [("alphabet", .ref A), ("chosen", .str (S m)), ("name", .str (S n)), ("after", .int (a : Int)), ("each", .bl e), ("spelling", .str (S (spl n a e ++ [32, 98, 117, 116, 32, 108, 97, 115, 116])))]) := hx0
    repeat' ac_rfl
    all_goals (try (conv => whnf))
    · rename_i h1 h2 p hp
      have q1 := q1 p hp
      rw [dr_e ⟨h1, is45 h2⟩] at q1
      exact q1
    · rename_i h1 h2 h3 p hp
      have q1 := q1 p hp
      rw [dr_lt (ne45 h2) (by omega)] at q1
      exact q1
    · rename_i h1 h2 h3 h4 p hp
      have q1 := q1 p hp
      rw [dr_in (ne45 h2) (by omega) h4] at q1
      exact q1
    · rename_i h1 h2 h3 h4 p hp
      have q1 := q1 p hp
      rw [dr_ni (ne45 h2) (by omega) h4] at q1
      exact q1
    · rename_i h2 h3 p hp
      have q1 := q1 p hp
      rw [dr_lt (neF h2) (by omega)] at q1
      exact q1
    · rename_i h2 h3 h4 p hp
      have q1 := q1 p hp
      rw [dr_in (neF h2) (by omega) h4] at q1
      exact q1
    · rename_i h2 h3 h4 p hp
      have q1 := q1 p hp
      rw [dr_ni (neF h2) (by omega) h4] at q1
      exact q1


theorem rd_LastDrop_advance {K : PySem.W.Frag} {mg : Str → Option Value} (T : Tx K mg) : ∀ vs H Q E, sp_LastDrop_advance K vs H Q E → t_LastDrop_advance K (WD E) (EndD Q) (NdefX.startF ["self", "state", "sign", "__class__", "count", "waiting", "written"] vs [some (.ref (He.ga K "LastDrop"))]) H := by
  intro vs H Q E h
  replace h := h.out
  obtain ⟨x, A, n, m, c, a, e, i, y, w, t, rfl, hx, ht, hw, q1⟩ := h
  have T0 := T
  cases T
  obtain ⟨dx, hx0⟩ := hx.out
  have hx1 : H x = some (.ins (He.ga K "LastDrop") dx [("alphabet", .ref A), ("chosen", .str (S m)), ("name", .str (S n)), ("after", .int (a : Int)), ("each", .bl e), ("spelling", .str (S (spl n a e ++ [32, 98, 117, 116, 32, 108, 97, 115, 116])))]) := hx0
  have hdl := dr_len (m := m) (a := a) (e := e) (i := i) (x := y)
  repeat' ac_rfl
  all_goals (try (conv => whnf))
  refine i_Drop_advance rfl (.inr rfl) hx fun r hr => ?_
  have wrap : ∀ (r1 p1 p2 : Addr) {d : Int} {ws us : List Nat} {dw : List Nat}, adv 4 m c a e (i, w) y = (((dr m a e i y).1, ws), us) → upd H r (.tup [.int d, .str (S dw)]) p1 = none → upd (upd H r (.tup [.int d, .str (S dw)])) p1 (.tup [.int d, .str (S ws)]) p2 = none → d = ((dr m a e i y).1 : Int) → Q (.ref p2) (upd (upd (upd H r (.tup [.int d, .str (S dw)])) p1 (.tup [.int d, .str (S ws)])) p2 (.tup [.ref p1, .str (S us)])) := fun _ p1 p2 d ws us dw ea hp1 hp2 ed => by
    subst ed
    refine q1 p2 p1 _ (((Kp.rfl'.new hr).new hp1).new hp2) (((Kp.rfl'.new hr).new hp1).none hp2) (by rw [ea]; exact upd_at) ?_
    rw [ea]
    exact upd_fr hp2 upd_at
  repeat' ac_rfl
  all_goals (try (conv => whnf))
  · rename_i h1 h2 p1 hp1 p2 hp2
    exact wrap r _ _ (by rw [adv4_e ⟨h1, is45 h2⟩]) hp1 hp2 rfl
  · rename_i h2 h3 p1 hp1 p2 hp2
    have h3 : (dr m a e i y).2 = [] := h3
    exact wrap r _ _ (by rw [adv4_n (ne45 h2), if_pos h3]) hp1 hp2 rfl
  · rename_i h2 h3 p1 hp1 p2 hp2
    have h3 : ¬ (dr m a e i y).2 = [] := h3
    exact wrap r _ _ (by rw [adv4_n (ne45 h2), if_neg h3]) hp1 hp2 rfl
  · rename_i h2 h3 p1 hp1 p2 hp2
    have h3 : (dr m a e i y).2 = [] := h3
    exact wrap r _ _ (by rw [adv4_n (neF h2), if_pos h3]) hp1 hp2 rfl
  · rename_i h2 h3 p1 hp1 p2 hp2
    have h3 : ¬ (dr m a e i y).2 = [] := h3
    exact wrap r _ _ (by rw [adv4_n (neF h2), if_neg h3]) hp1 hp2 rfl


theorem rd_handed_on {K : PySem.W.Frag} {mg : Str → Option Value} (T : Tx K mg) : ∀ vs H Q E, sp_handed_on K vs H Q E → t_handed_on K (WD E) (EndD Q) (start ["stages", "states", "text", "moved", "number", "state", "written", "sign", "part"] vs) H := by
  intro vs H Q E h
  replace h := h.out
  obtain ⟨p, q, x, A, k, c, a, e, n, m, s, sv, t, b, rfl, hk, hx, hp, hq, hs, hl, ht, q1⟩ := h
  have T0 := T
  cases T
  rcases b with _ | _
  · have hp : H p = some (.lst []) := hp
    have hq : H q = some (.lst []) := hq
    repeat' ac_rfl
    all_goals (try (conv => whnf))
    rename_i w hw
    refine loop_r (fun i σ H' => Sd (i = 0 ∧ σ = [some (.ref p), some (.ref q), some (.str (S t)), some (.ref w), none, none, none, none, none] ∧ H' = upd H w (.lst []))) (sd_i ⟨rfl, rfl, rfl⟩) (fun i σ H' hi _ => absurd hi (Nat.not_lt_zero i)) fun σ H' hP => ?_
    obtain ⟨_, rfl, rfl⟩ := sd_e hP
    repeat' ac_rfl
    all_goals (try (conv => whnf))
    rename_i r hr
    have hwr : w ≠ r := ne_none upd_at hr
    have hr0 : H r = none := by
      rw [upd_ne hwr.symm] at hr
      exact hr
    exact q1 r w .non _ ((Kp.rfl'.new hw).new hr) hw hr0 hwr upd_at (upd_off hwr upd_at) fun z => by cases z
  · have hx := hx rfl
    have hs := hs rfl
    have hp : H p = some (.lst [.ref x]) := hp
    have hq : H q = some (.lst [sv]) := hq
    repeat' ac_rfl
    all_goals (try (conv => whnf))
    rename_i w hw
    refine loop_r (fun i σ H' => Sd ((i = 0 ∧ σ = [some (.ref p), some (.ref q), some (.str (S t)), some (.ref w), none, none, none, none, none] ∧ H' = upd H w (.lst [])) ∨ (i = 1 ∧ ∃ v4 sv' v6 v7 v8, σ = [some (.ref p), some (.ref q), some (.str (S (hnd k m c a e s t).2)), some (.ref w), v4, some sv', v6, v7, v8] ∧ Kp [] H H' ∧ H' w = some (.lst [sv']) ∧ stR k (hnd k m c a e s t).1 H' sv'))) ?_ ?_ ?_
    · exact sd_i (.inl ⟨rfl, rfl, rfl⟩)
    · rintro i σ H' hi hP
      have hi : i < 1 := hi
      obtain ⟨rfl, rfl, rfl⟩ | ⟨h1, _⟩ := sd_e hP
      · obtain ⟨dx, hx0⟩ := hx.out
        repeat' ac_rfl
        all_goals (try (conv => whnf))
        rename_i g hg
        have hwg : w ≠ g := ne_none upd_at hg
        have hg0 : H g = none := by
          rw [upd_ne hwg.symm] at hg
          exact hg
        refine loop_s (fun j σ H' => Sd (∃ (ys : List (List Nat)) (sv' : V) (v4 v7 v8 : Option V), σ = [some (.ref p), some (.ref q), some (.str (S t)), some (.ref w), v4, some sv', some (.ref g), v7, v8] ∧ v4 = some (.int 0) ∧ Kp [] H H' ∧ H' w = some (.lst []) ∧ H' g = some (.lst (ys.map fun y => V.str (S y))) ∧ ys.flatten = (hnd k m c a e s (t.take j)).2 ∧ ys.length = j ∧ stR k (hnd k m c a e s (t.take j)).1 H' sv')) ?_ ?_ ?_
        · exact sd_i ⟨[], sv, _, _, _, rfl, rfl, (Kp.rfl'.new hw).new hg, upd_off hwg upd_at, upd_at, rfl, rfl, hs.kp ((Kp.rfl'.new hw).new hg)⟩
        · rintro j hj σ H' hP
          obtain ⟨ys, sv', v4, v7, v8, rfl, rfl, kk, hw1, hg1, fl, ly, hs1⟩ := sd_e hP
          have hx1 := kk.get0 hx0
          have hj : j < t.length := hj
          have hsn := hnd_snoc (k := k) (m := m) (c := c) (a := a) (e := e) (x := t[j]) (t := t.take j) (s := s)
          have hl1 := (hnd_len (k := k) (m := m) (c := c) (a := a) (e := e) (t := t.take j) hl).2
          rw [← List.take_succ_eq_append_getElem hj] at hsn
          have hs2 := hs1.out
          rcases (show k = 3 ∨ k = 4 by omega) with rfl | rfl
          · have hx1 : H' x = some (.ins (He.ga K "Drop") dx [("alphabet", .ref A), ("chosen", .str (S m)), ("name", .str (S n)), ("after", .int (a : Int)), ("each", .bl e), ("spelling", .str (S (spl n a e)))]) := hx1
            obtain rfl : sv' = .int ((hnd 3 m c a e s (t.take j)).1.1 : Int) := hs2
            repeat' ac_rfl
            all_goals (try (conv => whnf))
            rename_i r hr
            have hgr : g ≠ r := ne_none hg1 hr
            have hwr : w ≠ r := ne_none hw1 hr
            rw [hsn]
            refine sd_i ⟨ys ++ [(adv 3 m c a e (hnd 3 m c a e s (t.take j)).1 t[j]).2], _, _, _, _, rfl, rfl, (kk.new hr).own hg0, upd_off hwg (upd_off hwr hw1), upd_at.trans (by rw [List.map_append]; rfl), ?_, ?_, ⟨rfl⟩⟩
            · rw [List.flatten_append, fl]
              show _ ++ (_ ++ []) = _
              rw [List.append_nil]
            · rw [List.length_append, ly]
              rfl
          · have hx1 : H' x = some (.ins (He.ga K "LastDrop") dx [("alphabet", .ref A), ("chosen", .str (S m)), ("name", .str (S n)), ("after", .int (a : Int)), ("each", .bl e), ("spelling", .str (S (spl n a e ++ [32, 98, 117, 116, 32, 108, 97, 115, 116])))]) := hx1
            obtain ⟨ta, rfl, hta⟩ : ∃ t', sv' = .ref t' ∧ H' t' = some (.tup [.int ((hnd 4 m c a e s (t.take j)).1.1 : Int), .str (S (hnd 4 m c a e s (t.take j)).1.2)]) := hs2
            repeat' ac_rfl
            all_goals (try (conv => whnf))
            rename_i r t2 H4 k4 hr hr4 ht4
            rw [hsn]
            have hg4 := k4.get0 hg1
            have hw4 := k4.get0 hw1
            have hgt : t2 ≠ g := fun z => by rw [z, hg4] at ht4; cases ht4
            refine sd_i ⟨ys ++ [(adv 4 m c a e (hnd 4 m c a e s (t.take j)).1 t[j]).2], _, _, _, _, rfl, rfl, (kk.trans k4).own hg0, upd_off hwg hw4, upd_at.trans (by rw [List.map_append]; rfl), ?_, ?_, ⟨⟨t2, rfl, upd_off hgt ht4⟩⟩⟩
            · rw [List.flatten_append, fl]
              show _ ++ (_ ++ []) = _
              rw [List.append_nil]
            · rw [List.length_append, ly]
              rfl
        · rintro σ H' hP
          obtain ⟨ys, sv', v4, v7, v8, rfl, rfl, kk, hw1, hg1, fl, ly, hs1⟩ := sd_e hP
          have et : t.take (tl (S t)).length = t := List.take_length
          rw [et] at fl hs1
          have hln := (hnd_len (k := k) (m := m) (c := c) (a := a) (e := e) (t := t) hl).1
          repeat' ac_rfl
          all_goals (try (conv => whnf))
          refine joi_t (by rw [fl]; omega) ?_
          rw [fl]
          have hwn : H w = none := hw
          refine sd_i (.inr ⟨by omega, _, _, _, _, _, rfl, kk.own hw, upd_at, ?_⟩)
          have hs2 := hs1.out
          refine ⟨?_⟩
          split at hs2
          · exact hs2
          · exact hs2
          · obtain ⟨t', e1, e2⟩ := hs2
            exact ⟨t', e1, upd_off (fun z => by rw [z, hw1] at e2; cases e2) e2⟩
          · exact hs2
      · omega
    · rintro σ H' hP
      obtain ⟨h0, _⟩ | ⟨_, v4, sv', v6, v7, v8, rfl, kk, hw1, hs1⟩ := sd_e hP
      · exact absurd h0 (by show ¬ (1 : Nat) = 0; decide)
      · repeat' ac_rfl
        all_goals (try (conv => whnf))
        rename_i r hr
        have hwr : w ≠ r := ne_none hw1 hr
        have hr0 : H r = none := kk.none hr
        exact q1 r w _ _ (kk.new hr) hw hr0 hwr upd_at (upd_off hwr hw1) fun _ => hs1.kp (Kp.rfl'.new hr)


theorem rd_Drop_begin {K : PySem.W.Frag} {mg : Str → Option Value} (T : Tx K mg) : ∀ vs H Q E, sp_Drop_begin K vs H Q E → t_Drop_begin K (WD E) (EndD Q) (start ["self"] vs) H := by
  intro vs H Q E h
  replace h := h.out
  obtain ⟨x, rfl, q1⟩ := h
  have T0 := T
  cases T
  repeat' ac_rfl
  all_goals (try (conv => whnf))
  exact q1


theorem rd_LastDrop_begin {K : PySem.W.Frag} {mg : Str → Option Value} (T : Tx K mg) : ∀ vs H Q E, sp_LastDrop_begin K vs H Q E → t_LastDrop_begin K (WD E) (EndD Q) (start ["self"] vs) H := by
  intro vs H Q E h
  replace h := h.out
  obtain ⟨x, rfl, q1⟩ := h
  have T0 := T
  cases T
  repeat' ac_rfl
  all_goals (try (conv => whnf))
  rename_i r hr
  exact q1 r hr


theorem rd_Stage_finish {K : PySem.W.Frag} {mg : Str → Option Value} (T : Tx K mg) : ∀ vs H Q E, sp_Stage_finish K vs H Q E → t_Stage_finish K (WD E) (EndD Q) (start ["self", "state"] vs) H := by
  intro vs H Q E h
  replace h := h.out
  obtain ⟨x, s, rfl, q1⟩ := h
  have T0 := T
  cases T
  repeat' ac_rfl
  all_goals (try (conv => whnf))
  exact q1


theorem rd_LastDrop_finish {K : PySem.W.Frag} {mg : Str → Option Value} (T : Tx K mg) : ∀ vs H Q E, sp_LastDrop_finish K vs H Q E → t_LastDrop_finish K (WD E) (EndD Q) (start ["self", "state"] vs) H := by
  intro vs H Q E h
  replace h := h.out
  obtain ⟨x, t, i, w, rfl, ht, q1⟩ := h
  have T0 := T
  cases T
  repeat' ac_rfl
  all_goals (try (conv => whnf))
  exact q1


theorem rd_closed {K : PySem.W.Frag} {mg : Str → Option Value} (T : Tx K mg) : ∀ vs H Q E, sp_closed K vs H Q E → t_closed K (WD E) (EndD Q) (start ["stages", "states", "moved", "written", "number", "tail", "later", "part"] vs) H := by
  intro vs H Q E h
  replace h := h.out
  obtain ⟨p, q, x, A, k, c, a, e, n, m, s, sv, rfl, hk, hx, hp, hq, hs, hl, q1⟩ := h
  have T0 := T
  cases T
  have hp : H p = some (.lst [.ref x]) := hp
  repeat' ac_rfl
  all_goals (try (conv => whnf))
  rename_i w hw g hg
  refine loop_r (fun i σ H' => Sd ((i = 0 ∧ σ = [some (.ref p), some (.ref q), some (.ref w), some (.ref g), none, none, none, none] ∧ H' = upd (upd H w (.lst [sv])) g (.lst [])) ∨ (i = 1 ∧ ∃ v4 v5 v6 v7, σ = [some (.ref p), some (.ref q), some (.ref w), some (.ref g), v4, v5, v6, v7] ∧ Kp [] H H' ∧ H' g = some (.lst [.str (S (fin k c s))])))) ?_ ?_ ?_
  · exact sd_i (.inl ⟨rfl, rfl, rfl⟩)
  · rintro i σ H' hi hP
    have hi : i < 1 := hi
    obtain ⟨dx, hx0⟩ := hx.out
    obtain ⟨rfl, rfl, rfl⟩ | ⟨h1, _⟩ := sd_e hP
    · have hx1 := upd_fr (o' := .lst []) hg (upd_fr (o' := .lst [sv]) hw hx0)
      have hgw : w ≠ g := ne_none upd_at hg
      have hs2 := (hs.kp (Kp.rfl'.new (o := .lst [sv]) hw)).kp (Kp.rfl'.new (o := .lst []) hg)
      have hs2 := hs2.out
      rcases (show k = 3 ∨ k = 4 by omega) with rfl | rfl
      · have hx1 : (upd (upd H w (.lst [sv])) g (.lst [])) x = some (.ins (He.ga K "Drop") dx [("alphabet", .ref A), ("chosen", .str (S m)), ("name", .str (S n)), ("after", .int (a : Int)), ("each", .bl e), ("spelling", .str (S (spl n a e)))]) := hx1
        obtain rfl : sv = .int (s.1 : Int) := hs2
        repeat' ac_rfl
        all_goals (try (conv => whnf))
        rename_i p1 hp1 p2 hp2
        refine i_handed_on (x := x) (A := A) (k := 3) (c := 0) (a := 0) (e := false) (n := []) (m := []) (s := (0, [])) (sv := .non) (t := []) (b := false) (by omega) (fun z => by cases z) (upd_fr hp2 upd_at) upd_at (fun z => by cases z) (Nat.zero_le _) (by first | omega | (show _ < 1000; simp only [List.length_cons, List.length_nil]; omega)) fun r w2 _ H5 k5 hw2 hr5 hwr e5 w5 _ => ?_
        have e5 : H5 r = some (.tup [.ref w2, .str (S [])]) := e5
        have w5 : H5 w2 = some (.lst []) := w5
        have b0 : Kp [] H (upd (upd (upd (upd H w (.lst [.int (s.1 : Int)])) g (.lst [])) p1 (.lst (cut [V.ref x] (some (0 + ((0 : Nat) : Int) + 1)) none))) p2 (.lst (cut [(.int (s.1 : Int) : V)] (some (0 + ((0 : Nat) : Int) + 1)) none))) := (((Kp.rfl'.new hw).new hg).new hp1).new hp2
        have c1 : H5 w = some (.lst [.int (s.1 : Int)]) := k5.get0 (upd_fr hp2 (upd_fr hp1 (upd_fr hg upd_at)))
        have c2 : H5 g = some (.lst []) := k5.get0 (upd_fr hp2 (upd_fr hp1 upd_at))
        have kk := b0.trans k5
        have hww : w ≠ w2 := ne_none (upd_fr hp2 (upd_fr hp1 (upd_fr hg upd_at))) hw2
        have hg0 : H g = none := by
          rw [upd_ne hgw.symm] at hg
          exact hg
        clear k5 b0 hw2 hr5
        repeat' ac_rfl
        all_goals (try (conv => whnf))
        exact sd_i (.inr ⟨rfl, _, _, _, _, rfl, (kk.own hw).own hg0, upd_at⟩)
      · have hx1 : (upd (upd H w (.lst [sv])) g (.lst [])) x = some (.ins (He.ga K "LastDrop") dx [("alphabet", .ref A), ("chosen", .str (S m)), ("name", .str (S n)), ("after", .int (a : Int)), ("each", .bl e), ("spelling", .str (S (spl n a e ++ [32, 98, 117, 116, 32, 108, 97, 115, 116])))]) := hx1
        obtain ⟨ta, rfl, hta⟩ : ∃ t', sv = .ref t' ∧ (upd (upd H w (.lst [sv])) g (.lst [])) t' = some (.tup [.int (s.1 : Int), .str (S s.2)]) := hs2
        repeat' ac_rfl
        all_goals (try (conv => whnf))
        rename_i p1 hp1 p2 hp2
        refine i_handed_on (x := x) (A := A) (k := 4) (c := 0) (a := 0) (e := false) (n := []) (m := []) (s := (0, [])) (sv := .non) (t := s.2) (b := false) (by omega) (fun z => by cases z) (upd_fr hp2 upd_at) upd_at (fun z => by cases z) (Nat.zero_le _) (by first | omega | (show _ < 1000; simp only [List.length_cons, List.length_nil]; omega)) fun r w2 _ H5 k5 hw2 hr5 hwr e5 w5 _ => ?_
        have e5 : H5 r = some (.tup [.ref w2, .str (S s.2)]) := e5
        have w5 : H5 w2 = some (.lst []) := w5
        have b0 : Kp [] H (upd (upd (upd (upd H w (.lst [.ref ta])) g (.lst [])) p1 (.lst (cut [V.ref x] (some (0 + ((0 : Nat) : Int) + 1)) none))) p2 (.lst (cut [(.ref ta : V)] (some (0 + ((0 : Nat) : Int) + 1)) none))) := (((Kp.rfl'.new hw).new hg).new hp1).new hp2
        have c1 : H5 w = some (.lst [.ref ta]) := k5.get0 (upd_fr hp2 (upd_fr hp1 (upd_fr hg upd_at)))
        have c2 : H5 g = some (.lst []) := k5.get0 (upd_fr hp2 (upd_fr hp1 upd_at))
        have kk := b0.trans k5
        have hww : w ≠ w2 := ne_none (upd_fr hp2 (upd_fr hp1 (upd_fr hg upd_at))) hw2
        have hg0 : H g = none := by
          rw [upd_ne hgw.symm] at hg
          exact hg
        clear k5 b0 hw2 hr5
        repeat' ac_rfl
        all_goals (try (conv => whnf))
        exact sd_i (.inr ⟨rfl, _, _, _, _, rfl, (kk.own hw).own hg0, upd_at⟩)
    · omega
  · rintro σ H' hP
    obtain ⟨h0, _⟩ | ⟨_, v4, v5, v6, v7, rfl, kk, hg1⟩ := sd_e hP
    · exact absurd h0 (by show ¬ (1 : Nat) = 0; decide)
    · have hfl := fin_len (k := k) (c := c) hl
      repeat' ac_rfl
      all_goals (try (conv => whnf))
      refine joi_t (ys := [fin k c s]) ?_ ?_
      · show (fin k c s ++ []).length ≤ _
        rw [List.append_nil]
        omega
      · show Q (.str (S (fin k c s ++ []))) H'
        rw [List.append_nil]
        exact q1 H' kk


theorem rd_Stage_result {K : PySem.W.Frag} {mg : Str → Option Value} (T : Tx K mg) : ∀ vs H Q E, sp_Stage_result K vs H Q E → t_Stage_result K (WD E) (EndD Q) (start ["self", "text", "states", "written"] vs) H := by
  intro vs H Q E h
  replace h := h.out
  obtain ⟨x, A, dA, k, c, a, e, l, v, n, m, t, rfl, hk, hx, hA, ht, q1, q2⟩ := h
  have T0 := T
  cases T
  obtain ⟨dx, hx0⟩ := hx.out
  rcases (show k = 3 ∨ k = 4 by omega) with rfl | rfl
  · have hx1 : H x = some (.ins (He.ga K "Drop") dx [("alphabet", .ref A), ("chosen", .str (S m)), ("name", .str (S n)), ("after", .int (a : Int)), ("each", .bl e), ("spelling", .str (S (spl n a e)))]) := hx0
    repeat' ac_rfl
    all_goals (try (conv => whnf))
    refine i_Alphabet_checkB hA (fun al => ?_) fun z d hd => q2 z H d Kp.rfl' hd
    have q1 := q1 al
    repeat' ac_rfl
    all_goals (try (conv => whnf))
    rename_i p1 hp1 p2 hp2
    have k0 : Kp [] H (upd (upd H p1 (.lst [.ref x])) p2 (.lst [.int 0])) := (Kp.rfl'.new hp1).new hp2
    have sR : stR 3 (0, []) (upd (upd H p1 (.lst [.ref x])) p2 (.lst [.int 0])) (.int 0) := ⟨rfl⟩
    refine i_handed_on (x := x) (A := A) (k := 3) (c := c) (a := a) (e := e) (n := n) (m := m) (s := (0, [])) (sv := .int 0) (t := t) (b := true) (by omega) (fun _ => hx.kp k0) (upd_fr hp2 upd_at) upd_at (fun _ => sR) (Nat.zero_le _) ht fun r w2 sv2 H5 k5 hw2 hr5 hwr e5 w5 s5 => ?_
    have e5 : H5 r = some (.tup [.ref w2, .str (S (hnd 3 m c a e (0, []) t).2)]) := e5
    have w5 : H5 w2 = some (.lst [sv2]) := w5
    have s5 := s5 rfl
    have kk : Kp [] H H5 := k0.trans k5
    have hx5 := hx.kp kk
    have hln := hnd_len (k := 3) (m := m) (c := c) (a := a) (e := e) (t := t) (s := (0, [])) (Nat.zero_le _)
    have hl1 := hln.1
    clear k5 hw2 hr5 k0 sR
    repeat' ac_rfl
    all_goals (try (conv => whnf))
    rename_i p3 hp3
    refine i_closed (x := x) (A := A) (k := 3) (c := c) (a := a) (e := e) (n := n) (m := m) (by omega) (hx5.kp (Kp.rfl'.new hp3)) upd_at (upd_fr hp3 w5) (s5.kp (Kp.rfl'.new hp3)) hln.2 fun H6 k6 => ?_
    have hfn := fin_len (k := 3) (c := c) hln.2
    repeat' ac_rfl
    all_goals (try (conv => whnf))
    exact q1 H6 ((kk.new hp3).trans k6)
  · have hx1 : H x = some (.ins (He.ga K "LastDrop") dx [("alphabet", .ref A), ("chosen", .str (S m)), ("name", .str (S n)), ("after", .int (a : Int)), ("each", .bl e), ("spelling", .str (S (spl n a e ++ [32, 98, 117, 116, 32, 108, 97, 115, 116])))]) := hx0
    repeat' ac_rfl
    all_goals (try (conv => whnf))
    refine i_Alphabet_checkB hA (fun al => ?_) fun z d hd => q2 z H d Kp.rfl' hd
    have q1 := q1 al
    repeat' ac_rfl
    all_goals (try (conv => whnf))
    rename_i p1 hp1 tb htb p2 hp2
    have k0 : Kp [] H (upd (upd (upd H p1 (.lst [.ref x])) tb (.tup [.int 0, .str (S [])])) p2 (.lst [.ref tb])) := ((Kp.rfl'.new hp1).new htb).new hp2
    have sR : stR 4 (0, []) (upd (upd (upd H p1 (.lst [.ref x])) tb (.tup [.int 0, .str (S [])])) p2 (.lst [.ref tb])) (.ref tb) := ⟨⟨tb, rfl, upd_fr hp2 upd_at⟩⟩
    refine i_handed_on (x := x) (A := A) (k := 4) (c := c) (a := a) (e := e) (n := n) (m := m) (s := (0, [])) (sv := .ref tb) (t := t) (b := true) (by omega) (fun _ => hx.kp k0) (upd_fr hp2 (upd_fr htb upd_at)) upd_at (fun _ => sR) (Nat.zero_le _) ht fun r w2 sv2 H5 k5 hw2 hr5 hwr e5 w5 s5 => ?_
    have e5 : H5 r = some (.tup [.ref w2, .str (S (hnd 4 m c a e (0, []) t).2)]) := e5
    have w5 : H5 w2 = some (.lst [sv2]) := w5
    have s5 := s5 rfl
    have kk : Kp [] H H5 := k0.trans k5
    have hx5 := hx.kp kk
    have hln := hnd_len (k := 4) (m := m) (c := c) (a := a) (e := e) (t := t) (s := (0, [])) (Nat.zero_le _)
    have hl1 := hln.1
    clear k5 hw2 hr5 k0 sR
    repeat' ac_rfl
    all_goals (try (conv => whnf))
    rename_i p3 hp3
    refine i_closed (x := x) (A := A) (k := 4) (c := c) (a := a) (e := e) (n := n) (m := m) (by omega) (hx5.kp (Kp.rfl'.new hp3)) upd_at (upd_fr hp3 w5) (s5.kp (Kp.rfl'.new hp3)) hln.2 fun H6 k6 => ?_
    have hfn := fin_len (k := 4) (c := c) hln.2
    repeat' ac_rfl
    all_goals (try (conv => whnf))
    exact q1 H6 ((kk.new hp3).trans k6)


theorem rd_Drop_call {K : PySem.W.Frag} {mg : Str → Option Value} (T : Tx K mg) : ∀ vs H Q E, sp_Drop_call K vs H Q E → t_Drop_call K (WD E) (EndD Q) (start ["self", "text"] vs) H := by
  intro vs H Q E h
  replace h := h.out
  obtain ⟨x, A, dA, c, a, e, l, v, n, m, t, rfl, hx, hA, ht, q1, q2⟩ := h
  have T0 := T
  cases T
  have hx0 := hx
  obtain ⟨dx, hx⟩ := hx.out
  have hx1 : H x = some (.ins (He.ga K "Drop") dx [("alphabet", .ref A), ("chosen", .str (S m)), ("name", .str (S n)), ("after", .int (a : Int)), ("each", .bl e), ("spelling", .str (S (spl n a e)))]) := hx
  repeat' ac_rfl
  all_goals (try (conv => whnf))
  exact i_Stage_result (k := 3) (by omega) hx0 hA ht q1 q2


theorem rd_LastDrop_call {K : PySem.W.Frag} {mg : Str → Option Value} (T : Tx K mg) : ∀ vs H Q E, sp_LastDrop_call K vs H Q E → t_LastDrop_call K (WD E) (EndD Q) (start ["self", "text"] vs) H := by
  intro vs H Q E h
  replace h := h.out
  obtain ⟨x, A, dA, c, a, e, l, v, n, m, t, rfl, hx, hA, ht, q1, q2⟩ := h
  have T0 := T
  cases T
  have hx0 := hx
  obtain ⟨dx, hx⟩ := hx.out
  have hx1 : H x = some (.ins (He.ga K "LastDrop") dx [("alphabet", .ref A), ("chosen", .str (S m)), ("name", .str (S n)), ("after", .int (a : Int)), ("each", .bl e), ("spelling", .str (S (spl n a e ++ [32, 98, 117, 116, 32, 108, 97, 115, 116])))]) := hx
  repeat' ac_rfl
  all_goals (try (conv => whnf))
  exact i_Stage_result (k := 4) (by omega) hx0 hA ht q1 q2


theorem rd_l_refuses_text {K : PySem.W.Frag} {mg : Str → Option Value} (T : Tx K mg) : ∀ vs H Q E, sp_l_refuses_text K vs H Q E → t_l_refuses_text K (WD E) (EndD Q) (start ["_law_stage", "_law_text_here", "e"] vs) H := by
  intro vs H Q E h
  replace h := h.out
  obtain ⟨x, A, dA, k, c, a, e, l, v, n, m, t, rfl, hk, hx, hA, ht, hb, q1⟩ := h
  have T0 := T
  cases T
  have hx0 := hx
  obtain ⟨dx, hx⟩ := hx.out
  have nal : ¬ ∀ z ∈ t, z ∈ sg l := fun al => by
    rw [List.all_eq_true.mpr fun a ha => decide_eq_true (al a ha)] at hb
    cases hb
  rcases hk with rfl | rfl
  · have hx1 : H x = some (.ins (He.ga K "Drop") dx [("alphabet", .ref A), ("chosen", .str (S m)), ("name", .str (S n)), ("after", .int (a : Int)), ("each", .bl e), ("spelling", .str (S (spl n a e)))]) := hx
    repeat' ac_rfl
    all_goals (try (conv => whnf))
    · rename_i al H1 k1
      exact absurd al nal
    · rename_i H1 d k1 hd z0 d0 hd0
      repeat' ac_rfl
      all_goals (try (conv => whnf))
      rw [decide_eq_true rfl]
      exact q1 _ (k1.new hd)
  · have hx1 : H x = some (.ins (He.ga K "LastDrop") dx [("alphabet", .ref A), ("chosen", .str (S m)), ("name", .str (S n)), ("after", .int (a : Int)), ("each", .bl e), ("spelling", .str (S (spl n a e ++ [32, 98, 117, 116, 32, 108, 97, 115, 116])))]) := hx
    repeat' ac_rfl
    all_goals (try (conv => whnf))
    · rename_i al H1 k1
      exact absurd al nal
    · rename_i H1 d k1 hd z0 d0 hd0
      repeat' ac_rfl
      all_goals (try (conv => whnf))
      rw [decide_eq_true rfl]
      exact q1 _ (k1.new hd)


theorem rd_l_drop {K : PySem.W.Frag} {mg : Str → Option Value} (T : Tx K mg) : ∀ vs H Q E, sp_l_drop K vs H Q E → t_l_drop K (WD E) (EndD Q) (start ["_law_text_here", "_law_members_here", "_law_number", "_law_joined", "_law_last", "_law_out", "_law_count", "_law_k", "_law_stays"] vs) H := by
  intro vs H Q E h
  replace h := h.out
  obtain ⟨t, m, a, e, la, rfl, ht, q1⟩ := h
  have T0 := T
  cases T
  have hgl : (tl (S t)).length = t.length := rfl
  repeat' ac_rfl
  all_goals (try (conv => whnf))
  rw [res_ldr] at q1
  refine loop_r (fun j σ H' => Sd (∃ (v7 v8 : Option V) (u : List Nat) (i : Nat), σ = [some (.str (S t)), some (.str (S m)), some (.int (a : Int)), some (.bl e), some (.bl la), some (.str (S u)), some (.int (i : Int)), v7, v8] ∧ H' = H ∧ i ≤ j ∧ u.length ≤ j ∧ u ++ ldr m a e la i (t.drop j) = ldr m a e la 0 t)) ?_ ?_ ?_
  · exact sd_i ⟨none, none, [], 0, rfl, rfl, Nat.le_refl _, Nat.le_refl _, rfl⟩
  · rintro j σ H' hj hP
    obtain ⟨v7, v8, u, i, rfl, rfl, hij, huj, eu⟩ := sd_e hP
    have hj2 : j < t.length := by omega
    repeat' ac_rfl
    all_goals (try (conv => whnf))
    all_goals (first | (refine sd_i ⟨_, _, _, i + 1, rfl, rfl, by omega, ?_, ldr_st eu hj2 ?_ ?_⟩) | (refine sd_i ⟨_, _, _, 0, rfl, rfl, by omega, ?_, ldr_st eu hj2 ?_ ?_⟩))
    all_goals (simp only [tl_S, List.cons.injEq, and_true] at *)
    all_goals (first | grind | skip)
  · rintro σ H' hP
    obtain ⟨v7, v8, u, i, rfl, rfl, hij, huj, eu⟩ := sd_e hP
    rw [show t.drop ((t.length : Int)).toNat = [] from List.drop_eq_nil_of_le (by omega)] at eu
    repeat' ac_rfl
    all_goals (try (conv => whnf))
    rw [show ldr m a e la i [] = [] from rfl, List.append_nil] at eu
    rw [eu]
    exact q1

theorem srt_vow {l v : List Nat} (h : good l v) : (srt l).filter (fun c => decide (c ∈ v)) = srt v := srt_flt (badL_inv h.1).2.2.1 (badV_inv h.2).1 (badV_inv h.2).2

theorem rd_l_members {K : PySem.W.Frag} {mg : Str → Option Value} (T : Tx K mg) : ∀ vs H Q E, sp_l_members K vs H Q E → t_l_members K (WD E) (EndD Q) (start ["_law_name_here", "_law_signs", "_law_vowels", "_law_one"] vs) H := by
  intro vs H Q E h
  replace h := h.out
  obtain ⟨l, v, n, m, rfl, hg, hn, q1⟩ := h
  have T0 := T
  cases T
  have hst := hn.st
  have hsl := sg_len hg
  have hn1 := hn.n1
  have hgl : (tl (S (sg l))).length = (sg l).length := rfl
  have hnl : (tl (S n)).length = n.length := rfl
  have hc1 : cut (sg l) (some 1) none = srt l := by
    show cut (45 :: srt l) (some ((1 : Nat) : Int)) none = srt l
    rw [cut_from]
    rfl
  have hsr := srt_len l
  have hl4 := (badL_inv hg.1).2.1
  unfold stv at hst
  repeat' ac_rfl
  all_goals (try (conv => whnf))
  · rename_i x1
    rw [if_pos x1] at hst
    cases hst
    exact q1 H Kp.rfl'
  · rename_i x1 x2
    rw [if_neg x1, if_pos x2] at hst
    cases hst
    have q1 := q1 H Kp.rfl'
    rw [← hc1] at q1
    exact q1
  · rename_i x1 x2 x3
    rw [if_neg x1, if_neg x2, if_pos x3] at hst
    cases hst
    have e1 : tl (S (cut (tl (S (sg l))) (some 1) none)) = srt l := hc1
    rw [e1]
    refine lcp_f (fun c => decide (c ∈ v)) (show (srt l).length < 1000000 by omega) ?_ ?_ (fun _ => rfl) ?_
    · rintro c D _ Q' hD hc ⟨xs, rfl⟩ q
      exact q
    · intro c H' Q' q
      exact q
    intro D hD
    have hle := List.length_filter_le (fun c => decide (c ∈ v)) (srt l)
    repeat' ac_rfl
    all_goals (try (conv => whnf))
    rw [srt_vow hg]
    exact q1 _ (Kp.rfl'.new hD)
  · rename_i x1 x2 x3 x4
    rw [if_neg x1, if_neg x2, if_neg x3, if_pos x4] at hst
    cases hst
    have e1 : tl (S (cut (tl (S (sg l))) (some 1) none)) = srt l := hc1
    rw [e1]
    refine lcp_f (fun c => !decide (c ∈ v)) (show (srt l).length < 1000000 by omega) ?_ ?_ (fun _ => rfl) ?_
    · rintro c D _ Q' hD hc ⟨xs, rfl⟩ q
      exact q
    · intro c H' Q' q
      exact q
    intro D hD
    have hle := List.length_filter_le (fun c => !decide (c ∈ v)) (srt l)
    repeat' ac_rfl
    all_goals (try (conv => whnf))
    exact q1 _ (Kp.rfl'.new hD)
  · rename_i x1 x2 x3 x4 x5
    rw [if_neg x1, if_neg x2, if_neg x3, if_neg x4, if_pos x5] at hst
    cases hst
    exact q1 H Kp.rfl'
  · rename_i x1 x2 x3 x4 x5
    rw [if_neg x1, if_neg x2, if_neg x3, if_neg x4, if_neg x5] at hst
    have q1 := q1 H Kp.rfl'
    unfold lsv at hst
    split at hst
    · cases hst
    · split at hst
      · cases hst
        exact q1
      · cases hst


theorem rd_l_text {K : PySem.W.Frag} {mg : Str → Option Value} (T : Tx K mg) : ∀ vs H Q E, sp_l_text K vs H Q E → t_l_text K (WD E) (EndD Q) (start ["_law_box_here", "_law_signs", "_law_size", "_law_out", "_law_k"] vs) H := by
  intro vs H Q E h
  replace h := h.out
  obtain ⟨b, l, rfl, hb, hl, q1⟩ := h
  have T0 := T
  cases T
  have hgl : (tl (S (sg l))).length = (sg l).length := rfl
  repeat' ac_rfl
  all_goals (try (conv => whnf))
  · rename_i r1 H1 r10 r11 k1 b1 r2 H2 r20 r21 k2 b2 z r3 H3 r30 r31 k3 b9
    have kk := (k1.trans k2).trans k3
    refine loop_r (fun j σ H' => Sd (∃ (u : List Nat) (v2 v4 : Option V), σ = [some (.ref b), some (.str (S (sg l))), v2, some (.str (S u)), v4] ∧ Kp [b] H H' ∧ bx H' b ∧ u.length = j ∧ ∀ a ∈ u, a ∈ sg l)) ?_ ?_ ?_
    · exact sd_i ⟨[], _, _, rfl, kk, b9, rfl, fun _ z => nomatch z⟩
    · rintro j σ H' hj hP
      obtain ⟨u, v2, v4, rfl, k3, b3, lu, al⟩ := sd_e hP
      have hju : u.length < 100 := by omega
      have hul : (tl (S u)).length = u.length := rfl
      repeat' ac_rfl
      all_goals (try (conv => whnf))
      rename_i r H4 r0 r1 k4 b4 i hi e
      refine sd_i ⟨u ++ [(sg l)[i]], _, _, rfl, k3.trans k4, b4, by rw [List.length_append, lu]; rfl, fun a ha => ?_⟩
      rcases List.mem_append.mp ha with ha | ha
      · exact al a ha
      · rw [List.mem_singleton.mp ha]
        exact List.getElem_mem _
    · rintro σ H' hP
      obtain ⟨u, v2, v4, rfl, k3, b3, lu, al⟩ := sd_e hP
      repeat' ac_rfl
      all_goals (try (conv => whnf))
      exact q1 u H' (by omega) al k3 b3
  · rename_i r1 H1 r10 r11 k1 b1 r2 H2 r20 r21 k2 b9 z
    have kk := k1.trans k2
    refine loop_r (fun j σ H' => Sd (∃ (u : List Nat) (v2 v4 : Option V), σ = [some (.ref b), some (.str (S (sg l))), v2, some (.str (S u)), v4] ∧ Kp [b] H H' ∧ bx H' b ∧ u.length = j ∧ ∀ a ∈ u, a ∈ sg l)) ?_ ?_ ?_
    · exact sd_i ⟨[], _, _, rfl, kk, b9, rfl, fun _ z => nomatch z⟩
    · rintro j σ H' hj hP
      obtain ⟨u, v2, v4, rfl, k3, b3, lu, al⟩ := sd_e hP
      have hju : u.length < 100 := by omega
      have hul : (tl (S u)).length = u.length := rfl
      repeat' ac_rfl
      all_goals (try (conv => whnf))
      rename_i r H4 r0 r1 k4 b4 i hi e
      refine sd_i ⟨u ++ [(sg l)[i]], _, _, rfl, k3.trans k4, b4, by rw [List.length_append, lu]; rfl, fun a ha => ?_⟩
      rcases List.mem_append.mp ha with ha | ha
      · exact al a ha
      · rw [List.mem_singleton.mp ha]
        exact List.getElem_mem _
    · rintro σ H' hP
      obtain ⟨u, v2, v4, rfl, k3, b3, lu, al⟩ := sd_e hP
      repeat' ac_rfl
      all_goals (try (conv => whnf))
      exact q1 u H' (by omega) al k3 b3


theorem rd_l_box {K : PySem.W.Frag} {mg : Str → Option Value} (T : Tx K mg) : ∀ vs H Q E, sp_l_box K vs H Q E → t_l_box K (WD E) (EndD Q) (start ["_law_script", "_law_at", "_law_cell"] vs) H := by
  intro vs H Q E h
  replace h := h.out
  obtain ⟨p, ob, ns, i, rfl, hp, h1, hi, q1⟩ := h
  have T0 := T
  cases T
  have hl0 : (ns.map V.int).length = ns.length := List.length_map _
  repeat' ac_rfl
  all_goals (try (conv => whnf))
  · rename_i h j hj e
    have ev : (ns.map V.int)[j] = .int (ns[j]'(by omega)) := List.getElem_map ..
    rw [ev]
    repeat' ac_rfl
    all_goals (try (conv => whnf))
    rename_i w hw
    exact q1 w _ (Kp.rfl'.new hw) hw ⟨_, _, _, _, upd_at⟩
  · rename_i h1 h2 w hw
    exact q1 w _ (Kp.rfl'.new hw) hw ⟨_, _, _, _, upd_at⟩
  · have hlt := Int.emod_lt_of_pos (i : Int) (show (0 : Int) < ((ns.map V.int).length : Int) by omega)
    have hge := Int.emod_nonneg (i : Int) (show ((ns.map V.int).length : Int) ≠ 0 by omega)
    obtain ⟨j, hj⟩ := Int.eq_ofNat_of_zero_le hge
    have hj2 : j < ns.length := by omega
    refine itm_n (v := .int ns[j]) hj (by rw [List.getElem?_map, List.getElem?_eq_getElem hj2]; rfl) ?_
    repeat' ac_rfl
    all_goals (try (conv => whnf))
    rename_i w hw
    exact q1 w _ (Kp.rfl'.new hw) hw ⟨_, _, _, _, upd_at⟩


theorem rd_Stage_init {K : PySem.W.Frag} {mg : Str → Option Value} (T : Tx K mg) : ∀ vs H Q E, sp_Stage_init K vs H Q E → t_Stage_init K (WD E) (EndD Q) (start ["self", "alphabet"] vs) H := by
  intro vs H Q E h
  replace h := h.out
  obtain ⟨x, dx, A, k, rfl, hk, hx, q1⟩ := h
  have T0 := T
  cases T
  have hcl : Cls K (cSt K k) := by
    rcases hk4 : k with _ | _ | _ | _ | _ | _ | kd2 <;> first | omega | assumption
  have no : NoAttr K (cSt K k) "alphabet" := by
    rcases hk4 : k with _ | _ | _ | _ | _ | _ | kd2 <;> first | omega | assumption
  generalize cSt K k = C at *
  repeat' ac_rfl
  all_goals (try (conv => whnf))
  exact q1


theorem rd_Alphabet_listed_signs {K : PySem.W.Frag} {mg : Str → Option Value} (T : Tx K mg) : ∀ vs H Q E, sp_Alphabet_listed_signs K vs H Q E → t_Alphabet_listed_signs K (WD E) (EndD Q) (start ["self", "name", "signs"] vs) H := by
  intro vs H Q E h
  replace h := h.out
  obtain ⟨A, dA, l, v, n, rfl, hA, hn, q⟩ := h
  have hm : (mid n).length ≤ n.length := cut_len n (some 1) (some (-1))
  have hm2 : (cut (tl (S n)) (some 1) (some (-1))).length ≤ n.length := hm
  have hd : (mid n).eraseDups.length ≤ (mid n).length := dn_le _
  have hd2 : (cut (tl (S n)) (some 1) (some (-1))).eraseDups.length ≤ (cut (tl (S n)) (some 1) (some (-1))).length := hd
  have hsr : (srt (mid n).eraseDups).length = (mid n).eraseDups.length := srt_len _
  have hsr2 : (srt (cut (tl (S n)) (some 1) (some (-1))).eraseDups).length ≤ 1000000 := by
    show (srt (mid n).eraseDups).length ≤ 1000000; omega
  cases T
  repeat' ac_rfl
  all_goals (try (conv => whnf))
  · rename_i x d hd
    exact setK_n q (lsv_1 (by have x : (n.length : Int) < 3 := x; omega)) H d Kp.rfl' hd
  · refine sd_i ?_
    show (mid n).length < 64
    omega
  · rename_i x1 i hi e1 x2 j hj e2 x3 x4 p hp x5
    have x1 : ¬ (n.length : Int) < 3 := x1
    have e0 := lsv_0 (l := l) (n := n) (by omega) hi e1 x2 hj e2 x3
    have x4 : (mid n).all (fun c => decide (c ∈ 45 :: srt l)) = true := x4
    have x5 : srt (mid n).eraseDups = mid n := x5
    have ea : asc (mid n) (45 :: srt l) = true := by unfold asc; rw [x4, decide_eq_true x5]; rfl
    rw [if_pos ea] at e0
    exact setK_s q e0 _ (Kp.rfl'.new hp)
  · rename_i x1 i hi e1 x2 j hj e2 x3 x4 p hp x5 d hd
    have x1 : ¬ (n.length : Int) < 3 := x1
    have e0 := lsv_0 (l := l) (n := n) (by omega) hi e1 x2 hj e2 x3
    have x5 : ¬ srt (mid n).eraseDups = mid n := x5
    have ea : asc (mid n) (45 :: srt l) = false := by unfold asc; rw [decide_eq_false x5, Bool.and_false]
    rw [if_neg (by rw [ea]; decide)] at e0
    exact setK_n q e0 _ d (Kp.rfl'.new hp) hd
  · rename_i x1 i hi e1 x2 j hj e2 x3 x4 d hd
    have x1 : ¬ (n.length : Int) < 3 := x1
    have e0 := lsv_0 (l := l) (n := n) (by omega) hi e1 x2 hj e2 x3
    have x4 : (mid n).all (fun c => decide (c ∈ 45 :: srt l)) = false := x4
    have ea : asc (mid n) (45 :: srt l) = false := by unfold asc; rw [x4, Bool.false_and]
    rw [if_neg (by rw [ea]; decide)] at e0
    exact setK_n q e0 _ d Kp.rfl' hd
  · rename_i x1 i hi e1 x2 j hj e2 x3 d hd
    exact setK_n q (lsv_3 hj e2 x3) H d Kp.rfl' hd
  · rename_i x1 i hi e1 x2 d hd
    exact setK_n q (lsv_2 hi e1 x2) H d Kp.rfl' hd


theorem rd_Alphabet_signs_of {K : PySem.W.Frag} {mg : Str → Option Value} (T : Tx K mg) : ∀ vs H Q E, sp_Alphabet_signs_of K vs H Q E → t_Alphabet_signs_of K (WD E) (EndD Q) (start ["self", "name"] vs) H := by
  intro vs H Q E h
  replace h := h.out
  obtain ⟨A, dA, l, v, n, rfl, hA, hn, q⟩ := h
  cases T
  repeat' ac_rfl
  all_goals (try (conv => whnf))
  · rename_i x1
    exact setK_s q (by unfold stv; rw [if_pos x1]) H Kp.rfl'
  · rename_i x1 x2
    exact setK_s q (by unfold stv; rw [if_neg x1, if_pos x2]) H Kp.rfl'
  · rename_i x1 x2 x3
    exact setK_s q (by unfold stv; rw [if_neg x1, if_neg x2, if_pos x3]) H Kp.rfl'
  · rename_i x1 x2 x3 x4
    exact setK_s q (by unfold stv; rw [if_neg x1, if_neg x2, if_neg x3, if_pos x4]) H Kp.rfl'
  · rename_i x1 x2 x3 x4 x5
    exact setK_s q (by unfold stv; rw [if_neg x1, if_neg x2, if_neg x3, if_neg x4, if_pos x5]) H Kp.rfl'
  · rename_i x1 x2 x3 x4 x5
    have e : stv l v n = lsv l n := by unfold stv; rw [if_neg x1, if_neg x2, if_neg x3, if_neg x4, if_neg x5]
    rw [e] at q
    exact q

theorem setK_i {K : PySem.W.Frag} {o : Option (List Nat)} {n : List Nat} {H : Hp} {Q : VK} {E : XK} (q1 : ∀ m, o = some m → ∀ H', Kp [] H H' → Q (.str (S m)) H') (q2 : o = none → ∀ H' d, Kp [] H H' → H' d = none → E (.ref (He.ga K "BadSet")) (some d) (upd H' d (.xd [("name", .str (S n))]))) : setK K o n H Q E := by
  refine ⟨?_⟩
  cases o with
  | none => exact q2 rfl
  | some m => exact q1 m rfl

theorem rd_signs_named {K : PySem.W.Frag} {mg : Str → Option Value} (T : Tx K mg) : ∀ vs H Q E, sp_signs_named K vs H Q E → t_signs_named K (WD E) (EndD Q) (start ["alphabet", "name", "e"] vs) H := by
  intro vs H Q E h
  replace h := h.out
  obtain ⟨A, dA, l, v, n, rfl, hA, h1, q1, q2⟩ := h
  have T0 := T
  cases T
  repeat' ac_rfl
  all_goals (try (conv => whnf))
  refine i_Alphabet_signs_of hA h1 (setK_i (fun m e H' k => q1 m e H' k) fun e H' d k hd => ?_)
  have q2 := q2 e
  repeat' ac_rfl
  all_goals (try (conv => whnf))
  rename_i d2 hd2
  exact q2.out _ d2 (k.new hd) hd2


theorem rd_drop_spelling {K : PySem.W.Frag} {mg : Str → Option Value} (T : Tx K mg) : ∀ vs H Q E, sp_drop_spelling K vs H Q E → t_drop_spelling K (WD E) (EndD Q) (start ["name", "after", "each", "counted"] vs) H := by
  intro vs H Q E h
  replace h := h.out
  obtain ⟨n, a, e, rfl, h1, h2, q1⟩ := h
  have T0 := T
  cases T
  rcases a with _ | _ | _ | _ | a
  · cases e
    · repeat' ac_rfl
      all_goals (try (conv => whnf))
      rename_i p hp
      exact joi_spl (a := 0) (e := false) h1 rfl rfl (q1 _ (Kp.rfl'.new hp))
    · repeat' ac_rfl
      all_goals (try (conv => whnf))
      rename_i p hp
      exact joi_spl (a := 0) (e := true) h1 rfl rfl (q1 _ (Kp.rfl'.new hp))
  · cases e
    · repeat' ac_rfl
      all_goals (try (conv => whnf))
      · exact sd_i (by decide)
      · exact sd_i (by show _ ≤ _; decide)
      · rename_i p hp
        exact joi_spl (a := 1) (e := false) h1 rfl rfl (q1 _ (Kp.rfl'.new hp))
    · repeat' ac_rfl
      all_goals (try (conv => whnf))
      · exact sd_i (by decide)
      · exact sd_i (by show _ ≤ _; decide)
      · rename_i p hp
        exact joi_spl (a := 1) (e := true) h1 rfl rfl (q1 _ (Kp.rfl'.new hp))
  · cases e
    · repeat' ac_rfl
      all_goals (try (conv => whnf))
      · exact sd_i (by decide)
      · exact sd_i (by show _ ≤ _; decide)
      · rename_i p hp
        exact joi_spl (a := 2) (e := false) h1 rfl rfl (q1 _ (Kp.rfl'.new hp))
    · repeat' ac_rfl
      all_goals (try (conv => whnf))
      · exact sd_i (by decide)
      · exact sd_i (by show _ ≤ _; decide)
      · rename_i p hp
        exact joi_spl (a := 2) (e := true) h1 rfl rfl (q1 _ (Kp.rfl'.new hp))
  · cases e
    · repeat' ac_rfl
      all_goals (try (conv => whnf))
      · exact sd_i (by decide)
      · exact sd_i (by show _ ≤ _; decide)
      · rename_i p hp
        exact joi_spl (a := 3) (e := false) h1 rfl rfl (q1 _ (Kp.rfl'.new hp))
    · repeat' ac_rfl
      all_goals (try (conv => whnf))
      · exact sd_i (by decide)
      · exact sd_i (by show _ ≤ _; decide)
      · rename_i p hp
        exact joi_spl (a := 3) (e := true) h1 rfl rfl (q1 _ (Kp.rfl'.new hp))
  · omega


theorem rd_Drop_init {K : PySem.W.Frag} {mg : Str → Option Value} (T : Tx K mg) : ∀ vs H Q E, sp_Drop_init K vs H Q E → t_Drop_init K (WD E) (EndD Q) (NdefX.startF ["self", "alphabet", "name", "after", "each", "__class__"] vs [some (.ref (He.ga K "Drop"))]) H := by
  intro vs H Q E h
  replace h := h.out
  obtain ⟨x, dx, A, dA, k, l, v, n, i, e, rfl, hk, hx, hA, h1, q1, q2, q3⟩ := h
  have T0 := T
  cases T
  rcases (show k = 3 ∨ k = 4 by omega) with rfl | rfl
  · have hx1 : H x = some (.ins (He.ga K "Drop") dx []) := hx
    have hAx : A ≠ x := ne_ho hA hx1 (by
      intro z
      injection z with z1 z2 z3
      cases z3)
    repeat' ac_rfl
    all_goals (try (conv => whnf))
    refine i_Stage_init (k := 3) (by omega) hx1 ?_
    repeat' ac_rfl
    all_goals (try (conv => whnf))
    · rename_i m sm H1 k1 i0 i3
      obtain ⟨a, rfl⟩ := Int.eq_ofNat_of_zero_le i0
      have ha : a < 4 := by omega
      have k2 : Kp [x] H H1 := (Kp.rfl'.at List.mem_cons_self).trans k1.nil
      repeat' ac_rfl
      all_goals (try (conv => whnf))
      rename_i H2 k3
      refine q1 m a sm rfl ha _ ?_ upd_at
      have k4 := (((((k2.at List.mem_cons_self).at List.mem_cons_self).at List.mem_cons_self).at List.mem_cons_self).trans k3.nil)
      exact k4.at List.mem_cons_self
    · rename_i m sm H1 k1 i0 i3 d hd
      have k2 : Kp [x] H H1 := (Kp.rfl'.at List.mem_cons_self).trans k1.nil
      exact (q3 (by rw [sm]; intro z; cases z) (by omega) _ (k2.at List.mem_cons_self)).out _ d Kp.rfl' hd
    · rename_i m sm H1 k1 i0 d hd
      have k2 : Kp [x] H H1 := (Kp.rfl'.at List.mem_cons_self).trans k1.nil
      exact (q3 (by rw [sm]; intro z; cases z) (by omega) _ (k2.at List.mem_cons_self)).out _ d Kp.rfl' hd
    · rename_i sn
      exact q2 sn _ (Kp.rfl'.at List.mem_cons_self)
  · have hx1 : H x = some (.ins (He.ga K "LastDrop") dx []) := hx
    have hAx : A ≠ x := ne_ho hA hx1 (by
      intro z
      injection z with z1 z2 z3
      cases z3)
    repeat' ac_rfl
    all_goals (try (conv => whnf))
    refine i_Stage_init (k := 4) (by omega) hx1 ?_
    repeat' ac_rfl
    all_goals (try (conv => whnf))
    · rename_i m sm H1 k1 i0 i3
      obtain ⟨a, rfl⟩ := Int.eq_ofNat_of_zero_le i0
      have ha : a < 4 := by omega
      have k2 : Kp [x] H H1 := (Kp.rfl'.at List.mem_cons_self).trans k1.nil
      repeat' ac_rfl
      all_goals (try (conv => whnf))
      rename_i H2 k3
      refine q1 m a sm rfl ha _ ?_ upd_at
      have k4 := (((((k2.at List.mem_cons_self).at List.mem_cons_self).at List.mem_cons_self).at List.mem_cons_self).trans k3.nil)
      exact k4.at List.mem_cons_self
    · rename_i m sm H1 k1 i0 i3 d hd
      have k2 : Kp [x] H H1 := (Kp.rfl'.at List.mem_cons_self).trans k1.nil
      exact (q3 (by rw [sm]; intro z; cases z) (by omega) _ (k2.at List.mem_cons_self)).out _ d Kp.rfl' hd
    · rename_i m sm H1 k1 i0 d hd
      have k2 : Kp [x] H H1 := (Kp.rfl'.at List.mem_cons_self).trans k1.nil
      exact (q3 (by rw [sm]; intro z; cases z) (by omega) _ (k2.at List.mem_cons_self)).out _ d Kp.rfl' hd
    · rename_i sn
      exact q2 sn _ (Kp.rfl'.at List.mem_cons_self)


theorem rd_LastDrop_init {K : PySem.W.Frag} {mg : Str → Option Value} (T : Tx K mg) : ∀ vs H Q E, sp_LastDrop_init K vs H Q E → t_LastDrop_init K (WD E) (EndD Q) (NdefX.startF ["self", "alphabet", "name", "after", "each", "__class__"] vs [some (.ref (He.ga K "LastDrop"))]) H := by
  intro vs H Q E h
  replace h := h.out
  obtain ⟨x, dx, A, dA, l, v, n, i, e, rfl, hx, hA, h1, q1, q2, q3⟩ := h
  have T0 := T
  cases T
  have hAx : A ≠ x := ne_ho hA hx (by
    intro z
    injection z with z1 z2 z3
    cases z3)
  repeat' ac_rfl
  all_goals (try (conv => whnf))
  show sp_Drop_init K [.ref x, .ref A, .str (S n), .int i, .bl e] H _ _
  refine i_Drop_init (k := 4) (.inr rfl) hx hA h1 (fun m a sm ei ha H1 k1 hx1 => ?_) (fun sn H1 k1 => q2 sn H1 k1) fun sn ni H1 k1 => q3 sn ni H1 k1
  subst ei
  have hsp := spl_len (n := n) (a := a) (e := e) h1
  repeat' ac_rfl
  all_goals (try (conv => whnf))
  rename_i H2 k2
  exact q1 m a sm rfl ha _ ((k1.trans k2.nil).at List.mem_cons_self) upd_at

theorem mdK {H H' : Hp} {x dx : Addr} {o : HO} (k : Kp [x] (upd (upd H dx (.own x)) x o) H') (hx : H x = none) (hd : H dx = none) : Kp [] H H' := Kp.made hx hd k
theorem mk_A {H : Hp} {A x dx : Addr} {o o1 : HO} (hA : H A = some o) (hx : H x = none) (hd : H dx = none) : upd (upd H dx (.own x)) x o1 A = some o := by
  rw [upd_ne (ne_none hA hx), upd_ne (ne_none hA hd)]
  exact hA
theorem rf_drop {K : PySem.W.Frag} {H : Hp} {x dx A dA : Addr} {l v n : List Nat} {i : Int} {e : Bool} {Q : VK} {E : XK} (hA : H A = some (alo K dA l v)) (h1 : n.length < 60) (hx : H x = none) (hd : H dx = none)
    (c1 : ∀ H' m a, Kp [] H H' → stv l v n = some m → i = ((a : Nat) : Int) → a < 4 → stgAt K H' x 3 A n m 0 a e → Q .non H') (c2 : stv l v n = none → ∀ H', Kp [] H H' → errK K "BadStage" "what" (.str (S wSet)) H' E)
    (c3 : ¬ stv l v n = none → ¬ (0 ≤ i ∧ i < 4) → ∀ H', Kp [] H H' → errK K "BadStage" "what" (.str (S wAfter)) H' E) : sp_Drop_init K [.ref x, .ref A, .str (S n), .int i, .bl e] (upd (upd H dx (.own x)) x (.ins (He.ga K "Drop") dx [])) Q E :=
  i_Drop_init (k := 3) (.inl rfl) upd_at (mk_A hA hx hd) h1 (fun m a sm ea ha H1 k1 hx1 => c1 H1 m a (mdK k1 hx hd) sm ea ha ⟨_, hx1⟩) (fun sn H1 k1 => c2 sn H1 (mdK k1 hx hd)) fun sn ni H1 k1 => c3 sn ni H1 (mdK k1 hx hd)
theorem rf_last {K : PySem.W.Frag} {H : Hp} {x dx A dA : Addr} {l v n : List Nat} {i : Int} {e : Bool} {Q : VK} {E : XK} (hA : H A = some (alo K dA l v)) (h1 : n.length < 60) (hx : H x = none) (hd : H dx = none)
    (c1 : ∀ H' m a, Kp [] H H' → stv l v n = some m → i = ((a : Nat) : Int) → a < 4 → stgAt K H' x 4 A n m 0 a e → Q .non H') (c2 : stv l v n = none → ∀ H', Kp [] H H' → errK K "BadStage" "what" (.str (S wSet)) H' E)
    (c3 : ¬ stv l v n = none → ¬ (0 ≤ i ∧ i < 4) → ∀ H', Kp [] H H' → errK K "BadStage" "what" (.str (S wAfter)) H' E) : sp_LastDrop_init K [.ref x, .ref A, .str (S n), .int i, .bl e] (upd (upd H dx (.own x)) x (.ins (He.ga K "LastDrop") dx [])) Q E :=
  i_LastDrop_init upd_at (mk_A hA hx hd) h1 (fun m a sm ea ha H1 k1 hx1 => c1 H1 m a (mdK k1 hx hd) sm ea ha ⟨_, hx1⟩) (fun sn H1 k1 => c2 sn H1 (mdK k1 hx hd)) fun sn ni H1 k1 => c3 sn ni H1 (mdK k1 hx hd)
theorem ob_drop {K : PySem.W.Frag} {H : Hp} {x dx A dA : Addr} {l v n m : List Nat} {i : Int} {a : Nat} {e : Bool} {Q : VK} {E : XK} (hA : H A = some (alo K dA l v)) (h1 : n.length < 60) (hx : H x = none) (hd : H dx = none) (sm : stv l v n = some m) (ei : i = (a : Int)) (h2 : a < 4)
    (q : ∀ H', Kp [] H H' → stgAt K H' x 3 A n m 0 a e → Q .non H') : sp_Drop_init K [.ref x, .ref A, .str (S n), .int i, .bl e] (upd (upd H dx (.own x)) x (.ins (He.ga K "Drop") dx [])) Q E := by
  refine rf_drop hA h1 hx hd (fun H' m' a' k sm' ea ha hs => ?_) (fun sn => absurd sn (by rw [sm]; intro z; cases z)) fun _ ni => absurd ⟨by omega, by omega⟩ ni
  obtain rfl : a' = a := by omega
  rw [sm] at sm'
  cases sm'
  exact q H' k hs
theorem ob_last {K : PySem.W.Frag} {H : Hp} {x dx A dA : Addr} {l v n m : List Nat} {i : Int} {a : Nat} {e : Bool} {Q : VK} {E : XK} (hA : H A = some (alo K dA l v)) (h1 : n.length < 60) (hx : H x = none) (hd : H dx = none) (sm : stv l v n = some m) (ei : i = (a : Int)) (h2 : a < 4)
    (q : ∀ H', Kp [] H H' → stgAt K H' x 4 A n m 0 a e → Q .non H') : sp_LastDrop_init K [.ref x, .ref A, .str (S n), .int i, .bl e] (upd (upd H dx (.own x)) x (.ins (He.ga K "LastDrop") dx [])) Q E := by
  refine rf_last hA h1 hx hd (fun H' m' a' k sm' ea ha hs => ?_) (fun sn => absurd sn (by rw [sm]; intro z; cases z)) fun _ ni => absurd ⟨by omega, by omega⟩ ni
  obtain rfl : a' = a := by omega
  rw [sm] at sm'
  cases sm'
  exact q H' k hs

theorem rd_l_refusal {K : PySem.W.Frag} {mg : Str → Option Value} (T : Tx K mg) : ∀ vs H Q E, sp_l_refusal K vs H Q E → t_l_refusal K (WD E) (EndD Q) (start ["_law_alpha", "_law_last", "_law_name_here", "_law_number", "_law_joined", "e"] vs) H := by
  intro vs H Q E h
  replace h := h.out
  obtain ⟨A, dA, l, v, n, i, e, la, rfl, hA, h1, q1⟩ := h
  have T0 := T
  cases T
  cases la
  · repeat' ac_rfl
    all_goals (try (conv => whnf))
    refine rf_drop hA h1 ‹H _ = none› ‹H _ = none› (fun H1 m a k1 s i0 ha hs => ⟨rfl, ?_⟩) (fun s H1 k1 => ⟨fun H2 d k2 hd2 => ?_⟩) (fun s i0 H1 k1 => ⟨fun H2 d k2 hd2 => ?_⟩)
    repeat' ac_rfl
    all_goals (try (conv => whnf))
    · rename_i w hw
      exact q1 w false [] _ (.inr (.inr ⟨(by rw [s]; intro z; cases z), by omega, rfl, rfl⟩)) (k1.new hw) (k1.none hw) upd_at
    · rename_i z a ha w hw
      exact q1 w true wSet _ (.inl ⟨s, rfl, rfl⟩) (((k1.trans k2).new hd2).new hw) (((k1.trans k2).new hd2).none hw) upd_at
    · rename_i z a ha w hw
      exact q1 w true wAfter _ (.inr (.inl ⟨s, i0, rfl, rfl⟩)) (((k1.trans k2).new hd2).new hw) (((k1.trans k2).new hd2).none hw) upd_at
  · repeat' ac_rfl
    all_goals (try (conv => whnf))
    refine rf_last hA h1 ‹H _ = none› ‹H _ = none› (fun H1 m a k1 s i0 ha hs => ⟨rfl, ?_⟩) (fun s H1 k1 => ⟨fun H2 d k2 hd2 => ?_⟩) (fun s i0 H1 k1 => ⟨fun H2 d k2 hd2 => ?_⟩)
    repeat' ac_rfl
    all_goals (try (conv => whnf))
    · rename_i w hw
      exact q1 w false [] _ (.inr (.inr ⟨(by rw [s]; intro z; cases z), by omega, rfl, rfl⟩)) (k1.new hw) (k1.none hw) upd_at
    · rename_i z a ha w hw
      exact q1 w true wSet _ (.inl ⟨s, rfl, rfl⟩) (((k1.trans k2).new hd2).new hw) (((k1.trans k2).new hd2).none hw) upd_at
    · rename_i z a ha w hw
      exact q1 w true wAfter _ (.inr (.inl ⟨s, i0, rfl, rfl⟩)) (((k1.trans k2).new hd2).new hw) (((k1.trans k2).new hd2).none hw) upd_at

theorem sg_1 {l : List Nat} {j : Nat} (hj : j < (sg l).length) : (tl (S (sg l)))[j]'hj ∈ sg l := List.getElem_mem _
theorem ref_bad {K : PySem.W.Frag} {A dA : Addr} {l v n : List Nat} {i : Int} {e la : Bool} {H : Hp} {Q : VK} {E : XK} (hA : H A = some (alo K dA l v)) (h1 : n.length < 60) (hn : stv l v n = none)
    (q : ∀ w H', Kp [] H H' → H w = none → H' w = some (.tup [.bl true, .str (S wSet)]) → Q (.ref w) H') : sp_l_refusal K [.ref A, .bl la, .str (S n), .int i, .bl e] H Q E := by
  refine i_l_refusal hA h1 fun w b u H' h k hw hw' => ?_
  rcases h with ⟨_, rfl, rfl⟩ | ⟨h, _⟩ | ⟨h, _⟩
  · exact q w H' k hw hw'
  · exact absurd hn h
  · exact absurd hn h
theorem ref_far {K : PySem.W.Frag} {A dA : Addr} {l v n m : List Nat} {i : Int} {e la : Bool} {H : Hp} {Q : VK} {E : XK} (hA : H A = some (alo K dA l v)) (h1 : n.length < 60) (hn : stv l v n = some m) (hi : ¬ (0 ≤ i ∧ i < 4))
    (q : ∀ w H', Kp [] H H' → H w = none → H' w = some (.tup [.bl true, .str (S wAfter)]) → Q (.ref w) H') : sp_l_refusal K [.ref A, .bl la, .str (S n), .int i, .bl e] H Q E := by
  refine i_l_refusal hA h1 fun w b u H' h k hw hw' => ?_
  rcases h with ⟨h, _⟩ | ⟨_, _, rfl, rfl⟩ | ⟨_, h, _⟩
  · rw [hn] at h; cases h
  · exact q w H' k hw hw'
  · exact absurd h hi
theorem ref_no {K : PySem.W.Frag} {A dA : Addr} {l v n m : List Nat} {i : Int} {e la : Bool} {H : Hp} {Q : VK} {E : XK} (hA : H A = some (alo K dA l v)) (h1 : n.length < 60) (hn : stv l v n = some m) (hi : 0 ≤ i ∧ i < 4)
    (q : ∀ w H', Kp [] H H' → H w = none → H' w = some (.tup [.bl false, .str (S [])]) → Q (.ref w) H') : sp_l_refusal K [.ref A, .bl la, .str (S n), .int i, .bl e] H Q E := by
  refine i_l_refusal hA h1 fun w b u H' h k hw hw' => ?_
  rcases h with ⟨h, _⟩ | ⟨_, h, _⟩ | ⟨_, _, rfl, rfl⟩
  · rw [hn] at h; cases h
  · exact absurd hi h
  · exact q w H' k hw hw'
theorem two_bl {i : Nat} (h : i < ([.bl false, .bl true] : List V).length) : ∃ la : Bool, ([.bl false, .bl true] : List V)[i] = .bl la := by
  rcases i with _ | _ | i
  · exact ⟨false, rfl⟩
  · exact ⟨true, rfl⟩
  · exact absurd h (by show ¬ i + 2 < 2; omega)
theorem seg_rf4 {K : PySem.W.Frag} {mg : Str → Option Value} (T0 : Tx K mg) {E : XK} {Q : VK} {b A dA p r w1 : Addr} {l v n n1 : List Nat} {a : Nat} {e : Bool} {f : Int} {xv : V} {H : Hp}
    (hA : H A = some (alo K dA l v)) (hr : H r = some (.tup [.str (S n), .int (a : Int), .bl e])) (hn : ∃ m, nmOk l v n m) (hn1 : nobad l v n1) (ha : a < 4) (hx : xv = .int f) (hf : ¬ (0 ≤ f ∧ f < 4))
    (q1 : ∀ H', Kp [] H H' → Q (.bl true) H') :
    t_l_refusals_4 K (WD E) (EndD Q) [some (.ref b), some (.ref A), some (.str (S (sg l))), some (.ref p), some (.ref r), some (.ref w1), some (.str (S n1)), some xv, none, none, none] H := by
  subst hx
  obtain ⟨m, hm⟩ := hn
  have hn2 := hn1.n1
  have hn3 := hm.n1
  refine ⟨?_⟩
  have T := T0
  cases T0
  repeat' ac_rfl
  all_goals (try (conv => whnf))
  rename_i G hG
  refine loop_l (fun j σ H' => Sd (∃ v8 v9 v10 : Option V, σ = [some (.ref b), some (.ref A), some (.str (S (sg l))), some (.ref p), some (.ref r), some (.ref w1), some (.str (S n1)), some (.int f), v8, v9, v10] ∧ Kp [] H H' ∧ H' G = some (.lst [.bl false, .bl true]))) ?_ ?_ ?_ ?_
  · exact sd_i ⟨_, _, _, rfl, Kp.rfl'.new hG, upd_at⟩
  · rintro i σ H' hi hP
    obtain ⟨v8, v9, v10, rfl, kk, hG1⟩ := sd_e hP
    exact hG1
  · rintro i hi σ H' hP
    obtain ⟨v8, v9, v10, rfl, kk, hG1⟩ := sd_e hP
    obtain ⟨la, ela⟩ := two_bl hi
    rw [ela]
    repeat' ac_rfl
    all_goals (try (conv => whnf))
    rename_i G2 hG2
    have hGG : G ≠ G2 := ne_none hG1 hG2
    refine loop_l (fun j σ H' => Sd (∃ v9 v10 : Option V, σ = [some (.ref b), some (.ref A), some (.str (S (sg l))), some (.ref p), some (.ref r), some (.ref w1), some (.str (S n1)), some (.int f), some (.bl la), v9, v10] ∧ Kp [] H H' ∧ H' G = some (.lst [.bl false, .bl true]) ∧ H' G2 = some (.lst [.bl false, .bl true]))) ?_ ?_ ?_ ?_
    · exact sd_i ⟨_, _, rfl, kk.new hG2, upd_off hGG hG1, upd_at⟩
    · rintro i σ H' hi hP
      obtain ⟨v9, v10, rfl, kk, hG1, hG2⟩ := sd_e hP
      exact hG2
    · rintro i hi σ H' hP
      obtain ⟨v9, v10, rfl, kk, hG1, hG2⟩ := sd_e hP
      obtain ⟨jo, ejo⟩ := two_bl hi
      rw [ejo]
      have hA0 := kk.get0 hA
      have hr0 := kk.get0 hr
      repeat' ac_rfl
      all_goals (try (conv => whnf))
      refine ref_bad hA0 hn2 hn1.st fun u1 H1 k1 hu1 e1 => ?_
      have hr1 := k1.get0 hr0
      have hA1 := k1.get0 hA0
      clear hu1
      repeat' ac_rfl
      all_goals (try (conv => whnf))
      rename_i p1 hp1
      refine ref_bad (upd_fr hp1 hA1) hn2 hn1.st fun u1 H2 k2 hu1 e1 => ?_
      have kI2 := (k1.new hp1).trans k2
      have hr2 := kI2.get0 hr0
      have hA2 := kI2.get0 hA0
      clear k1 k2 hu1
      repeat' ac_rfl
      all_goals (try (conv => whnf))
      rename_i p2 hp2
      refine ref_far (upd_fr hp2 hA2) hn3 hm.st hf fun u1 H3 k3 hu1 e1 => ?_
      have kI3 := (kI2.new hp2).trans k3
      clear kI2 k3 hu1 hr2 hA2
      repeat' ac_rfl
      all_goals (try (conv => whnf))
      rename_i p3 hp3
      have kI4 := kI3.new (o := .tup [.bl true, .str (S wAfter)]) hp3
      refine loop_r (fun j σ H'' => Sd (∃ v10 : Option V, σ = [some (.ref b), some (.ref A), some (.str (S (sg l))), some (.ref p), some (.ref r), some (.ref w1), some (.str (S n1)), some (.int f), some (.bl la), some (.bl jo), v10] ∧ Kp [] H' H'')) ?_ ?_ ?_
      · exact sd_i ⟨_, rfl, kI4⟩
      · rintro j σ H5 hj hP
        obtain ⟨v10, rfl, k5⟩ := sd_e hP
        have hj : j < 4 := hj
        have hA5 := k5.get0 hA0
        have hr5 := k5.get0 hr0
        repeat' ac_rfl
        all_goals (try (conv => whnf))
        refine ref_no hA5 hn3 hm.st (by omega) fun u1 H6 k6 hu1 e1 => ?_
        repeat' ac_rfl
        all_goals (try (conv => whnf))
        rename_i p6 hp6
        exact sd_i ⟨_, rfl, (k5.trans k6).new hp6⟩
      · rintro σ H5 hP
        obtain ⟨v10, rfl, k5⟩ := sd_e hP
        repeat' ac_rfl
        all_goals (try (conv => whnf))
        exact sd_i ⟨_, _, rfl, kk.trans k5, k5.get0 hG1, k5.get0 hG2⟩
    · rintro σ H' hP
      obtain ⟨v9, v10, rfl, kk, hG1, hG2⟩ := sd_e hP
      repeat' ac_rfl
      all_goals (try (conv => whnf))
      exact sd_i ⟨_, _, _, rfl, kk, hG1⟩
  · rintro σ H' hP
    obtain ⟨v8, v9, v10, rfl, kk, hG1⟩ := sd_e hP
    repeat' ac_rfl
    all_goals (try (conv => whnf))
    exact q1 H' kk
theorem seg_rf3 {K : PySem.W.Frag} {mg : Str → Option Value} (T0 : Tx K mg) {E : XK} {Q : VK} {b A dA p r w1 : Addr} {l v n n1 : List Nat} {a : Nat} {e : Bool} {H : Hp}
    (hb : bx H b) (hA : H A = some (alo K dA l v)) (hr : H r = some (.tup [.str (S n), .int (a : Int), .bl e])) (hn : ∃ m, nmOk l v n m) (ha : a < 4) (hn1 : nobad l v n1) {xv : V} (hx : xv = .str (S n1))
    (q1 : ∀ H', Kp [b] H H' → bx H' b → Q (.bl true) H') :
    t_l_refusals_3 K (WD E) (EndD Q) [some (.ref b), some (.ref A), some (.str (S (sg l))), some (.ref p), some (.ref r), some (.ref w1), some xv, none, none, none, none] H := by
  have nAb : A ≠ b := hb.ne hA (fun _ _ _ _ e => by cases e)
  have nrb : r ≠ b := hb.ne hr (fun _ _ _ _ e => by cases e)
  obtain ⟨ba, bn, bm, bf, hb0⟩ := hb.out
  subst hx
  refine ⟨?_⟩
  have T := T0
  cases T0
  repeat' ac_rfl
  all_goals (try (conv => whnf))
  rename_i r1 H1 r10 r11 k1 b1 w2 hw2 r2 H2 r20 r21 k2 b2 j hj ej
  have kk : Kp [b] H H2 := Kp.trans (Kp.new k1 hw2) k2
  have hf : ∃ f : Int, ([V.int (-1), V.int 4, (fun i j : Int => V.int (i ^ j.toNat)) 10 39, V.int (-10 ^ Int.toNat 39), V.int (5 + r1)] : List V)[j] = .int f ∧ ¬ (0 ≤ f ∧ f < 4) := by
    rcases j with _ | _ | _ | _ | _ | j
    · exact ⟨_, rfl, by decide⟩
    · exact ⟨_, rfl, by decide⟩
    · exact ⟨_, rfl, by decide⟩
    · exact ⟨_, rfl, by decide⟩
    · exact ⟨_, rfl, by omega⟩
    · exact absurd hj (by show ¬ j + 5 < 5; omega)
  obtain ⟨f, ef, hf⟩ := hf
  exact seg_rf4 T (kk.get1 hA nAb) (kk.get1 hr nrb) hn hn1 ha ef hf fun H' k' => q1 H' (kk.trans k'.nil) (b2.kp k')

theorem rd_l_refusals {K : PySem.W.Frag} {mg : Str → Option Value} (T : Tx K mg) : ∀ vs H Q E, sp_l_refusals K vs H Q E → t_l_refusals K (WD E) (EndD Q) (start ["_law_box_here", "_law_alpha", "_law_signs", "_law_pool", "_law_form_here", "_law_names", "_law_bad", "_law_far", "_law_last", "_law_joined", "_law_number"] vs) H := by
  intro vs H Q E h
  replace h := h.out
  obtain ⟨b, A, dA, p, r, l, v, po, n, a, e, rfl, hb, hA, hg, hp, hq, hr, hn, ha, q1⟩ := h
  have T0 := T
  cases T
  have hl := badL_inv hg.1
  have hpl := hq.length_eq
  rw [List.length_append] at hpl
  have hpl : l.length + po.length = 26 := hpl
  have hsl := sg_len hg
  have hgl : (tl (S (sg l))).length = (sg l).length := rfl
  have hpm : (po.map fun c => V.str (S [c])).length = po.length := List.length_map _
  have npb := hb.nl hp
  have nAb : A ≠ b := hb.ne hA (fun _ _ _ _ e => by cases e)
  have nrb : r ≠ b := hb.ne hr (fun _ _ _ _ e => by cases e)
  repeat' ac_rfl
  all_goals (try (conv => whnf))
  rename_i w1 hw1 j1 hj1 e1 r1 H1 r10 r11 k1 b1 j2 hj2 e2
  have hj3 : j2 < po.length := by rw [← hpm]; exact hj2
  rw [show (po.map fun c => V.str (S [c]))[j2] = .str (S [po[j2]]) from List.getElem_map ..]
  have nw1 := hb.nn hw1
  have hA1 := k1.get1 (upd_fr hw1 hA) nAb
  have hp1 := k1.get1 (upd_fr hw1 hp) npb
  have hr1 := k1.get1 (upd_fr hw1 hr) nrb
  have hw2 := k1.get1 upd_at nw1
  have kk : Kp [b] H H1 := Kp.trans (Kp.rfl'.new hw1) k1
  clear k1 hw1
  obtain ⟨ba, bn, bm, bf, hb1⟩ := b1.out
  repeat' ac_rfl
  all_goals (try (conv => whnf))
  rename_i w3 hw3 w4 hw4 r5 H5 r50 r51 k5 b5 j hj e
  obtain ⟨n1, en, hn1⟩ := bad_all (l := l) (v := v) hg hq (sg_1 hj1) (List.getElem_mem hj3) _ (List.getElem_mem hj)
  have en : _ = V.str (S n1) := en
  simp only [tl_S] at en
  have k6 : Kp [b] H H5 := (Kp.trans ((kk.new hw3).new hw4) k5)
  have hA5 := k6.get1 hA nAb
  have hp5 := k6.get1 hp npb
  have hr5 := k6.get1 hr nrb
  clear k5
  exact seg_rf3 T0 b5 hA5 hr5 hn ha hn1 en fun H' k' b' => q1 H' (k6.trans k') b'


theorem rd_l_object {K : PySem.W.Frag} {mg : Str → Option Value} (T : Tx K mg) : ∀ vs H Q E, sp_l_object K vs H Q E → t_l_object K (WD E) (EndD Q) (start ["_law_alpha", "_law_form_here", "_law_last", "_law_name_here", "_law_number", "_law_joined"] vs) H := by
  intro vs H Q E h
  replace h := h.out
  obtain ⟨A, dA, r, l, v, n, a, e, la, rfl, hA, hr, hn, h2, q1⟩ := h
  have T0 := T
  cases T
  obtain ⟨m, hm⟩ := hn
  have h1 := hm.n1
  cases la
  · cases e
    · repeat' ac_rfl
      all_goals (try (conv => whnf))
      all_goals (exact ob_drop hA h1 ‹H _ = none› ‹H _ = none› hm.st (by omega) h2 fun H' k hs => ⟨rfl, q1 _ m H' hm.st k ‹H _ = none› hs⟩)
    · repeat' ac_rfl
      all_goals (try (conv => whnf))
      all_goals (exact ob_drop hA h1 ‹H _ = none› ‹H _ = none› hm.st (by omega) h2 fun H' k hs => ⟨rfl, q1 _ m H' hm.st k ‹H _ = none› hs⟩)
  · cases e
    · repeat' ac_rfl
      all_goals (try (conv => whnf))
      all_goals (exact ob_last hA h1 ‹H _ = none› ‹H _ = none› hm.st (by omega) h2 fun H' k hs => ⟨rfl, q1 _ m H' hm.st k ‹H _ = none› hs⟩)
    · repeat' ac_rfl
      all_goals (try (conv => whnf))
      all_goals (exact ob_last hA h1 ‹H _ = none› ‹H _ = none› hm.st (by omega) h2 fun H' k hs => ⟨rfl, q1 _ m H' hm.st k ‹H _ = none› hs⟩)


theorem rd_Drop_str {K : PySem.W.Frag} {mg : Str → Option Value} (T : Tx K mg) : ∀ vs H Q E, sp_Drop_str K vs H Q E → t_Drop_str K (WD E) (EndD Q) (start ["self"] vs) H := by
  intro vs H Q E h
  replace h := h.out
  obtain ⟨x, A, n, m, c, a, e, rfl, hx, h1, q1⟩ := h
  have T0 := T
  cases T
  obtain ⟨dx, hx⟩ := hx.out
  have hx1 : H x = some (.ins (He.ga K "Drop") dx [("alphabet", .ref A), ("chosen", .str (S m)), ("name", .str (S n)), ("after", .int (a : Int)), ("each", .bl e), ("spelling", .str (S (spl n a e)))]) := hx
  have hln : (spl n a e).length < 100 := spl_len h1
  repeat' ac_rfl
  all_goals (try (conv => whnf))
  exact q1


theorem rd_LastDrop_str {K : PySem.W.Frag} {mg : Str → Option Value} (T : Tx K mg) : ∀ vs H Q E, sp_LastDrop_str K vs H Q E → t_LastDrop_str K (WD E) (EndD Q) (start ["self"] vs) H := by
  intro vs H Q E h
  replace h := h.out
  obtain ⟨x, A, n, m, c, a, e, rfl, hx, h1, q1⟩ := h
  have T0 := T
  cases T
  obtain ⟨dx, hx⟩ := hx.out
  have hx1 : H x = some (.ins (He.ga K "LastDrop") dx [("alphabet", .ref A), ("chosen", .str (S m)), ("name", .str (S n)), ("after", .int (a : Int)), ("each", .bl e), ("spelling", .str (S (spl n a e ++ [32, 98, 117, 116, 32, 108, 97, 115, 116])))]) := hx
  have hln : (spl n a e).length < 100 := spl_len h1
  repeat' ac_rfl
  all_goals (try (conv => whnf))
  exact q1

theorem q_str {Q : VK} {H : Hp} {u v : List Nat} (q : Q (.str (S u)) H) (h : u = v) : Q (.str (S v)) H := h ▸ q
theorem ts1 : tl (Str.ofString (toString (((0 + 1 : Nat) : Int)))) = [49] := by rfl
theorem ts2 : tl (Str.ofString (toString (((0 + 1 + 1 : Nat) : Int)))) = [50] := by rfl
theorem ts3 : tl (Str.ofString (toString (((0 + 1 + 1 + 1 : Nat) : Int)))) = [51] := by rfl

theorem rd_l_written {K : PySem.W.Frag} {mg : Str → Option Value} (T : Tx K mg) : ∀ vs H Q E, sp_l_written K vs H Q E → t_l_written K (WD E) (EndD Q) (start ["_law_form_here", "_law_last", "_law_words"] vs) H := by
  intro vs H Q E h
  replace h := h.out
  obtain ⟨r, n, a, e, la, rfl, hr, h1, h2, q1⟩ := h
  have T0 := T
  cases T
  have hsp := spl_len (n := n) (a := a) (e := e) h1
  rcases a with _ | _ | _ | _ | a
  · cases e
    · cases la
      · repeat' ac_rfl
        all_goals (try (conv => whnf))
        (refine q_str q1 ?_; simp [spl, dgt, tl_S])
      · repeat' ac_rfl
        all_goals (try (conv => whnf))
        (refine q_str q1 ?_; simp [spl, dgt, tl_S])
    · cases la
      · repeat' ac_rfl
        all_goals (try (conv => whnf))
        (refine q_str q1 ?_; simp [spl, dgt, tl_S])
      · repeat' ac_rfl
        all_goals (try (conv => whnf))
        (refine q_str q1 ?_; simp [spl, dgt, tl_S])
  · cases e
    · cases la
      · repeat' ac_rfl
        all_goals (try (conv => whnf))
        all_goals (first | (refine q_str q1 ?_; rw [ts1]; simp [spl, dgt, tl_S]) | exact sd_i (by decide) | (exact sd_i (lim_of (by rw [ts1]; simp [tl_S]; omega))))
      · repeat' ac_rfl
        all_goals (try (conv => whnf))
        all_goals (first | (refine q_str q1 ?_; rw [ts1]; simp [spl, dgt, tl_S]) | exact sd_i (by decide) | (exact sd_i (lim_of (by rw [ts1]; simp [tl_S]; omega))))
    · cases la
      · repeat' ac_rfl
        all_goals (try (conv => whnf))
        all_goals (first | (refine q_str q1 ?_; rw [ts1]; simp [spl, dgt, tl_S]) | exact sd_i (by decide) | (exact sd_i (lim_of (by rw [ts1]; simp [tl_S]; omega))))
      · repeat' ac_rfl
        all_goals (try (conv => whnf))
        all_goals (first | (refine q_str q1 ?_; rw [ts1]; simp [spl, dgt, tl_S]) | exact sd_i (by decide) | (exact sd_i (lim_of (by rw [ts1]; simp [tl_S]; omega))))
  · cases e
    · cases la
      · repeat' ac_rfl
        all_goals (try (conv => whnf))
        all_goals (first | (refine q_str q1 ?_; rw [ts2]; simp [spl, dgt, tl_S]) | exact sd_i (by decide) | (exact sd_i (lim_of (by rw [ts2]; simp [tl_S]; omega))))
      · repeat' ac_rfl
        all_goals (try (conv => whnf))
        all_goals (first | (refine q_str q1 ?_; rw [ts2]; simp [spl, dgt, tl_S]) | exact sd_i (by decide) | (exact sd_i (lim_of (by rw [ts2]; simp [tl_S]; omega))))
    · cases la
      · repeat' ac_rfl
        all_goals (try (conv => whnf))
        all_goals (first | (refine q_str q1 ?_; rw [ts2]; simp [spl, dgt, tl_S]) | exact sd_i (by decide) | (exact sd_i (lim_of (by rw [ts2]; simp [tl_S]; omega))))
      · repeat' ac_rfl
        all_goals (try (conv => whnf))
        all_goals (first | (refine q_str q1 ?_; rw [ts2]; simp [spl, dgt, tl_S]) | exact sd_i (by decide) | (exact sd_i (lim_of (by rw [ts2]; simp [tl_S]; omega))))
  · cases e
    · cases la
      · repeat' ac_rfl
        all_goals (try (conv => whnf))
        all_goals (first | (refine q_str q1 ?_; rw [ts3]; simp [spl, dgt, tl_S]) | exact sd_i (by decide) | (exact sd_i (lim_of (by rw [ts3]; simp [tl_S]; omega))))
      · repeat' ac_rfl
        all_goals (try (conv => whnf))
        all_goals (first | (refine q_str q1 ?_; rw [ts3]; simp [spl, dgt, tl_S]) | exact sd_i (by decide) | (exact sd_i (lim_of (by rw [ts3]; simp [tl_S]; omega))))
    · cases la
      · repeat' ac_rfl
        all_goals (try (conv => whnf))
        all_goals (first | (refine q_str q1 ?_; rw [ts3]; simp [spl, dgt, tl_S]) | exact sd_i (by decide) | (exact sd_i (lim_of (by rw [ts3]; simp [tl_S]; omega))))
      · repeat' ac_rfl
        all_goals (try (conv => whnf))
        all_goals (first | (refine q_str q1 ?_; rw [ts3]; simp [spl, dgt, tl_S]) | exact sd_i (by decide) | (exact sd_i (lim_of (by rw [ts3]; simp [tl_S]; omega))))
  · omega


theorem rd_Alphabet_eq {K : PySem.W.Frag} {mg : Str → Option Value} (T : Tx K mg) : ∀ vs H Q E, sp_Alphabet_eq K vs H Q E → t_Alphabet_eq K (WD E) (EndD Q) (start ["self", "other"] vs) H := by
  intro vs H Q E h
  replace h := h.out
  obtain ⟨a, b, dx, dy, l, v, m, u, rfl, ha, hb, q⟩ := h
  cases T
  repeat' ac_rfl
  all_goals (conv => whnf)
  · rename_i x
    have x : srt l = srt m := x
    rw [decide_eq_true x, Bool.true_and] at q
    exact q
  · rename_i x
    have x : ¬ srt l = srt m := x
    rw [decide_eq_false x, Bool.false_and] at q
    rw [decide_eq_false (show ¬ tl (S (srt l)) = tl (S (srt m)) from x)]
    exact q


theorem rd_l_shown {K : PySem.W.Frag} {mg : Str → Option Value} (T : Tx K mg) : ∀ vs H Q E, sp_l_shown K vs H Q E → t_l_shown K (WD E) (EndD Q) (start ["_law_stage", "_law_alpha", "_law_form_here", "_law_last", "_law_written_here"] vs) H := by
  intro vs H Q E h
  replace h := h.out
  obtain ⟨x, A, dA, r, l, v, n, m, a, e, la, rfl, hx, hA, hr, h1, h2, q1⟩ := h
  have T0 := T
  cases T
  obtain ⟨dx, hx0⟩ := hx.out
  have hsp := spl_len (n := n) (a := a) (e := e) h1
  cases la
  · have hx1 : H x = some (.ins (He.ga K "Drop") dx [("alphabet", .ref A), ("chosen", .str (S m)), ("name", .str (S n)), ("after", .int (a : Int)), ("each", .bl e), ("spelling", .str (S (spl n a e)))]) := hx0
    repeat' ac_rfl
    all_goals (try (conv => whnf))
    · exact q1 H Kp.rfl'
    · rename_i z
      exact absurd (show spl n a e = spl n a e ++ [] from (List.append_nil _).symm) z
  · have hx1 : H x = some (.ins (He.ga K "LastDrop") dx [("alphabet", .ref A), ("chosen", .str (S m)), ("name", .str (S n)), ("after", .int (a : Int)), ("each", .bl e), ("spelling", .str (S (spl n a e ++ [32, 98, 117, 116, 32, 108, 97, 115, 116])))]) := hx0
    repeat' ac_rfl
    all_goals (try (conv => whnf))
    · exact q1 H Kp.rfl'
    · rename_i z
      exact absurd rfl z

theorem nm_list {l u : List Nat} (h1 : ∀ c ∈ u, c ∈ sg l) (h2 : u.Pairwise (· < ·)) (h3 : 0 < u.length) (h4 : u.length ≤ 5) (v : List Nat) : ∃ m, nmOk l v (91 :: (u ++ [93])) m := by
  refine ⟨u, ⟨by rw [List.length_cons, List.length_append]; show u.length + 1 + 1 < 60; omega, ?_⟩⟩
  unfold stv
  rw [if_neg (by intro z; cases z), if_neg (by intro z; cases z), if_neg (by intro z; cases z), if_neg (by intro z; cases z), if_neg (by intro z; cases z)]
  unfold lsv
  rw [if_neg, mid_br, if_pos (asc_iff.mpr ⟨h1, h2⟩)]
  rintro (z | z | z)
  · rw [List.length_cons, List.length_append] at z
    have z : u.length + 1 + 1 < 3 := z
    omega
  · exact z rfl
  · refine z ?_
    rw [List.length_cons, List.length_append]
    show (91 :: (u ++ [93]))[u.length + 1 + 1 - 1]? = some 93
    rw [show u.length + 1 + 1 - 1 = u.length + 1 by omega, List.getElem?_cons_succ, List.getElem?_append_right (Nat.le_refl _), Nat.sub_self]
    rfl

theorem rd_l_name {K : PySem.W.Frag} {mg : Str → Option Value} (T : Tx K mg) : ∀ vs H Q E, sp_l_name K vs H Q E → t_l_name K (WD E) (EndD Q) (start ["_law_box_here", "_law_signs", "_law_pick", "_law_picked", "_law_one"] vs) H := by
  intro vs H Q E h
  replace h := h.out
  obtain ⟨b, l, rfl, hb, hl, hs, q1⟩ := h
  have T0 := T
  cases T
  have hgl : (tl (S (sg l))).length = (sg l).length := rfl
  repeat' ac_rfl
  all_goals (try (conv => whnf))
  · rename_i r H1 r0 r1 k1 b1 z p hp j hj e
    have nw := b1.nn hp
    rcases j with _ | _ | _ | _ | _ | j
    · exact q1 nAll _ (fun v => ⟨_, ⟨by decide, rfl⟩⟩) (k1.new hp) (b1.off nw)
    · exact q1 nLet _ (fun v => ⟨_, ⟨by decide, rfl⟩⟩) (k1.new hp) (b1.off nw)
    · exact q1 nVow _ (fun v => ⟨_, ⟨by decide, rfl⟩⟩) (k1.new hp) (b1.off nw)
    · exact q1 nCon _ (fun v => ⟨_, ⟨by decide, rfl⟩⟩) (k1.new hp) (b1.off nw)
    · exact q1 nJoi _ (fun v => ⟨_, ⟨by decide, rfl⟩⟩) (k1.new hp) (b1.off nw)
    · exact absurd hj (by show ¬ j + 1 + 1 + 1 + 1 + 1 < 5; omega)
  · rename_i r H1 r0 r1 k1 b1 z
    refine loop_s (fun j σ H' => Sd (∃ (u : List Nat) (v4 : Option V), σ = [some (.ref b), some (.str (S (sg l))), some (.int r), some (.str (S u)), v4] ∧ Kp [b] H H' ∧ bx H' b ∧ u.Sublist ((sg l).take j))) ?_ ?_ ?_
    · exact sd_i ⟨[], none, rfl, k1, b1, List.Sublist.refl _⟩
    · rintro j hj σ H' hP
      obtain ⟨u, v4, rfl, k3, b3, su⟩ := sd_e hP
      have hj : j < (sg l).length := hj
      have hul := su.length_le
      rw [List.length_take] at hul
      repeat' ac_rfl
      all_goals (try (conv => whnf))
      · rename_i r2 H4 r20 r21 k4 b4 z2
        refine sd_i ⟨u ++ [(sg l)[j]], _, rfl, k3.trans k4, b4, ?_⟩
        rw [List.take_succ_eq_append_getElem hj]
        exact su.append (List.Sublist.refl _)
      · rename_i r2 H4 r20 r21 k4 b4 z2
        refine sd_i ⟨u, _, rfl, k3.trans k4, b4, ?_⟩
        rw [List.take_succ_eq_append_getElem hj]
        exact su.trans (List.sublist_append_left _ _)
    · rintro σ H' hP
      obtain ⟨u, v4, rfl, k3, b3, su⟩ := sd_e hP
      have et : (sg l).take (tl (S (sg l))).length = sg l := List.take_length
      rw [et] at su
      have hul := su.length_le
      repeat' ac_rfl
      all_goals (try (conv => whnf))
      · rename_i z2 r2 H4 r20 r21 k4 b4 i hi e
        exact q1 (91 :: ([(sg l)[i]] ++ [93])) _ (nm_list (u := [(sg l)[i]]) (fun c hc => by rw [List.mem_singleton.mp hc]; exact List.getElem_mem _) (List.pairwise_singleton _ _) (Nat.succ_pos _) (by show 1 ≤ 5; decide)) (k3.trans k4) b4
      · rename_i z2
        have hu0 : 0 < u.length := by
          rcases u with _ | ⟨a, u⟩
          · exact absurd rfl z2
          · exact Nat.succ_pos _
        exact q1 (91 :: (u ++ [93])) _ (nm_list (fun c hc => su.subset hc) (hs.sublist su) hu0 (by omega)) k3 b3


theorem rd_l_form {K : PySem.W.Frag} {mg : Str → Option Value} (T : Tx K mg) : ∀ vs H Q E, sp_l_form K vs H Q E → t_l_form K (WD E) (EndD Q) (start ["_law_box_here", "_law_signs", "_law_name_here", "_law_number", "_law_joined"] vs) H := by
  intro vs H Q E h
  replace h := h.out
  obtain ⟨b, l, rfl, hb, hl, hs, q1⟩ := h
  have T0 := T
  cases T
  have hgl : (tl (S (sg l))).length = (sg l).length := rfl
  repeat' ac_rfl
  all_goals (try (conv => whnf))
  rename_i n H1 nm k1 b1 r H2 r0 r1 k2 b2 r3 H3 r30 r31 k3 b3 w hw
  have nw := b3.nn hw
  have k12 := (k1.trans k2).trans k3
  have hw0 : H w = none := by
    cases e0 : H w with
    | none => rfl
    | some o => rw [k12.get1 e0 nw] at hw; cases hw
  obtain ⟨a, rfl⟩ := Int.eq_ofNat_of_zero_le r0
  exact q1 n a _ w _ nm (by omega) (k12.new hw) (b3.off nw) hw0 upd_at

theorem map_er {α β : Type} (f : α → β) : ∀ (l : List α) (k : Nat), (l.map f).eraseIdx k = (l.eraseIdx k).map f
  | [], k => rfl
  | a :: l, 0 => rfl
  | a :: l, k + 1 => by show f a :: (l.map f).eraseIdx k = f a :: (l.eraseIdx k).map f; rw [map_er f l k]
theorem pop_perm {α : Type} {l po : List α} {j : Nat} (h : j < po.length) : ((l ++ [po[j]]) ++ po.eraseIdx j).Perm (l ++ po) := by
  rw [List.append_assoc]
  refine List.Perm.append_left l ?_
  rw [List.eraseIdx_eq_take_drop_succ]
  refine (List.perm_middle (a := po[j]) (l₁ := po.take j) (l₂ := po.drop (j + 1))).symm.trans ?_
  rw [← List.drop_eq_getElem_cons h, List.take_append_drop]

theorem rd_l_world {K : PySem.W.Frag} {mg : Str → Option Value} (T : Tx K mg) : ∀ vs H Q E, sp_l_world K vs H Q E → t_l_world K (WD E) (EndD Q) (start ["_law_box_here", "_law_count", "_law_pool", "_law_letters", "_law_vowels", "_law_k", "_law_one"] vs) H := by
  intro vs H Q E h
  replace h := h.out
  obtain ⟨b, c, rfl, hb, hc, q1⟩ := h
  have T0 := T
  cases T
  repeat' ac_rfl
  all_goals (try (conv => whnf))
  rename_i p hp r H1 r0 r1 k1 b1
  have hpb : p ≠ b := hb.nn hp
  have hp1 : H1 p = some (pol AZ) := k1.get1 upd_at hpb
  refine loop_r (fun j σ H' => Sd (∃ (po l v : List Nat) (v5 v6 : Option V), σ = [some (.ref b), some (.int c), some (.ref p), some (.str (S l)), some (.str (S v)), v5, v6] ∧ Kp [b] H H' ∧ bx H' b ∧ H' p = some (pol po) ∧ po.length + j = 26 ∧ l.length = j ∧ (l ++ po).Perm AZ ∧ v.Nodup ∧ ∀ x ∈ v, x ∈ l)) ?_ ?_ ?_
  · exact sd_i ⟨AZ, [], [], none, none, rfl, Kp.trans (Kp.rfl'.new hp) k1, b1, hp1, rfl, rfl, .refl _, List.nodup_nil, fun _ z => absurd z List.not_mem_nil⟩
  · rintro j σ H' hj hP
    obtain ⟨po, l, v, v5, v6, rfl, kk, b2, hp2, pl, ll, pm, vn, vs⟩ := sd_e hP
    have hj2 : j < 4 := by omega
    repeat' ac_rfl
    all_goals (try (conv => whnf))
    rename_i r2 H4 r20 r21 k4 b4 i1 hi1 e1 i2 hi2 e2
    obtain rfl : i1 = i2 := by omega
    have hi3 : i1 < po.length := by rw [List.length_map] at hi1; exact hi1
    have ev : (po.map fun c => V.str (S [c]))[i1] = .str (S [po[i1]]) := List.getElem_map ..
    rw [ev]
    have hvl : v.length ≤ l.length := nd_len vn vs
    have b5 : bx (upd H4 p (.lst ((po.map fun c => V.str (S [c])).eraseIdx i1))) b := b4.off hpb
    repeat' ac_rfl
    all_goals (try (conv => whnf))
    · have nd := pm.nodup_iff.mpr (by decide : AZ.Nodup)
      have nn : ¬ po[i1] ∈ v := fun z => (List.nodup_append.mp nd).2.2 _ (vs _ z) _ (List.getElem_mem hi3) rfl
      have le : (po.eraseIdx i1).length + (j + 1) = 26 := by rw [List.length_eraseIdx_of_lt hi3]; omega
      have l2 : (l ++ [po[i1]]).length = j + 1 := by rw [List.length_append, ll]; rfl
      rename_i r5 H5 r50 r51 k5 b5 z
      refine sd_i ⟨po.eraseIdx i1, l ++ [po[i1]], po[i1] :: v, _, _, rfl, ((kk.trans k4).own hp).trans k5, b5, (k5.get1 upd_at hpb).trans (by rw [map_er]), le, l2, (pop_perm hi3).trans pm, List.nodup_cons.mpr ⟨nn, vn⟩, fun x hx => ?_⟩
      rcases List.mem_cons.mp hx with hx | hx
      · rw [hx]; exact List.mem_append_right _ List.mem_cons_self
      · exact List.mem_append_left _ (vs x hx)
    · rename_i r5 H5 r50 r51 k5 b5 z
      have nd := pm.nodup_iff.mpr (by decide : AZ.Nodup)
      have le : (po.eraseIdx i1).length + (j + 1) = 26 := by rw [List.length_eraseIdx_of_lt hi3]; omega
      have l2 : (l ++ [po[i1]]).length = j + 1 := by rw [List.length_append, ll]; rfl
      exact sd_i ⟨po.eraseIdx i1, l ++ [po[i1]], v, _, _, rfl, ((kk.trans k4).own hp).trans k5, b5, (k5.get1 upd_at hpb).trans (by rw [map_er]), le, l2, (pop_perm hi3).trans pm, vn, fun x hx => List.mem_append_left _ (vs x hx)⟩
  · rintro σ H' hP
    obtain ⟨po, l, v, v5, v6, rfl, kk, b2, hp2, pl, ll, pm, vn, vs⟩ := sd_e hP
    repeat' ac_rfl
    all_goals (try (conv => whnf))
    rename_i w hw
    have nw := b2.nn hw
    have hwp : p ≠ w := ne_none hp2 hw
    have hw0 : H w = none := by
      cases e0 : H w with
      | none => rfl
      | some o => rw [kk.get1 e0 nw] at hw; cases hw
    exact q1 w p l v po _ ⟨badL_ok (by omega) (by omega) (List.nodup_append.mp (pm.nodup_iff.mpr (by decide))).1 (fun x hx => pm.mem_iff.mp (List.mem_append_left _ hx)), badV_ok vn vs⟩ pm (kk.new hw) (b2.off nw) hw0 hp hwp (upd_off hwp hp2) upd_at


theorem rd_all_different {K : PySem.W.Frag} {mg : Str → Option Value} (T : Tx K mg) : ∀ vs H Q E, sp_all_different K vs H Q E → t_all_different K (WD E) (EndD Q) (start ["string"] vs) H := by
  intro vs H Q E h
  replace h := h.out
  obtain ⟨l, rfl, h1, q⟩ := h
  repeat' ac_rfl
  all_goals (conv => whnf)
  exact q


theorem rd_Alphabet_init {K : PySem.W.Frag} {mg : Str → Option Value} (T : Tx K mg) : ∀ vs H Q E, sp_Alphabet_init K vs H Q E → t_Alphabet_init K (WD E) (EndD Q) (start ["self", "letters", "vowels", "foreign", "sign"] vs) H := by
  intro vs H Q E h
  replace h := h.out
  obtain ⟨a, dx, l, v, rfl, ha, h1, h2, q1, q2, q3⟩ := h
  cases T
  have g1 : (tl (S l)).length < 64 := h1
  have g2 : (tl (S v)).length < 64 := h2
  conv => whnf
  refine lcp_f (fun c => !decide (c ∈ AZ)) (by omega) ?_ ?_ (fun _ => rfl) ?_
  · rintro c D _ Q' hD hc ⟨xs, rfl⟩ q
    exact q
  · intro c H' Q' q
    exact q
  intro D hD
  repeat' ac_rfl
  all_goals (try (conv => whnf))
  rotate_left 1
  · rename_i d hd; exact q1 (badL4 (by assumption)) _ d (Kp.rfl'.new hD) hd
  · rename_i d hd; exact q1 (badL3 (by assumption)) _ d (Kp.rfl'.new hD) hd
  · rename_i d hd; exact q1 (badL2 (by assumption)) _ d (Kp.rfl'.new hD) hd
  · rename_i d hd; exact q1 (badL1 (by assumption)) _ d (Kp.rfl'.new hD) hd
  have hL : badL l = false := badL0 (by assumption) (by assumption) (by assumption) (by assumption)
  refine lcp_f (fun c => !decide (c ∈ l)) (by omega) ?_ ?_ (fun _ => rfl) ?_
  · rintro c D _ Q' hD hc ⟨xs, rfl⟩ q
    exact q
  · intro c H' Q' q
    exact q
  intro D2 hD2
  repeat' ac_rfl
  all_goals (try (conv => whnf))
  rotate_left 1
  · rename_i d hd; exact q2 hL (badV2 (by assumption)) _ d (by left) hd
  · rename_i d hd; exact q2 hL (badV1 (by assumption)) _ d (by left) hd
  have hV : badV l v = false := badV0 (by assumption) (by assumption)
  have q3 := q3 hL hV
  refine lcp_l (by contradiction) (fun c => !decide (c ∈ v)) (by bv_omega) ?_ ?_ (fun _ => rfl) ?_
  · rintro c D _ Q' hD hc ⟨xs, rfl⟩ q
    exact q
  · intro c H' Q' q
    exact q
  intro D3 hD3
  have hfl : ((srt (tl (S l))).filter fun c => !decide (c ∈ v)).length ≤ 1000000 := Nat.le_trans (List.length_filter_le _ _) (by bv_omega)
  repeat' ac_rfl
  all_goals (try (conv => whnf))
  exact q3 _ (by left) (upd_at.trans rfl)

theorem kd_34 (b : Bool) : kd b = 3 ∨ kd b = 4 := by cases b; exact .inl rfl; exact .inr rfl
theorem seg_l11 {K : PySem.W.Frag} {mg : Str → Option Value} (T0 : Tx K mg) {E : XK} {Q : VK} {sp p A dA F L b T : Addr} {l v po n0 n1 : List Nat} {a0 a1 : Nat} {e0 e1 : Bool} {xs : List Addr} {ts : List (List Nat)} {v8 v11 v12 v13 v14 v15 v16 v17 v18 : Option V} {H : Hp}
    (hb : bx H b) (hA : H A = some (alo K dA l v)) (hg : good l v) (hp : H p = some (pol po)) (hq : (l ++ po).Perm AZ) (hL : H L = some (.lst (xs.map V.ref))) (hx : xs.length = 4) (hxs : ∀ (i : Nat) (hi : i < xs.length), stk K H xs[i] A l v (sl n0 n1 i) (sl a0 a1 i) (sl e0 e1 i) (decide ((0 + (i : Int)) % 2 = 1))) (hT : H T = some (.lst (ts.map fun t => V.str (S t)))) (ht0 : 0 < ts.length) (ht : ∀ t ∈ ts, t.length < 70 ∧ ∀ a ∈ t, a ∈ sg l)
    (q1 : ∀ H', Q (.bl true) H') :
    t_law_11 K (WD E) (EndD Q) [some (.ref sp), some (.str (S l)), some (.str (S v)), some (.ref p), some (.ref A), some (.str (S (sg l))), some (.ref F), some (.ref L), v8, some (.ref b), some (.ref T), v11, v12, v13, v14, v15, v16, v17, v18, none, none] H := by
  have hl := badL_inv hg.1
  have hpl := hq.length_eq
  rw [List.length_append] at hpl
  have hpl : l.length + po.length = 26 := hpl
  have hpm : (po.map fun c => V.str (S [c])).length = po.length := List.length_map _
  have npb := hb.nl hp
  obtain ⟨ba, bn, bm, bf, hb0⟩ := hb.out
  have hxm : (xs.map V.ref).length = xs.length := List.length_map _
  refine ⟨?_⟩
  have T' := T0
  cases T0
  repeat' ac_rfl
  all_goals (try (conv => whnf))
  rename_i j hj ej
  have hjt := ht _ (List.getElem_mem hj)
  generalize ts[j] = t at hjt
  have htl : (tl (S t)).length = t.length := rfl
  repeat' ac_rfl
  all_goals (try (conv => whnf))
  rename_i r1 H1 r10 r11 k1 b1 r2 H2 r20 r21 k2 b2 j2 hj2 e2 w hw r3 H3 r30 r31 k3 b3 j3 hj3 e3
  have hj4 : j2 < po.length := by rw [← hpm]; exact hj2
  have hst : ∃ s0, ([V.str (S [65]), V.str (S [32]), (po.map fun c => V.str (S [c]))[j2], V.str (S [95]), V.str (S [10])] : List V)[j3] = .str (S [s0]) ∧ ¬ s0 ∈ sg l := by
    rw [show (po.map fun c => V.str (S [c]))[j2] = .str (S [po[j2]]) from List.getElem_map ..]
    rcases j3 with _ | _ | _ | _ | _ | j3
    · exact ⟨65, rfl, sg_no hg (by decide) (by decide)⟩
    · exact ⟨32, rfl, sg_no hg (by decide) (by decide)⟩
    · exact ⟨_, rfl, po_no hg hq (List.getElem_mem hj4)⟩
    · exact ⟨95, rfl, sg_no hg (by decide) (by decide)⟩
    · exact ⟨10, rfl, sg_no hg (by decide) (by decide)⟩
    · exact absurd hj3 (by show ¬ j3 + 5 < 5; omega)
  obtain ⟨s0, es, hs0⟩ := hst
  rw [es]
  have kk : Kp [b] H H3 := Kp.trans (Kp.new (Kp.trans k1 k2) hw) k3
  have nLb : L ≠ b := hb.ne hL fun a n m f e => by
    rcases xs with _ | ⟨x, xs⟩
    · cases e
    · injection e with e
      injection e with e1 e2
      cases e1
  have nAb : A ≠ b := hb.ne hA (fun _ _ _ _ e => by cases e)
  have hA3 := kk.get1 hA nAb
  have hL3 := kk.get1 hL nLb
  have xs3 : ∀ (i : Nat) (hi : i < xs.length), stk K H3 xs[i] A l v (sl n0 n1 i) (sl a0 a1 i) (sl e0 e1 i) (decide ((0 + (i : Int)) % 2 = 1)) := fun i hi => by
    obtain ⟨m', h1, h2⟩ := (hxs i hi).out
    obtain ⟨d, h2⟩ := h2.out
    exact ⟨m', h1, ⟨d, kk.get1 h2 (hb.ne h2 (fun _ _ _ _ e => by cases e))⟩⟩
  clear k1 k2 k3 hxs hL hA hp
  repeat' ac_rfl
  all_goals (try (conv => whnf))
  refine loop_l (fun j σ H' => Sd (∃ v17 : Option V, σ = [some (.ref sp), some (.str (S l)), some (.str (S v)), some (.ref p), some (.ref A), some (.str (S (sg l))), some (.ref F), some (.ref L), v8, some (.ref b), some (.ref T), v11, some (.str (S t)), v13, v14, v15, v16, v17, v18, some (.int r1), some (.str (S [s0]))] ∧ Kp [] H3 H')) ?_ ?_ ?_ ?_
  · exact sd_i ⟨_, rfl, Kp.rfl'⟩
  · rintro i σ H' hi hP
    obtain ⟨v17, rfl, kk⟩ := sd_e hP
    exact kk.get0 hL3
  · rintro i hi σ H' hP
    obtain ⟨v17, rfl, kk⟩ := sd_e hP
    have hi2 : i < xs.length := by rw [← hxm]; exact hi
    rw [show (xs.map V.ref)[i] = .ref xs[i] from List.getElem_map ..]
    obtain ⟨m', h1, h2⟩ := ((xs3 i hi2).kp kk).out
    have hA4 := kk.get0 hA3
    have c1 := cut_len t none (some r1)
    have c2 := cut_len t (some r1) none
    have hlen : (cut t none (some r1) ++ [s0] ++ cut t (some r1) none).length < 1000 := by
      rw [List.length_append, List.length_append]
      show _ + 1 + _ < 1000
      omega
    have hal : ((cut t none (some r1) ++ [s0] ++ cut t (some r1) none).all fun a => decide (a ∈ sg l)) = false := by
      rw [List.all_eq_false]
      exact ⟨s0, by simp, by rw [decide_eq_false hs0]; decide⟩
    repeat' ac_rfl
    all_goals (try (conv => whnf))
    refine i_l_refuses_text (kd_34 _) h2 hA4 hlen hal fun H5 k5 => ?_
    repeat' ac_rfl
    all_goals (try (conv => whnf))
    exact sd_i ⟨_, rfl, kk.trans k5⟩
  · rintro σ H' hP
    obtain ⟨v17, rfl, kk⟩ := sd_e hP
    repeat' ac_rfl
    all_goals (try (conv => whnf))
    exact q1 _
theorem seg_l10 {K : PySem.W.Frag} {mg : Str → Option Value} (T0 : Tx K mg) {E : XK} {Q : VK} {sp p A dA F L b T f0 f1 : Addr} {l v po n0 n1 m0 m1 : List Nat} {a0 a1 : Nat} {e0 e1 : Bool} {xs : List Addr} {ts : List (List Nat)} {v8 v11 : Option V} {H : Hp}
    (hb : bx H b) (hA : H A = some (alo K dA l v)) (hg : good l v) (hp : H p = some (pol po)) (hq : (l ++ po).Perm AZ) (hL : H L = some (.lst (xs.map V.ref))) (hx : xs.length = 4) (hxs : ∀ (i : Nat) (hi : i < xs.length), stk K H xs[i] A l v (sl n0 n1 i) (sl a0 a1 i) (sl e0 e1 i) (decide ((0 + (i : Int)) % 2 = 1)))
    (hF : H F = some (.lst [.ref f0, .ref f1])) (hf0 : H f0 = some (.tup [.str (S n0), .int (a0 : Int), .bl e0])) (hf1 : H f1 = some (.tup [.str (S n1), .int (a1 : Int), .bl e1])) (hn0 : nmOk l v n0 m0) (hn1 : nmOk l v n1 m1) (ha0 : a0 < 4) (ha1 : a1 < 4)
    (hT : H T = some (.lst (ts.map fun t => V.str (S t)))) (ht0 : 0 < ts.length) (ht : ∀ t ∈ ts, t.length < 70 ∧ ∀ a ∈ t, a ∈ sg l)
    (q1 : ∀ H', Q (.bl true) H') :
    t_law_10 K (WD E) (EndD Q) [some (.ref sp), some (.str (S l)), some (.str (S v)), some (.ref p), some (.ref A), some (.str (S (sg l))), some (.ref F), some (.ref L), v8, some (.ref b), some (.ref T), v11, none, none, none, none, none, none, none, none, none] H := by
  have hxm : (xs.map V.ref).length = xs.length := List.length_map _
  refine ⟨?_⟩
  have T' := T0
  cases T0
  repeat' ac_rfl
  all_goals (try (conv => whnf))
  refine loop_l (fun j σ H' => Sd (∃ v8 v12 v13 v14 v15 v16 v17 v18 : Option V, σ = [some (.ref sp), some (.str (S l)), some (.str (S v)), some (.ref p), some (.ref A), some (.str (S (sg l))), some (.ref F), some (.ref L), v8, some (.ref b), some (.ref T), v11, v12, v13, v14, v15, v16, v17, v18, none, none] ∧ Kp [] H H')) ?_ ?_ ?_ ?_
  · exact sd_i ⟨_, _, _, _, _, _, _, _, rfl, Kp.rfl'⟩
  · rintro i σ H' hi hP
    obtain ⟨v8, v12, v13, v14, v15, v16, v17, v18, rfl, kk⟩ := sd_e hP
    exact kk.get0 hT
  · rintro i hi σ H' hP
    obtain ⟨v8, v12, v13, v14, v15, v16, v17, v18, rfl, kk⟩ := sd_e hP
    have hi2 : i < ts.length := by rw [List.length_map] at hi; exact hi
    rw [show (ts.map fun t => V.str (S t))[i] = .str (S ts[i]) from List.getElem_map ..]
    have hti := ht _ (List.getElem_mem hi2)
    generalize ts[i] = t at hti
    repeat' ac_rfl
    all_goals (try (conv => whnf))
    rename_i G hG
    have k1 : Kp [] H (upd H' G (.lst [.int 0, .int 1, .int 2, .int 3, .int 1, .int 0])) := kk.new hG
    refine loop_l (fun j σ H' => Sd (∃ v8 v13 v14 v15 v16 v17 v18 : Option V, σ = [some (.ref sp), some (.str (S l)), some (.str (S v)), some (.ref p), some (.ref A), some (.str (S (sg l))), some (.ref F), some (.ref L), v8, some (.ref b), some (.ref T), v11, some (.str (S t)), v13, v14, v15, v16, v17, v18, none, none] ∧ Kp [] H H' ∧ H' G = some (.lst [.int 0, .int 1, .int 2, .int 3, .int 1, .int 0]))) ?_ ?_ ?_ ?_
    · exact sd_i ⟨_, _, _, _, _, _, _, rfl, k1, upd_at⟩
    · rintro i σ H' hi hP
      obtain ⟨v8, v13, v14, v15, v16, v17, v18, rfl, kk, hG1⟩ := sd_e hP
      exact hG1
    · rintro i hi σ H' hP
      obtain ⟨v8, v13, v14, v15, v16, v17, v18, rfl, kk, hG1⟩ := sd_e hP
      have hk : ∃ k : Nat, k < 4 ∧ ([.int 0, .int 1, .int 2, .int 3, .int 1, .int 0] : List V)[i] = .int (0 + (k : Int)) := by
        rcases i with _ | _ | _ | _ | _ | _ | i
        · exact ⟨0, by decide, rfl⟩
        · exact ⟨1, by decide, rfl⟩
        · exact ⟨2, by decide, rfl⟩
        · exact ⟨3, by decide, rfl⟩
        · exact ⟨1, by decide, rfl⟩
        · exact ⟨0, by decide, rfl⟩
        · exact absurd hi (by show ¬ i + 6 < 6; omega)
      obtain ⟨k, hk, ek⟩ := hk
      rw [ek]
      have hL2 := kk.get0 hL
      have hF2 := kk.get0 hF
      have hA2 := kk.get0 hA
      have hf02 := kk.get0 hf0
      have hf12 := kk.get0 hf1
      have hsx := (hxs k (by omega)).kp kk
      have ek2 : (0 + (k : Int)) / 2 = ((k / 2 : Nat) : Int) := by omega
      have hk2 : k / 2 < 2 := by omega
      obtain ⟨m', h1, h2⟩ := hsx.out
      have hlt : t.length < 1000 := by omega
      have no : ¬ (t.all fun a => decide (a ∈ sg l)) = false := fun z => by
        rw [List.all_eq_true.mpr fun a ha => decide_eq_true (hti.2 a ha)] at z
        cases z
      repeat' ac_rfl
      all_goals (try (conv => whnf))
      · rename_i z H5 k5
        have hk3 : k < 2 := by omega
        rw [sl_0 hk3] at h1
        rw [sl_0 hk3, sl_0 hk3, sl_0 hk3, Option.some.inj (h1.symm.trans hn0.st)] at h2
        refine i_l_drop rfl hlt ?_
        have h3 := h2.kp k5
        have hL5 := k5.get0 hL2
        have hA5 := k5.get0 hA2
        have hG5 := k5.get0 hG1
        have k7 := kk.trans k5
        clear h2 hsx
        repeat' ac_rfl
        all_goals (try (conv => whnf))
        rename_i j hj ej
        obtain rfl : k = j := by omega
        rw [show (xs.map V.ref)[k] = .ref xs[k] from List.getElem_map ..]
        generalize xs[k] = x at h3
        generalize decide ((0 + (k : Int)) % 2 = 1) = la at h3 ⊢
        have wrap : ∀ H'', Kp [] H5 H'' → Sd (∃ v8 v13 v14 v15 v16 v17 v18 : Option V, [some (.ref sp), some (.str (S l)), some (.str (S v)), some (.ref p), some (.ref A), some (.str (S (sg l))), some (.ref F), some (.ref L), some (.int (0 + (k : Int))), some (.ref b), some (.ref T), v11, some (.str (S t)), some (.str (S n0)), some (.int (a0 : Int)), some (.bl e0), some (.str (S (res (kd la) m0 0 a0 e0 t))), some (.ref x), some (.str (S (res (kd la) m0 0 a0 e0 t))), none, none] = [some (.ref sp), some (.str (S l)), some (.str (S v)), some (.ref p), some (.ref A), some (.str (S (sg l))), some (.ref F), some (.ref L), v8, some (.ref b), some (.ref T), v11, some (.str (S t)), v13, v14, v15, v16, v17, v18, none, none] ∧ Kp [] H H'' ∧ H'' G = some (.lst [.int 0, .int 1, .int 2, .int 3, .int 1, .int 0])) := fun H'' k'' => sd_i ⟨_, _, _, _, _, _, _, rfl, k7.trans k'', k''.get0 hG5⟩
        obtain ⟨dx, hx7⟩ := h3.out
        cases la
        · have hx8 : H5 x = some (.ins (He.ga K "Drop") dx [("alphabet", .ref A), ("chosen", .str (S m0)), ("name", .str (S n0)), ("after", .int (a0 : Int)), ("each", .bl e0), ("spelling", .str (S (spl n0 a0 e0)))]) := hx7
          repeat' ac_rfl
          all_goals (try (conv => whnf))
          · exact wrap _ ‹_›
          · rename_i z; exact absurd rfl z
          · rename_i z H9 d k9 hd; exact absurd z no
        · have hx8 : H5 x = some (.ins (He.ga K "LastDrop") dx [("alphabet", .ref A), ("chosen", .str (S m0)), ("name", .str (S n0)), ("after", .int (a0 : Int)), ("each", .bl e0), ("spelling", .str (S (spl n0 a0 e0 ++ [32, 98, 117, 116, 32, 108, 97, 115, 116])))]) := hx7
          repeat' ac_rfl
          all_goals (try (conv => whnf))
          · exact wrap _ ‹_›
          · rename_i z; exact absurd rfl z
          · rename_i z H9 d k9 hd; exact absurd z no
      · rename_i z H5 k5
        have hk3 : ¬ k < 2 := by omega
        rw [sl_1 hk3] at h1
        rw [sl_1 hk3, sl_1 hk3, sl_1 hk3, Option.some.inj (h1.symm.trans hn1.st)] at h2
        refine i_l_drop rfl hlt ?_
        have h3 := h2.kp k5
        have hL5 := k5.get0 hL2
        have hA5 := k5.get0 hA2
        have hG5 := k5.get0 hG1
        have k7 := kk.trans k5
        clear h2 hsx
        repeat' ac_rfl
        all_goals (try (conv => whnf))
        rename_i j hj ej
        obtain rfl : k = j := by omega
        rw [show (xs.map V.ref)[k] = .ref xs[k] from List.getElem_map ..]
        generalize xs[k] = x at h3
        generalize decide ((0 + (k : Int)) % 2 = 1) = la at h3 ⊢
        have wrap : ∀ H'', Kp [] H5 H'' → Sd (∃ v8 v13 v14 v15 v16 v17 v18 : Option V, [some (.ref sp), some (.str (S l)), some (.str (S v)), some (.ref p), some (.ref A), some (.str (S (sg l))), some (.ref F), some (.ref L), some (.int (0 + (k : Int))), some (.ref b), some (.ref T), v11, some (.str (S t)), some (.str (S n1)), some (.int (a1 : Int)), some (.bl e1), some (.str (S (res (kd la) m1 0 a1 e1 t))), some (.ref x), some (.str (S (res (kd la) m1 0 a1 e1 t))), none, none] = [some (.ref sp), some (.str (S l)), some (.str (S v)), some (.ref p), some (.ref A), some (.str (S (sg l))), some (.ref F), some (.ref L), v8, some (.ref b), some (.ref T), v11, some (.str (S t)), v13, v14, v15, v16, v17, v18, none, none] ∧ Kp [] H H'' ∧ H'' G = some (.lst [.int 0, .int 1, .int 2, .int 3, .int 1, .int 0])) := fun H'' k'' => sd_i ⟨_, _, _, _, _, _, _, rfl, k7.trans k'', k''.get0 hG5⟩
        obtain ⟨dx, hx7⟩ := h3.out
        cases la
        · have hx8 : H5 x = some (.ins (He.ga K "Drop") dx [("alphabet", .ref A), ("chosen", .str (S m1)), ("name", .str (S n1)), ("after", .int (a1 : Int)), ("each", .bl e1), ("spelling", .str (S (spl n1 a1 e1)))]) := hx7
          repeat' ac_rfl
          all_goals (try (conv => whnf))
          · exact wrap _ ‹_›
          · rename_i z; exact absurd rfl z
          · rename_i z H9 d k9 hd; exact absurd z no
        · have hx8 : H5 x = some (.ins (He.ga K "LastDrop") dx [("alphabet", .ref A), ("chosen", .str (S m1)), ("name", .str (S n1)), ("after", .int (a1 : Int)), ("each", .bl e1), ("spelling", .str (S (spl n1 a1 e1 ++ [32, 98, 117, 116, 32, 108, 97, 115, 116])))]) := hx7
          repeat' ac_rfl
          all_goals (try (conv => whnf))
          · exact wrap _ ‹_›
          · rename_i z; exact absurd rfl z
          · rename_i z H9 d k9 hd; exact absurd z no
    · rintro σ H' hP
      obtain ⟨v8, v13, v14, v15, v16, v17, v18, rfl, kk, hG1⟩ := sd_e hP
      exact sd_i ⟨_, _, _, _, _, _, _, _, rfl, kk⟩
  · rintro σ H' hP
    obtain ⟨v8, v12, v13, v14, v15, v16, v17, v18, rfl, kk⟩ := sd_e hP
    exact seg_l11 T' (hb.kp kk) (kk.get0 hA) hg (kk.get0 hp) hq (kk.get0 hL) hx (fun i hi => (hxs i hi).kp kk) (kk.get0 hT) ht0 ht q1
theorem seg_l8 {K : PySem.W.Frag} {mg : Str → Option Value} (T0 : Tx K mg) {E : XK} {Q : VK} {sp p A dA F L b f0 f1 : Addr} {ob : Obj} {ns : List Int} {l v po n0 n1 m0 m1 : List Nat} {a0 a1 : Nat} {e0 e1 : Bool} {xs : List Addr} {v8 : Option V} {H : Hp}
    (hb : bx H b) (hA : H A = some (alo K dA l v)) (hg : good l v) (hp : H p = some (pol po)) (hq : (l ++ po).Perm AZ) (hsp : H sp = some (.frz ob (.lst (ns.map V.int)))) (hns : ns.length < 1000) (hL : H L = some (.lst (xs.map V.ref))) (hx : xs.length = 4) (hxs : ∀ (i : Nat) (hi : i < xs.length), stk K H xs[i] A l v (sl n0 n1 i) (sl a0 a1 i) (sl e0 e1 i) (decide ((0 + (i : Int)) % 2 = 1)))
    (hF : H F = some (.lst [.ref f0, .ref f1])) (hf0 : H f0 = some (.tup [.str (S n0), .int (a0 : Int), .bl e0])) (hf1 : H f1 = some (.tup [.str (S n1), .int (a1 : Int), .bl e1])) (hn0 : nmOk l v n0 m0) (hn1 : nmOk l v n1 m1) (ha0 : a0 < 4) (ha1 : a1 < 4)
    (q1 : ∀ H', Q (.bl true) H') :
    t_law_8 K (WD E) (EndD Q) [some (.ref sp), some (.str (S l)), some (.str (S v)), some (.ref p), some (.ref A), some (.str (S (sg l))), some (.ref F), some (.ref L), v8, some (.ref b), none, none, none, none, none, none, none, none, none, none, none] H := by
  have hnm : (ns.map V.int).length = ns.length := List.length_map _
  have hsl := sg_len hg
  have hgl : (tl (S (sg l))).length = (sg l).length := rfl
  refine ⟨?_⟩
  have T' := T0
  cases T0
  repeat' ac_rfl
  all_goals (try (conv => whnf))
  rename_i T hT
  refine loop_r (fun j σ H' => Sd (∃ (ts : List (List Nat)) (v11 : Option V), σ = [some (.ref sp), some (.str (S l)), some (.str (S v)), some (.ref p), some (.ref A), some (.str (S (sg l))), some (.ref F), some (.ref L), v8, some (.ref b), some (.ref T), v11, none, none, none, none, none, none, none, none, none] ∧ Kp [] H H' ∧ H' T = some (.lst (ts.map fun t => V.str (S t))) ∧ ts.length = j + 1 ∧ ∀ t ∈ ts, t.length < 70 ∧ ∀ a ∈ t, a ∈ sg l)) ?_ ?_ ?_
  · exact sd_i ⟨[[]], _, rfl, Kp.rfl'.new hT, upd_at, rfl, fun t z => by rw [List.mem_singleton.mp z]; exact ⟨by decide, fun _ z => nomatch z⟩⟩
  · rintro j σ H' hj hP
    obtain ⟨ts, v11, rfl, kk, hT1, lt, ht⟩ := sd_e hP
    have hj2 : j < 63 := by omega
    have hsp2 := kk.get0 hsp
    have ej : (4 : Int) + (j : Int) = ((4 + j : Nat) : Int) := by omega
    repeat' ac_rfl
    all_goals (try (conv => whnf))
    refine i_l_box ej hsp2 hns (by omega) fun b1 H1 k1 hb1 bx1 => ?_
    have hTb : T ≠ b1 := ne_none hT1 hb1
    have hT2 := k1.get0 hT1
    repeat' ac_rfl
    all_goals (try (conv => whnf))
    rename_i t H2 t1 t2 k2 b2
    have hT3 := k2.get1 hT2 hTb
    have k3 : Kp [] H' H2 := k1.fr k2 fun z hz => by rw [List.mem_singleton.mp hz]; exact hb1
    have htm : (ts.map fun t => V.str (S t)).length = ts.length := List.length_map _
    clear k1 k2 hT2 hT1
    repeat' ac_rfl
    all_goals (try (conv => whnf))
    exact sd_i ⟨ts ++ [t], _, rfl, (kk.trans k3).own hT, upd_at.trans (by rw [List.map_append]; rfl), by rw [List.length_append, lt]; rfl, fun u hu => by
      rcases List.mem_append.mp hu with hu | hu
      · exact ht u hu
      · rw [List.mem_singleton.mp hu]; exact ⟨t1, t2⟩⟩
  · rintro σ H' hP
    obtain ⟨ts, v11, rfl, kk, hT1, lt, ht⟩ := sd_e hP
    exact seg_l10 T' (hb.kp kk) (kk.get0 hA) hg (kk.get0 hp) hq (kk.get0 hL) hx (fun i hi => (hxs i hi).kp kk) (kk.get0 hF) (kk.get0 hf0) (kk.get0 hf1) hn0 hn1 ha0 ha1 hT1 (by omega) ht q1
theorem seg_l6 {K : PySem.W.Frag} {mg : Str → Option Value} (T0 : Tx K mg) {E : XK} {Q : VK} {sp p A dA F L f0 f1 : Addr} {ob : Obj} {ns : List Int} {l v po n0 n1 m0 m1 : List Nat} {a0 a1 : Nat} {e0 e1 : Bool} {xs : List Addr} {v8 : Option V} {H : Hp}
    (hA : H A = some (alo K dA l v)) (hg : good l v) (hp : H p = some (pol po)) (hq : (l ++ po).Perm AZ) (hsp : H sp = some (.frz ob (.lst (ns.map V.int)))) (hns : ns.length < 1000) (hL : H L = some (.lst (xs.map V.ref))) (hx : xs.length = 4) (hxs : ∀ (i : Nat) (hi : i < xs.length), stk K H xs[i] A l v (sl n0 n1 i) (sl a0 a1 i) (sl e0 e1 i) (decide ((0 + (i : Int)) % 2 = 1)))
    (hF : H F = some (.lst [.ref f0, .ref f1])) (hf0 : H f0 = some (.tup [.str (S n0), .int (a0 : Int), .bl e0])) (hf1 : H f1 = some (.tup [.str (S n1), .int (a1 : Int), .bl e1])) (hn0 : nmOk l v n0 m0) (hn1 : nmOk l v n1 m1) (ha0 : a0 < 4) (ha1 : a1 < 4)
    (q1 : ∀ H', Q (.bl true) H') :
    t_law_6 K (WD E) (EndD Q) [some (.ref sp), some (.str (S l)), some (.str (S v)), some (.ref p), some (.ref A), some (.str (S (sg l))), some (.ref F), some (.ref L), v8, none, none, none, none, none, none, none, none, none, none, none, none] H := by
  have hsl := sg_len hg
  have hgl : (tl (S (sg l))).length = (sg l).length := rfl
  refine ⟨?_⟩
  have T' := T0
  cases T0
  repeat' ac_rfl
  all_goals (try (conv => whnf))
  refine i_l_box (i := 3) rfl hsp hns (by decide) fun b H1 k1 hbn hb => ?_
  have hA1 := k1.get0 hA
  have hF1 := k1.get0 hF
  have hf01 := k1.get0 hf0
  repeat' ac_rfl
  all_goals (try (conv => whnf))
  refine i_l_refusals hb hA1 hg (k1.get0 hp) hq hf01 ⟨m0, hn0⟩ ha0 fun H2 k2 hb2 => ?_
  repeat' ac_rfl
  all_goals (try (conv => whnf))
  have kk : Kp [] H H2 := k1.fr k2 fun z hz => by rw [List.mem_singleton.mp hz]; exact hbn
  exact seg_l8 T' hb2 (kk.get0 hA) hg (kk.get0 hp) hq (kk.get0 hsp) hns (kk.get0 hL) hx (fun i hi => (hxs i hi).kp kk) (kk.get0 hF) (kk.get0 hf0) (kk.get0 hf1) hn0 hn1 ha0 ha1 q1
theorem seg_l4 {K : PySem.W.Frag} {mg : Str → Option Value} (T0 : Tx K mg) {E : XK} {Q : VK} {sp p A dA F f0 f1 : Addr} {ob : Obj} {ns : List Int} {l v po n0 n1 m0 m1 : List Nat} {a0 a1 : Nat} {e0 e1 : Bool} {H : Hp}
    (hA : H A = some (alo K dA l v)) (hg : good l v) (hp : H p = some (pol po)) (hq : (l ++ po).Perm AZ) (hsp : H sp = some (.frz ob (.lst (ns.map V.int)))) (hns : ns.length < 1000)
    (hF : H F = some (.lst [.ref f0, .ref f1])) (hf0 : H f0 = some (.tup [.str (S n0), .int (a0 : Int), .bl e0])) (hf1 : H f1 = some (.tup [.str (S n1), .int (a1 : Int), .bl e1])) (hn0 : nmOk l v n0 m0) (hn1 : nmOk l v n1 m1) (ha0 : a0 < 4) (ha1 : a1 < 4)
    (q1 : ∀ H', Q (.bl true) H') :
    t_law_4 K (WD E) (EndD Q) [some (.ref sp), some (.str (S l)), some (.str (S v)), some (.ref p), some (.ref A), some (.str (S (sg l))), some (.ref F), none, none, none, none, none, none, none, none, none, none, none, none, none, none] H := by
  have hi0 := hn0.n1
  have hi1 := hn1.n1
  have hsl := sg_len hg
  have hgl : (tl (S (sg l))).length = (sg l).length := rfl
  refine ⟨?_⟩
  have T' := T0
  cases T0
  repeat' ac_rfl
  all_goals (try (conv => whnf))
  refine lcp_refs (m := 4) (fun j H x => stk K H x A l v (sl n0 n1 j) (sl a0 a1 j) (sl e0 e1 j) (decide ((0 + (j : Int)) % 2 = 1))) (fun _ _ _ _ h k => h.kp k) (fun _ _ _ _ _ _ h k => h.off k) (by decide) (fun _ => rfl) ?_ ?_
  · rintro j H' Q' hj k1 hQ
    have hA1 := k1.get0 hA
    have hF1 := k1.get0 hF
    have hf01 := k1.get0 hf0
    have hf11 := k1.get0 hf1
    have ej : (0 + (j : Int)) / 2 = ((j / 2 : Nat) : Int) := by omega
    repeat' ac_rfl
    all_goals (try (conv => whnf))
    · have h2 : j < 2 := by omega
      rw [sl_0 h2, sl_0 h2, sl_0 h2] at hQ
      refine i_l_object hA1 hf01 ⟨m0, hn0⟩ ha0 fun x m H2 sm k2 hx' hs => hQ x H2 k2 ⟨m, sm, hs⟩
    · have h2 : ¬ j < 2 := by omega
      rw [sl_1 h2, sl_1 h2, sl_1 h2] at hQ
      refine i_l_object hA1 hf11 ⟨m1, hn1⟩ ha1 fun x m H2 sm k2 hx' hs => hQ x H2 k2 ⟨m, sm, hs⟩
  · intro L xs H1 hL k1 hL1 hx hxs
    have hsp1 := k1.get0 hsp
    have hA1 := k1.get0 hA
    have hp1 := k1.get0 hp
    have hF1 := k1.get0 hF
    have hf01 := k1.get0 hf0
    have hf11 := k1.get0 hf1
    have hxm : (xs.map V.ref).length = xs.length := List.length_map _
    repeat' ac_rfl
    all_goals (try (conv => whnf))
    refine loop_r (fun j σ H' => Sd (∃ v8 : Option V, σ = [some (.ref sp), some (.str (S l)), some (.str (S v)), some (.ref p), some (.ref A), some (.str (S (sg l))), some (.ref F), some (.ref L), v8, none, none, none, none, none, none, none, none, none, none, none, none] ∧ Kp [] H1 H')) ?_ ?_ ?_
    · exact sd_i ⟨_, rfl, Kp.rfl'⟩
    · rintro j σ H' hj hP
      obtain ⟨v8, rfl, kk⟩ := sd_e hP
      have hj : j < 4 := hj
      have hA2 := kk.get0 hA1
      have hF2 := kk.get0 hF1
      have hL2 := kk.get0 hL1
      have hf02 := kk.get0 hf01
      have hf12 := kk.get0 hf11
      have ej : (0 + (j : Int)) / 2 = ((j / 2 : Nat) : Int) := by omega
      obtain ⟨m', h1, h2⟩ := ((hxs j (by omega)).kp kk).out
      have lt0 : n0.length < 60 := hi0
      have lt1 : n1.length < 60 := hi1
      repeat' ac_rfl
      all_goals (try (conv => whnf))
      · rename_i j2 hj2 e1 e2
        obtain rfl : j = j2 := by omega
        rw [show (xs.map V.ref)[j] = .ref xs[j] from List.getElem_map ..]
        have h3 : j < 2 := by omega
        rw [sl_0 h3, sl_0 h3, sl_0 h3] at h2
        refine i_l_shown h2 hA2 hf02 hi0 ha0 fun H5 k5 => ?_
        repeat' ac_rfl
        all_goals (try (conv => whnf))
        exact sd_i ⟨_, rfl, kk.trans k5⟩
      · rename_i j2 hj2 e1 e2
        obtain rfl : j = j2 := by omega
        rw [show (xs.map V.ref)[j] = .ref xs[j] from List.getElem_map ..]
        have h3 : ¬ j < 2 := by omega
        rw [sl_1 h3, sl_1 h3, sl_1 h3] at h2
        refine i_l_shown h2 hA2 hf12 hi1 ha1 fun H5 k5 => ?_
        repeat' ac_rfl
        all_goals (try (conv => whnf))
        exact sd_i ⟨_, rfl, kk.trans k5⟩
    · rintro σ H' hP
      obtain ⟨v8, rfl, kk⟩ := sd_e hP
      exact seg_l6 T' (kk.get0 hA1) hg (kk.get0 hp1) hq (kk.get0 hsp1) hns (kk.get0 hL1) hx (fun i hi => (hxs i hi).kp kk) (kk.get0 hF1) (kk.get0 hf01) (kk.get0 hf11) hn0 hn1 ha0 ha1 q1
theorem seg_l2 {K : PySem.W.Frag} {mg : Str → Option Value} (T0 : Tx K mg) {E : XK} {Q : VK} {sp p A dA : Addr} {ob : Obj} {ns : List Int} {l v po : List Nat} {H : Hp}
    (hA : H A = some (alo K dA l v)) (hg : good l v) (hp : H p = some (pol po)) (hq : (l ++ po).Perm AZ) (hsp : H sp = some (.frz ob (.lst (ns.map V.int)))) (hns : ns.length < 1000)
    (q1 : ∀ H', Q (.bl true) H') :
    t_law_2 K (WD E) (EndD Q) [some (.ref sp), some (.str (S l)), some (.str (S v)), some (.ref p), some (.ref A), none, none, none, none, none, none, none, none, none, none, none, none, none, none, none, none] H := by
  have hl4 := (badL_inv hg.1).2.1
  have hpo : (l ++ po).length = 26 := hq.length_eq
  have hsl := sg_len hg
  have hgl : (tl (S (sg l))).length = (sg l).length := rfl
  refine ⟨?_⟩
  have T' := T0
  cases T0
  repeat' ac_rfl
  all_goals (try (conv => whnf))
  rename_i q0 hq0
  refine sgl_i (l := l) ⟨by omega, fun q1' hq1 => ?_⟩
  have k2 : Kp [] H (upd (upd H q0 (.lst (sgn l))) q1' (.lst (sgn (srt l)))) := (Kp.rfl'.new hq0).new hq1
  have hs2 : upd (upd H q0 (.lst (sgn (tl (S l))))) q1' (.lst (sgn (srt l))) q1' = some (.lst (sgn (srt l))) := upd_at
  have hsr := srt_len l
  repeat' ac_rfl
  all_goals (try (conv => whnf))
  refine i_l_box (i := 1) rfl (k2.get0 hsp) hns (by decide) fun b1 H3 k3 hb3 bx3 => ?_
  have k4 := k2.trans k3
  have hpw : (sg l).Pairwise (· < ·) := sg_pw hg
  repeat' ac_rfl
  all_goals (try (conv => whnf))
  rename_i n0 a0 e0 r0 H4 hn0 ha0 k5 bx4 hr0 hr1
  have k7 : Kp [] H H4 := k4.fr k5 fun z hz => by rw [List.mem_singleton.mp hz]; exact k2.none hb3
  refine i_l_box (i := 2) rfl (k7.get0 hsp) hns (by decide) fun b5 H5 k8 hb5 bx5 => ?_
  have hr2 := k8.get0 hr1
  have hr3 := ne_none hr1 hb5
  have k9 := k7.trans k8
  clear k5 k8
  repeat' ac_rfl
  all_goals (try (conv => whnf))
  rename_i n1 a1 e1 r1 H6 hn1 ha1 k10 bx6 hr4 hr5 F hF
  have k11 : Kp [] H H6 := k9.fr k10 fun z hz => by rw [List.mem_singleton.mp hz]; exact k7.none hb5
  have hr6 := k10.get1 hr2 hr3
  obtain ⟨m0, hm0⟩ := hn0 v
  obtain ⟨m1, hm1⟩ := hn1 v
  have k12 := k11.new (o := .lst [.ref r0, .ref r1]) hF
  exact seg_l4 T' (k12.get0 hA) hg (k12.get0 hp) hq (k12.get0 hsp) hns upd_at (upd_fr hF hr6) (upd_fr hF hr5) hm0 hm1 ha0 ha1 q1

theorem rd_law {K : PySem.W.Frag} {mg : Str → Option Value} (T : Tx K mg) : ∀ vs H Q E, sp_law K vs H Q E → t_law K (WD E) (EndD Q) (start ["_law_script", "_law_letters", "_law_vowels", "_law_pool", "_law_alpha", "_law_signs", "_law_forms", "_law_stages", "_law_k", "_law_box_here", "_law_texts", "_law_at", "_law_text_here", "_law_name_here", "_law_number", "_law_joined", "_law_due", "_law_stage", "_law_told", "_law_index", "_law_strange"] vs) H := by
  intro vs H Q E h
  replace h := h.out
  obtain ⟨p, ob, ns, rfl, hp, h1, q⟩ := h
  have T0 := T
  cases T
  repeat' ac_rfl
  all_goals (try (conv => whnf))
  refine i_l_box (i := 0) rfl hp h1 (by decide) fun b H1 k1 hbn hb => ?_
  repeat' ac_rfl
  all_goals (try (conv => whnf))
  rename_i r p2 l v po H2 hgd hpm k2 b2 hr hp2 hpr hp3 hr2 xx dx hx hdx hne
  have kk : Kp [] H H2 := k1.fr k2 fun z hz => by rw [List.mem_singleton.mp hz]; exact hbn
  have hl4 := (badL_inv hgd.1).2.1
  have hv4 := nd_len (badV_inv hgd.2).1 (badV_inv hgd.2).2
  refine g_Alphabet_init upd_at (by omega) (by omega) hgd.1 hgd.2 fun H3 k3 hA3 => ⟨rfl, ?_⟩
  have k4 := kk.trans (Kp.made hx hdx k3)
  exact seg_l2 T0 hA3 hgd ((Kp.made hx hdx k3).get0 hp3) hpm (k4.get0 hp) h1 q

theorem law_in {K : PySem.W.Frag} {H : Hp} {a : Addr} {oj : Obj} {ns : List Int} {E : XK} (h : H a = some (.frz oj (.lst (ns.map V.int)))) (hl : ns.length ≤ 63) : sp_law K [.ref a] H (fun v _ => v = .bl true) E := by
  exact ⟨⟨a, oj, ns, rfl, h, by omega, fun _ => rfl⟩⟩

end Lw

set_option Elab.async false
set_option linter.all false
set_option maxRecDepth 100000
set_option maxHeartbeats 4000000
namespace Lw
open PySem PySem.Spec PyProof.Rows L2 Ta

theorem ex_BadAlphabet {w : World} {K : PySem.W.Frag} {mg : Str → Option Value} {base h : Heap} (X : K.In h) (G : h.Ns mainGlobals mg) (c : SaysX PP.main.file fa fn sn K) : Ex PP w K mg base "BadAlphabet" (He.ga K "BadAlphabet") ["part"] := by
  obtain ⟨F, fd, e1, e2, e3, e4, e5, SF⟩ := c.sup (P := PP) 0 (by decide +kernel) (d := sd_BadAlphabet) rfl
  obtain ⟨n1, n2, n3, n4, n5, n6, n7⟩ := F
  dsimp only at e1 e2 e3 e4 e5
  subst e1 e2 e3 e4 e5
  have S := sup_of (c.fact 75) (c.fact 76)
  refine ⟨⟨_, fd, ["self", "part"], ok_exc1 (hbd := by rfl) SF S.1 (show NdefX.NScope ["self", "part", "__class__"] ["self", "part"] ["__class__"] sd_BadAlphabet.scope from NdefX.nscope_by (by decide +kernel)) (free_of X G (c.fact 11)) (by rfl) (show sd_BadAlphabet.scope.names.lookup ("super" : Str) = some .globalImplicit by decide +kernel) (no_of' (c.fact 74)) (by decide +kernel) (by decide +kernel) (fun env => ⟨_, rfl⟩), S.2.1, S.2.2, ?_, glo_of X G (c.fact 77)⟩, oex_of (c.fact 75)⟩
  obtain ⟨cc, oc, od, an, dV, kV, doc, pm, ct, osl, hcl, rfl, lk, hD, _⟩ := SF.ex
  rcases hD with ⟨_, rfl⟩ | ⟨e, _⟩
  · exact .all fun us hl => match us, hl with | [_, _], _ => rfl
  · exact absurd rfl e
theorem ex_BadSet {w : World} {K : PySem.W.Frag} {mg : Str → Option Value} {base h : Heap} (X : K.In h) (G : h.Ns mainGlobals mg) (c : SaysX PP.main.file fa fn sn K) : Ex PP w K mg base "BadSet" (He.ga K "BadSet") ["name"] := by
  obtain ⟨F, fd, e1, e2, e3, e4, e5, SF⟩ := c.sup (P := PP) 1 (by decide +kernel) (d := sd_BadSet) rfl
  obtain ⟨n1, n2, n3, n4, n5, n6, n7⟩ := F
  dsimp only at e1 e2 e3 e4 e5
  subst e1 e2 e3 e4 e5
  have S := sup_of (c.fact 78) (c.fact 79)
  refine ⟨⟨_, fd, ["self", "name"], ok_exc1 (hbd := by rfl) SF S.1 (show NdefX.NScope ["self", "name", "__class__"] ["self", "name"] ["__class__"] sd_BadSet.scope from NdefX.nscope_by (by decide +kernel)) (free_of X G (c.fact 11)) (by rfl) (show sd_BadSet.scope.names.lookup ("super" : Str) = some .globalImplicit by decide +kernel) (no_of' (c.fact 50)) (by decide +kernel) (by decide +kernel) (fun env => ⟨_, rfl⟩), S.2.1, S.2.2, ?_, glo_of X G (c.fact 13)⟩, oex_of (c.fact 78)⟩
  obtain ⟨cc, oc, od, an, dV, kV, doc, pm, ct, osl, hcl, rfl, lk, hD, _⟩ := SF.ex
  rcases hD with ⟨_, rfl⟩ | ⟨e, _⟩
  · exact .all fun us hl => match us, hl with | [_, _], _ => rfl
  · exact absurd rfl e
theorem ex_BadStage {w : World} {K : PySem.W.Frag} {mg : Str → Option Value} {base h : Heap} (X : K.In h) (G : h.Ns mainGlobals mg) (c : SaysX PP.main.file fa fn sn K) : Ex PP w K mg base "BadStage" (He.ga K "BadStage") ["what"] := by
  obtain ⟨F, fd, e1, e2, e3, e4, e5, SF⟩ := c.sup (P := PP) 2 (by decide +kernel) (d := sd_BadStage) rfl
  obtain ⟨n1, n2, n3, n4, n5, n6, n7⟩ := F
  dsimp only at e1 e2 e3 e4 e5
  subst e1 e2 e3 e4 e5
  have S := sup_of (c.fact 80) (c.fact 81)
  refine ⟨⟨_, fd, ["self", "what"], ok_exc1 (hbd := by rfl) SF S.1 (show NdefX.NScope ["self", "what", "__class__"] ["self", "what"] ["__class__"] sd_BadStage.scope from NdefX.nscope_by (by decide +kernel)) (free_of X G (c.fact 11)) (by rfl) (show sd_BadStage.scope.names.lookup ("super" : Str) = some .globalImplicit by decide +kernel) (no_of' (c.fact 54)) (by decide +kernel) (by decide +kernel) (fun env => ⟨_, rfl⟩), S.2.1, S.2.2, ?_, glo_of X G (c.fact 14)⟩, oex_of (c.fact 80)⟩
  obtain ⟨cc, oc, od, an, dV, kV, doc, pm, ct, osl, hcl, rfl, lk, hD, _⟩ := SF.ex
  rcases hD with ⟨_, rfl⟩ | ⟨e, _⟩
  · exact .all fun us hl => match us, hl with | [_, _], _ => rfl
  · exact absurd rfl e
theorem ex_BadText {w : World} {K : PySem.W.Frag} {mg : Str → Option Value} {base h : Heap} (X : K.In h) (G : h.Ns mainGlobals mg) (c : SaysX PP.main.file fa fn sn K) : Ex PP w K mg base "BadText" (He.ga K "BadText") ["text"] := by
  obtain ⟨F, fd, e1, e2, e3, e4, e5, SF⟩ := c.sup (P := PP) 3 (by decide +kernel) (d := sd_BadText) rfl
  obtain ⟨n1, n2, n3, n4, n5, n6, n7⟩ := F
  dsimp only at e1 e2 e3 e4 e5
  subst e1 e2 e3 e4 e5
  have S := sup_of (c.fact 82) (c.fact 83)
  refine ⟨⟨_, fd, ["self", "text"], ok_exc1 (hbd := by rfl) SF S.1 (show NdefX.NScope ["self", "text", "__class__"] ["self", "text"] ["__class__"] sd_BadText.scope from NdefX.nscope_by (by decide +kernel)) (free_of X G (c.fact 11)) (by rfl) (show sd_BadText.scope.names.lookup ("super" : Str) = some .globalImplicit by decide +kernel) (no_of' (c.fact 52)) (by decide +kernel) (by decide +kernel) (fun env => ⟨_, rfl⟩), S.2.1, S.2.2, ?_, glo_of X G (c.fact 15)⟩, oex_of (c.fact 82)⟩
  obtain ⟨cc, oc, od, an, dV, kV, doc, pm, ct, osl, hcl, rfl, lk, hD, _⟩ := SF.ex
  rcases hD with ⟨_, rfl⟩ | ⟨e, _⟩
  · exact .all fun us hl => match us, hl with | [_, _], _ => rfl
  · exact absurd rfl e
theorem exh_BadStage {w : World} {K : PySem.W.Frag} {mg : Str → Option Value} {base h : Heap} (X : K.In h) (G : h.Ns mainGlobals mg) (c : SaysX PP.main.file fa fn sn K) : ExH PP w K mg base "BadStage" (He.ga K "BadStage") ["what"] := by
  obtain ⟨F, fd, e1, e2, e3, e4, e5, SF⟩ := c.sup (P := PP) 2 (by decide +kernel) (d := sd_BadStage) rfl
  obtain ⟨n1, n2, n3, n4, n5, n6, n7⟩ := F
  dsimp only at e1 e2 e3 e4 e5
  subst e1 e2 e3 e4 e5
  have S := sup_of (c.fact 80) (c.fact 81)
  refine ⟨⟨_, fd, ["self", "what"], ok_exc1H (hbd := by rfl) SF S.1 (show NdefX.NScope ["self", "what", "__class__"] ["self", "what"] ["__class__"] sd_BadStage.scope from NdefX.nscope_by (by decide +kernel)) (free_of X G (c.fact 11)) (by rfl) (show sd_BadStage.scope.names.lookup ("super" : Str) = some .globalImplicit by decide +kernel) (no_of' (c.fact 54)) (by decide +kernel) (by decide +kernel) (fun env => ⟨_, rfl⟩), S.2.1, S.2.2, ?_, glo_of X G (c.fact 14)⟩, oex_of (c.fact 80)⟩
  obtain ⟨cc, oc, od, an, dV, kV, doc, pm, ct, osl, hcl, rfl, lk, hD, _⟩ := SF.ex
  rcases hD with ⟨_, rfl⟩ | ⟨e, _⟩
  · exact .all fun us hl => match us, hl with | [_, _], _ => rfl
  · exact absurd rfl e
theorem len_l_take {K : PySem.W.Frag} : ∀ vs H Q E, sp_l_take K vs H Q E → vs.length = 2 := by
  intro vs H Q E h
  replace h := h.out
  repeat (obtain ⟨_, h⟩ := h; try subst_vars)
  all_goals rfl
theorem len_Alphabet_is_text {K : PySem.W.Frag} : ∀ vs H Q E, sp_Alphabet_is_text K vs H Q E → vs.length = 2 := by
  intro vs H Q E h
  replace h := h.out
  repeat (obtain ⟨_, h⟩ := h; try subst_vars)
  all_goals rfl
theorem len_Alphabet_check {K : PySem.W.Frag} : ∀ vs H Q E, sp_Alphabet_check K vs H Q E → vs.length = 2 := by
  intro vs H Q E h
  replace h := h.out
  repeat (obtain ⟨_, h⟩ := h; try subst_vars)
  all_goals rfl
theorem len_Drop_advance {K : PySem.W.Frag} : ∀ vs H Q E, sp_Drop_advance K vs H Q E → vs.length = 3 := by
  intro vs H Q E h
  replace h := h.out
  repeat (obtain ⟨_, h⟩ := h; try subst_vars)
  all_goals rfl
theorem len_LastDrop_advance {K : PySem.W.Frag} : ∀ vs H Q E, sp_LastDrop_advance K vs H Q E → vs.length = 3 := by
  intro vs H Q E h
  replace h := h.out
  repeat (obtain ⟨_, h⟩ := h; try subst_vars)
  all_goals rfl
theorem len_handed_on {K : PySem.W.Frag} : ∀ vs H Q E, sp_handed_on K vs H Q E → vs.length = 3 := by
  intro vs H Q E h
  replace h := h.out
  repeat (obtain ⟨_, h⟩ := h; try subst_vars)
  all_goals rfl
theorem len_Drop_begin {K : PySem.W.Frag} : ∀ vs H Q E, sp_Drop_begin K vs H Q E → vs.length = 1 := by
  intro vs H Q E h
  replace h := h.out
  repeat (obtain ⟨_, h⟩ := h; try subst_vars)
  all_goals rfl
theorem len_LastDrop_begin {K : PySem.W.Frag} : ∀ vs H Q E, sp_LastDrop_begin K vs H Q E → vs.length = 1 := by
  intro vs H Q E h
  replace h := h.out
  repeat (obtain ⟨_, h⟩ := h; try subst_vars)
  all_goals rfl
theorem len_Stage_finish {K : PySem.W.Frag} : ∀ vs H Q E, sp_Stage_finish K vs H Q E → vs.length = 2 := by
  intro vs H Q E h
  replace h := h.out
  repeat (obtain ⟨_, h⟩ := h; try subst_vars)
  all_goals rfl
theorem len_LastDrop_finish {K : PySem.W.Frag} : ∀ vs H Q E, sp_LastDrop_finish K vs H Q E → vs.length = 2 := by
  intro vs H Q E h
  replace h := h.out
  repeat (obtain ⟨_, h⟩ := h; try subst_vars)
  all_goals rfl
theorem len_closed {K : PySem.W.Frag} : ∀ vs H Q E, sp_closed K vs H Q E → vs.length = 2 := by
  intro vs H Q E h
  replace h := h.out
  repeat (obtain ⟨_, h⟩ := h; try subst_vars)
  all_goals rfl
theorem len_Stage_result {K : PySem.W.Frag} : ∀ vs H Q E, sp_Stage_result K vs H Q E → vs.length = 2 := by
  intro vs H Q E h
  replace h := h.out
  repeat (obtain ⟨_, h⟩ := h; try subst_vars)
  all_goals rfl
theorem len_Drop_call {K : PySem.W.Frag} : ∀ vs H Q E, sp_Drop_call K vs H Q E → vs.length = 2 := by
  intro vs H Q E h
  replace h := h.out
  repeat (obtain ⟨_, h⟩ := h; try subst_vars)
  all_goals rfl
theorem len_LastDrop_call {K : PySem.W.Frag} : ∀ vs H Q E, sp_LastDrop_call K vs H Q E → vs.length = 2 := by
  intro vs H Q E h
  replace h := h.out
  repeat (obtain ⟨_, h⟩ := h; try subst_vars)
  all_goals rfl
theorem len_l_refuses_text {K : PySem.W.Frag} : ∀ vs H Q E, sp_l_refuses_text K vs H Q E → vs.length = 2 := by
  intro vs H Q E h
  replace h := h.out
  repeat (obtain ⟨_, h⟩ := h; try subst_vars)
  all_goals rfl
theorem len_l_drop {K : PySem.W.Frag} : ∀ vs H Q E, sp_l_drop K vs H Q E → vs.length = 5 := by
  intro vs H Q E h
  replace h := h.out
  repeat (obtain ⟨_, h⟩ := h; try subst_vars)
  all_goals rfl
theorem len_l_members {K : PySem.W.Frag} : ∀ vs H Q E, sp_l_members K vs H Q E → vs.length = 3 := by
  intro vs H Q E h
  replace h := h.out
  repeat (obtain ⟨_, h⟩ := h; try subst_vars)
  all_goals rfl
theorem len_l_text {K : PySem.W.Frag} : ∀ vs H Q E, sp_l_text K vs H Q E → vs.length = 2 := by
  intro vs H Q E h
  replace h := h.out
  repeat (obtain ⟨_, h⟩ := h; try subst_vars)
  all_goals rfl
theorem len_l_box {K : PySem.W.Frag} : ∀ vs H Q E, sp_l_box K vs H Q E → vs.length = 2 := by
  intro vs H Q E h
  replace h := h.out
  repeat (obtain ⟨_, h⟩ := h; try subst_vars)
  all_goals rfl
theorem len_Stage_init {K : PySem.W.Frag} : ∀ vs H Q E, sp_Stage_init K vs H Q E → vs.length = 2 := by
  intro vs H Q E h
  replace h := h.out
  repeat (obtain ⟨_, h⟩ := h; try subst_vars)
  all_goals rfl
theorem len_Alphabet_listed_signs {K : PySem.W.Frag} : ∀ vs H Q E, sp_Alphabet_listed_signs K vs H Q E → vs.length = 2 := by
  intro vs H Q E h
  replace h := h.out
  repeat (obtain ⟨_, h⟩ := h; try subst_vars)
  all_goals rfl
theorem len_Alphabet_signs_of {K : PySem.W.Frag} : ∀ vs H Q E, sp_Alphabet_signs_of K vs H Q E → vs.length = 2 := by
  intro vs H Q E h
  replace h := h.out
  repeat (obtain ⟨_, h⟩ := h; try subst_vars)
  all_goals rfl
theorem len_signs_named {K : PySem.W.Frag} : ∀ vs H Q E, sp_signs_named K vs H Q E → vs.length = 2 := by
  intro vs H Q E h
  replace h := h.out
  repeat (obtain ⟨_, h⟩ := h; try subst_vars)
  all_goals rfl
theorem len_drop_spelling {K : PySem.W.Frag} : ∀ vs H Q E, sp_drop_spelling K vs H Q E → vs.length = 3 := by
  intro vs H Q E h
  replace h := h.out
  repeat (obtain ⟨_, h⟩ := h; try subst_vars)
  all_goals rfl
theorem len_Drop_init {K : PySem.W.Frag} : ∀ vs H Q E, sp_Drop_init K vs H Q E → vs.length = 5 := by
  intro vs H Q E h
  replace h := h.out
  repeat (obtain ⟨_, h⟩ := h; try subst_vars)
  all_goals rfl
theorem len_LastDrop_init {K : PySem.W.Frag} : ∀ vs H Q E, sp_LastDrop_init K vs H Q E → vs.length = 5 := by
  intro vs H Q E h
  replace h := h.out
  repeat (obtain ⟨_, h⟩ := h; try subst_vars)
  all_goals rfl
theorem len_l_refusal {K : PySem.W.Frag} : ∀ vs H Q E, sp_l_refusal K vs H Q E → vs.length = 5 := by
  intro vs H Q E h
  replace h := h.out
  repeat (obtain ⟨_, h⟩ := h; try subst_vars)
  all_goals rfl
theorem len_l_refusals {K : PySem.W.Frag} : ∀ vs H Q E, sp_l_refusals K vs H Q E → vs.length = 5 := by
  intro vs H Q E h
  replace h := h.out
  repeat (obtain ⟨_, h⟩ := h; try subst_vars)
  all_goals rfl
theorem len_l_object {K : PySem.W.Frag} : ∀ vs H Q E, sp_l_object K vs H Q E → vs.length = 3 := by
  intro vs H Q E h
  replace h := h.out
  repeat (obtain ⟨_, h⟩ := h; try subst_vars)
  all_goals rfl
theorem len_Drop_str {K : PySem.W.Frag} : ∀ vs H Q E, sp_Drop_str K vs H Q E → vs.length = 1 := by
  intro vs H Q E h
  replace h := h.out
  repeat (obtain ⟨_, h⟩ := h; try subst_vars)
  all_goals rfl
theorem len_LastDrop_str {K : PySem.W.Frag} : ∀ vs H Q E, sp_LastDrop_str K vs H Q E → vs.length = 1 := by
  intro vs H Q E h
  replace h := h.out
  repeat (obtain ⟨_, h⟩ := h; try subst_vars)
  all_goals rfl
theorem len_l_written {K : PySem.W.Frag} : ∀ vs H Q E, sp_l_written K vs H Q E → vs.length = 2 := by
  intro vs H Q E h
  replace h := h.out
  repeat (obtain ⟨_, h⟩ := h; try subst_vars)
  all_goals rfl
theorem len_Alphabet_eq {K : PySem.W.Frag} : ∀ vs H Q E, sp_Alphabet_eq K vs H Q E → vs.length = 2 := by
  intro vs H Q E h
  replace h := h.out
  repeat (obtain ⟨_, h⟩ := h; try subst_vars)
  all_goals rfl
theorem len_l_shown {K : PySem.W.Frag} : ∀ vs H Q E, sp_l_shown K vs H Q E → vs.length = 4 := by
  intro vs H Q E h
  replace h := h.out
  repeat (obtain ⟨_, h⟩ := h; try subst_vars)
  all_goals rfl
theorem len_l_name {K : PySem.W.Frag} : ∀ vs H Q E, sp_l_name K vs H Q E → vs.length = 2 := by
  intro vs H Q E h
  replace h := h.out
  repeat (obtain ⟨_, h⟩ := h; try subst_vars)
  all_goals rfl
theorem len_l_form {K : PySem.W.Frag} : ∀ vs H Q E, sp_l_form K vs H Q E → vs.length = 2 := by
  intro vs H Q E h
  replace h := h.out
  repeat (obtain ⟨_, h⟩ := h; try subst_vars)
  all_goals rfl
theorem len_l_world {K : PySem.W.Frag} : ∀ vs H Q E, sp_l_world K vs H Q E → vs.length = 2 := by
  intro vs H Q E h
  replace h := h.out
  repeat (obtain ⟨_, h⟩ := h; try subst_vars)
  all_goals rfl
theorem len_all_different {K : PySem.W.Frag} : ∀ vs H Q E, sp_all_different K vs H Q E → vs.length = 1 := by
  intro vs H Q E h
  replace h := h.out
  repeat (obtain ⟨_, h⟩ := h; try subst_vars)
  all_goals rfl
theorem len_Alphabet_init {K : PySem.W.Frag} : ∀ vs H Q E, sp_Alphabet_init K vs H Q E → vs.length = 3 := by
  intro vs H Q E h
  replace h := h.out
  repeat (obtain ⟨_, h⟩ := h; try subst_vars)
  all_goals rfl
theorem len_law {K : PySem.W.Frag} : ∀ vs H Q E, sp_law K vs H Q E → vs.length = 1 := by
  intro vs H Q E h
  replace h := h.out
  repeat (obtain ⟨_, h⟩ := h; try subst_vars)
  all_goals rfl
theorem all_ok {w : World} {K : PySem.W.Frag} {mg : Str → Option Value} {h : Heap} (X : K.In h) (G : h.Ns mainGlobals mg) (c : SaysX PP.main.file fa fn sn K) :
    ∃ fd : FuncData, (∀ (s : Shared) (v : Value), BindsTo s fd ⟨[v], []⟩ [("_law_script", v)]) ∧ ∀ base : Heap, K.In base → base.Ns mainGlobals mg → FnOk PP w K mg base (L2M.CX K PP w) 21 (He.ga K "law") fd ["_law_script"] (sp_law K) := by
  have T : Tx K mg := ⟨free_of X G (c.fact 0), free_of X G (c.fact 1), free_of X G (c.fact 2), free_of X G (c.fact 3), free_of X G (c.fact 4), free_of X G (c.fact 5), free_of X G (c.fact 6), free_of X G (c.fact 7), free_of X G (c.fact 8), free_of X G (c.fact 9), free_of X G (c.fact 10), free_of X G (c.fact 11), gv_of X G (c.fact 12), gv_of X G (c.fact 13), gv_of X G (c.fact 14), gv_of X G (c.fact 15), gv_of X G (c.fact 16), gv_of X G (c.fact 17), val_of X G (c.fact 18), val_of X G (c.fact 19), gv_of X G (c.fact 20), gv_of X G (c.fact 21), cc_of X G (c.fact 22), cc_of X G (c.fact 23), cls_of (c.fact 24), cls_of (c.fact 25), cls_of (c.fact 26), cls_of (c.fact 27), isc_of (c.fact 28), no_of (c.fact 29), no_of (c.fact 30), no_of (c.fact 31), no_of (c.fact 32), isc_of (c.fact 33), isc_of (c.fact 34), isc_of (c.fact 35), no_of (c.fact 36), no_of (c.fact 37), no_of (c.fact 38), no_of (c.fact 39), no_of (c.fact 40), no_of (c.fact 41), no_of (c.fact 42), no_of (c.fact 43), no_of (c.fact 44), no_of (c.fact 45), no_of (c.fact 46), no_of (c.fact 47), no_of (c.fact 48), xc_of (c.fact 49), no_of' (c.fact 50), xc_of (c.fact 51), no_of' (c.fact 52), xc_of (c.fact 53), no_of' (c.fact 54), exm_of (c.fact 55), exm_of (c.fact 56), kit_of (c.fact 57), kitT_of (c.fact 58), exm_of (c.fact 59), kit_of (c.fact 60), kitT_of (c.fact 61), kit_of (c.fact 62), kit_of (c.fact 63), kit_of (c.fact 64), kit_of (c.fact 65), kit_of (c.fact 66), kit_of (c.fact 67), kit_of (c.fact 68), calm_of (c.fact 69), calm_of (c.fact 70), subB_of (c.fact 71), fnm_of (c.fact 72), fnm_of (c.fact 73)⟩
  obtain ⟨FLastDrop_advance, fd_LastDrop_advance, z1, z2, z3, z4, z5, SF_LastDrop_advance⟩ := c.sup (P := PP) 4 (by decide +kernel) (d := sd_LastDrop_advance) rfl
  obtain ⟨n1, n2, n3, n4, n5, n6, n7⟩ := FLastDrop_advance
  dsimp only at z1 z2 z3 z4 z5
  subst z1 z2 z3 z4 z5
  have B0_LastDrop_advance : Binds K fd_LastDrop_advance ["self", "state", "sign"] [] := by
    obtain ⟨cc, oc, od, an, dV, kV, doc, pm, ct, osl, hcl, rfl, lk, hD, _⟩ := SF_LastDrop_advance.ex
    rcases hD with ⟨_, rfl⟩ | ⟨e, _⟩
    · exact .all fun us hl => match us, hl with | [_, _, _], _ => rfl
    · exact absurd rfl e
  obtain ⟨FDrop_init, fd_Drop_init, z1, z2, z3, z4, z5, SF_Drop_init⟩ := c.sup (P := PP) 5 (by decide +kernel) (d := sd_Drop_init) rfl
  obtain ⟨n1, n2, n3, n4, n5, n6, n7⟩ := FDrop_init
  dsimp only at z1 z2 z3 z4 z5
  subst z1 z2 z3 z4 z5
  obtain ⟨FLastDrop_init, fd_LastDrop_init, z1, z2, z3, z4, z5, SF_LastDrop_init⟩ := c.sup (P := PP) 6 (by decide +kernel) (d := sd_LastDrop_init) rfl
  obtain ⟨n1, n2, n3, n4, n5, n6, n7⟩ := FLastDrop_init
  dsimp only at z1 z2 z3 z4 z5
  subst z1 z2 z3 z4 z5
  obtain ⟨fd_l_take, F_l_take⟩ := c.def_ 0 (d := dd_l_take) rfl
  obtain ⟨fd_Alphabet_is_text, F_Alphabet_is_text⟩ := c.def_ 1 (d := dd_Alphabet_is_text) rfl
  obtain ⟨fd_Alphabet_check, F_Alphabet_check⟩ := c.def_ 2 (d := dd_Alphabet_check) rfl
  obtain ⟨fd_Drop_advance, F_Drop_advance⟩ := c.def_ 3 (d := dd_Drop_advance) rfl
  obtain ⟨fd_handed_on, F_handed_on⟩ := c.def_ 4 (d := dd_handed_on) rfl
  obtain ⟨fd_Drop_begin, F_Drop_begin⟩ := c.def_ 5 (d := dd_Drop_begin) rfl
  obtain ⟨fd_LastDrop_begin, F_LastDrop_begin⟩ := c.def_ 6 (d := dd_LastDrop_begin) rfl
  obtain ⟨fd_Stage_finish, F_Stage_finish⟩ := c.def_ 7 (d := dd_Stage_finish) rfl
  obtain ⟨fd_LastDrop_finish, F_LastDrop_finish⟩ := c.def_ 8 (d := dd_LastDrop_finish) rfl
  obtain ⟨fd_closed, F_closed⟩ := c.def_ 9 (d := dd_closed) rfl
  obtain ⟨fd_Stage_result, F_Stage_result⟩ := c.def_ 10 (d := dd_Stage_result) rfl
  obtain ⟨fd_Drop_call, F_Drop_call⟩ := c.def_ 11 (d := dd_Drop_call) rfl
  obtain ⟨fd_LastDrop_call, F_LastDrop_call⟩ := c.def_ 12 (d := dd_LastDrop_call) rfl
  obtain ⟨fd_l_refuses_text, F_l_refuses_text⟩ := c.def_ 13 (d := dd_l_refuses_text) rfl
  obtain ⟨fd_l_drop, F_l_drop⟩ := c.def_ 14 (d := dd_l_drop) rfl
  obtain ⟨fd_l_members, F_l_members⟩ := c.def_ 15 (d := dd_l_members) rfl
  obtain ⟨fd_l_text, F_l_text⟩ := c.def_ 16 (d := dd_l_text) rfl
  obtain ⟨fd_l_box, F_l_box⟩ := c.def_ 17 (d := dd_l_box) rfl
  obtain ⟨fd_Stage_init, F_Stage_init⟩ := c.def_ 18 (d := dd_Stage_init) rfl
  obtain ⟨fd_Alphabet_listed_signs, F_Alphabet_listed_signs⟩ := c.def_ 19 (d := dd_Alphabet_listed_signs) rfl
  obtain ⟨fd_Alphabet_signs_of, F_Alphabet_signs_of⟩ := c.def_ 20 (d := dd_Alphabet_signs_of) rfl
  obtain ⟨fd_signs_named, F_signs_named⟩ := c.def_ 21 (d := dd_signs_named) rfl
  obtain ⟨fd_drop_spelling, F_drop_spelling⟩ := c.def_ 22 (d := dd_drop_spelling) rfl
  obtain ⟨fd_l_refusal, F_l_refusal⟩ := c.def_ 23 (d := dd_l_refusal) rfl
  obtain ⟨fd_l_refusals, F_l_refusals⟩ := c.def_ 24 (d := dd_l_refusals) rfl
  obtain ⟨fd_l_object, F_l_object⟩ := c.def_ 25 (d := dd_l_object) rfl
  obtain ⟨fd_Drop_str, F_Drop_str⟩ := c.def_ 26 (d := dd_Drop_str) rfl
  obtain ⟨fd_LastDrop_str, F_LastDrop_str⟩ := c.def_ 27 (d := dd_LastDrop_str) rfl
  obtain ⟨fd_l_written, F_l_written⟩ := c.def_ 28 (d := dd_l_written) rfl
  obtain ⟨fd_Alphabet_eq, F_Alphabet_eq⟩ := c.def_ 29 (d := dd_Alphabet_eq) rfl
  obtain ⟨fd_l_shown, F_l_shown⟩ := c.def_ 30 (d := dd_l_shown) rfl
  obtain ⟨fd_l_name, F_l_name⟩ := c.def_ 31 (d := dd_l_name) rfl
  obtain ⟨fd_l_form, F_l_form⟩ := c.def_ 32 (d := dd_l_form) rfl
  obtain ⟨fd_l_world, F_l_world⟩ := c.def_ 33 (d := dd_l_world) rfl
  obtain ⟨fd_all_different, F_all_different⟩ := c.def_ 34 (d := dd_all_different) rfl
  obtain ⟨fd_Alphabet_init, F_Alphabet_init⟩ := c.def_ 35 (d := dd_Alphabet_init) rfl
  obtain ⟨fd_law, F_law⟩ := c.def_ 36 (d := dd_law) rfl
  refine ⟨fd_law, fun s v => FunD.bindsA (ps := ["_law_script"]) F_law (fun _ _ _ _ _ _ us hl => match us, hl with | [_], _ => rfl) s [v] rfl, fun base _ _ => ?_⟩
  have X_BadAlphabet : Ex PP w K mg base "BadAlphabet" (He.ga K "BadAlphabet") ["part"] := ex_BadAlphabet X G c
  have X_BadSet : Ex PP w K mg base "BadSet" (He.ga K "BadSet") ["name"] := ex_BadSet X G c
  have X_BadStage : Ex PP w K mg base "BadStage" (He.ga K "BadStage") ["what"] := ex_BadStage X G c
  have X_BadText : Ex PP w K mg base "BadText" (He.ga K "BadText") ["text"] := ex_BadText X G c
  have XH_BadStage : ExH PP w K mg base "BadStage" (He.ga K "BadStage") ["what"] := exh_BadStage X G c
  have O_l_take : FnOk PP w K mg base (L2M.CX K PP w) 5 (He.fAd K ("_law_take", none)) fd_l_take ["_law_box_here", "_law_many"] (sp_l_take K) := def_ok F_l_take sc_l_take len_l_take (t_l_take K) (fun cdv A outer s H E hr => tm_l_take T  hr) (rd_l_take T)
  have B_l_take : ∃ ds, Vals ([] : List V) ds ∧ Binds K fd_l_take ["_law_box_here", "_law_many"] ds := ⟨[], .nil, F_l_take.bindsN (ps := ["_law_box_here", "_law_many"]) fun _ _ _ _ _ _ us hl => match us, hl with | [_, _], _ => rfl⟩
  obtain ⟨ds_l_take, v_l_take, b_l_take⟩ := B_l_take
  have G_l_take : Fn PP w K mg base "_law_take" 5 [] (sp_l_take K) := ⟨⟨_, fd_l_take, ["_law_box_here", "_law_many"], ds_l_take, O_l_take.mono (by decide), glo_of X G (c.fact 84), F_l_take.kp, v_l_take, b_l_take⟩⟩
  have O_Alphabet_is_text : FnOk PP w K mg base (L2M.CX K PP w) 5 (He.fAd K ("Alphabet", some "is_text")) fd_Alphabet_is_text ["self", "text"] (sp_Alphabet_is_text K) := def_ok F_Alphabet_is_text sc_Alphabet_is_text len_Alphabet_is_text (t_Alphabet_is_text K) (fun cdv A outer s H E hr => tm_Alphabet_is_text T  hr) (rd_Alphabet_is_text T)
  have B_Alphabet_is_text : ∃ ds, Vals ([] : List V) ds ∧ Binds K fd_Alphabet_is_text ["self", "text"] ds := ⟨[], .nil, F_Alphabet_is_text.bindsN (ps := ["self", "text"]) fun _ _ _ _ _ _ us hl => match us, hl with | [_, _], _ => rfl⟩
  obtain ⟨ds_Alphabet_is_text, v_Alphabet_is_text, b_Alphabet_is_text⟩ := B_Alphabet_is_text
  have G_Alphabet_is_text : Me PP w K mg base (He.ga K "Alphabet") "is_text" 5 [] (sp_Alphabet_is_text K) := ⟨⟨_, fd_Alphabet_is_text, ["self", "text"], ds_Alphabet_is_text, O_Alphabet_is_text.mono (by decide), me_of (c.fact 85), v_Alphabet_is_text, b_Alphabet_is_text⟩, cls_of (c.fact 24)⟩
  have O_Alphabet_check : FnOk PP w K mg base (L2M.CX K PP w) 7 (He.fAd K ("Alphabet", some "check")) fd_Alphabet_check ["self", "text"] (sp_Alphabet_check K) := def_ok F_Alphabet_check sc_Alphabet_check len_Alphabet_check (t_Alphabet_check K) (fun cdv A outer s H E hr => tm_Alphabet_check T G_Alphabet_is_text X_BadText hr) (rd_Alphabet_check T)
  have B_Alphabet_check : ∃ ds, Vals ([] : List V) ds ∧ Binds K fd_Alphabet_check ["self", "text"] ds := ⟨[], .nil, F_Alphabet_check.bindsN (ps := ["self", "text"]) fun _ _ _ _ _ _ us hl => match us, hl with | [_, _], _ => rfl⟩
  obtain ⟨ds_Alphabet_check, v_Alphabet_check, b_Alphabet_check⟩ := B_Alphabet_check
  have G_Alphabet_check : Me PP w K mg base (He.ga K "Alphabet") "check" 7 [] (sp_Alphabet_check K) := ⟨⟨_, fd_Alphabet_check, ["self", "text"], ds_Alphabet_check, O_Alphabet_check.mono (by decide), me_of (c.fact 86), v_Alphabet_check, b_Alphabet_check⟩, cls_of (c.fact 24)⟩
  have O_Drop_advance : FnOk PP w K mg base (L2M.CX K PP w) 5 (He.fAd K ("Drop", some "advance")) fd_Drop_advance ["self", "state", "sign"] (sp_Drop_advance K) := def_ok F_Drop_advance sc_Drop_advance len_Drop_advance (t_Drop_advance K) (fun cdv A outer s H E hr => tm_Drop_advance T  hr) (rd_Drop_advance T)
  have B_Drop_advance : ∃ ds, Vals ([] : List V) ds ∧ Binds K fd_Drop_advance ["self", "state", "sign"] ds := ⟨[], .nil, F_Drop_advance.bindsN (ps := ["self", "state", "sign"]) fun _ _ _ _ _ _ us hl => match us, hl with | [_, _, _], _ => rfl⟩
  obtain ⟨ds_Drop_advance, v_Drop_advance, b_Drop_advance⟩ := B_Drop_advance
  have G_Drop_advance : Me PP w K mg base (He.ga K "Drop") "advance" 7 [] (sp_Drop_advance K) := ⟨⟨_, fd_Drop_advance, ["self", "state", "sign"], ds_Drop_advance, O_Drop_advance.mono (by decide), me_of (c.fact 87), v_Drop_advance, b_Drop_advance⟩, cls_of (c.fact 25)⟩
  have S_LastDrop_advance : ∀ e ∈ ([(He.ga K "LastDrop", [], sp_Drop_advance K)] : MS), Su PP w K mg base (He.ga K "LastDrop") e.1 "advance" 5 e.2.1 e.2.2 := (fun e he => by obtain rfl := List.mem_singleton.mp he; exact su_of (c.fact 88) (O_Drop_advance.mono (by decide)) .nil (F_Drop_advance.bindsN (ps := ["self", "state", "sign"]) fun _ _ _ _ _ _ us hl => match us, hl with | [_, _, _], _ => rfl))
  have O_LastDrop_advance : FnOk PP w K mg base (L2M.CX K PP w) 7 (He.fAd K ("LastDrop", some "advance")) fd_LastDrop_advance ["self", "state", "sign"] (sp_LastDrop_advance K) := fn_supA SF_LastDrop_advance sc_LastDrop_advance len_LastDrop_advance (t_LastDrop_advance K) (fun A outer s H E hr => tm_LastDrop_advance T SF_LastDrop_advance S_LastDrop_advance  hr) (rd_LastDrop_advance T)
  have B_LastDrop_advance : ∃ ds, Vals ([] : List V) ds ∧ Binds K fd_LastDrop_advance ["self", "state", "sign"] ds := ⟨[], .nil, B0_LastDrop_advance⟩
  obtain ⟨ds_LastDrop_advance, v_LastDrop_advance, b_LastDrop_advance⟩ := B_LastDrop_advance
  have G_LastDrop_advance : Me PP w K mg base (He.ga K "LastDrop") "advance" 7 [] (sp_LastDrop_advance K) := ⟨⟨_, fd_LastDrop_advance, ["self", "state", "sign"], ds_LastDrop_advance, O_LastDrop_advance.mono (by decide), me_of (c.fact 89), v_LastDrop_advance, b_LastDrop_advance⟩, cls_of (c.fact 26)⟩
  have O_handed_on : FnOk PP w K mg base (L2M.CX K PP w) 9 (He.fAd K ("handed_on", none)) fd_handed_on ["stages", "states", "text"] (sp_handed_on K) := def_ok F_handed_on sc_handed_on len_handed_on (t_handed_on K) (fun cdv A outer s H E hr => tm_handed_on T G_Drop_advance G_LastDrop_advance hr) (rd_handed_on T)
  have B_handed_on : ∃ ds, Vals ([] : List V) ds ∧ Binds K fd_handed_on ["stages", "states", "text"] ds := ⟨[], .nil, F_handed_on.bindsN (ps := ["stages", "states", "text"]) fun _ _ _ _ _ _ us hl => match us, hl with | [_, _, _], _ => rfl⟩
  obtain ⟨ds_handed_on, v_handed_on, b_handed_on⟩ := B_handed_on
  have G_handed_on : Fn PP w K mg base "handed_on" 9 [] (sp_handed_on K) := ⟨⟨_, fd_handed_on, ["stages", "states", "text"], ds_handed_on, O_handed_on.mono (by decide), glo_of X G (c.fact 90), F_handed_on.kp, v_handed_on, b_handed_on⟩⟩
  have O_Drop_begin : FnOk PP w K mg base (L2M.CX K PP w) 5 (He.fAd K ("Drop", some "begin")) fd_Drop_begin ["self"] (sp_Drop_begin K) := def_ok F_Drop_begin sc_Drop_begin len_Drop_begin (t_Drop_begin K) (fun cdv A outer s H E hr => tm_Drop_begin T  hr) (rd_Drop_begin T)
  have B_Drop_begin : ∃ ds, Vals ([] : List V) ds ∧ Binds K fd_Drop_begin ["self"] ds := ⟨[], .nil, F_Drop_begin.bindsN (ps := ["self"]) fun _ _ _ _ _ _ us hl => match us, hl with | [_], _ => rfl⟩
  obtain ⟨ds_Drop_begin, v_Drop_begin, b_Drop_begin⟩ := B_Drop_begin
  have G_Drop_begin : Me PP w K mg base (He.ga K "Drop") "begin" 5 [] (sp_Drop_begin K) := ⟨⟨_, fd_Drop_begin, ["self"], ds_Drop_begin, O_Drop_begin.mono (by decide), me_of (c.fact 91), v_Drop_begin, b_Drop_begin⟩, cls_of (c.fact 25)⟩
  have O_LastDrop_begin : FnOk PP w K mg base (L2M.CX K PP w) 5 (He.fAd K ("LastDrop", some "begin")) fd_LastDrop_begin ["self"] (sp_LastDrop_begin K) := def_ok F_LastDrop_begin sc_LastDrop_begin len_LastDrop_begin (t_LastDrop_begin K) (fun cdv A outer s H E hr => tm_LastDrop_begin T  hr) (rd_LastDrop_begin T)
  have B_LastDrop_begin : ∃ ds, Vals ([] : List V) ds ∧ Binds K fd_LastDrop_begin ["self"] ds := ⟨[], .nil, F_LastDrop_begin.bindsN (ps := ["self"]) fun _ _ _ _ _ _ us hl => match us, hl with | [_], _ => rfl⟩
  obtain ⟨ds_LastDrop_begin, v_LastDrop_begin, b_LastDrop_begin⟩ := B_LastDrop_begin
  have G_LastDrop_begin : Me PP w K mg base (He.ga K "LastDrop") "begin" 5 [] (sp_LastDrop_begin K) := ⟨⟨_, fd_LastDrop_begin, ["self"], ds_LastDrop_begin, O_LastDrop_begin.mono (by decide), me_of (c.fact 92), v_LastDrop_begin, b_LastDrop_begin⟩, cls_of (c.fact 26)⟩
  have O_Stage_finish : FnOk PP w K mg base (L2M.CX K PP w) 5 (He.fAd K ("Stage", some "finish")) fd_Stage_finish ["self", "state"] (sp_Stage_finish K) := def_ok F_Stage_finish sc_Stage_finish len_Stage_finish (t_Stage_finish K) (fun cdv A outer s H E hr => tm_Stage_finish T  hr) (rd_Stage_finish T)
  have B_Drop_finish : ∃ ds, Vals ([] : List V) ds ∧ Binds K fd_Stage_finish ["self", "state"] ds := ⟨[], .nil, F_Stage_finish.bindsN (ps := ["self", "state"]) fun _ _ _ _ _ _ us hl => match us, hl with | [_, _], _ => rfl⟩
  obtain ⟨ds_Drop_finish, v_Drop_finish, b_Drop_finish⟩ := B_Drop_finish
  have G_Drop_finish : Me PP w K mg base (He.ga K "Drop") "finish" 5 [] (sp_Stage_finish K) := ⟨⟨_, fd_Stage_finish, ["self", "state"], ds_Drop_finish, O_Stage_finish.mono (by decide), same_me (x := "Drop") (y := "Stage") (me_of (c.fact 93)) (c.fact 94), v_Drop_finish, b_Drop_finish⟩, cls_of (c.fact 25)⟩
  have O_LastDrop_finish : FnOk PP w K mg base (L2M.CX K PP w) 5 (He.fAd K ("LastDrop", some "finish")) fd_LastDrop_finish ["self", "state"] (sp_LastDrop_finish K) := def_ok F_LastDrop_finish sc_LastDrop_finish len_LastDrop_finish (t_LastDrop_finish K) (fun cdv A outer s H E hr => tm_LastDrop_finish T  hr) (rd_LastDrop_finish T)
  have B_LastDrop_finish : ∃ ds, Vals ([] : List V) ds ∧ Binds K fd_LastDrop_finish ["self", "state"] ds := ⟨[], .nil, F_LastDrop_finish.bindsN (ps := ["self", "state"]) fun _ _ _ _ _ _ us hl => match us, hl with | [_, _], _ => rfl⟩
  obtain ⟨ds_LastDrop_finish, v_LastDrop_finish, b_LastDrop_finish⟩ := B_LastDrop_finish
  have G_LastDrop_finish : Me PP w K mg base (He.ga K "LastDrop") "finish" 5 [] (sp_LastDrop_finish K) := ⟨⟨_, fd_LastDrop_finish, ["self", "state"], ds_LastDrop_finish, O_LastDrop_finish.mono (by decide), me_of (c.fact 95), v_LastDrop_finish, b_LastDrop_finish⟩, cls_of (c.fact 26)⟩
  have O_closed : FnOk PP w K mg base (L2M.CX K PP w) 11 (He.fAd K ("closed", none)) fd_closed ["stages", "states"] (sp_closed K) := def_ok F_closed sc_closed len_closed (t_closed K) (fun cdv A outer s H E hr => tm_closed T G_Drop_finish G_LastDrop_finish G_handed_on hr) (rd_closed T)
  have B_closed : ∃ ds, Vals ([] : List V) ds ∧ Binds K fd_closed ["stages", "states"] ds := ⟨[], .nil, F_closed.bindsN (ps := ["stages", "states"]) fun _ _ _ _ _ _ us hl => match us, hl with | [_, _], _ => rfl⟩
  obtain ⟨ds_closed, v_closed, b_closed⟩ := B_closed
  have G_closed : Fn PP w K mg base "closed" 11 [] (sp_closed K) := ⟨⟨_, fd_closed, ["stages", "states"], ds_closed, O_closed.mono (by decide), glo_of X G (c.fact 96), F_closed.kp, v_closed, b_closed⟩⟩
  have O_Stage_result : FnOk PP w K mg base (L2M.CX K PP w) 13 (He.fAd K ("Stage", some "result")) fd_Stage_result ["self", "text"] (sp_Stage_result K) := def_ok F_Stage_result sc_Stage_result len_Stage_result (t_Stage_result K) (fun cdv A outer s H E hr => tm_Stage_result T G_Alphabet_check G_Drop_begin G_LastDrop_begin G_closed G_handed_on hr) (rd_Stage_result T)
  have B_Drop_result : ∃ ds, Vals ([] : List V) ds ∧ Binds K fd_Stage_result ["self", "text"] ds := ⟨[], .nil, F_Stage_result.bindsN (ps := ["self", "text"]) fun _ _ _ _ _ _ us hl => match us, hl with | [_, _], _ => rfl⟩
  obtain ⟨ds_Drop_result, v_Drop_result, b_Drop_result⟩ := B_Drop_result
  have G_Drop_result : Me PP w K mg base (He.ga K "Drop") "result" 13 [] (sp_Stage_result K) := ⟨⟨_, fd_Stage_result, ["self", "text"], ds_Drop_result, O_Stage_result.mono (by decide), same_me (x := "Drop") (y := "Stage") (me_of (c.fact 97)) (c.fact 98), v_Drop_result, b_Drop_result⟩, cls_of (c.fact 25)⟩
  have B_LastDrop_result : ∃ ds, Vals ([] : List V) ds ∧ Binds K fd_Stage_result ["self", "text"] ds := ⟨[], .nil, F_Stage_result.bindsN (ps := ["self", "text"]) fun _ _ _ _ _ _ us hl => match us, hl with | [_, _], _ => rfl⟩
  obtain ⟨ds_LastDrop_result, v_LastDrop_result, b_LastDrop_result⟩ := B_LastDrop_result
  have G_LastDrop_result : Me PP w K mg base (He.ga K "LastDrop") "result" 13 [] (sp_Stage_result K) := ⟨⟨_, fd_Stage_result, ["self", "text"], ds_LastDrop_result, O_Stage_result.mono (by decide), same_me (x := "LastDrop") (y := "Stage") (me_of (c.fact 99)) (c.fact 100), v_LastDrop_result, b_LastDrop_result⟩, cls_of (c.fact 26)⟩
  have O_Drop_call : FnOk PP w K mg base (L2M.CX K PP w) 15 (He.fAd K ("Drop", some "__call__")) fd_Drop_call ["self", "text"] (sp_Drop_call K) := def_ok F_Drop_call sc_Drop_call len_Drop_call (t_Drop_call K) (fun cdv A outer s H E hr => tm_Drop_call T G_Drop_result G_LastDrop_result hr) (rd_Drop_call T)
  have B_Drop___call__ : ∃ ds, Vals ([] : List V) ds ∧ Binds K fd_Drop_call ["self", "text"] ds := ⟨[], .nil, F_Drop_call.bindsN (ps := ["self", "text"]) fun _ _ _ _ _ _ us hl => match us, hl with | [_, _], _ => rfl⟩
  obtain ⟨ds_Drop___call__, v_Drop___call__, b_Drop___call__⟩ := B_Drop___call__
  have G_Drop___call__ : Me PP w K mg base (He.ga K "Drop") "__call__" 15 [] (sp_Drop_call K) := ⟨⟨_, fd_Drop_call, ["self", "text"], ds_Drop___call__, O_Drop_call.mono (by decide), me_of (c.fact 101), v_Drop___call__, b_Drop___call__⟩, cls_of (c.fact 25)⟩
  have O_LastDrop_call : FnOk PP w K mg base (L2M.CX K PP w) 15 (He.fAd K ("LastDrop", some "__call__")) fd_LastDrop_call ["self", "text"] (sp_LastDrop_call K) := def_ok F_LastDrop_call sc_LastDrop_call len_LastDrop_call (t_LastDrop_call K) (fun cdv A outer s H E hr => tm_LastDrop_call T G_Drop_result G_LastDrop_result hr) (rd_LastDrop_call T)
  have B_LastDrop___call__ : ∃ ds, Vals ([] : List V) ds ∧ Binds K fd_LastDrop_call ["self", "text"] ds := ⟨[], .nil, F_LastDrop_call.bindsN (ps := ["self", "text"]) fun _ _ _ _ _ _ us hl => match us, hl with | [_, _], _ => rfl⟩
  obtain ⟨ds_LastDrop___call__, v_LastDrop___call__, b_LastDrop___call__⟩ := B_LastDrop___call__
  have G_LastDrop___call__ : Me PP w K mg base (He.ga K "LastDrop") "__call__" 15 [] (sp_LastDrop_call K) := ⟨⟨_, fd_LastDrop_call, ["self", "text"], ds_LastDrop___call__, O_LastDrop_call.mono (by decide), me_of (c.fact 102), v_LastDrop___call__, b_LastDrop___call__⟩, cls_of (c.fact 26)⟩
  have O_l_refuses_text : FnOk PP w K mg base (L2M.CX K PP w) 17 (He.fAd K ("_law_refuses_text", none)) fd_l_refuses_text ["_law_stage", "_law_text_here"] (sp_l_refuses_text K) := def_ok F_l_refuses_text sc_l_refuses_text len_l_refuses_text (t_l_refuses_text K) (fun cdv A outer s H E hr => tm_l_refuses_text T G_Drop___call__ G_LastDrop___call__ hr) (rd_l_refuses_text T)
  have B_l_refuses_text : ∃ ds, Vals ([] : List V) ds ∧ Binds K fd_l_refuses_text ["_law_stage", "_law_text_here"] ds := ⟨[], .nil, F_l_refuses_text.bindsN (ps := ["_law_stage", "_law_text_here"]) fun _ _ _ _ _ _ us hl => match us, hl with | [_, _], _ => rfl⟩
  obtain ⟨ds_l_refuses_text, v_l_refuses_text, b_l_refuses_text⟩ := B_l_refuses_text
  have G_l_refuses_text : Fn PP w K mg base "_law_refuses_text" 17 [] (sp_l_refuses_text K) := ⟨⟨_, fd_l_refuses_text, ["_law_stage", "_law_text_here"], ds_l_refuses_text, O_l_refuses_text.mono (by decide), glo_of X G (c.fact 103), F_l_refuses_text.kp, v_l_refuses_text, b_l_refuses_text⟩⟩
  have O_l_drop : FnOk PP w K mg base (L2M.CX K PP w) 5 (He.fAd K ("_law_drop", none)) fd_l_drop ["_law_text_here", "_law_members_here", "_law_number", "_law_joined", "_law_last"] (sp_l_drop K) := def_ok F_l_drop sc_l_drop len_l_drop (t_l_drop K) (fun cdv A outer s H E hr => tm_l_drop T  hr) (rd_l_drop T)
  have B_l_drop : ∃ ds, Vals ([] : List V) ds ∧ Binds K fd_l_drop ["_law_text_here", "_law_members_here", "_law_number", "_law_joined", "_law_last"] ds := ⟨[], .nil, F_l_drop.bindsN (ps := ["_law_text_here", "_law_members_here", "_law_number", "_law_joined", "_law_last"]) fun _ _ _ _ _ _ us hl => match us, hl with | [_, _, _, _, _], _ => rfl⟩
  obtain ⟨ds_l_drop, v_l_drop, b_l_drop⟩ := B_l_drop
  have G_l_drop : Fn PP w K mg base "_law_drop" 5 [] (sp_l_drop K) := ⟨⟨_, fd_l_drop, ["_law_text_here", "_law_members_here", "_law_number", "_law_joined", "_law_last"], ds_l_drop, O_l_drop.mono (by decide), glo_of X G (c.fact 104), F_l_drop.kp, v_l_drop, b_l_drop⟩⟩
  have O_l_members : FnOk PP w K mg base (L2M.CX K PP w) 5 (He.fAd K ("_law_members", none)) fd_l_members ["_law_name_here", "_law_signs", "_law_vowels"] (sp_l_members K) := def_ok F_l_members sc_l_members len_l_members (t_l_members K) (fun cdv A outer s H E hr => tm_l_members T  hr) (rd_l_members T)
  have B_l_members : ∃ ds, Vals ([] : List V) ds ∧ Binds K fd_l_members ["_law_name_here", "_law_signs", "_law_vowels"] ds := ⟨[], .nil, F_l_members.bindsN (ps := ["_law_name_here", "_law_signs", "_law_vowels"]) fun _ _ _ _ _ _ us hl => match us, hl with | [_, _, _], _ => rfl⟩
  obtain ⟨ds_l_members, v_l_members, b_l_members⟩ := B_l_members
  have G_l_members : Fn PP w K mg base "_law_members" 5 [] (sp_l_members K) := ⟨⟨_, fd_l_members, ["_law_name_here", "_law_signs", "_law_vowels"], ds_l_members, O_l_members.mono (by decide), glo_of X G (c.fact 105), F_l_members.kp, v_l_members, b_l_members⟩⟩
  have O_l_text : FnOk PP w K mg base (L2M.CX K PP w) 7 (He.fAd K ("_law_text", none)) fd_l_text ["_law_box_here", "_law_signs"] (sp_l_text K) := def_ok F_l_text sc_l_text len_l_text (t_l_text K) (fun cdv A outer s H E hr => tm_l_text T G_l_take hr) (rd_l_text T)
  have B_l_text : ∃ ds, Vals ([] : List V) ds ∧ Binds K fd_l_text ["_law_box_here", "_law_signs"] ds := ⟨[], .nil, F_l_text.bindsN (ps := ["_law_box_here", "_law_signs"]) fun _ _ _ _ _ _ us hl => match us, hl with | [_, _], _ => rfl⟩
  obtain ⟨ds_l_text, v_l_text, b_l_text⟩ := B_l_text
  have G_l_text : Fn PP w K mg base "_law_text" 7 [] (sp_l_text K) := ⟨⟨_, fd_l_text, ["_law_box_here", "_law_signs"], ds_l_text, O_l_text.mono (by decide), glo_of X G (c.fact 106), F_l_text.kp, v_l_text, b_l_text⟩⟩
  have O_l_box : FnOk PP w K mg base (L2M.CX K PP w) 5 (He.fAd K ("_law_box", none)) fd_l_box ["_law_script", "_law_at"] (sp_l_box K) := def_ok F_l_box sc_l_box len_l_box (t_l_box K) (fun cdv A outer s H E hr => tm_l_box T  hr) (rd_l_box T)
  have B_l_box : ∃ ds, Vals ([] : List V) ds ∧ Binds K fd_l_box ["_law_script", "_law_at"] ds := ⟨[], .nil, F_l_box.bindsN (ps := ["_law_script", "_law_at"]) fun _ _ _ _ _ _ us hl => match us, hl with | [_, _], _ => rfl⟩
  obtain ⟨ds_l_box, v_l_box, b_l_box⟩ := B_l_box
  have G_l_box : Fn PP w K mg base "_law_box" 5 [] (sp_l_box K) := ⟨⟨_, fd_l_box, ["_law_script", "_law_at"], ds_l_box, O_l_box.mono (by decide), glo_of X G (c.fact 107), F_l_box.kp, v_l_box, b_l_box⟩⟩
  have O_Stage_init : FnOk PP w K mg base (L2M.CX K PP w) 5 (He.fAd K ("Stage", some "__init__")) fd_Stage_init ["self", "alphabet"] (sp_Stage_init K) := def_ok F_Stage_init sc_Stage_init len_Stage_init (t_Stage_init K) (fun cdv A outer s H E hr => tm_Stage_init T  hr) (rd_Stage_init T)
  have O_Alphabet_listed_signs : FnOk PP w K mg base (L2M.CX K PP w) 7 (He.fAd K ("Alphabet", some "listed_signs")) fd_Alphabet_listed_signs ["self", "name"] (sp_Alphabet_listed_signs K) := def_ok F_Alphabet_listed_signs sc_Alphabet_listed_signs len_Alphabet_listed_signs (t_Alphabet_listed_signs K) (fun cdv A outer s H E hr => tm_Alphabet_listed_signs T G_Alphabet_is_text X_BadSet hr) (rd_Alphabet_listed_signs T)
  have B_Alphabet_listed_signs : ∃ ds, Vals ([] : List V) ds ∧ Binds K fd_Alphabet_listed_signs ["self", "name"] ds := ⟨[], .nil, F_Alphabet_listed_signs.bindsN (ps := ["self", "name"]) fun _ _ _ _ _ _ us hl => match us, hl with | [_, _], _ => rfl⟩
  obtain ⟨ds_Alphabet_listed_signs, v_Alphabet_listed_signs, b_Alphabet_listed_signs⟩ := B_Alphabet_listed_signs
  have G_Alphabet_listed_signs : Me PP w K mg base (He.ga K "Alphabet") "listed_signs" 7 [] (sp_Alphabet_listed_signs K) := ⟨⟨_, fd_Alphabet_listed_signs, ["self", "name"], ds_Alphabet_listed_signs, O_Alphabet_listed_signs.mono (by decide), me_of (c.fact 108), v_Alphabet_listed_signs, b_Alphabet_listed_signs⟩, cls_of (c.fact 24)⟩
  have O_Alphabet_signs_of : FnOk PP w K mg base (L2M.CX K PP w) 9 (He.fAd K ("Alphabet", some "signs_of")) fd_Alphabet_signs_of ["self", "name"] (sp_Alphabet_signs_of K) := def_ok F_Alphabet_signs_of sc_Alphabet_signs_of len_Alphabet_signs_of (t_Alphabet_signs_of K) (fun cdv A outer s H E hr => tm_Alphabet_signs_of T G_Alphabet_listed_signs hr) (rd_Alphabet_signs_of T)
  have B_Alphabet_signs_of : ∃ ds, Vals ([] : List V) ds ∧ Binds K fd_Alphabet_signs_of ["self", "name"] ds := ⟨[], .nil, F_Alphabet_signs_of.bindsN (ps := ["self", "name"]) fun _ _ _ _ _ _ us hl => match us, hl with | [_, _], _ => rfl⟩
  obtain ⟨ds_Alphabet_signs_of, v_Alphabet_signs_of, b_Alphabet_signs_of⟩ := B_Alphabet_signs_of
  have G_Alphabet_signs_of : Me PP w K mg base (He.ga K "Alphabet") "signs_of" 9 [] (sp_Alphabet_signs_of K) := ⟨⟨_, fd_Alphabet_signs_of, ["self", "name"], ds_Alphabet_signs_of, O_Alphabet_signs_of.mono (by decide), me_of (c.fact 109), v_Alphabet_signs_of, b_Alphabet_signs_of⟩, cls_of (c.fact 24)⟩
  have O_signs_named : FnOk PP w K mg base (L2M.CX K PP w) 11 (He.fAd K ("signs_named", none)) fd_signs_named ["alphabet", "name"] (sp_signs_named K) := def_ok F_signs_named sc_signs_named len_signs_named (t_signs_named K) (fun cdv A outer s H E hr => tm_signs_named T G_Alphabet_signs_of XH_BadStage hr) (rd_signs_named T)
  have B_signs_named : ∃ ds, Vals ([] : List V) ds ∧ Binds K fd_signs_named ["alphabet", "name"] ds := ⟨[], .nil, F_signs_named.bindsN (ps := ["alphabet", "name"]) fun _ _ _ _ _ _ us hl => match us, hl with | [_, _], _ => rfl⟩
  obtain ⟨ds_signs_named, v_signs_named, b_signs_named⟩ := B_signs_named
  have G_signs_named : Fn PP w K mg base "signs_named" 11 [] (sp_signs_named K) := ⟨⟨_, fd_signs_named, ["alphabet", "name"], ds_signs_named, O_signs_named.mono (by decide), glo_of X G (c.fact 110), F_signs_named.kp, v_signs_named, b_signs_named⟩⟩
  have O_drop_spelling : FnOk PP w K mg base (L2M.CX K PP w) 5 (He.fAd K ("drop_spelling", none)) fd_drop_spelling ["name", "after", "each"] (sp_drop_spelling K) := def_ok F_drop_spelling sc_drop_spelling len_drop_spelling (t_drop_spelling K) (fun cdv A outer s H E hr => tm_drop_spelling T  hr) (rd_drop_spelling T)
  have B_drop_spelling : ∃ ds, Vals ([] : List V) ds ∧ Binds K fd_drop_spelling ["name", "after", "each"] ds := ⟨[], .nil, F_drop_spelling.bindsN (ps := ["name", "after", "each"]) fun _ _ _ _ _ _ us hl => match us, hl with | [_, _, _], _ => rfl⟩
  obtain ⟨ds_drop_spelling, v_drop_spelling, b_drop_spelling⟩ := B_drop_spelling
  have G_drop_spelling : Fn PP w K mg base "drop_spelling" 5 [] (sp_drop_spelling K) := ⟨⟨_, fd_drop_spelling, ["name", "after", "each"], ds_drop_spelling, O_drop_spelling.mono (by decide), glo_of X G (c.fact 111), F_drop_spelling.kp, v_drop_spelling, b_drop_spelling⟩⟩
  have S_Drop_init : ∀ e ∈ ([(He.ga K "Drop", [], sp_Stage_init K), (He.ga K "LastDrop", [], sp_Stage_init K)] : MS), Su PP w K mg base (He.ga K "Drop") e.1 "__init__" 5 e.2.1 e.2.2 := (fun e he => by simp only [List.mem_cons, List.not_mem_nil, or_false] at he; rcases he with rfl | rfl <;> first | exact su_of (c.fact 112) (O_Stage_init.mono (by decide)) .nil (F_Stage_init.bindsN (ps := ["self", "alphabet"]) fun _ _ _ _ _ _ us hl => match us, hl with | [_, _], _ => rfl) | exact su_of (c.fact 113) (O_Stage_init.mono (by decide)) .nil (F_Stage_init.bindsN (ps := ["self", "alphabet"]) fun _ _ _ _ _ _ us hl => match us, hl with | [_, _], _ => rfl))
  have O_Drop_init : FnOk PP w K mg base (L2M.CX K PP w) 13 (He.fAd K ("Drop", some "__init__")) fd_Drop_init ["self", "alphabet", "name", "after", "each"] (sp_Drop_init K) := fn_supA SF_Drop_init sc_Drop_init len_Drop_init (t_Drop_init K) (fun A outer s H E hr => tm_Drop_init T SF_Drop_init S_Drop_init G_drop_spelling G_signs_named X_BadStage hr) (rd_Drop_init T)
  obtain ⟨mv_GK_Drop_2_after, kb_GK_Drop_2_after⟩ := SF_Drop_init.kbinds0 (kwF_of (c.fact 114)) (ps := ["self", "alphabet", "name", "after", "each"]) 3 ["after"] ([("each", .bl false)] : List (Str × V)) (fun {α} => gkF [(false, 0), (true, 0)]) (List.cons_ne_nil _ _) (fun q hq => by obtain rfl := List.mem_singleton.mp hq; exact (.tail _ (.head _))) (gkF_rel [(false, 0), (true, 0)]) (fun _ _ _ _ _ us mv ws h1 h2 h3 => match us, mv, ws, h1, h2, h3 with | [_, _, _], [_], [_], _, _, _ => ⟨_, _, _, _, _, _, rfl, rfl, rfl⟩)
  have GK_Drop_2_after : MkKw PP w K mg base "Drop" (He.ga K "Drop") 2 ["after"] (fun (vs zs : List V) => gkF [(false, 0), (true, 0)] vs ([.bl false] : List V) zs) 13 (sp_Drop_init K) := ⟨⟨_, fd_Drop_init, ["self", "alphabet", "name", "after", "each"], _, O_Drop_init.mono (by decide), mk_of (c.fact 115), glo_of X G (c.fact 16), kb_GK_Drop_2_after⟩⟩
  obtain ⟨mv_GK_Drop_2_after_each, kb_GK_Drop_2_after_each⟩ := SF_Drop_init.kbinds0 (kwF_of (c.fact 114)) (ps := ["self", "alphabet", "name", "after", "each"]) 3 ["after", "each"] ([] : List (Str × V)) (fun {α} => gkF [(false, 0), (false, 1)]) (List.cons_ne_nil _ _) (fun q hq => nomatch hq) (gkF_rel [(false, 0), (false, 1)]) (fun _ _ _ _ _ us mv ws h1 h2 h3 => match us, mv, ws, h1, h2, h3 with | [_, _, _], [], [_, _], _, _, _ => rfl)
  have GK_Drop_2_after_each : MkKw PP w K mg base "Drop" (He.ga K "Drop") 2 ["after", "each"] (fun (vs zs : List V) => gkF [(false, 0), (false, 1)] vs ([] : List V) zs) 13 (sp_Drop_init K) := ⟨⟨_, fd_Drop_init, ["self", "alphabet", "name", "after", "each"], _, O_Drop_init.mono (by decide), mk_of (c.fact 115), glo_of X G (c.fact 16), kb_GK_Drop_2_after_each⟩⟩
  obtain ⟨mv_GK_Drop_2_each, kb_GK_Drop_2_each⟩ := SF_Drop_init.kbinds0 (kwF_of (c.fact 114)) (ps := ["self", "alphabet", "name", "after", "each"]) 3 ["each"] ([("after", .int 0)] : List (Str × V)) (fun {α} => gkF [(true, 0), (false, 0)]) (List.cons_ne_nil _ _) (fun q hq => by obtain rfl := List.mem_singleton.mp hq; exact (.head _)) (gkF_rel [(true, 0), (false, 0)]) (fun _ _ _ _ _ us mv ws h1 h2 h3 => match us, mv, ws, h1, h2, h3 with | [_, _, _], [_], [_], _, _, _ => ⟨_, _, _, _, _, _, rfl, rfl, rfl⟩)
  have GK_Drop_2_each : MkKw PP w K mg base "Drop" (He.ga K "Drop") 2 ["each"] (fun (vs zs : List V) => gkF [(true, 0), (false, 0)] vs ([.int 0] : List V) zs) 13 (sp_Drop_init K) := ⟨⟨_, fd_Drop_init, ["self", "alphabet", "name", "after", "each"], _, O_Drop_init.mono (by decide), mk_of (c.fact 115), glo_of X G (c.fact 16), kb_GK_Drop_2_each⟩⟩
  have B_Drop_2 : ∃ ds, Vals ([.int 0, .bl false] : List V) ds ∧ Binds K fd_Drop_init ["self", "alphabet", "name", "after", "each"] ds := SF_Drop_init.binds0 (kwF_of (c.fact 114)) (kws := [("after", .int 0), ("each", .bl false)]) (ps := ["self", "alphabet", "name", "after", "each"]) 3 (List.cons_ne_nil _ _) rfl (fun _ _ _ _ _ us ks h1 h2 => match us, ks, h1, h2 with | [_, _, _], [_, _], _, _ => ⟨_, _, _, _, _, _, rfl, rfl, ⟨_, _, _, _, _, _, rfl, rfl, rfl⟩⟩)
  obtain ⟨ds_Drop_2, v_Drop_2, b_Drop_2⟩ := B_Drop_2
  have G_Drop_2 : Mks PP w K mg base "Drop" (He.ga K "Drop") 13 [.int 0, .bl false] (sp_Drop_init K) := ⟨⟨_, fd_Drop_init, ["self", "alphabet", "name", "after", "each"], ds_Drop_2, O_Drop_init.mono (by decide), mk_of (c.fact 115), glo_of X G (c.fact 16), v_Drop_2, b_Drop_2⟩⟩
  obtain ⟨mv_ks_LastDrop_init_LastDrop, kb_ks_LastDrop_init_LastDrop⟩ := SF_Drop_init.kbinds0 (kwF_of (c.fact 114)) (ps := ["self", "alphabet", "name", "after", "each"]) 3 ["after", "each"] ([] : List (Str × V)) (fun {α} => gkF [(false, 0), (false, 1)]) (List.cons_ne_nil _ _) (fun q hq => nomatch hq) (gkF_rel [(false, 0), (false, 1)]) (fun _ _ _ _ _ us mv ws h1 h2 h3 => match us, mv, ws, h1, h2, h3 with | [_, _, _], [], [_, _], _, _, _ => rfl)
  have S_LastDrop_init : ∀ e ∈ ([(He.ga K "LastDrop", (fun (vs zs : List V) => gkF [(false, 0), (false, 1)] vs ([] : List V) zs), sp_Drop_init K)] : MSK), SuKw PP w K mg base (He.ga K "LastDrop") e.1 "__init__" 2 ["after", "each"] e.2.1 13 e.2.2 := (fun e he => by obtain rfl := List.mem_singleton.mp he; exact suK_of (c.fact 116) (O_Drop_init.mono (by decide)) kb_ks_LastDrop_init_LastDrop)
  have O_LastDrop_init : FnOk PP w K mg base (L2M.CX K PP w) 15 (He.fAd K ("LastDrop", some "__init__")) fd_LastDrop_init ["self", "alphabet", "name", "after", "each"] (sp_LastDrop_init K) := fn_supA SF_LastDrop_init sc_LastDrop_init len_LastDrop_init (t_LastDrop_init K) (fun A outer s H E hr => tm_LastDrop_init T SF_LastDrop_init S_LastDrop_init G_drop_spelling hr) (rd_LastDrop_init T)
  obtain ⟨mv_GK_LastDrop_2_after, kb_GK_LastDrop_2_after⟩ := SF_LastDrop_init.kbinds0 (kwF_of (c.fact 117)) (ps := ["self", "alphabet", "name", "after", "each"]) 3 ["after"] ([("each", .bl false)] : List (Str × V)) (fun {α} => gkF [(false, 0), (true, 0)]) (List.cons_ne_nil _ _) (fun q hq => by obtain rfl := List.mem_singleton.mp hq; exact (.tail _ (.head _))) (gkF_rel [(false, 0), (true, 0)]) (fun _ _ _ _ _ us mv ws h1 h2 h3 => match us, mv, ws, h1, h2, h3 with | [_, _, _], [_], [_], _, _, _ => ⟨_, _, _, _, _, _, rfl, rfl, rfl⟩)
  have GK_LastDrop_2_after : MkKw PP w K mg base "LastDrop" (He.ga K "LastDrop") 2 ["after"] (fun (vs zs : List V) => gkF [(false, 0), (true, 0)] vs ([.bl false] : List V) zs) 15 (sp_LastDrop_init K) := ⟨⟨_, fd_LastDrop_init, ["self", "alphabet", "name", "after", "each"], _, O_LastDrop_init.mono (by decide), mk_of (c.fact 118), glo_of X G (c.fact 17), kb_GK_LastDrop_2_after⟩⟩
  obtain ⟨mv_GK_LastDrop_2_after_each, kb_GK_LastDrop_2_after_each⟩ := SF_LastDrop_init.kbinds0 (kwF_of (c.fact 117)) (ps := ["self", "alphabet", "name", "after", "each"]) 3 ["after", "each"] ([] : List (Str × V)) (fun {α} => gkF [(false, 0), (false, 1)]) (List.cons_ne_nil _ _) (fun q hq => nomatch hq) (gkF_rel [(false, 0), (false, 1)]) (fun _ _ _ _ _ us mv ws h1 h2 h3 => match us, mv, ws, h1, h2, h3 with | [_, _, _], [], [_, _], _, _, _ => rfl)
  have GK_LastDrop_2_after_each : MkKw PP w K mg base "LastDrop" (He.ga K "LastDrop") 2 ["after", "each"] (fun (vs zs : List V) => gkF [(false, 0), (false, 1)] vs ([] : List V) zs) 15 (sp_LastDrop_init K) := ⟨⟨_, fd_LastDrop_init, ["self", "alphabet", "name", "after", "each"], _, O_LastDrop_init.mono (by decide), mk_of (c.fact 118), glo_of X G (c.fact 17), kb_GK_LastDrop_2_after_each⟩⟩
  obtain ⟨mv_GK_LastDrop_2_each, kb_GK_LastDrop_2_each⟩ := SF_LastDrop_init.kbinds0 (kwF_of (c.fact 117)) (ps := ["self", "alphabet", "name", "after", "each"]) 3 ["each"] ([("after", .int 0)] : List (Str × V)) (fun {α} => gkF [(true, 0), (false, 0)]) (List.cons_ne_nil _ _) (fun q hq => by obtain rfl := List.mem_singleton.mp hq; exact (.head _)) (gkF_rel [(true, 0), (false, 0)]) (fun _ _ _ _ _ us mv ws h1 h2 h3 => match us, mv, ws, h1, h2, h3 with | [_, _, _], [_], [_], _, _, _ => ⟨_, _, _, _, _, _, rfl, rfl, rfl⟩)
  have GK_LastDrop_2_each : MkKw PP w K mg base "LastDrop" (He.ga K "LastDrop") 2 ["each"] (fun (vs zs : List V) => gkF [(true, 0), (false, 0)] vs ([.int 0] : List V) zs) 15 (sp_LastDrop_init K) := ⟨⟨_, fd_LastDrop_init, ["self", "alphabet", "name", "after", "each"], _, O_LastDrop_init.mono (by decide), mk_of (c.fact 118), glo_of X G (c.fact 17), kb_GK_LastDrop_2_each⟩⟩
  obtain ⟨mv_GK_LastDrop_2_each_after, kb_GK_LastDrop_2_each_after⟩ := SF_LastDrop_init.kbinds0 (kwF_of (c.fact 117)) (ps := ["self", "alphabet", "name", "after", "each"]) 3 ["each", "after"] ([] : List (Str × V)) (fun {α} => gkF [(false, 1), (false, 0)]) (List.cons_ne_nil _ _) (fun q hq => nomatch hq) (gkF_rel [(false, 1), (false, 0)]) (fun _ _ _ _ _ us mv ws h1 h2 h3 => match us, mv, ws, h1, h2, h3 with | [_, _, _], [], [_, _], _, _, _ => rfl)
  have GK_LastDrop_2_each_after : MkKw PP w K mg base "LastDrop" (He.ga K "LastDrop") 2 ["each", "after"] (fun (vs zs : List V) => gkF [(false, 1), (false, 0)] vs ([] : List V) zs) 15 (sp_LastDrop_init K) := ⟨⟨_, fd_LastDrop_init, ["self", "alphabet", "name", "after", "each"], _, O_LastDrop_init.mono (by decide), mk_of (c.fact 118), glo_of X G (c.fact 17), kb_GK_LastDrop_2_each_after⟩⟩
  have B_LastDrop_2 : ∃ ds, Vals ([.int 0, .bl false] : List V) ds ∧ Binds K fd_LastDrop_init ["self", "alphabet", "name", "after", "each"] ds := SF_LastDrop_init.binds0 (kwF_of (c.fact 117)) (kws := [("after", .int 0), ("each", .bl false)]) (ps := ["self", "alphabet", "name", "after", "each"]) 3 (List.cons_ne_nil _ _) rfl (fun _ _ _ _ _ us ks h1 h2 => match us, ks, h1, h2 with | [_, _, _], [_, _], _, _ => ⟨_, _, _, _, _, _, rfl, rfl, ⟨_, _, _, _, _, _, rfl, rfl, rfl⟩⟩)
  obtain ⟨ds_LastDrop_2, v_LastDrop_2, b_LastDrop_2⟩ := B_LastDrop_2
  have G_LastDrop_2 : Mks PP w K mg base "LastDrop" (He.ga K "LastDrop") 15 [.int 0, .bl false] (sp_LastDrop_init K) := ⟨⟨_, fd_LastDrop_init, ["self", "alphabet", "name", "after", "each"], ds_LastDrop_2, O_LastDrop_init.mono (by decide), mk_of (c.fact 118), glo_of X G (c.fact 17), v_LastDrop_2, b_LastDrop_2⟩⟩
  have O_l_refusal : FnOk PP w K mg base (L2M.CX K PP w) 17 (He.fAd K ("_law_refusal", none)) fd_l_refusal ["_law_alpha", "_law_last", "_law_name_here", "_law_number", "_law_joined"] (sp_l_refusal K) := def_ok F_l_refusal sc_l_refusal len_l_refusal (t_l_refusal K) (fun cdv A outer s H E hr => tm_l_refusal T GK_Drop_2_after_each GK_LastDrop_2_after_each hr) (rd_l_refusal T)
  have B_l_refusal : ∃ ds, Vals ([] : List V) ds ∧ Binds K fd_l_refusal ["_law_alpha", "_law_last", "_law_name_here", "_law_number", "_law_joined"] ds := ⟨[], .nil, F_l_refusal.bindsN (ps := ["_law_alpha", "_law_last", "_law_name_here", "_law_number", "_law_joined"]) fun _ _ _ _ _ _ us hl => match us, hl with | [_, _, _, _, _], _ => rfl⟩
  obtain ⟨ds_l_refusal, v_l_refusal, b_l_refusal⟩ := B_l_refusal
  have G_l_refusal : Fn PP w K mg base "_law_refusal" 17 [] (sp_l_refusal K) := ⟨⟨_, fd_l_refusal, ["_law_alpha", "_law_last", "_law_name_here", "_law_number", "_law_joined"], ds_l_refusal, O_l_refusal.mono (by decide), glo_of X G (c.fact 119), F_l_refusal.kp, v_l_refusal, b_l_refusal⟩⟩
  have O_l_refusals : FnOk PP w K mg base (L2M.CX K PP w) 19 (He.fAd K ("_law_refusals", none)) fd_l_refusals ["_law_box_here", "_law_alpha", "_law_signs", "_law_pool", "_law_form_here"] (sp_l_refusals K) := def_ok F_l_refusals sc_l_refusals len_l_refusals (t_l_refusals K) (fun cdv A outer s H E hr => tm_l_refusals T G_l_refusal G_l_take hr) (rd_l_refusals T)
  have B_l_refusals : ∃ ds, Vals ([] : List V) ds ∧ Binds K fd_l_refusals ["_law_box_here", "_law_alpha", "_law_signs", "_law_pool", "_law_form_here"] ds := ⟨[], .nil, F_l_refusals.bindsN (ps := ["_law_box_here", "_law_alpha", "_law_signs", "_law_pool", "_law_form_here"]) fun _ _ _ _ _ _ us hl => match us, hl with | [_, _, _, _, _], _ => rfl⟩
  obtain ⟨ds_l_refusals, v_l_refusals, b_l_refusals⟩ := B_l_refusals
  have G_l_refusals : Fn PP w K mg base "_law_refusals" 19 [] (sp_l_refusals K) := ⟨⟨_, fd_l_refusals, ["_law_box_here", "_law_alpha", "_law_signs", "_law_pool", "_law_form_here"], ds_l_refusals, O_l_refusals.mono (by decide), glo_of X G (c.fact 120), F_l_refusals.kp, v_l_refusals, b_l_refusals⟩⟩
  have O_l_object : FnOk PP w K mg base (L2M.CX K PP w) 17 (He.fAd K ("_law_object", none)) fd_l_object ["_law_alpha", "_law_form_here", "_law_last"] (sp_l_object K) := def_ok F_l_object sc_l_object len_l_object (t_l_object K) (fun cdv A outer s H E hr => tm_l_object T GK_Drop_2_after GK_Drop_2_after_each GK_Drop_2_each GK_LastDrop_2_after GK_LastDrop_2_each GK_LastDrop_2_each_after G_Drop_2 G_LastDrop_2 hr) (rd_l_object T)
  have B_l_object : ∃ ds, Vals ([] : List V) ds ∧ Binds K fd_l_object ["_law_alpha", "_law_form_here", "_law_last"] ds := ⟨[], .nil, F_l_object.bindsN (ps := ["_law_alpha", "_law_form_here", "_law_last"]) fun _ _ _ _ _ _ us hl => match us, hl with | [_, _, _], _ => rfl⟩
  obtain ⟨ds_l_object, v_l_object, b_l_object⟩ := B_l_object
  have G_l_object : Fn PP w K mg base "_law_object" 17 [] (sp_l_object K) := ⟨⟨_, fd_l_object, ["_law_alpha", "_law_form_here", "_law_last"], ds_l_object, O_l_object.mono (by decide), glo_of X G (c.fact 121), F_l_object.kp, v_l_object, b_l_object⟩⟩
  have O_Drop_str : FnOk PP w K mg base (L2M.CX K PP w) 5 (He.fAd K ("Drop", some "__str__")) fd_Drop_str ["self"] (sp_Drop_str K) := def_ok F_Drop_str sc_Drop_str len_Drop_str (t_Drop_str K) (fun cdv A outer s H E hr => tm_Drop_str T  hr) (rd_Drop_str T)
  have B_Drop___str__ : ∃ ds, Vals ([] : List V) ds ∧ Binds K fd_Drop_str ["self"] ds := ⟨[], .nil, F_Drop_str.bindsN (ps := ["self"]) fun _ _ _ _ _ _ us hl => match us, hl with | [_], _ => rfl⟩
  obtain ⟨ds_Drop___str__, v_Drop___str__, b_Drop___str__⟩ := B_Drop___str__
  have G_Drop___str__ : Me PP w K mg base (He.ga K "Drop") "__str__" 5 [] (sp_Drop_str K) := ⟨⟨_, fd_Drop_str, ["self"], ds_Drop___str__, O_Drop_str.mono (by decide), me_of (c.fact 122), v_Drop___str__, b_Drop___str__⟩, cls_of (c.fact 25)⟩
  have O_LastDrop_str : FnOk PP w K mg base (L2M.CX K PP w) 5 (He.fAd K ("LastDrop", some "__str__")) fd_LastDrop_str ["self"] (sp_LastDrop_str K) := def_ok F_LastDrop_str sc_LastDrop_str len_LastDrop_str (t_LastDrop_str K) (fun cdv A outer s H E hr => tm_LastDrop_str T  hr) (rd_LastDrop_str T)
  have B_LastDrop___str__ : ∃ ds, Vals ([] : List V) ds ∧ Binds K fd_LastDrop_str ["self"] ds := ⟨[], .nil, F_LastDrop_str.bindsN (ps := ["self"]) fun _ _ _ _ _ _ us hl => match us, hl with | [_], _ => rfl⟩
  obtain ⟨ds_LastDrop___str__, v_LastDrop___str__, b_LastDrop___str__⟩ := B_LastDrop___str__
  have G_LastDrop___str__ : Me PP w K mg base (He.ga K "LastDrop") "__str__" 5 [] (sp_LastDrop_str K) := ⟨⟨_, fd_LastDrop_str, ["self"], ds_LastDrop___str__, O_LastDrop_str.mono (by decide), me_of (c.fact 123), v_LastDrop___str__, b_LastDrop___str__⟩, cls_of (c.fact 26)⟩
  have O_l_written : FnOk PP w K mg base (L2M.CX K PP w) 5 (He.fAd K ("_law_written", none)) fd_l_written ["_law_form_here", "_law_last"] (sp_l_written K) := def_ok F_l_written sc_l_written len_l_written (t_l_written K) (fun cdv A outer s H E hr => tm_l_written T  hr) (rd_l_written T)
  have B_l_written : ∃ ds, Vals ([] : List V) ds ∧ Binds K fd_l_written ["_law_form_here", "_law_last"] ds := ⟨[], .nil, F_l_written.bindsN (ps := ["_law_form_here", "_law_last"]) fun _ _ _ _ _ _ us hl => match us, hl with | [_, _], _ => rfl⟩
  obtain ⟨ds_l_written, v_l_written, b_l_written⟩ := B_l_written
  have G_l_written : Fn PP w K mg base "_law_written" 5 [] (sp_l_written K) := ⟨⟨_, fd_l_written, ["_law_form_here", "_law_last"], ds_l_written, O_l_written.mono (by decide), glo_of X G (c.fact 124), F_l_written.kp, v_l_written, b_l_written⟩⟩
  have O_Alphabet_eq : FnOk PP w K mg base (L2M.CX K PP w) 5 (He.fAd K ("Alphabet", some "__eq__")) fd_Alphabet_eq ["self", "other"] (sp_Alphabet_eq K) := def_ok F_Alphabet_eq sc_Alphabet_eq len_Alphabet_eq (t_Alphabet_eq K) (fun cdv A outer s H E hr => tm_Alphabet_eq T  hr) (rd_Alphabet_eq T)
  have B_Alphabet___eq__ : ∃ ds, Vals ([] : List V) ds ∧ Binds K fd_Alphabet_eq ["self", "other"] ds := ⟨[], .nil, F_Alphabet_eq.bindsN (ps := ["self", "other"]) fun _ _ _ _ _ _ us hl => match us, hl with | [_, _], _ => rfl⟩
  obtain ⟨ds_Alphabet___eq__, v_Alphabet___eq__, b_Alphabet___eq__⟩ := B_Alphabet___eq__
  have G_Alphabet___eq__ : Me PP w K mg base (He.ga K "Alphabet") "__eq__" 5 [] (sp_Alphabet_eq K) := ⟨⟨_, fd_Alphabet_eq, ["self", "other"], ds_Alphabet___eq__, O_Alphabet_eq.mono (by decide), me_of (c.fact 125), v_Alphabet___eq__, b_Alphabet___eq__⟩, cls_of (c.fact 24)⟩
  have O_l_shown : FnOk PP w K mg base (L2M.CX K PP w) 8 (He.fAd K ("_law_shown", none)) fd_l_shown ["_law_stage", "_law_alpha", "_law_form_here", "_law_last"] (sp_l_shown K) := def_ok F_l_shown sc_l_shown len_l_shown (t_l_shown K) (fun cdv A outer s H E hr => tm_l_shown T G_Alphabet___eq__ G_Drop___str__ G_LastDrop___str__ G_l_written hr) (rd_l_shown T)
  have B_l_shown : ∃ ds, Vals ([] : List V) ds ∧ Binds K fd_l_shown ["_law_stage", "_law_alpha", "_law_form_here", "_law_last"] ds := ⟨[], .nil, F_l_shown.bindsN (ps := ["_law_stage", "_law_alpha", "_law_form_here", "_law_last"]) fun _ _ _ _ _ _ us hl => match us, hl with | [_, _, _, _], _ => rfl⟩
  obtain ⟨ds_l_shown, v_l_shown, b_l_shown⟩ := B_l_shown
  have G_l_shown : Fn PP w K mg base "_law_shown" 8 [] (sp_l_shown K) := ⟨⟨_, fd_l_shown, ["_law_stage", "_law_alpha", "_law_form_here", "_law_last"], ds_l_shown, O_l_shown.mono (by decide), glo_of X G (c.fact 126), F_l_shown.kp, v_l_shown, b_l_shown⟩⟩
  have O_l_name : FnOk PP w K mg base (L2M.CX K PP w) 7 (He.fAd K ("_law_name", none)) fd_l_name ["_law_box_here", "_law_signs"] (sp_l_name K) := def_ok F_l_name sc_l_name len_l_name (t_l_name K) (fun cdv A outer s H E hr => tm_l_name T G_l_take hr) (rd_l_name T)
  have B_l_name : ∃ ds, Vals ([] : List V) ds ∧ Binds K fd_l_name ["_law_box_here", "_law_signs"] ds := ⟨[], .nil, F_l_name.bindsN (ps := ["_law_box_here", "_law_signs"]) fun _ _ _ _ _ _ us hl => match us, hl with | [_, _], _ => rfl⟩
  obtain ⟨ds_l_name, v_l_name, b_l_name⟩ := B_l_name
  have G_l_name : Fn PP w K mg base "_law_name" 7 [] (sp_l_name K) := ⟨⟨_, fd_l_name, ["_law_box_here", "_law_signs"], ds_l_name, O_l_name.mono (by decide), glo_of X G (c.fact 127), F_l_name.kp, v_l_name, b_l_name⟩⟩
  have O_l_form : FnOk PP w K mg base (L2M.CX K PP w) 9 (He.fAd K ("_law_form", none)) fd_l_form ["_law_box_here", "_law_signs"] (sp_l_form K) := def_ok F_l_form sc_l_form len_l_form (t_l_form K) (fun cdv A outer s H E hr => tm_l_form T G_l_name G_l_take hr) (rd_l_form T)
  have B_l_form : ∃ ds, Vals ([] : List V) ds ∧ Binds K fd_l_form ["_law_box_here", "_law_signs"] ds := ⟨[], .nil, F_l_form.bindsN (ps := ["_law_box_here", "_law_signs"]) fun _ _ _ _ _ _ us hl => match us, hl with | [_, _], _ => rfl⟩
  obtain ⟨ds_l_form, v_l_form, b_l_form⟩ := B_l_form
  have G_l_form : Fn PP w K mg base "_law_form" 9 [] (sp_l_form K) := ⟨⟨_, fd_l_form, ["_law_box_here", "_law_signs"], ds_l_form, O_l_form.mono (by decide), glo_of X G (c.fact 128), F_l_form.kp, v_l_form, b_l_form⟩⟩
  have O_l_world : FnOk PP w K mg base (L2M.CX K PP w) 7 (He.fAd K ("_law_world", none)) fd_l_world ["_law_box_here", "_law_count"] (sp_l_world K) := def_ok F_l_world sc_l_world len_l_world (t_l_world K) (fun cdv A outer s H E hr => tm_l_world T G_l_take hr) (rd_l_world T)
  have B_l_world : ∃ ds, Vals ([] : List V) ds ∧ Binds K fd_l_world ["_law_box_here", "_law_count"] ds := ⟨[], .nil, F_l_world.bindsN (ps := ["_law_box_here", "_law_count"]) fun _ _ _ _ _ _ us hl => match us, hl with | [_, _], _ => rfl⟩
  obtain ⟨ds_l_world, v_l_world, b_l_world⟩ := B_l_world
  have G_l_world : Fn PP w K mg base "_law_world" 7 [] (sp_l_world K) := ⟨⟨_, fd_l_world, ["_law_box_here", "_law_count"], ds_l_world, O_l_world.mono (by decide), glo_of X G (c.fact 129), F_l_world.kp, v_l_world, b_l_world⟩⟩
  have O_all_different : FnOk PP w K mg base (L2M.CX K PP w) 5 (He.fAd K ("all_different", none)) fd_all_different ["string"] (sp_all_different K) := def_ok F_all_different sc_all_different len_all_different (t_all_different K) (fun cdv A outer s H E hr => tm_all_different T  hr) (rd_all_different T)
  have B_all_different : ∃ ds, Vals ([] : List V) ds ∧ Binds K fd_all_different ["string"] ds := ⟨[], .nil, F_all_different.bindsN (ps := ["string"]) fun _ _ _ _ _ _ us hl => match us, hl with | [_], _ => rfl⟩
  obtain ⟨ds_all_different, v_all_different, b_all_different⟩ := B_all_different
  have G_all_different : Fn PP w K mg base "all_different" 5 [] (sp_all_different K) := ⟨⟨_, fd_all_different, ["string"], ds_all_different, O_all_different.mono (by decide), glo_of X G (c.fact 130), F_all_different.kp, v_all_different, b_all_different⟩⟩
  have O_Alphabet_init : FnOk PP w K mg base (L2M.CX K PP w) 7 (He.fAd K ("Alphabet", some "__init__")) fd_Alphabet_init ["self", "letters", "vowels"] (sp_Alphabet_init K) := def_ok F_Alphabet_init sc_Alphabet_init len_Alphabet_init (t_Alphabet_init K) (fun cdv A outer s H E hr => tm_Alphabet_init T G_all_different X_BadAlphabet hr) (rd_Alphabet_init T)
  have B_Alphabet : ∃ ds, Vals ([] : List V) ds ∧ Binds K fd_Alphabet_init ["self", "letters", "vowels"] ds := F_Alphabet_init.binds1 (ps := ["self", "letters", "vowels"]) 3 1 (List.cons_ne_nil _ _) rfl (fun _ _ _ _ _ _ _ us its h1 h2 => match us, its, h1, h2 with | [_, _, _], [_], _, _ => ⟨_, rfl, rfl⟩)
  obtain ⟨ds_Alphabet, v_Alphabet, b_Alphabet⟩ := B_Alphabet
  have G_Alphabet : Mks PP w K mg base "Alphabet" (He.ga K "Alphabet") 7 [] (sp_Alphabet_init K) := ⟨⟨_, fd_Alphabet_init, ["self", "letters", "vowels"], ds_Alphabet, O_Alphabet_init.mono (by decide), mk_of (c.fact 131), glo_of X G (c.fact 12), v_Alphabet, b_Alphabet⟩⟩
  have O_law : FnOk PP w K mg base (L2M.CX K PP w) 21 (He.fAd K ("law", none)) fd_law ["_law_script"] (sp_law K) := def_ok F_law sc_law len_law (t_law K) (fun cdv A outer s H E hr => tm_law T G_Alphabet G_Drop___call__ G_LastDrop___call__ G_l_box G_l_drop G_l_form G_l_members G_l_object G_l_refusals G_l_refuses_text G_l_shown G_l_take G_l_text G_l_world hr) (rd_law T)
  exact O_law
end Lw
open PySem PySem.W PySem.Calls PyProof.Rows
set_option maxHeartbeats 0 in
theorem PySem.Challenge.cw_talepost_k36_drops_holds : PySem.Challenge.rw_talepost_k36_drops.Holds := by
  w_on; o_law
  refine HandSHeadRun.head_any (r := OpenLaw.row PySem.Challenge.rw_talepost_k36_drops) (q := view (OpenLaw.row PySem.Challenge.rw_talepost_k36_drops).prog [35]) (H := Lw.hk) (ob := Lw.ob) (M := 12000) (loose := Lw.loose) (d := HandSHeadRun.topDef (OpenLaw.row PySem.Challenge.rw_talepost_k36_drops).prog 35) (kwd := []) Lw.ob_eq
    (by kernel_rfl) (fun s => by kernel_rfl) Lw.run (by kernel_rfl) (by kernel_rfl) (by kernel_rfl) (by rfl) (by first | assumption | decide +kernel) (by decide +kernel) ⟨rfl, rfl, rfl, rfl, rfl, by decide +kernel⟩ ?hw ?hc
  case hw => w_witness2
  case hc =>
    refine Ta.walk_ofX (l := PySem.Challenge.rw_talepost_k36_drops) (n := 63) (k := 21) (x := "_law_script") rfl (by decide) (by kernel_rfl) ⟨rfl, by decide, by decide⟩ ?F
    intro w mg fa h Y G hmg0
    obtain ⟨K, KX, c⟩ := Y
    have hmg : mg ("law" : PySem.Str) = some (.ref fa) := by
      have e : (HandSHeadRun.topDef (OpenLaw.row PySem.Challenge.rw_talepost_k36_drops).prog 35).name = ("law" : PySem.Str) := by kernel_rfl
      rw [← e]
      exact hmg0
    obtain ⟨fd, hb, hF⟩ := Lw.all_ok (w := w) KX G c
    have e := hmg.symm.trans (Ta.glo_of KX G (x := "law") (c.fact 133))
    cases e
    refine ⟨K, fd, Lw.sp_law K, KX, hb, fun H a ns hl hO hS => ?_, hF⟩
    obtain ⟨oj, hS⟩ := Ta.scr_of (c.fact 132) hO hS
    exact Lw.law_in hS hl

