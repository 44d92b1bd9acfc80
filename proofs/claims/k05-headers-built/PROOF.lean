import PyProof.Rows.All
import Wide.All
import OpenK.AllK
import Wide.FinOn
import PyProof.ReprRoads
import HandS.ForMost
import HandS.Wide
import HandS.IsInst
import HandS.Defaults
import HandS.Walk
import HandS.More
import HandS.Codes
import HandS.WordsExc
import PyProof.Rows.StrIntSpec
import PyProof.FString3
import PyProof.SumWalk
import KE.KBytesNew
import KE.KBytesWalk
import KE.KStrBytes
import HandS.Bytes
import HandS.ToBytes
import HandS.FStr
import HandS.StrMore
import HandS.BytesMake
import HandS.MakeKwOnly
import KE.KExcSuper
import HandS.Exc
import HandS.ExcSuper
import HandS.ExcField
import HandS.ExcIs
import HandS.TryOnly
import KE.KExcIs
import HandS.Style
import HandS.CallSlots
import HandS.Flow
import PyProof.NeKinds
import PyProof.CallFns
import Wide.BytesRules
import PySem.Challenge.RW_tarhouse_k05_headers_built
set_option Elab.async false
set_option linter.all false
set_option maxRecDepth 100000
set_option maxHeartbeats 4000000
/-! Rules of our own over the hand layer, for the laws of tarhouse. -/
namespace Tar
open PySem PySem.Spec PyProof.Rows L2
/-! ### heaps -/
/-- all but what stands at p is as it was -/
def Kp (p : Addr) (H H' : Hp) : Prop := ∀ b o, H b = some o → b ≠ p → H' b = some o
theorem Kp.refl (p : Addr) (H : Hp) : Kp p H H := fun _ _ e _ => e
theorem Kp.trans {p : Addr} {H H1 H2 : Hp} (a : Kp p H H1) (b : Kp p H1 H2) : Kp p H H2 := fun c o e n => b c o (a c o e n) n
theorem Kp.of {p : Addr} {H H' : Hp} (s : Same H H') : Kp p H H' := fun b o e _ => s b o e
theorem Kp.same {p : Addr} {H H' : Hp} {o : HO} (k : Kp p H H') (n : H p = none) : Same H H' := fun b u e => k b u e (ne_of_none e n)
theorem kp_upd {p : Addr} {H : Hp} {o : HO} : Kp p H (upd H p o) := fun b u e n => by
  rw [upd_ne n]
  exact e
theorem same_upd {H : Hp} {p : Addr} {o : HO} (h : H p = none) : Same H (upd H p o) := fun b x e => by
  rw [upd_ne (ne_of_none e h)]
  exact e
theorem Same.tup {K : PySem.W.Frag} {H H' : Hp} {a : Addr} {xs : List V} (e : Same H H') (h : SqT K H a xs) : SqT K H' a xs := by
  rcases h with h | h
  · rcases h with h | ⟨o, h⟩
    · exact .inl (.inl (e _ _ h))
    · exact .inl (.inr ⟨o, e _ _ h⟩)
  · exact .inr h
/-! ### text times int -/
section
variable {X : Cx}
theorem op_mul_str : OpR X (binaryOp .Mult) (fun x y H Q => ∃ i n, x = .str i ∧ y = .int n ∧ MulOk i n ∧ Q (.str (Txt.mul i n)) H) := by
  intro pins s σ H x y v u Q I rx ry h
  obtain ⟨i, n, rfl, rfl, hm, q⟩ := h
  obtain ⟨t, rfl⟩ := rx
  obtain ⟨t', rfl⟩ := ry
  exact SB.mul hm fun t2 k => ⟨.str (Txt.mul i n), H, I.tok k, ⟨t2, rfl⟩, q⟩
end
/-! ### f(k = v, ..) of a def -/
section
variable {X : Cx} {CX : CXT} {k : Nat} {f : Addr} {fd : FuncData} {ps ks : List Str} {sp : Sp} {E : XK} {x : Str} {p pos : Pos} {kws : List Keyword} {tk : TA} {g : List Value → List Value → List Value} {gV : List V → List V → List V}
def tCallK0 (m : Nat) (sp : Sp) (gV : List V → List V → List V) (E : XK) (tk : TA) : TE := fun σ H Q => tk σ H fun zs H2 => zs.length = m ∧ sp (gV [] zs) H2 Q E
theorem pe_callK0 (F : FnOk X.prog X.w X.K X.mg X.base CX k f fd ps sp) (hr : Room k X.A) (hg : Gl X x) (hm : X.mg x = some (.ref f)) (hk : PySem.W.keepIn X.K (.ref f) = true) (hb : KBn X.K fd ps 0 ks g gV) (hx : Passes CX X E) (hkw : PK X kws tk)
    (hall : (backToKw pos (keywordEach kws X.env)).all (·.1.isSome) = true := by rfl)
    (hks : (backToKw pos (keywordEach kws X.env)).filterMap (·.1) = ks := by rfl) (hdb : (x == ("__debug__" : Str)) = false := by decide)
    (hpl : ((backTo pos (starEach [] X.env)).any (·.1) || (backToKw pos (keywordEach kws X.env)).any (·.1.isNone)) = false := by rfl) :
    PE X (.Call (.Name x p) [] kws pos) (tCallK0 ks.length sp gV E tk) := by
  constructor
  intro pins s σ H Q I h
  refine wpAny_Call_Name_kw (ld_glob I hg hm ?_ hdb)
  refine PySem.W.callWith_KW0 (h₀ := X.base) I.ok.mod.kin hk hall ?_ hpl
  refine thn (hkw.run pos pins s σ H _ I h) ?_
  rintro ws s2 ⟨zs, H2, I2, rz, l2, q2⟩
  refine ⟨I2.kIn, ?_⟩
  rw [hks]
  exact run_fnN (us := []) (vs := []) F hr hb hx I2 .nil rz rfl l2 q2
/-- one parameter, given by its name -/
theorem kbn_one {K : PySem.W.Frag} {fd : FuncData} {a : Str} (h : ∀ v : Value, bindArgs fd ⟨[], [(a, v)]⟩ = pure [(a, v)]) : KBn K fd [a] 0 [a] (fun _ ws => ws) (fun _ zs => zs) := by
  refine ⟨fun s us ws _ l1 l2 => ?_, fun _ r => r⟩
  obtain rfl : us = [] := List.eq_nil_of_length_eq_zero l1
  match ws, l2 with
  | [w1], _ => exact .of_eq (h w1)
end
/-! ### repr of data -/
section
variable {X : Cx}
theorem call_repr (hg : X.A.guards = some []) (hu : X.A.units + 64 < cLine) : CallR X (.builtin "repr") (fun xs H Q => ∃ a d, xs = [.ref a] ∧ Dp X.K H (.ref a) d ∧ d.showable = true ∧ d.hasDict = false ∧ d.depth < 60 ∧ d.shown.length ≤ sizeLine ∧ Q (.str d.shown) H) := by
  intro pins s σ H xs us Q I r h
  obtain ⟨a, d, rfl, hd, h1, h2, h3, h4, q⟩ := h
  obtain rfl := Vals.ref1 r
  obtain ⟨as, hr⟩ := Dp.reads I d (.ref a) (.ref a) hd rfl
  refine repr_of_reads' hr h1 (fun z => ?_) hg (by omega) (fun _ _ e => e) (fun h' u tk hk => ?_) h4
  · rw [h2] at z
    cases z
  · exact ⟨.str d.shown, H, I.kept hk, ⟨u, rfl⟩, q⟩
end
/-! ### a def's promise where no repr is running around -/
structure FnG (P : Program) (w : World) (K : PySem.W.Frag) (mg : Str → Option Value) (base : Heap) (CX : CXT) (k : Nat) (f : Addr) (fd : FuncData) (ps : List Str) (sp : Sp) : Prop where
  len : ∀ vs H Q E, sp vs H Q E → vs.length = ps.length
  run : ∀ (A : Around) (outer : List Env) (s : Shared) (H : Hp) (args : Args) (us : List Value) (vs : List V) (Q : VK) (E : XK), A.guards = some [] → Room k A → Env0 P w K mg base A outer s H →
    BindsTo s fd args (ps.zip us) → Vals vs us → sp vs H Q E → codeAny (model P w) A (.call (.ref f) args) (CR CX outer P w H s Q E) s

/-! ### defs by their names -/
/-- the def x of the text stands behind the top -/
def Def (K : PySem.W.Frag) (mg : Str → Option Value) (x : Str) (st : Stmt) : Prop := ∃ f fd, Fun K x x st f fd ∧ mg x = some (.ref f)
/-- the def x keeps its promise -/
def Cal (P : Program) (w : World) (K : PySem.W.Frag) (mg : Str → Option Value) (base : Heap) (k : Nat) (x : Str) (st : Stmt) (ps : List Str) (sp : Sp) : Prop :=
  ∃ f fd, FnOk P w K mg base CX0 k f fd ps sp ∧ Fun K x x st f fd ∧ mg x = some (.ref f) ∧ Binds K fd ps []
/-- .. called by keywords alone -/
def CalK (P : Program) (w : World) (K : PySem.W.Frag) (mg : Str → Option Value) (base : Heap) (k : Nat) (x : Str) (st : Stmt) (ps ks : List Str) (gV : List V → List V → List V) (sp : Sp) : Prop :=
  ∃ f fd g, FnOk P w K mg base CX0 k f fd ps sp ∧ Fun K x x st f fd ∧ mg x = some (.ref f) ∧ KBn K fd ps 0 ks g gV
section
variable {P : Program} {w : World} {K : PySem.W.Frag} {mg : Str → Option Value} {base : Heap} {x : Str} {st : Stmt} {N ps : List Str} {k : Nat} {sp : Sp}
theorem cal_of (D : Def K mg x st) (S : FnScope N ps (defScope st))
    (hb : ∀ (kV doc pm : Value) (an : Option Addr) (cdv ct : Value) (us : List Value), us.length = ps.length →
      bindArgs (PySem.W.fnOf x x (defArgs st) (defBody st) (defScope st) .none kV doc pm an cdv ct) ⟨us, []⟩ = pure (ps.zip us))
    (ln : ∀ vs H Q E, sp vs H Q E → vs.length = ps.length)
    (hbody : ∀ (f : Addr) (cdv : Value) (A : Around) (outer : List Env) (s : Shared) (H : Hp) (vs : List V) (Q : VK) (E : XK),
      Room k (A.deeper (envOfC x (defScope st) s.heap.objs.size f cdv)) → sp vs H Q E →
      ∃ t, PSs (cxOf CX0 P w K mg base N x (defScope st) f cdv A outer s H E).nox (defBody st) t ∧ t { nx := fun _ H' => Q .non H', rt := Q } (start N vs) H) :
    Cal P w K mg base (k + 1) x st ps sp := by
  obtain ⟨f, fd, F, g⟩ := D
  exact ⟨f, fd, F.ok S ln (fun cdv A outer s H vs Q E hr h => hbody f cdv A outer s H vs Q E hr h), F, g, F.binds hb⟩
theorem Cal.imp {sp' : Sp} (c : Cal P w K mg base k x st ps sp) (h : ∀ vs H Q E, sp' vs H Q E → sp vs H Q E) : Cal P w K mg base k x st ps sp' := by
  obtain ⟨f, fd, F, D, g, b⟩ := c
  exact ⟨f, fd, F.imp h, D, g, b⟩
/-- a def of one parameter, called by its name -/
theorem Cal.kw1 {a : Str} (c : Cal P w K mg base k x st [a] sp)
    (hb : ∀ (kV doc pm : Value) (an : Option Addr) (cdv ct v : Value), bindArgs (PySem.W.fnOf x x (defArgs st) (defBody st) (defScope st) .none kV doc pm an cdv ct) ⟨[], [(a, v)]⟩ = pure [(a, v)]) :
    CalK P w K mg base k x st [a] [a] (fun _ zs => zs) sp := by
  obtain ⟨f, fd, F, D, g, b⟩ := c
  obtain ⟨oc, od, kV, doc, pm, an, cdv, ct, osl, rfl, lk, hcd⟩ := D.ex
  exact ⟨f, _, _, F, D, g, kbn_one (fun v => hb kV doc pm an cdv ct v)⟩
end
section
variable {X : Cx} {k j : Nat} {ps ks : List Str} {sp : Sp} {st : Stmt} {E : XK} {x : Str} {p pos : Pos} {e : Expr} {es : List Expr} {kws : List Keyword} {t tk : TA} {gV : List V → List V → List V}
theorem pe_cal (c : Cal X.prog X.w X.K X.mg X.base k x st ps sp) (hr : Room j X.A) (hk : k ≤ j) (hg : Gl X x) (hx : Passes CX0 X E) (ha : PA X (e :: es) t)
    (hdb : (x == ("__debug__" : Str)) = false := by decide) (he : starEach (e :: es) X.env = (false, eval e X.env) :: starEach es X.env := by rfl) (hpl : (backTo pos (starEach es X.env)).any (·.1) = false := by rfl) :
    PE X (.Call (.Name x p) (e :: es) [] pos) (tCall sp [] E t) := by
  obtain ⟨f, fd, F, D, g, b⟩ := c
  exact pe_call F (hr.mono hk) hg g D.kp b .nil hx ha hdb he hpl
theorem pe_calK (c : CalK X.prog X.w X.K X.mg X.base k x st ps ks gV sp) (hr : Room j X.A) (hk : k ≤ j) (hg : Gl X x) (hx : Passes CX0 X E) (hkw : PK X kws tk)
    (hall : (backToKw pos (keywordEach kws X.env)).all (·.1.isSome) = true := by rfl) (hks : (backToKw pos (keywordEach kws X.env)).filterMap (·.1) = ks := by rfl)
    (hdb : (x == ("__debug__" : Str)) = false := by decide)
    (hpl : ((backTo pos (starEach [] X.env)).any (·.1) || (backToKw pos (keywordEach kws X.env)).any (·.1.isNone)) = false := by rfl) :
    PE X (.Call (.Name x p) [] kws pos) (tCallK0 ks.length sp gV E tk) := by
  obtain ⟨f, fd, g, F, D, gm, b⟩ := c
  exact pe_callK0 F (hr.mono hk) hg gm D.kp b hx hkw hall hks hdb hpl
/-- from what the top has left -/
theorem def_mk {K : PySem.W.Frag} {mg : Str → Option Value} {h : Heap} {x : Str} {st : Stmt} {f : Addr} {oc : Value} {od an : Option Addr} {osl : Array (Option Value)} {kV doc pm cdv ct : Value} (X : K.In h) (G : h.Ns mainGlobals mg)
    (a : PySem.W.nsIn K mainGlobals x = some (some (.ref f)))
    (l : K.lookup f = some ⟨oc, od, .func (PySem.W.fnOf x x (defArgs st) (defBody st) (defScope st) .none kV doc pm an cdv ct), osl⟩)
    (c : PySem.W.codeIn K cdv x = true) (k : PySem.W.keepIn K (.ref f) = true) : Def K mg x st :=
  ⟨f, _, fun_mk l c k, PySem.W.mg_of X G a⟩
/-- a constant of the module -/
theorem pe_gc {v : V} (hg : Gl X x) (h : ∃ u, X.mg x = some u ∧ RelV v u) (hd : (x == ("__debug__" : Str)) = false := by decide) : PE X (.Name x pos) (tC v) := by
  obtain ⟨u, e, r⟩ := h
  exact pe_glob hg e r hd
end
/-- a built-in class as a value -/
theorem pe_ty {X : Cx} {x : Str} {pos : Pos} (n : String) (hg : Gl X x) (hm : X.mg x = none) (hv : bootBuiltins x = some (.type n)) (hn : x ≠ "__name__" := by decide) (hd : (x == ("__debug__" : Str)) = false := by decide) :
    PE X (.Name x pos) (tC (.ty n)) := pe_bltn hg hm hv rfl hn hd
/-- len, by a K that is written -/
def rLenK (K : PySem.W.Frag) : List V → Hp → VK → Prop := fun xs H Q => ∃ p ys, xs = [.ref p] ∧ (SqL K H p ys ∨ SqT K H p ys) ∧ Q (.int ys.length) H
theorem call_lenK {X : Cx} {K : PySem.W.Frag} (h : X.K = K) : CallR X (.builtin "len") (rLenK K) := by
  subst h
  exact call_len_seq
def rLenV (K : PySem.W.Frag) : List V → Hp → VK → Prop := fun xs H Q => ∃ x n, xs = [x] ∧ LenV K x H n ∧ Q (.int n) H
theorem call_lenV {X : Cx} {K : PySem.W.Frag} (h : X.K = K) : CallR X (.builtin "len") (rLenV K) := by
  subst h
  exact call_len
/-! ### comprehensions whose element leaves the heap as it is -/
section
variable {J : It} {n : Nat} {G : Hp → Prop} {Y : Nat → Hp → V → Hp → Prop}
theorem lc_map (w : Walk J n G Y) {i0 : Nat} {te : TE} {σ : L2.St} {H1 : Hp} {D : Addr} {Qd : Hp → Prop} (f : Nat → V) (hz : n ≤ sizeLine)
    (hG : ∀ xs, G (upd H1 D (.lst xs)))
    (hs : ∀ i x H H', i < n → Y i H x H' → H = upd H1 D (.lst ((List.range i).map f)) → H' = H ∧ wipe ((wipe σ [i0]).set i0 (some x)) [i0] = wipe σ [i0] ∧
      ∀ Q : VK, Q (f i) H → te ((wipe σ [i0]).set i0 (some x)) H Q) (hd : Qd (upd H1 D (.lst ((List.range n).map f)))) :
    ∃ W : Nat → Nat → Hp → Prop, (∃ m, W 0 m (upd H1 D (.lst []))) ∧ ∀ i m H, W i m H →
      (J.stop i H ∧ Qd H) ∨ (J.go i H ∧ ∃ Nx : Hp → Prop, (∀ H', Nx H' → ∃ m', m' < m ∧ W (i + 1) m' H') ∧ ∀ x H', J.yld i H x H' → (gName i0) x (wipe σ [i0]) H' fun σ2 H2 => wipe σ2 [i0] = wipe σ [i0] ∧ tYes σ2 H2 fun b H3 =>
        if b = true then te σ2 H3 fun y H4 => ∃ acc, H4 D = some (.lst acc) ∧ acc.length < sizeLine ∧ Nx (upd H4 D (.lst (acc ++ [y]))) else Nx H3) := by
  refine lc_it w (fun i H => H = upd H1 D (.lst ((List.range i).map f))) rfl (fun i H _ e => by rw [e]; exact hG _) ?_ ?_
  · intro i x H H' hi e y
    obtain ⟨rfl, hw, hq⟩ := hs i x H H' hi y e
    refine ⟨hw, ?_⟩
    refine hq _ ⟨(List.range i).map f, ?_, ?_, ?_⟩
    · rw [e, upd_same]
    · rw [List.length_map, List.length_range]
      omega
    · rw [e, upd_upd, List.range_succ, List.map_append]
      rfl
  · intro H e
    rw [e]
    exact hd
/-- .. whose element may lay new objects -/
theorem lc_grow (w : Walk J n G Y) {g : TG} {tt : TT} {vs : List Nat} {te : TE} {σ : L2.St} {H1 : Hp} {D : Addr} {Qd : Hp → Prop} (f : Nat → V) (hz : n ≤ sizeLine) (hD : H1 D = none)
    (hG : ∀ H, Same H1 H → G H)
    (hs : ∀ i x H H' (Z : VK), i < n → Y i H x H' → Same H1 H → H D = some (.lst ((List.range i).map f)) → (∀ H2, Same H' H2 → Z (f i) H2) →
      Same H H' ∧ g x (wipe σ vs) H' fun σ2 H2 => wipe σ2 vs = wipe σ vs ∧ tt σ2 H2 fun b H3 => b = true ∧ te σ2 H3 Z)
    (mt : ∀ σ H (Q Q' : Bool → Hp → Prop), (∀ b H1, Q b H1 → Q' b H1) → tt σ H Q → tt σ H Q')
    (mg : ∀ x σ H (Q Q' : L2.St → Hp → Prop), (∀ a b, Q a b → Q' a b) → g x σ H Q → g x σ H Q')
    (hd : ∀ H, Same H1 H → H D = some (.lst ((List.range n).map f)) → Qd H) :
    ∃ W : Nat → Nat → Hp → Prop, (∃ m, W 0 m (upd H1 D (.lst []))) ∧ ∀ i m H, W i m H →
      (J.stop i H ∧ Qd H) ∨ (J.go i H ∧ ∃ Nx : Hp → Prop, (∀ H', Nx H' → ∃ m', m' < m ∧ W (i + 1) m' H') ∧ ∀ x H', J.yld i H x H' → g x (wipe σ vs) H' fun σ2 H2 => wipe σ2 vs = wipe σ vs ∧ tt σ2 H2 fun b H3 =>
        if b = true then te σ2 H3 fun y H4 => ∃ acc, H4 D = some (.lst acc) ∧ acc.length < sizeLine ∧ Nx (upd H4 D (.lst (acc ++ [y]))) else Nx H3) := by
  refine lc_it w (fun i H => Same H1 H ∧ H D = some (.lst ((List.range i).map f))) ⟨same_upd hD, upd_same⟩ (fun i H _ e => hG H e.1) ?_ ?_
  · rintro i x H H' hi ⟨e1, e2⟩ y
    obtain ⟨sm, -⟩ := hs i x H H' (fun _ _ => True) hi y e1 e2 (fun _ _ => trivial)
    obtain ⟨-, q⟩ := hs i x H H' (fun y H4 => ∃ acc, H4 D = some (.lst acc) ∧ acc.length < sizeLine ∧
      (Same H1 (upd H4 D (.lst (acc ++ [y]))) ∧ (upd H4 D (.lst (acc ++ [y]))) D = some (.lst ((List.range (i + 1)).map f)))) hi y e1 e2 (fun H2 s2 => by
        refine ⟨(List.range i).map f, s2 _ _ (sm _ _ e2), ?_, ?_, ?_⟩
        · rw [List.length_map, List.length_range]
          omega
        · intro b o hb
          rw [upd_ne (ne_of_none hb hD)]
          exact s2 _ _ (sm _ _ (e1 _ _ hb))
        · rw [upd_same, List.range_succ, List.map_append]
          rfl)
    refine mg _ _ _ _ _ ?_ q
    rintro σ2 H2 ⟨hw, ht⟩
    refine ⟨hw, mt _ _ _ _ ?_ ht⟩
    rintro b H3 ⟨rfl, hq⟩
    exact hq
  · rintro H ⟨e1, e2⟩
    exact hd H e1 e2
theorem mono_yes : ∀ (σ : L2.St) (H : Hp) (Q Q' : Bool → Hp → Prop), (∀ b H1, Q b H1 → Q' b H1) → tYes σ H Q → tYes σ H Q' := fun _ _ _ _ h q => h _ _ q
theorem mono_name {i : Nat} : ∀ (x : V) (σ : L2.St) (H : Hp) (Q Q' : L2.St → Hp → Prop), (∀ a b, Q a b → Q' a b) → gName i x σ H Q → gName i x σ H Q' := fun _ _ _ _ _ h q => h _ _ q
end
section
variable {P : Program} {w : World} {K : PySem.W.Frag} {mg : Str → Option Value} {base : Heap}
/-- a def by its body, where no repr is running around it -/
theorem okG {x qual : Str} {st : Stmt} {f : Addr} {fd : FuncData} {N ps : List Str} {k : Nat} {sp : Sp} (F : Fun K x qual st f fd) (S : FnScope N ps (defScope st))
    (ln : ∀ vs H Q E, sp vs H Q E → vs.length = ps.length)
    (hb : ∀ (cdv : Value) (A : Around) (outer : List Env) (s : Shared) (H : Hp) (vs : List V) (Q : VK) (E : XK), A.guards = some [] → Room k (A.deeper (envOfC qual (defScope st) s.heap.objs.size f cdv)) → sp vs H Q E →
      ∃ t, PSs (cxOf CX0 P w K mg base N qual (defScope st) f cdv A outer s H E).nox (defBody st) t ∧
        t { nx := fun _ H' => Q .non H', rt := Q } (start N vs) H) :
    FnG P w K mg base CX0 (k + 1) f fd ps sp := by
  refine ⟨ln, ?_⟩
  intro A outer s H args us vs Q E hg hr e0 hbd r hsp
  obtain ⟨oc, od, kV, doc, pm, an, cdv, ct, osl, rfl, lk, hcd⟩ := F.ex
  have hl := ln _ _ _ _ hsp
  have KX : K.In s.heap := e0.mod.kin.keeps (fun b o e => (e0.bs b o e).1)
  have lm : s.heap.NoLimit := e0.mod.nolimit.keeps (fun b o e => (e0.bs b o e).1)
  have hkd : ∀ y ∈ ps.zip us, (defScope st).names.lookup y.1 = some .local ∨
      ((defScope st).names.lookup y.1 = some .cell ∧ ((cellsFrom (s.heap.objs.size + 1) (defScope st).names []).lookup y.1).isSome = true) := by
    rintro ⟨nm, vl⟩ hy
    have hm := S.par nm (List.of_mem_zip hy).1
    rcases hm with q | q
    · exact Or.inl q
    · exact Or.inr ⟨q, PySem.W.cellsFrom_some _ _ _ (Or.inl q)⟩
  refine codeAny_call_function hr.depth (KX _ _ lk) rfl S.co S.gen rfl (PySem.W.codeRec_of KX hcd) (hbd _ _ _ _ ?_)
  refine wpAny_newFunctionEnv_cells S.kind hkd ?_
  intro en he s1 xx
  subst he
  refine ⟨lm.keeps xx.toInCall.keep, codeAny_func ?_⟩
  obtain ⟨t, ht, hq⟩ := hb cdv A outer s H vs Q E hg (hr.deeper _) hsp
  have I := inv_start (CX := CX0) (N := N) (E := E) S hr.hd e0 hl r xx
  have I' := I.wish (fun _ _ => False)
  refine wpAny_mono (ht.run [] s1 (start N vs) H _ I' hq) (fun fl s' hs => ?_) (fun e s' hs => (show False from hs).elim)
  cases fl with
  | ret u =>
    obtain ⟨v, sg, H', J, rv, q⟩ := hs
    exact ⟨v, H', J.os, J.bare, J.base, J.hok, rv, q⟩
  | next =>
    obtain ⟨sg, H', J, q⟩ := hs
    exact ⟨V.non, H', J.os, J.bare, J.base, J.hok, rfl, q⟩
  | brk =>
    obtain ⟨_, _, _, q⟩ := hs
    exact q.elim
  | cont =>
    obtain ⟨_, _, _, q⟩ := hs
    exact q.elim
end
/-- an abstract heap in which a list of the heap's own is known, or one of the module's -/
theorem start_heap {P : Program} {w : World} {K : PySem.W.Frag} {h : Heap} {a : Addr} {vs : List Value} {ns : List Int} (KX : K.In h)
    (ha : h.get? a = some { cls := .type "list", data := .seq vs.toArray }) (hi : IntsAre vs ns) (hl : ns.length ≤ sizeLine) :
    ∃ H : Hp, Only H ∧ SqL K H a (ns.map V.int) ∧ HOk P w H h ∧ (∀ b, H b ≠ none → b = a) ∧ (H a ≠ none → K.lookup a = none) := by
  have rv := vals_ints hi
  have lenV := hi.length
  cases hk : K.lookup a with
  | some o =>
    have e := KX a o hk
    rw [ha] at e
    cases e
    refine ⟨fun _ => none, fun _ => Or.inl rfl, Or.inr ⟨_, vs.toArray, _, hk, rfl, rfl, rfl, ?_, ?_⟩, ?_, ?_, ?_⟩
    · rw [List.size_toArray, lenV]
      exact hl
    · simpa using rv
    · intro b u z
      have z' : (none : Option HO) = some u := z
      cases z'
    · intro b z
      exact absurd rfl z
    · intro z
      exact absurd rfl z
  | none =>
    let L : HO := .frz { cls := .type "list", data := .seq vs.toArray } (.lst (ns.map V.int))
    let H : Hp := upd (fun _ => none) a L
    have eA : H a = some L := upd_same
    have eN : ∀ b, b ≠ a → H b = none := fun b hb => upd_ne hb
    refine ⟨H, ?_, Or.inl (Or.inr ⟨_, eA⟩), ?_, ?_, fun _ => rfl⟩
    · intro b
      by_cases hb : b = a
      · rw [hb]
        exact Or.inr ⟨_, _, eA⟩
      · exact Or.inl (eN b hb)
    · intro b u z
      by_cases hb : b = a
      · rw [hb] at z ⊢
        have z' := eA.symm.trans z
        cases z'
        refine ⟨ha, ?_, vs, _, rv, ha⟩
        rw [List.length_map]
        exact hl
      · have z' := (eN b hb).symm.trans z
        cases z'
    · intro b z
      by_cases hb : b = a
      · exact hb
      · exact absurd (eN b hb) z
/-- THE END for a law whose def is promised by FnG -/
theorem walkG {l : PySem.W.OpenLaw} {n k : Nat} {q : Program} {loose : List Str} {XP : (Str → Option Value) → Heap → Prop} {YP : World → Heap → Prop} {d : DefRec} {K : Params → PySem.W.Frag} {sp : PySem.W.Frag → Sp} {x : Str}
    (hn : l.most = some n) (hn2 : n ≤ sizeLine) (hdf : d.params.defaults = []) (hr : Room k callerA)
    (hY : ∀ (w : World) (h : Heap), YP w h → (K w.params).In h)
    (F : ∀ (w : World) (mg : Str → Option Value) (fa : Addr) (h : Heap), (K w.params).In h → h.Ns mainGlobals mg → mg d.name = some (.ref fa) →
      ∃ fd : FuncData, (∀ (s : Shared) (u : Value), BindsTo s fd ⟨[u], []⟩ [(x, u)]) ∧
        ∀ base : Heap, (K w.params).In base → base.Ns mainGlobals mg → FnG l.prog w (K w.params) mg base CX0 k fa fd [x] (sp (K w.params)))
    (hsp : ∀ (K : PySem.W.Frag) (H : Hp) (a : Addr) (ns : List Int), ns.length ≤ n → Only H → SqL K H a (ns.map V.int) → sp K [.ref a] H (fun v _ => v = .bl true) fun _ _ _ => False) :
    PySem.W.WalkO q loose XP YP l.row.toRowW d [] (fun f vs => PySem.call f vs) := by
  refine Att.attach_call hn hdf ?_
  intro w s0 s1 mg mb fa o pm cd doc a vs ns G Y ho hd hcd hmg hobj hints hlen hg
  have KX := hY w _ Y
  obtain ⟨fd, hb, hF⟩ := F w mg fa _ KX G.T.g hmg
  obtain ⟨H, hO, hS, hok, hA, hK⟩ := start_heap (P := l.prog) (w := w) KX hobj hints (Nat.le_trans hlen hn2)
  -- dicts are not tracked
  have noA : ∀ {b : Addr} {o : Obj} {es : Array DictEntry} {ep : Nat}, s1.heap.get? b = some o → o.data = .dict es ep → H b = none := by
    intro b o es ep e de
    cases qb : H b with
    | none => rfl
    | some u =>
      obtain rfl : b = a := hA b (by rw [qb]; exact fun z => nomatch z)
      rw [hobj] at e
      cases e
      exact nomatch de
  have nsK : ∀ {b : Addr} {m : Str → Option Value}, s1.heap.Ns b m → (hidT s1.heap H).Ns b m := by
    rintro b m ⟨o, es, ep, e, de, r⟩
    exact ⟨o, es, ep, hidT_get e (noA e de), de, r⟩
  have hKb : (K w.params).In (hidT s1.heap H) := by
    intro b o e
    refine hidT_get (KX b o e) ?_
    cases qb : H b with
    | none => rfl
    | some u =>
      have nb : H b ≠ none := by
        rw [qb]
        exact fun z => nomatch z
      obtain rfl : b = a := hA b nb
      rw [hK nb] at e
      cases e
  have hM : Mod (K w.params) mg (hidT s1.heap H) := by
    obtain ⟨mc, h1, h2⟩ := G.T.nolimit
    exact ⟨hKb, nsK G.T.g, ⟨mb, nsK G.T.b, G.T.builtins⟩, ⟨mc, nsK h1, h2⟩⟩
  have e0 : Env0 l.prog w (K w.params) mg (hidT s1.heap H) callerA [] s1 H := by
    refine ⟨rfl, hM, fun b o e => of_hidT e, Nat.le_of_eq (hidT_size _ _), trivial, ?_, hok, .of_eq hg⟩
    intro b hb
    exact nomatch (show b ∈ ([] : List Addr) from hb)
  have run := (hF _ hKb (nsK G.T.g)).run callerA [] s1 H ⟨[.ref a], []⟩ [.ref a] [.ref a] _ _ rfl hr e0 (hb s1 (.ref a)) (.cons rfl .nil) (hsp (K w.params) H a ns hlen hO hS)
  refine codeAny_mono run ?_
  intro r s' h
  cases r with
  | error e => exact (show False from h).elim
  | ok fl =>
    cases fl with
    | next => exact (show False from h).elim
    | brk => exact (show False from h).elim
    | cont => exact (show False from h).elim
    | ret u =>
      obtain ⟨v, H', os, bare, un, hok', r', qq⟩ := h
      obtain rfl : v = .bl true := qq
      obtain rfl : u = Value.bool true := r'
      refine ⟨rfl, OldK.of_keep ?_, os, bare⟩
      intro b o e
      have nf : b ∉ frs ([] : List Env) := fun z => nomatch (show b ∈ ([] : List Addr) from z)
      rcases hO b with z | ⟨ob, xs, z⟩
      · exact un.keep b o e z nf (fun z => nomatch z)
      · have z2 := un.frzs b ob _ z
        obtain ⟨e1, _⟩ := hok b _ z
        obtain ⟨e2, _⟩ := hok' b _ z2
        rw [e] at e1
        cases e1
        exact e2
end Tar

/-! What the laws share: values, draws, names; no program in sight. -/
namespace Tar
open PySem PySem.Spec PyProof.Rows L2
def letters : Str := "abcdefghijklmnopqrstuvwxyz0123456789._-/"
def isLet (c : Nat) : Bool := decide (c ∈ letters.cps.toList)
def isNm (z : Str) : Bool := decide (1 ≤ z.length) && (decide (z.length ≤ 250) && z.cps.toList.all isLet)
theorem range_map {α : Type} (l : List Nat) (g : Nat → α) : (List.range l.length).map (fun i => g (l.getD i 0)) = l.map g := by
  refine List.ext_getElem? fun i => ?_
  by_cases h : i < l.length
  · simp [h, List.getD]
  · simp [h, Nat.le_of_not_lt h]
theorem TyOf.same {K : PySem.W.Frag} {H H' : Hp} {x : V} {t : Value} (s : Same H H') (h : TyOf K H x t) : TyOf K H' x t := by
  cases h with
  | non => exact .non
  | bl b => exact .bl b
  | int i => exact .int i
  | str z => exact .str z
  | flt z => exact .flt z
  | lst e => exact .lst (s _ _ e)
  | frz e => exact .frz (s _ _ e)
  | tup e => exact .tup (s _ _ e)
  | dK e => exact .dK (s _ _ e)
  | dT e => exact .dT (s _ _ e)
  | ins e a b c d f => exact .ins (s _ _ e) a b c d f
theorem TyX.same {K : PySem.W.Frag} {H H' : Hp} {x : V} {t : Value} (s : Same H H') (h : TyX K H x t) : TyX K H' x t := by
  cases h with
  | base h => exact .base (TyOf.same s h)
  | byt b => exact .byt b
  | set e => exact .set (s _ _ e)
  | kList e c => exact .kList e c
  | kTuple e c => exact .kTuple e c
  | kDict e c => exact .kDict e c
  | fTuple e => exact .fTuple (s _ _ e)
  | fDict e => exact .fDict (s _ _ e)
inductive Gv (K : PySem.W.Frag) (H : Hp) : V → Option Str → Prop where
  | str (z : Str) (h : z.length ≤ 1000) : Gv K H (.str z) (some z)
  | oth {x : V} {t : Value} (ty : TyX K H x t) (k : PySem.W.kitOne K t (.type "str") = some false) : Gv K H x none
theorem Gv.same {K : PySem.W.Frag} {H H' : Hp} {x : V} {o : Option Str} (s : Same H H') (h : Gv K H x o) : Gv K H' x o := by
  cases h with
  | str z h => exact .str z h
  | oth ty k => exact .oth (TyX.same s ty) k
def byO (f : Str → Bool) : Option Str → Bool
  | none => false
  | some z => f z
def spNm (f : Str → Bool) (K : PySem.W.Frag) : Sp := fun vs H Q _ => ∃ x o, vs = [x] ∧ Gv K H x o ∧ ∀ H', Same H H' → Q (.bl (byO f o)) H'
theorem size1000 {n : Nat} (h : n ≤ 1000) : n ≤ sizeLine := Nat.le_of_lt (small1000 h)
def spInteger (K : PySem.W.Frag) : Sp := fun vs H Q _ => ∃ (x : V) (t : Value) (b c : Bool), vs = [x] ∧ TyX K H x t ∧ PySem.W.kitOne K t (.type "int") = some b ∧ PySem.W.kitOne K t (.type "bool") = some c ∧ Q (.bl (b && !c)) H
def spWithin (K : PySem.W.Frag) : Sp := fun vs H Q _ => ∃ (x : V) (lo hi : Int), vs = [x, .int lo, .int hi] ∧
  ((∃ i, x = .int i ∧ Q (.bl (decide (lo ≤ i) && decide (i ≤ hi))) H) ∨
   (∃ (t : Value) (b c : Bool), TyX K H x t ∧ PySem.W.kitOne K t (.type "int") = some b ∧ PySem.W.kitOne K t (.type "bool") = some c ∧ (b && !c) = false ∧ Q (.bl false) H))
def spBlob (K : PySem.W.Frag) : Sp := fun vs H Q _ => ∃ (a : Addr) (ns : List Int), vs = [.ref a] ∧ SqL K H a (ns.map V.int) ∧ TyX K H (.ref a) (.type "list") ∧ B8 ns ∧ ns.length ≤ 70000 ∧ ∀ H', Same H H' → Q (.byt (byteArr ns)) H'
/-- a source of draws -/
def SrcAt (H : Hp) (p : Addr) : Prop := ∃ a b c : Int, H p = some (.lst [.int a, .int b, .int c]) ∧ 0 ≤ a ∧ 0 ≤ b ∧ b < 2147483647
def spDraw : Sp := fun vs H Q _ => ∃ (p : Addr) (m : Int), vs = [.ref p, .int m] ∧ SrcAt H p ∧ 0 < m ∧ m < 1152921504606846976 ∧
  ∀ (d : Int) (H' : Hp), 0 ≤ d → d < m → SrcAt H' p → Kp p H H' → Q (.int d) H'
def spSource (K : PySem.W.Frag) : Sp := fun vs H Q _ => ∃ (a : Addr) (ns : List Int) (k : Nat), vs = [.ref a, .int k] ∧ SqL K H a (ns.map V.int) ∧ ns.length ≤ 63 ∧ k ≤ 63 ∧
  ∀ (p : Addr) (H' : Hp), H p = none → Same H H' → SrcAt H' p → Q (.ref p) H'
theorem pow5_lt {b : Int} (h : b < 2147483647) (h0 : 0 ≤ b) : b.natAbs < 2 ^ 64 := by
  have : b.natAbs < 2147483647 := by omega
  exact Nat.lt_trans this (by decide)
/-! ### texts times ints -/
theorem mul_tl (x : Str) (n : Int) : (PySem.Txt.mul x n).cps.toList = (List.replicate n.toNat x.cps.toList).flatten := by
  unfold PySem.Txt.mul
  have fl : ∀ (k : Nat) (acc : Array Nat), ((List.replicate k x.cps).foldl (· ++ ·) acc).toList = acc.toList ++ (List.replicate k x.cps.toList).flatten := by
    intro k
    induction k with
    | zero => intro acc; simp
    | succ k ih =>
      intro acc
      rw [List.replicate_succ, List.foldl_cons, ih, List.replicate_succ, List.flatten_cons]
      simp
  split
  · rename_i h
    have : n.toNat = 0 := by omega
    rw [this]
    rfl
  · split
    · rename_i h1 h2
      rw [Bool.or_eq_true, beq_iff_eq, beq_iff_eq] at h2
      rcases h2 with h2 | h2
      · subst h2
        simp
      · have hx : x.cps.toList = [] := by
          have : x.cps.toList.length = 0 := by
            rw [Array.length_toList]
            exact h2
          exact List.eq_nil_of_length_eq_zero this
        rw [hx]
        simp
    · have := fl n.toNat #[]
      simpa using this
theorem len_tl (x : Str) : x.length = x.cps.toList.length := by
  rw [Array.length_toList]
  rfl
theorem mul_len (x : Str) (n : Int) : (PySem.Txt.mul x n).length = n.toNat * x.length := by
  rw [len_tl, mul_tl, len_tl x]
  simp [List.length_flatten]
theorem mulOk_small {x : Str} {n : Int} (h1 : x.length ≤ 100) (h2 : -100000 ≤ n) (h3 : n ≤ 100000) : MulOk x n := by
  refine ⟨?_, fun h4 _ => ?_, fun h4 _ => ?_⟩
  · rw [decide_eq_false (by omega), decide_eq_false (by omega)]
    rfl
  · intro h5
    have h6 : (2 ^ 63 - 1 : Int) / n ≥ 100 := by
      have hp : 0 < n := by omega
      refine (Int.le_ediv_iff_mul_le hp).mpr ?_
      omega
    omega
  · have hm : x.length * n.toNat ≤ 100 * 100000 := Nat.mul_le_mul h1 (by omega)
    exact decide_eq_false (Nat.not_lt.mpr (Nat.le_trans hm (by decide)))
/-! ### texts of letters -/
def Lets (z : Str) : Prop := z.cps.toList.all isLet = true
theorem Lets.app {x y : Str} (hx : Lets x) (hy : Lets y) : Lets (x ++ y) := by
  unfold Lets at *
  rw [show (x ++ y).cps.toList = x.cps.toList ++ y.cps.toList from TL.tl_append x y, List.all_append, hx, hy]
  rfl
theorem app_len (x y : Str) : (x ++ y).length = x.length + y.length := by
  rw [len_tl, len_tl x, len_tl y, show (x ++ y).cps.toList = x.cps.toList ++ y.cps.toList from TL.tl_append x y, List.length_append]
theorem Lets.mul {x : Str} (hx : Lets x) (n : Int) : Lets (PySem.Txt.mul x n) := by
  unfold Lets at *
  rw [mul_tl, List.all_eq_true]
  intro c hc
  obtain ⟨l, hl, hcl⟩ := List.mem_flatten.mp hc
  obtain rfl := (List.mem_replicate.mp hl).2
  exact List.all_eq_true.mp hx c hcl
/-- an item of a written list -/
theorem at_in {α : Type} {xs : List α} {d : Int} (h0 : 0 ≤ d) (h1 : d < xs.length) : ∃ v, atI xs d = some v ∧ v ∈ xs := by
  obtain ⟨j, rfl⟩ : ∃ j : Nat, d = (j : Int) := ⟨d.toNat, by omega⟩
  have hl : j < xs.length := by omega
  exact ⟨xs[j], atI_nat (List.getElem?_eq_getElem hl), List.getElem_mem hl⟩
theorem SrcAt.kp {H H' : Hp} {p : Addr} (h : SrcAt H p) (s : Same H H') : SrcAt H' p := by
  obtain ⟨a, b, c, e, r⟩ := h
  exact ⟨a, b, c, s _ _ e, r⟩
/-- a name is drawn: letters, at most m of them, at least one -/
def spRand : Sp := fun vs H Q _ => ∃ (p : Addr) (n : Int), vs = [.ref p, .int n] ∧ SrcAt H p ∧ 0 ≤ n ∧ n ≤ 1000 ∧
  ∀ (z : Str) (H' : Hp), Lets z → 1 ≤ z.length → z.length ≤ 15 + n.toNat → SrcAt H' p → Kp p H H' → Q (.str z) H'
/-- [..][draw(source, n)] -/
theorem pick_ix {K : PySem.W.Frag} {H : Hp} {p l : Addr} {xs : List V} {Q : VK} {E : XK} {m : Int} (hp : SrcAt H p) (hl : H l = none) (hm : m = (xs.length : Int)) (h0 : 0 < xs.length) (h1 : xs.length ≤ 1000)
    (h : ∀ v H', v ∈ xs → SrcAt H' p → Kp p H H' → Q v H') : spDraw [.ref p, .int m] (upd H l (.lst xs)) (fun d H2 => rIxL K (.ref l) d H2 Q) E := by
  subst hm
  refine ⟨p, _, rfl, hp.kp (same_upd hl), by omega, by omega, fun d H1 d0 d1 hp1 k1 => ?_⟩
  have nlp : l ≠ p := by
    obtain ⟨_, _, _, e, _⟩ := hp
    exact (ne_of_none e hl).symm
  obtain ⟨v, hv, hm⟩ := at_in (xs := xs) d0 d1
  exact ⟨l, xs, d, v, rfl, rfl, SqL.of (k1 l _ upd_same nlp), hv, h v H1 hm hp1 (Kp.trans (Kp.of (same_upd hl)) k1)⟩
/-- a text that is drawn -/
def spText (n : Nat) : Sp := fun vs H Q _ => ∃ (p : Addr), vs = [.ref p] ∧ SrcAt H p ∧ ∀ (z : Str) (H' : Hp), Lets z → 1 ≤ z.length → z.length ≤ n → SrcAt H' p → Kp p H H' → Q (.str z) H'
def spBent : Sp := fun vs H Q _ => ∃ (p : Addr) (z : Str), vs = [.ref p, .str z] ∧ SrcAt H p ∧ z.length ≤ 900 ∧ ∀ (y : Str) (H' : Hp), y.length ≤ z.length + 1 → SrcAt H' p → Kp p H H' → Q (.str y) H'
theorem cut_le (z : Str) (lo hi : Option Int) : (cutS z lo hi).length ≤ z.length := cutS_length z lo hi
/-- the two cuts at one place -/
theorem cut_two (z : Str) (d : Int) (h0 : 0 ≤ d) : (cutS z none (some d)).length + (cutS z (some d) none).length ≤ z.length := by
  obtain ⟨j, rfl⟩ : ∃ j : Nat, d = (j : Int) := ⟨d.toNat, by omega⟩
  unfold cutS
  show (List.toArray _).size + (List.toArray _).size ≤ z.length
  simp only [HT.sIx_none, HT.sIx_nat, List.size_toArray, List.length_take, List.length_drop, Array.length_toList]
  have : z.cps.size = z.length := rfl
  omega
theorem cut_one (z : Str) (d : Int) (h0 : 0 ≤ d) : (cutS z (some d) (some (d + 1))).length ≤ 1 := by
  obtain ⟨j, rfl⟩ : ∃ j : Nat, d = (j : Int) := ⟨d.toNat, by omega⟩
  have e : ((j : Int) + 1) = ((j + 1 : Nat) : Int) := by omega
  rw [e]
  unfold cutS
  show (List.toArray _).size ≤ 1
  simp only [HT.sIx_nat, List.size_toArray, List.length_take, List.length_drop, Array.length_toList]
  omega
theorem cut_next (z : Str) (d : Int) (h0 : 0 ≤ d) : (cutS z (some (d + 1)) none).length ≤ (cutS z (some d) none).length := by
  obtain ⟨j, rfl⟩ : ∃ j : Nat, d = (j : Int) := ⟨d.toNat, by omega⟩
  have e : ((j : Int) + 1) = ((j + 1 : Nat) : Int) := by omega
  rw [e]
  unfold cutS
  show (List.toArray _).size ≤ (List.toArray _).size
  simp only [HT.sIx_nat, HT.sIx_none, List.size_toArray, List.length_take, List.length_drop, Array.length_toList]
  have : z.cps.size = z.length := rfl
  omega
theorem same_kp {H H1 H2 : Hp} {p : Addr} (s : Same H H1) (n : H p = none) (k : Kp p H1 H2) : Same H H2 := fun b o e => k b o (s b o e) (ne_of_none e n)
def spLaw (K : PySem.W.Frag) : Sp := fun vs H Q _ => ∃ (a : Addr) (ns : List Int), vs = [.ref a] ∧ SqL K H a (ns.map V.int) ∧ ns.length ≤ 63 ∧ ∀ H', Q (.bl true) H'
end Tar

/-! f'{n:o}' of a number. -/
namespace Tar
open PySem PySem.Spec PyProof.Rows L2 Builtin Builtin.Float
/-! ### f'{n:o}' -/
/-- the octal signs of a number -/
def octL (n : Nat) : List Nat := (Nat.toDigits 8 n).map Char.toNat
def octS (n : Nat) : Str := SX.S (octL n)
theorem octL_ne (n : Nat) : (octL n).isEmpty = false := by
  have h := tDigits_len_ge 8 n
  unfold octL
  cases e : Nat.toDigits 8 n with
  | nil => rw [e] at h; cases h
  | cons _ _ => rfl
theorem octL_len (n : Nat) : (octL n).length ≤ n + 1 := by
  have h := tDigits_len_le 8 n
  rw [octL, List.length_map]
  exact h
def oSpec : FormatSpec := { align := 62, type := some 111 }
theorem oParse : parseFormatSpec [111] "int" 62 = .ok oSpec := by kernel_rfl
section
variable {prog : Program} {w : World} {A : Around} {E : Value → Shared → Prop} {s : Shared}
theorem format_oct {n : Nat} {t : Tok} {Q : Value → Shared → Prop} (hz : (octL n).length ≤ sizeLine) (h : ∀ u k, Q (.str (octS n) u) { s with toks := k }) : wpAny (model prog w) A (formatField (.int (n : Int) t) (SX.S [111])) Q E s := by
  show wpAny _ _ (holding [.int (n : Int) t] (pyFormat (.int (n : Int) t) (SX.S [111]))) Q E s
  refine wpAny_holding ?_
  unfold pyFormat
  refine wpAny_bind (wpAny_mkStr ?_ (by show 1 ≤ sizeLine; rw [sizeLine_eq]; omega))
  refine wpAny_bind (m := callSpecial? (.int (n : Int) t) (Str.ofString "__format__") [.str (SX.S [111]) s.toks]) (wpAny_callSpecial?_slot (name := Str.ofString "__format__") (typeIs_int _ _ t) slot_int_format ?_)
  refine wpAny_call (codeAny_call_builtin slot_int_format.plain entry_int_format (slot_int_format.check _ _ _ _ _ _ _ _ (typeIs_int _ _ t) (args_int_format _ _) ?_))
  have e1 : ((SX.S [111]).length == 0) = false := rfl
  have e2 : (((SX.S [111]).cps.toList.drop 1).any (· ≥ 128) || ((SX.S [111]).cps.getD 0 0 ≥ 128 && !([60, 62, 61, 94] : List Nat).contains ((SX.S [111]).cps.getD 1 0))) = false := by decide
  unfold Builtin.«int.__format__»
  simp only [selfAndOne, noKeywords, Int.intOfSelf, asInt?, asStr?, List.isEmpty_nil, if_true, pure_bind, bind_pure, bind_assoc, e1, e2, Bool.false_eq_true, if_false,
    show (Value.str (SX.S [111]) s.toks == Value.none) = false from rfl]
  refine wpAny_bind (wpAny_typeNameOf (T := "str") (typeIs_str _ _ _) (by decide) fun _ => ?_)
  first | refine wpAny_bind (wpAny_typeNameOfCut_int ?_) | refine wpAny_bind (wpAny_typeNameOf_int ?_)
  obtain ⟨f, e3, f1, f2, f3, f4, f5, f6, f7, f8, f9⟩ : ∃ f, parseFormatSpec (SX.S [111]).cps.toList "int" 62 = .ok f ∧ f.precision = none ∧ f.noNeg0 = false ∧ f.width = none ∧ f.alt = false ∧ f.sign = none ∧ f.grouping = none ∧ f.align = 62 ∧ f.type = some 111 ∧ f = oSpec :=
    ⟨oSpec, oParse, rfl, rfl, rfl, rfl, rfl, rfl, rfl, rfl, rfl⟩
  have e4 : f.type.getD (if (SX.S [111]).cps.back? == some 0 then 0 else 100) = 111 := by rw [f8]; rfl
  simp only [e3, e4]
  rw [if_pos (by decide)]
  show wpAny _ _ (if _ then _ else _) _ _ _
  rw [if_neg (by simp [f1])]
  show wpAny _ _ (if _ then _ else _) _ _ _
  rw [if_neg (by simp [f2])]
  show wpAny _ _ (if _ then _ else _) _ _ _
  rw [if_neg (by decide)]
  have d1 : decide ((n : Int) < 0) = false := decide_eq_false (by omega)
  have fin : ∀ z, z = octS n → ∀ R S, R (.done (.ret (.str (octS n) (s.toks + 1)))) { s with toks := s.toks + 1 + 1 } → wpAny (model prog w) A.in1 (retStr z) R S { s with toks := s.toks + 1 } := by
    rintro z rfl R S q
    unfold retStr
    exact wpAny_bind (wpAny_mkStr (wpAny_pure q) (by show (octL n).toArray.size ≤ _; rw [List.size_toArray]; exact hz))
  show wpAny _ _ (if _ then _ else _) _ _ _
  rw [if_neg (by simp)]
  show wpAny _ _ (if _ then _ else _) _ _ _
  rw [if_neg (by simp [f3])]
  refine fin _ ?_ _ _ ?_
  · rw [d1, f4]
    obtain ⟨c, ds, ec⟩ : ∃ c ds, octL n = c :: ds := by
      cases ec : octL n with
      | nil => have := octL_ne n; rw [ec] at this; cases this
      | cons c ds => exact ⟨c, ds, rfl⟩
    have d2 : List.map (fun c => (if ((111 : Nat) == 88) = true then c.toUpper else c).toNat) (Nat.toDigits 8 (n : Int).natAbs) = c :: ds := ec
    rw [d2, octS, ec]
    subst f9
    conv =>
      lhs
      whnf
    have p0 : ∀ k : Nat, ((-1 : Int) - 0 - (k : Int)).toNat = 0 := fun k => by omega
    refine congrArg (fun l : List Nat => (⟨l.toArray⟩ : Str)) ?_
    simp [f3, f5, f6, f7]
    try omega
  · dsimp only
    exact wpAny_bind (wpAny_isInstance (typeIs_str _ _ _) isSubtype_str_str (wpAny_pure (h _ _)))
end
end Tar

/-! Bytes: bytes(n), sum(b), s.encode(), f'{n:o}'. -/
namespace Tar
open PySem PySem.Spec PyProof.Rows L2 Builtin
/-! ### bytes by their numbers -/
/-- the bytes of these numbers -/
def B (l : List Nat) : Array UInt8 := (l.map Nat.toUInt8).toArray
/-- the ints of these numbers, as values -/
abbrev nV (l : List Nat) : List V := l.map fun n : Nat => V.int (n : Int)
abbrev Lt256 (l : List Nat) : Prop := ∀ n ∈ l, n < 256
theorem B_byteArr (l : List Nat) : B l = byteArr (l.map Int.ofNat) := by
  simp [B, byteArr, Function.comp_def]
theorem B_size (l : List Nat) : (B l).size = l.length := by simp [B]
theorem B_app (a b : List Nat) : B a ++ B b = B (a ++ b) := by simp [B]
theorem B_take {l : List Nat} {j : Nat} (h : j ≤ l.length) : PySem.W.KBy.picked (B l) none (some (j : Int)) = B (l.take j) := by
  unfold B
  rw [pk_to (by rw [List.length_map]; exact h), List.map_take]
theorem B_drop {l : List Nat} {j : Nat} (h : j ≤ l.length) : PySem.W.KBy.picked (B l) (some (j : Int)) none = B (l.drop j) := by
  unfold B
  rw [pk_from (by rw [List.length_map]; exact h), List.map_drop]
theorem B_mid {l : List Nat} {i j : Nat} (hi : i ≤ l.length) (hj : j ≤ l.length) : PySem.W.KBy.picked (B l) (some (i : Int)) (some (j : Int)) = B ((l.drop i).take (j - i)) := by
  unfold B
  rw [pk_mid (by rw [List.length_map]; exact hi) (by rw [List.length_map]; exact hj), List.map_take, List.map_drop]
theorem B_get (l : List Nat) (i : Nat) : (B l)[i]? = (l[i]?).map Nat.toUInt8 := by simp [B]
theorem u8_nat {n : Nat} (h : n < 256) : n.toUInt8.toNat = n := by
  show n % 256 = n
  exact Nat.mod_eq_of_lt h
theorem B_ints {l : List Nat} (h : Lt256 l) : PySem.W.KBw.bInts (B l) = l.map Int.ofNat := by
  unfold B
  rw [PySem.W.KBw.ints_list, List.map_map]
  refine List.map_congr_left fun n hn => ?_
  show ((n.toUInt8.toNat : Nat) : Int) = (n : Int)
  rw [u8_nat (h n hn)]
theorem of_ints {b : Array UInt8} {l : List Nat} (h : Lt256 l) (e : PySem.W.KBw.bInts b = l.map Int.ofNat) : b = B l := bi_inj (e.trans (B_ints h).symm)
theorem B_inj {a b : List Nat} (ha : Lt256 a) (hb : Lt256 b) (e : B a = B b) : a = b := by
  have e2 := B_ints ha
  rw [e, B_ints hb] at e2
  exact (List.map_inj_right (fun x y h => Int.ofNat.inj h)).mp e2.symm
/-! ### the calls -/
section
variable {X : Cx}
def rBytN : List V → Hp → VK → Prop := fun xs H Q => ∃ n : Nat, xs = [.int (n : Int)] ∧ n ≤ 16777216 ∧ Q (.byt (B (List.replicate n 0))) H
theorem call_bytN : CallR X (.type "bytes") rBytN := by
  intro pins s σ H xs us Q I r h
  obtain ⟨n, rfl, hn, q⟩ := h
  obtain ⟨u, rfl, t, rfl⟩ := vals1 r
  refine PySem.call_bytes_size (by omega) (by omega) fun t k => ?_
  refine ⟨.byt _, H, I.tok k, ⟨t, rfl⟩, ?_⟩
  have e : (Array.replicate (n : Int).toNat (0 : UInt8)) = B (List.replicate n 0) := by
    simp [B]
  rw [e]
  exact q
def preN (l : List Nat) (i : Nat) : Int := (((l[i]?).getD 0 : Nat) : Int)
theorem pre_sum (l : List Nat) : ∀ j, j ≤ l.length → PySem.preSum (preN l) j = ((l.take j).sum : Nat)
  | 0, _ => rfl
  | j + 1, h => by
    show PySem.preSum (preN l) j + preN l j = _
    rw [pre_sum l j (by omega), List.take_succ, List.sum_append]
    have e : l[j]? = some l[j] := List.getElem?_eq_getElem (by omega)
    simp [preN, e]
theorem sum_le {l : List Nat} (h : Lt256 l) : l.sum ≤ 255 * l.length := by
  induction l with
  | nil => exact Nat.le_refl _
  | cons a l ih =>
    have h1 := h a (List.mem_cons_self ..)
    have h2 := ih fun n hn => h n (List.mem_cons_of_mem _ hn)
    rw [List.sum_cons, List.length_cons]
    omega
def rSumB : List V → Hp → VK → Prop := fun xs H Q => ∃ l : List Nat, xs = [.byt (B l)] ∧ Lt256 l ∧ l.length ≤ 16777216 ∧ Q (.int ((l.sum : Nat) : Int)) H
theorem call_sumB (hc : X.calm = true) : CallR X (.builtin "sum") rSumB := by
  intro pins s σ H xs us Q I r h
  obtain ⟨l, rfl, hl, hn, q⟩ := h
  obtain ⟨u, rfl, t, rfl⟩ := vals1 r
  refine PySem.call_sum_walk (PySem.W.KBw.pyIter_bytes ?_)
  have hst : PySem.W.KBw.IsBytesIter (s.heap.push { cls := .type "bytes_iterator", data := .fields #[.bytes (B l) t, .int 0 0] }) s.heap.objs.size (B l) t 0 := ⟨_, Heap.get?_push_size _ rfl, rfl, rfl⟩
  refine ⟨s.heap.objs.size, _, _, _, _, _, preN l, rfl, PySem.W.KBw.walks (A := X.A.in1) (I.ok.hd hc) s.heap.objs.size (B l) t, hst, ?_, ?_, ?_, ?_⟩
  · intro b hb
    rw [List.mem_singleton.mp hb]
    exact Heap.lt_size (Heap.get?_push_size _ rfl)
  · rintro i v ⟨c, u, e, rfl⟩
    rw [B_get] at e
    cases e2 : l[i]? with
    | none => rw [e2] at e; cases e
    | some n =>
      rw [e2] at e
      cases e
      refine ⟨u, ?_⟩
      rw [u8_nat (hl n (List.mem_of_getElem? e2))]
      simp [preN, e2]
  · intro j hj
    rw [B_size] at hj
    have h1 : preN l j < 256 ∧ 0 ≤ preN l j := by
      have e : l[j]? = some l[j] := List.getElem?_eq_getElem hj
      have := hl l[j] (List.getElem_mem hj)
      simp [preN, e]
      omega
    rw [pre_sum l (j + 1) (by omega)]
    have h2 := sum_le (l := l.take (j + 1)) fun n hn => hl n (List.mem_of_mem_take hn)
    rw [List.length_take] at h2
    constructor
    · constructor <;> omega
    · constructor <;> omega
  · intro h' tk t' hk
    rw [B_size, pre_sum l _ (Nat.le_refl _), List.take_length]
    refine ⟨.int _, H, ?_, ⟨t', rfl⟩, q⟩
    refine I.kept (h' := h') (t' := tk) fun b o e => hk b o (fun hm => ?_) (Heap.get?_push_of_some _ e)
    exact absurd (Heap.lt_size e) (by rw [List.mem_singleton.mp hm]; exact Nat.lt_irrefl _)
/-- s.encode() of a text below 128 -/
def rEnc : V → List V → Hp → VK → Prop := fun x xs H Q => ∃ l : List Nat, x = .str (SX.S l) ∧ xs = [] ∧ (∀ n ∈ l, n < 128) ∧ l.length ≤ 16777216 ∧ Q (.byt (B l)) H
theorem mt_enc : MtR X "str.encode" rEnc := by
  intro pins s σ H x xs v us Q I rx r h
  obtain ⟨l, rfl, rfl, hl, hn, q⟩ := h
  obtain ⟨t, rfl⟩ := rx
  cases r
  refine PySem.W.KSb.encode_K (x := SX.S l) (fun c hc => hl c (by simpa using hc)) (by rw [SX.S_len]; exact hn) fun c t' k e _ _ => ?_
  refine ⟨.byt c, H, I.tok k, ⟨t', rfl⟩, ?_⟩
  have e2 : c = B l := of_ints (fun n h => Nat.lt_trans (hl n h) (by decide)) (e.trans (by simp [PySem.W.KSb.codes]))
  rw [e2]
  exact q
theorem pe_enc {o : Expr} {to : TE} {apos pos : Pos} (ho : PE X o to) (hbase : attributeBase o "encode" X.env (eval o X.env) = eval o X.env := by rfl) (hline : (apos.endLine == pos.line) = true := by rfl) :
    PE X (.Call (.Attribute o "encode" apos) [] [] pos) (tM0 rEnc to) := pe_m0 PySem.F.slot_str_encode PySem.F.type_str_encode mt_enc ho hbase hline
/-- {n:o} -/
def tOct (te : TE) : TE := fun σ H Q => te σ H fun x H1 => ∃ n : Nat, x = .int (n : Int) ∧ (octL n).length ≤ 16777216 ∧ Q (.str (octS n)) H1
theorem pe_oct {e : Expr} {te : TE} {ck : Nat} {p1 p2 pos : Pos} (he : PE X e te) : PE X (.FormattedValue e (-1) (some (.JoinedStr [.Constant (.str "o") ck p1] p2)) pos) (tOct te) := by
  refine ⟨fun pins s σ H Q I h => ?_⟩
  refine wpAny_FormattedValue_spec (thn (he.run pins s σ H _ I h) fun v s1 hv => ?_)
  obtain ⟨x, H1, I1, r1, n, rfl, hn, q⟩ := hv
  obtain ⟨t, rfl⟩ := r1
  refine thn ((pe_joined1 (pos := p2) (pe_str (X := X) (x := "o") (j := ck) (pos := p1))).run pins s1 σ H1 (fun v H2 => v = .str "o" ∧ H2 = H1) I1 ⟨rfl, rfl⟩) fun v s2 hv => ?_
  obtain ⟨y, H2, I2, r2, rfl, rfl⟩ := hv
  obtain ⟨t2, rfl⟩ := r2
  refine ⟨"o", t2, rfl, ?_⟩
  rw [show ("o" : Str) = SX.S [111] by decide +kernel]
  refine format_oct (by rw [sizeLine_eq]; omega) fun u k => ?_
  exact ⟨.str (octS n), H2, I2.tok k, ⟨u, rfl⟩, q⟩
end
/-! ### slices from and to places that are not below zero -/
def NN : Option Int → Prop
  | none => True
  | some i => 0 ≤ i
def loN (o : Option Int) : Nat := (o.getD 0).toNat
def hiN (o : Option Int) (n : Nat) : Nat := match o with
  | none => n
  | some j => j.toNat
def cutN {α : Type} (l : List α) (lo hi : Option Int) : List α := (l.take (hiN hi l.length)).drop (loN lo)
theorem cutN_len {α : Type} (l : List α) (lo hi : Option Int) : (cutN l lo hi).length = min (hiN hi l.length) l.length - loN lo := by
  unfold cutN
  rw [List.length_drop, List.length_take]
theorem cutN_mem {α : Type} {l : List α} {lo hi : Option Int} {x : α} (h : x ∈ cutN l lo hi) : x ∈ l := List.mem_of_mem_take (List.mem_of_mem_drop h)
theorem cutN_map {α β : Type} (f : α → β) (l : List α) (lo hi : Option Int) : (cutN l lo hi).map f = cutN (l.map f) lo hi := by
  unfold cutN
  rw [List.map_drop, List.map_take, List.length_map]
theorem sIx_lo {n : Nat} {lo : Option Int} (h : NN lo) : HT.sIx n 0 lo = min (loN lo) n := by
  cases lo with
  | none => rw [HT.sIx_none]; simp [loN]
  | some i =>
    obtain ⟨j, rfl⟩ : ∃ j : Nat, i = (j : Int) := ⟨i.toNat, by have : 0 ≤ i := h; omega⟩
    rw [HT.sIx_nat]
    rfl
theorem sIx_hi {n : Nat} {hi : Option Int} (h : NN hi) : HT.sIx n n hi = min (hiN hi n) n := by
  cases hi with
  | none => rw [HT.sIx_none]; simp [hiN]
  | some i =>
    obtain ⟨j, rfl⟩ : ∃ j : Nat, i = (j : Int) := ⟨i.toNat, by have : 0 ≤ i := h; omega⟩
    rw [HT.sIx_nat]
    rfl
theorem take_drop_min {α : Type} (l : List α) (i j : Nat) : (l.drop (min i l.length)).take (min j l.length - min i l.length) = (l.take j).drop i := by
  rw [List.drop_take]
  by_cases hi : i ≤ l.length
  · rw [Nat.min_eq_left hi]
    by_cases hj : j ≤ l.length
    · rw [Nat.min_eq_left hj]
    · rw [Nat.min_eq_right (by omega), List.take_of_length_le (by rw [List.length_drop]; omega), List.take_of_length_le (by rw [List.length_drop]; omega)]
  · rw [Nat.min_eq_right (show l.length ≤ i by omega), List.drop_eq_nil_of_le (Nat.le_refl _), List.drop_eq_nil_of_le (show l.length ≤ i by omega)]
    simp
theorem cutV_N {xs : List V} {lo hi : Option Int} (h1 : NN lo) (h2 : NN hi) : cutV xs lo hi = cutN xs lo hi := by
  unfold cutV cutN
  rw [sIx_lo h1, sIx_hi h2, take_drop_min]
theorem cutS_N {l : List Nat} {lo hi : Option Int} (h1 : NN lo) (h2 : NN hi) : cutS (SX.S l) lo hi = SX.S (cutN l lo hi) := by
  unfold cutS cutN
  have e : (SX.S l).length = l.length := SX.S_len l
  rw [e, sIx_lo h1, sIx_hi h2]
  show SX.S _ = SX.S _
  rw [show (SX.S l).cps.toList = l from rfl, take_drop_min]
theorem picked_N {l : List Nat} {lo hi : Option Int} (h1 : NN lo) (h2 : NN hi) : PySem.W.KBy.picked (B l) lo hi = B (cutN l lo hi) := by
  have lo' : lo = none ∨ ∃ i : Nat, lo = some (i : Int) := by
    cases lo with
    | none => exact .inl rfl
    | some i => exact .inr ⟨i.toNat, by have : 0 ≤ i := h1; congr 1; omega⟩
  have hi' : hi = none ∨ ∃ i : Nat, hi = some (i : Int) := by
    cases hi with
    | none => exact .inl rfl
    | some i => exact .inr ⟨i.toNat, by have : 0 ≤ i := h2; congr 1; omega⟩
  have ml : (l.map Nat.toUInt8).length = l.length := List.length_map ..
  rw [PySem.W.KBc.picked_eq]
  have fin : ∀ i j : Nat, (((l.map Nat.toUInt8).drop (min i l.length)).take (min j l.length - min i l.length)).toArray = B ((l.take j).drop i) := by
    intro i j
    have := take_drop_min (l.map Nat.toUInt8) i j
    rw [ml] at this
    rw [this]
    simp [B, List.map_take, List.map_drop]
  have sz : (B l).size = l.length := B_size l
  rcases lo' with rfl | ⟨i, rfl⟩ <;> rcases hi' with rfl | ⟨j, rfl⟩
  · show (((l.map Nat.toUInt8).drop 0).take ((B l).size - 0)).toArray = _
    rw [sz]
    have := fin 0 l.length
    simp only [Nat.zero_min, Nat.min_self] at this
    exact this
  · show (((l.map Nat.toUInt8).drop 0).take (clipAt (B l).size (j : Int) - 0)).toArray = _
    rw [clipAt_nat, sz]
    have := fin 0 j
    simp only [Nat.zero_min] at this
    exact this
  · show (((l.map Nat.toUInt8).drop (clipAt (B l).size (i : Int))).take ((B l).size - clipAt (B l).size (i : Int))).toArray = _
    rw [clipAt_nat, sz]
    have := fin i l.length
    simp only [Nat.min_self] at this
    exact this
  · show (((l.map Nat.toUInt8).drop (clipAt (B l).size (i : Int))).take (clipAt (B l).size (j : Int) - clipAt (B l).size (i : Int))).toArray = _
    rw [clipAt_nat, clipAt_nat, sz]
    exact fin i j
section
variable {X : Cx}
def rAddB : R2 := fun x y H Q => ∃ a b : List Nat, x = .byt (B a) ∧ y = .byt (B b) ∧ a.length + b.length ≤ 16777216 ∧ Q (.byt (B (a ++ b))) H
theorem op_addB : OpR X (binaryOp .Add) rAddB := by
  intro pins s σ H x y v u Q I rx ry h
  obtain ⟨a, b, rfl, rfl, hz, q⟩ := h
  refine op_add_byt pins s σ H _ _ v u Q I rx ry ⟨B a, B b, rfl, rfl, by rw [B_size, B_size]; exact hz, ?_⟩
  rw [B_app]
  exact q
def rSlN : V → Option Int → Option Int → Hp → VK → Prop := fun x lo hi H Q => ∃ l : List Nat, x = .byt (B l) ∧ NN lo ∧ NN hi ∧ l.length ≤ 16777216 ∧ Q (.byt (B (cutN l lo hi))) H
theorem sl_B : SlR X rSlN := by
  intro pins s σ H x v vl vu lo hi sl Q I rx hs pl pu q
  obtain ⟨l, rfl, h1, h2, hz, q⟩ := q
  refine sl_byt pins s σ H _ v vl vu lo hi sl Q I rx hs pl pu ⟨B l, rfl, by rw [B_size]; exact hz, ?_⟩
  rw [picked_N h1 h2]
  exact q
def rSlT : V → Option Int → Option Int → Hp → VK → Prop := fun x lo hi H Q => ∃ l : List Nat, x = .str (SX.S l) ∧ NN lo ∧ NN hi ∧ l.length ≤ 16777216 ∧ Q (.str (SX.S (cutN l lo hi))) H
theorem sl_T : SlR X rSlT := by
  intro pins s σ H x v vl vu lo hi sl Q I rx hs pl pu q
  obtain ⟨l, rfl, h1, h2, hz, q⟩ := q
  refine sl_str pins s σ H _ v vl vu lo hi sl Q I rx hs pl pu ⟨SX.S l, rfl, by rw [SX.S_len, sizeLine_eq]; exact hz, ?_⟩
  rw [cutS_N h1 h2]
  exact q
/-- a list's slice -/
def rSlV (K : PySem.W.Frag) : V → Option Int → Option Int → Hp → VK → Prop := fun x lo hi H Q => ∃ a xs, x = .ref a ∧ SqL K H a xs ∧ NN lo ∧ NN hi ∧ ∀ p, H p = none → Q (.ref p) (upd H p (.lst (cutN xs lo hi)))
theorem sl_V : SlR X (rSlV X.K) := by
  intro pins s σ H x v vl vu lo hi sl Q I rx hs pl pu q
  obtain ⟨a, xs, rfl, hx, h1, h2, q⟩ := q
  refine sl_list pins s σ H _ v vl vu lo hi sl Q I rx hs pl pu ⟨a, xs, rfl, hx, fun p hp => ?_⟩
  rw [cutV_N h1 h2]
  exact q p hp
/-- a bytes constant -/
theorem pe_bytB {l : List UInt8} {k : Nat} {pos : Pos} (m : List Nat) (h : l.toArray = B m := by rfl) : PE X (.Constant (.bytes l) k pos) (tC (.byt (B m))) := by
  rw [← h]
  exact pe_byt
/-- len(b) -/
def rLenB : List V → Hp → VK → Prop := fun xs H Q => ∃ l : List Nat, xs = [.byt (B l)] ∧ l.length ≤ 16777216 ∧ Q (.int (l.length : Nat)) H
theorem call_lenB : CallR X (.builtin "len") rLenB := by
  intro pins s σ H xs us Q I r h
  obtain ⟨l, rfl, hn, q⟩ := h
  obtain ⟨u, rfl, t, rfl⟩ := vals1 r
  have hl : (PySem.W.KBw.bInts (B l)).length = l.length := by rw [PySem.W.KBw.ints_length, B_size]
  refine PySem.W.KBw.len_K rfl (by rw [hl]; omega) ?_
  rw [hl]
  exact ⟨.int _, H, I.tok _, ⟨_, rfl⟩, q⟩
end
end Tar

/-! Defs with keyword-only parameters, called in all ways. -/
namespace Tar
open PySem PySem.Spec PyProof.Rows L2
/-- the def x of the text stands behind the top, with these keyword-only defaults -/
def DefD (K : PySem.W.Frag) (mg : Str → Option Value) (x : Str) (st : Stmt) (dvs : List V) (kws : List (Str × V)) : Prop := ∃ f fd, FunD K x x (defArgs st) (defBody st) (defScope st) dvs kws f fd ∧ mg x = some (.ref f)
/-- the def x called with values at all its places but the last, which dvs fills -/
def CalP (P : Program) (w : World) (K : PySem.W.Frag) (mg : Str → Option Value) (base : Heap) (k : Nat) (x : Str) (ps : List Str) (dvs : List V) (sp : Sp) : Prop :=
  ∃ f fd ds, FnOk P w K mg base CX0 k f fd ps sp ∧ mg x = some (.ref f) ∧ PySem.W.keepIn K (.ref f) = true ∧ Binds K fd ps ds ∧ Vals dvs ds
/-- .. with n values and the keywords ks -/
def CalN (P : Program) (w : World) (K : PySem.W.Frag) (mg : Str → Option Value) (base : Heap) (k : Nat) (x : Str) (ps : List Str) (n : Nat) (ks : List Str) (gV : List V → List V → List V) (sp : Sp) : Prop :=
  ∃ f fd g, FnOk P w K mg base CX0 k f fd ps sp ∧ mg x = some (.ref f) ∧ PySem.W.keepIn K (.ref f) = true ∧ KBn K fd ps n ks g gV
section
variable {P : Program} {w : World} {K : PySem.W.Frag} {mg : Str → Option Value} {base : Heap} {x : Str} {st : Stmt} {N ps : List Str} {k : Nat} {sp : Sp} {dvs : List V} {kws : List (Str × V)} {f : Addr} {fd : FuncData}
theorem okD_of (F : FunD K x x (defArgs st) (defBody st) (defScope st) dvs kws f fd) (S : FnScope N ps (defScope st)) (ln : ∀ vs H Q E, sp vs H Q E → vs.length = ps.length)
    (hbody : ∀ (f : Addr) (cdv : Value) (A : Around) (outer : List Env) (s : Shared) (H : Hp) (vs : List V) (Q : VK) (E : XK),
      Room k (A.deeper (envOfC x (defScope st) s.heap.objs.size f cdv)) → sp vs H Q E →
      ∃ t, PSs (cxOf CX0 P w K mg base N x (defScope st) f cdv A outer s H E).nox (defBody st) t ∧ t { nx := fun _ H' => Q .non H', rt := Q } (start N vs) H) :
    FnOk P w K mg base CX0 (k + 1) f fd ps sp :=
  F.ok S ln fun cdv A outer s H vs Q E hr h => by
    obtain ⟨t, h1, h2⟩ := hbody f cdv A outer s H vs Q E hr h
    exact ⟨t, h1.nox, h2⟩
theorem Cal.p (c : Cal P w K mg base k x st ps sp) : CalP P w K mg base k x ps [] sp := by
  obtain ⟨f, fd, F, D, g, b⟩ := c
  exact ⟨f, fd, [], F, g, D.kp, b, .nil⟩
/-- all parameters given by name, in this order: g puts them in their places -/
theorem Cal.n (c : Cal P w K mg base k x st ps sp) (n : Nat) (ks : List Str) (g : {α : Type} → List α → List α → List α)
    (hrel : ∀ {vs zs : List V} {us ws : List Value}, Vals vs us → Vals zs ws → Vals (g vs zs) (g us ws))
    (hb : ∀ (kV doc pm : Value) (an : Option Addr) (cdv ct : Value) (us ws : List Value), us.length = n → ws.length = ks.length →
      bindArgs (PySem.W.fnOf x x (defArgs st) (defBody st) (defScope st) .none kV doc pm an cdv ct) ⟨us, ks.zip ws⟩ = pure (ps.zip (g us ws))) : CalN P w K mg base k x ps n ks g sp := by
  obtain ⟨f, fd, F, D, gm, b⟩ := c
  obtain ⟨oc, od, kV, doc, pm, an, cdv, ct, osl, rfl, lk, hcd⟩ := D.ex
  exact ⟨f, _, fun us ws => g us ws, F, gm, D.kp, fun s us ws _ l1 l2 => .of_eq (hb kV doc pm an cdv ct us ws l1 l2), hrel⟩
end
section
variable {X : Cx} {k j n : Nat} {ps ks : List Str} {sp : Sp} {E : XK} {x : Str} {p pos : Pos} {e : Expr} {es : List Expr} {kws : List Keyword} {t tk : TA} {gV : List V → List V → List V} {dvs : List V}
theorem pe_calP (c : CalP X.prog X.w X.K X.mg X.base k x ps dvs sp) (hr : Room j X.A) (hk : k ≤ j) (hg : Gl X x) (hx : Passes CX0 X E) (ha : PA X (e :: es) t)
    (hdb : (x == ("__debug__" : Str)) = false := by decide) (he : starEach (e :: es) X.env = (false, eval e X.env) :: starEach es X.env := by rfl) (hpl : (backTo pos (starEach es X.env)).any (·.1) = false := by rfl) :
    PE X (.Call (.Name x p) (e :: es) [] pos) (tCall sp dvs E t) := by
  obtain ⟨f, fd, ds, F, g, kp, b, d⟩ := c
  exact pe_call F (hr.mono hk) hg g kp b d hx ha hdb he hpl
theorem pe_cal0 (c : CalP X.prog X.w X.K X.mg X.base k x ps dvs sp) (hr : Room j X.A) (hk : k ≤ j) (hg : Gl X x) (hx : Passes CX0 X E) (hdb : (x == ("__debug__" : Str)) = false := by decide) :
    PE X (.Call (.Name x p) [] [] pos) (tCall sp dvs E tNil) := by
  obtain ⟨f, fd, ds, F, g, kp, b, d⟩ := c
  exact pe_call0 F (hr.mono hk) hg g kp b d hx hdb
theorem pe_calN (c : CalN X.prog X.w X.K X.mg X.base k x ps n ks gV sp) (hr : Room j X.A) (hk : k ≤ j) (hg : Gl X x) (hx : Passes CX0 X E) (ha : PA X (e :: es) t) (hkw : PK X kws tk)
    (hall : (backToKw pos (keywordEach kws X.env)).all (·.1.isSome) = true := by rfl) (hks : (backToKw pos (keywordEach kws X.env)).filterMap (·.1) = ks := by rfl)
    (hdb : (x == ("__debug__" : Str)) = false := by decide) (he : starEach (e :: es) X.env = (false, eval e X.env) :: starEach es X.env := by rfl)
    (hpl : ((backTo pos (starEach (e :: es) X.env)).any (·.1) || (backToKw pos (keywordEach kws X.env)).any (·.1.isNone)) = false := by rfl) :
    PE X (.Call (.Name x p) (e :: es) kws pos) (tCallN n ks.length sp gV E t tk) := by
  obtain ⟨f, fd, g, F, gm, kp, b⟩ := c
  exact pe_callN F (hr.mono hk) hg gm kp b hx ha hkw hall hks hdb he hpl
theorem pe_calK0 (c : CalN X.prog X.w X.K X.mg X.base k x ps 0 ks gV sp) (hr : Room j X.A) (hk : k ≤ j) (hg : Gl X x) (hx : Passes CX0 X E) (hkw : PK X kws tk)
    (hall : (backToKw pos (keywordEach kws X.env)).all (·.1.isSome) = true := by rfl) (hks : (backToKw pos (keywordEach kws X.env)).filterMap (·.1) = ks := by rfl)
    (hdb : (x == ("__debug__" : Str)) = false := by decide)
    (hpl : ((backTo pos (starEach [] X.env)).any (·.1) || (backToKw pos (keywordEach kws X.env)).any (·.1.isNone)) = false := by rfl) :
    PE X (.Call (.Name x p) [] kws pos) (tCallK0 ks.length sp gV E tk) := by
  obtain ⟨f, fd, g, F, gm, kp, b⟩ := c
  exact pe_callK0 F (hr.mono hk) hg gm kp b hx hkw hall hks hdb hpl
end
/-- from what the top has left: keyword-only defaults -/
theorem defD_mk {K : PySem.W.Frag} {mg : Str → Option Value} {h : Heap} {x : Str} {st : Stmt} {f D : Addr} {oc : Value} {od an : Option Addr} {osl : Array (Option Value)} {doc pm cdv ct : Value} {kws : List (Str × V)} (X : K.In h) (G : h.Ns mainGlobals mg)
    (a : PySem.W.nsIn K mainGlobals x = some (some (.ref f)))
    (l : K.lookup f = some ⟨oc, od, .func (PySem.W.fnOf x x (defArgs st) (defBody st) (defScope st) .none (.ref D) doc pm an cdv ct), osl⟩)
    (c : PySem.W.codeIn K cdv x = true) (k : PySem.W.keepIn K (.ref f) = true) (hk : ∀ q ∈ kws, ∃ u, PySem.W.nsIn K D q.1 = some (some u) ∧ RelV q.2 u) : DefD K mg x st [] kws :=
  ⟨f, _, ⟨⟨oc, od, .none, .ref D, doc, pm, an, cdv, ct, osl, rfl, l, c, .inl ⟨rfl, rfl⟩, .inr ⟨D, rfl, hk⟩⟩, k⟩, PySem.W.mg_of X G a⟩
end Tar

/-! Exceptions whose __init__ says super().__init__(text) and stores its fields. -/
namespace Tar
open PySem PySem.W PySem.Calls PyProof.Rows
/-- the def of such an __init__ behind the top -/
structure IniF (K : Frag) (P : Program) (C fI : Addr) (qual : Str) (st : Stmt) (fd : FuncData) : Prop where
  ex : ∃ (oc : Value) (od : Option Addr) (kV doc pm : Value) (an : Option Addr) (cda : Addr) (ct : Value) (cc : Addr) (osl : Array (Option Value)) (cl : Value) (cld : Option Addr) (csl : Array (Option Value))
      (ccl : Value) (cdd : Option Addr) (vs : Array Value) (ccs : Array (Option Value)) (file : Str) (tf : Tok) (cdD : ClassData),
    fd = ksFn "__init__" qual (L2.defArgs st) (L2.defBody st) (L2.defScope st) .none kV doc pm an (.ref cda) ct cc ∧
    K.lookup fI = some ⟨oc, od, .func fd, osl⟩ ∧ codeIn K (.ref cda) qual = true ∧ K.lookup cc = some ⟨cl, cld, .cell (some (.ref C)), csl⟩ ∧
    K.lookup cda = some ⟨ccl, cdd, .fields vs, ccs⟩ ∧ vs[2]? = some (.str file tf) ∧ ((P.main.file : Str) == file) = true ∧ clsIn K C = some cdD
/-- what the text of the program and the written part say of an own error -/
structure ErrT (K : Frag) (mg : Str → Option Value) (P : Program) (x : Str) (C fI : Addr) (fd : FuncData) (B newId initId : String) (bmB : List Value) (st : Stmt) (qual : Str) : Prop where
  gC : mg x = some (.ref C)
  kC : keepIn K (.ref C) = true
  FB : ExcBaseFacts B newId initId bmB
  SF : StoreFacts B bmB "object.__setattr__" "object"
  KF : KxsFacts B initId
  ini : excInitIn K C bmB newId = true
  ovr : excOver K C bmB = true
  hd : hasDictIn K C = true
  fi : findIn K (.ref C) "__init__" = some (some (.ref fI))
  tf : typeIn K (.ref fI) = some (.type "function")
  sa : findIn K (.ref C) "__setattr__" = some (some (.builtin "object.__setattr__"))
  ga : findIn K (.ref C) "__getattribute__" = some (some (.builtin "BaseException.__getattribute__"))
  gg : findIn K (.ref C) "__getattr__" = some none
  mr : mroIn K C (.ref C) = some true
  op : nsIn K cStatics "thirdparty.any" = some none
  su : ks_superIn K C C "__init__" = some (some (.builtin initId))
  sb : subIn K (.ref C) (.type B) = some true
  ex : subIn K (.ref C) (.type "BaseException") = some true
  ty : typeIn K (.ref C) = some (.type "type")
  ns : mg "super" = none
  tp : (P.main.scope.names.lookup ("super" : Str)).isSome = false
  F : IniF K P C fI qual st fd
section
variable {prog : Program} {w : World} {A : Around} {E : Value → Shared → Prop} {K : Frag} {mg mb : Str → Option Value} {x : Str} {C fI : Addr} {fd : FuncData} {B newId initId : String} {bmB : List Value} {st : Stmt} {qual : Str}
theorem cls_of {cd : ClassData} {h : Heap} (X : K.In h) (hD : clsIn K C = some cd) : ∃ oD, h.get? C = some oD ∧ oD.data = .cls cd := by
  unfold clsIn at hD
  split at hD
  · rename_i c d cd' sl ho
    cases hD
    exact ⟨_, X _ _ ho, rfl⟩
  · cases hD
theorem mw_is : (Value.type "method-wrapper" == Value.type "method" || Value.type "method-wrapper" == Value.type "builtin_function_or_method" ||
    Value.type "method-wrapper" == Value.type "method-wrapper") = true := by decide
/-- super().__init__(text) -/
theorem exc_super (T : ErrT K mg prog x C fI fd B newId initId bmB st qual) {s : Shared} {L e t : Addr} {m : Str → Option Value} {p0 p1 p2 p3 p4 p5 : Pos} {msg : Str} {ck : Nat} {ar : Arg} {Q : Flow → Shared → Prop} {body : List Stmt}
    (X : K.In s.heap) (G : s.heap.Ns mainGlobals mg) (Bn : s.heap.Ns builtinsNs mb) (hmb : mb "super" = some (.type "super")) (hn : s.heap.Ns L m) (hv : m ar.arg = some (.ref e)) (he : s.heap.get? e = some (excObj C t none .none))
    (hp : (fd.params.posonlyargs ++ fd.params.args).head? = some ar) (hk : fd.scope.kind = .function) (hks : fd.scope.names.lookup ("super" : Str) = some .globalImplicit) (hkc : fd.scope.names.lookup ("__class__" : Str) = some .free) (hka : fd.scope.names.lookup ar.arg = some .local)
    (hev : ∃ pl : Sem Bool, eval (.Call (.Attribute (.Call (.Name "super" p0) [] [] p1) "__init__" p2) [.Constant (.str msg) ck p3] [] p4) (callEnv fd L fI) = (do
      let ov ← attributeBase (.Call (.Name "super" p0) [] [] p1) "__init__" (callEnv fd L fI) (eval (.Call (.Name "super" p0) [] [] p1) (callEnv fd L fI))
      standAt p2.atName
      let (f, first) ← holding [ov] (getMethod ov "__init__" pl)
      callWith p4 f first (backTo p4 (starEach [.Constant (.str msg) ck p3] (callEnv fd L fI))) []))
    (h : ∀ h' tk t', (∀ b o, b ≠ e → s.heap.get? b = some o → h'.get? b = some o) → h'.get? e = some (excObj C t' none .none) → s.heap.objs.size ≤ h'.objs.size → Q .next { s with heap := h', toks := tk }) :
    _root_.PySem.wpAt (model prog w) A (.func body (callEnv fd L fI)) (exec (.Expr (.Call (.Attribute (.Call (.Name "super" p0) [] [] p1) "__init__" p2) [.Constant (.str msg) ck p3] [] p4) p5) (callEnv fd L fI)) Q E s := by
  obtain ⟨oc, od, kV, doc, pm, an, cda, ct, cc, osl, cl, cld, csl, ccl, cdd, vs, ccs, file, tfk, cdD, rfl, lk, hcd, hcell, hcode, hvs, hfile, hcls⟩ := T.F.ex
  obtain ⟨oD, hD1, hD2⟩ := cls_of X hcls
  obtain ⟨hh, g, d, tk, os⟩ := s
  have I : InstAt hh e (excObj C t none .none) C none := ⟨he, rfl, rfl, trivial⟩
  obtain ⟨pl, hev⟩ := hev
  refine ks_wpAt_Expr_any (ks_wpAt_MethodCall (pl := pl) ?_ hev) (by have hk' : (L2.defScope st).kind = .function := hk; simp [interactive, callEnv, newEnv, hk'])
  refine ks_wpAt_super_base (env := callEnv (ksFn "__init__" qual (L2.defArgs st) (L2.defBody st) (L2.defScope st) .none kV doc pm an (.ref cda) ct cc) L fI) hks hkc (by decide) rfl (X _ _ lk) rfl hp rfl (X _ _ hcode) rfl hvs hfile T.tp ?_
  refine ks_loadName_global hk hks (loadGlobal_builtin (env := callEnv (ksFn "__init__" qual (L2.defArgs st) (L2.defBody st) (L2.defScope st) .none kV doc pm an (.ref cda) ct cc) L fI) G T.ns Bn hmb ⟨rfl, ?_⟩)
  refine wpAny_loadName_free hk hkc rfl ⟨_, X _ _ hcell, rfl⟩ ?_
  refine wpAny_loadName_local hk hka hn hv ?_
  refine ks_wpAny_isType_cls hD1 hD2 ⟨rfl, ?_⟩
  refine ks_wpAny_call_super hD1 hD2 I.at_ I.cls (fun c z => nomatch z) (looks_mroIn X T.mr) (fun h1 e1 k1 => ?_)
  -- the method-wrapper
  have X1 : K.In h1 := X.keeps k1
  have I1 : InstAt h1 e (excObj C t none .none) C none := ⟨k1 _ _ he, rfl, rfl, trivial⟩
  have hI : Looks (model prog w) h1 (isInstance (.ref e) (.type B)) true := I1.type.andThen (looks_subIn X1 T.sb)
  have hsu := T.su
  unfold ks_superIn at hsu
  rw [hcls] at hsu
  refine kxs_getMethod T.KF e1 (looks_opaque X1 T.op) (l₀ := cdD.mro) ?_ rfl X1 hsu hI (ks_ne X1 I1 hcls) (by decide) ?_
  · exact fun A Q E s k q => wpAny_bind ((looks_clsIn X1 hcls) A _ E s k (wpAny_pure q))
  -- its call
  have k2 : ∀ b o, h1.get? b = some o → (h1.push (kxs_mw initId e)).get? b = some o := fun b o z => Heap.get?_push_of_some _ z
  have u2 : (h1.push (kxs_mw initId e)).get? h1.objs.size = some (kxs_mw initId e) := Heap.get?_push_at rfl rfl
  refine kxs_callWith (i := initId) (x := e) rfl (evalArgs_plain ?_)
  refine spliced_more (wpAny_Constant_str ?_)
  refine spliced_none ⟨u2, ?_⟩
  obtain ⟨nm, N', qn, bs, bm, hdct, sn, sub, ab, col, dd, c0, c1, c2, c3, c5, hC, hT⟩ := excInit_of (X1.keeps k2) T.ini
  refine wpAny_call (codeAny_of_tree ?_)
  show wpAny _ A.in1 (callAny (.ref h1.objs.size) ⟨_, []⟩) _ _ _
  simp only [callAny]
  refine wpAny_bind (wpAny_load u2 ?_)
  simp only [kxs_mw, mw_is, if_true]
  refine KFB.if_so (by decide) ?_
  refine wpAny_bind (check_bound_init T.FB.toExcCallFacts hC (k2 _ _ I1.at_) rfl ?_)
  refine wpAny_bind (wpAny_pure (wpAny_pure ?_))
  refine ⟨plainId_quiet T.FB.init.plain _, codeAny_builtin T.FB.initEntry ?_⟩
  refine exc_init_tree (cls := .ref C) (t0 := t) (dv := none) (c2 := .none) (c3 := .none) (b4 := .bool false) (k2 _ _ I1.at_) (by show 1 ≤ sizeLine; decide) (fun h3 k3 e3 e4 => ?_)
  refine h h3 _ _ (fun b o hb z => k3 b o hb (k2 _ _ (k1 _ _ z))) e3 ?_
  have z1 : hh.objs.size < h1.objs.size := Heap.lt_size e1
  have z2 := Heap.lt_size e4
  rw [Heap.size_push] at z2
  exact Nat.le_of_lt (Nat.lt_trans z1 (Nat.lt_of_succ_lt z2))

open Builtin Builtin.ObjectAttr in
/-- self.f = v on an error without a dict -/
theorem osa_first (T : ErrT K mg prog x C fI fd B newId initId bmB st qual) {s : Shared} {e t : Addr} {name : Str} {tk : Tok} {v : Value} {R : Result → Shared → Prop} {cd : ClassData} (X : K.In s.heap)
    (he : s.heap.get? e = some (excObj C t none .none)) (hcd : clsIn K C = some cd) (ht : findIn K (.ref C) name = some none)
    (hq : ∀ h' tk' dx, (∀ b o, b ≠ e → s.heap.get? b = some o → h'.get? b = some o) → s.heap.objs.size ≤ dx → dx ≠ e → h'.get? e = some (excObj C t (some dx) .none) →
      h'.Ns1 dx (fun y => if y = name then some v else none) → R (.ok (.ret .none)) { s with heap := h', toks := tk' }) :
    codeAny (model prog w) A (.call (.builtin "object.__setattr__") ⟨[.ref e, .str name tk, v], []⟩) R s := by
  obtain ⟨hp, g, d, t', os⟩ := s
  have I : InstAt hp e (excObj C t none .none) C none := ⟨he, rfl, rfl, trivial⟩
  have hes : e ≠ hp.objs.size := Nat.ne_of_lt (Heap.lt_size he)
  have hcls : Looks (model prog w) hp (classData C) cd := looks_clsIn X hcd
  have hdc : cd.hasDict = true := by
    have := T.hd
    unfold hasDictIn at this
    rw [hcd] at this
    exact this
  refine osa_openX T.SF X I T.ovr (r := none) (L2.NoAttr.taker ht) (fun b => ?_)
  obtain ⟨nm, bs, mro, ns, qn, hd, sn, sb, ab, col, del⟩ := cd
  dsimp only at hdc
  subst hdc
  show wpAny _ _ (storeInOwnDict (.ref e) (.ref C) (.str name tk) name v b) _ _ _
  unfold storeInOwnDict ownDictForStores
  cases b
  all_goals
    repeat (first | with_reducible refine HandSPX.store_in_new ?_ ?_ | with_reducible refine wpAny_loadPart_at he ?_ | with_reducible refine hcls.at ?_ | wp_step)
  all_goals first
    | exact ⟨_, #[], _, (Heap.get?_update_ne _ _ _ _ hes.symm).trans (Heap.get?_push_at rfl rfl), rfl, fun q hq => absurd hq (by simp), fun _ => rfl⟩
    | (intro h' tk' hn' hs
       have hx1 : (hp.push { cls := .type "dict", data := .dict #[] }).get? e = some (excObj C t none .none) := Heap.get?_push_of_some _ he
       refine hq h' tk' hp.objs.size (fun b o hb ho => ?_) (Nat.le_refl _) hes.symm ?_ hn'
       · exact (hs.2 b (Nat.ne_of_lt (Heap.lt_size ho))).trans ((Heap.get?_update_ne _ _ _ _ hb).trans (Heap.get?_push_of_some _ ho))
       · exact (hs.2 e hes).trans (Heap.get?_update_self _ hx1 rfl))
open Builtin Builtin.ObjectAttr in
/-- .. on an error with a dict -/
theorem osa_next (T : ErrT K mg prog x C fI fd B newId initId bmB st qual) {s : Shared} {e t dx : Addr} {name : Str} {tk : Tok} {v : Value} {R : Result → Shared → Prop} {cd : ClassData} {m0 : Str → Option Value} {nl : List Str} (X : K.In s.heap)
    (he : s.heap.get? e = some (excObj C t (some dx) .none)) (hns : s.heap.Ns1 dx m0) (hw : Within m0 nl) (hz : nl.length ≤ 1000) (hcd : clsIn K C = some cd) (ht : findIn K (.ref C) name = some none)
    (hq : ∀ h' tk', (∀ b o, b ≠ dx → s.heap.get? b = some o → h'.get? b = some o) → h'.Ns1 dx (fun y => if y = name then some v else m0 y) → R (.ok (.ret .none)) { s with heap := h', toks := tk' }) :
    codeAny (model prog w) A (.call (.builtin "object.__setattr__") ⟨[.ref e, .str name tk, v], []⟩) R s := by
  obtain ⟨hp, g, d, t', os⟩ := s
  obtain ⟨oD, esD, epD, hoD, hdD, _⟩ := hns.count hw
  have I : InstAt hp e (excObj C t (some dx) .none) C (some oD) := ⟨he, rfl, rfl, hoD⟩
  have hcls : Looks (model prog w) hp (classData C) cd := looks_clsIn X hcd
  have hdc : cd.hasDict = true := by
    have := T.hd
    unfold hasDictIn at this
    rw [hcd] at this
    exact this
  refine osa_openX T.SF X I T.ovr (r := none) (L2.NoAttr.taker ht) (fun b => ?_)
  obtain ⟨nm, bs, mro, ns, qn, hd, sn, sb, ab, col, del⟩ := cd
  dsimp only at hdc
  subst hdc
  show wpAny _ _ (storeInOwnDict (.ref e) (.ref C) (.str name tk) name v b) _ _ _
  unfold storeInOwnDict ownDictForStores
  cases b
  all_goals
    repeat (first | with_reducible refine ESX.store_in_old hns hw hz ?_ | with_reducible refine wpAny_loadPart_at he ?_ | with_reducible refine hcls.at ?_ | wp_step)
  all_goals
    intro h' tk' hn' hs
    exact hq h' tk' (fun b o hb ho => (hs.2 b hb).trans ho) hn'
end
end Tar

namespace Tar
open PySem PySem.W PySem.Calls PyProof.Rows
/-- the stores of an __init__ -/
inductive Stores : List Str → List Stmt → Prop where
  | nil : Stores [] []
  | cons {f : Str} {fs : List Str} {sts : List Stmt} {q1 q2 q3 q4 : Pos} : Stores fs sts → Stores (f :: fs) (.Assign [.Attribute (.Name "self" q1) f q2] (.Name f q3) q4 :: sts)
/-- the text of such an __init__: fs its parameters behind self -/
structure IniX (st : Stmt) (fs : List Str) : Prop where
  bind : ∀ (qual : Str) (kV doc pm : Value) (an : Option Addr) (cd ct : Value) (cc : Addr) (us : List Value), us.length = fs.length + 1 →
    bindArgs (ksFn "__init__" qual (L2.defArgs st) (L2.defBody st) (L2.defScope st) .none kV doc pm an cd ct cc) ⟨us, []⟩ = pure ((("self" : Str) :: fs).zip us)
  arg : ∃ ar : Arg, ((L2.defArgs st).posonlyargs ++ (L2.defArgs st).args).head? = some ar ∧ ar.arg = "self"
  kind : (L2.defScope st).kind = .function
  co : (L2.defScope st).isCoroutine = false
  gen : (L2.defScope st).isGenerator = false
  cells : ∀ y ∈ (L2.defScope st).names, y.2 ≠ .cell
  loc : ∀ y ∈ (("self" : Str) :: fs), (L2.defScope st).names.lookup y = some .local
  dbg : ∀ y ∈ (("self" : Str) :: fs), (y == ("__debug__" : Str)) = false
  nd : (("self" : Str) :: fs).Nodup
  sup : (L2.defScope st).names.lookup ("super" : Str) = some .globalImplicit
  cls : (L2.defScope st).names.lookup ("__class__" : Str) = some .free
  body : ∃ (p0 p1 p2 p3 p4 p5 : Pos) (msg : Str) (ck : Nat) (rest : List Stmt), L2.defBody st = .Expr (.Call (.Attribute (.Call (.Name "super" p0) [] [] p1) "__init__" p2) [.Constant (.str msg) ck p3] [] p4) p5 :: rest ∧ Stores fs rest ∧
    ∀ (qual : Str) (kV doc pm : Value) (an : Option Addr) (cd ct : Value) (cc L fI : Addr), ∃ pl : Sem Bool,
      eval (.Call (.Attribute (.Call (.Name "super" p0) [] [] p1) "__init__" p2) [.Constant (.str msg) ck p3] [] p4) (callEnv (ksFn "__init__" qual (L2.defArgs st) (L2.defBody st) (L2.defScope st) .none kV doc pm an cd ct cc) L fI) = (do
        let ov ← attributeBase (.Call (.Name "super" p0) [] [] p1) "__init__" (callEnv (ksFn "__init__" qual (L2.defArgs st) (L2.defBody st) (L2.defScope st) .none kV doc pm an cd ct cc) L fI)
          (eval (.Call (.Name "super" p0) [] [] p1) (callEnv (ksFn "__init__" qual (L2.defArgs st) (L2.defBody st) (L2.defScope st) .none kV doc pm an cd ct cc) L fI))
        standAt p2.atName
        let (f, first) ← holding [ov] (getMethod ov "__init__" pl)
        callWith p4 f first (backTo p4 (starEach [.Constant (.str msg) ck p3] (callEnv (ksFn "__init__" qual (L2.defArgs st) (L2.defBody st) (L2.defScope st) .none kV doc pm an cd ct cc) L fI))) [])
/-- what such an __init__ leaves of a fresh error at e: its dict d holds the map mp -/
structure ErrEnd (h h' : Heap) (e C : Addr) (d : Option Addr) (mp : List (Str × Value)) : Prop where
  keep : ∀ b o, b ≠ e → h.get? b = some o → h'.get? b = some o
  obj : ∃ t, h'.get? e = some (excObj C t d .none)
  dct : (d = none ∧ mp = []) ∨ ∃ dx, d = some dx ∧ h.objs.size ≤ dx ∧ dx ≠ e ∧ mp ≠ [] ∧ h'.Ns1 dx (fun y => mp.lookup y)
theorem look_cons (name : Str) (v : Value) (mp : List (Str × Value)) : (fun y : Str => if y = name then some v else mp.lookup y) = fun y => ((name, v) :: mp).lookup y := by
  funext y
  rw [List.lookup_cons]
  by_cases h : y = name
  · rw [if_pos h, beq_iff_eq.mpr h]
  · rw [if_neg h, beq_eq_false_iff_ne.mpr h]
theorem look_nil (name : Str) (v : Value) : (fun y : Str => if y = name then some v else none) = fun y => ([(name, v)] : List (Str × Value)).lookup y := look_cons name v []
theorem look_within : ∀ mp : List (Str × Value), Within (fun y => mp.lookup y) (mp.map (·.1))
  | [] => fun y hy => absurd rfl hy
  | (a, b) :: r => by
    intro y hy
    by_cases h : y = a
    · rw [h]
      exact List.mem_cons_self
    · refine List.mem_cons_of_mem _ (look_within r y ?_)
      have hy' : List.lookup y ((a, b) :: r) ≠ none := hy
      rw [List.lookup_cons, beq_eq_false_iff_ne.mpr h] at hy'
      exact hy'
section
variable {prog : Program} {w : World} {A : Around} {E : Value → Shared → Prop} {K : Frag} {mg mb : Str → Option Value} {x : Str} {C fI : Addr} {fd : FuncData} {B newId initId : String} {bmB : List Value} {st : Stmt} {qual : Str}
theorem out_of_K {h : Heap} {a : Addr} (X : K.In h) (n : h.objs.size ≤ a) : K.lookup a = none := by
  cases e : K.lookup a with
  | none => rfl
  | some o => exact absurd (Nat.lt_of_lt_of_le (Heap.lt_size (X _ _ e)) n) (Nat.lt_irrefl _)
theorem in_but {h h' : Heap} {a : Addr} (X : K.In h) (n : K.lookup a = none) (k : ∀ b o, b ≠ a → h.get? b = some o → h'.get? b = some o) : K.In h' := by
  intro b o e
  refine k b o ?_ (X b o e)
  rintro rfl
  rw [n] at e
  cases e
/-- the stores, one after another -/
theorem stores_run (T : ErrT K mg prog x C fI fd B newId initId bmB st qual) {cd : ClassData} (hcd : clsIn K C = some cd) {L e : Addr} {m : Str → Option Value} (heL : e ≠ L) (hne : K.lookup e = none)
    (hself : m "self" = some (.ref e)) (hk : fd.scope.kind = .function) (hls : fd.scope.names.lookup ("self" : Str) = some .local) (h0 : Heap) (X0 : K.In h0) (hL : L < h0.objs.size) :
    ∀ {fs : List Str} {sts : List Stmt}, Stores fs sts → ∀ {us : List Value} {s : Shared} {d : Option Addr} {mp : List (Str × Value)} {Q : Flow → Shared → Prop},
      fs.length = us.length → (∀ p ∈ fs.zip us, m p.1 = some p.2) → (∀ f ∈ fs, fd.scope.names.lookup f = some .local ∧ (f == ("__debug__" : Str)) = false ∧ findIn K (.ref C) f = some none) → mp.length + fs.length ≤ 100 →
      K.In s.heap → s.heap.Ns L m → ErrEnd h0 s.heap e C d mp → h0.objs.size ≤ s.heap.objs.size →
      (∀ h' tk d', ErrEnd h0 h' e C d' ((fs.zip us).reverse ++ mp) → Q .next { s with heap := h', toks := tk }) →
      wpAny (model prog w) A (execs sts (callEnv fd L fI)) Q E s
  | _, _, .nil, us, s, d, mp, Q, _, _, _, _, _, _, en, _, hQ => by
    refine wpAny_execs_nil ?_
    have := hQ s.heap s.toks d en
    exact this
  | _, _, .cons (f := f) (fs := fs) (sts := sts) S, us, s, d, mp, Q, hl, hm, hf, hz, X, hn, en, hsz, hQ => by
    match us, hl with
    | u :: us, hl =>
      have hmf : m f = some u := hm (f, u) List.mem_cons_self
      obtain ⟨hlf, hdb, hno⟩ := hf f List.mem_cons_self
      refine wpAny_execs_cons (plainObj_wpAny_Assign_Attribute ?_)
      refine ESX.ldL (env := callEnv fd L fI) (v := u) hn hmf ?_ hk hlf hdb
      refine ESX.ldL (env := callEnv fd L fI) (v := .ref e) hn hself ?_ hk hls
      obtain ⟨t, he⟩ := en.obj
      obtain ⟨hp, g, dr, tk, os⟩ := s
      -- behind the store
      have rest : ∀ h' tk' dx, (∀ b o, b ≠ e → b ≠ dx → hp.get? b = some o → h'.get? b = some o) → (∀ b o, b ≠ e → h0.get? b = some o → h'.get? b = some o) → h'.get? e = some (excObj C t (some dx) .none) → h0.objs.size ≤ dx → dx ≠ e → K.lookup dx = none →
          h'.Ns1 dx (fun y => ((f, u) :: mp).lookup y) → h0.objs.size ≤ h'.objs.size → wpAny (model prog w) A (execs sts (callEnv fd L fI)) Q E ⟨h', g, dr, tk', os⟩ := by
        intro h' tk' dx k1 k2 he' hd1 hd2 hdk hns hsz'
        have X' : K.In h' := by
          intro b o eb
          refine k1 b o ?_ ?_ (X b o eb)
          · rintro rfl
            rw [hne] at eb
            cases eb
          · rintro rfl
            rw [hdk] at eb
            cases eb
        have hn' : h'.Ns L m := by
          obtain ⟨oL, es, ep, e1, r1⟩ := hn
          have nLd : L ≠ dx := Nat.ne_of_lt (Nat.lt_of_lt_of_le hL hd1)
          exact ⟨oL, es, ep, k1 L oL heL.symm nLd e1, r1⟩
        refine stores_run T hcd heL hne hself hk hls h0 X0 hL S (us := us) (mp := (f, u) :: mp) (Nat.succ.inj hl) (fun p hp => hm p (List.mem_cons_of_mem _ hp)) (fun y hy => hf y (List.mem_cons_of_mem _ hy)) ?_ X' hn' ⟨k2, ⟨t, he'⟩, .inr ⟨dx, rfl, hd1, hd2, List.cons_ne_nil _ _, hns⟩⟩ hsz' ?_
        · simp only [List.length_cons] at hz ⊢
          omega
        · intro h2 tk2 d2 en2
          refine hQ h2 tk2 d2 ?_
          have : ((f :: fs).zip (u :: us)).reverse ++ mp = (fs.zip us).reverse ++ (f, u) :: mp := by
            rw [List.zip_cons_cons, List.reverse_cons, List.append_assoc]
            rfl
          rw [this]
          exact en2
      rcases en.dct with ⟨rfl, rfl⟩ | ⟨dx, rfl, hd1, hd2, _, hns⟩
      · refine set_plain X (ox := excObj C t none .none) (od := none) ⟨he, rfl, rfl, trivial⟩ T.sa ?_
        refine osa_first T X he hcd hno (fun h' tk' dx k1 dn dne he' hns' => ?_)
        rw [look_nil] at hns'
        have hsz' : hp.objs.size ≤ dx := dn
        refine rest h' tk' dx (fun b o hb _ z => k1 b o hb z) (fun b o hb z => k1 b o hb (en.keep b o hb z)) he' (Nat.le_trans hsz hsz') dne (out_of_K X hsz') hns' ?_
        obtain ⟨od, _, _, ed, _⟩ := hns'
        exact Nat.le_trans (Nat.le_trans hsz hsz') (Nat.le_of_lt (Heap.lt_size ed))
      · have nn := hns
        obtain ⟨od, es, ep, ed, _⟩ := nn
        have ed' : hp.get? dx = some od := ed
        have hdk : K.lookup dx = none := out_of_K X0 hd1
        refine set_plain X (ox := excObj C t (some dx) .none) (od := some od) ⟨he, rfl, rfl, ed'⟩ T.sa ?_
        refine osa_next T X he hns (nl := mp.map (·.1)) (look_within mp) ?_ hcd hno (fun h' tk' k1 hns' => ?_)
        · rw [List.length_map]
          simp only [List.length_cons] at hz
          omega
        rw [look_cons] at hns'
        refine rest h' tk' dx (fun b o _ hb z => k1 b o hb z) (fun b o hb z => k1 b o ?_ (en.keep b o hb z)) (k1 e _ hd2.symm he) hd1 hd2 hdk hns' ?_
        · exact Nat.ne_of_lt (Nat.lt_of_lt_of_le (Heap.lt_size z) hd1)
        · obtain ⟨od2, _, _, ed2, _⟩ := hns'
          exact Nat.le_trans hd1 (Nat.le_of_lt (Heap.lt_size ed2))

/-- the __init__ of a fresh error -/
theorem exc_init (T : ErrT K mg prog x C fI fd B newId initId bmB st qual) {fs : List Str} (IX : IniX st fs) (hfs : fs.length ≤ 50) (hno : ∀ f ∈ fs, findIn K (.ref C) f = some none) {s : Shared} {e t : Addr} {us : List Value} {R : Result → Shared → Prop}
    (X : K.In s.heap) (G : s.heap.Ns mainGlobals mg) (Bn : s.heap.Ns builtinsNs mb) (hmb : mb "super" = some (.type "super")) (hlim : s.heap.NoLimit) (he : s.heap.get? e = some (excObj C t none .none)) (hne : K.lookup e = none) (hroom : A.depth < recursionLimit)
    (hl : fs.length = us.length) (hq : ∀ h' tk d, ErrEnd s.heap h' e C d (fs.zip us).reverse → R (.ok (.ret .none)) { s with heap := h', toks := tk }) :
    codeAny (model prog w) A (.call (.ref fI) ⟨.ref e :: us, []⟩) R s := by
  obtain ⟨oc, od, kV, doc, pm, an, cda, ct, cc, osl, cl, cld, csl, ccl, cdd, vs, ccs, file, tfk, cdD, efd, lk, hcd, hcell, hcode, hvs, hfile, hcls⟩ := T.F.ex
  obtain ⟨p0, p1, p2, p3, p4, p5, msg, ck, rest, hbody, hst, hev⟩ := IX.body
  obtain ⟨ar, har, hself⟩ := IX.arg
  have hsc : fd.scope = L2.defScope st := by rw [efd]
  have hbind : BindsTo s fd ⟨.ref e :: us, []⟩ ((("self" : Str) :: fs).zip (.ref e :: us)) := by
    rw [efd]
    exact .of_eq (IX.bind qual kV doc pm an (.ref cda) ct cc (.ref e :: us) (by rw [List.length_cons, hl]))
  have hcr : s.heap.CodeRec fd.code fd.qualname := by
    rw [efd]
    exact codeRec_of X hcd
  have hbd : fd.body = .stmts (L2.defBody st) := by rw [efd]
  refine ks_codeAny_call_defAt hroom (X _ _ lk) rfl hlim hcr hbd hbind (by rw [hsc]; exact IX.cells) ?_ (fun h1 hns k1 => ?_) (by rw [hsc]; exact IX.co) (by rw [hsc]; exact IX.gen) (by rw [hsc]; exact IX.kind)
  · rintro ⟨n, v⟩ hy
    rw [hsc]
    exact IX.loc n (List.of_mem_zip hy).1
  -- the names
  have hnd : ∀ (ns : List Str) (ws : List Value), ns.Nodup → ns.length = ws.length → ∀ p ∈ ns.zip ws, (ns.zip ws).reverse.lookup p.1 = some p.2 := by
    intro ns ws nd hlen p hp
    have key : ∀ (l : List (Str × Value)), (l.map (·.1)).Nodup → ∀ q ∈ l, l.lookup q.1 = some q.2 := by
      intro l
      induction l with
      | nil => intro _ q hq; cases hq
      | cons a r ih =>
        intro hn q hq
        obtain ⟨a1, a2⟩ := a
        rw [List.map_cons, List.nodup_cons] at hn
        rw [List.lookup_cons]
        rcases List.mem_cons.mp hq with rfl | _
        · rw [beq_self_eq_true]
        · rename_i hq2
          have : q.1 ≠ a1 := by
            intro z
            have hin : q.1 ∈ r.map (·.1) := List.mem_map_of_mem hq2
            rw [z] at hin
            exact hn.1 hin
          rw [beq_eq_false_iff_ne.mpr this]
          exact ih hn.2 q hq2
    refine key _ ?_ p (List.mem_reverse.mpr hp)
    have e1 : (ns.zip ws).map (·.1) = ns := by
      rw [List.map_fst_zip]
      omega
    rw [List.map_reverse, e1]
    exact List.pairwise_reverse.mpr (List.Pairwise.imp (fun h => Ne.symm h) nd)
  have hm := hnd (("self" : Str) :: fs) (.ref e :: us) IX.nd (by rw [List.length_cons, List.length_cons, hl])
  have heL : e ≠ s.heap.objs.size := Nat.ne_of_lt (Heap.lt_size he)
  have hms : (((("self" : Str) :: fs).zip (.ref e :: us)).reverse.lookup ("self" : Str)) = some (.ref e) := hm (("self" : Str), .ref e) List.mem_cons_self
  have X1 : K.In h1 := X.keeps k1
  rw [hbody]
  refine ks_wpAt_execs_cons ?_
  refine exc_super T (s := { s with heap := h1, toks := _ }) (mb := mb) (ar := ar) X1 ?_ ?_ hmb hns ?_ (k1 _ _ he) (by rw [efd]; exact har) (by rw [hsc]; exact IX.kind) (by rw [hsc]; exact IX.sup) (by rw [hsc]; exact IX.cls) (by rw [hsc, hself]; exact IX.loc _ List.mem_cons_self) ?_ ?_
  · obtain ⟨o, es, ep, e1, r1⟩ := G
    exact ⟨o, es, ep, k1 _ _ e1, r1⟩
  · obtain ⟨o, es, ep, e1, r1⟩ := Bn
    exact ⟨o, es, ep, k1 _ _ e1, r1⟩
  · rw [hself]
    exact hms
  · rw [efd]
    exact hev qual kV doc pm an (.ref cda) ct cc s.heap.objs.size fI
  · intro h2 tk2 t2 k2 he2 hsz
    refine wpAt_of_wpAny ?_
    have X2 : K.In h2 := in_but X1 hne k2
    have hn2 : h2.Ns s.heap.objs.size (fun y => ((("self" : Str) :: fs).zip (.ref e :: us)).reverse.lookup y) := by
      obtain ⟨o, es, ep, e1, r1⟩ := hns
      exact ⟨o, es, ep, k2 _ _ heL.symm e1, r1⟩
    have hL1 : s.heap.objs.size < h1.objs.size := hns.lt
    refine stores_run T hcls heL hne hms (by rw [hsc]; exact IX.kind) (by rw [hsc]; exact IX.loc _ List.mem_cons_self) h1 X1 hL1 hst (us := us) (d := none) (mp := []) hl ?_ ?_ ?_ X2 hn2 ⟨k2, ⟨t2, he2⟩, .inl ⟨rfl, rfl⟩⟩ hsz ?_
    · intro p hp
      exact hm p (List.mem_cons_of_mem _ hp)
    · intro f hf
      rw [hsc]
      exact ⟨IX.loc f (List.mem_cons_of_mem _ hf), IX.dbg f (List.mem_cons_of_mem _ hf), hno f hf⟩
    · rw [List.length_nil]
      omega
    · intro h3 tk3 d3 en
      rw [List.append_nil] at en
      refine hq h3 tk3 d3 ⟨fun b o hb z => en.keep b o hb (k1 b o z), en.obj, ?_⟩
      rcases en.dct with q | ⟨dx, a1, a2, a3, a4⟩
      · exact .inl q
      · exact .inr ⟨dx, a1, Nat.le_trans (Nat.le_of_lt hL1) a2, a3, a4⟩

/-- an error that was made -/
structure ErrMade (h h' : Heap) (e C : Addr) (d : Option Addr) (mp : List (Str × Value)) : Prop where
  keep : ∀ b o, h.get? b = some o → h'.get? b = some o
  new : h.objs.size ≤ e
  obj : ∃ t, h'.get? e = some (excObj C t d .none)
  dct : (d = none ∧ mp = []) ∨ ∃ dx, d = some dx ∧ h.objs.size ≤ dx ∧ dx ≠ e ∧ mp ≠ [] ∧ h'.Ns1 dx (fun y => mp.lookup y)
theorem exc_made (T : ErrT K mg prog x C fI fd B newId initId bmB st qual) {fs : List Str} (IX : IniX st fs) (hfs : fs.length ≤ 50) (hno : ∀ f ∈ fs, findIn K (.ref C) f = some none) {s : Shared} {us : List Value} {R : Result → Shared → Prop}
    (X : K.In s.heap) (G : s.heap.Ns mainGlobals mg) (Bn : s.heap.Ns builtinsNs mb) (hmb : mb "super" = some (.type "super")) (hlim : s.heap.NoLimit) (hroom : A.depth + 1 < recursionLimit)
    (hl : fs.length = us.length) (hq : ∀ h' tk e d, ErrMade s.heap h' e C d (fs.zip us).reverse → R (.ok (.ret (.ref e))) { s with heap := h', toks := tk }) :
    codeAny (model prog w) A (.call (.ref C) ⟨us, []⟩) R s := by
  obtain ⟨nm, N', qn, bs, bm, hdct, sn, sub, ab, col, dd, c0, c1, c2, c3, c5, hC, hT⟩ := excInit_of X T.ini
  obtain ⟨hp, g, dr, tk, os⟩ := s
  have k : ∀ b o, hp.get? b = some o → ((hp.push (kdv_tup us)).push (HandSPX.excO C hp.objs.size)).get? b = some o :=
    fun b o z => Heap.get?_push_of_some _ (Heap.get?_push_of_some _ z)
  have hget : ((hp.push (kdv_tup us)).push (HandSPX.excO C hp.objs.size)).get? (hp.objs.size + 1) = some (excObj C hp.objs.size none .none) := by heap_get
  have hz : us.length ≤ sizeLine := by
    rw [← hl]
    exact Nat.le_trans hfs (by decide)
  refine HandSPX.call_own T.FB hT hC (looks_findIn X T.fi) (fun self => bind_fn X self T.tf) hz ?_
  have X2 := X.keeps k
  have G2 : ((hp.push (kdv_tup us)).push (HandSPX.excO C hp.objs.size)).Ns mainGlobals mg := by
    obtain ⟨o, es, ep, e1, r1⟩ := G
    exact ⟨o, es, ep, k _ _ e1, r1⟩
  have B2 : ((hp.push (kdv_tup us)).push (HandSPX.excO C hp.objs.size)).Ns builtinsNs mb := by
    obtain ⟨o, es, ep, e1, r1⟩ := Bn
    exact ⟨o, es, ep, k _ _ e1, r1⟩
  have hnk : K.lookup (hp.objs.size + 1) = none := out_of_K X (Nat.le_succ _)
  refine exc_init (s := ⟨(hp.push (kdv_tup us)).push (HandSPX.excO C hp.objs.size), g, dr, tk, os⟩) T IX hfs hno X2 G2 B2 hmb (hlim.keeps k) hget hnk ?_ hl (fun h' tk' d en => ?_)
  · show A.depth + 1 < recursionLimit
    exact hroom
  · have hs2 : hp.objs.size ≤ ((hp.push (kdv_tup us)).push (HandSPX.excO C hp.objs.size)).objs.size := by
      rw [Heap.size_push, Heap.size_push]
      exact Nat.le_trans (Nat.le_succ _) (Nat.le_succ _)
    refine ⟨rfl, hq h' tk' (hp.objs.size + 1) d ⟨fun b o z => en.keep b o ?_ (k b o z), Nat.le_succ _, en.obj, ?_⟩⟩
    · exact Nat.ne_of_lt (Nat.lt_succ_of_lt (Heap.lt_size z))
    · rcases en.dct with q | ⟨dx, a1, a2, a3, a4⟩
      · exact .inl q
      · exact .inr ⟨dx, a1, Nat.le_trans hs2 a2, a3, a4⟩
end
end Tar
namespace Tar
open PySem PySem.Spec PyProof.Rows L2
theorem relO_pairs : ∀ {vs : List V} {us : List Value} (fs : List Str), Vals vs us → ∀ f : Str, RelO ((fs.zip vs).lookup f) ((fs.zip us).lookup f)
  | _, _, [], _, f => trivial
  | _, _, _ :: _, .nil, f => trivial
  | _, _, g :: fs, .cons r t, f => by
    rw [List.zip_cons_cons, List.zip_cons_cons, List.lookup_cons, List.lookup_cons]
    cases h : f == g with
    | true => exact r
    | false => exact relO_pairs fs t f
theorem zip_rev {α β : Type} : ∀ (xs : List α) (ys : List β), xs.length = ys.length → (xs.zip ys).reverse = xs.reverse.zip ys.reverse := by
  intro xs
  induction xs with
  | nil => intro ys _; rfl
  | cons a r ih =>
    intro ys h
    match ys, h with
    | b :: t, h =>
      have h' : r.length = t.length := Nat.succ.inj h
      rw [List.zip_cons_cons, List.reverse_cons, List.reverse_cons, List.reverse_cons, List.zip_append (by rw [List.length_reverse, List.length_reverse, h']), ih t h']
      rfl
section
variable {X : Cx} {x : Str} {C fI : Addr} {fd : FuncData} {B newId initId : String} {bmB : List Value} {st : Stmt} {qual : Str} {fs : List Str}
/-- E(a, ..): a new error; its fields lie in its dict -/
def tMkE (C : Addr) (fs : List Str) (ta : TA) : L2.St → Hp → XK → Prop := fun σ H Q => ta σ H fun vs H1 => fs.length = vs.length ∧
  (fs = [] → Q (.ref C) none H1) ∧ (fs ≠ [] → ∀ d, H1 d = none → Q (.ref C) (some d) (upd H1 d (.xd (fs.zip vs).reverse)))
theorem mk_err {pins : List (Addr × Obj)} {σ : L2.St} {H : Hp} {Q : XK} {s : Shared} {k : Nat} {vs : List V} {us : List Value} (T : ErrT X.K X.mg X.prog x C fI fd B newId initId bmB st qual) (IX : IniX st fs) (hfs : fs.length ≤ 50)
    (hno : ∀ f ∈ fs, PySem.W.findIn X.K (.ref C) f = some none) (hr : Room k X.A) (I : Inv X pins σ H s) (r : Vals vs us) (hl : fs.length = vs.length)
    (q0 : fs = [] → Q (.ref C) none H) (q1 : fs ≠ [] → ∀ d, H d = none → Q (.ref C) (some d) (upd H d (.xd (fs.zip vs).reverse))) :
    wpAny (model X.prog X.w) X.A (call (.ref C) us) (MkP X pins σ Q) X.xe s := by
  have hlim := I.nolimit
  obtain ⟨mb, hb1, hb2⟩ := I.ok.mod.blt
  have G : s.heap.Ns mainGlobals X.mg := by
    obtain ⟨o, es, ep, e1, r1⟩ := I.ok.mod.glob
    exact ⟨o, es, ep, I.bk _ _ e1, r1⟩
  have Bn : s.heap.Ns builtinsNs mb := by
    obtain ⟨o, es, ep, e1, r1⟩ := hb1
    exact ⟨o, es, ep, I.bk _ _ e1, r1⟩
  have hmb : mb "super" = some (.type "super") := (hb2 "super" (by decide)).trans (by decide +kernel)
  have hlu : fs.length = us.length := hl.trans r.length
  obtain ⟨hp, g, dr, tk, os⟩ := s
  refine wpAny_call (exc_made T IX hfs hno I.kIn G Bn hmb hlim (by have := hr.dp; omega) hlu (fun h' tk' e d M => ?_))
  show MkP X pins σ Q (.ref e) ⟨h', g, dr, tk', os⟩
  obtain ⟨t, hoe⟩ := M.obj
  obtain ⟨G', g1, g2⟩ := restrict h' (fun b => decide (b ≠ e))
  have gk : ∀ b, b ≠ e → G'.get? b = h'.get? b := fun b hb => g1 b (decide_eq_true hb)
  have ge : G'.get? e = none := g2 e (by simp)
  have old : ∀ b o, hp.get? b = some o → G'.get? b = some o := by
    intro b o z
    rw [gk b (Nat.ne_of_lt (Nat.lt_of_lt_of_le (Heap.lt_size z) M.new))]
    exact M.keep b o z
  have back : ∀ b o, G'.get? b = some o → h'.get? b = some o := by
    intro b o z
    by_cases hb : b = e
    · rw [hb, ge] at z
      cases z
    · rw [← gk b hb]
      exact z
  have na : H e = none := I.hok.fresh M.new
  rcases M.dct with ⟨rfl, hmp⟩ | ⟨dx, rfl, hd1, hd2, hnn, hns⟩
  · have hf0 : fs = [] := by
      cases fs with
      | nil => rfl
      | cons f r0 =>
        have hl2 := congrArg List.length hmp
        rw [List.length_reverse, List.length_zip, ← hlu] at hl2
        simp at hl2
    exact ⟨e, _, _, ⟨G', g, dr, tk', os⟩, H, .ref C, none, rfl, I.kept (t' := tk') old, back, ge, hoe, ⟨rfl, rfl⟩, rfl, rfl, na, rfl, I.bare, raises_own T.ex T.ty, q0 hf0⟩
  · have hf1 : fs ≠ [] ∨ fs = [] := by
      cases fs with
      | nil => exact .inr rfl
      | cons f r0 => exact .inl (fun z => nomatch z)
    have ob : ObjOk X.prog X.w (upd H dx (.xd (fs.zip vs).reverse)) G' dx (.xd (fs.zip vs).reverse) := by
      refine ⟨_, hns.at (fun o z => (gk dx hd2).trans z), fun f => ?_⟩
      rw [zip_rev fs vs hl, zip_rev fs us hlu]
      exact relO_pairs fs.reverse (Vals.reverse r) f
    have J : Inv X pins σ (upd H dx (.xd (fs.zip vs).reverse)) ⟨G', g, dr, tk', os⟩ := I.laid (t' := tk') old hd1 ob
    rcases hf1 with hf1 | hf1
    · refine ⟨e, _, _, ⟨G', g, dr, tk', os⟩, _, .ref C, some dx, rfl, J, back, ge, hoe, ⟨rfl, rfl⟩, rfl, rfl, ?_, rfl, I.bare, raises_own T.ex T.ty, q1 hf1 dx (I.hok.fresh hd1)⟩
      rw [upd_ne hd2.symm]
      exact na
    · refine absurd ?_ hnn
      rw [hf1]
      rfl

theorem pmk_err {es : List Expr} {ta : TA} {e : Expr} {p pos : Pos} {k : Nat} (T : ErrT X.K X.mg X.prog x C fI fd B newId initId bmB st qual) (IX : IniX st fs) (hfs : fs.length ≤ 50)
    (hno : ∀ f ∈ fs, PySem.W.findIn X.K (.ref C) f = some none) (hr : Room k X.A) (hg : Gl X x) (ha : PA X (e :: es) ta) (hdb : (x == ("__debug__" : Str)) = false := by decide)
    (he : starEach (e :: es) X.env = (false, eval e X.env) :: starEach es X.env := by rfl) (hpl : (backTo pos (starEach es X.env)).any (·.1) = false := by rfl) :
    PMk X (.Call (.Name x p) (e :: es) [] pos) (tMkE C fs ta) := by
  intro pins s σ H Q I h
  refine wpAny_Call_Name_kw (ld_glob I hg T.gC ?_ hdb)
  refine PySem.W.callWith_K (h₀ := X.base) I.ok.mod.kin T.kC (thn (ha.run pos pins s σ H _ I h) ?_) he hpl
  rintro us s1 ⟨vs, H1, I1, r1, hl, q0, q1⟩
  exact ⟨I1.kIn, mk_err T IX hfs hno hr I1 r1 hl q0 q1⟩
/-- raise E(a, ..) -/
def tRaiseE (C : Addr) (fs : List Str) (W : WX) (ta : TA) : TS := fun _ σ H => tMkE C fs ta σ H fun cls d H' => W cls d σ H'
theorem ps_raiseE {es : List Expr} {ta : TA} {e : Expr} {W : WX} {p pos pos2 : Pos} {k : Nat} (hc : X.calm = true) (T : ErrT X.K X.mg X.prog x C fI fd B newId initId bmB st qual) (IX : IniX st fs) (hfs : fs.length ≤ 50)
    (hno : ∀ f ∈ fs, PySem.W.findIn X.K (.ref C) f = some none) (hr : Room k X.A) (tk : Takes X W) (hg : Gl X x) (ha : PA X (e :: es) ta) (hdb : (x == ("__debug__" : Str)) = false := by decide)
    (he : starEach (e :: es) X.env = (false, eval e X.env) :: starEach es X.env := by rfl) (hpl : (backTo pos (starEach es X.env)).any (·.1) = false := by rfl) :
    PS X (.Raise (some (.Call (.Name x p) (e :: es) [] pos)) none pos2) (tRaiseE C fs W ta) := ps_raise hc tk (pmk_err T IX hfs hno hr hg ha hdb he hpl)
end
end Tar

/-! Own errors, all facts in one; isinstance of a caught error. -/
namespace Tar
open PySem PySem.Spec PyProof.Rows L2
/-- the own error class x of the text stands at C; fs: its fields -/
structure Er (K : PySem.W.Frag) (mg : Str → Option Value) (P : Program) (x : Str) (fs : List Str) (C : Addr) : Prop where
  t : ∃ (fI : Addr) (fd : FuncData) (B newId initId : String) (bmB : List Value) (st : Stmt) (qual : Str), ErrT K mg P x C fI fd B newId initId bmB st qual ∧ IniX st fs
  no : ∀ f ∈ fs, PySem.W.findIn K (.ref C) f = some none
  le : fs.length ≤ 50
  cl : (PySem.W.clsIn K C).isSome = true
  xf : XfC K C
  xc : ExcC K C
theorem er_mk {K : PySem.W.Frag} {mg : Str → Option Value} {P : Program} {h : Heap} {x : Str} {fs : List Str} {C fI : Addr} {B newId initId : String} {bmB : List Value} {st : Stmt} {qual : Str}
    {oc kV doc pm ct cl ccl : Value} {od an cld cdd : Option Addr} {osl csl ccs : Array (Option Value)} {cda cc : Addr} {vs : Array Value} {file : Str} {tk : Tok} {cdD : ClassData}
    (X : K.In h) (G : h.Ns mainGlobals mg) (FB : ExcBaseFacts B newId initId bmB) (SF : StoreFacts B bmB "object.__setattr__" "object") (KF : PySem.W.KxsFacts B initId) (IX : IniX st fs) (le : fs.length ≤ 50)
    (tp : (P.main.scope.names.lookup ("super" : Str)).isSome = false) (pf : ((P.main.file : Str) == file) = true)
    (gC : PySem.W.nsIn K mainGlobals x = some (some (.ref C))) (kC : PySem.W.keepIn K (.ref C) = true)
    (fi : PySem.W.findIn K (.ref C) "__init__" = some (some (.ref fI)))
    (lf : K.lookup fI = some ⟨oc, od, .func (PySem.W.ksFn "__init__" qual (defArgs st) (defBody st) (defScope st) .none kV doc pm an (.ref cda) ct cc), osl⟩)
    (cI : PySem.W.codeIn K (.ref cda) qual = true) (lcc : K.lookup cc = some ⟨cl, cld, .cell (some (.ref C)), csl⟩) (lcd : K.lookup cda = some ⟨ccl, cdd, .fields vs, ccs⟩) (vf : vs[2]? = some (.str file tk)) (cD : PySem.W.clsIn K C = some cdD)
    (ini : PySem.W.excInitIn K C bmB newId = true) (ovr : PySem.W.excOver K C bmB = true) (hd : PySem.W.hasDictIn K C = true) (tf : PySem.W.typeIn K (.ref fI) = some (.type "function"))
    (sa : PySem.W.findIn K (.ref C) "__setattr__" = some (some (.builtin "object.__setattr__"))) (ga : PySem.W.findIn K (.ref C) "__getattribute__" = some (some (.builtin "BaseException.__getattribute__")))
    (gg : PySem.W.findIn K (.ref C) "__getattr__" = some none) (mr : PySem.W.mroIn K C (.ref C) = some true) (op : PySem.W.nsIn K cStatics "thirdparty.any" = some none)
    (su : PySem.W.ks_superIn K C C "__init__" = some (some (.builtin initId))) (sb : PySem.W.subIn K (.ref C) (.type B) = some true) (ex : PySem.W.subIn K (.ref C) (.type "BaseException") = some true)
    (ty : PySem.W.typeIn K (.ref C) = some (.type "type")) (ns : PySem.W.nsIn K mainGlobals "super" = some none)
    (ha : PySem.W.findIn K (.ref C) "__class__" = some (some (.builtin "object.__class__")))
    (hn : PySem.W.specialIn K (.builtin "object.__class__") "__get__" = some (some (.builtin "getset_descriptor.__get__")))
    (ht : PySem.W.takesIn K (.builtin "object.__class__") = some true) (hm : PySem.W.mroIn K C (.type "object") = some true)
    (no : ∀ f ∈ fs, PySem.W.findIn K (.ref C) f = some none) : Er K mg P x fs C :=
  ⟨⟨fI, _, B, newId, initId, bmB, st, qual, ⟨PySem.W.mg_of X G gC, kC, FB, SF, KF, ini, ovr, hd, fi, tf, sa, ga, gg, mr, op, su, sb, ex, ty, PySem.W.mg_none_of X G ns, tp,
    ⟨⟨oc, od, kV, doc, pm, an, cda, ct, cc, osl, cl, cld, csl, ccl, cdd, vs, ccs, file, tk, cdD, rfl, lf, cI, lcc, lcd, vf, pf, cD⟩⟩⟩, IX⟩, no, le, by rw [cD]; rfl, ⟨ga, gg, ex, hd⟩, ⟨ga, gg, ex, hd, ha, hn, ht, hm⟩⟩
section
variable {X : Cx} {x : Str} {C : Addr} {fs : List Str}
theorem ps_raiseR {es : List Expr} {ta : TA} {e : Expr} {W : WX} {p pos pos2 : Pos} {k : Nat} (hc : X.calm = true) (T : Er X.K X.mg X.prog x fs C) (hr : Room k X.A) (tk : Takes X W) (hg : Gl X x) (ha : PA X (e :: es) ta) (hdb : (x == ("__debug__" : Str)) = false := by decide)
    (he : starEach (e :: es) X.env = (false, eval e X.env) :: starEach es X.env := by rfl) (hpl : (backTo pos (starEach es X.env)).any (·.1) = false := by rfl) :
    PS X (.Raise (some (.Call (.Name x p) (e :: es) [] pos)) none pos2) (tRaiseE C fs W ta) := by
  obtain ⟨fI, fd, B, n, i, bm, st, qual, E, IX⟩ := T.t
  exact ps_raiseE hc E IX T.le T.no hr tk hg ha hdb he hpl
/-- isinstance(e, c), isinstance(e, (c1, ..)): e the caught error, of the own class D -/
def rIsX (K : PySem.W.Frag) (D a : Addr) (cls : Value) (d : Option Addr) : List V → Hp → VK → Prop := fun xs H Q => cls = .ref D ∧ (∀ dd, d = some dd → ∃ fs, H dd = some (.xd fs)) ∧ ∃ (c : V) (b : Bool), xs = [.ref a, c] ∧
  ((∃ u, ClsV c u ∧ PySem.W.kitOne K (.ref D) u = some b) ∨ ∃ tp cs us, c = .ref tp ∧ SqT K H tp cs ∧ Paired ClsV cs us ∧ PySem.W.kitAny K (.ref D) us = some b) ∧ Q (.bl b) H
theorem call_isX {a D : Addr} {oe : Obj} {cls : Value} {d : Option Addr} {pn : List (Addr × Obj)} (hcl : (PySem.W.clsIn X.K D).isSome = true) (T : ExcC X.K D) (hz : Zc cls d oe) (hf : ∃ vs, oe.data = .fields vs) :
    CallR (X.suite a ((a, oe) :: pn)) (.builtin "isinstance") (rIsX X.K D a cls d) := by
  intro pins s σ H xs us Q I r h
  obtain ⟨rfl, hdd, c, b, rfl, hc, q⟩ := h
  obtain ⟨u1, u2, rfl, r1, r2⟩ := vals2 r
  obtain rfl : u1 = Value.ref a := r1
  obtain ⟨hget, _⟩ := I.pin (a, oe) (List.mem_append.mpr (.inl List.mem_cons_self))
  obtain ⟨vs, hv⟩ := hf
  obtain ⟨od, J⟩ : ∃ od, PySem.W.InstAt s.heap a oe D od := by
    cases d with
    | none => exact ⟨none, hget, hz.1, by unfold PySem.W.notCls; rw [hv] <;> rfl, by rw [hz.2]; trivial⟩
    | some dd =>
      obtain ⟨gs, ea⟩ := hdd dd rfl
      have hx : ObjOk X.prog X.w H s.heap dd (.xd gs) := I.hok dd _ ea
      obtain ⟨mA, hns, hr⟩ := hx
      obtain ⟨od, ho, hl⟩ := lookIn_ns hns
      exact ⟨some od, hget, hz.1, by unfold PySem.W.notCls; rw [hv] <;> rfl, by rw [hz.2]; exact ho⟩
  have Z : PySem.W.KitX X.K (.ref a) (.ref D) (fun h => PySem.W.InstAt h a oe D od) := PySem.W.kitx_exc hcl T.hg T.hk T.hs T.ha T.hn T.ht T.hm
  rcases hc with ⟨u, k, e⟩ | ⟨tp, cs, us, rfl, hT, k, e⟩
  · obtain rfl := k.eq r2
    exact PySem.W.kia_one Z I.kIn J e (fun z => nomatch z) fun tk => ⟨.bl b, H, I.tok tk, rfl, q⟩
  · obtain rfl : u2 = Value.ref tp := r2
    obtain ⟨its, rv, ⟨o, h1, h2, n, h3⟩, _⟩ := I.tuple hT
    have e3 := ClsV.all k rv
    subst e3
    obtain ⟨oc, od, dt, sl⟩ := o
    simp only at h2 h3
    subst h2 h3
    exact PySem.W.kia_tup Z I.kIn J h1 e (fun z => nomatch z) fun tk => ⟨.bl b, H, I.tok tk, rfl, q⟩
end
end Tar

/-! Headers, by their numbers. -/
namespace Tar
open PySem PySem.Spec PyProof.Rows L2
/-! ### octal signs -/
theorem dig_ne {d : Nat} (h : d < 8) : Char.toNat (Nat.digitChar d) = 48 + d := by
  match d, h with
  | 0, _ => rfl
  | 1, _ => rfl
  | 2, _ => rfl
  | 3, _ => rfl
  | 4, _ => rfl
  | 5, _ => rfl
  | 6, _ => rfl
  | 7, _ => rfl
/-- the last k octal digits of n, the first of them first -/
def octD : Nat → Nat → List Nat
  | 0, _ => []
  | k + 1, n => octD k (n / 8) ++ [48 + n % 8]
theorem octD_len : ∀ k n, (octD k n).length = k
  | 0, _ => rfl
  | k + 1, n => by rw [octD, List.length_append, octD_len k]; rfl
theorem octD_in : ∀ k n, ∀ c ∈ octD k n, 48 ≤ c ∧ c < 56
  | 0, _ => fun _ h => nomatch h
  | k + 1, n => fun c h => by
    rw [octD, List.mem_append] at h
    rcases h with h | h
    · exact octD_in k _ c h
    · rw [List.mem_singleton.mp h]
      omega
theorem octD_zero : ∀ k, octD k 0 = List.replicate k 48
  | 0 => rfl
  | k + 1 => by
    rw [octD, List.replicate_succ', show (0 : Nat) / 8 = 0 from rfl, octD_zero k]
theorem core8 : ∀ (fuel n : Nat) (ds : List Char), n < fuel → ∃ k, 0 < k ∧ n < 8 ^ k ∧ (k = 1 ∨ 8 ^ (k - 1) ≤ n) ∧ (Nat.toDigitsCore 8 fuel n ds).map Char.toNat = octD k n ++ ds.map Char.toNat
  | 0, n, ds, h => absurd h (Nat.not_lt_zero _)
  | fuel + 1, n, ds, h => by
    unfold Nat.toDigitsCore
    by_cases h0 : n / 8 = 0
    · rw [if_pos h0]
      refine ⟨1, by decide, by omega, .inl rfl, ?_⟩
      rw [List.map_cons, dig_ne (Nat.mod_lt _ (by decide))]
      rfl
    · rw [if_neg h0]
      have hlt : n / 8 < fuel := by omega
      obtain ⟨k, k0, k1, k2, e⟩ := core8 fuel (n / 8) (Nat.digitChar (n % 8) :: ds) hlt
      refine ⟨k + 1, by omega, ?_, .inr ?_, ?_⟩
      · rw [Nat.pow_succ]
        omega
      · show 8 ^ k ≤ n
        rcases k2 with rfl | k2
        · show 8 ≤ n
          omega
        · obtain ⟨m, rfl⟩ : ∃ m, k = m + 1 := ⟨k - 1, by omega⟩
          rw [Nat.pow_succ]
          rw [Nat.add_sub_cancel] at k2
          omega
      · rw [e, octD, List.map_cons, dig_ne (Nat.mod_lt _ (by decide)), List.append_assoc]
        rfl
theorem octL_is (n : Nat) : ∃ k, 0 < k ∧ n < 8 ^ k ∧ (k = 1 ∨ 8 ^ (k - 1) ≤ n) ∧ octL n = octD k n := by
  obtain ⟨k, k0, k1, k2, e⟩ := core8 (n + 1) n [] (Nat.lt_succ_self n)
  refine ⟨k, k0, k1, k2, ?_⟩
  have e2 : octL n = (Nat.toDigitsCore 8 (n + 1) n []).map Char.toNat := rfl
  rw [e2, e, List.map_nil, List.append_nil]
/-- more places than needed: zeros in front -/
theorem octD_more : ∀ (j k n : Nat), n < 8 ^ k → octD (j + k) n = List.replicate j 48 ++ octD k n
  | j, 0, n, h => by
    obtain rfl : n = 0 := by simpa using h
    rw [Nat.add_zero, octD_zero, octD, List.append_nil]
  | j, k + 1, n, h => by
    rw [← Nat.add_assoc, octD, octD, octD_more j k (n / 8) (by rw [Nat.pow_succ] at h; omega), List.append_assoc]
theorem octL_fill {w n : Nat} (hw : 0 < w) (h : n < 8 ^ w) : (octL n).length ≤ w ∧ List.replicate (w - (octL n).length) 48 ++ octL n = octD w n := by
  obtain ⟨k, k0, k1, k2, e⟩ := octL_is n
  have hk : k ≤ w := by
    rcases k2 with rfl | k2
    · exact hw
    · have h3 : 8 ^ (k - 1) < 8 ^ w := Nat.lt_of_le_of_lt k2 h
      have := (Nat.pow_lt_pow_iff_right (by decide : 1 < 8)).mp h3
      omega
  rw [e, octD_len]
  refine ⟨hk, ?_⟩
  have := octD_more (w - k) k n k1
  rw [Nat.sub_add_cancel hk] at this
  exact this.symm
/-- a number's field: w - 1 digits and a zero -/
def octF (w n : Nat) : List Nat := octD w n ++ [0]
theorem zfill_oct {w n : Nat} (hw : 0 < w) (h : n < 8 ^ w) : PySem.Txt.zfill (octS n) (w : Int) = SX.S (octD w n) := by
  obtain ⟨h1, h2⟩ := octL_fill hw h
  have hl : (octS n).length = (octL n).length := SX.S_len _
  unfold PySem.Txt.zfill
  by_cases e : (w : Int) ≤ ((octS n).length : Nat)
  · rw [if_pos e]
    rw [hl] at e
    have : w - (octL n).length = 0 := by omega
    rw [this] at h2
    rw [← h2]
    rfl
  · rw [if_neg e, hl]
    unfold PySem.zfilled
    have hd : ∀ c, (octS n).cps[0]? = some c → 48 ≤ c ∧ c < 56 := by
      intro c hc
      obtain ⟨k, _, _, _, e3⟩ := octL_is n
      have : c ∈ octL n := by
        have h3 : (octL n).toArray[0]? = some c := hc
        rw [List.getElem?_toArray] at h3
        exact List.mem_of_getElem? h3
      rw [e3] at this
      exact octD_in _ _ _ this
    have key : PySem.Builtin.Str.padded (octS n) ((w : Int).toNat - (octL n).length) 0 48 = SX.S (octD w n) := by
      rw [Int.toNat_natCast]
      rw [← h2]
      unfold PySem.Builtin.Str.padded
      simp [octS, SX.S]
    split
    · rename_i hc
      have := hd _ hc
      omega
    · rename_i hc
      have := hd _ hc
      omega
    · exact key
/-! ### fields and headers -/
abbrev Asc (l : List Nat) : Prop := ∀ n ∈ l, n < 128
/-- a text's field: cut, filled with zeros -/
def fldL (w : Nat) (l : List Nat) : List Nat := cutN (cutN l none (some (w : Int)) ++ List.replicate w 0) none (some (w : Int))
theorem cutN_to {α : Type} (l : List α) (w : Nat) : cutN l none (some (w : Int)) = l.take w := rfl
theorem fldL_len (w : Nat) (l : List Nat) : (fldL w l).length = w := by
  unfold fldL
  rw [cutN_to, cutN_to, List.length_take, List.length_append, List.length_replicate]
  omega
theorem fldL_asc {w : Nat} {l : List Nat} (h : Asc l) : Asc (fldL w l) := by
  intro n hn
  unfold fldL at hn
  rcases List.mem_append.mp (cutN_mem hn) with h1 | h1
  · exact h n (cutN_mem h1)
  · rw [(List.mem_replicate.mp h1).2]
    decide
theorem octF_len (w n : Nat) : (octF w n).length = w + 1 := by
  unfold octF
  rw [List.length_append, octD_len]
  rfl
theorem octF_asc (w n : Nat) : Asc (octF w n) := by
  intro c hc
  rcases List.mem_append.mp hc with h1 | h1
  · have := octD_in w n c h1
    omega
  · rw [List.mem_singleton.mp h1]
    decide
/-- the checksum of a block -/
def chkN (l : List Nat) : Nat := l.sum - (cutN l (some 148) (some 156)).sum + 256
theorem sum_sub {α : List Nat} {l : List Nat} (h : α.Sublist l) : α.sum ≤ l.sum := by
  induction h with
  | slnil => exact Nat.le_refl _
  | cons a _ ih => rw [List.sum_cons]; omega
  | cons_cons a _ ih => rw [List.sum_cons, List.sum_cons]; omega
theorem cut_sum (l : List Nat) (lo hi : Option Int) : (cutN l lo hi).sum ≤ l.sum := sum_sub ((List.drop_sublist _ _).trans (List.take_sublist _ _))
def magicL : List Nat := [117, 115, 116, 97, 114] ++ List.replicate 1 0 ++ [48, 48]
def hdrF (nm : List Nat) (mode size time : Nat) : List Nat := fldL 100 nm ++ octF 7 mode ++ octF 7 0 ++ octF 7 0 ++ octF 11 size ++ octF 11 time
def hdrB (k tg : List Nat) : List Nat := k ++ fldL 100 tg ++ magicL ++ List.replicate 247 0
def hdr (k nm : List Nat) (mode size time : Nat) (tg : List Nat) : List Nat :=
  hdrF nm mode size time ++ (octF 6 (chkN (hdrF nm mode size time ++ List.replicate 8 0 ++ hdrB k tg)) ++ [32]) ++ hdrB k tg
theorem hdrF_len (nm : List Nat) (mode size time : Nat) : (hdrF nm mode size time).length = 148 := by
  unfold hdrF
  simp only [List.length_append, fldL_len, octF_len]
theorem hdrB_len {k tg : List Nat} (hk : k.length = 1) : (hdrB k tg).length = 356 := by
  unfold hdrB magicL
  simp only [List.length_append, fldL_len, List.length_replicate, hk, List.length_cons, List.length_nil]
theorem asc_app {a b : List Nat} (ha : Asc a) (hb : Asc b) : Asc (a ++ b) := by
  intro n hn
  rcases List.mem_append.mp hn with h | h
  · exact ha n h
  · exact hb n h
theorem asc_zeros (n : Nat) : Asc (List.replicate n 0) := by
  intro c hc
  rw [(List.mem_replicate.mp hc).2]
  decide
theorem magic_asc : Asc magicL := by
  unfold Asc magicL
  decide
theorem hdrF_asc {nm : List Nat} (mode size time : Nat) (h : Asc nm) : Asc (hdrF nm mode size time) := by
  unfold hdrF
  exact asc_app (asc_app (asc_app (asc_app (asc_app (fldL_asc h) (octF_asc _ _)) (octF_asc _ _)) (octF_asc _ _)) (octF_asc _ _)) (octF_asc _ _)
theorem hdrB_asc {k tg : List Nat} (hk : Asc k) (ht : Asc tg) : Asc (hdrB k tg) := by
  unfold hdrB
  exact asc_app (asc_app (asc_app hk (fldL_asc ht)) magic_asc) (asc_zeros _)
theorem Asc.lt {l : List Nat} (h : Asc l) : Lt256 l := fun n hn => Nat.lt_trans (h n hn) (by decide)
theorem chk_front {f b : List Nat} (hf : f.length = 148) : chkN (f ++ List.replicate 8 0 ++ b) = f.sum + b.sum + 256 := by
  unfold chkN cutN
  show (f ++ List.replicate 8 0 ++ b).sum - (((f ++ List.replicate 8 0 ++ b).take 156).drop 148).sum + 256 = _
  have e1 : (f ++ List.replicate 8 0 ++ b).take 156 = f ++ List.replicate 8 0 := by
    rw [List.take_append_of_le_length (by simp [hf])]
    exact List.take_of_length_le (by simp [hf])
  have e2 : (f ++ List.replicate 8 0).drop 148 = List.replicate 8 0 := by
    rw [List.drop_append_of_le_length (by omega), List.drop_eq_nil_of_le (by omega), List.nil_append]
  rw [e1, e2]
  simp
theorem hdr_len {k nm tg : List Nat} {mode size time : Nat} (hk : k.length = 1) : (hdr k nm mode size time tg).length = 512 := by
  unfold hdr
  rw [List.length_append, List.length_append, List.length_append, hdrF_len, hdrB_len hk, octF_len]
  rfl
theorem hdr_asc {k nm tg : List Nat} {mode size time : Nat} (hk : Asc k) (hn : Asc nm) (ht : Asc tg) : Asc (hdr k nm mode size time tg) := by
  unfold hdr
  exact asc_app (asc_app (hdrF_asc _ _ _ hn) (asc_app (octF_asc _ _) (by unfold Asc; decide))) (hdrB_asc hk ht)
/-! ### the promises of the package's functions -/
def spTextField : Sp := fun vs H Q _ => ∃ (l : List Nat) (w : Nat), vs = [.str (SX.S l), .int (w : Int)] ∧ Asc l ∧ l.length ≤ 100000 ∧ w ≤ 100000 ∧ Q (.byt (B (fldL w l))) H
def spOctField : Sp := fun vs H Q _ => ∃ n w : Nat, vs = [.int (n : Int), .int ((w : Int) + 1)] ∧ 0 < w ∧ w ≤ 1000 ∧ n < 8 ^ w ∧ Q (.byt (B (octF w n))) H
def spSumOf : Sp := fun vs H Q _ => ∃ l : List Nat, vs = [.byt (B l)] ∧ Lt256 l ∧ l.length ≤ 100000 ∧ Q (.int ((chkN l : Nat) : Int)) H
def spChecksum : Sp := fun vs H Q _ => ∃ l : List Nat, vs = [.byt (B l)] ∧ Lt256 l ∧ l.length = 512 ∧ Q (.int ((chkN l : Nat) : Int)) H
def spCsField : Sp := fun vs H Q _ => ∃ l : List Nat, vs = [.byt (B l)] ∧ Lt256 l ∧ l.length = 512 ∧ Q (.byt (B (octF 6 (chkN l) ++ [32]))) H
def spMagic : Sp := fun vs H Q _ => vs = [] ∧ Q (.byt (B magicL)) H
def spHeader : Sp := fun vs H Q _ => ∃ (k nm tg : List Nat) (mode size time : Nat), vs = [.str (SX.S k), .str (SX.S nm), .int (mode : Int), .int (size : Int), .int (time : Int), .str (SX.S tg)] ∧
  k.length = 1 ∧ Asc k ∧ Asc nm ∧ Asc tg ∧ nm.length ≤ 1000 ∧ tg.length ≤ 1000 ∧ mode < 8 ^ 7 ∧ size < 8 ^ 11 ∧ time < 8 ^ 11 ∧ Q (.byt (B (hdr k nm mode size time tg))) H
theorem chk_small {l : List Nat} (h : Lt256 l) (hl : l.length = 512) : chkN l < 8 ^ 6 := by
  have := sum_le h
  rw [hl] at this
  unfold chkN
  omega
theorem PadOk_nat {w : Nat} (h : w ≤ 1000) : PadOk (w : Int) = true := by
  unfold PadOk fitsSsize
  rw [Bool.and_eq_true]
  constructor
  · simp
    omega
  · unfold PySem.Builtin.Str.tooLong
    simp
    rw [sizeLine_eq]
    omega
end Tar

/-! Lists of numbers. -/
namespace Tar
open PySem PySem.Spec PyProof.Rows L2
theorem nV_eq (l : List Nat) : nV l = (l.map Int.ofNat).map V.int := by
  rw [List.map_map]
  rfl
theorem sum_ofNat (l : List Nat) : (l.map Int.ofNat).sum = ((l.sum : Nat) : Int) := by
  induction l with
  | nil => rfl
  | cons a l ih =>
    rw [List.map_cons, List.sum_cons, List.sum_cons, ih]
    show (a : Int) + _ = _
    omega
theorem nV_app (a b : List Nat) : nV a ++ nV b = nV (a ++ b) := (List.map_append ..).symm
theorem nV_len (l : List Nat) : (nV l).length = l.length := List.length_map ..
theorem flat1 {α : Type} (k : Nat) (x : α) : (List.replicate k [x]).flatten = List.replicate k x := by
  induction k with
  | zero => rfl
  | succ k ih => rw [List.replicate_succ, List.flatten_cons, ih, List.replicate_succ]; rfl
section
variable {X : Cx}
/-- sum of a list of numbers -/
def rSumN (K : PySem.W.Frag) : List V → Hp → VK → Prop := fun vs H Q => ∃ (a : Addr) (l : List Nat), vs = [.ref a] ∧ SqL K H a (nV l) ∧ Q (.int ((l.sum : Nat) : Int)) H
theorem call_sumN (hc : X.calm = true) : CallR X (.builtin "sum") (rSumN X.K) := by
  intro pins s σ H xs us Q I r h
  obtain ⟨a, l, rfl, hs, q⟩ := h
  refine cr_sum hc pins s σ H _ us Q I r ⟨a, l.map Int.ofNat, rfl, ?_, ?_⟩
  · rw [← nV_eq]
    exact hs
  · rw [sum_ofNat]
    exact q
/-- [n] * k -/
def rRep1 : R2 := fun x y H Q => ∃ (l : Addr) (k n : Nat), x = .ref l ∧ y = .int (k : Int) ∧ H l = some (.lst [.int (n : Int)]) ∧ k ≤ 16777216 ∧ ∀ p, H p = none → Q (.ref p) (upd H p (.lst (nV (List.replicate k n))))
theorem op_rep1 : OpR X (binaryOp .Mult) rRep1 := by
  intro pins s σ H x y v u Q I rx ry h
  obtain ⟨l, k, n, rfl, rfl, hl, hk, q⟩ := h
  refine op_rep pins s σ H _ _ v u Q I rx ry ⟨l, k, [.int (n : Int)], rfl, rfl, hl, by omega, by omega, ?_, fun p hp => ?_⟩
  · rw [Int.toNat_natCast, sizeLine_eq]
    show 1 * k ≤ _
    omega
  · have e : (List.replicate (k : Int).toNat [V.int (n : Int)]).flatten = nV (List.replicate k n) := by
      rw [Int.toNat_natCast, flat1, nV, List.map_replicate]
    rw [e]
    exact q p hp
/-- a + b of lists of numbers -/
def rCatN : R2 := fun x y H Q => ∃ (p q : Addr) (a b : List Nat), x = .ref p ∧ y = .ref q ∧ H p = some (.lst (nV a)) ∧ H q = some (.lst (nV b)) ∧ a.length + b.length ≤ 16777216 ∧ ∀ r, H r = none → Q (.ref r) (upd H r (.lst (nV (a ++ b))))
theorem op_catN : OpR X (binaryOp .Add) rCatN := by
  intro pins s σ H x y v u Q I rx ry h
  obtain ⟨p, q, a, b, rfl, rfl, ha, hb, hz, h⟩ := h
  refine op_cat pins s σ H _ _ v u Q I rx ry ⟨p, q, _, _, rfl, rfl, ha, hb, by rw [nV_len, nV_len, sizeLine_eq]; exact hz, fun r hr => ?_⟩
  rw [nV_app]
  exact h r hr
/-- a slice of a list of numbers -/
def rSlNv : V → Option Int → Option Int → Hp → VK → Prop := fun x lo hi H Q => ∃ (a : Addr) (l : List Nat), x = .ref a ∧ H a = some (.lst (nV l)) ∧ NN lo ∧ NN hi ∧ ∀ p, H p = none → Q (.ref p) (upd H p (.lst (nV (cutN l lo hi))))
theorem sl_Nv : SlR X rSlNv := by
  intro pins s σ H x v vl vu lo hi sl Q I rx hs pl pu q
  obtain ⟨a, l, rfl, hx, h1, h2, q⟩ := q
  refine sl_V pins s σ H _ v vl vu lo hi sl Q I rx hs pl pu ⟨a, _, rfl, SqL.of hx, h1, h2, fun p hp => ?_⟩
  rw [← cutN_map]
  exact q p hp
/-- list(b) -/
def rLstB : List V → Hp → VK → Prop := fun xs H Q => ∃ l : List Nat, xs = [.byt (B l)] ∧ Lt256 l ∧ l.length ≤ 16777216 ∧ ∀ p, H p = none → Q (.ref p) (upd H p (.lst (nV l)))
theorem call_lstB (hc : X.calm = true) : CallR X (.type "list") rLstB := by
  intro pins s σ H xs us Q I r h
  obtain ⟨l, rfl, hl, hn, q⟩ := h
  refine call_r1 (rl_listB hc) pins s σ H _ us Q I r ⟨B l, rfl, by rw [B_size, sizeLine_eq]; exact hn, fun p hp => ?_⟩
  rw [show bi (B l) = l.map Int.ofNat from B_ints hl, ← nV_eq]
  exact q p hp
end
/-! ### octal digits, as the law makes them -/
theorem octD_front : ∀ (i n : Nat), octD (i + 1) n = (48 + n / 8 ^ i % 8) :: octD i n
  | 0, n => by
    show [] ++ [48 + n % 8] = _
    rw [Nat.pow_zero, Nat.div_one]
    rfl
  | i + 1, n => by
    have h := octD_front i (n / 8)
    rw [octD, h, Nat.div_div_eq_div_mul, show 8 * 8 ^ i = 8 ^ (i + 1) by rw [Nat.pow_succ, Nat.mul_comm]]
    rfl
/-! ### the promises of the law's own functions -/
/-- a new list of these numbers -/
def NewL (H : Hp) (Q : VK) (l : List Nat) : Prop := ∀ (p : Addr) (H' : Hp), H p = none → Same H H' → H' p = some (.lst (nV l)) → Q (.ref p) H'
def spCodes : Sp := fun vs H Q _ => ∃ l : List Nat, vs = [.str (SX.S l)] ∧ l.length ≤ 100000 ∧ NewL H Q l
def spOctal : Sp := fun vs H Q _ => ∃ n w : Nat, vs = [.int (n : Int), .int ((w : Int) + 1)] ∧ w ≤ 1000 ∧ NewL H Q (octF w n)
def spTotal (K : PySem.W.Frag) : Sp := fun vs H Q _ => ∃ (a : Addr) (l : List Nat), vs = [.ref a] ∧ H a = some (.lst (nV l)) ∧ ∀ H', Same H H' → Q (.int ((chkN l : Nat) : Int)) H'
def spHead (K : PySem.W.Frag) : Sp := fun vs H Q _ => ∃ (a : Addr) (k nm tg : List Nat) (mode size time : Nat), vs = [.str (SX.S k), .str (SX.S nm), .ref a, .str (SX.S tg)] ∧
  (SqL K H a (nV [mode, size, time]) ∨ SqT K H a (nV [mode, size, time])) ∧ k.length = 1 ∧ Asc k ∧ Asc nm ∧ Asc tg ∧ nm.length ≤ 1000 ∧ tg.length ≤ 1000 ∧ NewL H Q (hdr k nm mode size time tg)
end Tar

set_option autoImplicit false
/-! Plain values D, and what they stand for in the abstract heap. -/
namespace Tar
open PySem PySem.Spec PyProof.Rows L2
/-! ### plain values -/
inductive Ky where
  | i (n : Int) | s (z : List Nat)
  deriving DecidableEq
/-- an error in hand: where it lies -/
structure XTok where
  a : Addr
  cls : Value
  d : Option Addr
inductive D where
  | non | bl (b : Bool) | int (i : Int) | str (z : List Nat) | byt (z : List Nat)
  | lst (xs : List D) | tup (xs : List D) | dic (kvs : List (Ky × D)) | ins (c : String) (fs : List (String × D))
  | ty (n : String) | own (c : String) | scr (ns : List Int) | exn (k : XTok) (c : String) (fs : List (String × D))
/-- a value in hand: a plain one, or a cell of the store -/
inductive Vl where
  | im (d : D) | rf (n : Nat)
/-- what may change -/
inductive Cell where
  | lst (xs : List D) | dic (kvs : List (Ky × D)) | ins (c : String) (fs : List (String × D)) | frz (d : D)
abbrev Sto := List Cell
/-- an own error -/
structure Exn where
  cls : String
  fs : List (String × D)
inductive R (α : Type) where
  | no | ok (a : α) (S : Sto) | ex (e : Exn) (S : Sto)
def R.bind {α β : Type} (r : R α) (f : α → Sto → R β) : R β := match r with
  | .no => .no
  | .ok a S => f a S
  | .ex e S => .ex e S
/-- the names of a def -/
abbrev Rho := List (Option Vl)
inductive RS where
  | no | nx (ρ : Rho) (S : Sto) | bk (ρ : Rho) (S : Sto) | ct (ρ : Rho) (S : Sto) | rt (v : Vl) (S : Sto) | ex (e : Exn) (ρ : Rho) (S : Sto)
def RS.bind (r : RS) (f : Rho → Sto → RS) : RS := match r with
  | .nx ρ S => f ρ S
  | r => r
/-- meanings -/
abbrev ME := Rho → Sto → R Vl
abbrev MT := Rho → Sto → R Bool
abbrev MA := Rho → Sto → R (List Vl)
abbrev MS := Rho → Sto → RS
abbrev MF := List Vl → Sto → R Vl
/-! ### what they stand for -/
def kyK : Ky → Key
  | .i n => .inl n
  | .s z => .inr (SX.S z)
/-- a world: the abstract heap, the cells' addresses, what plain values may not touch -/
structure Wd where
  H : Hp
  L : List Addr
  Bn : Addr → Prop
structure Mod0 where
  K : PySem.W.Frag
  mg : Str → Option Value
def KL (K : PySem.W.Frag) (a : Addr) (xs : List V) : Prop :=
  ∃ (o : Obj) (its : Array Value) (n : Nat), K.lookup a = some o ∧ o.cls = .type "list" ∧ o.dict = none ∧ o.data = .seq its n ∧ its.size ≤ sizeLine ∧ Vals xs its.toList
def KT (K : PySem.W.Frag) (a : Addr) (xs : List V) : Prop :=
  ∃ (o : Obj) (its : Array Value) (n : Nat), K.lookup a = some o ∧ o.cls = .type "tuple" ∧ o.data = .seq its n ∧ its.size ≤ sizeLine ∧ Vals xs its.toList
def Im (H : Hp) (Bn : Addr → Prop) (a : Addr) (u : HO) : Prop := Rd H a u ∧ ¬ Bn a
mutual
def Dn (M : Mod0) (H : Hp) (Bn : Addr → Prop) : D → V → Prop
  | .non, v => v = .non
  | .bl b, v => v = .bl b
  | .int i, v => v = .int i
  | .str z, v => v = .str (SX.S z)
  | .byt z, v => v = .byt (B z) ∧ Lt256 z
  | .lst xs, v => ∃ a vs, v = .ref a ∧ H a = some (.lst vs) ∧ ¬ Bn a ∧ Dns M H Bn xs vs
  | .tup xs, v => ∃ a vs, v = .ref a ∧ ((H a = some (.tup vs) ∧ ¬ Bn a) ∨ KT M.K a vs) ∧ Dns M H Bn xs vs
  | .dic kvs, v => ∃ a vs, v = .ref a ∧ H a = some (.dK vs) ∧ ¬ Bn a ∧ Dks M H Bn kvs vs
  | .ins c fs, v => ∃ a C dx vs, v = .ref a ∧ M.mg (Str.ofString c) = some (.ref C) ∧ H a = some (.ins C dx vs) ∧ ¬ Bn a ∧ Dfs M H Bn fs vs
  | .ty n, v => v = .ty n
  | .own c, v => ∃ C, v = .ref C ∧ M.mg (Str.ofString c) = some (.ref C)
  | .scr ns, v => ∃ a, v = .ref a ∧ ((∃ o, H a = some (.frz o (.lst (ns.map V.int))) ∧ ¬ Bn a) ∨ KL M.K a (ns.map V.int))
  | .exn k c fs, v => v = .ref k.a ∧ ∃ C, k.cls = .ref C ∧ M.mg (Str.ofString c) = some (.ref C) ∧ ((fs = [] ∧ k.d = none) ∨ ∃ d vs, k.d = some d ∧ H d = some (.xd vs) ∧ ¬ Bn d ∧ Dfs M H Bn fs vs)
def Dns (M : Mod0) (H : Hp) (Bn : Addr → Prop) : List D → List V → Prop
  | [], vs => vs = []
  | d :: ds, vs => ∃ v r, vs = v :: r ∧ Dn M H Bn d v ∧ Dns M H Bn ds r
def Dks (M : Mod0) (H : Hp) (Bn : Addr → Prop) : List (Ky × D) → List (Key × V) → Prop
  | [], vs => vs = []
  | (k, d) :: ds, vs => ∃ v r, vs = (kyK k, v) :: r ∧ Dn M H Bn d v ∧ Dks M H Bn ds r
def Dfs (M : Mod0) (H : Hp) (Bn : Addr → Prop) : List (String × D) → List (Str × V) → Prop
  | [], vs => vs = []
  | (f, d) :: ds, vs => ∃ v r, vs = (Str.ofString f, v) :: r ∧ Dn M H Bn d v ∧ Dfs M H Bn ds r
end
/-- what stands free stays -/
def Mo (H : Hp) (Bn : Addr → Prop) (H' : Hp) (Bn' : Addr → Prop) : Prop := ∀ a o, H a = some o → ¬ Bn a → H' a = some o ∧ ¬ Bn' a
theorem Mo.im {H H' : Hp} {Bn Bn' : Addr → Prop} (m : Mo H Bn H' Bn') {a : Addr} {u : HO} (h : Im H Bn a u) : Im H' Bn' a u := by
  obtain ⟨h | ⟨o, h⟩, n⟩ := h
  · exact ⟨.inl (m a _ h n).1, (m a _ h n).2⟩
  · exact ⟨.inr ⟨o, (m a _ h n).1⟩, (m a _ h n).2⟩
mutual
theorem Dn.mono {M : Mod0} {H H' : Hp} {Bn Bn' : Addr → Prop} (m : Mo H Bn H' Bn') : ∀ {d : D} {v : V}, Dn M H Bn d v → Dn M H' Bn' d v
  | .non, _, h => h
  | .bl _, _, h => h
  | .int _, _, h => h
  | .str _, _, h => h
  | .byt _, _, h => h
  | .ty _, _, h => h
  | .own _, _, h => h
  | .scr _, _, ⟨a, e, h⟩ => ⟨a, e, h.imp (fun ⟨o, q, n⟩ => ⟨o, (m a _ q n).1, (m a _ q n).2⟩) id⟩
  | .exn _ _ _, _, ⟨e, C, h1, h2, h3⟩ => ⟨e, C, h1, h2, h3.imp id fun ⟨d, vs, q1, q2, q3, q4⟩ => ⟨d, vs, q1, (m d _ q2 q3).1, (m d _ q2 q3).2, Dfs.mono m q4⟩⟩
  | .lst _, _, ⟨a, vs, e, h, n, r⟩ => ⟨a, vs, e, (m a _ h n).1, (m a _ h n).2, Dns.mono m r⟩
  | .tup _, _, ⟨a, vs, e, h, r⟩ => ⟨a, vs, e, h.imp (fun z => m a _ z.1 z.2) id, Dns.mono m r⟩
  | .dic _, _, ⟨a, vs, e, h, n, r⟩ => ⟨a, vs, e, (m a _ h n).1, (m a _ h n).2, Dks.mono m r⟩
  | .ins _ _, _, ⟨a, C, dx, vs, e, g, h, n, r⟩ => ⟨a, C, dx, vs, e, g, (m a _ h n).1, (m a _ h n).2, Dfs.mono m r⟩
theorem Dns.mono {M : Mod0} {H H' : Hp} {Bn Bn' : Addr → Prop} (m : Mo H Bn H' Bn') : ∀ {ds : List D} {vs : List V}, Dns M H Bn ds vs → Dns M H' Bn' ds vs
  | [], _, h => h
  | _ :: _, _, ⟨v, r, e, h, t⟩ => ⟨v, r, e, Dn.mono m h, Dns.mono m t⟩
theorem Dks.mono {M : Mod0} {H H' : Hp} {Bn Bn' : Addr → Prop} (m : Mo H Bn H' Bn') : ∀ {ds : List (Ky × D)} {vs : List (Key × V)}, Dks M H Bn ds vs → Dks M H' Bn' ds vs
  | [], _, h => h
  | (_, _) :: _, _, ⟨v, r, e, h, t⟩ => ⟨v, r, e, Dn.mono m h, Dks.mono m t⟩
theorem Dfs.mono {M : Mod0} {H H' : Hp} {Bn Bn' : Addr → Prop} (m : Mo H Bn H' Bn') : ∀ {ds : List (String × D)} {vs : List (Str × V)}, Dfs M H Bn ds vs → Dfs M H' Bn' ds vs
  | [], _, h => h
  | (_, _) :: _, _, ⟨v, r, e, h, t⟩ => ⟨v, r, e, Dn.mono m h, Dfs.mono m t⟩
end
/-- the world goes on -/
structure Ext (W W' : Wd) : Prop where
  new : ∃ N, W'.L = W.L ++ N ∧ (∀ a ∈ N, W.H a = none) ∧ ∀ a, W'.Bn a → W.Bn a ∨ W.H a = none
  hold : ∀ a, W.H a ≠ none → W.Bn a → a ∉ W.L → W'.Bn a
  keep : ∀ a o, W.H a = some o → ¬ (a ∈ W.L ∧ W.Bn a) → W'.H a = some o
  back : ∀ a, W'.H a = none → W.H a = none
theorem Ext.refl (W : Wd) : Ext W W := ⟨⟨[], (List.append_nil _).symm, (fun _ h => nomatch h), fun a => .inl⟩, fun _ _ h _ => h, fun _ _ h _ => h, fun _ h => h⟩
theorem Ext.trans {W W1 W2 : Wd} (a : Ext W W1) (b : Ext W1 W2) : Ext W W2 := by
  obtain ⟨N, n1, n2, n3⟩ := a.new
  obtain ⟨N', m1, m2, m3⟩ := b.new
  refine ⟨⟨N ++ N', by rw [m1, n1, List.append_assoc], fun c hc => ?_, fun c hc => ?_⟩, fun c h1 h2 h3 => ?_, fun c o h n => ?_, fun c h => a.back c (b.back c h)⟩
  · rcases List.mem_append.mp hc with hc | hc
    · exact n2 c hc
    · exact a.back c (m2 c hc)
  · rcases m3 c hc with hc | hc
    · exact n3 c hc
    · exact .inr (a.back c hc)
  · refine b.hold c (fun z => h1 (a.back c z)) (a.hold c h1 h2 h3) ?_
    rw [n1]
    intro z
    rcases List.mem_append.mp z with z | z
    · exact h3 z
    · exact h1 (n2 c z)
  · have hn : c ∉ N := fun z => by
      rw [n2 c z] at h
      cases h
    refine b.keep c o (a.keep c o h n) ?_
    rw [n1]
    rintro ⟨z1, z2⟩
    refine n ⟨(List.mem_append.mp z1).resolve_right hn, (n3 c z2).resolve_right (fun z => ?_)⟩
    rw [h] at z
    cases z
/-- a cell -/
def CellR (M : Mod0) (H : Hp) (Bn : Addr → Prop) (a : Addr) : Cell → Prop
  | .lst xs => ∃ vs, H a = some (.lst vs) ∧ Dns M H Bn xs vs
  | .dic kvs => ∃ vs, H a = some (.dK vs) ∧ Dks M H Bn kvs vs
  | .ins c fs => ∃ C dx vs, M.mg (Str.ofString c) = some (.ref C) ∧ H a = some (.ins C dx vs) ∧ Dfs M H Bn fs vs
  | .frz d => Dn M H Bn d (.ref a)
def Cell.live : Cell → Bool
  | .frz _ => false
  | _ => true
structure Ok (M : Mod0) (W : Wd) (S : Sto) : Prop where
  len : W.L.length = S.length
  nd : W.L.Nodup
  trk : ∀ a, W.Bn a → W.H a ≠ none
  trl : ∀ a ∈ W.L, W.H a ≠ none
  cell : ∀ (n : Nat) (c : Cell), S[n]? = some c → ∃ a, W.L[n]? = some a ∧ CellR M W.H W.Bn a c ∧ (c.live = true → W.Bn a)
theorem Ext.mo {W W' : Wd} (e : Ext W W') : Mo W.H W.Bn W'.H W'.Bn := by
  obtain ⟨N, n1, n2, n3⟩ := e.new
  intro a u h n
  refine ⟨e.keep a u h (fun z => n z.2), fun z => ?_⟩
  rcases n3 a z with z | z
  · exact n z
  · rw [z] at h
    cases h
def VlR (M : Mod0) (W : Wd) : Vl → V → Prop
  | .im d, v => Dn M W.H W.Bn d v
  | .rf n, v => ∃ a, W.L[n]? = some a ∧ v = .ref a
def VlRs (M : Mod0) (W : Wd) : List Vl → List V → Prop
  | [], vs => vs = []
  | x :: xs, vs => ∃ v r, vs = v :: r ∧ VlR M W x v ∧ VlRs M W xs r
theorem VlR.mono {M : Mod0} {W W' : Wd} (e : Ext W W') : ∀ {x : Vl} {v : V}, VlR M W x v → VlR M W' x v
  | .im _, _, h => Dn.mono e.mo h
  | .rf n, v, ⟨a, h, ev⟩ => by
    obtain ⟨N, n1, _⟩ := e.new
    refine ⟨a, ?_, ev⟩
    rw [n1, List.getElem?_append_left (List.getElem?_eq_some_iff.mp h).1]
    exact h
theorem VlRs.mono {M : Mod0} {W W' : Wd} (e : Ext W W') : ∀ {xs : List Vl} {vs : List V}, VlRs M W xs vs → VlRs M W' xs vs
  | [], _, h => h
  | _ :: _, _, ⟨v, r, q, h, t⟩ => ⟨v, r, q, VlR.mono e h, VlRs.mono e t⟩
theorem VlRs.len {M : Mod0} {W : Wd} : ∀ {xs : List Vl} {vs : List V}, VlRs M W xs vs → vs.length = xs.length
  | [], _, h => by rw [show _ = [] from h]; rfl
  | _ :: _, _, ⟨v, r, q, h, t⟩ => by rw [q, List.length_cons, List.length_cons, VlRs.len t]
theorem VlRs.app {M : Mod0} {W : Wd} : ∀ {xs ys : List Vl} {vs ws : List V}, VlRs M W xs vs → VlRs M W ys ws → VlRs M W (xs ++ ys) (vs ++ ws)
  | [], _, _, _, h, t => by rw [show _ = [] from h]; exact t
  | _ :: _, _, _, _, ⟨v, r, q, h, t⟩, t' => by rw [q]; exact ⟨v, _, rfl, h, VlRs.app t t'⟩
theorem Dns.len {M : Mod0} {H : Hp} {Bn : Addr → Prop} : ∀ {xs : List D} {vs : List V}, Dns M H Bn xs vs → vs.length = xs.length
  | [], _, h => by rw [show _ = [] from h]; rfl
  | _ :: _, _, ⟨v, r, q, h, t⟩ => by rw [q, List.length_cons, List.length_cons, Dns.len t]
theorem Dns.app {M : Mod0} {H : Hp} {Bn : Addr → Prop} : ∀ {xs ys : List D} {vs ws : List V}, Dns M H Bn xs vs → Dns M H Bn ys ws → Dns M H Bn (xs ++ ys) (vs ++ ws)
  | [], _, _, _, h, t => by rw [show _ = [] from h]; exact t
  | _ :: _, _, _, _, ⟨v, r, q, h, t⟩, t' => by rw [q]; exact ⟨v, _, rfl, h, Dns.app t t'⟩
theorem Dns.get {M : Mod0} {H : Hp} {Bn : Addr → Prop} : ∀ {xs : List D} {vs : List V} {i : Nat} {d : D}, Dns M H Bn xs vs → xs[i]? = some d → ∃ v, vs[i]? = some v ∧ Dn M H Bn d v
  | [], _, _, _, _, e => by simp at e
  | _ :: _, _, 0, _, ⟨v, r, q, h, t⟩, e => by simp at e; subst e q; exact ⟨v, rfl, h⟩
  | _ :: _, _, i + 1, d, ⟨v, r, q, h, t⟩, e => by
    subst q
    obtain ⟨v', e1, h1⟩ := Dns.get (i := i) (d := d) t (by simpa using e)
    exact ⟨v', by simpa using e1, h1⟩
theorem Dns.set {M : Mod0} {H : Hp} {Bn : Addr → Prop} {d : D} {v : V} (hd : Dn M H Bn d v) : ∀ {xs : List D} {vs : List V} (i : Nat), Dns M H Bn xs vs → Dns M H Bn (xs.set i d) (vs.set i v)
  | [], _, _, h => by rw [show _ = [] from h]; exact rfl
  | _ :: _, _, 0, ⟨v', r, q, h, t⟩ => by subst q; exact ⟨v, r, rfl, hd, t⟩
  | _ :: _, _, i + 1, ⟨v', r, q, h, t⟩ => by subst q; exact ⟨v', _, rfl, h, Dns.set hd i t⟩
theorem Dns.take {M : Mod0} {H : Hp} {Bn : Addr → Prop} : ∀ {xs : List D} {vs : List V} (n : Nat), Dns M H Bn xs vs → Dns M H Bn (xs.take n) (vs.take n)
  | _, _, 0, _ => by simp [Dns]
  | [], _, _ + 1, h => by rw [show _ = [] from h]; exact rfl
  | _ :: _, _, n + 1, ⟨v', r, q, h, t⟩ => by subst q; exact ⟨v', _, rfl, h, Dns.take n t⟩
theorem Dns.drop {M : Mod0} {H : Hp} {Bn : Addr → Prop} : ∀ {xs : List D} {vs : List V} (n : Nat), Dns M H Bn xs vs → Dns M H Bn (xs.drop n) (vs.drop n)
  | _, _, 0, h => h
  | [], _, _ + 1, h => by rw [show _ = [] from h]; exact rfl
  | _ :: _, _, n + 1, ⟨v', r, q, h, t⟩ => by subst q; exact Dns.drop n t
theorem Dns.rev {M : Mod0} {H : Hp} {Bn : Addr → Prop} : ∀ {xs : List D} {vs : List V}, Dns M H Bn xs vs → Dns M H Bn xs.reverse vs.reverse
  | [], _, h => by rw [show _ = [] from h]; exact rfl
  | _ :: _, _, ⟨v', r, q, h, t⟩ => by
    subst q
    rw [List.reverse_cons, List.reverse_cons]
    exact (Dns.rev t).app ⟨v', [], rfl, h, rfl⟩
/-- the names -/
structure EnvR (M : Mod0) (W : Wd) (ρ : Rho) (σ : L2.St) : Prop where
  len : ρ.length = σ.length
  get : ∀ (i : Nat) (x : Vl), ρ[i]? = some (some x) → ∃ v, σ[i]? = some (some v) ∧ VlR M W x v
theorem EnvR.mono {M : Mod0} {W W' : Wd} {ρ : Rho} {σ : L2.St} (r : EnvR M W ρ σ) (e : Ext W W') : EnvR M W' ρ σ :=
  ⟨r.len, fun i x h => let ⟨v, h1, h2⟩ := r.get i x h; ⟨v, h1, h2.mono e⟩⟩
theorem EnvR.set {M : Mod0} {W : Wd} {ρ : Rho} {σ : L2.St} (r : EnvR M W ρ σ) {x : Vl} {v : V} (h : VlR M W x v) (i : Nat) : EnvR M W (ρ.set i (some x)) (σ.set i (some v)) := by
  refine ⟨by rw [List.length_set, List.length_set, r.len], fun j y e => ?_⟩
  by_cases hj : i = j
  · subst hj
    have hl : i < ρ.length := by
      have := (List.getElem?_eq_some_iff.mp e).1
      rwa [List.length_set] at this
    rw [List.getElem?_set_self hl] at e
    cases e
    exact ⟨v, by rw [List.getElem?_set_self (r.len ▸ hl)], h⟩
  · rw [List.getElem?_set_ne hj] at e ⊢
    exact r.get j y e
theorem EnvR.set0 {M : Mod0} {W : Wd} {ρ : Rho} {σ : L2.St} (r : EnvR M W ρ σ) (i : Nat) (o : Option V) : EnvR M W (ρ.set i none) (σ.set i o) := by
  refine ⟨by rw [List.length_set, List.length_set, r.len], fun j y e => ?_⟩
  by_cases hj : i = j
  · subst hj
    have hl : i < ρ.length := by
      have := (List.getElem?_eq_some_iff.mp e).1
      rwa [List.length_set] at this
    rw [List.getElem?_set_self hl] at e
    cases e
  · rw [List.getElem?_set_ne hj] at e ⊢
    exact r.get j y e
/-- an error -/
def ExR (M : Mod0) (W : Wd) (e : Exn) (cls : Value) (dx : Option Addr) : Prop :=
  ∃ C, cls = .ref C ∧ M.mg (Str.ofString e.cls) = some (.ref C) ∧
    ((e.fs = [] ∧ dx = none) ∨ ∃ d vs, dx = some d ∧ W.H d = some (.xd vs) ∧ ¬ W.Bn d ∧ Dfs M W.H W.Bn e.fs vs)
/-! ### what is wanted behind -/
def Aft {α β : Type} (M : Mod0) (Rl : Wd → α → β → Prop) (W : Wd) (r : R α) (Q : β → Hp → Prop) (E : XK) : Prop := match r with
  | .no => False
  | .ok x S' => ∀ v W', Ext W W' → Ok M W' S' → Rl W' x v → Q v W'.H
  | .ex e S' => ∀ cls dx W', Ext W W' → Ok M W' S' → ExR M W' e cls dx → E cls dx W'.H
def AftS (M : Mod0) (W : Wd) (r : RS) (D : Ends) (Wx : WX) : Prop := match r with
  | .no => False
  | .nx ρ' S' => ∀ σ' W', Ext W W' → Ok M W' S' → EnvR M W' ρ' σ' → D.nx σ' W'.H
  | .bk ρ' S' => ∀ σ' W', Ext W W' → Ok M W' S' → EnvR M W' ρ' σ' → D.bk σ' W'.H
  | .ct ρ' S' => ∀ σ' W', Ext W W' → Ok M W' S' → EnvR M W' ρ' σ' → D.ct σ' W'.H
  | .rt x S' => ∀ v W', Ext W W' → Ok M W' S' → VlR M W' x v → D.rt v W'.H
  | .ex e ρ' S' => ∀ cls dx σ' W', Ext W W' → Ok M W' S' → EnvR M W' ρ' σ' → ExR M W' e cls dx → Wx cls dx σ' W'.H
/-- where one stands -/
def At (M : Mod0) (W : Wd) (ρ : Rho) (S : Sto) (σ : L2.St) (H : Hp) : Prop := W.H = H ∧ Ok M W S ∧ EnvR M W ρ σ
def tE (M : Mod0) (Wx : WX) (m : ME) : TE := fun σ H Q => ∃ W ρ S, At M W ρ S σ H ∧ Aft M (VlR M) W (m ρ S) Q (fun c d H' => Wx c d σ H')
def tA (M : Mod0) (Wx : WX) (m : MA) : TA := fun σ H Q => ∃ W ρ S, At M W ρ S σ H ∧ Aft M (VlRs M) W (m ρ S) Q (fun c d H' => Wx c d σ H')
def tT (M : Mod0) (Wx : WX) (m : MT) : TT := fun σ H Q => ∃ W ρ S, At M W ρ S σ H ∧ Aft M (fun _ b b' => b' = b) W (m ρ S) Q (fun c d H' => Wx c d σ H')
def tS (M : Mod0) (Wx : WX) (m : MS) : TS := fun D σ H => ∃ W ρ S, At M W ρ S σ H ∧ AftS M W (m ρ S) D Wx
/-- a def's promise by its meaning -/
def spM (M : Mod0) (n : Nat) (m : MF) : Sp := fun vs H Q E => vs.length = n ∧ ∃ W S xs, W.H = H ∧ Ok M W S ∧ VlRs M W xs vs ∧ Aft M (VlR M) W (m xs S) Q E
theorem Aft.imp {α β : Type} {M : Mod0} {Rl : Wd → α → β → Prop} {W : Wd} {r : R α} {Q Q' : β → Hp → Prop} {E E' : XK} (h : Aft M Rl W r Q E) (hq : ∀ v H, Q v H → Q' v H) (he : ∀ c d H, E c d H → E' c d H) : Aft M Rl W r Q' E' := by
  cases r with
  | no => exact h
  | ok x S' => exact fun v W' a b c => hq _ _ (h v W' a b c)
  | ex e S' => exact fun cls dx W' a b c => he _ _ _ (h cls dx W' a b c)
theorem Aft.go {α β : Type} {M : Mod0} {Rl : Wd → α → β → Prop} {W W1 : Wd} {r : R α} {Q : β → Hp → Prop} {E : XK} (h : Aft M Rl W r Q E) (e : Ext W W1) : Aft M Rl W1 r Q E := by
  cases r with
  | no => exact h
  | ok x S' => exact fun v W' a b c => h v W' (e.trans a) b c
  | ex x S' => exact fun cls dx W' a b c => h cls dx W' (e.trans a) b c
theorem AftS.go {M : Mod0} {W W1 : Wd} {r : RS} {D : Ends} {Wx : WX} (h : AftS M W r D Wx) (e : Ext W W1) : AftS M W1 r D Wx := by
  cases r with
  | no => exact h
  | nx ρ' S' => exact fun v W' a b c => h v W' (e.trans a) b c
  | bk ρ' S' => exact fun v W' a b c => h v W' (e.trans a) b c
  | ct ρ' S' => exact fun v W' a b c => h v W' (e.trans a) b c
  | rt x S' => exact fun v W' a b c => h v W' (e.trans a) b c
  | ex x ρ' S' => exact fun cls dx σ' W' a b c d => h cls dx σ' W' (e.trans a) b c d
/-- one thing after another -/
theorem Aft.bind {α β γ δ : Type} {M : Mod0} {Rl : Wd → α → γ → Prop} {Rl' : Wd → β → δ → Prop} {W : Wd} {r : R α} {f : α → Sto → R β} {Q : δ → Hp → Prop} {G : γ → Hp → Prop} {E : XK}
    (h : Aft M Rl' W (r.bind f) Q E) (hg : ∀ x S' v W', Ext W W' → Ok M W' S' → Rl W' x v → Aft M Rl' W' (f x S') Q E → G v W'.H) : Aft M Rl W r G E := by
  cases r with
  | no => exact h
  | ok x S' => exact fun v W' a b c => hg x S' v W' a b c (Aft.go (r := f x S') h a)
  | ex e S' => exact h
theorem Aft.bindS {α γ : Type} {M : Mod0} {Rl : Wd → α → γ → Prop} {W : Wd} {r : R α} {f : α → Sto → RS} {ρ : Rho} {σ : L2.St} {D : Ends} {Wx : WX} {G : γ → Hp → Prop} (rr : EnvR M W ρ σ)
    (h : AftS M W (match r with | .no => .no | .ok x S' => f x S' | .ex e S' => .ex e ρ S') D Wx) (hg : ∀ x S' v W', Ext W W' → Ok M W' S' → Rl W' x v → AftS M W' (f x S') D Wx → G v W'.H) : Aft M Rl W r G (fun c d H' => Wx c d σ H') := by
  cases r with
  | no => exact h
  | ok x S' => exact fun v W' a b c => hg x S' v W' a b c (AftS.go (r := f x S') h a)
  | ex e S' => exact fun cls dx W' a b c => h cls dx σ W' a b (rr.mono a) c
end Tar

set_option autoImplicit false
/-! Expressions: meanings and that they are kept. -/
namespace Tar
open PySem PySem.Spec PyProof.Rows L2
/-! ### seen as -/
def Sees (M : Mod0) (H : Hp) (Bn : Addr → Prop) : D → V → Prop
  | .lst xs, v => ∃ a vs, v = .ref a ∧ H a = some (.lst vs) ∧ Dns M H Bn xs vs
  | .dic kvs, v => ∃ a vs, v = .ref a ∧ H a = some (.dK vs) ∧ Dks M H Bn kvs vs
  | .ins c fs, v => ∃ a C dx vs, v = .ref a ∧ M.mg (Str.ofString c) = some (.ref C) ∧ H a = some (.ins C dx vs) ∧ Dfs M H Bn fs vs
  | d, v => Dn M H Bn d v
theorem Dn.sees {M : Mod0} {H : Hp} {Bn : Addr → Prop} {d : D} {v : V} (h : Dn M H Bn d v) : Sees M H Bn d v := by
  cases d with
  | lst xs => obtain ⟨a, vs, e, i, _, r⟩ := h; exact ⟨a, vs, e, i, r⟩
  | dic xs => obtain ⟨a, vs, e, i, _, r⟩ := h; exact ⟨a, vs, e, i, r⟩
  | ins c fs => obtain ⟨a, C, dx, vs, e, g, i, _, r⟩ := h; exact ⟨a, C, dx, vs, e, g, i, r⟩
  | _ => exact h
def Cell.view : Cell → D
  | .lst xs => .lst xs
  | .dic k => .dic k
  | .ins c fs => .ins c fs
  | .frz d => d
def vw (x : Vl) (S : Sto) : Option D := match x with
  | .im d => some d
  | .rf n => (S[n]?).map Cell.view
theorem vw_sees {M : Mod0} {W : Wd} {S : Sto} {x : Vl} {v : V} {d : D} (o : Ok M W S) (r : VlR M W x v) (e : vw x S = some d) : Sees M W.H W.Bn d v := by
  cases x with
  | im d' => cases e; exact Dn.sees r
  | rf n =>
    obtain ⟨a, ha, rfl⟩ := r
    cases h : S[n]? with
    | none => simp [vw, h] at e
    | some c =>
      simp only [vw, h, Option.map_some, Option.some.injEq] at e
      obtain ⟨a', ha', cr, _⟩ := o.cell n c h
      rw [ha] at ha'
      cases ha'
      cases c with
      | lst xs => subst e; obtain ⟨vs, h1, h2⟩ := cr; exact ⟨a, vs, rfl, h1, h2⟩
      | dic xs => subst e; obtain ⟨vs, h1, h2⟩ := cr; exact ⟨a, vs, rfl, h1, h2⟩
      | ins c fs => subst e; obtain ⟨C, dx, vs, h0, h1, h2⟩ := cr; exact ⟨a, C, dx, vs, rfl, h0, h1, h2⟩
      | frz d' => subst e; exact Dn.sees cr
/-! ### what an operation gives: a plain value, or a new list, tuple, dict -/
inductive P where
  | v (d : D) | nl (xs : List D) | nt (xs : List D) | nd (kvs : List (Ky × D))
def fin (mu : Bool) (p : P) (S : Sto) : R Vl := match p with
  | .v d => .ok (.im d) S
  | .nl xs => if mu then .ok (.rf S.length) (S ++ [.lst xs]) else .ok (.im (.lst xs)) S
  | .nt xs => .ok (.im (.tup xs)) S
  | .nd kvs => if mu then .ok (.rf S.length) (S ++ [.dic kvs]) else .ok (.im (.dic kvs)) S
def Fin (M : Mod0) (W : Wd) (p : P) (Q : VK) : Prop := match p with
  | .v d => ∀ v, Dn M W.H W.Bn d v → Q v W.H
  | .nl xs => ∀ a vs, W.H a = none → Dns M W.H W.Bn xs vs → Q (.ref a) (upd W.H a (.lst vs))
  | .nt xs => ∀ a vs, W.H a = none → Dns M W.H W.Bn xs vs → Q (.ref a) (upd W.H a (.tup vs))
  | .nd kvs => ∀ a vs, W.H a = none → Dks M W.H W.Bn kvs vs → Q (.ref a) (upd W.H a (.dK vs))
section
variable {M : Mod0} {W : Wd} {S : Sto}
theorem Ok.nban (o : Ok M W S) {a : Addr} (h : W.H a = none) : ¬ W.Bn a := fun z => o.trk a z h
theorem CellR.mono {H H' : Hp} {Bn Bn' : Addr → Prop} (m : Mo H Bn H' Bn') {a : Addr} {c : Cell} (k : ∀ o, H a = some o → H' a = some o) (h : CellR M H Bn a c) : CellR M H' Bn' a c := by
  cases c with
  | lst xs => obtain ⟨vs, q, r⟩ := h; exact ⟨vs, k _ q, r.mono m⟩
  | dic xs => obtain ⟨vs, q, r⟩ := h; exact ⟨vs, k _ q, r.mono m⟩
  | ins c fs => obtain ⟨C, dx, vs, g, q, r⟩ := h; exact ⟨C, dx, vs, g, k _ q, r.mono m⟩
  | frz d => exact Dn.mono m h
/-- a new object that no cell holds -/
def Wd.add (W : Wd) (a : Addr) (o : HO) : Wd := ⟨upd W.H a o, W.L, W.Bn⟩
theorem Ext.add {a : Addr} {o : HO} (h : W.H a = none) : Ext W (W.add a o) := by
  refine ⟨⟨[], (List.append_nil _).symm, (fun _ h => nomatch h), fun b => .inl⟩, fun _ _ h _ => h, fun b u e _ => ?_, fun b e => ?_⟩
  · show upd W.H a o b = some u
    rw [upd_ne (ne_of_none e h)]
    exact e
  · have e' : upd W.H a o b = none := e
    by_cases hb : b = a
    · rw [hb]; exact h
    · rwa [upd_ne hb] at e'
theorem Ok.add {a : Addr} {o : HO} (k : Ok M W S) (h : W.H a = none) : Ok M (W.add a o) S := by
  have e := Ext.add (o := o) h
  refine ⟨k.len, k.nd, fun b hb z => k.trk b hb (e.back b z), fun b hb z => k.trl b hb (e.back b z), fun n c hc => ?_⟩
  obtain ⟨b, h1, h2, h3⟩ := k.cell n c hc
  refine ⟨b, h1, h2.mono e.mo fun u q => ?_, h3⟩
  show upd W.H a o b = some u
  rw [upd_ne (ne_of_none q h)]
  exact q
/-- a new cell -/
def Wd.cell (W : Wd) (a : Addr) (o : HO) : Wd := ⟨upd W.H a o, W.L ++ [a], fun b => W.Bn b ∨ b = a⟩
theorem Ext.cell {a : Addr} {o : HO} (h : W.H a = none) : Ext W (W.cell a o) := by
  refine ⟨⟨[a], rfl, (fun b hb => by rw [List.mem_singleton.mp hb]; exact h), fun b hb => hb.imp id (fun (z : b = a) => by rw [z]; exact h)⟩, fun _ _ h _ => .inl h, fun b u e _ => ?_, fun b e => ?_⟩
  · show upd W.H a o b = some u
    rw [upd_ne (ne_of_none e h)]
    exact e
  · have e' : upd W.H a o b = none := e
    by_cases hb : b = a
    · rw [hb]; exact h
    · rwa [upd_ne hb] at e'
theorem Ok.newcell {a : Addr} {o : HO} {c : Cell} (k : Ok M W S) (h : W.H a = none) (hc : CellR M (W.cell a o).H (W.cell a o).Bn a c) : Ok M (W.cell a o) (S ++ [c]) := by
  have e := Ext.cell (o := o) h
  refine ⟨by simp [Wd.cell, k.len], ?_, fun b hb z => ?_, fun b hb z => ?_, fun n c' hc' => ?_⟩
  · refine List.nodup_append.mpr ⟨k.nd, by simp, fun x hx y hy z => ?_⟩
    rw [List.mem_singleton.mp hy] at z
    exact k.trl x hx (z ▸ h)
  · rcases hb with hb | hb
    · exact k.trk b hb (e.back b z)
    · have z' : upd W.H a o b = none := z
      rw [hb, upd_same] at z'
      cases z'
  · rcases List.mem_append.mp hb with hb | hb
    · exact k.trl b hb (e.back b z)
    · have z' : upd W.H a o b = none := z
      rw [List.mem_singleton.mp hb, upd_same] at z'
      cases z'
  · by_cases hn : n < S.length
    · rw [List.getElem?_append_left hn] at hc'
      obtain ⟨b, h1, h2, h3⟩ := k.cell n c' hc'
      refine ⟨b, ?_, h2.mono e.mo (fun u q => ?_), fun z => .inl (h3 z)⟩
      · show (W.L ++ [a])[n]? = some b
        rw [List.getElem?_append_left (by rw [k.len]; exact hn)]
        exact h1
      · show upd W.H a o b = some u
        rw [upd_ne (ne_of_none q h)]
        exact q
    · have hl : n = S.length := by
        have := (List.getElem?_eq_some_iff.mp hc').1
        simp at this
        omega
      subst hl
      rw [List.getElem?_append_right (Nat.le_refl _)] at hc'
      simp at hc'
      subst hc'
      refine ⟨a, ?_, hc, fun _ => .inr rfl⟩
      show (W.L ++ [a])[S.length]? = some a
      rw [← k.len, List.getElem?_append_right (Nat.le_refl _)]
      simp
theorem fin_ok {mu : Bool} {p : P} {Q : VK} {E : XK} (k : Ok M W S) (h : Aft M (VlR M) W (fin mu p S) Q E) : Fin M W p Q := by
  cases p with
  | v d => exact fun v r => h v W (Ext.refl W) k r
  | nt xs =>
    intro a vs ha r
    exact h (.ref a) (W.add a (.tup vs)) (Ext.add ha) (k.add ha) ⟨a, vs, rfl, .inl ⟨upd_same, k.nban ha⟩, r.mono (Ext.add ha).mo⟩
  | nl xs =>
    intro a vs ha r
    cases mu with
    | false => exact h (.ref a) (W.add a (.lst vs)) (Ext.add ha) (k.add ha) ⟨a, vs, rfl, upd_same, k.nban ha, r.mono (Ext.add ha).mo⟩
    | true =>
      refine h (.ref a) (W.cell a (.lst vs)) (Ext.cell ha) (k.newcell ha ⟨vs, upd_same, r.mono (Ext.cell ha).mo⟩) ⟨a, ?_, rfl⟩
      show (W.L ++ [a])[S.length]? = some a
      rw [← k.len, List.getElem?_append_right (Nat.le_refl _)]
      simp
  | nd xs =>
    intro a vs ha r
    cases mu with
    | false => exact h (.ref a) (W.add a (.dK vs)) (Ext.add ha) (k.add ha) ⟨a, vs, rfl, upd_same, k.nban ha, r.mono (Ext.add ha).mo⟩
    | true =>
      refine h (.ref a) (W.cell a (.dK vs)) (Ext.cell ha) (k.newcell ha ⟨vs, upd_same, r.mono (Ext.cell ha).mo⟩) ⟨a, ?_, rfl⟩
      show (W.L ++ [a])[S.length]? = some a
      rw [← k.len, List.getElem?_append_right (Nat.le_refl _)]
      simp
end
/-! ### meanings of expressions -/
def mLoc (i : Nat) : ME := fun ρ S => match ρ[i]? with
  | some (some x) => .ok x S
  | _ => .no
def mC (d : D) : ME := fun _ S => .ok (.im d) S
def ofO (mu : Bool) (o : Option P) (S : Sto) : R Vl := match o with
  | some p => fin mu p S
  | none => .no
/-- a thing of two, by what is seen -/
def on2 (mu : Bool) (f : D → D → Option P) (x y : Vl) (S : Sto) : R Vl := match vw x S, vw y S with
  | some d, some e => ofO mu (f d e) S
  | _, _ => .no
def on1 (mu : Bool) (f : D → Option P) (x : Vl) (S : Sto) : R Vl := match vw x S with
  | some d => ofO mu (f d) S
  | none => .no
def vws : List Vl → Sto → Option (List D)
  | [], _ => some []
  | x :: xs, S => match vw x S, vws xs S with
    | some d, some ds => some (d :: ds)
    | _, _ => none
def onN (mu : Bool) (f : List D → Option P) (xs : List Vl) (S : Sto) : R Vl := match vws xs S with
  | some ds => ofO mu (f ds) S
  | none => .no
def mOp (mu : Bool) (f : D → D → Option P) (a b : ME) : ME := fun ρ S => (a ρ S).bind fun x S1 => (b ρ S1).bind fun y S2 => on2 mu f x y S2
def mUn (mu : Bool) (f : D → Option P) (a : ME) : ME := fun ρ S => (a ρ S).bind fun x S1 => on1 mu f x S1
def mNil : MA := fun _ S => .ok [] S
def mCons (a : ME) (as : MA) : MA := fun ρ S => (a ρ S).bind fun x S1 => (as ρ S1).bind fun xs S2 => .ok (x :: xs) S2
def mN (mu : Bool) (f : List D → Option P) (as : MA) : ME := fun ρ S => (as ρ S).bind fun xs S1 => onN mu f xs S1
def mIf (t : MT) (a b : ME) : ME := fun ρ S => (t ρ S).bind fun k S1 => if k then a ρ S1 else b ρ S1
/-- plain values of values in hand (a cell goes stiff) -/
def stiff (x : Vl) (S : Sto) : Option (D × Sto) := match x with
  | .im d => some (d, S)
  | .rf n => match S[n]? with
    | some c => some (c.view, S.set n (.frz c.view))
    | none => none
def stiffs : List Vl → Sto → Option (List D × Sto)
  | [], S => some ([], S)
  | x :: xs, S => match stiff x S with
    | some (d, S1) => match stiffs xs S1 with
      | some (ds, S2) => some (d :: ds, S2)
      | none => none
    | none => none
def mTup (as : MA) : ME := fun ρ S => (as ρ S).bind fun xs S1 => match stiffs xs S1 with
  | some (ds, S2) => if ds.length ≤ 16777216 then fin false (.nt ds) S2 else .no
  | none => .no
def mLst (mu : Bool) (as : MA) : ME := fun ρ S => (as ρ S).bind fun xs S1 => match stiffs xs S1 with
  | some (ds, S2) => if ds.length ≤ 16777216 then fin mu (.nl ds) S2 else .no
  | none => .no
/-! ### .. are kept -/
section
variable {X : Cx} {Wx : WX}
abbrev _root_.L2.Cx.M (X : Cx) : Mod0 := ⟨X.K, X.mg⟩
theorem _root_.L2.PE.imp {e : Expr} {t t' : TE} (h : PE X e t) (k : ∀ σ H Q, t' σ H Q → t σ H Q) : PE X e t' := ⟨fun pins s σ H Q I q => h.run pins s σ H Q I (k σ H Q q)⟩
theorem _root_.L2.PA.imp {e : List Expr} {t t' : TA} (h : PA X e t) (k : ∀ σ H Q, t' σ H Q → t σ H Q) : PA X e t' := ⟨fun pos pins s σ H Q I q => h.run pos pins s σ H Q I (k σ H Q q)⟩
theorem _root_.L2.PT.imp {e : Expr} {t t' : TT} (h : PT X e t) (k : ∀ σ H Q, t' σ H Q → t σ H Q) : PT X e t' := ⟨fun pins s σ H Q I q => h.run pins s σ H Q I (k σ H Q q)⟩
theorem _root_.L2.PS.imp {e : Stmt} {t t' : TS} (h : PS X e t) (k : ∀ D σ H, t' D σ H → t D σ H) : PS X e t' := ⟨fun pins s σ H D I q => h.run pins s σ H D I (k D σ H q)⟩
theorem _root_.L2.PSs.imp {e : List Stmt} {t t' : TS} (h : PSs X e t) (k : ∀ D σ H, t' D σ H → t D σ H) : PSs X e t' := ⟨fun pins s σ H D I q => h.run pins s σ H D I (k D σ H q)⟩
theorem c_loc {i : Nat} {x : Str} {pos : Pos} (hN : X.N[i]? = some x := by rfl) (hv : Vis X.env.scope x := by first | exact .inl rfl | exact .inr (.inl rfl) | exact .inr (.inr rfl)) (hd : (x == ("__debug__" : Str)) = false := by decide) (hcd : (x == ("__classdict__" : Str)) = false := by decide) :
    PE X (.Name x pos) (tE X.M Wx (mLoc i)) := by
  refine (pe_var hN hv hd hcd).imp ?_
  rintro σ H Q ⟨W, ρ, S, ⟨rfl, o, r⟩, h⟩
  unfold mLoc at h
  split at h
  · rename_i x' e
    obtain ⟨v, h1, h2⟩ := r.get i x' e
    exact ⟨v, h1, h v W (Ext.refl W) o h2⟩
  · exact h.elim
theorem c_val {e : Expr} {v : V} {d : D} (h : PE X e (tC v)) (hd : ∀ H Bn, Dn X.M H Bn d v) : PE X e (tE X.M Wx (mC d)) := by
  refine h.imp ?_
  rintro σ H Q ⟨W, ρ, S, ⟨rfl, o, r⟩, h⟩
  exact h v W (Ext.refl W) o (hd _ _)
theorem c_nil : PA X [] (tA X.M Wx mNil) := by
  refine pa_nil.imp ?_
  rintro σ H Q ⟨W, ρ, S, ⟨rfl, o, r⟩, h⟩
  exact h [] W (Ext.refl W) o rfl
theorem c_cons {e : Expr} {es : List Expr} {a : ME} {as : MA} (ha : PE X e (tE X.M Wx a)) (hr : PA X es (tA X.M Wx as)) (hs : starEach (e :: es) X.env = (false, eval e X.env) :: starEach es X.env := by rfl) : PA X (e :: es) (tA X.M Wx (mCons a as)) := by
  refine (pa_cons ha hr hs).imp ?_
  rintro σ H Q ⟨W, ρ, S, ⟨rfl, o, r⟩, h⟩
  refine ⟨W, ρ, S, ⟨rfl, o, r⟩, h.bind fun x S1 v W1 e1 o1 r1 h1 => ?_⟩
  refine ⟨W1, ρ, S1, ⟨rfl, o1, r.mono e1⟩, h1.bind fun xs S2 vs W2 e2 o2 r2 h2 => ?_⟩
  exact h2 (v :: vs) W2 (Ext.refl W2) o2 ⟨v, vs, rfl, r1.mono e2, r2⟩
/-- an operation of two by what is seen -/
def rD2 (M : Mod0) (f : D → D → Option P) : R2 := fun u v H Q => ∃ W S d e p, W.H = H ∧ Ok M W S ∧ Sees M W.H W.Bn d u ∧ Sees M W.H W.Bn e v ∧ f d e = some p ∧ Fin M W p Q
theorem on2_ok {mu : Bool} {f : D → D → Option P} {W : Wd} {S : Sto} {x y : Vl} {u v : V} {Q : VK} {E : XK} (o : Ok X.M W S) (hx : VlR X.M W x u) (hy : VlR X.M W y v) (h : Aft X.M (VlR X.M) W (on2 mu f x y S) Q E) : rD2 X.M f u v W.H Q := by
  unfold on2 at h
  split at h
  · rename_i d e h1 h2
    unfold ofO at h
    split at h
    · rename_i p h3
      exact ⟨W, S, d, e, p, rfl, o, vw_sees o hx h1, vw_sees o hy h2, h3, fin_ok o h⟩
    · exact h.elim
  · exact h.elim
theorem t_op {mu : Bool} {f : D → D → Option P} {a b : ME} {σ : L2.St} {H : Hp} {Q : VK} (h : tE X.M Wx (mOp mu f a b) σ H Q) : tOp (rD2 X.M f) (tE X.M Wx a) (tE X.M Wx b) σ H Q := by
  obtain ⟨W, ρ, S, ⟨rfl, o, r⟩, h⟩ := h
  refine ⟨W, ρ, S, ⟨rfl, o, r⟩, h.bind fun x S1 u W1 e1 o1 r1 h1 => ?_⟩
  refine ⟨W1, ρ, S1, ⟨rfl, o1, r.mono e1⟩, h1.bind fun y S2 v W2 e2 o2 r2 h2 => ?_⟩
  exact on2_ok o2 (r1.mono e2) r2 h2
theorem c_op {mu : Bool} {op : Operator} {f : D → D → Option P} {a b : Expr} {ma mb : ME} {pos : Pos} (ho : OpR X (binaryOp op) (rD2 X.M f)) (ha : PE X a (tE X.M Wx ma)) (hb : PE X b (tE X.M Wx mb)) :
    PE X (.BinOp a op b pos) (tE X.M Wx (mOp mu f ma mb)) := (pe_op ho ha hb).imp fun _ _ _ h => t_op h
theorem c_cmp {op : CmpOp} {f : D → D → Option P} {a b : Expr} {ma mb : ME} {pos : Pos} (ho : OpR X (compareOp op) (rD2 X.M f)) (ha : PE X a (tE X.M Wx ma)) (hb : PE X b (tE X.M Wx mb)) (hm : behindInMarks op b = false := by first | rfl | exact nomark _) :
    PE X (.Compare a [op] [b] pos) (tE X.M Wx (mOp false f ma mb)) := (pe_cmpR ho ha hb hm).imp fun _ _ _ h => t_op h
theorem c_ix {mu : Bool} {f : D → D → Option P} {a b : Expr} {ma mb : ME} {pos : Pos} (ho : IxR X (rD2 X.M f)) (ha : PE X a (tE X.M Wx ma)) (hb : PE X b (tE X.M Wx mb)) (hs : PlainIx b := by exact fun _ _ => rfl) :
    PE X (.Subscript a b pos) (tE X.M Wx (mOp mu f ma mb)) := (pe_ix ho ha hb hs).imp fun _ _ _ h => t_op h
def rD1 (M : Mod0) (f : D → Option P) : V → Hp → VK → Prop := fun u H Q => ∃ W S d p, W.H = H ∧ Ok M W S ∧ Sees M W.H W.Bn d u ∧ f d = some p ∧ Fin M W p Q
theorem on1_ok {mu : Bool} {f : D → Option P} {W : Wd} {S : Sto} {x : Vl} {u : V} {Q : VK} {E : XK} (o : Ok X.M W S) (hx : VlR X.M W x u) (h : Aft X.M (VlR X.M) W (on1 mu f x S) Q E) : rD1 X.M f u W.H Q := by
  unfold on1 at h
  split at h
  · rename_i d h1
    unfold ofO at h
    split at h
    · rename_i p h3
      exact ⟨W, S, d, p, rfl, o, vw_sees o hx h1, h3, fin_ok o h⟩
    · exact h.elim
  · exact h.elim
theorem c_un {mu : Bool} {op : UnaryOp} {f : D → Option P} {a : Expr} {ma : ME} {pos : Pos} (ho : UnR X (unaryOp op) (rD1 X.M f)) (ha : PE X a (tE X.M Wx ma)) :
    PE X (.UnaryOp op a pos) (tE X.M Wx (mUn mu f ma)) := by
  refine (pe_un ho ha).imp ?_
  rintro σ H Q ⟨W, ρ, S, ⟨rfl, o, r⟩, h⟩
  exact ⟨W, ρ, S, ⟨rfl, o, r⟩, h.bind fun x S1 u W1 e1 o1 r1 h1 => on1_ok o1 r1 h1⟩
def SeesAll (M : Mod0) (W : Wd) : List D → List V → Prop
  | [], vs => vs = []
  | d :: ds, vs => ∃ v r, vs = v :: r ∧ Sees M W.H W.Bn d v ∧ SeesAll M W ds r
theorem vws_sees {M : Mod0} {W : Wd} {S : Sto} (o : Ok M W S) : ∀ {xs : List Vl} {vs : List V} {ds : List D}, VlRs M W xs vs → vws xs S = some ds → SeesAll M W ds vs
  | [], _, _, r, e => by cases e; exact r
  | x :: xs, _, _, ⟨v, r, q, h, t⟩, e => by
    unfold vws at e
    split at e
    · rename_i d ds h1 h2
      cases e
      exact ⟨v, r, q, vw_sees o h h1, vws_sees o t h2⟩
    · cases e
def rDN (M : Mod0) (f : List D → Option P) : List V → Hp → VK → Prop := fun us H Q => ∃ W S ds p, W.H = H ∧ Ok M W S ∧ SeesAll M W ds us ∧ f ds = some p ∧ Fin M W p Q
theorem onN_ok {mu : Bool} {f : List D → Option P} {W : Wd} {S : Sto} {xs : List Vl} {us : List V} {Q : VK} {E : XK} (o : Ok X.M W S) (hx : VlRs X.M W xs us) (h : Aft X.M (VlR X.M) W (onN mu f xs S) Q E) : rDN X.M f us W.H Q := by
  unfold onN at h
  split at h
  · rename_i d h1
    unfold ofO at h
    split at h
    · rename_i p h3
      exact ⟨W, S, d, p, rfl, o, vws_sees o hx h1, h3, fin_ok o h⟩
    · exact h.elim
  · exact h.elim
theorem t_N {mu : Bool} {f : List D → Option P} {as : MA} {σ : L2.St} {H : Hp} {Q : VK} (h : tE X.M Wx (mN mu f as) σ H Q) : tCB (rDN X.M f) (tA X.M Wx as) σ H Q := by
  obtain ⟨W, ρ, S, ⟨rfl, o, r⟩, h⟩ := h
  exact ⟨W, ρ, S, ⟨rfl, o, r⟩, h.bind fun x S1 u W1 e1 o1 r1 h1 => onN_ok o1 r1 h1⟩
theorem c_blt {mu : Bool} {id : String} {x : Str} {f : List D → Option P} {e : Expr} {es : List Expr} {as : MA} {p pos : Pos} (hc : CallR X (.builtin id) (rDN X.M f)) (hm : X.mg x = none) (hv : bootBuiltins x = some (.builtin id)) (ha : PA X (e :: es) (tA X.M Wx as)) (hg : Gl X x := by rfl)
    (hn : x ≠ "__name__" := by decide) (hdb : (x == ("__debug__" : Str)) = false := by decide) (he : starEach (e :: es) X.env = (false, eval e X.env) :: starEach es X.env := by rfl) (hpl : (backTo pos (starEach es X.env)).any (·.1) = false := by rfl) :
    PE X (.Call (.Name x p) (e :: es) [] pos) (tE X.M Wx (mN mu f as)) := (pe_callB hc hg hm hv ha hn hdb he hpl).imp fun _ _ _ h => t_N h
theorem c_bty {mu : Bool} {T : String} {x : Str} {f : List D → Option P} {e : Expr} {es : List Expr} {as : MA} {p pos : Pos} (hc : CallR X (.type T) (rDN X.M f)) (hm : X.mg x = none) (hv : bootBuiltins x = some (.type T)) (ha : PA X (e :: es) (tA X.M Wx as)) (hg : Gl X x := by rfl)
    (hn : x ≠ "__name__" := by decide) (hdb : (x == ("__debug__" : Str)) = false := by decide) (he : starEach (e :: es) X.env = (false, eval e X.env) :: starEach es X.env := by rfl) (hpl : (backTo pos (starEach es X.env)).any (·.1) = false := by rfl) :
    PE X (.Call (.Name x p) (e :: es) [] pos) (tE X.M Wx (mN mu f as)) := (pe_callTy hc hg hm hv ha hn hdb he hpl).imp fun _ _ _ h => t_N h
theorem c_if {t a b : Expr} {mt : MT} {ma mb : ME} {pos : Pos} (ht : PT X t (tT X.M Wx mt)) (ha : PE X a (tE X.M Wx ma)) (hb : PE X b (tE X.M Wx mb)) : PE X (.IfExp t a b pos) (tE X.M Wx (mIf mt ma mb)) := by
  refine (pe_ifExp ht ha hb).imp ?_
  rintro σ H Q ⟨W, ρ, S, ⟨rfl, o, r⟩, h⟩
  refine ⟨W, ρ, S, ⟨rfl, o, r⟩, h.bind fun x S1 u W1 e1 o1 r1 h1 => ?_⟩
  subst r1
  cases u with
  | true => exact ⟨W1, ρ, S1, ⟨rfl, o1, r.mono e1⟩, h1⟩
  | false => exact ⟨W1, ρ, S1, ⟨rfl, o1, r.mono e1⟩, h1⟩
end
end Tar

set_option autoImplicit false
/-! Tests, displays, statements, loops. -/
namespace Tar
open PySem PySem.Spec PyProof.Rows L2
/-! ### a cell goes stiff -/
section
variable {M : Mod0} {W : Wd} {S : Sto}
theorem Ok.cellAt (o : Ok M W S) {n : Nat} {a : Addr} (h : W.L[n]? = some a) : ∃ c, S[n]? = some c ∧ CellR M W.H W.Bn a c ∧ (c.live = true → W.Bn a) := by
  have hl : n < S.length := by rw [← o.len]; exact (List.getElem?_eq_some_iff.mp h).1
  obtain ⟨a', h1, h2, h3⟩ := o.cell n S[n] (List.getElem?_eq_getElem hl)
  rw [h] at h1
  cases h1
  exact ⟨_, List.getElem?_eq_getElem hl, h2, h3⟩
theorem stiff_ok {x : Vl} {v : V} {d : D} {S' : Sto} (o : Ok M W S) (r : VlR M W x v) (e : stiff x S = some (d, S')) : ∃ W', W'.H = W.H ∧ Ext W W' ∧ Ok M W' S' ∧ Dn M W'.H W'.Bn d v := by
  cases x with
  | im d' => cases e; exact ⟨W, rfl, Ext.refl W, o, r⟩
  | rf n =>
    obtain ⟨a, ha, rfl⟩ := r
    obtain ⟨c, hc, h2, h3⟩ := o.cellAt ha
    simp only [stiff, hc, Option.some.injEq, Prod.mk.injEq] at e
    obtain ⟨rfl, rfl⟩ := e
    let W' : Wd := ⟨W.H, W.L, fun b => W.Bn b ∧ b ≠ a⟩
    have hL : a ∈ W.L := List.mem_of_getElem? ha
    have ex : Ext W W' := ⟨⟨[], (List.append_nil _).symm, (fun _ h => nomatch h), fun b hb => .inl hb.1⟩, fun b _ hb hn => ⟨hb, fun z => hn (z ▸ hL)⟩, fun _ _ h _ => h, fun _ h => h⟩
    have dn : Dn M W'.H W'.Bn c.view (.ref a) := by
      cases c with
      | lst xs => obtain ⟨vs, q, t⟩ := h2; exact ⟨a, vs, rfl, q, fun z => z.2 rfl, t.mono ex.mo⟩
      | dic xs => obtain ⟨vs, q, t⟩ := h2; exact ⟨a, vs, rfl, q, fun z => z.2 rfl, t.mono ex.mo⟩
      | ins c fs => obtain ⟨C, dx, vs, g, q, t⟩ := h2; exact ⟨a, C, dx, vs, rfl, g, q, fun z => z.2 rfl, t.mono ex.mo⟩
      | frz d => exact Dn.mono ex.mo h2
    refine ⟨W', rfl, ex, ⟨by rw [List.length_set]; exact o.len, o.nd, fun b hb => o.trk b hb.1, o.trl, fun m c' hm => ?_⟩, dn⟩
    by_cases hmn : n = m
    · subst hmn
      rw [List.getElem?_set_self (by have := (List.getElem?_eq_some_iff.mp hc).1; exact this)] at hm
      cases hm
      exact ⟨a, ha, dn, fun z => absurd z (by simp [Cell.live])⟩
    · rw [List.getElem?_set_ne hmn] at hm
      obtain ⟨b, q1, q2, q3⟩ := o.cell m c' hm
      refine ⟨b, q1, q2.mono ex.mo (fun _ z => z), fun z => ⟨q3 z, fun zz => hmn ?_⟩⟩
      subst zz
      exact (List.getElem?_inj (List.getElem?_eq_some_iff.mp ha).1 o.nd).mp (ha.trans q1.symm)
theorem stiffs_ok : ∀ {xs : List Vl} {vs : List V} {ds : List D} {W : Wd} {S S' : Sto}, Ok M W S → VlRs M W xs vs → stiffs xs S = some (ds, S') → ∃ W', W'.H = W.H ∧ Ext W W' ∧ Ok M W' S' ∧ Dns M W'.H W'.Bn ds vs
  | [], _, _, W, _, _, o, r, e => by cases e; exact ⟨W, rfl, Ext.refl W, o, r⟩
  | x :: xs, _, _, W, S, S', o, ⟨v, r, q, h, t⟩, e => by
    unfold stiffs at e
    split at e
    · rename_i d S1 h1
      split at e
      · rename_i ds S2 h2
        cases e
        obtain ⟨W1, k1, e1, o1, d1⟩ := stiff_ok o h h1
        obtain ⟨W2, k2, e2, o2, d2⟩ := stiffs_ok o1 (t.mono e1) h2
        exact ⟨W2, k2.trans k1, e1.trans e2, o2, v, r, q, Dn.mono e2.mo d1, d2⟩
      · cases e
    · cases e
end
/-! ### displays -/
section
variable {X : Cx} {Wx : WX}
theorem size24 {n : Nat} (h : n ≤ 16777216) : n ≤ sizeLine := by rw [sizeLine_eq]; exact h
theorem c_tup {es : List Expr} {as : MA} {k : Nat} {pos : Pos} (ha : PA X es (tA X.M Wx as)) : PE X (.Tuple es k pos) (tE X.M Wx (mTup as)) := by
  refine (pe_tup ha).imp ?_
  rintro σ H Q ⟨W, ρ, S, ⟨rfl, o, r⟩, h⟩
  refine ⟨W, ρ, S, ⟨rfl, o, r⟩, h.bind fun xs S1 vs W1 e1 o1 r1 h1 => ?_⟩
  split at h1
  · rename_i ds S2 h2
    obtain ⟨W2, k2, e2, o2, d2⟩ := stiffs_ok o1 r1 h2
    split at h1
    · rename_i hl
      refine ⟨by rw [d2.len]; exact size24 hl, fun p hp => ?_⟩
      rw [← k2] at hp ⊢
      exact fin_ok o2 (h1.go e2) p vs hp d2
    · exact h1.elim
  · exact h1.elim
theorem c_lst {mu : Bool} {es : List Expr} {as : MA} {pos : Pos} (ha : PA X es (tA X.M Wx as)) : PE X (.List es pos) (tE X.M Wx (mLst mu as)) := by
  refine (pe_lst ha).imp ?_
  rintro σ H Q ⟨W, ρ, S, ⟨rfl, o, r⟩, h⟩
  refine ⟨W, ρ, S, ⟨rfl, o, r⟩, h.bind fun xs S1 vs W1 e1 o1 r1 h1 => ?_⟩
  split at h1
  · rename_i ds S2 h2
    obtain ⟨W2, k2, e2, o2, d2⟩ := stiffs_ok o1 r1 h2
    split at h1
    · rename_i hl
      refine ⟨by rw [d2.len]; exact size24 hl, fun p hp => ?_⟩
      rw [← k2] at hp ⊢
      exact fin_ok o2 (h1.go e2) p vs hp d2
    · exact h1.elim
  · exact h1.elim
/-! ### truth, tests -/
def truD : D → Option Bool
  | .non => some false
  | .bl b => some b
  | .int i => some (i != 0)
  | .str z => if z.length ≤ 16777216 then some (!z.isEmpty) else none
  | .lst xs => some (!xs.isEmpty)
  | .tup xs => some (!xs.isEmpty)
  | .dic xs => some (!xs.isEmpty)
  | _ => none
def tru (x : Vl) (S : Sto) : Option Bool := (vw x S).bind truD
def mTru (a : ME) : MT := fun ρ S => (a ρ S).bind fun x S1 => match tru x S1 with
  | some b => .ok b S1
  | none => .no
def mAndT (a b : MT) : MT := fun ρ S => (a ρ S).bind fun k S1 => if k then b ρ S1 else .ok false S1
def mOrT (a b : MT) : MT := fun ρ S => (a ρ S).bind fun k S1 => if k then .ok true S1 else b ρ S1
def mNotT (a : MT) : MT := fun ρ S => (a ρ S).bind fun k S1 => .ok (!k) S1
def mAnd (a b : ME) : ME := fun ρ S => (a ρ S).bind fun x S1 => match tru x S1 with
  | some true => b ρ S1
  | some false => .ok x S1
  | none => .no
def mOr (a b : ME) : ME := fun ρ S => (a ρ S).bind fun x S1 => match tru x S1 with
  | some true => .ok x S1
  | some false => b ρ S1
  | none => .no
def mNot (a : ME) : ME := fun ρ S => (a ρ S).bind fun x S1 => match tru x S1 with
  | some k => .ok (.im (.bl (!k))) S1
  | none => .no
theorem nil_len {M : Mod0} {H : Hp} {Bn : Addr → Prop} {xs : List D} {vs : List V} (h : Dns M H Bn xs vs) : (!vs.isEmpty) = !xs.isEmpty := by
  cases xs with
  | nil => rw [show vs = [] from h]; rfl
  | cons d ds => obtain ⟨v, r, q, _⟩ := h; rw [q]; rfl
theorem nil_lenK {M : Mod0} {H : Hp} {Bn : Addr → Prop} {xs : List (Ky × D)} {vs : List (Key × V)} (h : Dks M H Bn xs vs) : (!vs.isEmpty) = !xs.isEmpty := by
  cases xs with
  | nil => rw [show vs = [] from h]; rfl
  | cons d ds => obtain ⟨v, r, q, _⟩ := h; rw [q]; rfl
theorem tru_ok' {W : Wd} {S : Sto} {x : Vl} {v : V} {k : Bool} (o : Ok X.M W S) (r : VlR X.M W x v) (e : tru x S = some k) : TruV X.K v W.H k := by
  unfold tru at e
  cases h : vw x S with
  | none => rw [h] at e; cases e
  | some d =>
    rw [h] at e
    have hs := vw_sees o r h
    simp only [Option.bind_some] at e
    cases d with
    | non => cases e; rw [show v = .non from hs]; exact rfl
    | bl b => rw [show v = .bl b from hs]; exact (Option.some.inj e).symm
    | int i => rw [show v = .int i from hs]; exact (Option.some.inj e).symm
    | str z =>
      simp only [truD] at e
      split at e
      · rename_i hz
        cases e
        rw [show v = .str (SX.S z) from hs]
        exact ⟨by rw [SX.S_len]; exact size24 hz, by rw [SX.S_len]; cases z <;> simp <;> omega⟩
      · cases e
    | lst xs =>
      cases e
      obtain ⟨a, vs, rfl, h1, h2⟩ := hs
      exact .inl ⟨vs, .inl (.inl h1), (nil_len h2).symm⟩
    | tup xs =>
      cases e
      obtain ⟨a, vs, rfl, h1, h2⟩ := hs
      exact .inr (.inl ⟨vs, h1.imp (fun z => .inl z.1) id, (nil_len h2).symm⟩)
    | dic xs =>
      cases e
      obtain ⟨a, vs, rfl, h1, h2⟩ := hs
      exact .inr (.inr ⟨vs, h1, (nil_lenK h2).symm⟩)
    | _ => cases e
theorem c_tru {e : Expr} {a : ME} (ha : PE X e (tE X.M Wx a)) (he : ∀ whole, isTrue e X.env whole = (do let v ← whole; standAt e.pos; holding [v] (truthy v)) := by intro _; rfl) : PT X e (tT X.M Wx (mTru a)) := by
  refine (pt_truth ha he).imp ?_
  rintro σ H Q ⟨W, ρ, S, ⟨rfl, o, r⟩, h⟩
  refine ⟨W, ρ, S, ⟨rfl, o, r⟩, h.bind fun x S1 v W1 e1 o1 r1 h1 => ?_⟩
  split at h1
  · rename_i b hb
    exact ⟨b, tru_ok' o1 r1 hb, h1 b W1 (Ext.refl W1) o1 rfl⟩
  · exact h1.elim
theorem c_notT {e : Expr} {a : MT} {pos : Pos} (ha : PT X e (tT X.M Wx a)) : PT X (.UnaryOp .Not e pos) (tT X.M Wx (mNotT a)) := by
  refine (pt_not ha).imp ?_
  rintro σ H Q ⟨W, ρ, S, ⟨rfl, o, r⟩, h⟩
  refine ⟨W, ρ, S, ⟨rfl, o, r⟩, h.bind fun x S1 v W1 e1 o1 r1 h1 => ?_⟩
  subst r1
  exact h1 _ W1 (Ext.refl W1) o1 rfl
theorem _root_.L2.PW.imp {e : Expr} {t t' : TT} (h : PW X e t) (k : ∀ σ H Q, t' σ H Q → t σ H Q) : PW X e t' := ⟨fun wh pins s σ H Q I q => h.run wh pins s σ H Q I (k σ H Q q)⟩
theorem c_andT {a b : Expr} {rest : List Expr} {ma mb : MT} {pos : Pos} (ha : PT X a (tT X.M Wx ma)) (hb : PW X (.BoolOp .And (b :: rest) pos) (tT X.M Wx mb)) : PW X (.BoolOp .And (a :: b :: rest) pos) (tT X.M Wx (mAndT ma mb)) := by
  refine (pw_and ha hb).imp ?_
  rintro σ H Q ⟨W, ρ, S, ⟨rfl, o, r⟩, h⟩
  refine ⟨W, ρ, S, ⟨rfl, o, r⟩, h.bind fun x S1 v W1 e1 o1 r1 h1 => ?_⟩
  subst r1
  cases v with
  | true => exact ⟨W1, ρ, S1, ⟨rfl, o1, r.mono e1⟩, h1⟩
  | false => exact h1 false W1 (Ext.refl W1) o1 rfl
theorem c_orT {a b : Expr} {rest : List Expr} {ma mb : MT} {pos : Pos} (ha : PT X a (tT X.M Wx ma)) (hb : PW X (.BoolOp .Or (b :: rest) pos) (tT X.M Wx mb)) : PW X (.BoolOp .Or (a :: b :: rest) pos) (tT X.M Wx (mOrT ma mb)) := by
  refine (pw_or ha hb).imp ?_
  rintro σ H Q ⟨W, ρ, S, ⟨rfl, o, r⟩, h⟩
  refine ⟨W, ρ, S, ⟨rfl, o, r⟩, h.bind fun x S1 v W1 e1 o1 r1 h1 => ?_⟩
  subst r1
  cases v with
  | false => exact ⟨W1, ρ, S1, ⟨rfl, o1, r.mono e1⟩, h1⟩
  | true => exact h1 true W1 (Ext.refl W1) o1 rfl
theorem c_and {a b : Expr} {rest : List Expr} {ma mb : ME} {pos : Pos} (ha : PE X a (tE X.M Wx ma)) (hb : PE X (.BoolOp .And (b :: rest) pos) (tE X.M Wx mb)) : PE X (.BoolOp .And (a :: b :: rest) pos) (tE X.M Wx (mAnd ma mb)) := by
  refine (pe_andT ha hb).imp ?_
  rintro σ H Q ⟨W, ρ, S, ⟨rfl, o, r⟩, h⟩
  refine ⟨W, ρ, S, ⟨rfl, o, r⟩, h.bind fun x S1 v W1 e1 o1 r1 h1 => ?_⟩
  split at h1
  · rename_i hb
    refine ⟨true, tru_ok' o1 r1 hb, ?_⟩
    rw [if_pos rfl]
    exact ⟨W1, ρ, S1, ⟨rfl, o1, r.mono e1⟩, h1⟩
  · rename_i hb
    refine ⟨false, tru_ok' o1 r1 hb, ?_⟩
    rw [if_neg Bool.false_ne_true]
    exact h1 v W1 (Ext.refl W1) o1 r1
  · exact h1.elim
theorem c_or {a b : Expr} {rest : List Expr} {ma mb : ME} {pos : Pos} (ha : PE X a (tE X.M Wx ma)) (hb : PE X (.BoolOp .Or (b :: rest) pos) (tE X.M Wx mb)) : PE X (.BoolOp .Or (a :: b :: rest) pos) (tE X.M Wx (mOr ma mb)) := by
  refine (pe_orT ha hb).imp ?_
  rintro σ H Q ⟨W, ρ, S, ⟨rfl, o, r⟩, h⟩
  refine ⟨W, ρ, S, ⟨rfl, o, r⟩, h.bind fun x S1 v W1 e1 o1 r1 h1 => ?_⟩
  split at h1
  · rename_i hb
    refine ⟨true, tru_ok' o1 r1 hb, ?_⟩
    rw [if_pos rfl]
    exact h1 v W1 (Ext.refl W1) o1 r1
  · rename_i hb
    refine ⟨false, tru_ok' o1 r1 hb, ?_⟩
    rw [if_neg Bool.false_ne_true]
    exact ⟨W1, ρ, S1, ⟨rfl, o1, r.mono e1⟩, h1⟩
  · exact h1.elim
theorem c_not {a : Expr} {ma : ME} {pos : Pos} (ha : PE X a (tE X.M Wx ma)) : PE X (.UnaryOp .Not a pos) (tE X.M Wx (mNot ma)) := by
  refine (pe_notT ha).imp ?_
  rintro σ H Q ⟨W, ρ, S, ⟨rfl, o, r⟩, h⟩
  refine ⟨W, ρ, S, ⟨rfl, o, r⟩, h.bind fun x S1 v W1 e1 o1 r1 h1 => ?_⟩
  split at h1
  · rename_i b hb
    exact ⟨b, tru_ok' o1 r1 hb, h1 _ W1 (Ext.refl W1) o1 rfl⟩
  · exact h1.elim
end
/-! ### statements -/
def R.toS {α : Type} (r : R α) (ρ : Rho) (f : α → Sto → RS) : RS := match r with
  | .no => .no
  | .ok x S' => f x S'
  | .ex e S' => .ex e ρ S'
def sNop : MS := fun ρ S => .nx ρ S
def sSeq (a b : MS) : MS := fun ρ S => (a ρ S).bind b
def sRet (e : ME) : MS := fun ρ S => (e ρ S).toS ρ fun x S' => .rt x S'
def sRetN : MS := fun _ S => .rt (.im .non) S
def sExp (e : ME) : MS := fun ρ S => (e ρ S).toS ρ fun _ S' => .nx ρ S'
def sIf (t : MT) (a b : MS) : MS := fun ρ S => (t ρ S).toS ρ fun k S' => if k then a ρ S' else b ρ S'
def sBrk : MS := fun ρ S => .bk ρ S
def sCnt : MS := fun ρ S => .ct ρ S
/-- targets -/
abbrev MG := Vl → Rho → Sto → RS
def gN (i : Nat) : MG := fun x ρ S => .nx (ρ.set i (some x)) S
abbrev MGs := List D → Rho → Sto → RS
def gsNil : MGs := fun ds ρ S => match ds with
  | [] => .nx ρ S
  | _ => .no
def gsCons (g : MG) (gs : MGs) : MGs := fun ds ρ S => match ds with
  | d :: r => (g (.im d) ρ S).bind fun ρ' S' => gs r ρ' S'
  | [] => .no
def gT (n : Nat) (gs : MGs) : MG := fun x ρ S => match x with
  | .im (.tup ds) => if ds.length = n then gs ds ρ S else .no
  | _ => .no
def sAsg (e : ME) (g : MG) : MS := fun ρ S => (e ρ S).toS ρ fun x S' => g x ρ S'
/-- what a target wants -/
def AftG (M : Mod0) (W : Wd) (r : RS) (Q : L2.St → Hp → Prop) (E : XK) : Prop := match r with
  | .nx ρ' S' => ∀ σ' W', Ext W W' → Ok M W' S' → EnvR M W' ρ' σ' → Q σ' W'.H
  | .ex e _ S' => ∀ cls dx W', Ext W W' → Ok M W' S' → ExR M W' e cls dx → E cls dx W'.H
  | _ => False
def tG (M : Mod0) (Wx : WX) (m : MG) : TG := fun v σ H Q => ∃ W ρ S x, At M W ρ S σ H ∧ VlR M W x v ∧ AftG M W (m x ρ S) Q (fun c d H' => Wx c d σ H')
def tGs (M : Mod0) (Wx : WX) (m : MGs) : TGs := fun vs σ H Q => ∃ W ρ S ds, At M W ρ S σ H ∧ Dns M W.H W.Bn ds vs ∧ AftG M W (m ds ρ S) Q (fun c d H' => Wx c d σ H')
section
variable {X : Cx} {Wx : WX} {pos : Pos}
theorem AftS.seq {M : Mod0} {W : Wd} {r : RS} {f : Rho → Sto → RS} {D : Ends} {Wx : WX} (h : AftS M W (r.bind f) D Wx) (g : L2.St → Hp → Prop) (hg : ∀ ρ S σ W', Ext W W' → Ok M W' S → EnvR M W' ρ σ → AftS M W' (f ρ S) D Wx → g σ W'.H) : AftS M W r { D with nx := g } Wx := by
  cases r with
  | no => exact h
  | nx ρ S => exact fun σ' W' a b c => hg ρ S σ' W' a b c (AftS.go (r := f ρ S) h a)
  | bk ρ S => exact h
  | ct ρ S => exact h
  | rt x S => exact h
  | ex e ρ S => exact h
theorem c_nop : PSs X [] (tS X.M Wx sNop) := by
  refine pss_nil.imp ?_
  rintro D σ H ⟨W, ρ, S, ⟨rfl, o, r⟩, h⟩
  exact h σ W (Ext.refl W) o r
theorem c_seq {a : Stmt} {b : List Stmt} {ma mb : MS} (ha : PS X a (tS X.M Wx ma)) (hb : PSs X b (tS X.M Wx mb)) : PSs X (a :: b) (tS X.M Wx (sSeq ma mb)) := by
  refine (pss_cons ha hb).imp ?_
  rintro D σ H ⟨W, ρ, S, ⟨rfl, o, r⟩, h⟩
  refine ⟨W, ρ, S, ⟨rfl, o, r⟩, h.seq _ fun ρ1 S1 σ1 W1 e1 o1 r1 h1 => ?_⟩
  exact ⟨W1, ρ1, S1, ⟨rfl, o1, r1⟩, h1⟩
theorem c_one {a : Stmt} {ma : MS} (ha : PS X a (tS X.M Wx ma)) : PSs X [a] (tS X.M Wx ma) := pss_one ha
theorem c_pass : PS X (.Pass pos) (tS X.M Wx sNop) := by
  refine ps_pass.imp ?_
  rintro D σ H ⟨W, ρ, S, ⟨rfl, o, r⟩, h⟩
  exact h σ W (Ext.refl W) o r
theorem c_brk : PS X (.Break pos) (tS X.M Wx sBrk) := by
  refine ps_break.imp ?_
  rintro D σ H ⟨W, ρ, S, ⟨rfl, o, r⟩, h⟩
  exact h σ W (Ext.refl W) o r
theorem c_cnt : PS X (.Continue pos) (tS X.M Wx sCnt) := by
  refine ps_continue.imp ?_
  rintro D σ H ⟨W, ρ, S, ⟨rfl, o, r⟩, h⟩
  exact h σ W (Ext.refl W) o r
theorem Aft.toS {α γ : Type} {M : Mod0} {Rl : Wd → α → γ → Prop} {W : Wd} {r : R α} {f : α → Sto → RS} {ρ : Rho} {σ : L2.St} {D : Ends} {Wx : WX} {G : γ → Hp → Prop} (rr : EnvR M W ρ σ)
    (h : AftS M W (r.toS ρ f) D Wx) (hg : ∀ x S' v W', Ext W W' → Ok M W' S' → Rl W' x v → AftS M W' (f x S') D Wx → G v W'.H) : Aft M Rl W r G (fun c d H' => Wx c d σ H') := Aft.bindS rr h hg
theorem c_ret {e : Expr} {a : ME} (ha : PE X e (tE X.M Wx a)) : PS X (.Return (some e) pos) (tS X.M Wx (sRet a)) := by
  refine (ps_ret ha).imp ?_
  rintro D σ H ⟨W, ρ, S, ⟨rfl, o, r⟩, h⟩
  exact ⟨W, ρ, S, ⟨rfl, o, r⟩, Aft.toS r h fun x S1 v W1 e1 o1 r1 h1 => h1 v W1 (Ext.refl W1) o1 r1⟩
theorem c_retN : PS X (.Return none pos) (tS X.M Wx sRetN) := by
  refine ps_retN.imp ?_
  rintro D σ H ⟨W, ρ, S, ⟨rfl, o, r⟩, h⟩
  exact h .non W (Ext.refl W) o rfl
theorem c_exp {e : Expr} {a : ME} (ha : PE X e (tE X.M Wx a)) (hs : swapsWith e none pos.line X.env = pure false := by rfl) : PS X (.Expr e pos) (tS X.M Wx (sExp a)) := by
  refine (ps_expr ha hs).imp ?_
  rintro D σ H ⟨W, ρ, S, ⟨rfl, o, r⟩, h⟩
  exact ⟨W, ρ, S, ⟨rfl, o, r⟩, Aft.toS r h fun x S1 v W1 e1 o1 r1 h1 => h1 σ W1 (Ext.refl W1) o1 (r.mono e1)⟩
theorem c_doc {x : Str} {j : Nat} {pos' : Pos} : PS X (.Expr (.Constant (.str x) j pos) pos') (tS X.M Wx sNop) := by
  refine ps_doc.imp ?_
  rintro D σ H ⟨W, ρ, S, ⟨rfl, o, r⟩, h⟩
  exact h σ W (Ext.refl W) o r
theorem c_ifs {t : Expr} {a b : List Stmt} {mt : MT} {ma mb : MS} (ht : PT X t (tT X.M Wx mt)) (ha : PSs X a (tS X.M Wx ma)) (hb : PSs X b (tS X.M Wx mb)) : PS X (.If t a b pos) (tS X.M Wx (sIf mt ma mb)) := by
  refine (ps_if ht ha hb).imp ?_
  rintro D σ H ⟨W, ρ, S, ⟨rfl, o, r⟩, h⟩
  refine ⟨W, ρ, S, ⟨rfl, o, r⟩, Aft.toS r h fun x S1 v W1 e1 o1 r1 h1 => ?_⟩
  subst r1
  cases v with
  | true => exact ⟨W1, ρ, S1, ⟨rfl, o1, r.mono e1⟩, h1⟩
  | false => exact ⟨W1, ρ, S1, ⟨rfl, o1, r.mono e1⟩, h1⟩
theorem _root_.L2.PG.imp {e : Expr} {t t' : TG} (h : PG X e t) (k : ∀ v σ H Q, t' v σ H Q → t v σ H Q) : PG X e t' := ⟨fun pins s σ H v u Q I r q => h.run pins s σ H v u Q I r (k v σ H Q q)⟩
theorem _root_.L2.PGs.imp {e : List Expr} {t t' : TGs} (h : PGs X e t) (k : ∀ v σ H Q, t' v σ H Q → t v σ H Q) : PGs X e t' := ⟨fun pins s σ H v u Q I r q => h.run pins s σ H v u Q I r (k v σ H Q q)⟩
theorem g_name {i : Nat} {x : Str} (hN : X.N.Nodup) (hi : X.N[i]? = some x := by rfl) (hx : Loc X.env.scope x := by first | exact .inl rfl | exact .inr rfl) (hf : X.fn x = true ∨ X.env.scope.names.lookup x = some .local := by first | exact .inl rfl | exact .inr rfl | assumption) :
    PG X (.Name x pos) (tG X.M Wx (gN i)) := by
  refine (pg_name hN hi hx hf).imp ?_
  rintro v σ H Q ⟨W, ρ, S, x, ⟨rfl, o, r⟩, rx, h⟩
  exact h _ W (Ext.refl W) o (r.set rx i)
theorem gs_nil : PGs X [] (tGs X.M Wx gsNil) := by
  refine pgs_nil.imp ?_
  rintro v σ H Q ⟨W, ρ, S, ds, ⟨rfl, o, r⟩, rx, h⟩
  cases ds with
  | nil => exact ⟨rx, h σ W (Ext.refl W) o r⟩
  | cons d ds => exact h.elim
theorem AftG.go {M : Mod0} {W W1 : Wd} {r : RS} {Q : L2.St → Hp → Prop} {E : XK} (h : AftG M W r Q E) (e : Ext W W1) : AftG M W1 r Q E := by
  cases r with
  | nx ρ' S' => exact fun v W' a b c => h v W' (e.trans a) b c
  | ex x ρ' S' => exact fun cls dx W' a b c => h cls dx W' (e.trans a) b c
  | _ => exact h
theorem gs_cons {e : Expr} {es : List Expr} {g : MG} {gs : MGs} (h1 : PG X e (tG X.M (fun _ _ _ _ => False) g)) (h2 : PGs X es (tGs X.M (fun _ _ _ _ => False) gs))
    (hs : (assignEach (e :: es) X.env).map (·.2) = assign e X.env :: (assignEach es X.env).map (·.2) := by rfl) : PGs X (e :: es) (tGs X.M (fun _ _ _ _ => False) (gsCons g gs)) := by
  refine (pgs_cons h1 h2 hs).imp ?_
  rintro v σ H Q ⟨W, ρ, S, ds, ⟨rfl, o, r⟩, rx, h⟩
  cases ds with
  | nil => exact h.elim
  | cons d ds =>
    obtain ⟨v, rr, rfl, hd, ht⟩ := rx
    refine ⟨v, rr, rfl, W, ρ, S, .im d, ⟨rfl, o, r⟩, hd, ?_⟩
    simp only [gsCons] at h
    cases hg : g (.im d) ρ S with
    | nx ρ1 S1 =>
      rw [hg] at h
      exact fun σ1 W1 e1 o1 r1 => ⟨W1, ρ1, S1, ds, ⟨rfl, o1, r1⟩, ht.mono e1.mo, AftG.go (r := gs ds ρ1 S1) h e1⟩
    | ex e1 ρ1 S1 => rw [hg] at h; exact h
    | no => rw [hg] at h; exact h.elim
    | bk _ _ => rw [hg] at h; exact h.elim
    | ct _ _ => rw [hg] at h; exact h.elim
    | rt _ _ => rw [hg] at h; exact h.elim
theorem g_tup {es : List Expr} {k n : Nat} {gs : MGs} (hc : X.calm = true) (h : PGs X es (tGs X.M (fun _ _ _ _ => False) gs)) (hn : (assignEach es X.env).length = n := by rfl) (hst : (assignEach es X.env).findIdx? (·.1) = none := by rfl) :
    PG X (.Tuple es k pos) (tG X.M (fun _ _ _ _ => False) (gT n gs)) := by
  refine (pg_tup hc h hn hst).imp ?_
  rintro v σ H Q ⟨W, ρ, S, x, ⟨rfl, o, r⟩, rx, h⟩
  cases x with
  | rf n => exact h.elim
  | im d =>
    cases d with
    | tup ds =>
      simp only [gT] at h
      split at h
      · rename_i hl
        obtain ⟨a, vs, rfl, h1, h2⟩ := rx
        exact ⟨a, vs, rfl, h1.imp (fun z => .inl z.1) id, h2.len.trans hl, W, ρ, S, ds, ⟨rfl, o, r⟩, h2, h⟩
      · exact h.elim
    | _ => exact h.elim
theorem tG_any {e : Expr} {g : MG} (h : PG X e (tG X.M (fun _ _ _ _ => False) g)) : PG X e (tG X.M (fun _ _ _ _ => False) g) := h
/-- target = value, where the target's store raises nothing -/
theorem c_asg {tg e : Expr} {a : ME} {g : MG} (he : PE X e (tE X.M Wx a)) (hg : PG X tg (tG X.M (fun _ _ _ _ => False) g)) (hno : ∀ x ρ S e' ρ' S', g x ρ S ≠ .ex e' ρ' S') (hnr : ∀ x ρ S v S', g x ρ S ≠ .rt v S') (hnb : ∀ x ρ S v S', g x ρ S ≠ .bk v S') (hnc : ∀ x ρ S v S', g x ρ S ≠ .ct v S')
    (hs : swapsWithSole [tg] e pos.line X.env = pure false := by rfl) (hw : swappedStores [tg] e X.env = pure none := by rfl) (h1 : (assignEach [tg] X.env).map (·.2) = [assign tg X.env] := by rfl) : PS X (.Assign [tg] e pos) (tS X.M Wx (sAsg a g)) := by
  refine (ps_asg he hg hs hw h1).imp ?_
  rintro D σ H ⟨W, ρ, S, ⟨rfl, o, r⟩, h⟩
  refine ⟨W, ρ, S, ⟨rfl, o, r⟩, Aft.toS r h fun x S1 v W1 e1 o1 r1 h1 => ?_⟩
  refine ⟨W1, ρ, S1, x, ⟨rfl, o1, r.mono e1⟩, r1, ?_⟩
  cases hq : g x ρ S1 with
  | nx ρ' S' => rw [hq] at h1; exact h1
  | no => rw [hq] at h1; exact h1.elim
  | ex a b c => exact absurd hq (hno _ _ _ _ _ _)
  | rt a b => exact absurd hq (hnr _ _ _ _ _)
  | bk a b => exact absurd hq (hnb _ _ _ _ _)
  | ct a b => exact absurd hq (hnc _ _ _ _ _)
theorem c_set {i : Nat} {x : Str} {e : Expr} {a : ME} {pos' : Pos} (hN : X.N.Nodup) (he : PE X e (tE X.M Wx a)) (hi : X.N[i]? = some x := by rfl) (hx : Loc X.env.scope x := by first | exact .inl rfl | exact .inr rfl) (hs : swapsWith e (some (.Name x pos')) pos.line X.env = pure false := by rfl)
    (hf : X.fn x = true ∨ X.env.scope.names.lookup x = some .local := by first | exact .inl rfl | exact .inr rfl | assumption) : PS X (.Assign [.Name x pos'] e pos) (tS X.M Wx (sAsg a (gN i))) := by
  refine (ps_set hN hi hx he hs hf).imp ?_
  rintro D σ H ⟨W, ρ, S, ⟨rfl, o, r⟩, h⟩
  exact ⟨W, ρ, S, ⟨rfl, o, r⟩, Aft.toS r h fun x S1 v W1 e1 o1 r1 h1 => h1 _ W1 (Ext.refl W1) o1 ((r.mono e1).set r1 i)⟩
end
end Tar

set_option autoImplicit false
/-! Loops, defs, calls. -/
namespace Tar
open PySem PySem.Spec PyProof.Rows L2
/-! ### what is walked -/
abbrev MI := Rho → Sto → R (List D)
/-- the turns J give ds -/
structure ItR (M : Mod0) (W : Wd) (J : It) (ds : List D) : Prop where
  ex : ∃ (G : Hp → Prop) (Y : Nat → Hp → V → Hp → Prop), Walk J ds.length G Y ∧ (∀ W', Ext W W' → G W'.H) ∧
    ∀ i W' S' x H', Ext W W' → Ok M W' S' → i < ds.length → Y i W'.H x H' → ∃ W3 d, W3.H = H' ∧ Ext W' W3 ∧ Ok M W3 S' ∧ ds[i]? = some d ∧ Dn M W3.H W3.Bn d x
def tI (M : Mod0) (Wx : WX) (m : MI) : TI := fun σ H R => ∃ W ρ S, At M W ρ S σ H ∧ Aft M (ItR M |> fun f W ds J => f W J ds) W (m ρ S) R (fun c d H' => Wx c d σ H')
theorem _root_.L2.PI.imp {X : Cx} {tg e : Expr} {t t' : TI} (h : PI X tg e t) (k : ∀ σ H Q, t' σ H Q → t σ H Q) : PI X tg e t' := ⟨fun pins s σ H Q I q => h.run pins s σ H Q I (k σ H Q q)⟩
theorem _root_.L2.PI.or {X : Cx} {tg e : Expr} {t t' : TI} (h : PI X tg e t) (h' : PI X tg e t') : PI X tg e (fun σ H R => t σ H R ∨ t' σ H R) := ⟨fun pins s σ H Q I q => q.elim (h.run pins s σ H Q I) (h'.run pins s σ H Q I)⟩
/-- the items of a thing -/
def itemsD : D → Option (List D)
  | .lst xs => some xs
  | .tup xs => some xs
  | .str z => some (z.map fun c => .str [c])
  | .byt z => some (z.map fun (c : Nat) => .int c)
  | .scr ns => some (ns.map .int)
  | _ => none
def mIter (a : ME) : MI := fun ρ S => (a ρ S).bind fun x S1 => match stiff x S1 with
  | some (d, S2) => match itemsD d with
    | some ds => .ok ds S2
    | none => .no
  | none => .no
def rngD (lo : Int) (n : Nat) : List D := (List.range n).map fun (i : Nat) => .int (lo + i)
def okR (i : Int) : Bool := decide (-(2 ^ 62) ≤ i ∧ i < 2 ^ 62)
def mRng1 (a : ME) : MI := fun ρ S => (a ρ S).bind fun x S1 => match x with
  | .im (.int j) => if okR j then .ok (rngD 0 j.toNat) S1 else .no
  | _ => .no
def mRng2 (a b : ME) : MI := fun ρ S => (a ρ S).bind fun x S1 => (b ρ S1).bind fun y S2 => match x, y with
  | .im (.int i), .im (.int j) => if okR i && okR j then .ok (rngD i (j - i).toNat) S2 else .no
  | _, _ => .no
/-! ### for, while -/
def forL (g : MG) (b : MS) : List D → Rho → Sto → RS
  | [], ρ, S => .nx ρ S
  | d :: ds, ρ, S => match g (.im d) ρ S with
    | .nx ρ1 S1 => match b ρ1 S1 with
      | .nx ρ2 S2 => forL g b ds ρ2 S2
      | .ct ρ2 S2 => forL g b ds ρ2 S2
      | .bk ρ2 S2 => .nx ρ2 S2
      | r => r
    | _ => .no
def sFor (it : MI) (g : MG) (b : MS) : MS := fun ρ S => (it ρ S).toS ρ fun ds S' => forL g b ds ρ S'
def whlN (t : MT) (b : MS) : Nat → Rho → Sto → RS
  | 0, _, _ => .no
  | n + 1, ρ, S => (t ρ S).toS ρ fun k S1 => if k then (match b ρ S1 with
      | .nx ρ2 S2 => whlN t b n ρ2 S2
      | .ct ρ2 S2 => whlN t b n ρ2 S2
      | .bk ρ2 S2 => .nx ρ2 S2
      | r => r) else .nx ρ S1
def sWhl (n : Nat) (t : MT) (b : MS) : MS := fun ρ S => whlN t b n ρ S
section
variable {X : Cx} {Wx : WX} {pos : Pos}
theorem Dns.nth {M : Mod0} {H : Hp} {Bn : Addr → Prop} {ds : List D} {vs : List V} {i : Nat} {v : V} (h : Dns M H Bn ds vs) (e : vs[i]? = some v) : ∃ d, ds[i]? = some d ∧ Dn M H Bn d v := by
  have hl : i < ds.length := by rw [← h.len]; exact (List.getElem?_eq_some_iff.mp e).1
  obtain ⟨v', h1, h2⟩ := h.get (List.getElem?_eq_getElem hl)
  rw [e] at h1
  cases h1
  exact ⟨_, List.getElem?_eq_getElem hl, h2⟩
theorem itr_list {M : Mod0} {W : Wd} {a : Addr} {vs : List V} {ds : List D} (h : Im W.H W.Bn a (.lst vs) ∨ KL M.K a vs) (r : Dns M W.H W.Bn ds vs) : ItR M W (Itl M.K a) ds := by
  refine ⟨_, _, r.len ▸ walk_list (K := M.K) (a := a) (xs := vs), fun W' e => h.imp (fun z => (e.mo.im z).1) id, fun i W' S' x H' e o hi y => ?_⟩
  obtain ⟨rfl, hx⟩ := y
  obtain ⟨d, h1, h2⟩ := (r.mono e.mo).nth hx
  exact ⟨W', d, rfl, Ext.refl W', o, h1, h2⟩
theorem itr_tup {M : Mod0} {W : Wd} {a : Addr} {vs : List V} {ds : List D} (h : (W.H a = some (.tup vs) ∧ ¬ W.Bn a) ∨ KT M.K a vs) (r : Dns M W.H W.Bn ds vs) : ItR M W (Itt M.K a) ds := by
  refine ⟨_, _, r.len ▸ walk_tup (K := M.K) (a := a) (xs := vs), fun W' e => h.imp (fun z => .inl (e.mo a _ z.1 z.2).1) id, fun i W' S' x H' e o hi y => ?_⟩
  obtain ⟨rfl, hx⟩ := y
  obtain ⟨d, h1, h2⟩ := (r.mono e.mo).nth hx
  exact ⟨W', d, rfl, Ext.refl W', o, h1, h2⟩
theorem dns_int {M : Mod0} {H : Hp} {Bn : Addr → Prop} : ∀ ns : List Int, Dns M H Bn (ns.map D.int) (ns.map V.int)
  | [] => rfl
  | _ :: ns => ⟨_, _, rfl, rfl, dns_int ns⟩
theorem itr_str {M : Mod0} {W : Wd} {z : List Nat} : ItR M W (Its (SX.S z)) (z.map fun c => D.str [c]) := by
  have hn : (SX.S z).cps.size = (z.map fun c => D.str [c]).length := by simp [SX.S]
  refine ⟨_, _, hn ▸ walk_str (z := SX.S z), fun W' e => trivial, fun i W' S' x H' e o hi y => ?_⟩
  obtain ⟨rfl, c, hc, rfl⟩ := y
  refine ⟨W', .str [c], rfl, Ext.refl W', o, ?_, rfl⟩
  have hc' : z[i]? = some c := by simpa [SX.S] using hc
  rw [List.getElem?_map, hc']
  rfl
theorem itr_rng {M : Mod0} {W : Wd} {lo : Int} {n : Nat} : ItR M W (Itr lo n) (rngD lo n) := by
  have hn : (rngD lo n).length = n := by simp [rngD]
  refine ⟨_, _, by rw [hn]; exact walk_range (lo := lo) (n := n), fun W' e => trivial, fun i W' S' x H' e o hi y => ?_⟩
  obtain ⟨rfl, rfl⟩ := y
  refine ⟨W', .int (lo + i), rfl, Ext.refl W', o, ?_, rfl⟩
  rw [hn] at hi
  simp [rngD, hi]
theorem itr_byt {M : Mod0} {W : Wd} {z : List Nat} (hz : Lt256 z) : ItR M W (Itb (B z)) (z.map fun (c : Nat) => D.int c) := by
  have hn : (z.map fun (c : Nat) => D.int c).length = (B z).size := by rw [B_size, List.length_map]
  refine ⟨fun _ => True, fun i H x H' => H' = H ∧ ∃ c, (B z)[i]? = some c ∧ x = .int (c.toNat : Nat), ?_, fun W' e => trivial, fun i W' S' x H' e o hi y => ?_⟩
  · rw [hn]
    exact ⟨fun _ _ hi _ => hi, fun _ _ => Nat.le_refl _, fun _ _ _ _ _ _ y => y⟩
  obtain ⟨rfl, c, hc, rfl⟩ := y
  rw [B_get] at hc
  cases hq : z[i]? with
  | none => rw [hq] at hc; cases hc
  | some m =>
    rw [hq] at hc
    cases hc
    refine ⟨W', .int m, rfl, Ext.refl W', o, ?_, ?_⟩
    · rw [List.getElem?_map, hq]
      rfl
    · show V.int _ = V.int _
      rw [u8_nat (hz m (List.mem_of_getElem? hq))]
def iAny (K : PySem.W.Frag) (te : TE) : TI := fun σ H R => te σ H fun x H1 => (∃ a xs, x = .ref a ∧ SqL K H1 a xs ∧ R (Itl K a) H1) ∨ (∃ a xs, x = .ref a ∧ SqT K H1 a xs ∧ R (Itt K a) H1) ∨ (∃ z, x = .str z ∧ R (Its z) H1) ∨ ∃ z, x = .byt z ∧ R (Itb z) H1
theorem pi_any {tg l : Expr} {tl : TE} (hl : PE X l tl) : PI X tg l (iAny X.K tl) := by
  refine ⟨fun pins s σ H R I h => ?_⟩
  refine thn (hl.run pins s σ H _ I h) fun v s1 ⟨x, H1, I1, r1, q1⟩ => ?_
  rcases q1 with ⟨a, xs, rfl, hq, q⟩ | ⟨a, xs, rfl, hq, q⟩ | ⟨z, rfl, q⟩ | ⟨z, rfl, q⟩
  · cases r1
    obtain ⟨its, rv, p, hz⟩ := I1.list hq
    refine wpAny_pyIter_list p.isList ?_
    exact pi_one (tk := s1.toks) I1 _ (turn_list a _) ⟨_, Heap.get?_push_size _ rfl, rfl, rfl⟩ q
  · cases r1
    obtain ⟨its, rv, p, hz⟩ := I1.tuple hq
    refine wpAny_pyIter_tuple (show s1.heap.IsTuple a its.toArray from p) ?_
    exact pi_one (tk := s1.toks) I1 _ (turn_tuple a _) ⟨_, Heap.get?_push_size _ rfl, rfl, rfl⟩ q
  · obtain ⟨t, rfl⟩ := r1
    cases ha : z.cps.all (· < 128)
    · exact wpAny_pyIter_wide ha (pi_one (tk := s1.toks) I1 _ (turn_str _ z t "str_iterator" (.inr rfl)) ⟨_, Heap.get?_push_size _ rfl, rfl, rfl⟩ q)
    · exact wpAny_pyIter_ascii ha (pi_one (tk := s1.toks) I1 _ (turn_str _ z t "str_ascii_iterator" (.inl rfl)) ⟨_, Heap.get?_push_size _ rfl, rfl, rfl⟩ q)
  · obtain ⟨t, rfl⟩ := r1
    exact PySem.W.KBw.pyIter_bytes (pi_one (tk := s1.toks) I1 _ (turn_byt _ z t) ⟨_, Heap.get?_push_size _ rfl, rfl, rfl⟩ q)
theorem i_of {tg e : Expr} {a : ME} (ha : PE X e (tE X.M Wx a)) : PI X tg e (tI X.M Wx (mIter a)) := by
  refine (pi_any ha).imp ?_
  rintro σ H Q ⟨W, ρ, S, ⟨rfl, o, r⟩, h⟩
  refine ⟨W, ρ, S, ⟨rfl, o, r⟩, h.bind fun x S1 v W1 e1 o1 r1 h1 => ?_⟩
  split at h1
  · rename_i d S2 h2
    obtain ⟨W2, k2, e2, o2, d2⟩ := stiff_ok o1 r1 h2
    split at h1
    · rename_i ds h3
      cases d with
      | lst xs =>
        cases h3
        obtain ⟨a, vs, rfl, i2, n2, t2⟩ := d2
        refine .inl ⟨a, vs, rfl, .inl (.inl (k2 ▸ i2)), ?_⟩
        have := h1 (Itl X.K a) W2 e2 o2 (itr_list (M := X.M) (.inl ⟨.inl i2, n2⟩) t2)
        rwa [k2] at this
      | scr ns =>
        cases h3
        obtain ⟨a, rfl, i2⟩ := d2
        have i3 : Im W2.H W2.Bn a (.lst (ns.map V.int)) ∨ KL X.K a (ns.map V.int) := i2.imp (fun ⟨o, q, n⟩ => ⟨.inr ⟨o, q⟩, n⟩) id
        have i4 : SqL X.K W1.H a (ns.map V.int) := by rw [← k2]; exact i3.imp (fun z => z.1) id
        refine .inl ⟨a, _, rfl, i4, ?_⟩
        have := h1 (Itl X.K a) W2 e2 o2 (itr_list (M := X.M) i3 (dns_int ns))
        rwa [k2] at this
      | tup xs =>
        cases h3
        obtain ⟨a, vs, rfl, i2, t2⟩ := d2
        have i4 : SqT X.K W1.H a vs := by rw [← k2]; exact i2.imp (fun z => .inl z.1) id
        refine .inr (.inl ⟨a, vs, rfl, i4, ?_⟩)
        have := h1 (Itt X.K a) W2 e2 o2 (itr_tup (M := X.M) i2 t2)
        rwa [k2] at this
      | str z =>
        cases h3
        refine .inr (.inr (.inl ⟨SX.S z, d2, ?_⟩))
        have := h1 (Its (SX.S z)) W2 e2 o2 itr_str
        rwa [k2] at this
      | byt z =>
        cases h3
        refine .inr (.inr (.inr ⟨B z, d2.1, ?_⟩))
        have := h1 (Itb (B z)) W2 e2 o2 (itr_byt d2.2)
        rwa [k2] at this
      | _ => cases h3
    · exact h1.elim
  · exact h1.elim
theorem i_rng1 {tg a : Expr} {ma : ME} {p pos : Pos} (hm : X.mg "range" = none) (ha : PE X a (tE X.M Wx ma)) (hg : Gl X "range" := by rfl) (hs : starEach [a] X.env = [(false, eval a X.env)] := by rfl) : PI X tg (.Call (.Name "range" p) [a] [] pos) (tI X.M Wx (mRng1 ma)) := by
  refine (pi_range1 hg hm (pa_cons ha pa_nil hs) hs).imp ?_
  rintro σ H Q ⟨W, ρ, S, ⟨rfl, o, r⟩, h⟩
  refine ⟨W, ρ, S, ⟨rfl, o, r⟩, h.bind fun x S1 v W1 e1 o1 r1 h1 => ?_⟩
  split at h1
  · rename_i j
    split at h1
    · rename_i hj
      obtain ⟨j1, j2⟩ := of_decide_eq_true hj
      rw [show v = .int j from r1]
      exact ⟨j, rfl, j1, j2, h1 (Itr 0 j.toNat) W1 (Ext.refl W1) o1 itr_rng⟩
    · exact h1.elim
  · exact h1.elim
theorem i_rng2 {tg a b : Expr} {ma mb : ME} {p pos : Pos} (hm : X.mg "range" = none) (ha : PE X a (tE X.M Wx ma)) (hb : PE X b (tE X.M Wx mb)) (hg : Gl X "range" := by rfl) (hs : starEach [a, b] X.env = [(false, eval a X.env), (false, eval b X.env)] := by rfl) (hs2 : starEach [b] X.env = [(false, eval b X.env)] := by rfl) (hs3 : starEach [a, b] X.env = (false, eval a X.env) :: starEach [b] X.env := by rfl) :
    PI X tg (.Call (.Name "range" p) [a, b] [] pos) (tI X.M Wx (mRng2 ma mb)) := by
  refine (pi_range2 hg hm (pa_cons ha (pa_cons hb pa_nil hs2) hs3) hs hs2).imp ?_
  rintro σ H Q ⟨W, ρ, S, ⟨rfl, o, r⟩, h⟩
  refine ⟨W, ρ, S, ⟨rfl, o, r⟩, h.bind fun x S1 u W1 e1 o1 r1 h1 => ?_⟩
  refine ⟨W1, ρ, S1, ⟨rfl, o1, r.mono e1⟩, h1.bind fun y S2 v W2 e2 o2 r2 h2 => ?_⟩
  split at h2
  · rename_i i j
    split at h2
    · rename_i hj
      obtain ⟨hi, hj⟩ := Bool.and_eq_true_iff.mp hj
      obtain ⟨i1, i2⟩ := of_decide_eq_true hi
      obtain ⟨j1, j2⟩ := of_decide_eq_true hj
      rw [show u = .int i from r1, show v = .int j from r2]
      exact ⟨i, j, rfl, ⟨i1, i2, j1, j2⟩, h2 (Itr i (j - i).toNat) W2 (Ext.refl W2) o2 itr_rng⟩
    · exact h2.elim
  · exact h2.elim
theorem c_for {tg iter : Expr} {body : List Stmt} {it : MI} {g : MG} {b : MS} (hp : PassesOwn (model X.prog X.w) X.A X.env X.xe) (hc : X.calm = true) (hi : PI X tg iter (tI X.M Wx it)) (hg : PG X tg (tG X.M (fun _ _ _ _ => False) g)) (hb : PSs X body (tS X.M Wx b))
    (hs : ∀ x, foldedSetIterable iter X.env x = pure x := by intro _; rfl) : PS X (.For tg iter body [] pos) (tS X.M Wx (sFor it g b)) := by
  refine (ps_for hp hc hi hg hb hs).imp ?_
  rintro D σ H ⟨W, ρ, S, ⟨rfl, o, r⟩, h⟩
  refine ⟨W, ρ, S, ⟨rfl, o, r⟩, Aft.toS r h fun ds S1 J W1 e1 o1 r1 h1 => ?_⟩
  obtain ⟨G, Y, wk, hG, hY⟩ := r1.ex
  refine for_it wk (fun i σ' H' => ∃ W' ρ' S', Ext W1 W' ∧ At X.M W' ρ' S' σ' H' ∧ AftS X.M W' (forL g b (ds.drop i) ρ' S') D Wx) ⟨W1, ρ, S1, Ext.refl W1, ⟨rfl, o1, r.mono e1⟩, by simpa using h1⟩ ?_ ?_ ?_
  · rintro i σ' H' hi ⟨W', ρ', S', e', ⟨rfl, _, _⟩, _⟩
    exact hG W' e'
  · rintro i x σ' H' H2 hi ⟨W', ρ', S', e', ⟨rfl, o', r'⟩, h'⟩ y
    obtain ⟨W3, d, rfl, e3, o3, hd, dn⟩ := hY i W' S' x H2 e' o' hi y
    have hdr : ds.drop i = d :: ds.drop (i + 1) := by
      have hl := (List.getElem?_eq_some_iff.mp hd)
      rw [List.drop_eq_getElem_cons hl.1, hl.2]
    rw [hdr] at h'
    refine ⟨W3, ρ', S', .im d, ⟨rfl, o3, r'.mono e3⟩, dn, ?_⟩
    have h3 := h'.go e3
    simp only [forL] at h3
    cases hq : g (.im d) ρ' S' with
    | nx ρ4 S4 =>
      rw [hq] at h3
      intro σ4 W4 e4 o4 r4
      refine ⟨W4, ρ4, S4, ⟨rfl, o4, r4⟩, ?_⟩
      have h4 := h3.go e4
      dsimp only at h4
      cases hb' : b ρ4 S4 with
      | no => rw [hb'] at h4; exact h4
      | nx ρ5 S5 =>
        rw [hb'] at h4
        exact fun σ5 W5 e5 o5 r5 => ⟨W5, ρ5, S5, e'.trans (e3.trans (e4.trans e5)), ⟨rfl, o5, r5⟩, h4.go e5⟩
      | ct ρ5 S5 =>
        rw [hb'] at h4
        exact fun σ5 W5 e5 o5 r5 => ⟨W5, ρ5, S5, e'.trans (e3.trans (e4.trans e5)), ⟨rfl, o5, r5⟩, h4.go e5⟩
      | bk ρ5 S5 => rw [hb'] at h4; exact h4
      | rt x5 S5 => rw [hb'] at h4; exact h4
      | ex x5 ρ5 S5 => rw [hb'] at h4; exact h4
    | no => rw [hq] at h3; exact h3.elim
    | ex _ _ _ => rw [hq] at h3; exact h3.elim
    | rt _ _ => rw [hq] at h3; exact h3.elim
    | bk _ _ => rw [hq] at h3; exact h3.elim
    | ct _ _ => rw [hq] at h3; exact h3.elim
  · rintro σ' H' ⟨W', ρ', S', e', ⟨rfl, o', r'⟩, h'⟩
    rw [List.drop_length] at h'
    exact h' σ' W' (Ext.refl W') o' r'
theorem c_whl {n : Nat} {t : Expr} {body : List Stmt} {mt : MT} {b : MS} (hp : PassesOwn (model X.prog X.w) X.A X.env X.xe) (ht : PT X t (tT X.M Wx mt)) (hb : PSs X body (tS X.M Wx b)) : PS X (.While t body [] pos) (tS X.M Wx (sWhl n mt b)) := by
  refine (ps_while hp ht hb).imp ?_
  rintro D σ H ⟨W, ρ, S, ⟨rfl, o, r⟩, h⟩
  refine ⟨fun m σ' H' => ∃ W' ρ' S', At X.M W' ρ' S' σ' H' ∧ AftS X.M W' (whlN mt b m ρ' S') D Wx, ⟨n, W, ρ, S, ⟨rfl, o, r⟩, h⟩, ?_⟩
  rintro m σ' H' ⟨W', ρ', S', ⟨rfl, o', r'⟩, h'⟩
  cases m with
  | zero => exact h'.elim
  | succ m =>
    refine ⟨W', ρ', S', ⟨rfl, o', r'⟩, Aft.toS r' h' fun x S1 v W1 e1 o1 r1 h1 => ?_⟩
    subst r1
    cases v with
    | false => exact h1 σ' W1 (Ext.refl W1) o1 (r'.mono e1)
    | true =>
      refine ⟨fun σ2 H2 => ∃ W2 ρ2 S2, At X.M W2 ρ2 S2 σ2 H2 ∧ AftS X.M W2 (whlN mt b m ρ2 S2) D Wx, fun σ2 H2 h2 => ⟨m, Nat.lt_succ_self m, h2⟩, W1, ρ', S1, ⟨rfl, o1, r'.mono e1⟩, ?_⟩
      have h4 : AftS X.M W1 (match b ρ' S1 with
        | .nx ρ2 S2 => whlN mt b m ρ2 S2
        | .ct ρ2 S2 => whlN mt b m ρ2 S2
        | .bk ρ2 S2 => .nx ρ2 S2
        | r => r) D Wx := h1
      cases hb' : b ρ' S1 with
      | no => rw [hb'] at h4; exact h4
      | nx ρ5 S5 =>
        rw [hb'] at h4
        exact fun σ5 W5 e5 o5 r5 => ⟨W5, ρ5, S5, ⟨rfl, o5, r5⟩, h4.go e5⟩
      | ct ρ5 S5 =>
        rw [hb'] at h4
        exact fun σ5 W5 e5 o5 r5 => ⟨W5, ρ5, S5, ⟨rfl, o5, r5⟩, h4.go e5⟩
      | bk ρ5 S5 => rw [hb'] at h4; exact h4
      | rt x5 S5 => rw [hb'] at h4; exact h4
      | ex x5 ρ5 S5 => rw [hb'] at h4; exact h4
end
end Tar

set_option autoImplicit false
/-! Defs and calls: a callee has a store of its own, with the cells that it is handed. -/
namespace Tar
open PySem PySem.Spec PyProof.Rows L2
def fnM (n : Nat) (b : MS) : MF := fun xs S => match b (xs.map some ++ List.replicate (n - xs.length) none) S with
  | .nx _ S' => .ok (.im .non) S'
  | .rt x S' => .ok x S'
  | .ex e _ S' => .ex e S'
  | _ => .no
def refsOf : List Vl → List Nat
  | [] => []
  | .rf n :: xs => n :: refsOf xs
  | .im _ :: xs => refsOf xs
def ren (ns : List Nat) : Vl → Vl
  | .im d => .im d
  | .rf n => .rf (ns.idxOf n)
def getB : List Nat → Sto → Option Sto
  | [], _ => some []
  | n :: ns, S => match S[n]?, getB ns S with
    | some c, some cs => some (c :: cs)
    | _, _ => none
def putB : List Nat → Sto → Sto → Sto
  | n :: ns, c :: cs, S => putB ns cs (S.set n c)
  | _, _, S => S
def backV (own : Bool) (ns : List Nat) (cs : Sto) (v : Vl) (S : Sto) : R Vl := match v with
  | .im d => .ok (.im d) S
  | .rf k => if k < ns.length then (match ns[k]? with
      | some n => .ok (.rf n) S
      | none => .no) else match cs[k]? with
      | some c => if own then .ok (.rf S.length) (S ++ [c]) else .ok (.im c.view) S
      | none => .no
def callB (own : Bool) (m : MF) (xs : List Vl) (S : Sto) : R Vl :=
  if (refsOf xs).Nodup then match getB (refsOf xs) S with
    | none => .no
    | some cs => match m (xs.map (ren (refsOf xs))) cs with
      | .no => .no
      | .ex e cs' => .ex e (putB (refsOf xs) cs' S)
      | .ok v cs' => backV own (refsOf xs) cs' v (putB (refsOf xs) cs' S)
  else .no
/-! ### kept -/
section
theorem putB_len : ∀ (ns : List Nat) (cs S : Sto), (putB ns cs S).length = S.length
  | [], _, _ => by simp [putB]
  | _ :: _, [], _ => by simp [putB]
  | n :: ns, c :: cs, S => by rw [putB, putB_len ns cs, List.length_set]
theorem putB_out : ∀ (ns : List Nat) (cs S : Sto) (m : Nat), m ∉ ns → (putB ns cs S)[m]? = S[m]?
  | [], _, _, _, _ => by simp [putB]
  | _ :: _, [], _, _, _ => by simp [putB]
  | n :: ns, c :: cs, S, m, h => by
    rw [putB, putB_out ns cs _ m (fun z => h (List.mem_cons_of_mem _ z)), List.getElem?_set_ne (fun z => h (by rw [z]; exact List.mem_cons_self))]
theorem putB_in : ∀ (ns : List Nat) (cs S : Sto) (i m : Nat), ns.Nodup → ns[i]? = some m → i < cs.length → m < S.length → (putB ns cs S)[m]? = cs[i]?
  | [], _, _, _, _, _, h, _, _ => by simp at h
  | _ :: _, [], _, _, _, _, _, h, _ => by simp at h
  | n :: ns, c :: cs, S, 0, m, nd, h, _, hm => by
    simp at h
    subst h
    rw [putB, putB_out ns cs _ n (List.nodup_cons.mp nd).1, List.getElem?_set_self hm]
    rfl
  | n :: ns, c :: cs, S, i + 1, m, nd, h, hi, hm => by
    rw [putB, putB_in ns cs _ i m (List.nodup_cons.mp nd).2 (by simpa using h) (by simpa using hi) (by rw [List.length_set]; exact hm)]
    simp
theorem getB_get : ∀ (ns : List Nat) (S cs : Sto), getB ns S = some cs → cs.length = ns.length ∧ ∀ (i n : Nat), ns[i]? = some n → cs[i]? = S[n]? ∧ n < S.length
  | [], _, _, h => by cases h; exact ⟨rfl, fun i n z => by simp at z⟩
  | n :: ns, S, cs, h => by
    unfold getB at h
    split at h
    · rename_i c cs' h1 h2
      cases h
      obtain ⟨l, g⟩ := getB_get ns S cs' h2
      refine ⟨by simp [l], fun i m hi => ?_⟩
      cases i with
      | zero => simp at hi; subst hi; exact ⟨by simp [h1], (List.getElem?_eq_some_iff.mp h1).1⟩
      | succ i => simpa using g i m (by simpa using hi)
    · cases h
variable {M : Mod0} {W : Wd} {S : Sto}
theorem refs_in : ∀ {xs : List Vl} {vs : List V}, VlRs M W xs vs → ∀ n ∈ refsOf xs, ∃ a, W.L[n]? = some a
  | [], _, _, _, h => nomatch h
  | .im d :: xs, _, ⟨v, r, q, h, t⟩, n, hn => refs_in t n hn
  | .rf m :: xs, _, ⟨v, r, q, h, t⟩, n, hn => by
    rcases List.mem_cons.mp hn with rfl | hn
    · obtain ⟨a, h1, _⟩ := h
      exact ⟨a, h1⟩
    · exact refs_in t n hn
theorem ren_ok {W' : Wd} (ns : List Nat) (hH : W'.H = W.H) (hB : W'.Bn = W.Bn) (hL : ∀ n ∈ ns, W'.L[ns.idxOf n]? = W.L[n]?) : ∀ {xs : List Vl} {vs : List V}, (∀ n ∈ refsOf xs, n ∈ ns) → VlRs M W xs vs → VlRs M W' (xs.map (ren ns)) vs
  | [], _, _, r => r
  | .im d :: xs, _, hs, ⟨v, r, q, h, t⟩ => ⟨v, r, q, by show Dn M W'.H W'.Bn d v; rw [hH, hB]; exact h, ren_ok ns hH hB hL (fun n hn => hs n hn) t⟩
  | .rf m :: xs, _, hs, ⟨v, r, q, h, t⟩ => ⟨v, r, q, by
      obtain ⟨a, h1, h2⟩ := h
      exact ⟨a, (hL m (hs m List.mem_cons_self)).trans h1, h2⟩, ren_ok ns hH hB hL (fun n hn => hs n (List.mem_cons_of_mem _ hn)) t⟩
theorem idxOf_get {ns : List Nat} {n : Nat} (h : n ∈ ns) : ns[ns.idxOf n]? = some n := by
  have hl := List.idxOf_lt_length_of_mem h
  rw [List.getElem?_eq_getElem hl]
  simp
theorem callB_ok {own : Bool} {m : MF} {xs : List Vl} {vs : List V} {n : Nat} {Q : VK} {E : XK} (o : Ok M W S) (r : VlRs M W xs vs) (hl : vs.length = n) (h : Aft M (VlR M) W (callB own m xs S) Q E) : spM M n m vs W.H Q E := by
  unfold callB at h
  split at h
  case isFalse => exact h.elim
  case isTrue nd =>
    split at h
    · exact h.elim
    · rename_i cs hcs
      obtain ⟨hl1, hg⟩ := getB_get _ _ _ hcs
      generalize hns : refsOf xs = ns at *
      have hin : ∀ k ∈ ns, ∃ a, W.L[k]? = some a := fun k hk => refs_in r k (hns ▸ hk)
      let f : Nat → Addr := fun k => (W.L[k]?).getD 0
      have hf : ∀ k ∈ ns, W.L[k]? = some (f k) := fun k hk => by
        obtain ⟨a, ha⟩ := hin k hk
        simp [f, ha]
      let La := ns.map f
      have hLa : ∀ (i k : Nat), ns[i]? = some k → La[i]? = some (f k) := fun i k hi => by simp [La, hi]
      have subL : ∀ a ∈ La, a ∈ W.L := fun a ha => by
        obtain ⟨k, hk, e⟩ := List.mem_map.mp ha
        exact e ▸ List.mem_of_getElem? (hf k hk)
      have inj : ∀ j k a, W.L[j]? = some a → W.L[k]? = some a → j = k := fun j k a h1 h2 => (List.getElem?_inj (List.getElem?_eq_some_iff.mp h1).1 o.nd).mp (h1.trans h2.symm)
      have ndA : La.Nodup := by
        refine List.pairwise_map.mpr (List.Pairwise.imp_of_mem (fun {a b} ha hb hne z => hne ?_) nd)
        exact inj a b (f a) (hf a ha) (by rw [z]; exact hf b hb)
      let Wc : Wd := ⟨W.H, La, W.Bn⟩
      have oc : Ok M Wc cs := by
        refine ⟨by simp [Wc, La, hl1], ndA, o.trk, fun a ha => o.trl a (subL a ha), fun i c hi => ?_⟩
        have hi' : i < ns.length := by rw [← hl1]; exact (List.getElem?_eq_some_iff.mp hi).1
        have hk := List.getElem?_eq_getElem hi'
        obtain ⟨g1, _⟩ := hg i _ hk
        obtain ⟨a, h1, h2, h3⟩ := o.cell _ c (g1 ▸ hi)
        refine ⟨a, ?_, h2, h3⟩
        show La[i]? = some a
        rw [hLa i _ hk, ← hf _ (List.getElem_mem hi')]
        exact h1
      have rc : VlRs M Wc (xs.map (ren ns)) vs := ren_ok (W := W) (W' := Wc) ns rfl rfl (fun k hk => by
        show La[ns.idxOf k]? = W.L[k]?
        rw [hLa _ k (idxOf_get hk), hf k hk]) (fun k hk => hns ▸ hk) r
      refine ⟨hl, Wc, cs, _, rfl, oc, rc, ?_⟩
      -- behind
      have step : ∀ (cs' : Sto) (Wc' : Wd) (Na : List Addr) (Ce : Sto), Ext Wc Wc' → Ok M Wc' cs' → Na.Nodup → Na.length = Ce.length → (∀ a ∈ Na, W.H a = none ∧ Wc'.H a ≠ none) →
          (∀ (i : Nat) (c : Cell), Ce[i]? = some c → ∃ a, Na[i]? = some a ∧ CellR M Wc'.H Wc'.Bn a c ∧ (c.live = true → Wc'.Bn a)) →
          ∃ W' : Wd, W'.H = Wc'.H ∧ W'.L = W.L ++ Na ∧ (∀ b, W'.Bn b ↔ Wc'.Bn b ∧ (W.Bn b ∨ b ∈ Na)) ∧ Ext W W' ∧ Ok M W' (putB ns cs' S ++ Ce) := by
        intro cs' Wc' Na Ce ec okc ndN lenN freshN cellN
        obtain ⟨N, n1, n2, n3⟩ := ec.new
        let W' : Wd := ⟨Wc'.H, W.L ++ Na, fun b => Wc'.Bn b ∧ (W.Bn b ∨ b ∈ Na)⟩
        have e : Ext W W' := ⟨⟨Na, rfl, fun b hb => (freshN b hb).1, fun b hb => hb.2.imp id (fun z => (freshN b z).1)⟩, fun b h1 h2 h3 => ⟨ec.hold b h1 h2 (fun z => h3 (subL b z)), .inl h2⟩,
          fun a u h1 h2 => ec.keep a u h1 (fun z => h2 ⟨subL a z.1, z.2⟩), ec.back⟩
        refine ⟨W', rfl, rfl, fun b => Iff.rfl, e, ⟨by show (W.L ++ Na).length = _; rw [List.length_append, List.length_append, putB_len, o.len, lenN], ?_, fun b hb => okc.trk b hb.1, fun a ha z => ?_, fun k c hk => ?_⟩⟩
        · refine List.nodup_append.mpr ⟨o.nd, ndN, fun x hx y hy z => ?_⟩
          exact o.trl x hx (z ▸ (freshN y hy).1)
        · rcases List.mem_append.mp ha with ha | ha
          · exact o.trl a ha (ec.back a z)
          · exact (freshN a ha).2 z
        have mo' : Mo Wc'.H Wc'.Bn W'.H W'.Bn := fun a u h1 h2 => ⟨h1, fun z => h2 z.1⟩
        have lenP : (putB ns cs' S).length = S.length := putB_len _ _ _
        by_cases hks : k < S.length
        · have getL : ∀ a, W.L[k]? = some a → (W.L ++ Na)[k]? = some a := fun a ha => by
            rw [List.getElem?_append_left (by rw [o.len]; exact hks)]
            exact ha
          rw [List.getElem?_append_left (by rw [lenP]; exact hks)] at hk
          by_cases hkn : k ∈ ns
          · have hix := idxOf_get hkn
            have hlc : ns.idxOf k < cs'.length := by
              rw [← okc.len, n1, List.length_append]
              have : La.length = ns.length := by simp [La]
              have := List.idxOf_lt_length_of_mem hkn
              show ns.idxOf k < La.length + _
              omega
            rw [putB_in ns cs' S _ k nd hix hlc hks] at hk
            obtain ⟨a, h1, h2, h3⟩ := okc.cell _ c hk
            have ha : a = f k := by
              rw [n1, List.getElem?_append_left (by show _ < La.length; simp [La]; exact List.idxOf_lt_length_of_mem hkn)] at h1
              exact (Option.some.inj ((hLa _ k hix).symm.trans h1)).symm
            refine ⟨a, getL a (by rw [ha]; exact hf k hkn), h2.mono mo' (fun _ z => z), fun z => ⟨h3 z, ?_⟩⟩
            rcases n3 a (h3 z) with q | q
            · exact .inl q
            · exact absurd q (o.trl a (by rw [ha]; exact List.mem_of_getElem? (hf k hkn)))
          · rw [putB_out ns cs' S k hkn] at hk
            obtain ⟨a, h1, h2, h3⟩ := o.cell k c hk
            have hna : a ∉ La := fun z => by
              obtain ⟨j, hj, ej⟩ := List.mem_map.mp z
              exact hkn (inj j k a (ej ▸ hf j hj) h1 ▸ hj)
            exact ⟨a, getL a h1, h2.mono e.mo (fun u q => ec.keep a u q (fun z => hna z.1)), fun z => ⟨ec.hold a (o.trl a (List.mem_of_getElem? h1)) (h3 z) hna, .inl (h3 z)⟩⟩
        · rw [List.getElem?_append_right (by rw [lenP]; omega), lenP] at hk
          obtain ⟨a, h1, h2, h3⟩ := cellN _ c hk
          refine ⟨a, ?_, h2.mono mo' (fun _ z => z), fun z => ⟨h3 z, .inr (List.mem_of_getElem? h1)⟩⟩
          show (W.L ++ Na)[k]? = some a
          rw [List.getElem?_append_right (by rw [o.len]; omega), o.len]
          exact h1
      have step0 : ∀ (cs' : Sto) (Wc' : Wd), Ext Wc Wc' → Ok M Wc' cs' → ∃ W' : Wd, W'.H = Wc'.H ∧ W'.L = W.L ∧ (∀ b, W'.Bn b ↔ Wc'.Bn b ∧ W.Bn b) ∧ Ext W W' ∧ Ok M W' (putB ns cs' S) := by
        intro cs' Wc' ec okc
        obtain ⟨W', h1, h2, h3, h4, h5⟩ := step cs' Wc' [] [] ec okc List.nodup_nil rfl (fun _ z => nomatch z) (fun i c z => by simp at z)
        exact ⟨W', h1, by rw [h2, List.append_nil], fun b => (h3 b).trans ⟨fun z => ⟨z.1, z.2.elim id (fun q => nomatch q)⟩, fun z => ⟨z.1, .inl z.2⟩⟩, h4, by rw [List.append_nil] at h5; exact h5⟩
      cases hm : m (xs.map (ren ns)) cs with
      | no => rw [hm] at h; exact h
      | ex e cs' =>
        rw [hm] at h
        intro cls dx Wc' ec okc hx
        obtain ⟨W', eH, eL, eB, ew, ow⟩ := step0 cs' Wc' ec okc
        have := h cls dx W' ew ow ?_
        · rwa [eH] at this
        · obtain ⟨C, h1, h2, h3⟩ := hx
          refine ⟨C, h1, h2, h3.imp id ?_⟩
          rintro ⟨d, ws, q1, q2, q3, q4⟩
          refine ⟨d, ws, q1, eH ▸ q2, fun z => q3 ((eB d).mp z).1, q4.mono (fun a u h1 h2 => ⟨eH ▸ h1, fun z => h2 ((eB a).mp z).1⟩)⟩
      | ok v cs' =>
        rw [hm] at h
        intro u Wc' ec okc hv
        obtain ⟨W', eH, eL, eB, ew, ow⟩ := step0 cs' Wc' ec okc
        have mo' : Mo Wc'.H Wc'.Bn W'.H W'.Bn := fun a u h1 h2 => ⟨eH ▸ h1, fun z => h2 ((eB a).mp z).1⟩
        obtain ⟨N, n1, n2, n3⟩ := ec.new
        have h : Aft M (VlR M) W (backV own ns cs' v (putB ns cs' S)) Q E := h
        cases v with
        | im d =>
          have := h u W' ew ow (Dn.mono mo' hv)
          rwa [eH] at this
        | rf k =>
          obtain ⟨a, ha, rfl⟩ := hv
          simp only [backV] at h
          split at h
          · rename_i hk
            split at h
            · rename_i j hj
              have := h (.ref a) W' ew ow ⟨a, ?_, rfl⟩
              · rwa [eH] at this
              · rw [n1, List.getElem?_append_left (by show k < La.length; simp [La]; exact hk)] at ha
                have e2 : La[k]? = some a := ha
                rw [hLa k j hj] at e2
                rw [eL, hf j (List.mem_of_getElem? hj)]
                exact e2
            · exact h.elim
          · rename_i hk
            split at h
            · rename_i c hc
              obtain ⟨a', h1, h2, h3⟩ := okc.cell k c hc
              rw [ha] at h1
              cases h1
              have hnew : W.H a = none := by
                refine n2 a ?_
                rw [n1] at ha
                rw [List.getElem?_append_right (by show La.length ≤ k; simp [La]; omega)] at ha
                exact List.mem_of_getElem? ha
              have nban : ¬ W'.Bn a := fun z => o.trk a ((eB a).mp z).2 hnew
              split at h
              · -- own: a new cell
                obtain ⟨W2, fH, fL, fB, fw, fo⟩ := step cs' Wc' [a] [c] ec okc (List.nodup_cons.mpr ⟨fun z => (nomatch z), List.nodup_nil⟩) rfl (fun b hb => by
                  rw [List.mem_singleton.mp hb]
                  exact ⟨hnew, okc.trl a (List.mem_of_getElem? ha)⟩) (fun i c' hi => by
                  cases i with
                  | zero => simp at hi; subst hi; exact ⟨a, rfl, h2, h3⟩
                  | succ i => simp at hi)
                have := h (.ref a) W2 fw fo ⟨a, ?_, rfl⟩
                · rwa [fH] at this
                · rw [fL, putB_len, ← o.len, List.getElem?_append_right (Nat.le_refl _)]
                  simp
              · -- stiff
                have := h (.ref a) W' ew ow ?_
                · rwa [eH] at this
                · show Dn M W'.H W'.Bn c.view (.ref a)
                  cases c with
                  | lst xs => obtain ⟨ws, q, t⟩ := h2; exact ⟨a, ws, rfl, eH ▸ q, nban, t.mono mo'⟩
                  | dic xs => obtain ⟨ws, q, t⟩ := h2; exact ⟨a, ws, rfl, eH ▸ q, nban, t.mono mo'⟩
                  | ins c fs => obtain ⟨C, dx, ws, g, q, t⟩ := h2; exact ⟨a, C, dx, ws, rfl, g, eH ▸ q, nban, t.mono mo'⟩
                  | frz d => exact Dn.mono mo' h2
            · exact h.elim
end
end Tar

set_option autoImplicit false
/-! Defs of the text, their calls. -/
namespace Tar
open PySem PySem.Spec PyProof.Rows L2
/-! ### how arguments come to their places -/
inductive Ix where
  | p (i : Nat) | k (i : Nat) | d (i : Nat)
def gO {α : Type} (o : Option α) (l : List α) : List α := match o with
  | some x => x :: l
  | none => l
def gI {α : Type} (us ws ds : List α) : List Ix → List α
  | [] => []
  | .p i :: r => gO us[i]? (gI us ws ds r)
  | .k i :: r => gO ws[i]? (gI us ws ds r)
  | .d i :: r => gO ds[i]? (gI us ws ds r)
theorem Vals.gO {vs : List V} {us : List Value} (r : Vals vs us) (i : Nat) {zs : List V} {ws : List Value} (t : Vals zs ws) : Vals (gO vs[i]? zs) (gO us[i]? ws) := by
  cases h : vs[i]? with
  | none => rw [r.none_of h]; exact t
  | some v =>
    obtain ⟨u, h1, h2⟩ := r.get h
    rw [h1]
    exact .cons h2 t
theorem Vals.gI {vs zs dz : List V} {us ws ds : List Value} (a : Vals vs us) (b : Vals zs ws) (c : Vals dz ds) : ∀ idx : List Ix, Vals (gI vs zs dz idx) (gI us ws ds idx)
  | [] => .nil
  | .p i :: r => Vals.gO a i (Vals.gI a b c r)
  | .k i :: r => Vals.gO b i (Vals.gI a b c r)
  | .d i :: r => Vals.gO c i (Vals.gI a b c r)
theorem VlRs.gO {M : Mod0} {W : Wd} : ∀ {xs : List Vl} {vs : List V} (r : VlRs M W xs vs) (i : Nat) {ys : List Vl} {ws : List V} (t : VlRs M W ys ws), VlRs M W (Tar.gO xs[i]? ys) (Tar.gO vs[i]? ws)
  | [], _, r, i, _, _, t => by rw [show _ = [] from r]; simpa [Tar.gO] using t
  | x :: xs, _, ⟨v, r, q, h, t⟩, 0, _, _, t' => by subst q; exact ⟨v, _, rfl, h, t'⟩
  | x :: xs, _, ⟨v, r, q, h, t⟩, i + 1, _, _, t' => by subst q; simpa using VlRs.gO t i t'
theorem VlRs.gI {M : Mod0} {W : Wd} {xs ys dx : List Vl} {vs zs dz : List V} (a : VlRs M W xs vs) (b : VlRs M W ys zs) (c : VlRs M W dx dz) : ∀ idx : List Ix, VlRs M W (gI xs ys dx idx) (gI vs zs dz idx)
  | [] => rfl
  | .p i :: r => VlRs.gO a i (VlRs.gI a b c r)
  | .k i :: r => VlRs.gO b i (VlRs.gI a b c r)
  | .d i :: r => VlRs.gO c i (VlRs.gI a b c r)
/-- plain constants as values -/
def dV : D → Option V
  | .non => some .non
  | .bl b => some (.bl b)
  | .int i => some (.int i)
  | .str z => some (.str (SX.S z))
  | _ => none
theorem dV_dn {M : Mod0} {H : Hp} {Bn : Addr → Prop} {d : D} {v : V} (h : dV d = some v) : Dn M H Bn d v := by
  cases d <;> cases h <;> rfl
def dVs : List D → List V → Prop
  | [], vs => vs = []
  | d :: ds, vs => ∃ v r, vs = v :: r ∧ dV d = some v ∧ dVs ds r
theorem dVs_rel {M : Mod0} {W : Wd} : ∀ {ds : List D} {vs : List V}, dVs ds vs → VlRs M W (ds.map .im) vs
  | [], _, h => h
  | _ :: _, _, ⟨v, r, q, h, t⟩ => ⟨v, r, q, dV_dn h, dVs_rel t⟩
/-- the def x called with n values and the keywords ks -/
def CalM (P : Program) (w : World) (K : PySem.W.Frag) (mg : Str → Option Value) (base : Heap) (k : Nat) (x : Str) (n : Nat) (ks : List Str) (idx : List Ix) (ds : List D) (m : MF) : Prop :=
  ∃ f fd ps g dz, FnG P w K mg base (L2.CX P w) k f fd ps (spM ⟨K, mg⟩ ps.length m) ∧ mg x = some (.ref f) ∧ PySem.W.keepIn K (.ref f) = true ∧ KBn K fd ps n ks g (fun vs zs => gI vs zs dz idx) ∧ dVs ds dz ∧ idx.length = ps.length ∧
    ∀ i ∈ idx, match i with
      | .p j => j < n
      | .k j => j < ks.length
      | .d j => j < ds.length
/-- its meaning keeps what the def does -/
def FnM (P : Program) (w : World) (K : PySem.W.Frag) (mg : Str → Option Value) (base : Heap) (k : Nat) (x : Str) (st : Stmt) (ps : List Str) (kws : List (Str × V)) (m : MF) : Prop :=
  ∃ f fd, FnG P w K mg base (L2.CX P w) k f fd ps (spM ⟨K, mg⟩ ps.length m) ∧ FunD K x x (defArgs st) (defBody st) (defScope st) [] kws f fd ∧ mg x = some (.ref f)
section
variable {P : Program} {w : World} {K : PySem.W.Frag} {mg : Str → Option Value} {base : Heap} {x : Str} {st : Stmt} {N ps : List Str} {k : Nat} {kws : List (Str × V)}
theorem start_rel {M : Mod0} {W : Wd} {xs : List Vl} {vs : List V} (r : VlRs M W xs vs) (n : Nat) : EnvR M W (xs.map some ++ List.replicate (n - xs.length) none) (vs.map some ++ List.replicate (n - vs.length) none) := by
  have hl := r.len
  refine ⟨by simp [hl], fun i x h => ?_⟩
  by_cases hi : i < xs.length
  · rw [List.getElem?_append_left (by simpa using hi)] at h
    rw [List.getElem?_append_left (by rw [List.length_map, hl]; exact hi)]
    have hx : xs[i]? = some x := by simpa using h
    clear h hi hl
    induction xs generalizing vs i with
    | nil => simp at hx
    | cons y ys ih =>
      obtain ⟨v, r', q, h1, t⟩ := r
      subst q
      cases i with
      | zero => simp at hx; subst hx; exact ⟨v, by simp, h1⟩
      | succ i => simpa using ih t i (by simpa using hx)
  · rw [List.getElem?_append_right (by simpa using hi)] at h
    have := List.mem_of_getElem? h
    simp at this
theorem okGX {sp : Sp} {params : Arguments} {body : List Stmt} {scope : Scope} {dvs : List V} {f : Addr} {fd : FuncData} {qual : Str} (F : FunD K x qual params body scope dvs kws f fd) (S : FnScope N ps scope) (len : ∀ vs H Q E, sp vs H Q E → vs.length = ps.length)
    (hbody : ∀ (cdv : Value) (A : Around) (outer : List Env) (s : Shared) (H : Hp) (vs : List V) (Q : VK) (E : XK), A.guards = some [] → Room k (A.deeper (envOfC qual scope s.heap.objs.size f cdv)) → sp vs H Q E →
      ∃ t, PSs (cxOf (L2.CX P w) P w K mg base N qual scope f cdv A outer s H E) body t ∧ t { nx := fun _ H' => Q .non H', rt := Q } (start N vs) H) : FnG P w K mg base (L2.CX P w) (k + 1) f fd ps sp := by
  obtain ⟨oc, od, dV, kV, doc, pm, an, cdv, ct, osl, rfl, lk, hcd, _, _⟩ := F.ex
  refine ⟨len, fun A outer s H args us vs Q E hg hr e0 hb r hsp => ?_⟩
  have hl := len _ _ _ _ hsp
  have KX : K.In s.heap := e0.mod.kin.keeps fun b o e => (e0.bs b o e).1
  have lim : s.heap.NoLimit := e0.mod.nolimit.keeps fun b o e => (e0.bs b o e).1
  have hkind : ∀ y ∈ ps.zip us, scope.names.lookup y.1 = some .local ∨ (scope.names.lookup y.1 = some .cell ∧ ((cellsFrom (s.heap.objs.size + 1) scope.names []).lookup y.1).isSome = true) := fun ⟨n, v⟩ hy => by
    rcases S.par n (List.of_mem_zip hy).1 with q | q
    · exact .inl q
    · exact .inr ⟨q, PySem.W.cellsFrom_some _ _ _ (.inl q)⟩
  refine codeAny_call_function hr.depth (KX _ _ lk) rfl S.co S.gen rfl (PySem.W.codeRec_of KX hcd) (hb _ _ _ _ ?_)
  refine wpAny_newFunctionEnv_cells S.kind hkind fun env he s1 x => ?_
  subst he
  refine ⟨lim.keeps x.toInCall.keep, codeAny_func ?_⟩
  obtain ⟨t, ht, hq⟩ := hbody cdv A outer s H vs Q E hg (hr.deeper _) hsp
  have I : L2.Inv (cxOf (L2.CX P w) P w K mg base N qual scope f cdv A outer s H E) [] (start N vs) H s1 := inv_start S hr.hd e0 hl r x
  refine wpAny_mono (ht.run [] s1 (start N vs) H _ I hq) (fun fl s' hs => ?_) fun e s' hs => hs
  have fin : ∀ {σ' : L2.St} {H' : Hp} {v : V} {u : Value}, L2.Inv (cxOf (L2.CX P w) P w K mg base N qual scope f cdv A outer s H E) [] σ' H' s' → RelV v u → Q v H' → CE outer P w H s Q u s' :=
    fun {σ' H' v u} J rv q => ⟨v, H', J.os, J.bare, J.base, J.hok, rv, q⟩
  cases fl with
  | ret u =>
    obtain ⟨v, σ', H', J, rv, q⟩ := hs
    exact fin J rv q
  | next =>
    obtain ⟨σ', H', J, q⟩ := hs
    exact fin (v := V.non) (u := Value.none) J rfl q
  | brk =>
    obtain ⟨_, _, _, q⟩ := hs
    exact False.elim q
  | cont =>
    obtain ⟨_, _, _, q⟩ := hs
    exact False.elim q
theorem fn_ok {b : MS} (D : DefD K mg x st [] kws) (Sc : FnScope N ps (defScope st))
    (hb : ∀ (f : Addr) (cdv : Value) (A : Around) (outer : List Env) (s : Shared) (H : Hp) (E : XK), A.guards = some [] → Room k (A.deeper (envOfC x (defScope st) s.heap.objs.size f cdv)) →
      PSs (cxOf (L2.CX P w) P w K mg base N x (defScope st) f cdv A outer s H E) (defBody st) (tS ⟨K, mg⟩ (fun c d _ H' => E c d H') b)) : FnM P w K mg base (k + 1) x st ps kws (fnM N.length b) := by
  obtain ⟨f, fd, F, g⟩ := D
  refine ⟨f, fd, okGX F Sc (fun vs H Q E h => h.1) (fun cdv A outer s H vs Q E hg hr h => ⟨_, hb f cdv A outer s H E hg hr, ?_⟩), F, g⟩
  obtain ⟨hl, W, S, xs, rfl, o, r, h⟩ := h
  refine ⟨W, _, S, ⟨rfl, o, start_rel r N.length⟩, ?_⟩
  unfold fnM at h
  cases hq : b (xs.map some ++ List.replicate (N.length - xs.length) none) S with
  | no => rw [hq] at h; exact h
  | nx ρ' S' => rw [hq] at h; exact fun σ' W' a b c => h .non W' a b rfl
  | rt v S' => rw [hq] at h; exact h
  | ex e ρ' S' => rw [hq] at h; exact fun cls dx σ' W' a b c d => h cls dx W' a b d
  | bk ρ' S' => rw [hq] at h; exact h.elim
  | ct ρ' S' => rw [hq] at h; exact h.elim
theorem DefD.of (D : Def K mg x st) : DefD K mg x st [] [] := by
  obtain ⟨f, fd, F, g⟩ := D
  obtain ⟨oc, od, kV, doc, pm, an, cdv, ct, osl, h1, h2, h3⟩ := F.ex
  exact ⟨f, fd, ⟨⟨oc, od, .none, kV, doc, pm, an, cdv, ct, osl, h1, h2, h3, .inl ⟨rfl, rfl⟩, .inl rfl⟩, F.kp⟩, g⟩
/-- called with every parameter written -/
theorem FnM.cal {m : MF} (c : FnM P w K mg base k x st ps kws m) (n : Nat) (ks : List Str) (idx : List Ix) (hl : idx.length = ps.length) (hi : ∀ i ∈ idx, match i with
      | .p j => j < n
      | .k j => j < ks.length
      | .d j => j < ([] : List D).length)
    (h : ∀ (kV doc pm : Value) (an : Option Addr) (cdv ct : Value) (us ws : List Value), us.length = n → ws.length = ks.length →
      bindArgs (PySem.W.fnOf x x (defArgs st) (defBody st) (defScope st) .none kV doc pm an cdv ct) ⟨us, ks.zip ws⟩ = pure (ps.zip (gI us ws [] idx))) : CalM P w K mg base k x n ks idx [] m := by
  obtain ⟨f, fd, F, D, g⟩ := c
  obtain ⟨oc, od, dV, kV, doc, pm, an, cdv, ct, osl, rfl, lk, hcd, hD, hK⟩ := D.ex
  rcases hD with ⟨_, rfl⟩ | ⟨e, _⟩
  · exact ⟨f, _, ps, fun us ws => gI us ws [] idx, [], F, g, D.kp, ⟨fun s us ws _ l1 l2 => .of_eq (h kV doc pm an cdv ct us ws l1 l2), fun a b => Vals.gI a b .nil idx⟩, rfl, hl, hi⟩
  · exact absurd rfl e
/-- .. where some keyword-only ones lack -/
theorem FnM.calD {m : MF} (c : FnM P w K mg base k x st ps kws m) (n : Nat) (ks : List Str) (idx : List Ix) (ms : List (Str × V)) (ds : List D) (hk : kws ≠ []) (hms : ∀ q ∈ ms, q ∈ kws) (hds : dVs ds (ms.map (·.2))) (hl : idx.length = ps.length) (hi : ∀ i ∈ idx, match i with
      | .p j => j < n
      | .k j => j < ks.length
      | .d j => j < ds.length)
    (h : ∀ (D : Addr) (doc pm : Value) (an : Option Addr) (cdv ct : Value) (us mv ws : List Value), us.length = n → mv.length = ms.length → ws.length = ks.length →
      KwChain D ((ms.map (·.1)).zip mv) (bindArgs (PySem.W.fnOf x x (defArgs st) (defBody st) (defScope st) .none (.ref D) doc pm an cdv ct) ⟨us, ks.zip ws⟩) (ps.zip (gI us ws mv idx))) : CalM P w K mg base k x n ks idx ds m := by
  obtain ⟨f, fd, F, D, g⟩ := c
  obtain ⟨mv, b⟩ := D.kbinds0 (ps := ps) n ks ms (fun us mv ws => gI us ws mv idx) hk hms (fun a b c => Vals.gI a c b idx) h
  exact ⟨f, fd, ps, _, _, F, g, D.kp, b, hds, hl, hi⟩
end
/-! ### calls -/
def calE (pure own : Bool) (m : MF) (zs : List Vl) (S : Sto) : R Vl := if pure then (match stiffs zs S with
    | some (es, S') => callB own m (es.map .im) S'
    | none => .no) else callB own m zs S
def mCal (pure own : Bool) (m : MF) (idx : List Ix) (ds : List D) (as ks : MA) : ME := fun ρ S => (as ρ S).bind fun xs S1 => (ks ρ S1).bind fun ys S2 => calE pure own m (gI xs ys (ds.map .im) idx) S2
section
variable {X : Cx} {Wx : WX}
theorem Dns.vls {M : Mod0} {W : Wd} : ∀ {ds : List D} {vs : List V}, Dns M W.H W.Bn ds vs → VlRs M W (ds.map .im) vs
  | [], _, h => h
  | _ :: _, _, ⟨v, r, q, h, t⟩ => ⟨v, r, q, h, Dns.vls t⟩
theorem calE_ok {M : Mod0} {W : Wd} {S : Sto} {pure own : Bool} {m : MF} {xs : List Vl} {vs : List V} {n : Nat} {Q : VK} {E : XK} (o : Ok M W S) (r : VlRs M W xs vs) (hl : vs.length = n) (h : Aft M (VlR M) W (calE pure own m xs S) Q E) : spM M n m vs W.H Q E := by
  unfold calE at h
  split at h
  · split at h
    · rename_i es S' h2
      obtain ⟨W2, k2, e2, o2, d2⟩ := stiffs_ok o r h2
      rw [← k2]
      exact callB_ok o2 d2.vls hl (h.go e2)
    · exact h.elim
  · exact callB_ok o r hl h
theorem gI_len {α : Type} (us ws ds : List α) (n m l : Nat) (h1 : us.length = n) (h2 : ws.length = m) (h3 : ds.length = l) : ∀ idx : List Ix, (∀ i ∈ idx, match i with
      | .p j => j < n
      | .k j => j < m
      | .d j => j < l) → (gI us ws ds idx).length = idx.length
  | [], _ => rfl
  | .p i :: r, h => by
    have hi : i < us.length := by rw [h1]; exact h (.p i) List.mem_cons_self
    rw [gI, List.getElem?_eq_getElem hi, gO, List.length_cons, List.length_cons, gI_len us ws ds n m l h1 h2 h3 r (fun i hi => h i (List.mem_cons_of_mem _ hi))]
  | .k i :: r, h => by
    have hi : i < ws.length := by rw [h2]; exact h (.k i) List.mem_cons_self
    rw [gI, List.getElem?_eq_getElem hi, gO, List.length_cons, List.length_cons, gI_len us ws ds n m l h1 h2 h3 r (fun i hi => h i (List.mem_cons_of_mem _ hi))]
  | .d i :: r, h => by
    have hi : i < ds.length := by rw [h3]; exact h (.d i) List.mem_cons_self
    rw [gI, List.getElem?_eq_getElem hi, gO, List.length_cons, List.length_cons, gI_len us ws ds n m l h1 h2 h3 r (fun i hi => h i (List.mem_cons_of_mem _ hi))]
theorem dVs_len : ∀ {ds : List D} {vs : List V}, dVs ds vs → vs.length = ds.length
  | [], _, h => by rw [show _ = [] from h]; rfl
  | _ :: _, _, ⟨v, r, q, h, t⟩ => by rw [q, List.length_cons, List.length_cons, dVs_len t]
/-- the callee runs -/
theorem run_cal {k j n : Nat} {ks : List Str} {idx : List Ix} {ds : List D} {m : MF} {f : Addr} {fd : FuncData} {ps : List Str} {g : List Value → List Value → List Value} {dz : List V} {pure own : Bool} {pins : List (Addr × Obj)} {σ : L2.St} {H : Hp} {s : Shared} {Q : VK} {us ws : List Value} {vs zs : List V} {W : Wd} {S : Sto} {xs ys : List Vl}
    (F : FnG X.prog X.w X.K X.mg X.base (L2.CX X.prog X.w) k f fd ps (spM X.M ps.length m)) (b : KBn X.K fd ps n ks g (fun vs zs => gI vs zs dz idx)) (hds : dVs ds dz) (hl : idx.length = ps.length) (hi : ∀ i ∈ idx, match i with
      | .p j => j < n
      | .k j => j < ks.length
      | .d j => j < ds.length) (hr : Room j X.A) (hk : k ≤ j) (hgd : X.A.guards = some []) (tk : Takes X Wx) (I : Inv X pins σ H s) (hH : W.H = H) (o : Ok X.M W S) (r : VlRs X.M W xs vs) (rz : VlRs X.M W ys zs) (ru : Vals vs us) (rw' : Vals zs ws) (l1 : us.length = n) (l2 : ws.length = ks.length)
    (h : Aft X.M (VlR X.M) W (calE pure own m (gI xs ys (ds.map .im) idx) S) Q (fun c d H' => Wx c d σ H')) : wpAny (model X.prog X.w) X.A (call (.ref f) us (ks.zip ws)) (EP X pins σ Q) X.xe s := by
  subst hH
  have r2 := b.rel ru rw'
  have lv : vs.length = n := ru.length.trans l1
  have lz : zs.length = ks.length := rw'.length.trans l2
  have rg := VlRs.gI r rz (dVs_rel (M := X.M) (W := W) hds) idx
  have hsp : spM X.M ps.length m (gI vs zs dz idx) W.H Q (WE Wx σ) := calE_ok o rg (by rw [gI_len vs zs dz n ks.length ds.length lv lz (dVs_len hds) idx hi, hl]) h
  refine wpAny_call (codeAny_mono (F.run X.A X.stack s W.H ⟨us, ks.zip ws⟩ (g us ws) _ Q (WE Wx σ) hgd (hr.mono hk) I.env0 (b.to s us ws I.kIn l1 l2) r2 hsp) fun r s' hq => ?_)
  cases r with
  | error e => exact passAt tk σ pins W.H s e s' I hq
  | ok fl =>
    cases fl with
    | ret u => exact I.after hq
    | next => exact False.elim hq
    | brk => exact False.elim hq
    | cont => exact False.elim hq
theorem VlRs.of_len {M : Mod0} {W : Wd} {xs : List Vl} {vs : List V} (r : VlRs M W xs vs) : xs.length = vs.length := r.len.symm
/-- f(e, ..) -/
theorem c_cal {k j n : Nat} {x : Str} {idx : List Ix} {ds : List D} {m : MF} {pure own : Bool} {e : Expr} {es : List Expr} {as : MA} {p pos : Pos} (c : CalM X.prog X.w X.K X.mg X.base k x n [] idx ds m) (hr : Room j X.A) (hk : k ≤ j) (hgd : X.A.guards = some []) (tk : Takes X Wx) (ha : PA X (e :: es) (tA X.M Wx as))
    (hn : (e :: es).length = n := by rfl) (hg : Gl X x := by rfl) (hdb : (x == ("__debug__" : Str)) = false := by decide) (he : starEach (e :: es) X.env = (false, eval e X.env) :: starEach es X.env := by rfl) (hpl : (backTo pos (starEach es X.env)).any (·.1) = false := by rfl)
    (hla : ∀ ρ S xs S', as ρ S = .ok xs S' → xs.length = n) :
    PE X (.Call (.Name x p) (e :: es) [] pos) (tE X.M Wx (mCal pure own m idx ds as mNil)) := by
  obtain ⟨f, fd, ps, g, dz, F, gm, kp, b, hds, hl, hi⟩ := c
  refine ⟨?_⟩
  rintro pins s σ H Q I ⟨W, ρ, S, ⟨rfl, o, r⟩, h⟩
  refine wpAny_Call_Name_kw (ld_glob I hg gm ?_ hdb)
  refine PySem.W.callWith_K (h₀ := X.base) I.ok.mod.kin kp (thn (ha.run pos pins s σ W.H (fun vs H1 => ∃ W1 S1 xs, W1.H = H1 ∧ Ok X.M W1 S1 ∧ VlRs X.M W1 xs vs ∧ xs.length = n ∧ Aft X.M (VlR X.M) W1 (calE pure own m (gI xs [] (ds.map .im) idx) S1) Q (fun c d H' => Wx c d σ H')) I ⟨W, ρ, S, ⟨rfl, o, r⟩, ?_⟩) fun us s1 ⟨vs, H1, I1, ru, q⟩ => ⟨I1.kIn, ?_⟩) he hpl
  · have h' : Aft X.M (VlR X.M) W ((as ρ S).bind fun xs S1 => calE pure own m (gI xs [] (ds.map .im) idx) S1) Q (fun c d H' => Wx c d σ H') := h
    cases hq : as ρ S with
    | no => rw [hq] at h'; exact h'
    | ex e1 S1 => rw [hq] at h'; exact h'
    | ok xs S1 =>
      rw [hq] at h'
      exact fun vs W1 e1 o1 r1 => ⟨W1, S1, xs, rfl, o1, r1, hla ρ S xs S1 hq, Aft.go (r := calE pure own m (gI xs [] (ds.map .im) idx) S1) h' e1⟩
  · obtain ⟨W1, S1, xs, hH, o1, r1, hlx, h1⟩ := q
    have := run_cal (ks := []) (ws := []) (zs := []) (ys := []) F b hds hl hi hr hk hgd tk I1 hH o1 r1 rfl ru .nil (by rw [← ru.length, r1.len, hlx]) rfl h1
    simpa using this
/-- f() -/
theorem c_cal0 {k j : Nat} {x : Str} {idx : List Ix} {ds : List D} {m : MF} {pure own : Bool} {p pos : Pos} (c : CalM X.prog X.w X.K X.mg X.base k x 0 [] idx ds m) (hr : Room j X.A) (hk : k ≤ j) (hgd : X.A.guards = some []) (tk : Takes X Wx)
    (hg : Gl X x := by rfl) (hdb : (x == ("__debug__" : Str)) = false := by decide) : PE X (.Call (.Name x p) [] [] pos) (tE X.M Wx (mCal pure own m idx ds mNil mNil)) := by
  obtain ⟨f, fd, ps, g, dz, F, gm, kp, b, hds, hl, hi⟩ := c
  refine ⟨?_⟩
  rintro pins s σ H Q I ⟨W, ρ, S, ⟨rfl, o, r⟩, h⟩
  refine wpAny_Call_Name_kw (ld_glob I hg gm ?_ hdb)
  refine PySem.W.callWith_K0 I.kIn kp ?_
  have := run_cal (ks := []) (us := []) (ws := []) (zs := []) (ys := []) (xs := []) (vs := []) (pure := pure) (own := own) (S := S) F b hds hl hi hr hk hgd tk I rfl o rfl rfl .nil .nil rfl rfl h
  simpa using this
theorem k_nil : PK X [] (tA X.M Wx mNil) := by
  refine ⟨fun pos pins s σ H Q I h => ?_⟩
  obtain ⟨W, ρ, S, ⟨rfl, o, r⟩, h⟩ := h
  exact pk_nil.run pos pins s σ W.H Q I (h [] W (Ext.refl W) o rfl)
theorem k_cons {e : Expr} {kws : List Keyword} {nm : Option Str} {kpos : Pos} {a : ME} {as : MA} (ha : PE X e (tE X.M Wx a)) (hr : PK X kws (tA X.M Wx as)) : PK X (⟨nm, e, kpos⟩ :: kws) (tA X.M Wx (mCons a as)) := by
  refine ⟨fun pos pins s σ H Q I h => (pk_cons ha hr).run pos pins s σ H Q I ?_⟩
  obtain ⟨W, ρ, S, ⟨rfl, o, r⟩, h⟩ := h
  refine ⟨W, ρ, S, ⟨rfl, o, r⟩, h.bind fun x S1 v W1 e1 o1 r1 h1 => ?_⟩
  refine ⟨W1, ρ, S1, ⟨rfl, o1, r.mono e1⟩, h1.bind fun xs S2 vs W2 e2 o2 r2 h2 => ?_⟩
  exact h2 (v :: vs) W2 (Ext.refl W2) o2 ⟨v, vs, rfl, r1.mono e2, r2⟩
/-- f(e, .., k = v, ..) -/
theorem c_calK {k j n : Nat} {x : Str} {ks : List Str} {idx : List Ix} {ds : List D} {m : MF} {pure own : Bool} {e : Expr} {es : List Expr} {kws : List Keyword} {as kk : MA} {p pos : Pos} (c : CalM X.prog X.w X.K X.mg X.base k x n ks idx ds m) (hr : Room j X.A) (hk : k ≤ j) (hgd : X.A.guards = some []) (tk : Takes X Wx) (ha : PA X (e :: es) (tA X.M Wx as)) (hkw : PK X kws (tA X.M Wx kk))
    (hla : ∀ ρ S xs S', as ρ S = .ok xs S' → xs.length = n) (hlk : ∀ ρ S xs S', kk ρ S = .ok xs S' → xs.length = ks.length)
    (hall : (backToKw pos (keywordEach kws X.env)).all (·.1.isSome) = true := by rfl) (hks : (backToKw pos (keywordEach kws X.env)).filterMap (·.1) = ks := by rfl)
    (hg : Gl X x := by rfl) (hdb : (x == ("__debug__" : Str)) = false := by decide) (he : starEach (e :: es) X.env = (false, eval e X.env) :: starEach es X.env := by rfl)
    (hpl : ((backTo pos (starEach (e :: es) X.env)).any (·.1) || (backToKw pos (keywordEach kws X.env)).any (·.1.isNone)) = false := by rfl) :
    PE X (.Call (.Name x p) (e :: es) kws pos) (tE X.M Wx (mCal pure own m idx ds as kk)) := by
  obtain ⟨f, fd, ps, g, dz, F, gm, kp, b, hds, hl, hi⟩ := c
  refine ⟨?_⟩
  rintro pins s σ H Q I ⟨W, ρ, S, ⟨rfl, o, r⟩, h⟩
  refine wpAny_Call_Name_kw (ld_glob I hg gm ?_ hdb)
  refine PySem.W.callWith_KW (h₀ := X.base) I.ok.mod.kin kp hall (thn (ha.run pos pins s σ W.H (fun vs H1 => ∃ W1 S1 xs, W1.H = H1 ∧ Ext W W1 ∧ Ok X.M W1 S1 ∧ VlRs X.M W1 xs vs ∧ xs.length = n ∧ Aft X.M (VlR X.M) W1 ((kk ρ S1).bind fun ys S2 => calE pure own m (gI xs ys (ds.map .im) idx) S2) Q (fun c d H' => Wx c d σ H')) I ⟨W, ρ, S, ⟨rfl, o, r⟩, ?_⟩) fun us s1 ⟨vs, H1, I1, ru, q⟩ => ?_) hpl he
  · have h' : Aft X.M (VlR X.M) W ((as ρ S).bind fun xs S1 => (kk ρ S1).bind fun ys S2 => calE pure own m (gI xs ys (ds.map .im) idx) S2) Q (fun c d H' => Wx c d σ H') := h
    cases hq : as ρ S with
    | no => rw [hq] at h'; exact h'
    | ex e1 S1 => rw [hq] at h'; exact h'
    | ok xs S1 =>
      rw [hq] at h'
      exact fun vs W1 e1 o1 r1 => ⟨W1, S1, xs, rfl, e1, o1, r1, hla ρ S xs S1 hq, Aft.go (r := (kk ρ S1).bind fun ys S2 => calE pure own m (gI xs ys (ds.map .im) idx) S2) h' e1⟩
  · obtain ⟨W1, S1, xs, hH, e1, o1, r1, hlx, h1⟩ := q
    subst hH
    refine thn (hkw.run pos pins s1 σ W1.H (fun zs H2 => ∃ W2 S2 ys, W2.H = H2 ∧ Ext W1 W2 ∧ Ok X.M W2 S2 ∧ VlRs X.M W2 ys zs ∧ ys.length = ks.length ∧ Aft X.M (VlR X.M) W2 (calE pure own m (gI xs ys (ds.map .im) idx) S2) Q (fun c d H' => Wx c d σ H')) I1 ⟨W1, ρ, S1, ⟨rfl, o1, r.mono e1⟩, ?_⟩) fun ws s2 ⟨zs, H2, I2, rz, q2⟩ => ⟨I2.kIn, ?_⟩
    · cases hq : kk ρ S1 with
      | no => rw [hq] at h1; exact h1
      | ex e1 S1 => rw [hq] at h1; exact h1
      | ok ys S2 =>
        rw [hq] at h1
        exact fun zs W2 e2 o2 r2 => ⟨W2, S2, ys, rfl, e2, o2, r2, hlk ρ S1 ys S2 hq, Aft.go (r := calE pure own m (gI xs ys (ds.map .im) idx) S2) h1 e2⟩
    · obtain ⟨W2, S2, ys, hH2, e2, o2, r2, hly, h2⟩ := q2
      rw [hks]
      have := run_cal F b hds hl hi hr hk hgd tk I2 hH2 o2 (r1.mono e2) r2 ru rz (by rw [← ru.length, r1.len, hlx]) (by rw [← rz.length, r2.len, hly]) h2
      simpa using this
/-- f(k = v, ..) -/
theorem c_calK0 {k j : Nat} {x : Str} {ks : List Str} {idx : List Ix} {ds : List D} {m : MF} {pure own : Bool} {kws : List Keyword} {kk : MA} {p pos : Pos} (c : CalM X.prog X.w X.K X.mg X.base k x 0 ks idx ds m) (hr : Room j X.A) (hk : k ≤ j) (hgd : X.A.guards = some []) (tk : Takes X Wx) (hkw : PK X kws (tA X.M Wx kk))
    (hlk : ∀ ρ S xs S', kk ρ S = .ok xs S' → xs.length = ks.length)
    (hall : (backToKw pos (keywordEach kws X.env)).all (·.1.isSome) = true := by rfl) (hks : (backToKw pos (keywordEach kws X.env)).filterMap (·.1) = ks := by rfl)
    (hg : Gl X x := by rfl) (hdb : (x == ("__debug__" : Str)) = false := by decide)
    (hpl : ((backTo pos (starEach [] X.env)).any (·.1) || (backToKw pos (keywordEach kws X.env)).any (·.1.isNone)) = false := by rfl) :
    PE X (.Call (.Name x p) [] kws pos) (tE X.M Wx (mCal pure own m idx ds mNil kk)) := by
  obtain ⟨f, fd, ps, g, dz, F, gm, kp, b, hds, hl, hi⟩ := c
  refine ⟨?_⟩
  rintro pins s σ H Q I ⟨W, ρ, S, ⟨rfl, o, r⟩, h⟩
  refine wpAny_Call_Name_kw (ld_glob I hg gm ?_ hdb)
  refine PySem.W.callWith_KW0 (h₀ := X.base) I.ok.mod.kin kp hall ?_ hpl
  refine thn (hkw.run pos pins s σ W.H (fun zs H2 => ∃ W2 S2 ys, W2.H = H2 ∧ Ext W W2 ∧ Ok X.M W2 S2 ∧ VlRs X.M W2 ys zs ∧ ys.length = ks.length ∧ Aft X.M (VlR X.M) W2 (calE pure own m (gI [] ys (ds.map .im) idx) S2) Q (fun c d H' => Wx c d σ H')) I ⟨W, ρ, S, ⟨rfl, o, r⟩, ?_⟩) fun ws s2 ⟨zs, H2, I2, rz, q2⟩ => ⟨I2.kIn, ?_⟩
  · have h' : Aft X.M (VlR X.M) W ((kk ρ S).bind fun ys S2 => calE pure own m (gI [] ys (ds.map .im) idx) S2) Q (fun c d H' => Wx c d σ H') := h
    cases hq : kk ρ S with
    | no => rw [hq] at h'; exact h'
    | ex e1 S1 => rw [hq] at h'; exact h'
    | ok ys S2 =>
      rw [hq] at h'
      exact fun zs W2 e2 o2 r2 => ⟨W2, S2, ys, rfl, e2, o2, r2, hlk ρ S ys S2 hq, Aft.go (r := calE pure own m (gI [] ys (ds.map .im) idx) S2) h' e2⟩
  · obtain ⟨W2, S2, ys, hH2, e2, o2, r2, hly, h2⟩ := q2
    rw [hks]
    have := run_cal (us := []) (vs := []) (xs := []) F b hds hl hi hr hk hgd tk I2 hH2 o2 rfl r2 .nil rz rfl (by rw [← rz.length, r2.len, hly]) h2
    simpa using this
/-! how many values there are -/
theorem l_nil : ∀ ρ S xs S', mNil ρ S = .ok xs S' → xs.length = 0 := fun ρ S xs S' h => by cases h; rfl
theorem l_cons {a : ME} {as : MA} {n : Nat} (h : ∀ ρ S xs S', as ρ S = .ok xs S' → xs.length = n) : ∀ ρ S xs S', mCons a as ρ S = .ok xs S' → xs.length = n + 1 := fun ρ S xs S' e => by
  unfold mCons at e
  cases ha : a ρ S with
  | no => rw [ha] at e; cases e
  | ex _ _ => rw [ha] at e; cases e
  | ok x S1 =>
    rw [ha] at e
    simp only [R.bind] at e
    cases hb : as ρ S1 with
    | no => rw [hb] at e; cases e
    | ex _ _ => rw [hb] at e; cases e
    | ok ys S2 =>
      rw [hb] at e
      cases e
      simp [h _ _ _ _ hb]
end
end Tar

set_option autoImplicit false
/-! Comprehensions. -/
namespace Tar
open PySem PySem.Spec PyProof.Rows L2
def wipeR (ρ : Rho) : List Nat → Rho
  | [] => ρ
  | v :: vs => (wipeR ρ vs).set v none
theorem EnvR.wipe {M : Mod0} {W : Wd} {ρ : Rho} {σ : L2.St} (r : EnvR M W ρ σ) : ∀ vs : List Nat, EnvR M W (wipeR ρ vs) (wipe σ vs)
  | [] => r
  | v :: vs => (EnvR.wipe r vs).set0 v none
/-- the target of a comprehension -/
abbrev MC := D → Rho → Option Rho
def cN (i : Nat) : MC := fun d ρ => some (ρ.set i (some (.im d)))
def cT2 (i j : Nat) : MC := fun d ρ => match d with
  | .tup [a, b] => some ((ρ.set i (some (.im a))).set j (some (.im b)))
  | _ => none
def cT3 (i j k : Nat) : MC := fun d ρ => match d with
  | .tup [a, b, c] => some (((ρ.set i (some (.im a))).set j (some (.im b))).set k (some (.im c)))
  | _ => none
def compL (vs : List Nat) (g : MC) (t : MT) (e : ME) (ρ : Rho) : List D → List D → Sto → R (List D)
  | [], acc, S => .ok acc S
  | d :: ds, acc, S => match g d (wipeR ρ vs) with
    | none => .no
    | some ρ1 => match t ρ1 S with
      | .ok true S1 => match e ρ1 S1 with
        | .ok x S2 => match stiff x S2 with
          | some (y, S3) => if acc.length < 16777216 then compL vs g t e ρ ds (acc ++ [y]) S3 else .no
          | none => .no
        | _ => .no
      | .ok false S1 => compL vs g t e ρ ds acc S1
      | _ => .no
def mComp (mu : Bool) (it : MI) (vs : List Nat) (g : MC) (t : MT) (e : ME) : ME := fun ρ S => (it ρ S).bind fun ds S1 => (compL vs g t e ρ ds [] S1).bind fun acc S2 => fin mu (.nl acc) S2
def mYes : MT := fun _ S => .ok true S
/-- a target's rule for a comprehension -/
def CT (M : Mod0) (vs : List Nat) (g : TG) (m : MC) : Prop := ∀ (W : Wd) (S : Sto) (d : D) (x : V) (σ : L2.St) (ρ ρ1 : Rho) (Q : L2.St → Hp → Prop), Ok M W S → Dn M W.H W.Bn d x → EnvR M W ρ (wipe σ vs) → m d ρ = some ρ1 →
  (∀ σ1, EnvR M W ρ1 σ1 → wipe σ1 vs = wipe σ vs → Q σ1 W.H) → g x (wipe σ vs) W.H Q
theorem wipe_set {σ : L2.St} {i : Nat} {o : Option V} : ∀ {vs : List Nat}, i ∈ vs → wipe (σ.set i o) vs = wipe σ vs
  | [], h => nomatch h
  | v :: vs, h => by
    unfold wipe
    by_cases hv : i ∈ vs
    · rw [wipe_set hv]
    · have e : i = v := (List.mem_cons.mp h).resolve_right hv
      subst e
      have : ∀ ws : List Nat, i ∉ ws → wipe (σ.set i o) ws = (wipe σ ws).set i o := by
        intro ws
        induction ws with
        | nil => intro _; rfl
        | cons w ws ih =>
          intro hn
          unfold wipe
          rw [ih (fun z => hn (List.mem_cons_of_mem _ z)), List.set_comm _ _ (fun z => hn (by rw [z]; exact List.mem_cons_self))]
      rw [this vs hv, List.set_set]
theorem wipe_wipe {σ : L2.St} (vs : List Nat) : wipe (wipe σ vs) vs = wipe σ vs := by
  have : ∀ (ws : List Nat), (∀ i ∈ ws, i ∈ vs) → wipe (wipe σ ws) vs = wipe σ vs := by
    intro ws
    induction ws with
    | nil => intro _; rfl
    | cons w ws ih =>
      intro h
      show wipe ((wipe σ ws).set w none) vs = _
      rw [wipe_set (h w List.mem_cons_self), ih (fun i hi => h i (List.mem_cons_of_mem _ hi))]
  exact this vs (fun _ h => h)
theorem ct_name {M : Mod0} {i : Nat} : CT M [i] (gName i) (cN i) := fun W S d x σ ρ ρ1 Q o hd r e q => by
  cases e
  refine q _ (r.set (x := .im d) hd i) ?_
  rw [wipe_set (List.mem_singleton.mpr rfl), wipe_wipe]
theorem ct_tup2 {M : Mod0} {i j : Nat} : CT M [i, j] (gTup M.K 2 (gCons (gName i) (gCons (gName j) gNil))) (cT2 i j) := fun W S d x σ ρ ρ1 Q o hd r e q => by
  unfold cT2 at e
  split at e
  · rename_i a b
    cases e
    obtain ⟨p, vs, rfl, h1, v1, r1, rfl, d1, v2, r2, rfl, d2, rfl⟩ := hd
    refine ⟨p, _, rfl, h1.imp (fun z => .inl z.1) id, rfl, v1, _, rfl, v2, _, rfl, rfl, ?_⟩
    refine q _ ((r.set (x := .im a) d1 i).set (x := .im b) d2 j) ?_
    rw [wipe_set (by simp), wipe_set (by simp), wipe_wipe]
  · cases e
theorem ct_tup3 {M : Mod0} {i j k : Nat} : CT M [i, j, k] (gTup M.K 3 (gCons (gName i) (gCons (gName j) (gCons (gName k) gNil)))) (cT3 i j k) := fun W S d x σ ρ ρ1 Q o hd r e q => by
  unfold cT3 at e
  split at e
  · rename_i a b c
    cases e
    obtain ⟨p, vs, rfl, h1, v1, r1, rfl, d1, v2, r2, rfl, d2, v3, r3, rfl, d3, rfl⟩ := hd
    refine ⟨p, _, rfl, h1.imp (fun z => .inl z.1) id, rfl, v1, _, rfl, v2, _, rfl, v3, _, rfl, rfl, ?_⟩
    refine q _ (((r.set (x := .im a) d1 i).set (x := .im b) d2 j).set (x := .im c) d3 k) ?_
    rw [wipe_set (by simp), wipe_set (by simp), wipe_set (by simp), wipe_wipe]
  · cases e
section
variable {M : Mod0} {W W1 : Wd} {S : Sto}
/-- what is banned may change -/
def Wd.poke (W : Wd) (a : Addr) (o : HO) : Wd := ⟨upd W.H a o, W.L, W.Bn⟩
theorem mo_poke {a : Addr} {o : HO} (hb : W.Bn a) : Mo W.H W.Bn (W.poke a o).H (W.poke a o).Bn := fun b u h n => ⟨by
  show upd W.H a o b = some u
  rw [upd_ne (fun (z : b = a) => n (by rw [z]; exact hb))]
  exact h, n⟩
theorem Ok.poke {a : Addr} {o : HO} (k : Ok M W S) (hb : W.Bn a) (hn : a ∉ W.L) : Ok M (W.poke a o) S := by
  have tr : ∀ b, W.H b ≠ none → (W.poke a o).H b ≠ none := fun b h z => by
    have z' : upd W.H a o b = none := z
    by_cases e : b = a
    · rw [e, upd_same] at z'; cases z'
    · rw [upd_ne e] at z'; exact h z'
  refine ⟨k.len, k.nd, fun b h => tr b (k.trk b h), fun b h => tr b (k.trl b h), fun n c hc => ?_⟩
  obtain ⟨b, h1, h2, h3⟩ := k.cell n c hc
  refine ⟨b, h1, h2.mono (mo_poke hb) (fun u q => ?_), h3⟩
  show upd W.H a o b = some u
  rw [upd_ne (fun (z : b = a) => hn (by rw [← z]; exact List.mem_of_getElem? h1))]
  exact q
theorem Ext.poke {a : Addr} {o : HO} (e : Ext W W1) (h : W.H a = none) : Ext W (W1.poke a o) := by
  refine ⟨e.new, e.hold, fun b u h1 h2 => ?_, fun b z => ?_⟩
  · show upd W1.H a o b = some u
    rw [upd_ne (ne_of_none h1 h)]
    exact e.keep b u h1 h2
  · have z' : upd W1.H a o b = none := z
    by_cases hb : b = a
    · rw [hb]; exact h
    · rw [upd_ne hb] at z'
      exact e.back b z'
/-- the list that is being made stands aside -/
structure Aside (W : Wd) (a : Addr) : Prop where
  ban : W.Bn a
  out : a ∉ W.L
  trk : W.H a ≠ none
theorem Aside.go {a : Addr} (s : Aside W a) (e : Ext W W1) : Aside W1 a := by
  obtain ⟨N, n1, n2, n3⟩ := e.new
  refine ⟨e.hold a s.trk s.ban s.out, ?_, fun z => s.trk (e.back a z)⟩
  rw [n1]
  intro z
  rcases List.mem_append.mp z with z | z
  · exact s.out z
  · exact s.trk (n2 a z)
theorem Aside.same {a : Addr} (s : Aside W a) (e : Ext W W1) {o : HO} (h : W.H a = some o) : W1.H a = some o := e.keep a o h (fun z => s.out z.1)
end
section
variable {X : Cx} {Wx : WX} {pos : Pos}
abbrev nix : WX := fun _ _ _ _ => False
theorem t_comp {mu : Bool} {it : MI} {vs : List Nat} {g : TG} {mc : MC} {t : MT} {e : ME} {σ : L2.St} {H : Hp} {Q : VK} (hc : CT X.M vs g mc) (h : tE X.M Wx (mComp mu it vs mc t e) σ H Q) : tLc (tI X.M Wx it) g (tT X.M nix t) (tE X.M nix e) vs σ H Q := by
  obtain ⟨W, ρ, S, ⟨rfl, o, r⟩, h⟩ := h
  refine ⟨W, ρ, S, ⟨rfl, o, r⟩, h.bind fun ds S1 J W1 e1 o1 itr h1 => ?_⟩
  intro D hD
  obtain ⟨G, Y, wk, hG, hY⟩ := itr.ex
  have r1 := r.mono e1
  let Pv : Nat → Hp → Prop := fun i H => ∃ W' S' acc va, W'.H = H ∧ Ext W1 W' ∧ Ok X.M W' S' ∧ Aside W' D ∧ H D = some (.lst va) ∧ Dns X.M W'.H W'.Bn acc va ∧
    Aft X.M (VlR X.M) W1 ((compL vs mc t e ρ (ds.drop i) acc S').bind fun acc S2 => fin mu (.nl acc) S2) Q (fun c d H' => Wx c d σ H')
  refine lc_it wk Pv ?_ ?_ ?_ ?_
  · let W' : Wd := ⟨upd W1.H D (.lst []), W1.L, fun b => W1.Bn b ∨ b = D⟩
    have eW : Ext W1 W' := ⟨⟨[], (List.append_nil _).symm, (fun _ z => nomatch z), fun b hb => hb.imp id (fun (z : b = D) => by rw [z]; exact hD)⟩, fun _ _ z _ => .inl z, fun b u q _ => by
      show upd W1.H D _ b = some u
      rw [upd_ne (ne_of_none q hD)]
      exact q, fun b z => by
      have z' : upd W1.H D (.lst []) b = none := z
      by_cases hb : b = D
      · rw [hb]; exact hD
      · rwa [upd_ne hb] at z'⟩
    have tr : ∀ b, W1.H b ≠ none → W'.H b ≠ none := fun b q z => q (eW.back b z)
    refine ⟨W', S1, [], [], rfl, eW, ⟨o1.len, o1.nd, fun b hb => ?_, fun b hb => tr b (o1.trl b hb), fun n c hc' => ?_⟩, ⟨.inr rfl, fun z => o1.trl D z hD, ?_⟩, upd_same, rfl, by simpa using h1⟩
    · rcases hb with hb | hb
      · exact tr b (o1.trk b hb)
      · show upd W1.H D _ b ≠ none
        rw [hb, upd_same]
        exact fun z => nomatch z
    · obtain ⟨b, q1, q2, q3⟩ := o1.cell n c hc'
      refine ⟨b, q1, q2.mono eW.mo (fun u q => ?_), fun z => .inl (q3 z)⟩
      show upd W1.H D _ b = some u
      rw [upd_ne (ne_of_none q hD)]
      exact q
    · show upd W1.H D _ D ≠ none
      rw [upd_same]
      exact fun z => nomatch z
  · rintro i H' hi ⟨W', S', acc, va, rfl, eW, oW, as, hv, dv, h'⟩
    exact hG W' eW
  · rintro i x H' H2 hi ⟨W', S', acc, va, rfl, eW, oW, as, hv, dv, h'⟩ y
    obtain ⟨W3, d, rfl, e3, o3, hd, dn⟩ := hY i W' S' x H2 eW oW hi y
    have hdr : ds.drop i = d :: ds.drop (i + 1) := by
      have hl := (List.getElem?_eq_some_iff.mp hd)
      rw [List.drop_eq_getElem_cons hl.1, hl.2]
    rw [hdr] at h'
    unfold compL at h'
    split at h'
    · exact h'.elim
    · rename_i ρ1 hg
      refine hc W3 S' d x σ (wipeR ρ vs) ρ1 _ o3 dn ((r1.mono (eW.trans e3)).wipe vs) hg (fun σ1 rr1 hw => ⟨hw, W3, ρ1, S', ⟨rfl, o3, rr1⟩, ?_⟩)
      split at h'
      · rename_i S2 ht
        rw [ht]
        intro b W4 e4 o4 hb
        subst hb
        rw [if_pos rfl]
        refine ⟨W4, ρ1, S2, ⟨rfl, o4, rr1.mono e4⟩, ?_⟩
        split at h'
        · rename_i y S5 he
          rw [he]
          intro v W5 e5 o5 rv
          split at h'
          · rename_i dy S6 hs
            obtain ⟨W6, k6, e6, o6, d6⟩ := stiff_ok o5 rv hs
            split at h'
            · rename_i hl
              have ex6 : Ext W' W6 := e3.trans (e4.trans (e5.trans e6))
              have as6 := as.go ex6
              have hv6 := as.same ex6 hv
              refine ⟨va, by rw [← k6]; exact hv6, by rw [dv.len, sizeLine_eq]; exact hl, ?_⟩
              refine ⟨W6.poke D (.lst (va ++ [v])), S6, acc ++ [dy], va ++ [v], by rw [← k6]; rfl, (eW.trans ex6).poke hD, o6.poke as6.ban as6.out, ⟨as6.ban, as6.out, ?_⟩, upd_same, ?_, h'⟩
              · show upd W6.H D _ D ≠ none
                rw [upd_same]
                exact fun z => nomatch z
              · exact ((dv.mono ex6.mo).app (ys := [dy]) (ws := [v]) ⟨v, [], rfl, d6, rfl⟩).mono (mo_poke as6.ban)
            · exact h'.elim
          · exact h'.elim
        · exact h'.elim
      · rename_i S2 ht
        rw [ht]
        intro b W4 e4 o4 hb
        subst hb
        rw [if_neg Bool.false_ne_true]
        have ex4 : Ext W' W4 := e3.trans e4
        exact ⟨W4, S2, acc, va, rfl, eW.trans ex4, o4, as.go ex4, as.same ex4 hv, dv.mono ex4.mo, h'⟩
      · exact h'.elim
  · rintro H' ⟨W', S', acc, va, rfl, eW, oW, as, hv, dv, h'⟩
    rw [List.drop_length] at h'
    have h' : Aft X.M (VlR X.M) W1 (fin mu (.nl acc) S') Q (fun c d H' => Wx c d σ H') := h'
    obtain ⟨N, n1, n2, n3⟩ := eW.new
    cases mu with
    | false =>
      let W8 : Wd := ⟨W'.H, W'.L, fun b => W'.Bn b ∧ b ≠ D⟩
      have mo8 : Mo W'.H W'.Bn W8.H W8.Bn := fun a u q1 q2 => ⟨q1, fun z => q2 z.1⟩
      refine h' (.ref D) W8 ⟨⟨N, n1, n2, fun b hb => n3 b hb.1⟩, fun b q1 q2 q3 => ⟨eW.hold b q1 q2 q3, fun z => q1 (z ▸ hD)⟩, eW.keep, eW.back⟩ ⟨oW.len, oW.nd, fun b hb => oW.trk b hb.1, oW.trl, fun n c hc' => ?_⟩ ⟨D, va, rfl, hv, fun z => z.2 rfl, dv.mono mo8⟩
      obtain ⟨b, q1, q2, q3⟩ := oW.cell n c hc'
      exact ⟨b, q1, q2.mono mo8 (fun _ z => z), fun z => ⟨q3 z, fun zz => as.out (zz ▸ List.mem_of_getElem? q1)⟩⟩
    | true =>
      let W8 : Wd := ⟨W'.H, W'.L ++ [D], W'.Bn⟩
      refine h' (.ref D) W8 ⟨⟨N ++ [D], by show W'.L ++ [D] = _; rw [n1, List.append_assoc], fun b hb => ?_, n3⟩, eW.hold, eW.keep, eW.back⟩ ⟨?_, ?_, oW.trk, fun b hb => ?_, fun n c hc' => ?_⟩ ⟨D, ?_, rfl⟩
      · rcases List.mem_append.mp hb with hb | hb
        · exact n2 b hb
        · rw [List.mem_singleton.mp hb]; exact hD
      · show (W'.L ++ [D]).length = (S' ++ [_]).length
        simp [oW.len]
      · refine List.nodup_append.mpr ⟨oW.nd, by simp, fun x hx y hy z => ?_⟩
        rw [List.mem_singleton.mp hy] at z
        exact as.out (z ▸ hx)
      · rcases List.mem_append.mp hb with hb | hb
        · exact oW.trl b hb
        · rw [List.mem_singleton.mp hb]; exact as.trk
      · by_cases hn : n < S'.length
        · rw [List.getElem?_append_left hn] at hc'
          obtain ⟨b, q1, q2, q3⟩ := oW.cell n c hc'
          refine ⟨b, ?_, q2, q3⟩
          show (W'.L ++ [D])[n]? = some b
          rw [List.getElem?_append_left (by rw [oW.len]; exact hn)]
          exact q1
        · have hl : n = S'.length := by
            have := (List.getElem?_eq_some_iff.mp hc').1
            simp at this
            omega
          subst hl
          rw [List.getElem?_append_right (Nat.le_refl _)] at hc'
          simp at hc'
          subst hc'
          refine ⟨D, ?_, ⟨va, hv, dv⟩, fun _ => as.ban⟩
          show (W'.L ++ [D])[S'.length]? = some D
          rw [← oW.len, List.getElem?_append_right (Nat.le_refl _)]
          simp
      · show (W'.L ++ [D])[S'.length]? = some D
        rw [← oW.len, List.getElem?_append_right (Nat.le_refl _)]
        simp
theorem _root_.L2.PTs.imp {e : List Expr} {t t' : TT} (h : PTs X e t) (k : ∀ σ H Q, t' σ H Q → t σ H Q) : PTs X e t' := ⟨fun pins s σ H Q I q => h.run pins s σ H Q I (k σ H Q q)⟩
theorem ts_nil : PTs X [] (tT X.M nix mYes) := by
  refine pts_nil.imp ?_
  rintro σ H Q ⟨W, ρ, S, ⟨rfl, o, r⟩, h⟩
  exact h true W (Ext.refl W) o rfl
theorem ts_one {e : Expr} {t : MT} (h : PT X e (tT X.M nix t)) : PTs X [e] (tT X.M nix t) := pts_one h
theorem c_comp {mu : Bool} {elt tg iter : Expr} {ifs : List Expr} {scope : Scope} {own : List (Str × Nat)} {it : MI} {g : TG} {mc : MC} {t : MT} {e : ME} (hc : X.calm = true) (hN : X.N.Nodup) (hi : PI X tg iter (tI X.M Wx it)) (ok : BlkOk X.N X.env.scope scope own) (ct : CT X.M (own.map (·.2)) g mc)
    (hg : ∀ (s : Shared) (H : Hp) (C : Addr) (cl : List (Str × Addr)) (fp : List Addr), PG (X.blk s H scope (compEnvC scope cl C X.env) fp) tg g) (ht : ∀ (s : Shared) (H : Hp) (C : Addr) (cl : List (Str × Addr)) (fp : List Addr), PTs (X.blk s H scope (compEnvC scope cl C X.env) fp) ifs (tT X.M nix t))
    (he : ∀ (s : Shared) (H : Hp) (C : Addr) (cl : List (Str × Addr)) (fp : List Addr), PE (X.blk s H scope (compEnvC scope cl C X.env) fp) elt (tE X.M nix e)) (hs : ∀ x, foldedSetIterable iter X.env x = pure x := by intro _; rfl) :
    PE X (.ListComp elt [⟨tg, iter, ifs, 0⟩] scope pos) (tE X.M Wx (mComp mu it (own.map (·.2)) mc t e)) := (pe_lc hc hN hi ok hg ht he hs).imp fun _ _ _ h => t_comp ct h
theorem c_setLc {i : Nat} {y : Str} {py : Pos} {mu : Bool} {elt tg iter : Expr} {ifs : List Expr} {scope : Scope} {own : List (Str × Nat)} {spos : Pos} {it : MI} {g : TG} {mc : MC} {t : MT} {e : ME} (hc : X.calm = true) (hN : X.N.Nodup) (hy : X.N[i]? = some y) (hyl : X.env.scope.names.lookup y = some .local)
    (hsw : swapsWith (.ListComp elt [⟨tg, iter, ifs, 0⟩] scope pos) (some (.Name y py)) spos.line X.env = pure true) (hi : PI X tg iter (tI X.M Wx it)) (ok : BlkOk X.N X.env.scope scope own) (ct : CT X.M (own.map (·.2)) g mc)
    (hg : ∀ (s : Shared) (H : Hp) (C : Addr) (cl : List (Str × Addr)) (fp : List Addr), PG (X.blk s H scope (compEnvC scope cl C X.env) fp) tg g) (ht : ∀ (s : Shared) (H : Hp) (C : Addr) (cl : List (Str × Addr)) (fp : List Addr), PTs (X.blk s H scope (compEnvC scope cl C X.env) fp) ifs (tT X.M nix t))
    (he : ∀ (s : Shared) (H : Hp) (C : Addr) (cl : List (Str × Addr)) (fp : List Addr), PE (X.blk s H scope (compEnvC scope cl C X.env) fp) elt (tE X.M nix e)) (hs : ∀ x, foldedSetIterable iter X.env x = pure x := by intro _; rfl) :
    PS X (.Assign [.Name y py] (.ListComp elt [⟨tg, iter, ifs, 0⟩] scope pos) spos) (tS X.M Wx (sAsg (mComp mu it (own.map (·.2)) mc t e) (gN i))) := by
  refine (ps_setLc hc hN hy hyl hsw hi ok hg ht he hs).imp ?_
  rintro D σ H ⟨W, ρ, S, ⟨rfl, o, r⟩, h⟩
  refine t_comp (mu := mu) ct ⟨W, ρ, S, ⟨rfl, o, r⟩, Aft.toS r h fun x S1 v W1 e1 o1 r1 h1 => ?_⟩
  exact h1 _ W1 (Ext.refl W1) o1 ((r.mono e1).set r1 i)
end
end Tar

set_option autoImplicit false
/-! == of plain data. -/
namespace Tar
open PySem PySem.Spec PyProof.Rows L2
mutual
def eqB : D → D → Bool
  | .non, .non => true
  | .bl a, .bl b => a == b
  | .int a, .int b => a == b
  | .str a, .str b => a == b
  | .byt a, .byt b => a == b
  | .lst xs, .lst ys => eqBs xs ys
  | .tup xs, .tup ys => eqBs xs ys
  | .bl a, .int b => (if a then 1 else 0) == b
  | .int a, .bl b => a == (if b then 1 else 0)
  | _, _ => false
def eqBs : List D → List D → Bool
  | [], [] => true
  | x :: xs, y :: ys => eqB x y && eqBs xs ys
  | _, _ => false
end
def flatD : D → Bool
  | .non => true
  | .bl _ => true
  | .int _ => true
  | .str _ => true
  | _ => false
def supL (f : D → D → Bool) : List D → List D → Bool
  | x :: xs, y :: ys => f x y && supL f xs ys
  | _, _ => true
/-- pairs that may be compared, to a depth -/
def sup : Nat → D → D → Bool
  | n + 1, .lst xs, .lst ys => supL (sup n) xs ys
  | n + 1, .tup xs, .tup ys => supL (sup n) xs ys
  | _, .byt _, .byt _ => true
  | _, d, e => flatD d && flatD e
theorem supL_get {f : D → D → Bool} : ∀ {xs ys : List D} {i : Nat} {x y : D}, supL f xs ys = true → xs[i]? = some x → ys[i]? = some y → f x y = true
  | [], _, _, _, _, _, h, _ => by simp at h
  | _ :: _, [], _, _, _, _, _, h => by simp at h
  | a :: xs, b :: ys, 0, x, y, h, h1, h2 => by
    simp at h1 h2
    subst h1 h2
    exact (Bool.and_eq_true_iff.mp h).1
  | a :: xs, b :: ys, i + 1, x, y, h, h1, h2 => supL_get (i := i) (Bool.and_eq_true_iff.mp h).2 (by simpa using h1) (by simpa using h2)
theorem eqBs_all : ∀ (xs ys : List D), eqBs xs ys = (xs.length == ys.length && (List.range xs.length).all fun i => match xs[i]?, ys[i]? with
    | some x, some y => eqB x y
    | _, _ => false)
  | [], [] => by simp [eqBs]
  | [], _ :: _ => by simp [eqBs]
  | _ :: _, [] => by simp [eqBs]
  | x :: xs, y :: ys => by
    rw [eqBs, eqBs_all xs ys, List.length_cons, List.length_cons, List.range_succ_eq_map, List.all_cons, List.all_map]
    have e : (xs.length + 1 == ys.length + 1) = (xs.length == ys.length) := by
      rw [Bool.eq_iff_iff, beq_iff_eq, beq_iff_eq]
      omega
    rw [e]
    simp only [List.getElem?_cons_zero, Function.comp_def, List.getElem?_cons_succ]
    cases eqB x y <;> simp
theorem B_beq {a b : List Nat} (ha : Lt256 a) (hb : Lt256 b) : decide ((B a).toList = (B b).toList) = (a == b) := by
  by_cases h : a = b
  · subst h; simp
  · have h1 : ¬ (B a).toList = (B b).toList := fun z => h (B_inj ha hb (Array.toList_inj.mp z))
    rw [decide_eq_false h1]
    exact (beq_eq_false_iff_ne.mpr h).symm
theorem S_beq (a b : List Nat) : (SX.S a == SX.S b) = (a == b) := by
  by_cases h : a = b
  · subst h; simp
  · have h1 : ¬ SX.S a = SX.S b := fun z => h (by simpa [SX.S] using z)
    rw [beq_eq_false_iff_ne.mpr h1]
    exact (beq_eq_false_iff_ne.mpr h).symm
theorem dec_S (a b : List Nat) : decide (V.str (SX.S a) = V.str (SX.S b)) = (a == b) := by rw [dec_str, S_beq]
theorem flat_V {M : Mod0} {H : Hp} {Bn : Addr → Prop} {d : D} {v : V} (f : flatD d = true) (h : Dn M H Bn d v) : flatV v = true := by
  cases d <;> first | exact absurd (show false = true from f) Bool.false_ne_true | (cases (show _ = _ from h); rfl)
theorem eq_flat {M : Mod0} {H : Hp} {Bn : Addr → Prop} {d e : D} {v u : V} (f : flatD d = true) (f' : flatD e = true) (h : Dn M H Bn d v) (h' : Dn M H Bn e u) : eqV v u = eqB d e := by
  cases d <;> first | exact absurd (show false = true from f) Bool.false_ne_true | skip
  all_goals (cases e <;> first | exact absurd (show false = true from f') Bool.false_ne_true | skip)
  all_goals (rw [show v = _ from h, show u = _ from h'])
  all_goals first | rfl | exact S_beq _ _
section
variable {X : Cx} {pins : List (Addr × Obj)} {σ : L2.St} {s : Shared}
theorem eqV_self {v : V} (h : flatV v = true) : eqV v v = true := by
  cases v <;> first | exact absurd (show false = true from h) Bool.false_ne_true | simp [eqV]
theorem sup_flat {n : Nat} {d e : D} (h : sup n d e = true) (hl : ∀ xs ys, ¬ (d = .lst xs ∧ e = .lst ys)) (ht : ∀ xs ys, ¬ (d = .tup xs ∧ e = .tup ys)) (hb : ∀ xs ys, ¬ (d = .byt xs ∧ e = .byt ys)) : flatD d = true ∧ flatD e = true := by
  unfold sup at h
  split at h
  · exact absurd ⟨rfl, rfl⟩ (hl _ _)
  · exact absurd ⟨rfl, rfl⟩ (ht _ _)
  · exact absurd ⟨rfl, rfl⟩ (hb _ _)
  · exact Bool.and_eq_true_iff.mp h
theorem sup0 {d e : D} (h : sup 0 d e = true) : (∃ xs ys, d = .byt xs ∧ e = .byt ys) ∨ (flatD d = true ∧ flatD e = true) := by
  cases d <;> cases e <;> first | exact .inl ⟨_, _, rfl, rfl⟩ | exact .inr (Bool.and_eq_true_iff.mp h)
theorem eqBs_of {xs ys : List D} (hl : xs.length = ys.length) (h : ∀ (i : Nat) x y, xs[i]? = some x → ys[i]? = some y → eqB x y = true) : eqBs xs ys = true := by
  rw [eqBs_all, Bool.and_eq_true_iff]
  refine ⟨beq_iff_eq.mpr hl, List.all_eq_true.mpr fun i hi => ?_⟩
  have h1 : i < xs.length := List.mem_range.mp hi
  rw [List.getElem?_eq_getElem h1, List.getElem?_eq_getElem (hl ▸ h1)]
  exact h i _ _ (List.getElem?_eq_getElem h1) (List.getElem?_eq_getElem (hl ▸ h1))
theorem Dn.inj {H : Hp} {Bn : Addr → Prop} (I : L2.Inv X pins σ H s) : ∀ (n : Nat) {d e : D} {v : V}, sup n d e = true → Sees X.M H Bn d v → Sees X.M H Bn e v → eqB d e = true := by
  intro n
  induction n with
  | zero =>
    intro d e v h hd he
    by_cases hb : ∃ xs ys, d = .byt xs ∧ e = .byt ys
    · obtain ⟨xs, ys, rfl, rfl⟩ := hb
      obtain ⟨e1, l1⟩ := hd
      obtain ⟨e2, l2⟩ := he
      exact beq_iff_eq.mpr (B_inj l1 l2 (V.byt.inj (e1.symm.trans e2)))
    · have hz : flatD d = true ∧ flatD e = true := (sup0 h).resolve_left hb
      have hd' : Dn X.M H Bn d v := by cases d <;> first | exact hd | exact absurd (show false = true from hz.1) Bool.false_ne_true
      have he' : Dn X.M H Bn e v := by cases e <;> first | exact he | exact absurd (show false = true from hz.2) Bool.false_ne_true
      rw [← eq_flat hz.1 hz.2 hd' he']
      exact eqV_self (flat_V hz.1 hd')
  | succ n ih =>
    intro d e v h hd he
    have key : ∀ {xs ys : List D} {vs : List V}, supL (sup n) xs ys = true → Dns X.M H Bn xs vs → Dns X.M H Bn ys vs → eqBs xs ys = true := fun {xs ys vs} hs h1 h2 => by
      refine eqBs_of (h1.len.symm.trans h2.len) fun i x y hx hy => ?_
      obtain ⟨v1, g1, d1⟩ := h1.get hx
      obtain ⟨v2, g2, d2⟩ := h2.get hy
      rw [g1] at g2
      cases g2
      exact ih (supL_get hs hx hy) d1.sees d2.sees
    by_cases hl : ∃ xs ys, d = .lst xs ∧ e = .lst ys
    · obtain ⟨xs, ys, rfl, rfl⟩ := hl
      obtain ⟨a, vs, rfl, i1, d1⟩ := hd
      obtain ⟨b, ws, e2, i2, d2⟩ := he
      cases e2
      obtain rfl := I.list_inj (.inl (.inl i1)) (.inl (.inl i2))
      exact key h d1 d2
    by_cases ht : ∃ xs ys, d = .tup xs ∧ e = .tup ys
    · obtain ⟨xs, ys, rfl, rfl⟩ := ht
      obtain ⟨a, vs, rfl, i1, d1⟩ := hd
      obtain ⟨b, ws, e2, i2, d2⟩ := he
      cases e2
      obtain rfl := I.tuple_inj (i1.imp (fun z => .inl z.1) id) (i2.imp (fun z => .inl z.1) id)
      exact key h d1 d2
    by_cases hb : ∃ xs ys, d = .byt xs ∧ e = .byt ys
    · obtain ⟨xs, ys, rfl, rfl⟩ := hb
      obtain ⟨e1, l1⟩ := hd
      obtain ⟨e2, l2⟩ := he
      exact beq_iff_eq.mpr (B_inj l1 l2 (V.byt.inj (e1.symm.trans e2)))
    have hz := sup_flat h (fun xs ys z => hl ⟨xs, ys, z⟩) (fun xs ys z => ht ⟨xs, ys, z⟩) (fun xs ys z => hb ⟨xs, ys, z⟩)
    have hd' : Dn X.M H Bn d v := by cases d <;> first | exact hd | exact absurd (show false = true from hz.1) Bool.false_ne_true
    have he' : Dn X.M H Bn e v := by cases e <;> first | exact he | exact absurd (show false = true from hz.2) Bool.false_ne_true
    rw [← eq_flat hz.1 hz.2 hd' he']
    exact eqV_self (flat_V hz.1 hd')
/-- the places of two rows -/
def eqI (xs ys : List D) (i : Nat) : Bool := match xs[i]?, ys[i]? with
  | some x, some y => eqB x y
  | _, _ => false
theorem eqBs_len {xs ys : List D} (h : xs.length = ys.length) : eqBs xs ys = (List.range xs.length).all (eqI xs ys) := by
  rw [eqBs_all, beq_iff_eq.mpr h, Bool.true_and]
  rfl
theorem eqBs_ne {xs ys : List D} (h : ¬ xs.length = ys.length) : eqBs xs ys = false := by
  rw [eqBs_all, beq_eq_false_iff_ne.mpr h, Bool.false_and]
theorem eqBs_tup (xs ys : List D) : eqBs xs ys = ((List.range (min xs.length ys.length)).all (eqI xs ys) && xs.length == ys.length) := by
  by_cases h : xs.length = ys.length
  · rw [eqBs_len h, beq_iff_eq.mpr h, Bool.and_true, h, Nat.min_self]
  · rw [eqBs_ne h, beq_eq_false_iff_ne.mpr h, Bool.and_false]
theorem eqAt_D {H : Hp} {Bn : Addr → Prop} (I : L2.Inv X pins σ H s) : ∀ (n : Nat) {A : Around} {d e : D} {x y : V} {u v : Value}, A.units + n < cLine → sup n d e = true → Sees X.M H Bn d x → Sees X.M H Bn e y → RelV x u → RelV y v → SeqAt.EqAt A s u v (eqB d e) := by
  have flat : ∀ {A : Around} {d e : D} {x y : V} {u v : Value}, flatD d = true → flatD e = true → Sees X.M H Bn d x → Sees X.M H Bn e y → RelV x u → RelV y v → SeqAt.EqAt A s u v (eqB d e) := by
    intro A d e x y u v f f' hd he rx ry
    have hd' : Dn X.M H Bn d x := by cases d <;> first | exact hd | exact absurd (show false = true from f) Bool.false_ne_true
    have he' : Dn X.M H Bn e y := by cases e <;> first | exact he | exact absurd (show false = true from f') Bool.false_ne_true
    rw [← eq_flat f f' hd' he']
    exact eqAt_V rx ry (flat_V f hd') (flat_V f' he')
  have byts : ∀ {A : Around} {xs ys : List Nat} {x y : V} {u v : Value}, Sees X.M H Bn (.byt xs) x → Sees X.M H Bn (.byt ys) y → RelV x u → RelV y v → SeqAt.EqAt A s u v (eqB (.byt xs) (.byt ys)) := by
    intro A xs ys x y u v hd he rx ry
    obtain ⟨rfl, l1⟩ := hd
    obtain ⟨rfl, l2⟩ := he
    obtain ⟨t, rfl⟩ := rx
    obtain ⟨t', rfl⟩ := ry
    refine fun prog w E Q h => PySem.W.eqBool_bytes ?_
    rw [B_beq l1 l2]
    exact h
  intro n
  induction n with
  | zero =>
    intro A d e x y u v hu h hd he rx ry
    rcases sup0 h with ⟨xs, ys, rfl, rfl⟩ | ⟨f, f'⟩
    · exact byts hd he rx ry
    · exact flat f f' hd he rx ry
  | succ n ih =>
    intro A d e x y u v hu h hd he rx ry
    by_cases hl : ∃ xs ys, d = .lst xs ∧ e = .lst ys
    · obtain ⟨xs, ys, rfl, rfl⟩ := hl
      by_cases hxy : x = y
      · subst hxy
        have e1 := Dn.inj I (n + 1) h hd he
        rw [e1]
        obtain ⟨a, vs, rfl, i1, d1⟩ := hd
        cases rx
        cases ry
        exact SeqAt.EqAt.same _
      obtain ⟨a, vs, rfl, i1, d1⟩ := hd
      obtain ⟨b, ws, rfl, i2, d2⟩ := he
      cases rx
      cases ry
      obtain ⟨its, r1, p1, _⟩ := I.list (.inl (.inl i1))
      obtain ⟨its2, r2, p2, _⟩ := I.list (.inl (.inl i2))
      refine SeqAt.EqAt.of_refs (fun z => hxy (by rw [z])) ?_
      have l1 : its.toArray.size = xs.length := by rw [List.size_toArray, ← r1.length, d1.len]
      have l2 : its2.toArray.size = ys.length := by rw [List.size_toArray, ← r2.length, d2.len]
      by_cases hlen : xs.length = ys.length
      · show SeqAt.RcAt A s _ _ (eqBs xs ys)
        rw [eqBs_len hlen, ← l1]
        refine SeqAt.RcAt.lists p1.isList p2.isList (by rw [l1, l2, hlen]) (by omega) (fun j h1 h2 => ?_)
        have j1 : j < xs.length := l1 ▸ h1
        have j2 : j < ys.length := l2 ▸ h2
        obtain ⟨v1, g1, q1⟩ := d1.get (List.getElem?_eq_getElem j1)
        obtain ⟨v2, g2, q2⟩ := d2.get (List.getElem?_eq_getElem j2)
        obtain ⟨u1, w1, rr1⟩ := r1.get g1
        obtain ⟨u2, w2, rr2⟩ := r2.get g2
        have e1 : its.toArray[j] = u1 := by
          have := (List.getElem?_eq_some_iff.mp w1).2
          simpa using this
        have e2 : its2.toArray[j] = u2 := by
          have := (List.getElem?_eq_some_iff.mp w2).2
          simpa using this
        rw [e1, e2]
        have := ih (A := A.in1) (by show A.units + 1 + n < cLine; omega) (supL_get h (List.getElem?_eq_getElem j1) (List.getElem?_eq_getElem j2)) q1.sees q2.sees rr1 rr2
        simpa [eqI, List.getElem?_eq_getElem j1, List.getElem?_eq_getElem j2] using this
      · show SeqAt.RcAt A s _ _ (eqBs xs ys)
        rw [eqBs_ne hlen]
        exact SeqAt.RcAt.lists_lengths p1.isList p2.isList (by rw [l1, l2]; simpa using hlen) (by omega)
    by_cases ht : ∃ xs ys, d = .tup xs ∧ e = .tup ys
    · obtain ⟨xs, ys, rfl, rfl⟩ := ht
      by_cases hxy : x = y
      · subst hxy
        have e1 := Dn.inj I (n + 1) h hd he
        rw [e1]
        obtain ⟨a, vs, rfl, i1, d1⟩ := hd
        cases rx
        cases ry
        exact SeqAt.EqAt.same _
      obtain ⟨a, vs, rfl, i1, d1⟩ := hd
      obtain ⟨b, ws, rfl, i2, d2⟩ := he
      cases rx
      cases ry
      obtain ⟨its, r1, p1, _⟩ := I.tuple (i1.imp (fun z => .inl z.1) id)
      obtain ⟨its2, r2, p2, _⟩ := I.tuple (i2.imp (fun z => .inl z.1) id)
      refine SeqAt.EqAt.of_refs (fun z => hxy (by rw [z])) ?_
      have l1 : its.toArray.size = xs.length := by rw [List.size_toArray, ← r1.length, d1.len]
      have l2 : its2.toArray.size = ys.length := by rw [List.size_toArray, ← r2.length, d2.len]
      show SeqAt.RcAt A s _ _ (eqBs xs ys)
      rw [eqBs_tup, ← l1, ← l2]
      refine SeqAt.RcAt.tuples p1 p2 (by omega) (fun j h1 h2 => ?_)
      have j1 : j < xs.length := l1 ▸ h1
      have j2 : j < ys.length := l2 ▸ h2
      obtain ⟨v1, g1, q1⟩ := d1.get (List.getElem?_eq_getElem j1)
      obtain ⟨v2, g2, q2⟩ := d2.get (List.getElem?_eq_getElem j2)
      obtain ⟨u1, w1, rr1⟩ := r1.get g1
      obtain ⟨u2, w2, rr2⟩ := r2.get g2
      have e1 : its.toArray[j] = u1 := by
        have := (List.getElem?_eq_some_iff.mp w1).2
        simpa using this
      have e2 : its2.toArray[j] = u2 := by
        have := (List.getElem?_eq_some_iff.mp w2).2
        simpa using this
      rw [e1, e2]
      have := ih (A := A.in1) (by show A.units + 1 + n < cLine; omega) (supL_get h (List.getElem?_eq_getElem j1) (List.getElem?_eq_getElem j2)) q1.sees q2.sees rr1 rr2
      simpa [eqI, List.getElem?_eq_getElem j1, List.getElem?_eq_getElem j2] using this
    by_cases hb : ∃ xs ys, d = .byt xs ∧ e = .byt ys
    · obtain ⟨xs, ys, rfl, rfl⟩ := hb
      exact byts hd he rx ry
    have hz := sup_flat h (fun xs ys z => hl ⟨xs, ys, z⟩) (fun xs ys z => ht ⟨xs, ys, z⟩) (fun xs ys z => hb ⟨xs, ys, z⟩)
    exact flat hz.1 hz.2 hd he rx ry
end
end Tar

set_option autoImplicit false
/-! Operations of plain values. -/
namespace Tar
open PySem PySem.Spec PyProof.Rows L2
def addD : D → D → Option P
  | .int i, .int j => some (.v (.int (i + j)))
  | .str a, .str b => if a.length + b.length ≤ 16777216 then some (.v (.str (a ++ b))) else none
  | .byt a, .byt b => if a.length + b.length ≤ 16777216 then some (.v (.byt (a ++ b))) else none
  | .lst a, .lst b => if a.length + b.length ≤ 16777216 then some (.nl (a ++ b)) else none
  | _, _ => none
def subD : D → D → Option P
  | .int i, .int j => some (.v (.int (i - j)))
  | _, _ => none
def mulOk (i j : Int) : Bool := decide (-(2 ^ 64) < i ∧ i < 2 ^ 64) || (decide (-(2 ^ 64) < j ∧ j < 2 ^ 64) || decide (i.natAbs.log2 + j.natAbs.log2 < 1000000))
def mulD : D → D → Option P
  | .int i, .int j => if mulOk i j then some (.v (.int (i * j))) else none
  | .str a, .int n => if a.length ≤ 100 ∧ -100000 ≤ n ∧ n ≤ 100000 then some (.v (.str (List.replicate n.toNat a).flatten)) else none
  | .lst a, .int n => if -100000000 ≤ n ∧ n ≤ 100000000 ∧ a.length * n.toNat ≤ 16777216 then some (.nl (List.replicate n.toNat a).flatten) else none
  | _, _ => none
def divD : D → D → Option P
  | .int i, .int j => if 0 < j ∧ j < 18446744073709551616 then some (.v (.int (i / j))) else none
  | _, _ => none
def modD : D → D → Option P
  | .int i, .int j => if 0 < j then some (.v (.int (i % j))) else none
  | _, _ => none
def powD : D → D → Option P
  | .int i, .int j => if 0 ≤ j ∧ j ≤ 1000000 ∧ i.natAbs < 2 ^ 64 then some (.v (.int (i ^ j.toNat))) else none
  | _, _ => none
def negD : D → Option P
  | .int i => some (.v (.int (-i)))
  | _ => none
def cmpD (f : Int → Int → Bool) : D → D → Option P
  | .int i, .int j => some (.v (.bl (f i j)))
  | _, _ => none
def topB : D → D → Bool
  | .bl _, .int _ => false
  | .int _, .bl _ => false
  | _, _ => true
def eqD : D → D → Option P := fun d e => if sup 60 d e && topB d e then some (.v (.bl (eqB d e))) else none
def neD : D → D → Option P := fun d e => if sup 60 d e && topB d e then some (.v (.bl (!eqB d e))) else none
def isnD (b : Bool) : D → D → Option P
  | .non, .non => some (.v (.bl b))
  | .lst _, .non => some (.v (.bl (!b)))
  | .tup _, .non => some (.v (.bl (!b)))
  | .str _, .non => some (.v (.bl (!b)))
  | .byt _, .non => some (.v (.bl (!b)))
  | .int _, .non => some (.v (.bl (!b)))
  | .bl _, .non => some (.v (.bl (!b)))
  | .ins _ _, .non => some (.v (.bl (!b)))
  | .dic _, .non => some (.v (.bl (!b)))
  | _, _ => none
def inL (x : D) (xs : List D) : Bool := xs.any fun y => eqB y x
def inD (b : Bool) : D → D → Option P
  | .str [c], .str z => some (.v (.bl (decide (c ∈ z) == b)))
  | x, .lst xs => if flatD x && xs.all flatD then some (.v (.bl (inL x xs == b))) else none
  | x, .tup xs => if flatD x && xs.all flatD then some (.v (.bl (inL x xs == b))) else none
  | _, _ => none
def ixD : D → D → Option P
  | .lst xs, .int i => (atI xs i).map .v
  | .tup xs, .int i => (atI xs i).map .v
  | .str z, .int i => if z.length ≤ 16777216 then (atI z i).map fun c => .v (.str [c]) else none
  | .scr ns, .int i => (atI ns i).map fun c => .v (.int c)
  | _, _ => none
section
variable {X : Cx}
theorem opR {f : Value → Value → Sem Value} {g : D → D → Option P} (h : ∀ (pins : List (Addr × Obj)) (s : Shared) (σ : L2.St) (W : Wd) (S : Sto) (d e : D) (x y : V) (v u : Value) (p : P) (Q : VK), L2.Inv X pins σ W.H s → RelV x v → RelV y u → Ok X.M W S →
    Sees X.M W.H W.Bn d x → Sees X.M W.H W.Bn e y → g d e = some p → Fin X.M W p Q → wpAny (model X.prog X.w) X.A (f v u) (EP X pins σ Q) X.xe s) : OpR X f (rD2 X.M g) := by
  intro pins s σ H x y v u Q I rx ry q
  obtain ⟨W, S, d, e, p, rfl, o, hd, he, hf, q⟩ := q
  exact h pins s σ W S d e x y v u p Q I rx ry o hd he hf q
theorem S_app (a b : List Nat) : SX.S a ++ SX.S b = SX.S (a ++ b) := by
  show (⟨_⟩ : Str) = ⟨_⟩
  simp [SX.S]
theorem o_add : OpR X (binaryOp .Add) (rD2 X.M addD) := opR fun pins s σ W S d e x y v u p Q I rx ry o hd he hf q => by
  unfold addD at hf
  split at hf
  · cases hf
    exact op_add pins s σ _ x y v u Q I rx ry ⟨_, _, hd, he, q _ rfl⟩
  · rename_i a b
    split at hf
    · rename_i hl
      cases hf
      refine op_add_str pins s σ _ x y v u Q I rx ry ⟨SX.S a, SX.S b, hd, he, by rw [SX.S_len, SX.S_len]; exact size24 hl, ?_⟩
      rw [S_app]
      exact q _ rfl
    · cases hf
  · split at hf
    · rename_i a b hl
      cases hf
      refine op_addB pins s σ _ x y v u Q I rx ry ⟨a, b, hd.1, he.1, hl, q _ ⟨rfl, fun n hn => ?_⟩⟩
      exact (List.mem_append.mp hn).elim (hd.2 n) (he.2 n)
    · cases hf
  · split at hf
    · rename_i a b hl
      cases hf
      obtain ⟨p1, vs1, rfl, i1, d1⟩ := hd
      obtain ⟨p2, vs2, rfl, i2, d2⟩ := he
      exact op_cat pins s σ _ _ _ v u Q I rx ry ⟨p1, p2, vs1, vs2, rfl, rfl, i1, i2, by rw [d1.len, d2.len]; exact size24 hl, fun a ha => q a _ ha (d1.app d2)⟩
    · cases hf
  · cases hf
theorem o_sub : OpR X (binaryOp .Sub) (rD2 X.M subD) := opR fun pins s σ W S d e x y v u p Q I rx ry o hd he hf q => by
  unfold subD at hf
  split at hf
  · cases hf
    exact op_sub pins s σ _ x y v u Q I rx ry ⟨_, _, hd, he, q _ rfl⟩
  · cases hf
theorem mul_S (a : List Nat) (n : Int) : PySem.Txt.mul (SX.S a) n = SX.S (List.replicate n.toNat a).flatten := by
  have h := mul_tl (SX.S a) n
  rw [show (SX.S a).cps.toList = a by simp [SX.S]] at h
  have : (PySem.Txt.mul (SX.S a) n) = ⟨(PySem.Txt.mul (SX.S a) n).cps.toList.toArray⟩ := by simp
  rw [this, h]
theorem Dns.rep {M : Mod0} {H : Hp} {Bn : Addr → Prop} {xs : List D} {vs : List V} (h : Dns M H Bn xs vs) : ∀ n : Nat, Dns M H Bn (List.replicate n xs).flatten (List.replicate n vs).flatten
  | 0 => rfl
  | n + 1 => by
    rw [List.replicate_succ, List.replicate_succ, List.flatten_cons, List.flatten_cons]
    exact h.app (h.rep n)
theorem o_mul : OpR X (binaryOp .Mult) (rD2 X.M mulD) := opR fun pins s σ W S d e x y v u p Q I rx ry o hd he hf q => by
  unfold mulD at hf
  split at hf
  · split at hf
    · rename_i i j hm
      cases hf
      unfold mulOk at hm
      rw [Bool.or_eq_true_iff, Bool.or_eq_true_iff] at hm
      rcases hm with hm | hm | hm
      · exact op_mul pins s σ _ x y v u Q I rx ry ⟨_, _, hd, he, .inl (of_decide_eq_true hm), q _ rfl⟩
      · exact op_mul pins s σ _ x y v u Q I rx ry ⟨_, _, hd, he, .inr (of_decide_eq_true hm), q _ rfl⟩
      · exact op_mulW pins s σ _ x y v u Q I rx ry ⟨_, _, hd, he, (of_decide_eq_true hm : i.natAbs.log2 + j.natAbs.log2 < 1000000), q _ rfl⟩
    · cases hf
  · split at hf
    · rename_i a n hl
      cases hf
      refine op_mul_str pins s σ _ x y v u Q I rx ry ⟨SX.S a, n, hd, he, mulOk_small (by rw [SX.S_len]; exact hl.1) hl.2.1 hl.2.2, ?_⟩
      rw [mul_S]
      exact q _ rfl
    · cases hf
  · split at hf
    · rename_i a n hl
      cases hf
      obtain ⟨p1, vs1, rfl, i1, d1⟩ := hd
      exact op_rep pins s σ _ _ _ v u Q I rx ry ⟨p1, n, vs1, rfl, he, i1, by omega, by omega, by rw [d1.len]; exact size24 hl.2.2, fun a ha => q a _ ha (d1.rep _)⟩
    · cases hf
  · cases hf
theorem o_div : OpR X (binaryOp .FloorDiv) (rD2 X.M divD) := opR fun pins s σ W S d e x y v u p Q I rx ry o hd he hf q => by
  unfold divD at hf
  split at hf
  · split at hf
    · rename_i i j hj
      cases hf
      exact op_fdivW pins s σ _ x y v u Q I rx ry ⟨_, _, hd, he, wide_div (b := 64) hj.1 (by omega) (by decide) (by decide), q _ rfl⟩
    · cases hf
  · cases hf
theorem o_mod : OpR X (binaryOp .Mod) (rD2 X.M modD) := opR fun pins s σ W S d e x y v u p Q I rx ry o hd he hf q => by
  unfold modD at hf
  split at hf
  · split at hf
    · rename_i i j hj
      cases hf
      exact op_mod pins s σ _ x y v u Q I rx ry ⟨_, _, hd, he, hj, q _ rfl⟩
    · cases hf
  · cases hf
theorem o_pow : OpR X (binaryOp .Pow) (rD2 X.M powD) := opR fun pins s σ W S d e x y v u p Q I rx ry o hd he hf q => by
  unfold powD at hf
  split at hf
  · split at hf
    · rename_i i j hj
      cases hf
      exact op_pow pins s σ _ x y v u Q I rx ry ⟨_, _, hd, he, hj, q _ rfl⟩
    · cases hf
  · cases hf
theorem o_neg : UnR X (unaryOp .USub) (rD1 X.M negD) := by
  intro pins s σ H x v Q I rx h
  obtain ⟨W, S, d, p, rfl, o, hd, hf, q⟩ := h
  unfold negD at hf
  split at hf
  · cases hf
    exact un_neg pins s σ _ x v Q I rx ⟨_, hd, q _ rfl⟩
  · cases hf
theorem o_lt : OpR X (compareOp .Lt) (rD2 X.M (cmpD fun i j => decide (i < j))) := opR fun pins s σ W S d e x y v u p Q I rx ry o hd he hf q => by
  unfold cmpD at hf
  split at hf
  · cases hf
    exact op_lt pins s σ _ x y v u Q I rx ry ⟨_, _, hd, he, q _ rfl⟩
  · cases hf
theorem o_le : OpR X (compareOp .LtE) (rD2 X.M (cmpD fun i j => decide (i ≤ j))) := opR fun pins s σ W S d e x y v u p Q I rx ry o hd he hf q => by
  unfold cmpD at hf
  split at hf
  · cases hf
    exact op_le pins s σ _ x y v u Q I rx ry ⟨_, _, hd, he, q _ rfl⟩
  · cases hf
theorem o_gt : OpR X (compareOp .Gt) (rD2 X.M (cmpD fun i j => decide (j < i))) := opR fun pins s σ W S d e x y v u p Q I rx ry o hd he hf q => by
  unfold cmpD at hf
  split at hf
  · cases hf
    exact op_gt pins s σ _ x y v u Q I rx ry ⟨_, _, hd, he, q _ rfl⟩
  · cases hf
theorem o_ge : OpR X (compareOp .GtE) (rD2 X.M (cmpD fun i j => decide (j ≤ i))) := opR fun pins s σ W S d e x y v u p Q I rx ry o hd he hf q => by
  unfold cmpD at hf
  split at hf
  · cases hf
    exact op_ge pins s σ _ x y v u Q I rx ry ⟨_, _, hd, he, q _ rfl⟩
  · cases hf
theorem isnD_some {b : Bool} {d e : D} {p : P} (h : isnD b d e = some p) : e = .non ∧ ((d = .non ∧ p = .v (.bl b)) ∨ ((∀ M H Bn v, Sees M H Bn d v → v ≠ .non) ∧ p = .v (.bl (!b)))) := by
  unfold isnD at h
  split at h <;> first | (cases h; refine ⟨rfl, .inl ⟨rfl, rfl⟩⟩) | (cases h; refine ⟨rfl, .inr ⟨fun M H Bn v q z => ?_, rfl⟩⟩; subst z) | cases h
  · obtain ⟨a, vs, q, _⟩ := q; cases q
  · obtain ⟨a, vs, q, _⟩ := q; cases q
  · cases (show V.non = _ from q)
  · cases q.1
  · cases (show V.non = _ from q)
  · cases (show V.non = _ from q)
  · obtain ⟨a, C, dx, vs, q, _⟩ := q; cases q
  · obtain ⟨a, vs, q, _⟩ := q; cases q
theorem o_is : OpR X (compareOp .Is) (rD2 X.M (isnD true)) := opR fun pins s σ W S d e x y v u p Q I rx ry o hd he hf q => by
  obtain ⟨rfl, h⟩ := isnD_some hf
  refine op_isN pins s σ _ x y v u Q I rx ry ⟨he, ?_⟩
  rcases h with ⟨rfl, rfl⟩ | ⟨hn, rfl⟩
  · rw [show x = .non from hd]
    exact q _ rfl
  · rw [decide_eq_false (hn _ _ _ _ hd)]
    exact q _ rfl
theorem o_isnot : OpR X (compareOp .IsNot) (rD2 X.M (isnD false)) := opR fun pins s σ W S d e x y v u p Q I rx ry o hd he hf q => by
  obtain ⟨rfl, h⟩ := isnD_some hf
  refine op_notN pins s σ _ x y v u Q I rx ry ⟨he, ?_⟩
  rcases h with ⟨rfl, rfl⟩ | ⟨hn, rfl⟩
  · rw [show x = .non from hd]
    exact q _ rfl
  · rw [decide_eq_false (hn _ _ _ _ hd)]
    exact q _ rfl
/-! ### == -/
theorem scal_eq {M : Mod0} {H : Hp} {Bn : Addr → Prop} {d e : D} {x y : V} (f : flatD d = true) (f' : flatD e = true) (t : topB d e = true) (hd : Sees M H Bn d x) (he : Sees M H Bn e y) : scal x y = true ∧ decide (x = y) = eqB d e := by
  cases d <;> first | exact absurd (show false = true from f) Bool.false_ne_true | skip
  all_goals (cases e <;> first | exact absurd (show false = true from f') Bool.false_ne_true | exact absurd (show false = true from t) Bool.false_ne_true | skip)
  all_goals (rw [show x = _ from hd, show y = _ from he])
  all_goals first | exact ⟨rfl, dec_S _ _⟩ | exact ⟨rfl, dec_int⟩ | exact ⟨rfl, dec_bl⟩ | exact ⟨rfl, by simp [eqB]⟩
theorem rc_pair {pins : List (Addr × Obj)} {σ : L2.St} {s : Shared} {H : Hp} {Bn : Addr → Prop} (I : L2.Inv X pins σ H s) {A : Around} {n : Nat} {xs ys : List D} {vs ws : List V} {its its2 : List Value} (hu : A.units + (n + 1) < cLine) (h : supL (sup n) xs ys = true)
    (d1 : Dns X.M H Bn xs vs) (d2 : Dns X.M H Bn ys ws) (r1 : Vals vs its) (r2 : Vals ws its2) : ∀ j (h1 : j < its.toArray.size) (h2 : j < its2.toArray.size), SeqAt.EqAt A.in1 s its.toArray[j] its2.toArray[j] (eqI xs ys j) := by
  intro j h1 h2
  have j1 : j < xs.length := by rw [← d1.len, r1.length]; simpa using h1
  have j2 : j < ys.length := by rw [← d2.len, r2.length]; simpa using h2
  obtain ⟨v1, g1, q1⟩ := d1.get (List.getElem?_eq_getElem j1)
  obtain ⟨v2, g2, q2⟩ := d2.get (List.getElem?_eq_getElem j2)
  obtain ⟨u1, w1, rr1⟩ := r1.get g1
  obtain ⟨u2, w2, rr2⟩ := r2.get g2
  have e1 : its.toArray[j] = u1 := by
    have := (List.getElem?_eq_some_iff.mp w1).2
    simpa using this
  have e2 : its2.toArray[j] = u2 := by
    have := (List.getElem?_eq_some_iff.mp w2).2
    simpa using this
  rw [e1, e2]
  have := eqAt_D (Bn := Bn) I n (A := A.in1) (by show A.units + 1 + n < cLine; omega) (supL_get h (List.getElem?_eq_getElem j1) (List.getElem?_eq_getElem j2)) q1.sees q2.sees rr1 rr2
  simpa [eqI, List.getElem?_eq_getElem j1, List.getElem?_eq_getElem j2] using this
theorem eq_run {pins : List (Addr × Obj)} {σ : L2.St} {s : Shared} {W : Wd} {d e : D} {x y : V} {v u : Value} {Q : VK} (hu : X.A.units + 64 < cLine) (I : L2.Inv X pins σ W.H s) (rx : RelV x v) (ry : RelV y u) (hd : Sees X.M W.H W.Bn d x) (he : Sees X.M W.H W.Bn e y) (hs : sup 60 d e = true) (ht : topB d e = true) :
    (Q (.bl (eqB d e)) W.H → wpAny (model X.prog X.w) X.A (compareOp .Eq v u) (EP X pins σ Q) X.xe s) ∧ (Q (.bl (!eqB d e)) W.H → wpAny (model X.prog X.w) X.A (compareOp .NotEq v u) (EP X pins σ Q) X.xe s) := by
  by_cases hl : ∃ xs ys, d = .lst xs ∧ e = .lst ys
  · obtain ⟨xs, ys, rfl, rfl⟩ := hl
    obtain ⟨a, vs, rfl, i1, d1⟩ := hd
    obtain ⟨b, ws, rfl, i2, d2⟩ := he
    cases rx
    cases ry
    obtain ⟨its, r1, p1, _⟩ := I.list (.inl (.inl i1))
    obtain ⟨its2, r2, p2, _⟩ := I.list (.inl (.inl i2))
    have l1 : its.toArray.size = xs.length := by rw [List.size_toArray, ← r1.length, d1.len]
    have l2 : its2.toArray.size = ys.length := by rw [List.size_toArray, ← r2.length, d2.len]
    have hp := rc_pair (A := X.A) I (n := 59) (by omega) hs d1 d2 r1 r2
    by_cases hlen : xs.length = ys.length
    · have e : eqB (.lst xs) (.lst ys) = (List.range its.toArray.size).all (eqI xs ys) := by rw [l1]; exact eqBs_len hlen
      rw [e]
      exact ⟨fun q => SeqAt.RcAt.lists p1.isList p2.isList (by rw [l1, l2, hlen]) (by omega) hp _ _ _ _ ⟨.bl _, W.H, I, rfl, q⟩, fun q => SeqAt.RcNeAt.lists p1.isList p2.isList (by rw [l1, l2, hlen]) (by omega) hp _ _ _ _ ⟨.bl _, W.H, I, rfl, q⟩⟩
    · have e : eqB (.lst xs) (.lst ys) = false := eqBs_ne hlen
      rw [e]
      exact ⟨fun q => SeqAt.RcAt.lists_lengths p1.isList p2.isList (by rw [l1, l2]; simpa using hlen) (by omega) _ _ _ _ ⟨.bl _, W.H, I, rfl, q⟩, fun q => SeqAt.RcNeAt.lists_lengths p1.isList p2.isList (by rw [l1, l2]; simpa using hlen) (by omega) _ _ _ _ ⟨.bl _, W.H, I, rfl, q⟩⟩
  by_cases htt : ∃ xs ys, d = .tup xs ∧ e = .tup ys
  · obtain ⟨xs, ys, rfl, rfl⟩ := htt
    obtain ⟨a, vs, rfl, i1, d1⟩ := hd
    obtain ⟨b, ws, rfl, i2, d2⟩ := he
    cases rx
    cases ry
    obtain ⟨its, r1, p1, _⟩ := I.tuple (i1.imp (fun z => .inl z.1) id)
    obtain ⟨its2, r2, p2, _⟩ := I.tuple (i2.imp (fun z => .inl z.1) id)
    have l1 : its.toArray.size = xs.length := by rw [List.size_toArray, ← r1.length, d1.len]
    have l2 : its2.toArray.size = ys.length := by rw [List.size_toArray, ← r2.length, d2.len]
    have hp := rc_pair (A := X.A) I (n := 59) (by omega) hs d1 d2 r1 r2
    have e : eqB (.tup xs) (.tup ys) = ((List.range (min its.toArray.size its2.toArray.size)).all (eqI xs ys) && its.toArray.size == its2.toArray.size) := by rw [l1, l2]; exact eqBs_tup xs ys
    rw [e]
    exact ⟨fun q => SeqAt.RcAt.tuples p1 p2 (by omega) hp _ _ _ _ ⟨.bl _, W.H, I, rfl, q⟩, fun q => SeqAt.RcNeAt.tuples p1 p2 (by omega) hp _ _ _ _ ⟨.bl _, W.H, I, rfl, q⟩⟩
  by_cases hb : ∃ xs ys, d = .byt xs ∧ e = .byt ys
  · obtain ⟨xs, ys, rfl, rfl⟩ := hb
    obtain ⟨rfl, b1⟩ := hd
    obtain ⟨rfl, b2⟩ := he
    have e : decide (V.byt (B xs) = V.byt (B ys)) = eqB (.byt xs) (.byt ys) := by
      rw [dec_byt]
      show _ = (xs == ys)
      rw [← B_beq b1 b2, Bool.eq_iff_iff, beq_iff_eq, decide_eq_true_iff]
    exact ⟨fun q => op_eq pins s σ _ _ _ v u Q I rx ry ⟨rfl, by rw [e]; exact q⟩, fun q => op_ne pins s σ _ _ _ v u Q I rx ry ⟨rfl, by rw [e]; exact q⟩⟩
  have hz := sup_flat hs (fun xs ys z => hl ⟨xs, ys, z⟩) (fun xs ys z => htt ⟨xs, ys, z⟩) (fun xs ys z => hb ⟨xs, ys, z⟩)
  obtain ⟨sc, e⟩ := scal_eq hz.1 hz.2 ht hd he
  exact ⟨fun q => op_eq pins s σ _ _ _ v u Q I rx ry ⟨sc, by rw [e]; exact q⟩, fun q => op_ne pins s σ _ _ _ v u Q I rx ry ⟨sc, by rw [e]; exact q⟩⟩
theorem o_eq (hu : X.A.units + 64 < cLine) : OpR X (compareOp .Eq) (rD2 X.M eqD) := opR fun pins s σ W S d e x y v u p Q I rx ry o hd he hf q => by
  unfold eqD at hf
  split at hf
  · rename_i h
    obtain ⟨hs, ht⟩ := Bool.and_eq_true_iff.mp h
    cases hf
    exact (eq_run hu I rx ry hd he hs ht).1 (q _ rfl)
  · cases hf
theorem o_ne (hu : X.A.units + 64 < cLine) : OpR X (compareOp .NotEq) (rD2 X.M neD) := opR fun pins s σ W S d e x y v u p Q I rx ry o hd he hf q => by
  unfold neD at hf
  split at hf
  · rename_i h
    obtain ⟨hs, ht⟩ := Bool.and_eq_true_iff.mp h
    cases hf
    exact (eq_run hu I rx ry hd he hs ht).2 (q _ rfl)
  · cases hf
/-! ### in -/
theorem inV_D {M : Mod0} {H : Hp} {Bn : Addr → Prop} {x : D} {vx : V} (f : flatD x = true) (hx : Dn M H Bn x vx) : ∀ {xs : List D} {vs : List V}, xs.all flatD = true → Dns M H Bn xs vs → vs.all flatV = true ∧ inV vx vs = inL x xs
  | [], _, _, h => by rw [show _ = [] from h]; exact ⟨rfl, rfl⟩
  | y :: ys, _, ha, ⟨v, r, q, h, t⟩ => by
    subst q
    obtain ⟨f1, f2⟩ := Bool.and_eq_true_iff.mp (show (flatD y && ys.all flatD) = true from ha)
    obtain ⟨a1, a2⟩ := inV_D f hx f2 t
    refine ⟨by rw [List.all_cons, flat_V f1 h, a1]; rfl, ?_⟩
    show (eqV v vx || inV vx r) = (eqB y x || inL x ys)
    rw [a2, eq_flat f1 f h hx]
theorem flat_sees {M : Mod0} {H : Hp} {Bn : Addr → Prop} {d : D} {v : V} (f : flatD d = true) (h : Sees M H Bn d v) : Dn M H Bn d v := by
  cases d <;> first | exact h | exact absurd (show false = true from f) Bool.false_ne_true
theorem o_in : OpR X (compareOp .In) (rD2 X.M (inD true)) := opR fun pins s σ W S d e x y v u p Q I rx ry o hd he hf q => by
  unfold inD at hf
  split at hf
  · rename_i c z
    cases hf
    refine op_in_sign pins s σ _ x y v u Q I rx ry ⟨c, SX.S z, hd, he, ?_⟩
    rw [show (SX.S z).cps.toList = z by simp [SX.S]]
    rw [beq_true] at q
    exact q _ rfl
  · rename_i xs _
    split at hf
    · rename_i hh
      obtain ⟨f1, f2⟩ := Bool.and_eq_true_iff.mp hh
      cases hf
      obtain ⟨a, vs, rfl, i1, d1⟩ := he
      obtain ⟨a1, a2⟩ := inV_D f1 (flat_sees f1 hd) f2 d1
      refine op_in_seq pins s σ _ _ _ v u Q I rx ry ⟨a, vs, rfl, .inl (.inl (.inl i1)), flat_V f1 (flat_sees f1 hd), a1, ?_⟩
      rw [if_neg Bool.false_ne_true, a2]
      rw [beq_true] at q
      exact q _ rfl
    · cases hf
  · split at hf
    · rename_i hh
      obtain ⟨f1, f2⟩ := Bool.and_eq_true_iff.mp hh
      cases hf
      obtain ⟨a, vs, rfl, i1, d1⟩ := he
      obtain ⟨a1, a2⟩ := inV_D f1 (flat_sees f1 hd) f2 d1
      refine op_in_seq pins s σ _ _ _ v u Q I rx ry ⟨a, vs, rfl, .inr (i1.imp (fun z => .inl z.1) id), flat_V f1 (flat_sees f1 hd), a1, ?_⟩
      rw [if_neg Bool.false_ne_true, a2]
      rw [beq_true] at q
      exact q _ rfl
    · cases hf
  · cases hf
theorem o_notin : OpR X (compareOp .NotIn) (rD2 X.M (inD false)) := opR fun pins s σ W S d e x y v u p Q I rx ry o hd he hf q => by
  unfold inD at hf
  split at hf
  · rename_i c z
    cases hf
    refine op_notIn_sign pins s σ _ x y v u Q I rx ry ⟨c, SX.S z, hd, he, ?_⟩
    rw [show (SX.S z).cps.toList = z by simp [SX.S]]
    rw [beq_false] at q
    exact q _ rfl
  · rename_i xs _
    split at hf
    · rename_i hh
      obtain ⟨f1, f2⟩ := Bool.and_eq_true_iff.mp hh
      cases hf
      obtain ⟨a, vs, rfl, i1, d1⟩ := he
      obtain ⟨a1, a2⟩ := inV_D f1 (flat_sees f1 hd) f2 d1
      refine op_notIn_seq pins s σ _ _ _ v u Q I rx ry ⟨a, vs, rfl, .inl (.inl (.inl i1)), flat_V f1 (flat_sees f1 hd), a1, ?_⟩
      rw [if_pos rfl, a2]
      rw [beq_false] at q
      exact q _ rfl
    · cases hf
  · split at hf
    · rename_i hh
      obtain ⟨f1, f2⟩ := Bool.and_eq_true_iff.mp hh
      cases hf
      obtain ⟨a, vs, rfl, i1, d1⟩ := he
      obtain ⟨a1, a2⟩ := inV_D f1 (flat_sees f1 hd) f2 d1
      refine op_notIn_seq pins s σ _ _ _ v u Q I rx ry ⟨a, vs, rfl, .inr (i1.imp (fun z => .inl z.1) id), flat_V f1 (flat_sees f1 hd), a1, ?_⟩
      rw [if_pos rfl, a2]
      rw [beq_false] at q
      exact q _ rfl
    · cases hf
  · cases hf
/-! ### a[i] -/
theorem atI_D {M : Mod0} {H : Hp} {Bn : Addr → Prop} {xs : List D} {vs : List V} {i : Int} {d : D} (h : Dns M H Bn xs vs) (e : atI xs i = some d) : ∃ v, atI vs i = some v ∧ Dn M H Bn d v := by
  unfold atI at e ⊢
  rw [h.len]
  cases hj : ixN xs.length i with
  | none => rw [hj] at e; cases e
  | some j =>
    rw [hj] at e
    obtain ⟨v, h1, h2⟩ := h.get (show xs[j]? = some d from e)
    exact ⟨v, h1, h2⟩
theorem atI_map {α β : Type} (f : α → β) (xs : List α) (i : Int) : atI (xs.map f) i = (atI xs i).map f := by
  unfold atI
  rw [List.length_map]
  cases ixN xs.length i with
  | none => rfl
  | some j => simp
theorem o_ix : IxR X (rD2 X.M ixD) := by
  intro value slice pins s σ H x y v u Q I rx ry h hs
  obtain ⟨W, S, d, e, p, rfl, o, hd, he, hf, q⟩ := h
  unfold ixD at hf
  split at hf
  · rename_i xs i
    cases ha : atI xs i with
    | none => rw [ha] at hf; cases hf
    | some z =>
      rw [ha] at hf
      cases hf
      obtain ⟨a, vs, rfl, i1, d1⟩ := hd
      obtain ⟨w, h1, h2⟩ := atI_D d1 ha
      exact ix_list value slice pins s σ _ _ y v u Q I rx ry ⟨a, vs, i, w, rfl, he, .inl (.inl i1), h1, q _ h2⟩ hs
  · rename_i xs i
    cases ha : atI xs i with
    | none => rw [ha] at hf; cases hf
    | some z =>
      rw [ha] at hf
      cases hf
      obtain ⟨a, vs, rfl, i1, d1⟩ := hd
      obtain ⟨w, h1, h2⟩ := atI_D d1 ha
      exact ix_tup value slice pins s σ _ _ y v u Q I rx ry ⟨a, vs, i, w, rfl, he, i1.imp (fun z => .inl z.1) id, h1, q _ h2⟩ hs
  · rename_i z i
    split at hf
    · rename_i hl
      cases ha : atI z i with
      | none => rw [ha] at hf; cases hf
      | some c =>
        rw [ha] at hf
        cases hf
        exact ix_str value slice pins s σ _ x y v u Q I rx ry ⟨SX.S z, i, c, hd, he, by rw [SX.S_len]; exact size24 hl, by rw [show (SX.S z).cps.toList = z by simp [SX.S]]; exact ha, q _ rfl⟩ hs
    · cases hf
  · rename_i ns i
    cases ha : atI ns i with
    | none => rw [ha] at hf; cases hf
    | some c =>
      rw [ha] at hf
      cases hf
      obtain ⟨a, rfl, i1⟩ := hd
      have i2 : SqL X.K W.H a (ns.map V.int) := i1.imp (fun ⟨o, q, _⟩ => .inr ⟨o, q⟩) id
      exact ix_list value slice pins s σ _ _ y v u Q I rx ry ⟨a, _, i, .int c, rfl, he, i2, by rw [atI_map, ha]; rfl, q _ rfl⟩ hs
  · cases hf
end
end Tar

set_option autoImplicit false
/-! Slices, built-in functions, methods, stores. -/
namespace Tar
open PySem PySem.Spec PyProof.Rows L2
/-! ### a[lo:hi] -/
abbrev MO := Rho → Sto → R (Option Int)
def oNo : MO := fun _ S => .ok none S
def oSome (e : ME) : MO := fun ρ S => (e ρ S).bind fun x S1 => match vw x S1 with
  | some (.int i) => .ok (some i) S1
  | _ => .no
def nnB : Option Int → Bool
  | none => true
  | some i => decide (0 ≤ i)
theorem nnB_NN {o : Option Int} (h : nnB o = true) : NN o := by
  cases o with
  | none => trivial
  | some i => exact (of_decide_eq_true h : (0 : Int) ≤ i)
def slD (lo hi : Option Int) : D → Option P
  | .lst xs => if nnB lo && nnB hi then some (.nl (cutN xs lo hi)) else none
  | .str z => if nnB lo && nnB hi && decide (z.length ≤ 16777216) then some (.v (.str (cutN z lo hi))) else none
  | .byt z => if nnB lo && nnB hi && decide (z.length ≤ 16777216) then some (.v (.byt (cutN z lo hi))) else none
  | _ => none
def mSl (mu : Bool) (a : ME) (lo hi : MO) : ME := fun ρ S => (a ρ S).bind fun x S1 => (lo ρ S1).bind fun l S2 => (hi ρ S2).bind fun h S3 => on1 mu (slD l h) x S3
def revD : D → Option P
  | .lst xs => some (.nl xs.reverse)
  | _ => none
section
variable {X : Cx} {Wx : WX} {pos : Pos}
def tO (M : Mod0) (Wx : WX) (m : MO) : TO := fun σ H Q => ∃ W ρ S, At M W ρ S σ H ∧ Aft M (fun _ b b' => b' = b) W (m ρ S) Q (fun c d H' => Wx c d σ H')
theorem _root_.L2.PO.imp {e : Option Expr} {t t' : TO} (h : PO X e t) (k : ∀ σ H Q, t' σ H Q → t σ H Q) : PO X e t' := ⟨fun pins s σ H Q I q => h.run pins s σ H Q I (k σ H Q q)⟩
theorem p_no : PO X none (tO X.M Wx oNo) := by
  refine po_none.imp ?_
  rintro σ H Q ⟨W, ρ, S, ⟨rfl, o, r⟩, h⟩
  exact h none W (Ext.refl W) o rfl
theorem p_some {e : Expr} {a : ME} (he : PE X e (tE X.M Wx a)) : PO X (some e) (tO X.M Wx (oSome a)) := by
  refine (po_some he).imp ?_
  rintro σ H Q ⟨W, ρ, S, ⟨rfl, o, r⟩, h⟩
  refine ⟨W, ρ, S, ⟨rfl, o, r⟩, h.bind fun x S1 v W1 e1 o1 r1 h1 => ?_⟩
  split at h1
  · rename_i i hi
    exact ⟨i, vw_sees o1 r1 hi, h1 (some i) W1 (Ext.refl W1) o1 rfl⟩
  · exact h1.elim
def rSD (M : Mod0) : V → Option Int → Option Int → Hp → VK → Prop := fun u lo hi H Q => rD1 M (slD lo hi) u H Q
theorem o_sl : SlR X (rSD X.M) := by
  intro pins s σ H x v vl vu lo hi sl Q I rx hs pl pu h
  obtain ⟨W, S, d, p, rfl, o, hd, hf, q⟩ := h
  unfold slD at hf
  split at hf
  · split at hf
    · rename_i hn
      obtain ⟨n1, n2⟩ := Bool.and_eq_true_iff.mp hn
      cases hf
      obtain ⟨a, vs, rfl, i1, d1⟩ := hd
      refine sl_V pins s σ _ _ v vl vu lo hi sl Q I rx hs pl pu ⟨a, vs, rfl, .inl (.inl i1), nnB_NN n1, nnB_NN n2, fun p hp => q p _ hp ?_⟩
      unfold cutN
      rw [d1.len]
      exact (d1.take _).drop _
    · cases hf
  · split at hf
    · rename_i hn
      obtain ⟨hn, hl⟩ := Bool.and_eq_true_iff.mp hn
      obtain ⟨n1, n2⟩ := Bool.and_eq_true_iff.mp hn
      cases hf
      exact sl_T pins s σ _ _ v vl vu lo hi sl Q I rx hs pl pu ⟨_, hd, nnB_NN n1, nnB_NN n2, of_decide_eq_true hl, q _ rfl⟩
    · cases hf
  · split at hf
    · rename_i hn
      obtain ⟨hn, hl⟩ := Bool.and_eq_true_iff.mp hn
      obtain ⟨n1, n2⟩ := Bool.and_eq_true_iff.mp hn
      cases hf
      exact sl_B pins s σ _ _ v vl vu lo hi sl Q I rx hs pl pu ⟨_, hd.1, nnB_NN n1, nnB_NN n2, of_decide_eq_true hl, q _ ⟨rfl, fun n hn => hd.2 n (cutN_mem hn)⟩⟩
    · cases hf
  · cases hf
theorem c_sl {mu : Bool} {e : Expr} {lo hi : Option Expr} {a : ME} {l h : MO} {p2 : Pos} (he : PE X e (tE X.M Wx a)) (hl : PO X lo (tO X.M Wx l)) (hh : PO X hi (tO X.M Wx h)) : PE X (.Subscript e (.Slice lo hi none p2) pos) (tE X.M Wx (mSl mu a l h)) := by
  refine (pe_slice o_sl he hl hh).imp ?_
  rintro σ H Q ⟨W, ρ, S, ⟨rfl, o, r⟩, hq⟩
  refine ⟨W, ρ, S, ⟨rfl, o, r⟩, hq.bind fun x S1 v W1 e1 o1 r1 h1 => ?_⟩
  refine ⟨W1, ρ, S1, ⟨rfl, o1, r.mono e1⟩, h1.bind fun l S2 l' W2 e2 o2 r2 h2 => ?_⟩
  subst r2
  refine ⟨W2, ρ, S2, ⟨rfl, o2, (r.mono e1).mono e2⟩, h2.bind fun l S3 l' W3 e3 o3 r3 h3 => ?_⟩
  subst r3
  exact on1_ok o3 ((r1.mono e2).mono e3) h3
theorem c_rev {mu : Bool} {e : Expr} {a : ME} {k : Nat} {p1 p2 p3 : Pos} (he : PE X e (tE X.M Wx a)) : PE X (.Subscript e (.Slice none none (some (.UnaryOp .USub (.Constant (.int 1) k p1) p2)) p3) pos) (tE X.M Wx (mUn mu revD a)) := by
  refine (pe_revL he).imp ?_
  rintro σ H Q ⟨W, ρ, S, ⟨rfl, o, r⟩, hq⟩
  refine ⟨W, ρ, S, ⟨rfl, o, r⟩, hq.bind fun x S1 v W1 e1 o1 r1 h1 => ?_⟩
  obtain ⟨W2, S2, d, p, e, o2, hd, hf, q⟩ := on1_ok o1 r1 h1
  unfold revD at hf
  split at hf
  · cases hf
    obtain ⟨a, vs, rfl, i1, d1⟩ := hd
    rw [← e]
    exact ⟨a, vs, rfl, .inl (.inl i1), fun p hp => q p _ hp d1.rev⟩
  · cases hf
end
/-! ### built-in functions -/
def lenD : List D → Option P
  | [.lst xs] => some (.v (.int xs.length))
  | [.tup xs] => some (.v (.int xs.length))
  | [.str z] => if z.length ≤ 16777216 then some (.v (.int z.length)) else none
  | [.byt z] => if z.length ≤ 16777216 then some (.v (.int z.length)) else none
  | [.scr ns] => some (.v (.int ns.length))
  | _ => none
def blsD : List D → Option (List Bool)
  | [] => some []
  | .bl b :: ds => (blsD ds).map (b :: ·)
  | _ => none
def numsD : List D → Option (List Int)
  | [] => some []
  | .int b :: ds => (numsD ds).map (b :: ·)
  | _ => none
def allD : List D → Option P
  | [.lst xs] => (blsD xs).map fun bs => .v (.bl (bs.all id))
  | _ => none
def anyD : List D → Option P
  | [.lst xs] => (blsD xs).map fun bs => .v (.bl (bs.any id))
  | _ => none
def absD : List D → Option P
  | [.int i] => some (.v (.int (if i < 0 then -i else i)))
  | _ => none
def minD : List D → Option P
  | [.int i, .int j] => some (.v (.int (if j < i then j else i)))
  | _ => none
def maxD : List D → Option P
  | [.int i, .int j] => some (.v (.int (if j > i then j else i)))
  | _ => none
def intD : List D → Option P
  | [.int i] => some (.v (.int i))
  | [.bl b] => some (.v (.int (if b then 1 else 0)))
  | _ => none
def ordD : List D → Option P
  | [.str [c]] => some (.v (.int c))
  | _ => none
def sumD : List D → Option P
  | [.lst xs] => (numsD xs).map fun ns => .v (.int ns.sum)
  | [.byt z] => if z.length ≤ 16777216 then some (.v (.int ((z.sum : Nat) : Int))) else none
  | _ => none
def b8 (ns : List Int) : Bool := ns.all fun i => decide (0 ≤ i ∧ i < 256)
def bytD : List D → Option P
  | [.int n] => if 0 ≤ n ∧ n ≤ 16777216 then some (.v (.byt (List.replicate n.toNat 0))) else none
  | [.lst xs] => (numsD xs).bind fun ns => if b8 ns then some (.v (.byt (ns.map Int.toNat))) else none
  | _ => none
def lstD : List D → Option P
  | [.lst xs] => some (.nl xs)
  | [.tup xs] => some (.nl xs)
  | [.byt z] => if z.length ≤ 16777216 then some (.nl (z.map fun (c : Nat) => .int c)) else none
  | _ => none
section
variable {X : Cx}
theorem callR {f : Value} {g : List D → Option P} (h : ∀ (pins : List (Addr × Obj)) (s : Shared) (σ : L2.St) (W : Wd) (S : Sto) (ds : List D) (xs : List V) (us : List Value) (p : P) (Q : VK), L2.Inv X pins σ W.H s → Vals xs us → Ok X.M W S →
    SeesAll X.M W ds xs → g ds = some p → Fin X.M W p Q → wpAny (model X.prog X.w) X.A (call f us) (EP X pins σ Q) X.xe s) : CallR X f (rDN X.M g) := by
  intro pins s σ H xs us Q I r q
  obtain ⟨W, S, ds, p, rfl, o, hd, hf, q⟩ := q
  exact h pins s σ W S ds xs us p Q I r o hd hf q
theorem SeesAll.one {M : Mod0} {W : Wd} {d : D} {xs : List V} (h : SeesAll M W [d] xs) : ∃ v, xs = [v] ∧ Sees M W.H W.Bn d v := by
  obtain ⟨v, r, q, h1, h2⟩ := h
  exact ⟨v, by rw [q, show r = [] from h2], h1⟩
theorem SeesAll.two {M : Mod0} {W : Wd} {d e : D} {xs : List V} (h : SeesAll M W [d, e] xs) : ∃ v u, xs = [v, u] ∧ Sees M W.H W.Bn d v ∧ Sees M W.H W.Bn e u := by
  obtain ⟨v, r, q, h1, h2⟩ := h
  obtain ⟨u, rfl, h3⟩ := h2.one
  exact ⟨v, u, q, h1, h3⟩
theorem b_len : CallR X (.builtin "len") (rDN X.M lenD) := callR fun pins s σ W S ds xs us p Q I r o hd hf q => by
  unfold lenD at hf
  split at hf
  · cases hf
    obtain ⟨v, rfl, a, vs, rfl, i1, d1⟩ := hd.one
    refine call_len pins s σ _ _ us Q I r ⟨_, _, rfl, .inl ⟨vs, .inl (.inl i1), rfl⟩, ?_⟩
    rw [d1.len]
    exact q _ rfl
  · cases hf
    obtain ⟨v, rfl, a, vs, rfl, i1, d1⟩ := hd.one
    refine call_len pins s σ _ _ us Q I r ⟨_, _, rfl, .inr ⟨vs, i1.imp (fun z => .inl z.1) id, rfl⟩, ?_⟩
    rw [d1.len]
    exact q _ rfl
  · split at hf
    · rename_i hl
      cases hf
      obtain ⟨v, rfl, h1⟩ := hd.one
      rw [show v = _ from h1] at r
      exact call_len pins s σ _ _ us Q I r ⟨_, _, rfl, ⟨by rw [SX.S_len]; exact size24 hl, rfl⟩, by rw [SX.S_len]; exact q _ rfl⟩
    · cases hf
  · split at hf
    · rename_i hl
      cases hf
      obtain ⟨v, rfl, rfl, _⟩ := hd.one
      exact call_lenB pins s σ _ _ us Q I r ⟨_, rfl, hl, q _ rfl⟩
    · cases hf
  · cases hf
    rename_i ns
    obtain ⟨v, rfl, a, rfl, i1⟩ := hd.one
    refine call_len pins s σ _ _ us Q I r ⟨_, _, rfl, .inl ⟨ns.map V.int, i1.imp (fun ⟨o, q, _⟩ => .inr ⟨o, q⟩) id, rfl⟩, ?_⟩
    rw [List.length_map]
    exact q _ rfl
  · cases hf
theorem blsD_ok {M : Mod0} {H : Hp} {Bn : Addr → Prop} : ∀ {xs : List D} {bs : List Bool} {vs : List V}, blsD xs = some bs → Dns M H Bn xs vs → vs = bs.map V.bl
  | [], _, _, e, h => by cases e; exact h
  | d :: ds, bs, _, e, ⟨v, r, q, h, t⟩ => by
    cases d with
    | bl b =>
      simp only [blsD] at e
      cases hb : blsD ds with
      | none => rw [hb] at e; cases e
      | some cs =>
        rw [hb] at e
        cases e
        rw [q, blsD_ok hb t, show v = _ from h]
        rfl
    | _ => cases e
theorem numsD_ok {M : Mod0} {H : Hp} {Bn : Addr → Prop} : ∀ {xs : List D} {bs : List Int} {vs : List V}, numsD xs = some bs → Dns M H Bn xs vs → vs = bs.map V.int
  | [], _, _, e, h => by cases e; exact h
  | d :: ds, bs, _, e, ⟨v, r, q, h, t⟩ => by
    cases d with
    | int b =>
      simp only [numsD] at e
      cases hb : numsD ds with
      | none => rw [hb] at e; cases e
      | some cs =>
        rw [hb] at e
        cases e
        rw [q, numsD_ok hb t, show v = _ from h]
        rfl
    | _ => cases e
theorem b_all (hc : X.calm = true) : CallR X (.builtin "all") (rDN X.M allD) := callR fun pins s σ W S ds xs us p Q I r o hd hf q => by
  unfold allD at hf
  split at hf
  · rename_i ys
    cases hb : blsD ys with
    | none => rw [hb] at hf; cases hf
    | some bs =>
      rw [hb] at hf
      cases hf
      obtain ⟨v, rfl, a, vs, rfl, i1, d1⟩ := hd.one
      exact cr_all hc pins s σ _ _ us Q I r ⟨a, bs, rfl, .inl (.inl (blsD_ok hb d1 ▸ i1)), q _ rfl⟩
  · cases hf
theorem b_any (hc : X.calm = true) : CallR X (.builtin "any") (rDN X.M anyD) := callR fun pins s σ W S ds xs us p Q I r o hd hf q => by
  unfold anyD at hf
  split at hf
  · rename_i ys
    cases hb : blsD ys with
    | none => rw [hb] at hf; cases hf
    | some bs =>
      rw [hb] at hf
      cases hf
      obtain ⟨v, rfl, a, vs, rfl, i1, d1⟩ := hd.one
      exact cr_any hc pins s σ _ _ us Q I r ⟨a, bs, rfl, .inl (.inl (blsD_ok hb d1 ▸ i1)), q _ rfl⟩
  · cases hf
theorem b_abs : CallR X (.builtin "abs") (rDN X.M absD) := callR fun pins s σ W S ds xs us p Q I r o hd hf q => by
  unfold absD at hf
  split at hf
  · cases hf
    obtain ⟨v, rfl, h1⟩ := hd.one
    exact call_abs pins s σ _ _ us Q I r ⟨_, by rw [show v = _ from h1], q _ rfl⟩
  · cases hf
theorem b_min (hc : X.calm = true) : CallR X (.builtin "min") (rDN X.M minD) := callR fun pins s σ W S ds xs us p Q I r o hd hf q => by
  unfold minD at hf
  split at hf
  · cases hf
    obtain ⟨v, u, rfl, h1, h2⟩ := hd.two
    exact call_min2 hc pins s σ _ _ us Q I r ⟨_, _, by rw [show v = _ from h1, show u = _ from h2], q _ rfl⟩
  · cases hf
theorem b_max (hc : X.calm = true) : CallR X (.builtin "max") (rDN X.M maxD) := callR fun pins s σ W S ds xs us p Q I r o hd hf q => by
  unfold maxD at hf
  split at hf
  · cases hf
    obtain ⟨v, u, rfl, h1, h2⟩ := hd.two
    exact call_max2 hc pins s σ _ _ us Q I r ⟨_, _, by rw [show v = _ from h1, show u = _ from h2], q _ rfl⟩
  · cases hf
theorem b_int : CallR X (.type "int") (rDN X.M intD) := callR fun pins s σ W S ds xs us p Q I r o hd hf q => by
  unfold intD at hf
  split at hf
  · cases hf
    obtain ⟨v, rfl, h1⟩ := hd.one
    exact call_int1 pins s σ _ _ us Q I r (.inl ⟨_, by rw [show v = _ from h1], q _ rfl⟩)
  · cases hf
    obtain ⟨v, rfl, h1⟩ := hd.one
    exact call_int1 pins s σ _ _ us Q I r (.inr ⟨_, by rw [show v = _ from h1], q _ rfl⟩)
  · cases hf
theorem b_ord : CallR X (.builtin "ord") (rDN X.M ordD) := callR fun pins s σ W S ds xs us p Q I r o hd hf q => by
  unfold ordD at hf
  split at hf
  · cases hf
    obtain ⟨v, rfl, h1⟩ := hd.one
    exact call_ord pins s σ _ _ us Q I r ⟨SX.S [_], by rw [show v = _ from h1], rfl, q _ rfl⟩
  · cases hf
theorem b_sum (hc : X.calm = true) : CallR X (.builtin "sum") (rDN X.M sumD) := callR fun pins s σ W S ds xs us p Q I r o hd hf q => by
  unfold sumD at hf
  split at hf
  · rename_i ys
    cases hb : numsD ys with
    | none => rw [hb] at hf; cases hf
    | some bs =>
      rw [hb] at hf
      cases hf
      obtain ⟨v, rfl, a, vs, rfl, i1, d1⟩ := hd.one
      exact cr_sum hc pins s σ _ _ us Q I r ⟨a, bs, rfl, .inl (.inl (numsD_ok hb d1 ▸ i1)), q _ rfl⟩
  · split at hf
    · rename_i hl
      cases hf
      obtain ⟨v, rfl, rfl, hz⟩ := hd.one
      exact call_sumB hc pins s σ _ _ us Q I r ⟨_, rfl, hz, hl, q _ rfl⟩
    · cases hf
  · cases hf
theorem b8_nat {ns : List Int} (h : b8 ns = true) : Lt256 (ns.map Int.toNat) ∧ B8 ns ∧ byteArr ns = B (ns.map Int.toNat) := by
  have h' : ∀ i ∈ ns, 0 ≤ i ∧ i < 256 := fun i hi => of_decide_eq_true (List.all_eq_true.mp h i hi)
  refine ⟨fun n hn => ?_, fun i hi => ?_, ?_⟩
  · obtain ⟨i, hi, rfl⟩ := List.mem_map.mp hn
    have := h' i hi
    omega
  · exact h' i hi
  · rw [B_byteArr, List.map_map]
    congr 1
    have : ∀ l : List Int, (∀ i ∈ l, 0 ≤ i ∧ i < 256) → l = l.map (Int.ofNat ∘ Int.toNat) := by
      intro l
      induction l with
      | nil => intro _; rfl
      | cons a r ih =>
        intro hl
        rw [List.map_cons, ← ih (fun i hi => hl i (List.mem_cons_of_mem _ hi))]
        congr 1
        have := hl a List.mem_cons_self
        simp only [Function.comp]
        show a = ((a.toNat : Nat) : Int)
        omega
    exact this ns h'
theorem b_byt (hc : X.calm = true) : CallR X (.type "bytes") (rDN X.M bytD) := callR fun pins s σ W S ds xs us p Q I r o hd hf q => by
  unfold bytD at hf
  split at hf
  · split at hf
    · rename_i n hn
      cases hf
      obtain ⟨v, rfl, h1⟩ := hd.one
      refine call_bytN pins s σ _ _ us Q I r ⟨n.toNat, ?_, by omega, q _ ⟨rfl, fun m hm => ?_⟩⟩
      · rw [show v = _ from h1, Int.toNat_of_nonneg hn.1]
      · rw [List.eq_of_mem_replicate hm]; decide
    · cases hf
  · rename_i ys
    cases hb : numsD ys with
    | none => rw [hb] at hf; cases hf
    | some bs =>
      rw [hb] at hf
      simp only [Option.bind_some] at hf
      split at hf
      · rename_i h8
        cases hf
        obtain ⟨v, rfl, a, vs, rfl, i1, d1⟩ := hd.one
        obtain ⟨l1, l2, l3⟩ := b8_nat h8
        refine call_bytes_list hc pins s σ _ _ us Q I r ⟨a, bs, rfl, .inl (.inl (numsD_ok hb d1 ▸ i1)), l2, ?_⟩
        rw [l3]
        exact q _ ⟨rfl, l1⟩
      · cases hf
  · cases hf
theorem dns_nat {M : Mod0} {H : Hp} {Bn : Addr → Prop} : ∀ z : List Nat, Dns M H Bn (z.map fun (c : Nat) => D.int c) (nV z)
  | [] => rfl
  | _ :: z => ⟨_, _, rfl, rfl, dns_nat z⟩
theorem b_lst (hc : X.calm = true) : CallR X (.type "list") (rDN X.M lstD) := callR fun pins s σ W S ds xs us p Q I r o hd hf q => by
  unfold lstD at hf
  split at hf
  · cases hf
    obtain ⟨v, rfl, a, vs, rfl, i1, d1⟩ := hd.one
    exact call_list_of pins s σ _ _ us Q I r ⟨a, vs, rfl, .inl (.inl (.inl i1)), fun l hl => q l _ hl d1⟩
  · cases hf
    obtain ⟨v, rfl, a, vs, rfl, i1, d1⟩ := hd.one
    exact call_list_of pins s σ _ _ us Q I r ⟨a, vs, rfl, .inr (i1.imp (fun z => .inl z.1) id), fun l hl => q l _ hl d1⟩
  · split at hf
    · rename_i hl
      cases hf
      obtain ⟨v, rfl, rfl, hz⟩ := hd.one
      exact call_lstB hc pins s σ _ _ us Q I r ⟨_, rfl, hz, hl, fun p hp => q p _ hp (dns_nat _)⟩
    · cases hf
  · cases hf
end
/-! ### isinstance of built-in classes -/
def tyB : D → Option String
  | .non => some "NoneType"
  | .bl _ => some "bool"
  | .int _ => some "int"
  | .str _ => some "str"
  | .byt _ => some "bytes"
  | .lst _ => some "list"
  | .tup _ => some "tuple"
  | .dic _ => some "dict"
  | _ => none
def blts : List String := ["NoneType", "bool", "int", "str", "bytes", "list", "tuple", "dict"]
def isiB (n m : String) : Bool := n == m || (n == "bool" && m == "int")
theorem kit_blts : ∀ n ∈ blts, ∀ m ∈ blts, kitB n m = some (isiB n m) := by decide +kernel
def tysD : List D → Option (List String)
  | [] => some []
  | .ty n :: ds => (tysD ds).bind fun ns => if blts.contains n then some (n :: ns) else none
  | _ => none
def isiD : List D → Option P
  | [x, .ty n] => (tyB x).bind fun t => if blts.contains n then some (.v (.bl (isiB t n))) else none
  | [x, .tup cs] => (tyB x).bind fun t => (tysD cs).map fun ns => .v (.bl (ns.any (isiB t)))
  | _ => none
theorem tyB_in {d : D} {n : String} (h : tyB d = some n) : n ∈ blts := by
  cases d <;> cases h <;> decide
section
variable {X : Cx}
theorem tyB_X {W : Wd} {d : D} {n : String} {v : V} (h : tyB d = some n) (hd : Sees X.M W.H W.Bn d v) : TyX X.K W.H v (.type n) := by
  cases d <;> cases h
  · rw [show v = _ from hd]; exact .base .non
  · rw [show v = _ from hd]; exact .base (.bl _)
  · rw [show v = _ from hd]; exact .base (.int _)
  · rw [show v = _ from hd]; exact .base (.str _)
  · rw [hd.1]; exact .byt _
  · obtain ⟨a, vs, rfl, i1, _⟩ := hd; exact .base (.lst i1)
  · obtain ⟨a, vs, rfl, i1, _⟩ := hd
    rcases i1 with ⟨i1, _⟩ | ⟨o, its, m, h1, h2, _⟩
    · exact .base (.tup i1)
    · exact .kTuple h1 h2
  · obtain ⟨a, vs, rfl, i1, _⟩ := hd; exact .base (.dK i1)
theorem tys_ok {M : Mod0} {H : Hp} {Bn : Addr → Prop} {K : PySem.W.Frag} {t : String} (ht : t ∈ blts) : ∀ {cs : List D} {ns : List String} {vs : List V}, tysD cs = some ns → Dns M H Bn cs vs → ∃ us, Paired ClsV vs us ∧ PySem.W.kitAny K (.type t) us = some (ns.any (isiB t)) ∧ Vals vs us
  | [], _, _, e, h => by cases e; rw [show _ = [] from h]; exact ⟨[], .nil, rfl, .nil⟩
  | d :: ds, ns, _, e, ⟨v, r, q, h, tl⟩ => by
    cases d with
    | ty n =>
      simp only [tysD] at e
      cases hb : tysD ds with
      | none => rw [hb] at e; cases e
      | some cs =>
        rw [hb] at e
        simp only [Option.bind_some] at e
        split at e
        · rename_i hn
          cases e
          obtain ⟨us, p1, p2, p3⟩ := tys_ok ht hb tl
          rw [q, show v = _ from h]
          refine ⟨.type n :: us, .cons (.ty n) p1, ?_, .cons rfl p3⟩
          have hk : PySem.W.kitOne K (.type t) (.type n) = some (isiB t n) := kit_ty (kit_blts t ht n (List.contains_iff_mem.mp hn))
          rw [List.any_cons]
          refine kitAny_cons (b := isiB t n) hk (fun z => ?_) (fun z => ?_)
          · rw [z, Bool.false_or]; exact p2
          · rw [z]; rfl
        · cases e
    | _ => cases e
theorem b_isi : CallR X (.builtin "isinstance") (rDN X.M isiD) := callR fun pins s σ W S ds xs us p Q I r o hd hf q => by
  unfold isiD at hf
  split at hf
  · rename_i x n
    cases ht : tyB x with
    | none => rw [ht] at hf; cases hf
    | some t =>
      rw [ht] at hf
      simp only [Option.bind_some] at hf
      split at hf
      · rename_i hn
        cases hf
        obtain ⟨v, u, rfl, h1, h2⟩ := hd.two
        rw [show u = _ from h2] at r
        exact call_isi pins s σ _ _ us Q I r ⟨v, .ty n, .type t, .type n, _, rfl, .ty n, tyB_X ht h1, kit_ty (kit_blts t (tyB_in ht) n (List.contains_iff_mem.mp hn)), q _ rfl⟩
      · cases hf
  · rename_i x cs
    cases ht : tyB x with
    | none => rw [ht] at hf; cases hf
    | some t =>
      rw [ht] at hf
      cases hc : tysD cs with
      | none => rw [hc] at hf; cases hf
      | some ns =>
        rw [hc] at hf
        cases hf
        obtain ⟨v, u, rfl, h1, a, vs, rfl, i1, d1⟩ := hd.two
        obtain ⟨ws, p1, p2, p3⟩ := tys_ok (K := X.K) (tyB_in ht) hc d1
        rcases i1 with ⟨i1, _⟩ | ⟨ob, its, m, k1, k2, k3, k4, k5⟩
        · exact call_isiT pins s σ _ _ us Q I r ⟨v, a, vs, .type t, ws, _, rfl, i1, p1, tyB_X ht h1, p2, q _ rfl⟩
        · obtain ⟨oc, od, dt, sl⟩ := ob
          simp only at k2 k3
          subst k2 k3
          have e : its = ws.toArray := by rw [← ClsV.all p1 k5]
          exact call_isiK pins s σ _ _ us Q I r ⟨v, a, od, ws, m, sl, .type t, _, rfl, by rw [← e]; exact k1, tyB_X ht h1, p2, q _ rfl⟩
  · cases hf
end
end Tar

set_option autoImplicit false
/-! Methods, stores, errors. -/
namespace Tar
open PySem PySem.Spec PyProof.Rows L2
/-! ### methods of texts -/
def mM0 (mu : Bool) (f : List Nat → List D → Option P) (o : ME) : ME := fun ρ S => (o ρ S).bind fun x S1 => match vw x S1 with
  | some (.str z) => ofO mu (f z []) S1
  | _ => .no
def mM1 (mu : Bool) (f : List Nat → List D → Option P) (o e : ME) : ME := fun ρ S => (o ρ S).bind fun x S1 => match vw x S1 with
  | some (.str z) => (e ρ S1).bind fun y S2 => match vw y S2 with
    | some d => ofO mu (f z [d]) S2
    | none => .no
  | _ => .no
def rM (M : Mod0) (f : List Nat → List D → Option P) : V → List V → Hp → VK → Prop := fun u us H Q => ∃ W S z ds p, W.H = H ∧ Ok M W S ∧ u = .str (SX.S z) ∧ SeesAll M W ds us ∧ f z ds = some p ∧ Fin M W p Q
def encD (z : List Nat) : List D → Option P
  | [] => if z.all (fun c => decide (c < 128)) && decide (z.length ≤ 16777216) then some (.v (.byt z)) else none
  | _ => none
def zfL (z : List Nat) (w : Int) : List Nat := (PySem.Txt.zfill (SX.S z) w).cps.toList
def zfD (z : List Nat) : List D → Option P
  | [.int w] => if 0 ≤ w ∧ w ≤ 1000 then some (.v (.str (zfL z w))) else none
  | _ => none
def octD1 : D → Option P
  | .int i => if 0 ≤ i ∧ (octL i.toNat).length ≤ 16777216 then some (.v (.str (octL i.toNat))) else none
  | _ => none
section
variable {X : Cx} {Wx : WX} {pos : Pos}
theorem ofO_ok {M : Mod0} {mu : Bool} {o : Option P} {W : Wd} {S : Sto} {Q : VK} {E : XK} (k : Ok M W S) (h : Aft M (VlR M) W (ofO mu o S) Q E) : ∃ p, o = some p ∧ Fin M W p Q := by
  cases o with
  | none => exact h.elim
  | some p => exact ⟨p, rfl, fin_ok k h⟩
theorem c_m0 {mu : Bool} {id : String} {name : Str} {f : List Nat → List D → Option P} {o : Expr} {mo : ME} {apos : Pos} (slot : Slot "str" name id) (ty : typeOf (.builtin id) = pure (.type "method_descriptor")) (rule : MtR X id (rM X.M f)) (ho : PE X o (tE X.M Wx mo))
    (hbase : attributeBase o name X.env (eval o X.env) = eval o X.env := by rfl) (hline : (apos.endLine == pos.line) = true := by rfl) : PE X (.Call (.Attribute o name apos) [] [] pos) (tE X.M Wx (mM0 mu f mo)) := by
  refine (pe_m0 slot ty rule ho hbase hline).imp ?_
  rintro σ H Q ⟨W, ρ, S, ⟨rfl, o, r⟩, h⟩
  refine ⟨W, ρ, S, ⟨rfl, o, r⟩, h.bind fun x S1 v W1 e1 o1 r1 h1 => ?_⟩
  split at h1
  · rename_i z hz
    have hs := vw_sees o1 r1 hz
    obtain ⟨p, hp, q⟩ := ofO_ok o1 h1
    exact ⟨⟨_, hs⟩, W1, S1, z, [], p, rfl, o1, hs, rfl, hp, q⟩
  · exact h1.elim
theorem c_m1 {mu : Bool} {id : String} {name : Str} {f : List Nat → List D → Option P} {o e : Expr} {mo me : ME} {apos : Pos} (slot : Slot "str" name id) (ty : typeOf (.builtin id) = pure (.type "method_descriptor")) (rule : MtR X id (rM X.M f)) (ho : PE X o (tE X.M Wx mo)) (he : PE X e (tE X.M Wx me))
    (hs : starEach [e] X.env = [(false, eval e X.env)] := by rfl) (hbase : attributeBase o name X.env (eval o X.env) = eval o X.env := by rfl) (hline : (apos.endLine == pos.line) = true := by rfl) : PE X (.Call (.Attribute o name apos) [e] [] pos) (tE X.M Wx (mM1 mu f mo me)) := by
  refine (pe_m1 slot ty rule ho he hs hbase hline).imp ?_
  rintro σ H Q ⟨W, ρ, S, ⟨rfl, o, r⟩, h⟩
  refine ⟨W, ρ, S, ⟨rfl, o, r⟩, h.bind fun x S1 v W1 e1 o1 r1 h1 => ?_⟩
  split at h1
  · rename_i z hz
    have hs := vw_sees o1 r1 hz
    refine ⟨⟨_, hs⟩, W1, ρ, S1, ⟨rfl, o1, r.mono e1⟩, h1.bind fun y S2 u W2 e2 o2 r2 h2 => ?_⟩
    split at h2
    · rename_i d hd
      obtain ⟨p, hp, q⟩ := ofO_ok o2 h2
      exact ⟨W2, S2, z, [d], p, rfl, o2, hs, ⟨u, [], rfl, vw_sees o2 r2 hd, rfl⟩, hp, q⟩
    · exact h2.elim
  · exact h1.elim
theorem m_enc : MtR X "str.encode" (rM X.M encD) := by
  intro pins s σ H x xs v us Q I rx rs h
  obtain ⟨W, S, z, ds, p, rfl, o, rfl, hd, hf, q⟩ := h
  cases ds with
  | nil =>
    simp only [encD] at hf
    split at hf
    · rename_i hh
      obtain ⟨h1, h2⟩ := Bool.and_eq_true_iff.mp hh
      cases hf
      have ha : ∀ n ∈ z, n < 128 := fun n hn => of_decide_eq_true (List.all_eq_true.mp h1 n hn)
      exact mt_enc pins s σ _ _ xs v us Q I rx rs ⟨z, rfl, hd, ha, of_decide_eq_true h2, q _ ⟨rfl, fun n hn => Nat.lt_trans (ha n hn) (by decide)⟩⟩
    · cases hf
  | cons d ds => cases hf
theorem m_zf : MtR X "str.zfill" (rM X.M zfD) := by
  intro pins s σ H x xs v us Q I rx rs h
  obtain ⟨W, S, z, ds, p, rfl, o, rfl, hd, hf, q⟩ := h
  unfold zfD at hf
  split at hf
  · rename_i w
    split at hf
    · rename_i hw
      cases hf
      obtain ⟨u, rfl, hu⟩ := hd.one
      rw [show u = _ from hu] at rs
      refine mt_zfill pins s σ _ _ _ v us Q I rx rs ⟨SX.S z, w, rfl, rfl, ?_, q _ ?_⟩
      · have := PadOk_nat (w := w.toNat) (by omega)
        rwa [Int.toNat_of_nonneg hw.1] at this
      · show V.str _ = V.str (SX.S (zfL z w))
        unfold zfL
        simp [SX.S]
    · cases hf
  · cases hf
theorem c_oct {mu : Bool} {e : Expr} {a : ME} {ck : Nat} {p1 p2 p3 : Pos} (he : PE X e (tE X.M Wx a)) : PE X (.JoinedStr [.FormattedValue e (-1) (some (.JoinedStr [.Constant (.str "o") ck p1] p2)) p3] pos) (tE X.M Wx (mUn mu octD1 a)) := by
  refine (pe_joined1 (pe_oct he)).imp ?_
  rintro σ H Q ⟨W, ρ, S, ⟨rfl, o, r⟩, h⟩
  refine ⟨W, ρ, S, ⟨rfl, o, r⟩, h.bind fun x S1 v W1 e1 o1 r1 h1 => ?_⟩
  obtain ⟨W2, S2, d, p, e, o2, hd, hf, q⟩ := on1_ok o1 r1 h1
  unfold octD1 at hf
  split at hf
  · split at hf
    · rename_i i hi
      cases hf
      rw [← e]
      refine ⟨i.toNat, ?_, hi.2, q _ rfl⟩
      rw [Int.toNat_of_nonneg hi.1]
      exact hd
    · cases hf
  · cases hf
/-! ### a cell changes -/
theorem Ok.put {M : Mod0} {W : Wd} {S : Sto} {n : Nat} {a : Addr} {ob : HO} {c : Cell} (k : Ok M W S) (ha : W.L[n]? = some a) (hb : W.Bn a) (hc : CellR M (W.poke a ob).H W.Bn a c) : Ext W (W.poke a ob) ∧ Ok M (W.poke a ob) (S.set n c) := by
  have hL := List.mem_of_getElem? ha
  have tr : ∀ b, W.H b ≠ none → (W.poke a ob).H b ≠ none := fun b h z => by
    have z' : upd W.H a ob b = none := z
    by_cases e : b = a
    · rw [e, upd_same] at z'; cases z'
    · rw [upd_ne e] at z'; exact h z'
  refine ⟨⟨⟨[], (List.append_nil _).symm, (fun _ z => nomatch z), fun b => .inl⟩, fun _ _ z _ => z, fun b u q nn => ?_, fun b z => ?_⟩, ⟨by rw [List.length_set]; exact k.len, k.nd, fun b h => tr b (k.trk b h), fun b h => tr b (k.trl b h), fun m c' hm => ?_⟩⟩
  · show upd W.H a ob b = some u
    rw [upd_ne (fun (z : b = a) => nn (by rw [z]; exact ⟨hL, hb⟩))]
    exact q
  · cases q : W.H b with
    | none => rfl
    | some u => exact absurd z (tr b (by rw [q]; exact fun z => nomatch z))
  · by_cases hmn : n = m
    · subst hmn
      have hl : n < S.length := by rw [← k.len]; exact (List.getElem?_eq_some_iff.mp ha).1
      rw [List.getElem?_set_self hl] at hm
      cases hm
      exact ⟨a, ha, hc, fun _ => hb⟩
    · rw [List.getElem?_set_ne hmn] at hm
      obtain ⟨b, q1, q2, q3⟩ := k.cell m c' hm
      refine ⟨b, q1, q2.mono (mo_poke hb) (fun u q => ?_), q3⟩
      show upd W.H a ob b = some u
      rw [upd_ne (fun (z : b = a) => hmn ?_)]
      · exact q
      · rw [z] at q1
        exact (List.getElem?_inj (List.getElem?_eq_some_iff.mp ha).1 k.nd).mp (ha.trans q1.symm)
def mApp (o e : ME) : ME := fun ρ S => (o ρ S).bind fun x S1 => match x with
  | .rf n => match S1[n]? with
    | some (.lst _) => (e ρ S1).bind fun y S2 => match stiff y S2 with
      | some (d, S3) => match S3[n]? with
        | some (.lst ys) => if ys.length < 16777216 then .ok (.im .non) (S3.set n (.lst (ys ++ [d]))) else .no
        | _ => .no
      | none => .no
    | _ => .no
  | _ => .no
theorem c_app {o e : Expr} {mo me : ME} {apos : Pos} (ho : PE X o (tE X.M Wx mo)) (he : PE X e (tE X.M Wx me))
    (hbase : attributeBase o "append" X.env (eval o X.env) = eval o X.env := by rfl)
    (hfew : ((backTo pos (starEach [e] X.env)).all (fun x => !x.1) && (backToKw pos (keywordEach [] X.env)).all (fun x => x.1.isSome) && decide ([e].length + ([] : List Keyword).length + (if ([] : List Keyword).isEmpty then 0 else 1) < 30)) = true := by rfl)
    (hline : (apos.endLine == pos.line) = true := by rfl) (hs : starEach [e] X.env = (false, eval e X.env) :: starEach [] X.env := by rfl) (hplain : (backTo pos (starEach [] X.env)).any (·.1) = false := by rfl) :
    PE X (.Call (.Attribute o "append" apos) [e] [] pos) (tE X.M Wx (mApp mo me)) := by
  refine (pe_bm PySem.F.plainAttrs_list PySem.F.slot_list_append PySem.F.type_list_append mt_append ho (pa_cons he pa_nil hs) hbase hfew hline hs hplain).imp ?_
  rintro σ H Q ⟨W, ρ, S, ⟨rfl, o, r⟩, h⟩
  refine ⟨W, ρ, S, ⟨rfl, o, r⟩, h.bind fun x S1 v W1 e1 o1 r1 h1 => ?_⟩
  split at h1
  · rename_i n
    obtain ⟨a, ha, rfl⟩ := r1
    split at h1
    · rename_i xs hx
      obtain ⟨a', q1, ⟨vs, q2, q3⟩, q4⟩ := o1.cell n _ hx
      rw [ha] at q1
      cases q1
      refine ⟨.inl ⟨rfl, vs, .inl (.inl q2)⟩, W1, ρ, S1, ⟨rfl, o1, r.mono e1⟩, h1.bind fun y S2 u W2 e2 o2 r2 h2 => ?_⟩
      split at h2
      · rename_i d S3 hd
        obtain ⟨W3, k3, e3, o3, d3⟩ := stiff_ok o2 r2 hd
        split at h2
        · rename_i ys hy
          split at h2
          · rename_i hl
            obtain ⟨a', p1, ⟨ws, p2, p3⟩, p4⟩ := o3.cell n _ hy
            have ha3 : W3.L[n]? = some a := by
              obtain ⟨N, n1, _⟩ := (e2.trans e3).new
              rw [n1, List.getElem?_append_left (List.getElem?_eq_some_iff.mp ha).1]
              exact ha
            rw [ha3] at p1
            cases p1
            have hb := p4 rfl
            refine ⟨a, ws, u, rfl, rfl, by rw [← k3]; exact p2, by rw [p3.len, sizeLine_eq]; exact hl, ?_⟩
            obtain ⟨ex, ok⟩ := o3.put (ob := .lst (ws ++ [u])) (c := .lst (ys ++ [d])) ha3 hb ⟨ws ++ [u], upd_same, (p3.app (ys := [d]) (ws := [u]) ⟨u, [], rfl, d3, rfl⟩).mono (mo_poke hb)⟩
            have := (h2.go e3) .non _ ex ok rfl
            rw [← k3]
            exact this
          · exact h2.elim
        · exact h2.elim
      · exact h2.elim
    · exact h1.elim
  · exact h1.elim
/-- o[i] = .. of a list -/
def gPut (o i : ME) : MG := fun x ρ S => match o ρ S with
  | .ok (.rf n) S1 => match i ρ S1 with
    | .ok (.im (.int j)) S2 => match stiff x S2 with
      | some (d, S3) => match S3[n]? with
        | some (.lst ys) => match ixN ys.length j with
          | some m => .nx ρ (S3.set n (.lst (ys.set m d)))
          | none => .no
        | _ => .no
      | none => .no
    | _ => .no
  | _ => .no
theorem g_put {o i : Expr} {mo mi : ME} (ho : PE X o (tE X.M (fun _ _ _ _ => False) mo)) (hi : PE X i (tE X.M (fun _ _ _ _ => False) mi))
    (ha : ∀ v, assign (.Subscript o i pos) X.env v = (do
      let ov ← holding [v] (eval o X.env)
      let iv ← holding [v, ov] (eval i X.env)
      standAt pos
      holding [v, ov, iv] (setItem ov iv v)
      release [v, ov, iv] []) := by intro _; rfl) : PG X (.Subscript o i pos) (tG X.M (fun _ _ _ _ => False) (gPut mo mi)) := by
  refine (pg_sub ho hi set_list ha).imp ?_
  rintro v σ H Q ⟨W, ρ, S, x, ⟨rfl, ok, r⟩, rx, h⟩
  refine ⟨W, ρ, S, ⟨rfl, ok, r⟩, ?_⟩
  unfold gPut at h
  split at h
  · rename_i n S1 hq
    rw [hq]
    rintro v1 W1 e1 o1 ⟨a, ha1, rfl⟩
    refine ⟨W1, ρ, S1, ⟨rfl, o1, r.mono e1⟩, ?_⟩
    split at h
    · rename_i j S2 hq2
      rw [hq2]
      intro v2 W2 e2 o2 r2
      split at h
      · rename_i d S3 hd
        obtain ⟨W3, k3, e3, o3, d3⟩ := stiff_ok o2 ((rx.mono e1).mono e2) hd
        split at h
        · rename_i ys hy
          split at h
          · rename_i m hm
            obtain ⟨a', p1, ⟨ws, p2, p3⟩, p4⟩ := o3.cell n _ hy
            have ha3 : W3.L[n]? = some a := by
              obtain ⟨N, n1, _⟩ := (e2.trans e3).new
              rw [n1, List.getElem?_append_left (List.getElem?_eq_some_iff.mp ha1).1]
              exact ha1
            rw [ha3] at p1
            cases p1
            have hb := p4 rfl
            refine ⟨a, ws, j, m, rfl, r2, by rw [← k3]; exact p2, by rw [p3.len]; exact hm, ?_⟩
            obtain ⟨ex, ok⟩ := o3.put (ob := .lst (ws.set m v)) (c := .lst (ys.set m d)) ha3 hb ⟨ws.set m v, upd_same, (Dns.set d3 m p3).mono (mo_poke hb)⟩
            have e4 := e1.trans (e2.trans (e3.trans ex))
            have := h σ _ e4 ok (r.mono e4)
            rw [← k3]
            exact this
          · exact h.elim
        · exact h.elim
      · exact h.elim
    · exact h.elim
  · exact h.elim
theorem gput_no {mo mi : ME} : ∀ x ρ S e' ρ' S', gPut mo mi x ρ S ≠ .ex e' ρ' S' := by
  intro x ρ S e' ρ' S' h
  unfold gPut at h
  split at h
  · split at h
    · split at h
      · split at h
        · split at h <;> cases h
        · cases h
      · cases h
    · cases h
  · cases h
theorem gput_nr {mo mi : ME} : ∀ x ρ S v S', gPut mo mi x ρ S ≠ .rt v S' := by
  intro x ρ S v S' h
  unfold gPut at h
  split at h
  · split at h
    · split at h
      · split at h
        · split at h <;> cases h
        · cases h
      · cases h
    · cases h
  · cases h
theorem gput_nb {mo mi : ME} : ∀ x ρ S v S', gPut mo mi x ρ S ≠ .bk v S' := by
  intro x ρ S v S' h
  unfold gPut at h
  split at h
  · split at h
    · split at h
      · split at h
        · split at h <;> cases h
        · cases h
      · cases h
    · cases h
  · cases h
theorem gput_nc {mo mi : ME} : ∀ x ρ S v S', gPut mo mi x ρ S ≠ .ct v S' := by
  intro x ρ S v S' h
  unfold gPut at h
  split at h
  · split at h
    · split at h
      · split at h
        · split at h <;> cases h
        · cases h
      · cases h
    · cases h
  · cases h
theorem c_put {o i e : Expr} {mo mi me : ME} {ps pos' : Pos} (ho : PE X o (tE X.M (fun _ _ _ _ => False) mo)) (hi : PE X i (tE X.M (fun _ _ _ _ => False) mi)) (he : PE X e (tE X.M Wx me))
    (ha : ∀ v, assign (.Subscript o i ps) X.env v = (do
      let ov ← holding [v] (eval o X.env)
      let iv ← holding [v, ov] (eval i X.env)
      standAt ps
      holding [v, ov, iv] (setItem ov iv v)
      release [v, ov, iv] []) := by intro _; rfl)
    (hs : swapsWithSole [.Subscript o i ps] e pos'.line X.env = pure false := by rfl) (hw : swappedStores [.Subscript o i ps] e X.env = pure none := by rfl) (h1 : (assignEach [.Subscript o i ps] X.env).map (·.2) = [assign (.Subscript o i ps) X.env] := by rfl) :
    PS X (.Assign [.Subscript o i ps] e pos') (tS X.M Wx (sAsg me (gPut mo mi))) := c_asg he (g_put ho hi ha) gput_no gput_nr gput_nb gput_nc hs hw h1
end
end Tar

set_option autoImplicit false
/-! Own errors: raised, caught, looked at. -/
namespace Tar
open PySem PySem.Spec PyProof.Rows L2
/-! ### the errors of the package -/
def errBase : String → String
  | "NoBlob" => "TypeError" | "NoData" => "TypeError" | "NoName" => "ValueError" | "NoMode" => "ValueError" | "NoTime" => "OverflowError" | "NoSize" => "ValueError" | "NoPieces" => "ValueError"
  | "NoBlock" => "TypeError" | "NoMember" => "TypeError" | "TooMany" => "OverflowError" | "Closed" => "RuntimeError" | "NoOffset" => "IndexError" | "Torn" => "ValueError" | "Wrong" => "ValueError"
  | "NoHouse" => "TypeError" | "NoPath" => "KeyError" | "Refused" => "RuntimeError" | "NoIndex" => "IndexError" | "NoEdit" => "LookupError" | "NoText" => "ValueError" | "NoCommand" => "ValueError"
  | _ => ""
def errAll : List String := ["NoBlob", "NoData", "NoName", "NoMode", "NoTime", "NoSize", "NoPieces", "NoBlock", "NoMember", "TooMany", "Closed", "NoOffset", "Torn", "Wrong", "NoHouse", "NoPath", "Refused", "NoIndex", "NoEdit", "NoText", "NoCommand"]
def excAll : List String := ["TypeError", "ValueError", "OverflowError", "RuntimeError", "IndexError", "KeyError", "LookupError", "ArithmeticError"]
def excUp (b n : String) : Bool := b == n || (b == "OverflowError" && n == "ArithmeticError") || (b == "IndexError" && n == "LookupError") || (b == "KeyError" && n == "LookupError")
/-- all that is wanted of the own error class c at C -/
structure EF (K : PySem.W.Frag) (mg : Str → Option Value) (P : Program) (c : String) (fs : List String) (C : Addr) : Prop where
  er : Er K mg P (Str.ofString c) (fs.map Str.ofString) C
  gm : mg (Str.ofString c) = some (.ref C)
  isT : ∀ n ∈ excAll, PySem.W.kitOne K (.ref C) (.type n) = some (excUp (errBase c) n)
  isO : ∀ y ∈ errAll, ∀ D, mg (Str.ofString y) = some (.ref D) → PySem.W.kitOne K (.ref C) (.ref D) = some (decide (y = c))
  exm : ∀ y ∈ errAll, ∀ D, mg (Str.ofString y) = some (.ref D) → PySem.W.exmOne K (.ref D) (.ref C) = some (decide (y = c))
def sRaise (c : String) (fs : List String) (as : MA) : MS := fun ρ S => (as ρ S).toS ρ fun xs S1 => match stiffs xs S1 with
  | some (ds, S2) => if ds.length = fs.length then .ex ⟨c, (fs.zip ds).reverse⟩ ρ S2 else .no
  | none => .no
open Classical in
noncomputable def tokC (f : XTok → RS) : RS := if h : ∃ r, ∀ k, f k = r then Classical.choose h else .no
theorem tokC_eq {f : XTok → RS} {r : RS} (h : ∀ k, f k = r) : tokC f = r := by
  have hx : ∃ r, ∀ k, f k = r := ⟨r, h⟩
  unfold tokC
  rw [dif_pos hx]
  exact (Classical.choose_spec hx ⟨0, .none, none⟩).symm.trans (h ⟨0, .none, none⟩)
theorem tokC_any (f : XTok → RS) (k : XTok) : tokC f = f k ∨ tokC f = .no := by
  by_cases hx : ∃ r, ∀ k, f k = r
  · obtain ⟨r, h⟩ := hx
    exact .inl ((tokC_eq h).trans (h k).symm)
  · unfold tokC
    rw [dif_neg hx]
    exact .inr rfl
theorem tokC_const (r : RS) : tokC (fun _ => r) = r := tokC_eq fun _ => rfl
def clean (i : Nat) : RS → RS
  | .nx ρ S => .nx (ρ.set i none) S
  | .bk ρ S => .bk (ρ.set i none) S
  | .ct ρ S => .ct (ρ.set i none) S
  | .ex _ _ _ => .no
  | r => r
noncomputable def sTryAs (body : MS) (i : Nat) (c0 : String) (suite : XTok → MS) : MS := fun ρ S => match body ρ S with
  | .ex x ρ' S' => if errAll.contains x.cls then (if x.cls = c0 then tokC (fun k => clean i (suite k (ρ'.set i (some (.im (.exn k x.cls x.fs)))) S')) else .ex x ρ' S') else .no
  | r => r
section
variable {X : Cx} {Wx : WX} {pos : Pos}
theorem Dfs.zip {M : Mod0} {H : Hp} {Bn : Addr → Prop} : ∀ (fs : List String) {ds : List D} {vs : List V}, Dns M H Bn ds vs → Dfs M H Bn (fs.zip ds) ((fs.map Str.ofString).zip vs)
  | [], ds, vs, h => by simp [Dfs]
  | f :: fs, [], vs, h => by rw [show vs = [] from h]; simp [Dfs]
  | f :: fs, d :: ds, _, ⟨v, r, q, h, t⟩ => by subst q; exact ⟨v, _, rfl, h, Dfs.zip fs t⟩
theorem Dfs.app {M : Mod0} {H : Hp} {Bn : Addr → Prop} : ∀ {xs ys : List (String × D)} {vs ws : List (Str × V)}, Dfs M H Bn xs vs → Dfs M H Bn ys ws → Dfs M H Bn (xs ++ ys) (vs ++ ws)
  | [], _, _, _, h, t => by rw [show _ = [] from h]; exact t
  | (_, _) :: _, _, _, _, ⟨v, r, q, h, t⟩, t' => by rw [q]; exact ⟨v, _, rfl, h, Dfs.app t t'⟩
theorem Dfs.rev {M : Mod0} {H : Hp} {Bn : Addr → Prop} : ∀ {xs : List (String × D)} {vs : List (Str × V)}, Dfs M H Bn xs vs → Dfs M H Bn xs.reverse vs.reverse
  | [], _, h => by rw [show _ = [] from h]; exact rfl
  | (_, _) :: _, _, ⟨v', r, q, h, t⟩ => by
    subst q
    rw [List.reverse_cons, List.reverse_cons]
    exact (Dfs.rev t).app ⟨v', [], rfl, h, rfl⟩
theorem c_raise {c : String} {fs : List String} {C : Addr} {j : Nat} {e : Expr} {es : List Expr} {as : MA} {p pos2 : Pos} (hc : X.calm = true) (T : EF X.K X.mg X.prog c fs C) (hr : Room j X.A) (tk : Takes X Wx) (ha : PA X (e :: es) (tA X.M Wx as)) (hg : Gl X (Str.ofString c) := by rfl)
    (hdb : (Str.ofString c == ("__debug__" : Str)) = false := by decide) (he : starEach (e :: es) X.env = (false, eval e X.env) :: starEach es X.env := by rfl) (hpl : (backTo pos (starEach es X.env)).any (·.1) = false := by rfl) :
    PS X (.Raise (some (.Call (.Name (Str.ofString c) p) (e :: es) [] pos)) none pos2) (tS X.M Wx (sRaise c fs as)) := by
  refine (ps_raiseR hc T.er hr tk hg ha hdb he hpl).imp ?_
  rintro D σ H ⟨W, ρ, S, ⟨rfl, o, r⟩, h⟩
  refine ⟨W, ρ, S, ⟨rfl, o, r⟩, Aft.toS r h fun xs S1 vs W1 e1 o1 r1 h1 => ?_⟩
  split at h1
  · rename_i ds S2 hs
    obtain ⟨W2, k2, e2, o2, d2⟩ := stiffs_ok o1 r1 hs
    split at h1
    · rename_i hl
      have h2 := h1.go e2
      have r2 := (r.mono e1).mono e2
      refine ⟨by rw [List.length_map, d2.len, hl], fun hz => ?_, fun hz d hd => ?_⟩
      · have hf : fs = [] := List.map_eq_nil_iff.mp hz
        have hds : ds = [] := List.length_eq_zero_iff.mp (by rw [hl, hf]; rfl)
        have := h2 (.ref C) none σ W2 (Ext.refl W2) o2 r2 ⟨C, rfl, T.gm, .inl ⟨by simp [hf], rfl⟩⟩
        rwa [k2] at this
      · rw [← k2] at hd ⊢
        refine h2 (.ref C) (some d) σ (W2.add d _) (Ext.add hd) (o2.add hd) (r2.mono (Ext.add hd)) ⟨C, rfl, T.gm, .inr ⟨d, _, rfl, upd_same, o2.nban hd, ?_⟩⟩
        exact (Dfs.zip fs d2).rev.mono (Ext.add hd).mo
    · exact h1.elim
  · exact h1.elim
theorem names_own {c : String} {C : Addr} (hg : Gl X (Str.ofString c)) (hdb : (Str.ofString c == ("__debug__" : Str)) = false) (gm : X.mg (Str.ofString c) = some (.ref C)) : Names X (Str.ofString c) (.ref C) := ⟨hg, hdb, .inl gm⟩
theorem c_tryAs {c : String} {fs : List String} {C : Addr} {i : Nat} {n : Str} {body suite : List Stmt} {b₀ : Stmt} {np pos' : Pos} {mb : MS} {ms : XTok → MS} (hs : X.stack = X.env :: X.outer) (hf : X.env.frame = some X.env.locals) (hN : X.N.Nodup) (T : EF X.K X.mg X.prog c fs C) (tk : Takes X Wx)
    (hb : ∀ (W : WX) (pn : List (Addr × Obj)) (xe : Value → Shared → Prop), Takes (X.tr pn xe) W → PassesOwn (model X.prog X.w) X.A X.env xe → PSs (X.tr pn xe) body (tS X.M W mb))
    (hsu : ∀ (a : Addr) (oe : Obj) (cls : Value) (d : Option Addr) (pn : List (Addr × Obj)), Zc cls d oe → (∃ vs, oe.data = .fields vs) → PSs (X.suite a ((a, oe) :: pn)) (b₀ :: suite) (tS X.M nix (ms ⟨a, cls, d⟩)))
    (hi : X.N[i]? = some n := by rfl) (hln : X.env.kindOf n = some .local := by rfl) (hg : Gl X (Str.ofString c) := by rfl) (hdb : (Str.ofString c == ("__debug__" : Str)) = false := by decide) :
    PS X (.Try body [.ExceptHandler (some (.Name (Str.ofString c) np)) (some n) (b₀ :: suite) pos'] [] [] pos) (tS X.M Wx (sTryAs mb i c ms)) := by
  refine (ps_try_as (ts := fun a cls d => tS X.M nix (ms ⟨a, cls, d⟩)) (tb := fun W => tS X.M W mb) hs hf hN hi hln (names_own hg hdb T.gm) tk hb hsu).imp ?_
  rintro D σ H ⟨W, ρ, S, ⟨rfl, o, r⟩, h⟩
  refine ⟨W, ρ, S, ⟨rfl, o, r⟩, ?_⟩
  unfold sTryAs at h
  cases hq : mb ρ S with
  | no => rw [hq] at h; exact h
  | nx ρ' S' => rw [hq] at h; exact h
  | bk ρ' S' => rw [hq] at h; exact h
  | ct ρ' S' => rw [hq] at h; exact h
  | rt v S' => rw [hq] at h; exact h
  | ex x ρ' S' =>
    rw [hq] at h
    dsimp only at h
    intro cls dx σ' W' ew ow rw' hx
    split at h
    · rename_i hin
      have hin' := List.contains_iff_mem.mp hin
      obtain ⟨Cx, rfl, gx, hfld⟩ := hx
      refine ⟨_, T.exm x.cls hin' Cx gx, ?_⟩
      split at h
      · rename_i hc
        rw [decide_eq_true hc]
        refine ⟨fun _ a ha => ?_, (fun z => nomatch z)⟩
        have hk := tokC_any (fun k => clean i (ms k (ρ'.set i (some (.im (.exn k x.cls x.fs)))) S')) ⟨a, .ref Cx, dx⟩
        rcases hk with hk | hk
        · rw [hk] at h
          have h2 := h.go ew
          refine ⟨W', ρ'.set i (some (.im (.exn ⟨a, .ref Cx, dx⟩ x.cls x.fs))), S', ⟨rfl, ow, rw'.set (x := .im (.exn ⟨a, .ref Cx, dx⟩ x.cls x.fs)) ⟨rfl, Cx, rfl, gx, hfld⟩ i⟩, ?_⟩
          cases hm : ms ⟨a, .ref Cx, dx⟩ (ρ'.set i (some (.im (.exn ⟨a, .ref Cx, dx⟩ x.cls x.fs)))) S' with
          | no => rw [hm] at h2; exact h2
          | nx ρ2 S2 => rw [hm] at h2; exact fun σ2 W2 a1 a2 a3 => h2 _ W2 a1 a2 (a3.set0 i none)
          | bk ρ2 S2 => rw [hm] at h2; exact fun σ2 W2 a1 a2 a3 => h2 _ W2 a1 a2 (a3.set0 i none)
          | ct ρ2 S2 => rw [hm] at h2; exact fun σ2 W2 a1 a2 a3 => h2 _ W2 a1 a2 (a3.set0 i none)
          | rt v S2 => rw [hm] at h2; exact h2
          | ex e ρ2 S2 => rw [hm] at h2; exact h2.elim
        · rw [hk] at h
          exact h.elim
      · rename_i hc
        rw [decide_eq_false hc]
        exact ⟨(fun z => nomatch z), fun _ => h (.ref Cx) dx σ' W' ew ow rw' ⟨Cx, rfl, gx, hfld⟩⟩
    · exact h.elim
/-! ### in the suite -/
open Classical in
noncomputable def mXf (k : XTok) (i : Nat) (c : String) (nms : List String) (f : String) : ME := fun ρ S => match ρ[i]? with
  | some (some (.im (.exn k' c' fs))) => if k' = k ∧ c' = c ∧ fs.map (·.1) = nms then (match fs.lookup f with
    | some d => .ok (.im d) S
    | none => .no) else .no
  | _ => .no
theorem Dfs.look {M : Mod0} {H : Hp} {Bn : Addr → Prop} {f : String} {d : D} : ∀ {fs : List (String × D)} {vs : List (Str × V)}, (∀ g ∈ fs.map (·.1), Str.ofString g = Str.ofString f → g = f) → Dfs M H Bn fs vs → fs.lookup f = some d → ∃ v, vs.lookup (Str.ofString f) = some v ∧ Dn M H Bn d v
  | [], _, _, _, e => by cases e
  | (g, d') :: fs, _, hi, ⟨v, r, q, h, t⟩, e => by
    subst q
    rw [List.lookup_cons] at e ⊢
    by_cases hg : f = g
    · subst hg
      simp only [beq_self_eq_true] at e ⊢
      cases e
      exact ⟨v, rfl, h⟩
    · have h1 : (f == g) = false := beq_eq_false_iff_ne.mpr hg
      have h2 : (Str.ofString f == Str.ofString g) = false := beq_eq_false_iff_ne.mpr fun z => hg (hi g List.mem_cons_self z.symm).symm
      rw [h1] at e
      rw [h2]
      exact Dfs.look (fun g hg' => hi g (List.mem_cons_of_mem _ hg')) t e
theorem c_xf {a : Addr} {oe : Obj} {cls : Value} {d : Option Addr} {pn : List (Addr × Obj)} {c f : String} {nms fs : List String} {C : Addr} {i : Nat} {x : Str} {p : Pos} (T : EF X.K X.mg X.prog c fs C) (hz : Zc cls d oe) (hf : ∃ vs, oe.data = .fields vs)
    (hff : Str.ofString f ∈ fs.map Str.ofString := by decide) (hinj : ∀ g ∈ nms, Str.ofString g = Str.ofString f → g = f := by decide)
    (hN : X.N[i]? = some x := by rfl) (hv : Vis X.env.scope x := by first | exact .inl rfl | exact .inr (.inl rfl) | exact .inr (.inr rfl)) (hd : (x == ("__debug__" : Str)) = false := by decide) (hcd : (x == ("__classdict__" : Str)) = false := by decide)
    (hb : attributeBase (.Name x p) (Str.ofString f) X.env (eval (.Name x p) X.env) = eval (.Name x p) X.env := by rfl) :
    PE (X.suite a ((a, oe) :: pn)) (.Attribute (.Name x p) (Str.ofString f) pos) (tE X.M nix (mXf ⟨a, cls, d⟩ i c nms f)) := by
  refine (pe_xf T.er.xf (T.er.no _ hff) hz hf (pe_var (X := X.suite a ((a, oe) :: pn)) hN hv hd hcd) hb).imp ?_
  rintro σ H Q ⟨W, ρ, S, ⟨rfl, o, r⟩, h⟩
  unfold mXf at h
  split at h
  · rename_i k' c' gs hg
    split at h
    · rename_i hh
      obtain ⟨rfl, rfl, hn⟩ := hh
      split at h
      · rename_i dd hl
        obtain ⟨v, h1, rfl, C', h3, h4, h5⟩ := r.get i _ hg
        have h3' : cls = .ref C' := h3
        have hC : C' = C := by
          have := h4.symm.trans T.gm
          cases this
          rfl
        subst hC
        refine ⟨_, h1, rfl, h3', ?_⟩
        rcases h5 with ⟨rfl, _⟩ | ⟨d', vs, q1, q2, q3, q4⟩
        · cases hl
        · obtain ⟨v', l1, l2⟩ := q4.look (fun g hg => hinj g (hn ▸ hg)) hl
          exact ⟨d', vs, v', q1, q2, l1, h v' W (Ext.refl W) o l2⟩
      · exact h.elim
    · exact h.elim
  · exact h.elim
/-! ### isinstance of the error in hand -/
def errIs1 (c : String) : D → Option Bool
  | .ty n => if excAll.contains n then some (excUp (errBase c) n) else none
  | .own y => if errAll.contains y then some (decide (y = c)) else none
  | _ => none
def errIsL (c : String) : List D → Option Bool
  | [] => some false
  | d :: ds => match errIs1 c d, errIsL c ds with
    | some a, some b => some (a || b)
    | _, _ => none
def errIs (c : String) : D → Option Bool
  | .tup ds => errIsL c ds
  | d => errIs1 c d
open Classical in
noncomputable def mIsX (k : XTok) (i : Nat) (c : String) (m : ME) : ME := fun ρ S => match ρ[i]? with
  | some (some (.im (.exn k' c' fs))) => if k' = k ∧ c' = c then (m ρ S).bind fun y S1 => (match y with
    | .im d => match errIs c d with
      | some b => .ok (.im (.bl b)) S1
      | none => .no
    | _ => .no) else .no
  | _ => .no
theorem errIs1_ok {c : String} {fs : List String} {C : Addr} {H : Hp} {Bn : Addr → Prop} {d : D} {v : V} {b : Bool} (T : EF X.K X.mg X.prog c fs C) (e : errIs1 c d = some b) (h : Dn X.M H Bn d v) : ∃ u, ClsV v u ∧ PySem.W.kitOne X.K (.ref C) u = some b := by
  cases d with
  | ty n =>
    simp only [errIs1] at e
    split at e
    · rename_i hn
      cases e
      rw [show v = _ from h]
      exact ⟨_, .ty n, T.isT n (List.contains_iff_mem.mp hn)⟩
    · cases e
  | own y =>
    simp only [errIs1] at e
    split at e
    · rename_i hn
      cases e
      obtain ⟨D', rfl, gm⟩ := h
      exact ⟨_, .own D', T.isO y (List.contains_iff_mem.mp hn) D' gm⟩
    · cases e
  | _ => cases e
theorem errIsL_ok {c : String} {fs : List String} {C : Addr} {H : Hp} {Bn : Addr → Prop} (T : EF X.K X.mg X.prog c fs C) : ∀ {ds : List D} {vs : List V} {b : Bool}, errIsL c ds = some b → Dns X.M H Bn ds vs → ∃ us, Paired ClsV vs us ∧ PySem.W.kitAny X.K (.ref C) us = some b
  | [], _, _, e, h => by cases e; rw [show _ = [] from h]; exact ⟨[], .nil, rfl⟩
  | d :: ds, _, b, e, ⟨v, r, q, h, t⟩ => by
    simp only [errIsL] at e
    split at e
    · rename_i b1 b2 h1 h2
      cases e
      obtain ⟨u, p1, p2⟩ := errIs1_ok T h1 h
      obtain ⟨us, q1, q2⟩ := errIsL_ok T h2 t
      subst q
      refine ⟨u :: us, .cons p1 q1, kitAny_cons p2 (fun z => ?_) (fun z => ?_)⟩
      · rw [z, Bool.false_or]; exact q2
      · rw [z]; rfl
    · cases e
theorem c_isX {a : Addr} {oe : Obj} {cls : Value} {d : Option Addr} {pn : List (Addr × Obj)} {c : String} {fs : List String} {C : Addr} {i : Nat} {x : Str} {e : Expr} {m : ME} {p0 p : Pos} (T : EF X.K X.mg X.prog c fs C) (hz : Zc cls d oe) (hf : ∃ vs, oe.data = .fields vs)
    (hm : X.mg "isinstance" = none) (he : PE (X.suite a ((a, oe) :: pn)) e (tE X.M nix m)) (hN : X.N[i]? = some x := by rfl) (hv : Vis X.env.scope x := by first | exact .inl rfl | exact .inr (.inl rfl) | exact .inr (.inr rfl)) (hd : (x == ("__debug__" : Str)) = false := by decide) (hcd : (x == ("__classdict__" : Str)) = false := by decide)
    (hg : Gl (X.suite a ((a, oe) :: pn)) "isinstance" := by rfl) (h2 : starEach [.Name x p, e] (X.suite a ((a, oe) :: pn)).env = (false, eval (.Name x p) (X.suite a ((a, oe) :: pn)).env) :: starEach [e] (X.suite a ((a, oe) :: pn)).env := by rfl)
    (h3 : starEach [e] (X.suite a ((a, oe) :: pn)).env = (false, eval e (X.suite a ((a, oe) :: pn)).env) :: starEach [] (X.suite a ((a, oe) :: pn)).env := by rfl) (hpl : (backTo pos (starEach [e] (X.suite a ((a, oe) :: pn)).env)).any (·.1) = false := by rfl) :
    PE (X.suite a ((a, oe) :: pn)) (.Call (.Name "isinstance" p0) [.Name x p, e] [] pos) (tE X.M nix (mIsX ⟨a, cls, d⟩ i c m)) := by
  refine (pe_callB (call_isX T.er.cl T.er.xc hz hf) hg hm (by decide +kernel) (pa_cons (pe_var (X := X.suite a ((a, oe) :: pn)) hN hv hd hcd) (pa_cons he pa_nil h3) h2) (by decide) (by decide) h2 hpl).imp ?_
  rintro σ H Q ⟨W, ρ, S, ⟨rfl, o, r⟩, h⟩
  unfold mIsX at h
  split at h
  · rename_i k' c' gs hgx
    split at h
    · rename_i hh
      obtain ⟨rfl, rfl⟩ := hh
      obtain ⟨v, g1, rfl, C', g3, g4, g5⟩ := r.get i _ hgx
      have g3' : cls = .ref C' := g3
      have hC : C' = C := by
        have := g4.symm.trans T.gm
        cases this
        rfl
      subst hC
      refine ⟨_, g1, W, ρ, S, ⟨rfl, o, r⟩, h.bind fun y S1 u W1 e1 o1 r1 h1 => ?_⟩
      split at h1
      · rename_i dd
        split at h1
        · rename_i b hb
          refine ⟨g3', fun d' hd' => ?_, u, b, rfl, ?_, h1 _ W1 (Ext.refl W1) o1 rfl⟩
          · rcases g5 with ⟨_, z⟩ | ⟨d2, vs, q1, q2, q3, q4⟩
            · have z' : d = none := z
              rw [z'] at hd'; cases hd'
            · have q1' : d = some d2 := q1
              rw [q1'] at hd'
              have hd2 : d2 = d' := Option.some.inj hd'
              rw [← hd2]
              exact ⟨vs, (e1.mo d2 _ q2 q3).1⟩
          · by_cases ht : ∃ ds, dd = .tup ds
            · obtain ⟨ds, rfl⟩ := ht
              obtain ⟨tp, vs, rfl, i1, d1⟩ := r1
              obtain ⟨us, p1, p2⟩ := errIsL_ok (ds := ds) T hb d1
              exact .inr ⟨tp, vs, us, rfl, i1.imp (fun z => .inl z.1) id, p1, p2⟩
            · have hb1 : errIs1 c' dd = some b := by
                cases dd <;> first | exact absurd ⟨_, rfl⟩ ht | exact hb
              exact .inl (errIs1_ok T hb1 r1)
        · exact h1.elim
      · exact h1.elim
    · exact h.elim
  · exact h.elim
end
end Tar

set_option autoImplicit false
/-! Further pieces: chains, constants, names. -/
namespace Tar
open PySem PySem.Spec PyProof.Rows L2
/-- a < b < c -/
def mChain (f g : D → D → Option P) (a b c : ME) : ME := fun ρ S => (a ρ S).bind fun x S1 => (b ρ S1).bind fun y S2 => (on2 false f x y S2).bind fun z S3 => match z with
  | .im (.bl true) => (c ρ S3).bind fun w S4 => on2 false g y w S4
  | .im (.bl false) => .ok (.im (.bl false)) S3
  | _ => .no
section
variable {X : Cx} {Wx : WX} {pos : Pos}
theorem c_str {x : Str} {z : List Nat} {k : Nat} (h : x = SX.S z := by decide +kernel) : PE X (.Constant (.str x) k pos) (tE X.M Wx (mC (.str z))) := c_val pe_str fun _ _ => (by rw [h]; rfl)
theorem c_int {i : Int} {k : Nat} : PE X (.Constant (.int i) k pos) (tE X.M Wx (mC (.int i))) := c_val pe_int fun _ _ => rfl
theorem c_bl {b : Bool} {k : Nat} : PE X (.Constant (.bool b) k pos) (tE X.M Wx (mC (.bl b))) := c_val pe_bl fun _ _ => rfl
theorem c_non {k : Nat} : PE X (.Constant .none k pos) (tE X.M Wx (mC .non)) := c_val pe_non fun _ _ => rfl
theorem c_byt {l : List UInt8} {z : List Nat} {k : Nat} (h : l.toArray = B z := by rfl) (hz : Lt256 z := by decide) : PE X (.Constant (.bytes l) k pos) (tE X.M Wx (mC (.byt z))) := c_val (pe_bytB z h) fun _ _ => ⟨rfl, hz⟩
theorem c_gc {x : Str} {v : V} {d : D} (h : ∃ u, X.mg x = some u ∧ RelV v u) (hd : ∀ H Bn, Dn X.M H Bn d v) (hg : Gl X x := by rfl) (hb : (x == ("__debug__" : Str)) = false := by decide) : PE X (.Name x pos) (tE X.M Wx (mC d)) := c_val (pe_gc hg h hb) hd
theorem c_cls {c : String} {C : Addr} (h : X.mg (Str.ofString c) = some (.ref C)) (hg : Gl X (Str.ofString c) := by rfl) (hb : (Str.ofString c == ("__debug__" : Str)) = false := by decide) : PE X (.Name (Str.ofString c) pos) (tE X.M Wx (mC (.own c))) :=
  c_val (pe_glob (v := .ref C) hg h rfl hb) fun _ _ => ⟨C, rfl, h⟩
theorem c_ty {x : Str} (n : String) (hm : X.mg x = none) (hv : bootBuiltins x = some (.type n) := by decide +kernel) (hg : Gl X x := by rfl) (hn : x ≠ "__name__" := by decide) (hd : (x == ("__debug__" : Str)) = false := by decide) : PE X (.Name x pos) (tE X.M Wx (mC (.ty n))) :=
  c_val (pe_ty n hg hm hv hn hd) fun _ _ => rfl
/-- an operation that gives a truth value -/
theorem on2_bl {f : D → D → Option P} {x y : Vl} {S S' : Sto} {z : Vl} (h : on2 false f x y S = .ok z S') : True := trivial
theorem t_chain {f g : D → D → Option P} {ma mb mc : ME} {σ : L2.St} {H : Hp} {Q : VK} (h : tE X.M Wx (mChain f g ma mb mc) σ H Q) : tChain (rD2 X.M f) (rD2 X.M g) (tE X.M Wx ma) (tE X.M Wx mb) (tE X.M Wx mc) σ H Q := by
  obtain ⟨W, ρ, S, ⟨rfl, o, r⟩, h⟩ := h
  refine ⟨W, ρ, S, ⟨rfl, o, r⟩, h.bind fun x S1 u W1 e1 o1 r1 h1 => ?_⟩
  refine ⟨W1, ρ, S1, ⟨rfl, o1, r.mono e1⟩, h1.bind fun y S2 v W2 e2 o2 r2 h2 => ?_⟩
  refine on2_ok (mu := false) (E := fun c d H' => Wx c d σ H') o2 (r1.mono e2) r2 ?_
  refine h2.bind fun z S3 v3 W3 e3 o3 r3 h3 => ?_
  split at h3
  · refine ⟨true, r3, ?_⟩
    rw [if_pos rfl]
    refine ⟨W3, ρ, S3, ⟨rfl, o3, ((r.mono e1).mono e2).mono e3⟩, h3.bind fun w S4 v4 W4 e4 o4 r4 h4 => ?_⟩
    exact on2_ok o4 ((r2.mono e3).mono e4) r4 h4
  · refine ⟨false, r3, ?_⟩
    rw [if_neg Bool.false_ne_true]
    exact h3 _ W3 (Ext.refl W3) o3 rfl
  · exact h3.elim
theorem c_chain {op op' : CmpOp} {f g : D → D → Option P} {a b c : Expr} {ma mb mc : ME} (ho : OpR X (compareOp op) (rD2 X.M f)) (ho' : OpR X (compareOp op') (rD2 X.M g)) (ha : PE X a (tE X.M Wx ma)) (hb : PE X b (tE X.M Wx mb)) (hc : PE X c (tE X.M Wx mc))
    (hm : lastMarks [op, op'] [b, c] = false := by with_unfolding_all rfl) : PE X (.Compare a [op, op'] [b, c] pos) (tE X.M Wx (mChain f g ma mb mc)) := by
  refine (pe_chain ho ho' ha hb hc hm).imp fun σ H Q h => t_chain h
/-- a test whose value is True or False -/
def mB (a : ME) : MT := fun ρ S => (a ρ S).bind fun x S1 => match x with
  | .im (.bl b) => .ok b S1
  | _ => .no
theorem t_B {a : ME} {σ : L2.St} {H : Hp} {Q : Bool → Hp → Prop} (h : tT X.M Wx (mB a) σ H Q) : tE X.M Wx a σ H fun x H' => ∃ k, x = .bl k ∧ Q k H' := by
  obtain ⟨W, ρ, S, ⟨rfl, o, r⟩, h⟩ := h
  refine ⟨W, ρ, S, ⟨rfl, o, r⟩, h.bind fun x S1 v W1 e1 o1 r1 h1 => ?_⟩
  split at h1
  · rename_i b
    exact ⟨b, r1, h1 b W1 (Ext.refl W1) o1 rfl⟩
  · exact h1.elim
theorem c_cmpT {op : CmpOp} {f : D → D → Option P} {a b : Expr} {ma mb : ME} (ho : OpR X (compareOp op) (rD2 X.M f)) (ha : PE X a (tE X.M Wx ma)) (hb : PE X b (tE X.M Wx mb)) (hm : behindInMarks op b = false := by first | rfl | exact nomark _) :
    PT X (.Compare a [op] [b] pos) (tT X.M Wx (mB (mOp false f ma mb))) := (pt_cmpR ho ha hb hm).imp fun _ _ _ h => t_op (t_B h)
theorem c_chainT {op op' : CmpOp} {f g : D → D → Option P} {a b c : Expr} {ma mb mc : ME} (ho : OpR X (compareOp op) (rD2 X.M f)) (ho' : OpR X (compareOp op') (rD2 X.M g)) (ha : PE X a (tE X.M Wx ma)) (hb : PE X b (tE X.M Wx mb)) (hc : PE X c (tE X.M Wx mc))
    (hm : lastMarks [op, op'] [b, c] = false := by with_unfolding_all rfl) : PT X (.Compare a [op, op'] [b, c] pos) (tT X.M Wx (mB (mChain f g ma mb mc))) := (pt_chain ho ho' ha hb hc hm).imp fun _ _ _ h => t_chain (t_B h)
theorem c_one' {a : Expr} {m : ME} {op : BoolOp} (h : PE X a (tE X.M Wx m)) : PE X (.BoolOp op [a] pos) (tE X.M Wx m) := pe_one h
theorem c_and1 {a : Expr} {m : MT} (h : PT X a (tT X.M Wx m)) : PW X (.BoolOp .And [a] pos) (tT X.M Wx m) := pw_and1 h
theorem c_or1 {a : Expr} {m : MT} (h : PT X a (tT X.M Wx m)) : PW X (.BoolOp .Or [a] pos) (tT X.M Wx m) := pw_or1 h
end
end Tar

set_option autoImplicit false
/-! repr of plain data. -/
namespace Tar
open PySem PySem.Spec PyProof.Rows L2
mutual
def toPy : D → Option PyData
  | .non => some .none
  | .bl b => some (.bool b)
  | .int i => some (.int i)
  | .str z => some (.str (SX.S z))
  | .lst xs => (toPys xs).map .list
  | .tup xs => (toPys xs).map .tuple
  | _ => none
def toPys : List D → Option (List PyData)
  | [] => some []
  | d :: ds => match toPy d, toPys ds with
    | some x, some xs => some (x :: xs)
    | _, _ => none
end
def litB (z : List Nat) : List Nat := (Builtin.Bytes.literal (B z)).cps.toList
def okRep (d : PyData) : Bool := d.showable && !d.hasDict && decide (d.depth < 60) && decide (d.shown.length ≤ 16777216)
def repL : D → Option (List Nat)
  | .non => some [78, 111, 110, 101]
  | .int i => if i.natAbs.log2 < 1920 then some (Str.ofString (toString i)).cps.toList else none
  | .str z => if (reprText (SX.S z)).length ≤ 16777216 then some (reprText (SX.S z)).cps.toList else none
  | .byt z => if z.length ≤ 1000000 ∧ (litB z).length ≤ 16777216 then some (litB z) else none
  | .bl b => some (if b then [84, 114, 117, 101] else [70, 97, 108, 115, 101])
  | d => (toPy d).bind fun p => if okRep p then some p.shown.cps.toList else none
def repD : List D → Option P
  | [d] => (repL d).map fun z => .v (.str z)
  | _ => none
mutual
theorem toPy_dp {M : Mod0} {H : Hp} {Bn : Addr → Prop} : ∀ {d : D} {p : PyData} {v : V}, toPy d = some p → Dn M H Bn d v → Dp M.K H v p
  | .non, _, _, e, h => by cases e; rw [show _ = V.non from h]; exact .non
  | .bl b, _, _, e, h => by cases e; rw [show _ = V.bl b from h]; exact .bl b
  | .int i, _, _, e, h => by cases e; rw [show _ = V.int i from h]; exact .int i
  | .str z, _, _, e, h => by cases e; rw [show _ = V.str (SX.S z) from h]; exact .str _
  | .lst xs, _, _, e, h => by
    obtain ⟨a, vs, rfl, h1, h2, h3⟩ := h
    cases hx : toPys xs with
    | none => simp [toPy, hx] at e
    | some ps =>
      simp only [toPy, hx, Option.map_some, Option.some.injEq] at e
      subst e
      exact .lst (.inl (.inl h1)) (toPys_dp hx h3)
  | .tup xs, _, _, e, h => by
    obtain ⟨a, vs, rfl, h1, h3⟩ := h
    cases hx : toPys xs with
    | none => simp [toPy, hx] at e
    | some ps =>
      simp only [toPy, hx, Option.map_some, Option.some.injEq] at e
      subst e
      exact .tup (h1.imp (fun z => .inl z.1) id) (toPys_dp hx h3)
  | .byt _, _, _, e, _ => by cases e
  | .dic _, _, _, e, _ => by cases e
  | .ins _ _, _, _, e, _ => by cases e
  | .ty _, _, _, e, _ => by cases e
  | .own _, _, _, e, _ => by cases e
  | .scr _, _, _, e, _ => by cases e
  | .exn _ _ _, _, _, e, _ => by cases e
theorem toPys_dp {M : Mod0} {H : Hp} {Bn : Addr → Prop} : ∀ {ds : List D} {ps : List PyData} {vs : List V}, toPys ds = some ps → Dns M H Bn ds vs → DpAll M.K H vs ps
  | [], _, _, e, h => by cases e; rw [show _ = [] from h]; exact .nil
  | d :: ds, _, _, e, ⟨v, r, q, h, t⟩ => by
    unfold toPys at e
    split at e
    · rename_i x xs h1 h2
      cases e
      rw [q]
      exact .cons (toPy_dp h1 h) (toPys_dp h2 t)
    · cases e
end
theorem slot_bytes_repr : Slot "bytes" "__repr__" "bytes.__repr__" :=
  Slot.of (n := "__repr__") (owner := "bytes") (by rw [typeLookup_type, builtinLookup_eq_fast]; kernel_rfl) (by decide +kernel) (by decide +kernel) (by decide +kernel) (Or.inl (by decide +kernel)) (by rw [isSubtype_type]; kernel_rfl)
theorem owner_bytes : True := trivial
theorem entry_bytes_repr : entryFor table "bytes.__repr__" = some Builtin.«bytes.__repr__» := entryFor_of_tree (by kernel_rfl)
theorem args_bytes_repr (a : Value) : argsOk "bytes.__repr__" ⟨[a], []⟩ := by
  unfold argsOk
  kernel_rfl
theorem gives_bytes_repr (b : Array UInt8) (t : Tok) (h : 4 * b.size + 3 ≤ 16777216) : Gives (Builtin.«bytes.__repr__» ⟨[.bytes b t], []⟩) (.str (Builtin.Bytes.literal b)) := by
  have e : Builtin.Bytes.tooLong (4 * b.size + 3 + 0) = false := PySem.W.KBy.tooLong_not h
  refine .of_eq ?_
  show (Builtin.Bytes.literalAsked b >>= fun x => _) = _
  unfold Builtin.Bytes.literalAsked
  rw [e]
  rfl
section
variable {X : Cx}
theorem b_rep (hg : X.A.guards = some []) (hu : X.A.units + 64 < cLine) : CallR X (.builtin "repr") (rDN X.M repD) := callR fun pins s σ W S ds xs us p Q I r o hd hf q => by
  unfold repD at hf
  split at hf
  · rename_i d
    obtain ⟨v, rfl, h1⟩ := hd.one
    obtain ⟨u, rfl, ru⟩ := vals1 r
    cases hz : repL d with
    | none => rw [hz] at hf; cases hf
    | some z =>
      rw [hz] at hf
      cases hf
      have fin : ∀ (x : Str) (t : Tok) (k : Nat), x.cps.toList = z → EP X pins σ Q (.str x t) { s with toks := k } := fun x t k e => by
        refine ⟨.str x, W.H, I.tok _, ⟨t, rfl⟩, q _ ?_⟩
        show V.str x = V.str (SX.S z)
        rw [← e]
      have gen : ∀ pd, toPy d = some pd → okRep pd = true → pd.shown.cps.toList = z → (∃ a, v = .ref a) → wpAny (model X.prog X.w) X.A (call (.builtin "repr") [u]) (EP X pins σ Q) X.xe s := fun pd hp ho e ⟨a, ha⟩ => by
        subst ha
        unfold okRep at ho
        simp only [Bool.and_eq_true, Bool.not_eq_true', decide_eq_true_iff] at ho
        obtain ⟨⟨⟨o1, o2⟩, o3⟩, o4⟩ := ho
        have hdn : Dp X.K W.H (.ref a) pd := by
          cases d with
          | lst xs =>
            obtain ⟨b, vs, e2, i1, d1⟩ := h1
            cases hx : toPys xs with
            | none => simp [toPy, hx] at hp
            | some ps =>
              simp only [toPy, hx, Option.map_some, Option.some.injEq] at hp
              subst hp
              rw [e2]
              exact .lst (.inl (.inl i1)) (toPys_dp hx d1)
          | tup xs => exact toPy_dp (M := X.M) (H := W.H) (Bn := W.Bn) hp h1
          | non => exact toPy_dp (M := X.M) (H := W.H) (Bn := W.Bn) hp h1
          | bl b => exact toPy_dp (M := X.M) (H := W.H) (Bn := W.Bn) hp h1
          | int b => exact toPy_dp (M := X.M) (H := W.H) (Bn := W.Bn) hp h1
          | str b => exact toPy_dp (M := X.M) (H := W.H) (Bn := W.Bn) hp h1
          | _ => cases hp
        refine call_repr hg hu pins s σ _ _ _ Q I r ⟨a, pd, rfl, hdn, o1, o2, o3, size24 o4, q _ ?_⟩
        show V.str pd.shown = V.str (SX.S z)
        rw [← e]
      cases d with
      | non =>
        cases hz
        rw [show v = _ from h1] at ru
        obtain rfl : u = Value.none := ru
        exact PySem.P.repr_of_none (fin _ _ _ (by decide +kernel))
      | int i =>
        simp only [repL] at hz
        split at hz
        · rename_i hi
          cases hz
          rw [show v = _ from h1] at ru
          obtain ⟨t, rfl⟩ := ru
          exact PySem.P.repr_of_int hi (fin _ _ _ rfl)
        · cases hz
      | str x =>
        simp only [repL] at hz
        split at hz
        · rename_i hi
          cases hz
          rw [show v = _ from h1] at ru
          obtain ⟨t, rfl⟩ := ru
          exact PySem.P.repr_of_str (fin _ _ _ rfl) (size24 hi)
        · cases hz
      | byt x =>
        simp only [repL] at hz
        split at hz
        · rename_i hi
          cases hz
          rw [h1.1] at ru
          obtain ⟨t, rfl⟩ := ru
          exact call_repr_gives (show s.TypeIs (.bytes (B x) t) "bytes" from rfl) slot_bytes_repr entry_bytes_repr (args_bytes_repr _) (gives_bytes_repr (B x) t (by rw [B_size]; omega)) (fin _ _ _ rfl) (hx := by
            have : (litB x).length ≤ 16777216 := hi.2
            unfold litB at this
            rw [sizeLine_eq]
            simpa [Str.length] using this)
        · cases hz
      | bl b =>
        cases hz
        rw [show v = _ from h1] at ru
        obtain rfl : u = Value.bool b := ru
        exact PySem.P.repr_of_bool (fin _ _ _ (by cases b <;> decide +kernel))
      | lst xs =>
        simp only [repL] at hz
        cases hp : toPy (.lst xs) with
        | none => rw [hp] at hz; cases hz
        | some pd =>
          rw [hp] at hz
          simp only [Option.bind_some] at hz
          split at hz
          · rename_i ho
            cases hz
            obtain ⟨a, vs, e2, _⟩ := h1
            exact gen pd hp ho rfl ⟨a, e2⟩
          · cases hz
      | tup xs =>
        simp only [repL] at hz
        cases hp : toPy (.tup xs) with
        | none => rw [hp] at hz; cases hz
        | some pd =>
          rw [hp] at hz
          simp only [Option.bind_some] at hz
          split at hz
          · rename_i ho
            cases hz
            obtain ⟨a, vs, e2, _⟩ := h1
            exact gen pd hp ho rfl ⟨a, e2⟩
          · cases hz
      | _ => cases hz
  · cases hf
end
end Tar

set_option autoImplicit false
/-! A def keeps its meaning: with all that its derivation leans on. -/
namespace Tar
open PySem PySem.Spec PyProof.Rows L2
section
variable {P : Program} {w : World} {K : PySem.W.Frag} {mg : Str → Option Value} {base : Heap} {x : Str} {st : Stmt} {N ps : List Str} {k : Nat} {kws : List (Str × V)}
theorem fn_go {b : MS} {n : Nat} (D : DefD K mg x st [] kws) (Sc : FnScope N ps (defScope st)) (hn : N.length = n)
    (hb : ∀ (f : Addr) (cdv : Value) (A : Around) (outer : List Env) (s : Shared) (H : Hp) (E : XK), A.guards = some [] → Room k (A.deeper (envOfC x (defScope st) s.heap.objs.size f cdv)) →
      Takes (cxOf (L2.CX P w) P w K mg base N x (defScope st) f cdv A outer s H E) (fun c d _ H' => E c d H') →
      PassesOwn (model P w) (A.deeper (envOfC x (defScope st) s.heap.objs.size f cdv)) (cxOf (L2.CX P w) P w K mg base N x (defScope st) f cdv A outer s H E).env (cxOf (L2.CX P w) P w K mg base N x (defScope st) f cdv A outer s H E).xe →
      PSs (cxOf (L2.CX P w) P w K mg base N x (defScope st) f cdv A outer s H E) (defBody st) (tS ⟨K, mg⟩ (fun c d _ H' => E c d H') b)) : FnM P w K mg base (k + 1) x st ps kws (fnM n b) := by
  subst hn
  exact fn_ok D Sc fun f cdv A outer s H E hg hr => hb f cdv A outer s H E hg hr (takes_of rfl rfl rfl rfl) (passes_of (X := cxOf (L2.CX P w) P w K mg base N x (defScope st) f cdv A outer s H E) rfl)
end
end Tar

set_option autoImplicit false
/-! Reckoning with plain meanings. -/
namespace Tar
open PySem PySem.Spec L2
/-- what a run of statements ends with -/
def Ends' (r : RS) (Φ : RS → Prop) : Prop := Φ r
theorem sq {a b : MS} {ρ ρ1 : Rho} {S S1 : Sto} {Φ : RS → Prop} (h : a ρ S = .nx ρ1 S1) (k : Ends' (b ρ1 S1) Φ) : Ends' (sSeq a b ρ S) Φ := by
  unfold Ends' sSeq
  rw [h]
  exact k
theorem sq_rt {a b : MS} {ρ : Rho} {S S1 : Sto} {v : Vl} {Φ : RS → Prop} (h : a ρ S = .rt v S1) (k : Φ (.rt v S1)) : Ends' (sSeq a b ρ S) Φ := by
  unfold Ends' sSeq
  rw [h]
  exact k
theorem ixN_in {n : Nat} {i : Int} (h0 : 0 ≤ i) (h1 : i < n) : ixN n i = some i.toNat := by
  unfold ixN
  rw [if_pos h0, if_pos h1]
theorem atI_in {α : Type} {xs : List α} {i : Int} (h0 : 0 ≤ i) (h1 : i < xs.length) : atI xs i = xs[i.toNat]? := by
  unfold atI
  rw [ixN_in h0 h1]
  rfl
@[simp] theorem atI_nat {α : Type} (xs : List α) (i : Nat) : atI xs (i : Int) = xs[i]? := by
  by_cases h : i < xs.length
  · rw [atI_in (by omega) (by omega)]
    simp
  · unfold atI ixN
    rw [if_pos (by omega), if_neg (by omega)]
    simp
    omega
@[simp] theorem atI_0 {α : Type} (xs : List α) : atI xs 0 = xs[0]? := atI_nat xs 0
@[simp] theorem atI_1 {α : Type} (xs : List α) : atI xs 1 = xs[1]? := atI_nat xs 1
@[simp] theorem atI_2 {α : Type} (xs : List α) : atI xs 2 = xs[2]? := atI_nat xs 2
@[simp] theorem atI_3 {α : Type} (xs : List α) : atI xs 3 = xs[3]? := atI_nat xs 3
@[simp] theorem atI_4 {α : Type} (xs : List α) : atI xs 4 = xs[4]? := atI_nat xs 4
@[simp] theorem atI_5 {α : Type} (xs : List α) : atI xs 5 = xs[5]? := atI_nat xs 5
@[simp] theorem atI_6 {α : Type} (xs : List α) : atI xs 6 = xs[6]? := atI_nat xs 6
@[simp] theorem atI_7 {α : Type} (xs : List α) : atI xs 7 = xs[7]? := atI_nat xs 7
@[simp] theorem atI_8 {α : Type} (xs : List α) : atI xs 8 = xs[8]? := atI_nat xs 8
@[simp] theorem atI_9 {α : Type} (xs : List α) : atI xs 9 = xs[9]? := atI_nat xs 9
@[simp] theorem bind_ok {α β : Type} (a : α) (S : Sto) (f : α → Sto → R β) : (R.ok a S).bind f = f a S := rfl
@[simp] theorem bind_ex {α β : Type} (e : Exn) (S : Sto) (f : α → Sto → R β) : (R.ex e S : R α).bind f = .ex e S := rfl
@[simp] theorem toS_ok {α : Type} (a : α) (S : Sto) (ρ : Rho) (f : α → Sto → RS) : (R.ok a S).toS ρ f = f a S := rfl
@[simp] theorem toS_ex {α : Type} (e : Exn) (S : Sto) (ρ : Rho) (f : α → Sto → RS) : (R.ex e S : R α).toS ρ f = .ex e ρ S := rfl
@[simp] theorem sbind_nx (ρ : Rho) (S : Sto) (f : Rho → Sto → RS) : (RS.nx ρ S).bind f = f ρ S := rfl
@[simp] theorem sbind_rt (v : Vl) (S : Sto) (f : Rho → Sto → RS) : (RS.rt v S).bind f = .rt v S := rfl
@[simp] theorem sbind_ex (e : Exn) (ρ : Rho) (S : Sto) (f : Rho → Sto → RS) : (RS.ex e ρ S).bind f = .ex e ρ S := rfl
/-- some item -/
theorem atI_some {α : Type} {xs : List α} {i : Int} (h0 : 0 ≤ i) (h1 : i < xs.length) : ∃ x ∈ xs, atI xs i = some x := by
  have h : i.toNat < xs.length := by omega
  refine ⟨xs[i.toNat], List.getElem_mem h, ?_⟩
  rw [atI_in h0 h1, List.getElem?_eq_getElem h]
theorem fn_ends {n : Nat} {b : MS} {xs : List Vl} {S : Sto} {Ψ : Vl → Sto → Prop} (ρ : Rho) (h0 : xs.map some ++ List.replicate (n - xs.length) none = ρ) (h : Ends' (b ρ S) fun r => ∃ v S', r = .rt v S' ∧ Ψ v S') : ∃ v S', fnM n b xs S = .ok v S' ∧ Ψ v S' := by
  obtain ⟨v, S', e, k⟩ := h
  subst h0
  exact ⟨v, S', by unfold fnM; rw [e], k⟩
theorem ends_ret {e : ME} {ρ : Rho} {S S1 : Sto} {v : Vl} {Φ : RS → Prop} (h : e ρ S = .ok v S1) (k : Φ (.rt v S1)) : Ends' (sRet e ρ S) Φ := by
  unfold Ends' sRet
  rw [h]
  exact k
theorem ends_t {t : MT} {a b : MS} {ρ : Rho} {S S1 : Sto} {Φ : RS → Prop} (h : t ρ S = .ok true S1) (k : Ends' (a ρ S1) Φ) : Ends' (sIf t a b ρ S) Φ := by
  unfold Ends' sIf
  rw [h]
  exact k
theorem ends_f {t : MT} {a b : MS} {ρ : Rho} {S S1 : Sto} {Φ : RS → Prop} (h : t ρ S = .ok false S1) (k : Ends' (b ρ S1) Φ) : Ends' (sIf t a b ρ S) Φ := by
  unfold Ends' sIf
  rw [h]
  exact k
theorem fn_ret {e : ME} {n : Nat} {xs : List Vl} {S S1 : Sto} {x : Vl} {ρ : Rho} (h0 : xs.map some ++ List.replicate (n - xs.length) none = ρ) (h : e ρ S = .ok x S1) : fnM n (sRet e) xs S = .ok x S1 := by
  subst h0
  unfold fnM sRet
  rw [h]
  rfl
/-- an if that goes on -/
theorem sq_f {t : MT} {a c : MS} {ρ : Rho} {S S1 : Sto} {Φ : RS → Prop} (h : t ρ S = .ok false S1) (k : Ends' (c ρ S1) Φ) : Ends' (sSeq (sIf t a sNop) c ρ S) Φ := by
  unfold Ends' sSeq sIf
  rw [h]
  exact k
/-- an if whose suite is gone through; it must return -/
theorem sq_t {t : MT} {a a' c : MS} {ρ : Rho} {S S1 : Sto} {Ψ : Vl → Sto → Prop} (h : t ρ S = .ok true S1) (k : Ends' (a ρ S1) fun r => ∃ v S', r = .rt v S' ∧ Ψ v S') : Ends' (sSeq (sIf t a a') c ρ S) fun r => ∃ v S', r = .rt v S' ∧ Ψ v S' := by
  obtain ⟨v, S', e, k⟩ := k
  refine ⟨v, S', ?_, k⟩
  unfold sSeq sIf
  rw [h]
  show RS.bind (a ρ S1) c = _
  rw [e]
  rfl
theorem sq_asg {e : ME} {b : MS} {i : Nat} {ρ ρ1 : Rho} {S S1 : Sto} {x : Vl} {Φ : RS → Prop} (h : e ρ S = .ok x S1) (k : Ends' (b ρ1 S1) Φ) (h2 : ρ.set i (some x) = ρ1 := by simp only [List.set_cons_succ, List.set_cons_zero]; rfl) : Ends' (sSeq (sAsg e (gN i)) b ρ S) Φ := by
  unfold Ends' sSeq sAsg
  rw [h]
  subst h2
  exact k
theorem sq_for {it : MI} {g : MG} {b c : MS} {ρ ρ1 : Rho} {S S1 S2 : Sto} {ds : List D} {Φ : RS → Prop} (h : it ρ S = .ok ds S1) (h2 : forL g b ds ρ S1 = .nx ρ1 S2) (k : Ends' (c ρ1 S2) Φ) : Ends' (sSeq (sFor it g b) c ρ S) Φ := by
  unfold Ends' sSeq sFor
  rw [h]
  show Φ (RS.bind (forL g b ds ρ S1) c)
  rw [h2]
  exact k
theorem for_eq {it : MI} {g : MG} {b : MS} {ρ : Rho} {S S1 : Sto} {ds : List D} {r : RS} (h : it ρ S = .ok ds S1) (k : forL g b ds ρ S1 = r) : sFor it g b ρ S = r := by
  unfold sFor
  rw [h]
  exact k
/-! ### loops -/
theorem forN_inv {i : Nat} {b : MS} {Inv : Rho → Sto → Prop} : ∀ {ds : List D} (h : ∀ d ∈ ds, ∀ ρ S, Inv ρ S → ∃ ρ2 S2, b (ρ.set i (some (.im d))) S = .nx ρ2 S2 ∧ Inv ρ2 S2) {ρ : Rho} {S : Sto}, Inv ρ S → ∃ ρ2 S2, forL (gN i) b ds ρ S = .nx ρ2 S2 ∧ Inv ρ2 S2
  | [], _, ρ, S, h0 => ⟨ρ, S, rfl, h0⟩
  | d :: ds, h, ρ, S, h0 => by
    obtain ⟨ρ1, S1, e1, i1⟩ := h d List.mem_cons_self ρ S h0
    obtain ⟨ρ2, S2, e2, i2⟩ := forN_inv (fun d' hd => h d' (List.mem_cons_of_mem _ hd)) i1
    refine ⟨ρ2, S2, ?_, i2⟩
    simp only [forL, gN, e1]
    exact e2
theorem for_idx {i : Nat} {b : MS} {Inv : Nat → Rho → Sto → Prop} {lo : Int} : ∀ (n k : Nat) (h : ∀ j, k ≤ j → j < k + n → ∀ ρ S, Inv j ρ S → ∃ ρ2 S2, b (ρ.set i (some (.im (.int (lo + j))))) S = .nx ρ2 S2 ∧ Inv (j + 1) ρ2 S2) {ρ : Rho} {S : Sto}, Inv k ρ S →
    ∃ ρ2 S2, forL (gN i) b ((List.range' k n).map fun (j : Nat) => .int (lo + j)) ρ S = .nx ρ2 S2 ∧ Inv (k + n) ρ2 S2
  | 0, k, _, ρ, S, h0 => ⟨ρ, S, rfl, h0⟩
  | n + 1, k, h, ρ, S, h0 => by
    obtain ⟨ρ1, S1, e1, i1⟩ := h k (Nat.le_refl k) (by omega) ρ S h0
    obtain ⟨ρ2, S2, e2, i2⟩ := for_idx n (k + 1) (fun j h1 h2 => h j (by omega) (by omega)) i1
    refine ⟨ρ2, S2, ?_, by rw [show k + (n + 1) = k + 1 + n by omega]; exact i2⟩
    rw [List.range'_succ, List.map_cons]
    simp only [forL, gN, e1]
    exact e2
theorem okR_nat {n : Nat} (h : n ≤ 16777216) : okR (n : Int) = true := by
  unfold okR
  rw [decide_eq_true_iff]
  constructor <;> omega
theorem rng1_eq {a : ME} {ρ : Rho} {S S1 : Sto} {n : Nat} {i : Int} (h : a ρ S = .ok (.im (.int i)) S1) (hi : i = n) (hn : n ≤ 16777216) : mRng1 a ρ S = .ok (rngD 0 n) S1 := by
  subst hi
  unfold mRng1
  rw [h, bind_ok]
  dsimp only
  rw [if_pos (okR_nat hn), Int.toNat_natCast]
/-- for i in range(n) -/
theorem forR {i n : Nat} {b : MS} (Inv : Nat → Rho → Sto → Prop) {ρ : Rho} {S : Sto} (h0 : Inv 0 ρ S) (h : ∀ j, j < n → ∀ ρ S, Inv j ρ S → ∃ ρ2 S2, b (ρ.set i (some (.im (.int j)))) S = .nx ρ2 S2 ∧ Inv (j + 1) ρ2 S2) :
    ∃ ρ2 S2, forL (gN i) b (rngD 0 n) ρ S = .nx ρ2 S2 ∧ Inv n ρ2 S2 := by
  obtain ⟨ρ2, S2, e, k⟩ := for_idx (i := i) (b := b) (Inv := Inv) (lo := 0) n 0 (fun j _ h2 ρ S hi => by
    obtain ⟨ρ2, S2, e, k⟩ := h j (by omega) ρ S hi
    exact ⟨ρ2, S2, by rw [Int.zero_add]; exact e, k⟩) h0
  rw [Nat.zero_add] at k
  exact ⟨ρ2, S2, by unfold rngD; rw [List.range_eq_range']; exact e, k⟩
/-! ### expressions, one after the other -/
section
variable {ρ : Rho} {S S1 S2 S3 : Sto} {x y z : Vl} {mu : Bool}
theorem op_eq {a b : ME} {f : D → D → Option P} (ha : a ρ S = .ok x S1) (hb : b ρ S1 = .ok y S2) (hf : on2 mu f x y S2 = .ok z S3) : mOp mu f a b ρ S = .ok z S3 := by
  unfold mOp
  rw [ha, bind_ok, hb, bind_ok, hf]
theorem asg_eq {a : ME} {i : Nat} (h : a ρ S = .ok x S1) : sAsg a (gN i) ρ S = .nx (ρ.set i (some x)) S1 := by
  unfold sAsg
  rw [h]
  rfl
theorem stiffs_im : ∀ (ds : List D) (S : Sto), stiffs (ds.map .im) S = some (ds, S)
  | [], _ => rfl
  | d :: ds, S => by simp [stiffs, stiff, stiffs_im ds S]
theorem lst_eq {as : MA} {ds : List D} (h : as ρ S = .ok (ds.map .im) S1) (hl : ds.length ≤ 16777216 := by first | decide | simp) : mLst false as ρ S = .ok (.im (.lst ds)) S1 := by
  unfold mLst
  rw [h, bind_ok, stiffs_im]
  simp only [if_pos hl, fin]
  rfl
theorem cells_eq {as : MA} {ds : List D} (h : as ρ S = .ok (ds.map .im) S1) (hl : ds.length ≤ 16777216 := by first | decide | simp) : mLst true as ρ S = .ok (.rf S1.length) (S1 ++ [.lst ds]) := by
  unfold mLst
  rw [h, bind_ok, stiffs_im]
  simp only [if_pos hl, fin]
  rfl
theorem o_addS {a b : List Nat} (h : a.length + b.length ≤ 16777216) : on2 mu addD (.im (.str a)) (.im (.str b)) S = .ok (.im (.str (a ++ b))) S := by
  simp only [on2, vw, addD, if_pos h, ofO, fin]
theorem o_addB {a b : List Nat} (h : a.length + b.length ≤ 16777216) : on2 mu addD (.im (.byt a)) (.im (.byt b)) S = .ok (.im (.byt (a ++ b))) S := by
  simp only [on2, vw, addD, if_pos h, ofO, fin]
theorem o_addL {a b : List D} (h : a.length + b.length ≤ 16777216) : on2 false addD (.im (.lst a)) (.im (.lst b)) S = .ok (.im (.lst (a ++ b))) S := by
  simp only [on2, vw, addD, if_pos h, ofO, fin]
  rfl
theorem o_addI {a b : Int} : on2 mu addD (.im (.int a)) (.im (.int b)) S = .ok (.im (.int (a + b))) S := rfl
theorem o_subI {a b : Int} : on2 mu subD (.im (.int a)) (.im (.int b)) S = .ok (.im (.int (a - b))) S := rfl
theorem o_mulI {a b : Int} (h : mulOk a b = true) : on2 mu mulD (.im (.int a)) (.im (.int b)) S = .ok (.im (.int (a * b))) S := by
  simp only [on2, vw, mulD, if_pos h, ofO, fin]
theorem o_mulS {a : List Nat} {n : Int} (h : a.length ≤ 100 ∧ -100000 ≤ n ∧ n ≤ 100000) : on2 mu mulD (.im (.str a)) (.im (.int n)) S = .ok (.im (.str (List.replicate n.toNat a).flatten)) S := by
  simp only [on2, vw, mulD, if_pos h, ofO, fin]
theorem o_mulL {a : List D} {n : Int} (h : -100000000 ≤ n ∧ n ≤ 100000000 ∧ a.length * n.toNat ≤ 16777216) : on2 false mulD (.im (.lst a)) (.im (.int n)) S = .ok (.im (.lst (List.replicate n.toNat a).flatten)) S := by
  simp only [on2, vw, mulD, if_pos h, ofO, fin]
  rfl
theorem no_eq : oNo ρ S = .ok none S := rfl
theorem some_eq {e : ME} {i : Int} (h : e ρ S = .ok (.im (.int i)) S1) : oSome e ρ S = .ok (some i) S1 := by
  unfold oSome
  rw [h, bind_ok]
  rfl
theorem sl_eq {a : ME} {lo hi : MO} {l h : Option Int} {S4 : Sto} (ha : a ρ S = .ok x S1) (hl : lo ρ S1 = .ok l S2) (hh : hi ρ S2 = .ok h S3) (hf : on1 mu (slD l h) x S3 = .ok z S4) : mSl mu a lo hi ρ S = .ok z S4 := by
  unfold mSl
  rw [ha, bind_ok, hl, bind_ok, hh, bind_ok, hf]
theorem o_slS {lo hi : Option Int} {a : List Nat} (h : (nnB lo && nnB hi) = true) (hl : a.length ≤ 16777216) : on1 mu (slD lo hi) (.im (.str a)) S = .ok (.im (.str (cutN a lo hi))) S := by
  simp only [on1, vw, slD, h, hl, decide_true, Bool.and_self, if_pos, ofO, fin]
theorem o_slB {lo hi : Option Int} {a : List Nat} (h : (nnB lo && nnB hi) = true) (hl : a.length ≤ 16777216) : on1 mu (slD lo hi) (.im (.byt a)) S = .ok (.im (.byt (cutN a lo hi))) S := by
  simp only [on1, vw, slD, h, hl, decide_true, Bool.and_self, if_pos, ofO, fin]
theorem o_slL {lo hi : Option Int} {a : List D} (h : (nnB lo && nnB hi) = true) : on1 false (slD lo hi) (.im (.lst a)) S = .ok (.im (.lst (cutN a lo hi))) S := by
  simp only [on1, vw, slD, h, if_pos, ofO, fin]
  rfl
theorem m0_eq {o : ME} {f : List Nat → List D → Option P} {a : List Nat} (ho : o ρ S = .ok (.im (.str a)) S1) (hf : ofO mu (f a []) S1 = .ok z S2) : mM0 mu f o ρ S = .ok z S2 := by
  unfold mM0
  rw [ho, bind_ok]
  exact hf
theorem m1_eq {o e : ME} {f : List Nat → List D → Option P} {a : List Nat} {d : D} (ho : o ρ S = .ok (.im (.str a)) S1) (he : e ρ S1 = .ok (.im d) S2) (hf : ofO mu (f a [d]) S2 = .ok z S3) : mM1 mu f o e ρ S = .ok z S3 := by
  unfold mM1
  rw [ho, bind_ok]
  show ((e ρ S1).bind _) = _
  rw [he, bind_ok]
  exact hf
theorem o_enc {a : List Nat} (h : ∀ c ∈ a, c < 128) (hl : a.length ≤ 16777216) : ofO mu (encD a []) S = .ok (.im (.byt a)) S := by
  have : a.all (fun c => decide (c < 128)) = true := by simpa using h
  simp only [encD, this, hl, decide_true, Bool.and_self, if_pos, ofO, fin]
theorem o_oct {n : Nat} (h : (octL n).length ≤ 16777216) : on1 mu octD1 (.im (.int n)) S = .ok (.im (.str (octL n))) S := by
  have ho : 0 ≤ (n : Int) ∧ (octL n).length ≤ 16777216 := ⟨by omega, h⟩
  simp only [on1, vw, octD1, if_pos ho, Int.toNat_natCast, ofO, fin]
theorem o_zf {a b : List Nat} {w : Int} (h : 0 ≤ w ∧ w ≤ 1000) (e : zfL a w = b) : ofO mu (zfD a [.int w]) S = .ok (.im (.str b)) S := by
  simp only [zfD, if_pos h, e, ofO, fin]
theorem o_bytN {n : Int} (h : 0 ≤ n ∧ n ≤ 16777216) : onN mu bytD [.im (.int n)] S = .ok (.im (.byt (List.replicate n.toNat 0))) S := by
  simp only [onN, vws, vw, bytD, if_pos h, ofO, fin]
theorem o_lenB {a : List Nat} (h : a.length ≤ 16777216) : onN mu lenD [.im (.byt a)] S = .ok (.im (.int a.length)) S := by
  simp only [onN, vws, vw, lenD, if_pos h, ofO, fin]
theorem o_sumB {a : List Nat} (h : a.length ≤ 16777216) : onN mu sumD [.im (.byt a)] S = .ok (.im (.int ((a.sum : Nat) : Int))) S := by
  simp only [onN, vws, vw, sumD, if_pos h, ofO, fin]
/-- lists of small numbers -/
abbrev nD (l : List Nat) : List D := l.map fun (c : Nat) => .int c
theorem nums_nD : ∀ l : List Nat, numsD (nD l) = some (l.map Int.ofNat)
  | [] => rfl
  | a :: l => by
    show (numsD (nD l)).map _ = _
    rw [nums_nD l]
    rfl
theorem o_sumN {a : List Nat} : onN mu sumD [.im (.lst (nD a))] S = .ok (.im (.int ((a.sum : Nat) : Int))) S := by
  simp only [onN, vws, vw, sumD, nums_nD, Option.map_some, sum_ofNat, ofO, fin]
theorem o_lstB {a : List Nat} (h : a.length ≤ 16777216) : onN false lstD [.im (.byt a)] S = .ok (.im (.lst (nD a))) S := by
  simp only [onN, vws, vw, lstD, if_pos h, ofO, fin]
  rfl
theorem b8_of {a : List Nat} (h : Lt256 a) : b8 (a.map Int.ofNat) = true := by
  unfold b8
  rw [List.all_eq_true]
  intro i hi
  obtain ⟨c, hc, rfl⟩ := List.mem_map.mp hi
  have := h c hc
  rw [decide_eq_true_iff]
  constructor
  · exact Int.natCast_nonneg c
  · show (c : Int) < 256
    omega
theorem o_bytL {a : List Nat} (h : Lt256 a) : onN mu bytD [.im (.lst (nD a))] S = .ok (.im (.byt a)) S := by
  have e : (a.map Int.ofNat).map Int.toNat = a := by
    rw [List.map_map]
    conv => rhs; rw [← List.map_id a]
    exact List.map_congr_left fun x _ => rfl
  simp only [onN, vws, vw, bytD, nums_nD, Option.bind_some, b8_of h, if_pos, e, ofO, fin]
theorem truB_eq {a : ME} {b : Bool} (h : a ρ S = .ok (.im (.bl b)) S1) : mTru a ρ S = .ok b S1 := by
  unfold mTru
  rw [h]
  rfl
theorem b_eq {a : ME} {b : Bool} (h : a ρ S = .ok (.im (.bl b)) S1) : mB a ρ S = .ok b S1 := by
  unfold mB
  rw [h]
  rfl
theorem notT_eq {a : MT} {b c : Bool} (h : a ρ S = .ok b S1) (e : (!b) = c) : mNotT a ρ S = .ok c S1 := by
  subst e
  unfold mNotT
  rw [h]
  rfl
theorem orT_f {a b : MT} {r : Bool} (h : a ρ S = .ok false S1) (k : b ρ S1 = .ok r S2) : mOrT a b ρ S = .ok r S2 := by
  unfold mOrT
  rw [h]
  exact k
theorem orT_t {a b : MT} (h : a ρ S = .ok true S1) : mOrT a b ρ S = .ok true S1 := by
  unfold mOrT
  rw [h]
  rfl
theorem andT_t {a b : MT} {r : Bool} (h : a ρ S = .ok true S1) (k : b ρ S1 = .ok r S2) : mAndT a b ρ S = .ok r S2 := by
  unfold mAndT
  rw [h]
  exact k
theorem andT_f {a b : MT} (h : a ρ S = .ok false S1) : mAndT a b ρ S = .ok false S1 := by
  unfold mAndT
  rw [h]
  rfl
theorem and_t {a b : ME} (h : a ρ S = .ok (.im (.bl true)) S1) (k : b ρ S1 = .ok z S2) : mAnd a b ρ S = .ok z S2 := by
  unfold mAnd
  rw [h]
  exact k
theorem and_f {a b : ME} (h : a ρ S = .ok (.im (.bl false)) S1) : mAnd a b ρ S = .ok (.im (.bl false)) S1 := by
  unfold mAnd
  rw [h]
  rfl
theorem not_eq {a : ME} {b c : Bool} (h : a ρ S = .ok (.im (.bl b)) S1) (e : (!b) = c) : mNot a ρ S = .ok (.im (.bl c)) S1 := by
  subst e
  unfold mNot
  rw [h]
  rfl
theorem o_isi {d : D} {t n : String} {r : Bool} (ht : tyB d = some t) (hn : (blts.contains n && (isiB t n == r)) = true) : onN mu isiD [.im d, .im (.ty n)] S = .ok (.im (.bl r)) S := by
  obtain ⟨h1, h2⟩ := Bool.and_eq_true_iff.mp hn
  simp only [onN, vws, vw, isiD, ht, Option.bind_some, h1, if_pos, ofO, fin, eq_of_beq h2]
theorem o_isiT {d : D} {t : String} {cs : List D} {ns : List String} {r : Bool} (ht : tyB d = some t) (hc : tysD cs = some ns) (hn : ns.any (isiB t) = r) : onN mu isiD [.im d, .im (.tup cs)] S = .ok (.im (.bl r)) S := by
  simp only [onN, vws, vw, isiD, ht, Option.bind_some, hc, Option.map_some, hn, ofO, fin]
theorem o_neI {a b : Int} : on2 mu neD (.im (.int a)) (.im (.int b)) S = .ok (.im (.bl (!(a == b)))) S := by
  have h : (sup 60 (.int a) (.int b) && topB (.int a) (.int b)) = true := rfl
  simp only [on2, vw, neD, h, if_pos, ofO, fin, eqB]
theorem o_eqI {a b : Int} : on2 mu eqD (.im (.int a)) (.im (.int b)) S = .ok (.im (.bl (a == b))) S := by
  have h : (sup 60 (.int a) (.int b) && topB (.int a) (.int b)) = true := rfl
  simp only [on2, vw, eqD, h, if_pos, ofO, fin, eqB]
theorem o_eqS {a b : List Nat} : on2 mu eqD (.im (.str a)) (.im (.str b)) S = .ok (.im (.bl (a == b))) S := by
  have h : (sup 60 (.str a) (.str b) && topB (.str a) (.str b)) = true := rfl
  simp only [on2, vw, eqD, h, if_pos, ofO, fin, eqB]
theorem eqBs_nD : ∀ a b : List Nat, eqBs (nD a) (nD b) = (a == b)
  | [], [] => rfl
  | [], _ :: _ => rfl
  | _ :: _, [] => rfl
  | x :: a, y :: b => by
    show (eqB (.int x) (.int y) && eqBs (nD a) (nD b)) = _
    rw [eqBs_nD a b]
    show (((x : Int) == (y : Int)) && (a == b)) = ((x :: a) == (y :: b))
    rw [List.cons_beq_cons]
    have : ((x : Int) == (y : Int)) = (x == y) := by
      rw [Bool.eq_iff_iff, beq_iff_eq, beq_iff_eq]
      omega
    rw [this]
theorem sup_nD : ∀ a b : List Nat, supL (sup 59) (nD a) (nD b) = true
  | [], _ => rfl
  | _ :: _, [] => rfl
  | x :: a, y :: b => by
    show (sup 59 (.int x) (.int y) && supL (sup 59) (nD a) (nD b)) = true
    rw [sup_nD a b]
    rfl
theorem o_eqL {a b : List Nat} : on2 mu eqD (.im (.lst (nD a))) (.im (.lst (nD b))) S = .ok (.im (.bl (a == b))) S := by
  have h : (sup 60 (.lst (nD a)) (.lst (nD b)) && topB (.lst (nD a)) (.lst (nD b))) = true := by
    show (supL (sup 59) (nD a) (nD b) && true) = true
    rw [sup_nD]
    rfl
  simp only [on2, vw, eqD, h, if_pos, ofO, fin, eqB, eqBs_nD]
theorem o_neL {a b : List Nat} : on2 mu neD (.im (.lst (nD a))) (.im (.lst (nD b))) S = .ok (.im (.bl (!(a == b)))) S := by
  have h : (sup 60 (.lst (nD a)) (.lst (nD b)) && topB (.lst (nD a)) (.lst (nD b))) = true := by
    show (supL (sup 59) (nD a) (nD b) && true) = true
    rw [sup_nD]
    rfl
  simp only [on2, vw, neD, h, if_pos, ofO, fin, eqB, eqBs_nD]
theorem chain_t {f g : D → D → Option P} {a b c : ME} {w : Vl} {S4 S5 : Sto} (ha : a ρ S = .ok x S1) (hb : b ρ S1 = .ok y S2) (hf : on2 false f x y S2 = .ok (.im (.bl true)) S3) (hc : c ρ S3 = .ok w S4) (hg : on2 false g y w S4 = .ok z S5) : mChain f g a b c ρ S = .ok z S5 := by
  unfold mChain
  rw [ha, bind_ok, hb, bind_ok, hf, bind_ok]
  show ((c ρ S3).bind _) = _
  rw [hc, bind_ok, hg]
theorem chain_f {f g : D → D → Option P} {a b c : ME} (ha : a ρ S = .ok x S1) (hb : b ρ S1 = .ok y S2) (hf : on2 false f x y S2 = .ok (.im (.bl false)) S3) : mChain f g a b c ρ S = .ok (.im (.bl false)) S3 := by
  unfold mChain
  rw [ha, bind_ok, hb, bind_ok, hf, bind_ok]
theorem o_cmp {f : Int → Int → Bool} {i j : Int} {r : Bool} (h : f i j = r) : on2 mu (cmpD f) (.im (.int i)) (.im (.int j)) S = .ok (.im (.bl r)) S := by
  simp only [on2, vw, cmpD, h, ofO, fin]
theorem comp_map {vs : List Nat} {g : MC} {t : MT} {e : ME} {f : D → D} : ∀ {ds : List D} (h : ∀ d ∈ ds, ∃ ρ1, g d (wipeR ρ vs) = some ρ1 ∧ t ρ1 S = .ok true S ∧ e ρ1 S = .ok (.im (f d)) S) (acc : List D), acc.length + ds.length ≤ 16777216 → compL vs g t e ρ ds acc S = .ok (acc ++ ds.map f) S
  | [], _, acc, _ => by simp [compL]
  | d :: ds, h, acc, hl => by
    obtain ⟨ρ1, h1, h2, h3⟩ := h d List.mem_cons_self
    rw [List.length_cons] at hl
    have ih := comp_map (fun d hd => h d (List.mem_cons_of_mem _ hd)) (acc ++ [f d]) (by rw [List.length_append, List.length_cons, List.length_nil]; omega)
    rw [List.append_assoc] at ih
    have hlt : acc.length < 16777216 := by omega
    simp only [compL, h1, h2, h3, bind_ok, if_pos, stiff, hlt]
    exact ih
theorem comp_eq {it : MI} {vs : List Nat} {g : MC} {t : MT} {e : ME} {f : D → D} {ds : List D} (hi : it ρ S = .ok ds S1) (hl : ds.length ≤ 16777216) (h : ∀ d ∈ ds, ∃ ρ1, g d (wipeR ρ vs) = some ρ1 ∧ t ρ1 S1 = .ok true S1 ∧ e ρ1 S1 = .ok (.im (f d)) S1) : mComp false it vs g t e ρ S = .ok (.im (.lst (ds.map f))) S1 := by
  unfold mComp
  rw [hi, bind_ok, comp_map h [] (by simpa using hl), bind_ok]
  rfl
theorem iter_eq {a : ME} {d : D} {ds : List D} (h : a ρ S = .ok (.im d) S1) (hd : itemsD d = some ds) : mIter a ρ S = .ok ds S1 := by
  unfold mIter
  rw [h, bind_ok]
  simp only [stiff, hd]
theorem tup_eq {as : MA} {ds : List D} (h : as ρ S = .ok (ds.map .im) S1) (hl : ds.length ≤ 16777216 := by first | decide | simp) : mTup as ρ S = .ok (.im (.tup ds)) S1 := by
  unfold mTup
  rw [h, bind_ok, stiffs_im]
  simp only [if_pos hl, fin]
theorem isX_eq {k : XTok} {i : Nat} {c : String} {m : ME} {d : D} {fs : List (String × D)} {r : Bool} (hi : ρ[i]? = some (some (.im (.exn k c fs)))) (hm : m ρ S = .ok (.im d) S1) (he : errIs c d = some r) : mIsX k i c m ρ S = .ok (.im (.bl r)) S1 := by
  unfold mIsX
  rw [hi]
  dsimp only
  rw [if_pos ⟨rfl, rfl⟩, hm, bind_ok]
  simp only [he]
theorem xf_eq {k : XTok} {i : Nat} {c f : String} {nms : List String} {d : D} {fs : List (String × D)} (hi : ρ[i]? = some (some (.im (.exn k c fs)))) (hn : fs.map (·.1) = nms) (hf : fs.lookup f = some d) : mXf k i c nms f ρ S = .ok (.im d) S := by
  unfold mXf
  rw [hi]
  dsimp only
  rw [if_pos ⟨rfl, rfl, hn⟩, hf]
theorem tryAs_eq {b : MS} {i : Nat} {c : String} {su : XTok → MS} {fs : List (String × D)} {ρ1 : Rho} {v : Vl} (h : b ρ S = .ex ⟨c, fs⟩ ρ1 S1) (hc : errAll.contains c = true) (hs : ∀ k, su k (ρ1.set i (some (.im (.exn k c fs)))) S1 = .rt v S2) : sTryAs b i c su ρ S = .rt v S2 := by
  unfold sTryAs
  rw [h]
  dsimp only
  rw [if_pos hc, if_pos rfl]
  exact tokC_eq fun k => by rw [hs k]; rfl
theorem un_eq {a : ME} {f : D → Option P} (ha : a ρ S = .ok x S1) (hf : on1 mu f x S1 = .ok z S2) : mUn mu f a ρ S = .ok z S2 := by
  unfold mUn
  rw [ha, bind_ok, hf]
theorem n_eq {as : MA} {xs : List Vl} {f : List D → Option P} (ha : as ρ S = .ok xs S1) (hf : onN mu f xs S1 = .ok z S2) : mN mu f as ρ S = .ok z S2 := by
  unfold mN
  rw [ha, bind_ok, hf]
theorem nil_eq : mNil ρ S = .ok [] S := rfl
theorem cons_eq {a : ME} {as : MA} {xs : List Vl} (ha : a ρ S = .ok x S1) (hr : as ρ S1 = .ok xs S2) : mCons a as ρ S = .ok (x :: xs) S2 := by
  unfold mCons
  rw [ha, bind_ok, hr, bind_ok]
theorem loc_eq {i : Nat} (h : ρ[i]? = some (some x)) : mLoc i ρ S = .ok x S := by
  unfold mLoc
  rw [h]
theorem c_eq {d : D} : mC d ρ S = .ok (.im d) S := rfl
theorem cal_eq {pure own : Bool} {m : MF} {idx : List Ix} {ds : List D} {as ks : MA} {xs ys : List Vl} (ha : as ρ S = .ok xs S1) (hk : ks ρ S1 = .ok ys S2) (h : calE pure own m (gI xs ys (ds.map .im) idx) S2 = .ok z S3) : mCal pure own m idx ds as ks ρ S = .ok z S3 := by
  unfold mCal
  rw [ha, bind_ok, hk, bind_ok, h]
theorem refs_im : ∀ (ds : List D), refsOf (ds.map .im) = []
  | [] => rfl
  | d :: ds => by simp [refsOf, refs_im ds]
theorem ren_im : ∀ (ds : List D), (ds.map Vl.im).map (ren []) = ds.map .im
  | [] => rfl
  | d :: ds => by simp [ren, ren_im ds]
/-- a call with plain values -/
theorem calE_im {pure own : Bool} {m : MF} {ds : List D} {d : D} {S' : Sto} (h : m (ds.map .im) [] = .ok (.im d) S') : calE pure own m (ds.map .im) S = .ok (.im d) S := by
  have hc : callB own m (ds.map .im) S = .ok (.im d) S := by
    unfold callB
    rw [refs_im, ren_im, if_pos List.nodup_nil]
    simp only [getB, h, putB, backV]
  unfold calE
  cases pure
  · exact hc
  · rw [if_pos rfl, stiffs_im]
    exact hc
theorem calE_ex {pure own : Bool} {m : MF} {ds : List D} {e : Exn} {S' : Sto} (h : m (ds.map .im) [] = .ex e S') : calE pure own m (ds.map .im) S = .ex e S := by
  have hc : callB own m (ds.map .im) S = .ex e S := by
    unfold callB
    rw [refs_im, ren_im, if_pos List.nodup_nil]
    simp only [getB, h, putB]
  unfold calE
  cases pure
  · exact hc
  · rw [if_pos rfl, stiffs_im]
    exact hc
/-- .. that makes a cell -/
theorem calE_own {pure : Bool} {m : MF} {ds : List D} {c : Cell} (h : m (ds.map .im) [] = .ok (.rf 0) [c]) : calE pure true m (ds.map .im) S = .ok (.rf S.length) (S ++ [c]) := by
  have hc : callB true m (ds.map .im) S = .ok (.rf S.length) (S ++ [c]) := by
    unfold callB
    rw [refs_im, ren_im, if_pos List.nodup_nil]
    simp [getB, h, putB, backV]
  unfold calE
  cases pure
  · exact hc
  · rw [if_pos rfl, stiffs_im]
    exact hc
/-- a call that borrows one cell -/
theorem calE_rf {m : MF} {k : Nat} {ds : List D} {d : D} {c c' : Cell} (hk : S[k]? = some c) (h : m (.rf 0 :: ds.map .im) [c] = .ok (.im d) [c']) : calE false false m (.rf k :: ds.map .im) S = .ok (.im d) (S.set k c') := by
  unfold calE
  rw [if_neg Bool.false_ne_true]
  unfold callB
  have hr : refsOf (.rf k :: ds.map .im) = [k] := by rw [refsOf, refs_im]
  have hm : (.rf k :: ds.map Vl.im).map (ren [k]) = .rf 0 :: ds.map .im := by
    rw [List.map_cons]
    congr 1
    · simp [ren]
    · clear h hr
      induction ds with
      | nil => rfl
      | cons d ds ih => simp [ren]
  rw [hr, hm, if_pos (by simp)]
  simp only [getB, hk, h, putB, backV]
theorem pick_ok {a b : ME} {xs : List D} {v n : Int} (ha : a ρ S = .ok (.im (.lst xs)) S1) (hb : b ρ S1 = .ok (.im (.int v)) S2) (h : 0 ≤ v ∧ v < n) (hn : (xs.length : Int) = n := by rfl) : ∃ d ∈ xs, mOp false ixD a b ρ S = .ok (.im d) S2 := by
  obtain ⟨h0, h1⟩ := h
  rw [← hn] at h1
  obtain ⟨d, hd, e⟩ := atI_some h0 h1
  refine ⟨d, hd, op_eq ha hb ?_⟩
  simp [on2, vw, ixD, e, ofO, fin]
theorem pickS_ok {a b : ME} {xs : List Nat} {v n : Int} (ha : a ρ S = .ok (.im (.str xs)) S1) (hl : xs.length ≤ 16777216) (hb : b ρ S1 = .ok (.im (.int v)) S2) (h : 0 ≤ v ∧ v < n) (hn : (xs.length : Int) = n := by rfl) : ∃ d ∈ xs, mOp false ixD a b ρ S = .ok (.im (.str [d])) S2 := by
  obtain ⟨h0, h1⟩ := h
  rw [← hn] at h1
  obtain ⟨d, hd, e⟩ := atI_some h0 h1
  refine ⟨d, hd, op_eq ha hb ?_⟩
  simp [on2, vw, ixD, e, ofO, fin, hl]
end
/-- all other cells stay -/
def Fr (c : Nat) (S S' : Sto) : Prop := ∀ j, j ≠ c → S'[j]? = S[j]?
theorem Fr.set {c : Nat} {S : Sto} {x : Cell} : Fr c S (S.set c x) := fun j h => List.getElem?_set_ne (Ne.symm h)
theorem Fr.trans {c : Nat} {S S' S'' : Sto} (h : Fr c S S') (k : Fr c S' S'') : Fr c S S'' := fun j hj => (k j hj).trans (h j hj)
theorem Fr.refl {c : Nat} (S : Sto) : Fr c S S := fun _ _ => rfl
theorem set_at {c : Nat} {S : Sto} {x y : Cell} (h : S[c]? = some x) : (S.set c y)[c]? = some y := List.getElem?_set_self (List.getElem?_eq_some_iff.mp h).1
theorem calE_st {own : Bool} {m : MF} {xs : List Vl} {ds : List D} {d : D} {S S1 S2 : Sto} (h0 : stiffs xs S = some (ds, S1)) (h : m (ds.map .im) [] = .ok (.im d) S2) : calE true own m xs S = .ok (.im d) S1 := by
  have := calE_im (pure := false) (own := own) (S := S1) h
  unfold calE at this ⊢
  rw [if_neg Bool.false_ne_true] at this
  rw [if_pos rfl, h0]
  exact this
end Tar

set_option autoImplicit false
/-! How long a repr is. -/
namespace Tar
open PySem PySem.Spec L2
theorem fold_len (f : Array Nat → UInt8 → Array Nat) (hg : ∀ acc c, (f acc c).size ≤ acc.size + 4) : ∀ (l : List UInt8) (acc : Array Nat), (l.foldl f acc).size ≤ acc.size + 4 * l.length
  | [], acc => by simp
  | c :: l, acc => by
    have := fold_len f hg l (f acc c)
    have h4 := hg acc c
    rw [List.foldl_cons, List.length_cons]
    omega
theorem lit_len (z : List Nat) : (litB z).length ≤ 4 * z.length + 3 := by
  unfold litB Builtin.Bytes.literal
  rw [Array.length_toList, Array.size_push, ← Array.foldl_toList]
  have : (B z).toList.length = z.length := by rw [Array.length_toList, B_size]
  refine Nat.le_trans (Nat.succ_le_succ (fold_len _ (fun acc c => ?_) _ _)) ?_
  · rw [Array.size_append]
    dsimp only
    repeat' split
    all_goals simp
  · rw [this]
    show 2 + _ + 1 ≤ _
    omega
theorem rep_byt {z : List Nat} (h : z.length ≤ 1000000) : repL (.byt z) = some (litB z) := by
  have := lit_len z
  simp only [repL]
  rw [if_pos ⟨h, by omega⟩]
theorem rep_str {z : List Nat} (h : (reprText (SX.S z)).length ≤ 16777216) : repL (.str z) = some (reprText (SX.S z)).cps.toList := by
  simp only [repL]
  rw [if_pos h]
theorem rep_int {i : Int} (h : i.natAbs.log2 < 1920) : repL (.int i) = some (Str.ofString (toString i)).cps.toList := by
  simp only [repL]
  rw [if_pos h]
theorem text_len : ∀ (ts : List Str) (k : Nat) (acc : Str) (m : Nat), (∀ t ∈ ts, t.length ≤ m) → (textFrom k acc ts).length ≤ acc.length + ts.length * (m + 2)
  | [], k, acc, m, h => by show acc.length ≤ _; omega
  | t :: r, k, acc, m, h => by
    have ih := text_len r (k + 1) (acc ++ (if k > 0 then ", " else "" : String) ++ t) m (fun t ht => h t (List.mem_cons_of_mem _ ht))
    have ht := h t List.mem_cons_self
    have hs : ((if k > 0 then ", " else "" : String) : Str).length ≤ 2 := by split <;> decide
    have hl : (acc ++ (if k > 0 then ", " else "" : String) ++ t).length = acc.length + ((if k > 0 then ", " else "" : String) : Str).length + t.length := by
      show (Str.append (Str.append _ _) _).length = _
      simp [Str.append, Str.length]
      omega
    show (textFrom (k + 1) _ r).length ≤ _
    rw [List.length_cons, Nat.succ_mul]
    omega
theorem toPys_nD : ∀ l : List Nat, toPys (nD l) = some (l.map fun (c : Nat) => .int c)
  | [] => rfl
  | c :: l => by
    show toPys (D.int c :: nD l) = _
    unfold toPys
    rw [toPys_nD l]
    rfl
theorem show_nums : ∀ {l : List Nat}, Lt256 l → PyData.showableAll (l.map fun (c : Nat) => .int c) = true
  | [], _ => by simp [PyData.showableAll]
  | c :: l, h => by
    have h1 := h c List.mem_cons_self
    have h2 : Nat.log2 c < 1920 := by
      by_cases h0 : c = 0
      · subst h0; decide
      · have := (Nat.log2_lt h0 (k := 8)).mpr (by omega)
        omega
    simp only [List.map_cons, PyData.showableAll, PyData.showable, show_nums (fun d hd => h d (List.mem_cons_of_mem _ hd)), Bool.and_true, Int.natAbs_natCast, h2, decide_true]
theorem dict_nums : ∀ l : List Nat, PyData.hasDictAll (l.map fun (c : Nat) => .int c) = false
  | [] => by simp [PyData.hasDictAll]
  | c :: l => by simp only [List.map_cons, PyData.hasDictAll, PyData.hasDict, dict_nums l, Bool.or_self]
theorem depth_nums : ∀ l : List Nat, PyData.depthAll (l.map fun (c : Nat) => .int c) = 0
  | [] => by simp [PyData.depthAll]
  | c :: l => by simp [PyData.depthAll, PyData.depth, depth_nums l]
theorem shown_len : ∀ l : List Nat, (PyData.shownAll (l.map fun (c : Nat) => .int c)).length = l.length
  | [] => by simp [PyData.shownAll]
  | c :: l => by simp only [List.map_cons, PyData.shownAll, List.length_cons, shown_len l]
theorem dig3 : ∀ c : _root_.Fin 256, (Str.ofString (toString ((c.val : Nat) : Int))).length ≤ 3 := by decide +kernel
theorem shown_nums : ∀ {l : List Nat}, Lt256 l → ∀ t ∈ PyData.shownAll (l.map fun (c : Nat) => .int c), t.length ≤ 3
  | [], _, t, ht => by simp [PyData.shownAll] at ht
  | c :: l, h, t, ht => by
    simp only [List.map_cons, PyData.shownAll, List.mem_cons, PyData.shown] at ht
    rcases ht with rfl | ht
    · exact dig3 ⟨c, h c List.mem_cons_self⟩
    · exact shown_nums (fun d hd => h d (List.mem_cons_of_mem _ hd)) t ht
theorem rep_nums {l : List Nat} (h : Lt256 l) (hl : l.length ≤ 100000) : ∃ z, repL (.lst (nD l)) = some z := by
  have e : toPy (.lst (nD l)) = some (.list (l.map fun (c : Nat) => .int c)) := by
    unfold toPy
    rw [toPys_nD]
    rfl
  have ok : okRep (.list (l.map fun (c : Nat) => .int c)) = true := by
    unfold okRep
    simp only [Bool.and_eq_true, Bool.not_eq_true', decide_eq_true_iff]
    refine ⟨⟨⟨?_, ?_⟩, ?_⟩, ?_⟩
    · simp only [PyData.showable]
      exact show_nums h
    · simp only [PyData.hasDict]
      exact dict_nums l
    · simp only [PyData.depth, depth_nums]
      decide
    · simp only [PyData.shown]
      unfold listText
      have h1 := text_len (PyData.shownAll (l.map fun (c : Nat) => .int c)) 0 "[" 3 (shown_nums h)
      have h2 : (PyData.shownAll (l.map fun (c : Nat) => .int c)).length = l.length := shown_len l
      have h3 : (textFrom 0 "[" (PyData.shownAll (l.map fun (c : Nat) => .int c)) ++ ("]" : Str)).length = (textFrom 0 "[" (PyData.shownAll (l.map fun (c : Nat) => .int c))).length + 1 := by
        show (Str.append _ _).length = _
        simp only [Str.append, Str.length, Array.size_append]
        rfl
      have h4 : (("[" : String) : Str).length = 1 := by decide
      rw [h3]
      rw [h2, h4] at h1
      omega
  exact ⟨_, by
    show (toPy (.lst (nD l))).bind _ = _
    rw [e]
    show (if okRep _ then _ else _) = _
    rw [if_pos ok]⟩
end Tar

set_option autoImplicit false
namespace Tar
open PySem PySem.Spec PyProof.Rows L2 Tar
noncomputable abbrev b_is_integer : MS :=
  (sRet (mAnd (mN false isiD (mCons (mLoc 0) (mCons (mC (.ty "int")) mNil))) (mNot (mN false isiD (mCons (mLoc 0) (mCons (mC (.ty "bool")) mNil))))))
noncomputable def m_is_integer : MF := fnM 1 b_is_integer
noncomputable abbrev b_is_within : MS :=
  (sRet (mAnd (mCal true false m_is_integer [.p 0] [] (mCons (mLoc 0) mNil) mNil) (mChain (cmpD fun i j => decide (i ≤ j)) (cmpD fun i j => decide (i ≤ j)) (mLoc 1) (mLoc 0) (mLoc 2))))
noncomputable def m_is_within : MF := fnM 3 b_is_within
noncomputable abbrev b_blob : MS :=
  (sSeq (sIf (mOrT (mNotT (mTru (mN false isiD (mCons (mLoc 0) (mCons (mTup (mCons (mC (.ty "list")) (mCons (mC (.ty "tuple")) mNil))) mNil))))) (mNotT (mTru (mN false allD (mCons (mComp false (mIter (mLoc 0)) [1] (cN 1) mYes (mCal true false m_is_within [.p 0, .p 1, .p 2] [] (mCons (mLoc 1) (mCons (mC (.int 0)) (mCons (mC (.int 255)) mNil))) mNil)) mNil)))))
    (sRaise "NoBlob" ["numbers"] (mCons (mLoc 0) mNil))
    sNop)
  (sRet (mN false bytD (mCons (mLoc 0) mNil))))
noncomputable def m_blob : MF := fnM 2 b_blob
noncomputable abbrev b_text_field : MS :=
  (sRet (mSl false (mOp false addD (mM0 false encD (mSl false (mLoc 0) oNo (oSome (mLoc 1)))) (mN false bytD (mCons (mLoc 1) mNil))) oNo (oSome (mLoc 1))))
noncomputable def m_text_field : MF := fnM 2 b_text_field
noncomputable abbrev b_octal_field : MS :=
  (sRet (mOp false addD (mM0 false encD (mM1 false zfD (mUn false octD1 (mLoc 0)) (mOp false subD (mLoc 1) (mC (.int 1))))) (mN false bytD (mCons (mC (.int 1)) mNil))))
noncomputable def m_octal_field : MF := fnM 2 b_octal_field
noncomputable abbrev b_sum_of : MS :=
  (sRet (mOp false addD (mOp false subD (mN false sumD (mCons (mLoc 0) mNil)) (mN false sumD (mCons (mSl false (mLoc 0) (oSome (mC (.int 148))) (oSome (mC (.int 156)))) mNil))) (mOp false mulD (mC (.int 8)) (mN false ordD (mCons (mC (.str [32])) mNil)))))
noncomputable def m_sum_of : MF := fnM 1 b_sum_of
noncomputable abbrev b_checksum : MS :=
  (sSeq (sIf (mOrT (mNotT (mTru (mN false isiD (mCons (mLoc 0) (mCons (mC (.ty "bytes")) mNil))))) (mB (mOp false neD (mN false lenD (mCons (mLoc 0) mNil)) (mC (.int 512)))))
    (sRaise "NoBlock" ["thing"] (mCons (mLoc 0) mNil))
    sNop)
  (sRet (mCal true false m_sum_of [.p 0] [] (mCons (mLoc 0) mNil) mNil)))
noncomputable def m_checksum : MF := fnM 1 b_checksum
noncomputable abbrev b_checksum_field : MS :=
  (sRet (mOp false addD (mCal true false m_octal_field [.p 0, .p 1] [] (mCons (mCal true false m_sum_of [.p 0] [] (mCons (mLoc 0) mNil) mNil) (mCons (mC (.int 7)) mNil)) mNil) (mC (.byt [32]))))
noncomputable def m_checksum_field : MF := fnM 1 b_checksum_field
noncomputable abbrev b_magic_field : MS :=
  (sRet (mOp false addD (mOp false addD (mM0 false encD (mC (.str [117, 115, 116, 97, 114]))) (mN false bytD (mCons (mC (.int 1)) mNil))) (mC (.byt [48, 48]))))
noncomputable def m_magic_field : MF := fnM 0 b_magic_field
noncomputable abbrev b_header : MS :=
  (sSeq (sAsg (mOp false addD (mOp false addD (mOp false addD (mCal true false m_text_field [.p 0, .p 1] [] (mCons (mLoc 1) (mCons (mC (.int 100)) mNil)) mNil) (mCal true false m_octal_field [.p 0, .p 1] [] (mCons (mLoc 2) (mCons (mC (.int 8)) mNil)) mNil)) (mCal true false m_octal_field [.p 0, .p 1] [] (mCons (mC (.int 0)) (mCons (mC (.int 8)) mNil)) mNil)) (mCal true false m_octal_field [.p 0, .p 1] [] (mCons (mC (.int 0)) (mCons (mC (.int 8)) mNil)) mNil)) (gN 6))
  (sSeq (sAsg (mOp false addD (mOp false addD (mLoc 6) (mCal true false m_octal_field [.p 0, .p 1] [] (mCons (mLoc 3) (mCons (mC (.int 12)) mNil)) mNil)) (mCal true false m_octal_field [.p 0, .p 1] [] (mCons (mLoc 4) (mCons (mC (.int 12)) mNil)) mNil)) (gN 6))
  (sSeq (sAsg (mOp false addD (mOp false addD (mOp false addD (mM0 false encD (mLoc 0)) (mCal true false m_text_field [.p 0, .p 1] [] (mCons (mLoc 5) (mCons (mC (.int 100)) mNil)) mNil)) (mCal true false m_magic_field [] [] mNil mNil)) (mN false bytD (mCons (mC (.int 247)) mNil))) (gN 7))
  (sRet (mOp false addD (mOp false addD (mLoc 6) (mCal true false m_checksum_field [.p 0] [] (mCons (mOp false addD (mOp false addD (mLoc 6) (mN false bytD (mCons (mC (.int 8)) mNil))) (mLoc 7)) mNil) mNil)) (mLoc 7))))))
noncomputable def m_header : MF := fnM 8 b_header
noncomputable abbrev b_l_source : MS :=
  (sSeq (sAsg (mIf (mB (mOp false (cmpD fun i j => decide (i < j)) (mLoc 1) (mN false lenD (mCons (mLoc 0) mNil)))) (mOp false ixD (mLoc 0) (mLoc 1)) (mC (.int 0))) (gN 2))
  (sSeq (sAsg (mIf (mB (mOp false (cmpD fun i j => decide (j ≤ i)) (mN false absD (mCons (mLoc 2) mNil)) (mOp false powD (mC (.int 10)) (mC (.int 18))))) (mOp false modD (mN false intD (mCons (mN false absD (mCons (mLoc 2) mNil)) mNil)) (mOp false mulD (mOp false mulD (mOp false powD (mC (.int 10)) (mC (.int 60))) (mOp false powD (mC (.int 10)) (mC (.int 60)))) (mOp false powD (mC (.int 10)) (mC (.int 60))))) (mC (.int 0))) (gN 3))
  (sSeq (sAsg (mOp false modD (mN false intD (mCons (mOp false addD (mOp false addD (mLoc 2) (mOp false mulD (mC (.int 7919)) (mLoc 1))) (mC (.int 29))) mNil)) (mC (.int 2147483647))) (gN 4))
  (sSeq (sFor (mRng1 (mN false minD (mCons (mN false lenD (mCons (mLoc 0) mNil)) (mCons (mC (.int 9)) mNil)))) (gN 5)
    (sAsg (mOp false modD (mN false intD (mCons (mOp false addD (mOp false addD (mOp false powD (mLoc 4) (mC (.int 5))) (mOp false modD (mN false intD (mCons (mOp false ixD (mLoc 0) (mLoc 5)) mNil)) (mC (.int 2147483629)))) (mOp false mulD (mC (.int 31)) (mLoc 5))) mNil)) (mC (.int 2147483647))) (gN 4)))
  (sRet (mLst true (mCons (mLoc 3) (mCons (mLoc 4) (mCons (mC (.int 0)) mNil)))))))))
noncomputable def m_l_source : MF := fnM 6 b_l_source
noncomputable abbrev b_l_draw : MS :=
  (sSeq (sIf (mB (mOp false (cmpD fun i j => decide (j < i)) (mOp false ixD (mLoc 0) (mC (.int 0))) (mC (.int 0))))
    (sSeq (sAsg (mOp false modD (mN false intD (mCons (mOp false ixD (mLoc 0) (mC (.int 0))) mNil)) (mLoc 1)) (gN 2))
    (sSeq (sAsg (mOp false divD (mOp false ixD (mLoc 0) (mC (.int 0))) (mLoc 1)) (gPut (mLoc 0) (mC (.int 0))))
    (sRet (mLoc 2))))
    sNop)
  (sSeq (sAsg (mOp false addD (mOp false ixD (mLoc 0) (mC (.int 2))) (mC (.int 1))) (gPut (mLoc 0) (mC (.int 2))))
  (sSeq (sAsg (mOp false modD (mN false intD (mCons (mOp false addD (mOp false addD (mOp false powD (mOp false ixD (mLoc 0) (mC (.int 1))) (mC (.int 5))) (mOp false mulD (mC (.int 48271)) (mOp false ixD (mLoc 0) (mC (.int 2))))) (mC (.int 11))) mNil)) (mC (.int 2147483647))) (gPut (mLoc 0) (mC (.int 1))))
  (sRet (mOp false modD (mN false intD (mCons (mOp false divD (mOp false modD (mN false intD (mCons (mOp false mulD (mOp false ixD (mLoc 0) (mC (.int 1))) (mC (.int 69621))) mNil)) (mC (.int 2147483629))) (mC (.int 8))) mNil)) (mLoc 1))))))
noncomputable def m_l_draw : MF := fnM 3 b_l_draw
noncomputable abbrev b_l_random_name : MS :=
  (sSeq (sAsg (mOp false ixD (mLst false (mCons (mC (.str [97])) (mCons (mC (.str [98])) (mCons (mC (.str [100, 105, 114])) (mCons (mC (.str [120, 45, 49])) (mCons (mC (.str [97, 46, 98])) (mCons (mC (.str [95])) mNil))))))) (mCal false false m_l_draw [.p 0, .p 1] [] (mCons (mLoc 0) (mCons (mC (.int 6)) mNil)) mNil)) (gN 2))
  (sSeq (sFor (mRng1 (mOp false ixD (mLst false (mCons (mC (.int 0)) (mCons (mC (.int 0)) (mCons (mC (.int 1)) (mCons (mC (.int 2)) mNil))))) (mCal false false m_l_draw [.p 0, .p 1] [] (mCons (mLoc 0) (mCons (mC (.int 4)) mNil)) mNil))) (gN 3)
    (sAsg (mOp false addD (mOp false addD (mLoc 2) (mC (.str [47]))) (mOp false ixD (mLst false (mCons (mC (.str [97])) (mCons (mC (.str [98])) (mCons (mC (.str [99])) (mCons (mC (.str [46, 46, 97])) (mCons (mC (.str [108, 111, 110, 103])) (mCons (mC (.str [48])) mNil))))))) (mCal false false m_l_draw [.p 0, .p 1] [] (mCons (mLoc 0) (mCons (mC (.int 6)) mNil)) mNil))) (gN 2)))
  (sRet (mOp false addD (mLoc 2) (mOp false mulD (mC (.str [113])) (mLoc 1))))))
noncomputable def m_l_random_name : MF := fnM 4 b_l_random_name
noncomputable abbrev b_l_any_name : MS :=
  (sSeq (sAsg (mCal false false m_l_draw [.p 0, .p 1] [] (mCons (mLoc 0) (mCons (mC (.int 8)) mNil)) mNil) (gN 1))
  (sSeq (sIf (mB (mOp false (cmpD fun i j => decide (i < j)) (mLoc 1) (mC (.int 4))))
    (sRet (mCal false false m_l_random_name [.p 0, .p 1] [] (mCons (mLoc 0) (mCons (mC (.int 0)) mNil)) mNil))
    sNop)
  (sSeq (sIf (mB (mOp false (cmpD fun i j => decide (i < j)) (mLoc 1) (mC (.int 6))))
    (sSeq (sAsg (mOp false ixD (mLst false (mCons (mC (.int 99)) (mCons (mC (.int 100)) (mCons (mC (.int 101)) (mCons (mC (.int 150)) (mCons (mC (.int 249)) (mCons (mC (.int 250)) (mCons (mOp false addD (mC (.int 101)) (mCal false false m_l_draw [.p 0, .p 1] [] (mCons (mLoc 0) (mCons (mC (.int 149)) mNil)) mNil)) mNil)))))))) (mCal false false m_l_draw [.p 0, .p 1] [] (mCons (mLoc 0) (mCons (mC (.int 7)) mNil)) mNil)) (gN 2))
    (sSeq (sAsg (mCal false false m_l_random_name [.p 0, .p 1] [] (mCons (mLoc 0) (mCons (mC (.int 0)) mNil)) mNil) (gN 3))
    (sRet (mOp false addD (mLoc 3) (mOp false mulD (mOp false ixD (mC (.str [97, 98, 99, 100, 101, 102, 103, 104, 105, 106, 107, 108, 109, 110, 111, 112, 113, 114, 115, 116, 117, 118, 119, 120, 121, 122, 48, 49, 50, 51, 52, 53, 54, 55, 56, 57])) (mCal false false m_l_draw [.p 0, .p 1] [] (mCons (mLoc 0) (mCons (mC (.int 36)) mNil)) mNil)) (mOp false subD (mLoc 2) (mN false lenD (mCons (mLoc 3) mNil))))))))
    sNop)
  (sRet (mOp false ixD (mLst false (mCons (mC (.str [46, 46])) (mCons (mC (.str [47, 97])) (mCons (mC (.str [97, 47, 47, 98])) (mCons (mC (.str [97, 47])) (mCons (mC (.str [46, 47, 97])) (mCons (mC (.str [97, 47, 46, 46, 47, 98])) (mCons (mC (.str [45])) (mCons (mC (.str [46, 95, 45, 47])) mNil))))))))) (mCal false false m_l_draw [.p 0, .p 1] [] (mCons (mLoc 0) (mCons (mC (.int 8)) mNil)) mNil))))))
noncomputable def m_l_any_name : MF := fnM 4 b_l_any_name
noncomputable abbrev b_l_codes : MS :=
  (sRet (mComp false (mIter (mLoc 0)) [1] (cN 1) mYes (mN false ordD (mCons (mLoc 1) mNil))))
noncomputable def m_l_codes : MF := fnM 2 b_l_codes
noncomputable abbrev b_l_octal : MS :=
  (sSeq (sAsg (mLst true mNil) (gN 2))
  (sSeq (sFor (mRng1 (mOp false subD (mLoc 1) (mC (.int 1)))) (gN 3)
    (sSeq (sExp (mApp (mLoc 2) (mOp false addD (mC (.int 48)) (mOp false modD (mN false intD (mCons (mLoc 0) mNil)) (mC (.int 8))))))
    (sAsg (mOp false divD (mLoc 0) (mC (.int 8))) (gN 0))))
  (sRet (mOp false addD (mUn false revD (mLoc 2)) (mLst false (mCons (mC (.int 0)) mNil))))))
noncomputable def m_l_octal : MF := fnM 4 b_l_octal
noncomputable abbrev b_l_head : MS :=
  (sSeq (sAsg (mOp false addD (mOp false addD (mOp false addD (mSl false (mOp false addD (mCal true false m_l_codes [.p 0] [] (mCons (mLoc 1) mNil) mNil) (mOp false mulD (mLst false (mCons (mC (.int 0)) mNil)) (mC (.int 100)))) oNo (oSome (mC (.int 100)))) (mCal true false m_l_octal [.p 0, .p 1] [] (mCons (mOp false ixD (mLoc 2) (mC (.int 0))) (mCons (mC (.int 8)) mNil)) mNil)) (mCal true false m_l_octal [.p 0, .p 1] [] (mCons (mC (.int 0)) (mCons (mC (.int 8)) mNil)) mNil)) (mCal true false m_l_octal [.p 0, .p 1] [] (mCons (mC (.int 0)) (mCons (mC (.int 8)) mNil)) mNil)) (gN 4))
  (sSeq (sAsg (mOp false addD (mOp false addD (mLoc 4) (mCal true false m_l_octal [.p 0, .p 1] [] (mCons (mOp false ixD (mLoc 2) (mC (.int 1))) (mCons (mC (.int 12)) mNil)) mNil)) (mCal true false m_l_octal [.p 0, .p 1] [] (mCons (mOp false ixD (mLoc 2) (mC (.int 2))) (mCons (mC (.int 12)) mNil)) mNil)) (gN 4))
  (sSeq (sAsg (mOp false addD (mOp false addD (mOp false addD (mOp false addD (mCal true false m_l_codes [.p 0] [] (mCons (mLoc 0) mNil) mNil) (mSl false (mOp false addD (mCal true false m_l_codes [.p 0] [] (mCons (mLoc 3) mNil) mNil) (mOp false mulD (mLst false (mCons (mC (.int 0)) mNil)) (mC (.int 100)))) oNo (oSome (mC (.int 100))))) (mCal true false m_l_codes [.p 0] [] (mCons (mC (.str [117, 115, 116, 97, 114])) mNil) mNil)) (mLst false (mCons (mC (.int 0)) (mCons (mC (.int 48)) (mCons (mC (.int 48)) mNil))))) (mOp false mulD (mLst false (mCons (mC (.int 0)) mNil)) (mC (.int 247)))) (gN 5))
  (sRet (mOp false addD (mOp false addD (mOp false addD (mLoc 4) (mCal true false m_l_octal [.p 0, .p 1] [] (mCons (mOp false addD (mOp false addD (mN false sumD (mCons (mLoc 4) mNil)) (mN false sumD (mCons (mLoc 5) mNil))) (mC (.int 256))) (mCons (mC (.int 7)) mNil)) mNil)) (mLst false (mCons (mC (.int 32)) mNil))) (mLoc 5))))))
noncomputable def m_l_head : MF := fnM 6 b_l_head
noncomputable abbrev b_l_refused : MS :=
  (sSeq (sTryAs
    (sExp (mCal true false m_checksum [.p 0] [] (mCons (mLoc 0) mNil) mNil))
    1 "NoBlock" (fun k =>
    (sSeq (sAsg (mAnd (mIsX k 1 "NoBlock" (mC (.ty "TypeError"))) (mNot (mIsX k 1 "NoBlock" (mTup (mCons (mC (.own "NoBlob")) (mCons (mC (.own "NoData")) (mCons (mC (.own "NoMember")) mNil))))))) (gN 2))
    (sRet (mAnd (mLoc 2) (mOp false eqD (mN false repD (mCons (mXf k 1 "NoBlock" ["thing"] "thing") mNil)) (mN false repD (mCons (mLoc 0) mNil))))))))
  (sRet (mC (.bl false))))
noncomputable def m_l_refused : MF := fnM 3 b_l_refused
noncomputable abbrev b_l_total : MS :=
  (sRet (mOp false addD (mOp false subD (mN false sumD (mCons (mLoc 0) mNil)) (mN false sumD (mCons (mSl false (mLoc 0) (oSome (mC (.int 148))) (oSome (mC (.int 156)))) mNil))) (mC (.int 256))))
noncomputable def m_l_total : MF := fnM 1 b_l_total
noncomputable abbrev b_law : MS :=
  (sSeq (sFor (mRng1 (mN false maxD (mCons (mC (.int 1)) (mCons (mN false minD (mCons (mC (.int 4)) (mCons (mN false lenD (mCons (mLoc 0) mNil)) mNil))) mNil)))) (gN 1)
    (sSeq (sAsg (mCal true true m_l_source [.p 0, .p 1] [] (mCons (mLoc 0) (mCons (mLoc 1) mNil)) mNil) (gN 2))
    (sFor (mRng1 (mC (.int 6))) (gN 3)
      (sSeq (sAsg (mOp false ixD (mC (.str [48, 83, 53, 50, 49, 75, 76])) (mCal false false m_l_draw [.p 0, .p 1] [] (mCons (mLoc 2) (mCons (mC (.int 7)) mNil)) mNil)) (gN 4))
      (sSeq (sAsg (mLst false (mCons (mC (.str [])) (mCons (mC (.str [46, 47, 46, 47, 64, 76, 111, 110, 103, 76, 105, 110, 107])) (mCons (mSl false (mCal false false m_l_any_name [.p 0] [] (mCons (mLoc 2) mNil) mNil) oNo (oSome (mC (.int 150)))) (mCons (mSl false (mCal false false m_l_any_name [.p 0] [] (mCons (mLoc 2) mNil) mNil) oNo (oSome (mC (.int 150)))) mNil))))) (gN 5))
      (sSeq (sAsg (mOp false ixD (mLoc 5) (mCal false false m_l_draw [.p 0, .p 1] [] (mCons (mLoc 2) (mCons (mC (.int 4)) mNil)) mNil)) (gN 6))
      (sSeq (sAsg (mOp false ixD (mLst false (mCons (mOp false ixD (mLoc 5) (mC (.int 0))) (mCons (mOp false ixD (mLoc 5) (mC (.int 3))) mNil))) (mCal false false m_l_draw [.p 0, .p 1] [] (mCons (mLoc 2) (mCons (mC (.int 2)) mNil)) mNil)) (gN 7))
      (sSeq (sAsg (mLst true (mCons (mOp false ixD (mLst false (mCons (mC (.int 0)) (mCons (mC (.int 511)) (mCons (mC (.int 4095)) (mCons (mOp false subD (mOp false powD (mC (.int 8)) (mC (.int 7))) (mC (.int 1))) mNil))))) (mCal false false m_l_draw [.p 0, .p 1] [] (mCons (mLoc 2) (mCons (mC (.int 4)) mNil)) mNil)) (mCons (mCal false false m_l_draw [.p 0, .p 1] [] (mCons (mLoc 2) (mCons (mOp false powD (mC (.int 8)) (mC (.int 11))) mNil)) mNil) (mCons (mOp false subD (mOp false powD (mC (.int 8)) (mC (.int 11))) (mC (.int 1))) mNil)))) (gN 8))
      (sSeq (sAsg (mOp false ixD (mLst false (mCons (mC (.int 0)) (mCons (mOp false subD (mOp false powD (mC (.int 8)) (mC (.int 11))) (mC (.int 1))) (mCons (mCal false false m_l_draw [.p 0, .p 1] [] (mCons (mLoc 2) (mCons (mOp false powD (mC (.int 8)) (mC (.int 11))) mNil)) mNil) mNil)))) (mCal false false m_l_draw [.p 0, .p 1] [] (mCons (mLoc 2) (mCons (mC (.int 3)) mNil)) mNil)) (gPut (mLoc 8) (mC (.int 2))))
      (sSeq (sAsg (mCal true false m_l_head [.p 0, .p 1, .p 2, .p 3] [] (mCons (mLoc 4) (mCons (mLoc 6) (mCons (mLoc 8) (mCons (mLoc 7) mNil)))) mNil) (gN 9))
      (sSeq (sAsg (mCal true false m_header [.p 0, .p 1, .k 0, .k 1, .k 2, .k 3] [] (mCons (mLoc 4) (mCons (mLoc 6) mNil)) (mCons (mOp false ixD (mLoc 8) (mC (.int 0))) (mCons (mOp false ixD (mLoc 8) (mC (.int 1))) (mCons (mOp false ixD (mLoc 8) (mC (.int 2))) (mCons (mLoc 7) mNil))))) (gN 10))
      (sSeq (sIf (mOrT (mB (mOp false neD (mN false lstD (mCons (mLoc 10) mNil)) (mLoc 9))) (mB (mOp false neD (mSl false (mN false lstD (mCons (mCal true false m_header [.k 2, .k 1, .d 0, .d 1, .d 2, .k 0] [(.int 0), (.int 0), (.int 0)] mNil (mCons (mLoc 7) (mCons (mLoc 6) (mCons (mLoc 4) mNil)))) mNil)) oNo (oSome (mC (.int 100)))) (mSl false (mLoc 9) oNo (oSome (mC (.int 100)))))))
        (sRet (mC (.bl false)))
        sNop)
      (sSeq (sIf (mOrT (mB (mOp false neD (mCal true false m_checksum [.p 0] [] (mCons (mLoc 10) mNil) mNil) (mCal true false m_l_total [.p 0] [] (mCons (mLoc 9) mNil) mNil))) (mB (mOp false neD (mCal true false m_checksum [.k 0] [] mNil (mCons (mLoc 10) mNil)) (mCal true false m_checksum [.p 0] [] (mCons (mLoc 10) mNil) mNil))))
        (sRet (mC (.bl false)))
        sNop)
      (sSeq (sAsg (mCal false false m_l_draw [.p 0, .p 1] [] (mCons (mLoc 2) (mCons (mC (.int 512)) mNil)) mNil) (gN 11))
      (sSeq (sAsg (mOp false addD (mOp false addD (mSl false (mLoc 9) oNo (oSome (mLoc 11))) (mLst false (mCons (mCal false false m_l_draw [.p 0, .p 1] [] (mCons (mLoc 2) (mCons (mC (.int 256)) mNil)) mNil) mNil))) (mSl false (mLoc 9) (oSome (mOp false addD (mLoc 11) (mC (.int 1)))) oNo)) (gN 12))
      (sSeq (sIf (mB (mOp false neD (mCal true false m_checksum [.p 0] [] (mCons (mCal true false m_blob [.p 0] [] (mCons (mLoc 12) mNil) mNil) mNil) mNil) (mCal true false m_l_total [.p 0] [] (mCons (mLoc 12) mNil) mNil)))
        (sRet (mC (.bl false)))
        sNop)
      (sSeq (sAsg (mOp false ixD (mLst false (mCons (mC .non) (mCons (mLoc 9) (mCons (mOp false mulD (mC (.str [97])) (mC (.int 512))) (mCons (mCal true false m_blob [.p 0] [] (mCons (mSl false (mLoc 9) oNo (oSome (mC (.int 511)))) mNil) mNil) (mCons (mCal true false m_blob [.p 0] [] (mCons (mOp false addD (mLoc 9) (mLst false (mCons (mC (.int 0)) mNil))) mNil) mNil) (mCons (mCal true false m_blob [.p 0] [] (mCons (mLst false mNil) mNil) mNil) (mCons (mC (.int 512)) mNil)))))))) (mCal false false m_l_draw [.p 0, .p 1] [] (mCons (mLoc 2) (mCons (mC (.int 7)) mNil)) mNil)) (gN 13))
      (sIf (mNotT (mTru (mCal true false m_l_refused [.p 0] [] (mCons (mLoc 13) mNil) mNil)))
        (sRet (mC (.bl false)))
        sNop))))))))))))))))))
  (sSeq (sAsg (mCal true false m_header [.p 0, .p 1, .d 0, .d 1, .d 2, .d 3] [(.int 0), (.int 0), (.int 0), (.str [])] (mCons (mC (.str [48])) (mCons (mC (.str [97])) mNil)) mNil) (gN 14))
  (sRet (mAnd (mOp false eqD (mN false lstD (mCons (mLoc 14) mNil)) (mCal true false m_l_head [.p 0, .p 1, .p 2, .p 3] [] (mCons (mC (.str [48])) (mCons (mC (.str [97])) (mCons (mTup (mCons (mC (.int 0)) (mCons (mC (.int 0)) (mCons (mC (.int 0)) mNil)))) (mCons (mC (.str [])) mNil)))) mNil)) (mOp false eqD (mCal true false m_checksum [.p 0] [] (mCons (mCal true false m_blob [.p 0] [] (mCons (mOp false mulD (mLst false (mCons (mC (.int 255)) mNil)) (mC (.int 512))) mNil) mNil) mNil) mNil) (mOp false addD (mOp false mulD (mC (.int 504)) (mC (.int 255))) (mC (.int 256))))))))
noncomputable def m_law : MF := fnM 15 b_law
end Tar

set_option autoImplicit false
namespace Tar
open PySem PySem.Spec L2
/-! draws -/
/-- a source: large number, mix, counter -/
abbrev Src := Int × Int × Int
abbrev cel (s : Src) : Cell := .lst [.int s.1, .int s.2.1, .int s.2.2]
def Sok (s : Src) : Prop := 0 ≤ s.2.1 ∧ s.2.1 < 2147483647
def drw (s : Src) (n : Int) : Src := if 0 < s.1 then (s.1 / n, s.2.1, s.2.2) else (s.1, (s.2.1 ^ 5 + 48271 * (s.2.2 + 1) + 11) % 2147483647, s.2.2 + 1)
def drv (s : Src) (n : Int) : Int := if 0 < s.1 then s.1 % n else (((drw s n).2.1 * 69621) % 2147483629 / 8) % n
theorem drw_ok {s : Src} {n : Int} (h : Sok s) : Sok (drw s n) := by
  unfold drw
  split
  · exact h
  · exact ⟨Int.emod_nonneg _ (by decide), Int.emod_lt_of_pos _ (by decide)⟩
theorem drv_in {s : Src} {n : Int} (h : 0 < n) : 0 ≤ drv s n ∧ drv s n < n := by
  unfold drv
  split
  · exact ⟨Int.emod_nonneg _ (by omega), Int.emod_lt_of_pos _ h⟩
  · exact ⟨Int.emod_nonneg _ (by omega), Int.emod_lt_of_pos _ h⟩
theorem mulOk_l {i j : Int} (h : -(2 ^ 64) < i ∧ i < 2 ^ 64) : mulOk i j = true := by
  unfold mulOk
  rw [decide_eq_true h]
  rfl
theorem mulOk_r {i j : Int} (h : -(2 ^ 64) < j ∧ j < 2 ^ 64) : mulOk i j = true := by
  unfold mulOk
  rw [decide_eq_true h]
  simp
theorem draw_eq {s : Src} {n : Int} (h : Sok s) (h0 : 0 < n) (h1 : n < 18446744073709551616) : m_l_draw [.rf 0, .im (.int n)] [cel s] = .ok (.im (.int (drv s n))) [cel (drw s n)] := by
  obtain ⟨a, b, c⟩ := s
  obtain ⟨hb0, hb1⟩ := h
  simp only at hb0 hb1
  have hp : b.natAbs < 18446744073709551616 := by omega
  have hm : ∀ j : Int, mulOk 48271 j = true := fun j => mulOk_l (by decide)
  have hm2 : ∀ j : Int, mulOk j 69621 = true := fun j => mulOk_r (by decide)
  by_cases ha : 0 < a
  · simp [fnM, sRet, sRetN, sExp, sIf, sAsg, sNop, sSeq, mLoc, mC, mOp, mUn, mN, mNil, mCons, mIf, mTup, mLst, stiff, stiffs, fin, ofO, on1, on2, onN, vw, vws, Cell.view, gN, gPut, mTru, mAndT, mOrT, mNotT, mAnd, mOr, mNot, mB, mChain, tru, truD, mSl, oNo, oSome, mCal, calE, callB, refsOf, getB, putB, ren, backV, gI, gO, mRng1, mRng2, mIter, itemsD, sFor, mM0, mM1, mApp, addD, subD, mulD, divD, modD, powD, negD, cmpD, ixD, lenD, absD, minD, maxD, intD, ordD, ixN, m_l_draw, b_l_draw, drw, drv, ha, h0, h1]
  · simp [fnM, sRet, sRetN, sExp, sIf, sAsg, sNop, sSeq, mLoc, mC, mOp, mUn, mN, mNil, mCons, mIf, mTup, mLst, stiff, stiffs, fin, ofO, on1, on2, onN, vw, vws, Cell.view, gN, gPut, mTru, mAndT, mOrT, mNotT, mAnd, mOr, mNot, mB, mChain, tru, truD, mSl, oNo, oSome, mCal, calE, callB, refsOf, getB, putB, ren, backV, gI, gO, mRng1, mRng2, mIter, itemsD, sFor, mM0, mM1, mApp, addD, subD, mulD, divD, modD, powD, negD, cmpD, ixD, lenD, absD, minD, maxD, intD, ordD, ixN, m_l_draw, b_l_draw, drw, drv, ha, h0, h1, hp, hm, hm2]
theorem hM1 : mulOk 1000000000000000000000000000000000000000000000000000000000000 1000000000000000000000000000000000000000000000000000000000000 = true := by decide +kernel
theorem hM2 : mulOk 1000000000000000000000000000000000000000000000000000000000000000000000000000000000000000000000000000000000000000000000000 1000000000000000000000000000000000000000000000000000000000000 = true := by decide +kernel
theorem large_ok (ns : List Int) (k : Nat) (c : Int) : ∃ l : Int, (mIf (mB (mOp false (cmpD fun i j => decide (j ≤ i)) (mN false absD (mCons (mLoc 2) mNil)) (mOp false powD (mC (.int 10)) (mC (.int 18))))) (mOp false modD (mN false intD (mCons (mN false absD (mCons (mLoc 2) mNil)) mNil)) (mOp false mulD (mOp false mulD (mOp false powD (mC (.int 10)) (mC (.int 60))) (mOp false powD (mC (.int 10)) (mC (.int 60)))) (mOp false powD (mC (.int 10)) (mC (.int 60))))) (mC (.int 0)))
        [some (.im (.scr ns)), some (.im (.int k)), some (.im (.int c)), none, none, none] [] = .ok (.im (.int l)) [] := by
      by_cases h : 1000000000000000000 ≤ (if c < 0 then -c else c)
      · exact ⟨(if c < 0 then -c else c) % 1000000000000000000000000000000000000000000000000000000000000000000000000000000000000000000000000000000000000000000000000000000000000000000000000000000000000000000000000000000000000, by simp [fnM, sRet, sRetN, sExp, sIf, sAsg, sNop, sSeq, mLoc, mC, mOp, mUn, mN, mNil, mCons, mIf, mTup, mLst, stiff, stiffs, fin, ofO, on1, on2, onN, vw, vws, Cell.view, gN, gPut, mTru, mAndT, mOrT, mNotT, mAnd, mOr, mNot, mB, mChain, tru, truD, mSl, oNo, oSome, mCal, calE, callB, refsOf, getB, putB, ren, backV, gI, gO, mRng1, mRng2, mIter, itemsD, sFor, mM0, mM1, mApp, addD, subD, mulD, divD, modD, powD, negD, cmpD, ixD, lenD, absD, minD, maxD, intD, ordD, ixN, h, hM1, hM2]⟩
      · exact ⟨0, by simp [fnM, sRet, sRetN, sExp, sIf, sAsg, sNop, sSeq, mLoc, mC, mOp, mUn, mN, mNil, mCons, mIf, mTup, mLst, stiff, stiffs, fin, ofO, on1, on2, onN, vw, vws, Cell.view, gN, gPut, mTru, mAndT, mOrT, mNotT, mAnd, mOr, mNot, mB, mChain, tru, truD, mSl, oNo, oSome, mCal, calE, callB, refsOf, getB, putB, ren, backV, gI, gO, mRng1, mRng2, mIter, itemsD, sFor, mM0, mM1, mApp, addD, subD, mulD, divD, modD, powD, negD, cmpD, ixD, lenD, absD, minD, maxD, intD, ordD, ixN, h]⟩
theorem rng9 (ns : List Int) (a b c d e : Option Vl) : mRng1 (mN false minD (mCons (mN false lenD (mCons (mLoc 0) mNil)) (mCons (mC (.int 9)) mNil))) [some (.im (.scr ns)), a, b, c, d, e] [] = .ok (rngD 0 (min 9 ns.length)) [] := by
  have hn : (if (9 : Int) < ns.length then 9 else (ns.length : Int)) = ((min 9 ns.length : Nat) : Int) := by split <;> omega
  exact rng1_eq (i := if (9 : Int) < ns.length then 9 else (ns.length : Int)) (by simp [fnM, sRet, sRetN, sExp, sIf, sAsg, sNop, sSeq, mLoc, mC, mOp, mUn, mN, mNil, mCons, mIf, mTup, mLst, stiff, stiffs, fin, ofO, on1, on2, onN, vw, vws, Cell.view, gN, gPut, mTru, mAndT, mOrT, mNotT, mAnd, mOr, mNot, mB, mChain, tru, truD, mSl, oNo, oSome, mCal, calE, callB, refsOf, getB, putB, ren, backV, gI, gO, mRng1, mRng2, mIter, itemsD, sFor, mM0, mM1, mApp, addD, subD, mulD, divD, modD, powD, negD, cmpD, ixD, lenD, absD, minD, maxD, intD, ordD, ixN]) hn (by omega)
theorem source_ok (ns : List Int) (k : Nat) : ∃ s, Sok s ∧ m_l_source [.im (.scr ns), .im (.int k)] [] = .ok (.rf 0) [cel s] := by
  have hm : ∀ j : Int, mulOk 7919 j = true := fun j => mulOk_l (by decide)
  have hm1 : ∀ j : Int, mulOk 31 j = true := fun j => mulOk_l (by decide)
  have q : ∃ v S', fnM 6 b_l_source [.im (.scr ns), .im (.int k)] [] = .ok v S' ∧ ∃ s, Sok s ∧ v = .rf 0 ∧ S' = [cel s] := by
    refine fn_ends [some (.im (.scr ns)), some (.im (.int k)), none, none, none, none] rfl ?_
    have hl : ∃ c : Int, mIf (mB (mOp false (cmpD fun i j => decide (i < j)) (mLoc 1) (mN false lenD (mCons (mLoc 0) mNil)))) (mOp false ixD (mLoc 0) (mLoc 1)) (mC (.int 0)) [some (.im (.scr ns)), some (.im (.int k)), none, none, none, none] [] = .ok (.im (.int c)) [] := by
      by_cases h : k < ns.length
      · exact ⟨ns[k], by simp [fnM, sRet, sRetN, sExp, sIf, sAsg, sNop, sSeq, mLoc, mC, mOp, mUn, mN, mNil, mCons, mIf, mTup, mLst, stiff, stiffs, fin, ofO, on1, on2, onN, vw, vws, Cell.view, gN, gPut, mTru, mAndT, mOrT, mNotT, mAnd, mOr, mNot, mB, mChain, tru, truD, mSl, oNo, oSome, mCal, calE, callB, refsOf, getB, putB, ren, backV, gI, gO, mRng1, mRng2, mIter, itemsD, sFor, mM0, mM1, mApp, addD, subD, mulD, divD, modD, powD, negD, cmpD, ixD, lenD, absD, minD, maxD, intD, ordD, ixN, h]⟩
      · exact ⟨0, by simp [fnM, sRet, sRetN, sExp, sIf, sAsg, sNop, sSeq, mLoc, mC, mOp, mUn, mN, mNil, mCons, mIf, mTup, mLst, stiff, stiffs, fin, ofO, on1, on2, onN, vw, vws, Cell.view, gN, gPut, mTru, mAndT, mOrT, mNotT, mAnd, mOr, mNot, mB, mChain, tru, truD, mSl, oNo, oSome, mCal, calE, callB, refsOf, getB, putB, ren, backV, gI, gO, mRng1, mRng2, mIter, itemsD, sFor, mM0, mM1, mApp, addD, subD, mulD, divD, modD, powD, negD, cmpD, ixD, lenD, absD, minD, maxD, intD, ordD, ixN, h]⟩
    obtain ⟨c, hc⟩ := hl
    refine sq_asg hc ?_
    have hl2 := large_ok ns k c
    obtain ⟨l, hl⟩ := hl2
    refine sq_asg hl ?_
    refine sq_asg (by simp [fnM, sRet, sRetN, sExp, sIf, sAsg, sNop, sSeq, mLoc, mC, mOp, mUn, mN, mNil, mCons, mIf, mTup, mLst, stiff, stiffs, fin, ofO, on1, on2, onN, vw, vws, Cell.view, gN, gPut, mTru, mAndT, mOrT, mNotT, mAnd, mOr, mNot, mB, mChain, tru, truD, mSl, oNo, oSome, mCal, calE, callB, refsOf, getB, putB, ren, backV, gI, gO, mRng1, mRng2, mIter, itemsD, sFor, mM0, mM1, mApp, addD, subD, mulD, divD, modD, powD, negD, cmpD, ixD, lenD, absD, minD, maxD, intD, ordD, ixN, hm]; exact ⟨rfl, rfl⟩) ?_
    obtain ⟨ρ2, S2, e2, m, x, rfl, rfl, h0, h1⟩ := forR (i := 5) (n := min 9 ns.length) (b := (sAsg (mOp false modD (mN false intD (mCons (mOp false addD (mOp false addD (mOp false powD (mLoc 4) (mC (.int 5))) (mOp false modD (mN false intD (mCons (mOp false ixD (mLoc 0) (mLoc 5)) mNil)) (mC (.int 2147483629)))) (mOp false mulD (mC (.int 31)) (mLoc 5))) mNil)) (mC (.int 2147483647))) (gN 4)))
      (Inv := fun _ ρ S => ∃ (m : Int) (x : Option Vl), ρ = [some (.im (.scr ns)), some (.im (.int k)), some (.im (.int c)), some (.im (.int l)), some (.im (.int m)), x] ∧ S = [] ∧ 0 ≤ m ∧ m < 2147483647)
      ⟨_, none, rfl, rfl, Int.emod_nonneg _ (by decide), Int.emod_lt_of_pos _ (by decide)⟩ (fun j hj ρ S ⟨m, x, e1, e2, h0, h1⟩ => by
        subst e1 e2
        have hp : m.natAbs < 18446744073709551616 := by omega
        have hj2 : j < ns.length := by omega
        refine ⟨_, _, by simp [fnM, sRet, sRetN, sExp, sIf, sAsg, sNop, sSeq, mLoc, mC, mOp, mUn, mN, mNil, mCons, mIf, mTup, mLst, stiff, stiffs, fin, ofO, on1, on2, onN, vw, vws, Cell.view, gN, gPut, mTru, mAndT, mOrT, mNotT, mAnd, mOr, mNot, mB, mChain, tru, truD, mSl, oNo, oSome, mCal, calE, callB, refsOf, getB, putB, ren, backV, gI, gO, mRng1, mRng2, mIter, itemsD, sFor, mM0, mM1, mApp, addD, subD, mulD, divD, modD, powD, negD, cmpD, ixD, lenD, absD, minD, maxD, intD, ordD, ixN, hp, hj2, hm1], (m ^ 5 + ns[j] % 2147483629 + 31 * j) % 2147483647, some (.im (.int j)), rfl, rfl, Int.emod_nonneg _ (by decide), Int.emod_lt_of_pos _ (by decide)⟩)
    refine sq_for (ds := rngD 0 (min 9 ns.length)) (S1 := []) (rng9 _ _ _ _ _ _) e2 ?_
    refine ends_ret (by simp [fnM, sRet, sRetN, sExp, sIf, sAsg, sNop, sSeq, mLoc, mC, mOp, mUn, mN, mNil, mCons, mIf, mTup, mLst, stiff, stiffs, fin, ofO, on1, on2, onN, vw, vws, Cell.view, gN, gPut, mTru, mAndT, mOrT, mNotT, mAnd, mOr, mNot, mB, mChain, tru, truD, mSl, oNo, oSome, mCal, calE, callB, refsOf, getB, putB, ren, backV, gI, gO, mRng1, mRng2, mIter, itemsD, sFor, mM0, mM1, mApp, addD, subD, mulD, divD, modD, powD, negD, cmpD, ixD, lenD, absD, minD, maxD, intD, ordD, ixN]) ⟨_, _, rfl, (l, m, 0), ⟨h0, h1⟩, rfl, rfl⟩
  obtain ⟨v, S', e, s, hs, rfl, rfl⟩ := q
  exact ⟨s, hs, e⟩
end Tar

set_option autoImplicit false
namespace Tar
open PySem PySem.Spec L2
/-! names -/
theorem draw_at {ρ : Rho} {S : Sto} {i k : Nat} {s : Src} {n : Int} {e : ME} (hi : ρ[i]? = some (some (.rf k))) (hS : S[k]? = some (cel s)) (hs : Sok s) (he : e ρ S = .ok (.im (.int n)) S) (h0 : 0 < n) (h1 : n < 18446744073709551616) :
    mCal false false m_l_draw [.p 0, .p 1] [] (mCons (mLoc i) (mCons e mNil)) mNil ρ S = .ok (.im (.int (drv s n))) (S.set k (cel (drw s n))) :=
  cal_eq (cons_eq (loc_eq hi) (cons_eq he nil_eq)) nil_eq (calE_rf (ds := [.int n]) hS (draw_eq hs h0 h1))
theorem Asc.app {a b : List Nat} (h : Asc a) (k : Asc b) : Asc (a ++ b) := asc_app h k
theorem Asc.rep {a : List Nat} (h : Asc a) (n : Nat) : Asc (List.replicate n a).flatten := fun c hc => by
  obtain ⟨l, hl, hc⟩ := List.mem_flatten.mp hc
  rw [(List.mem_replicate.mp hl).2] at hc
  exact h c hc
theorem rep_len (n : Nat) (a : List Nat) : (List.replicate n a).flatten.length = n * a.length := by
  induction n with
  | zero => simp
  | succ n ih => rw [List.replicate_succ, List.flatten_cons, List.length_append, ih, Nat.succ_mul, Nat.add_comm]
theorem random_ok {s : Src} {n : Nat} (hs : Sok s) (hn : n ≤ 1000) : ∃ z s', m_l_random_name [.rf 0, .im (.int n)] [cel s] = .ok (.im (.str z)) [cel s'] ∧ Sok s' ∧ Asc z ∧ z.length ≤ 13 + n := by
  have q : ∃ v S', fnM 4 b_l_random_name [.rf 0, .im (.int n)] [cel s] = .ok v S' ∧ ∃ z s', v = .im (.str z) ∧ S' = [cel s'] ∧ Sok s' ∧ Asc z ∧ z.length ≤ 13 + n := by
    refine fn_ends [some (.rf 0), some (.im (.int n)), none, none] rfl ?_
    obtain ⟨d, hd, e⟩ := pick_ok (ρ := [some (.rf 0), some (.im (.int n)), none, none]) (S := [cel s]) (a := mLst false (mCons (mC (.str [97])) (mCons (mC (.str [98])) (mCons (mC (.str [100, 105, 114])) (mCons (mC (.str [120, 45, 49])) (mCons (mC (.str [97, 46, 98])) (mCons (mC (.str [95])) mNil))))))) (by simp [fnM, sRet, sRetN, sExp, sIf, sAsg, sNop, sSeq, mLoc, mC, mOp, mUn, mN, mNil, mCons, mIf, mTup, mLst, stiff, stiffs, fin, ofO, on1, on2, onN, vw, vws, Cell.view, gN, gPut, mTru, mAndT, mOrT, mNotT, mAnd, mOr, mNot, mB, mChain, tru, truD, mSl, oNo, oSome, mCal, calE, callB, refsOf, getB, putB, ren, backV, gI, gO, mRng1, mRng2, mIter, itemsD, sFor, mM0, mM1, mApp, addD, subD, mulD, divD, modD, powD, negD, cmpD, ixD, lenD, absD, minD, maxD, intD, ordD, ixN]; exact ⟨rfl, rfl⟩)
      (draw_at (e := mC (.int 6)) (i := 0) rfl rfl hs rfl (by decide) (by decide)) (drv_in (by decide))
    have hd2 : ∃ z, d = .str z ∧ Asc z ∧ z.length ≤ 3 := by
      simp only [List.mem_cons, List.not_mem_nil, or_false] at hd
      rcases hd with rfl | rfl | rfl | rfl | rfl | rfl <;> exact ⟨_, rfl, by decide, by decide⟩
    obtain ⟨z0, rfl, hz0, hl0⟩ := hd2
    refine sq_asg e ?_
    have hs1 := drw_ok (n := 6) hs
    obtain ⟨d, hd, e⟩ := pick_ok (ρ := [some (.rf 0), some (.im (.int n)), some (.im (.str z0)), none]) (S := [cel (drw s 6)]) (a := mLst false (mCons (mC (.int 0)) (mCons (mC (.int 0)) (mCons (mC (.int 1)) (mCons (mC (.int 2)) mNil))))) (by simp [fnM, sRet, sRetN, sExp, sIf, sAsg, sNop, sSeq, mLoc, mC, mOp, mUn, mN, mNil, mCons, mIf, mTup, mLst, stiff, stiffs, fin, ofO, on1, on2, onN, vw, vws, Cell.view, gN, gPut, mTru, mAndT, mOrT, mNotT, mAnd, mOr, mNot, mB, mChain, tru, truD, mSl, oNo, oSome, mCal, calE, callB, refsOf, getB, putB, ren, backV, gI, gO, mRng1, mRng2, mIter, itemsD, sFor, mM0, mM1, mApp, addD, subD, mulD, divD, modD, powD, negD, cmpD, ixD, lenD, absD, minD, maxD, intD, ordD, ixN]; exact ⟨rfl, rfl⟩)
      (draw_at (e := mC (.int 4)) (i := 0) rfl rfl hs1 rfl (by decide) (by decide)) (drv_in (by decide))
    have hd2 : ∃ m : Nat, d = .int m ∧ m ≤ 2 := by
      simp only [List.mem_cons, List.not_mem_nil, or_false] at hd
      rcases hd with rfl | rfl | rfl | rfl
      · exact ⟨0, rfl, by decide⟩
      · exact ⟨0, rfl, by decide⟩
      · exact ⟨1, rfl, by decide⟩
      · exact ⟨2, rfl, by decide⟩
    obtain ⟨m, rfl, hm⟩ := hd2
    have hs2 := drw_ok (n := 4) hs1
    obtain ⟨ρ2, S2, e2, z1, s1, x, rfl, rfl, hz1, hl1, hs3⟩ := forR (i := 3) (n := m) (b := (sAsg (mOp false addD (mOp false addD (mLoc 2) (mC (.str [47]))) (mOp false ixD (mLst false (mCons (mC (.str [97])) (mCons (mC (.str [98])) (mCons (mC (.str [99])) (mCons (mC (.str [46, 46, 97])) (mCons (mC (.str [108, 111, 110, 103])) (mCons (mC (.str [48])) mNil))))))) (mCal false false m_l_draw [.p 0, .p 1] [] (mCons (mLoc 0) (mCons (mC (.int 6)) mNil)) mNil))) (gN 2)))
      (Inv := fun j ρ S => ∃ (z : List Nat) (s' : Src) (x : Option Vl), ρ = [some (.rf 0), some (.im (.int n)), some (.im (.str z)), x] ∧ S = [cel s'] ∧ Asc z ∧ z.length ≤ 3 + 5 * j ∧ Sok s')
      ⟨z0, _, none, rfl, rfl, hz0, hl0, hs2⟩ (fun j hj ρ S ⟨z, s', x, e1, e2, hz, hl, hs'⟩ => by
        subst e1 e2
        obtain ⟨d, hd, e⟩ := pick_ok (ρ := [some (.rf 0), some (.im (.int n)), some (.im (.str z)), some (.im (.int j))]) (S := [cel s']) (a := mLst false (mCons (mC (.str [97])) (mCons (mC (.str [98])) (mCons (mC (.str [99])) (mCons (mC (.str [46, 46, 97])) (mCons (mC (.str [108, 111, 110, 103])) (mCons (mC (.str [48])) mNil))))))) (by simp [fnM, sRet, sRetN, sExp, sIf, sAsg, sNop, sSeq, mLoc, mC, mOp, mUn, mN, mNil, mCons, mIf, mTup, mLst, stiff, stiffs, fin, ofO, on1, on2, onN, vw, vws, Cell.view, gN, gPut, mTru, mAndT, mOrT, mNotT, mAnd, mOr, mNot, mB, mChain, tru, truD, mSl, oNo, oSome, mCal, calE, callB, refsOf, getB, putB, ren, backV, gI, gO, mRng1, mRng2, mIter, itemsD, sFor, mM0, mM1, mApp, addD, subD, mulD, divD, modD, powD, negD, cmpD, ixD, lenD, absD, minD, maxD, intD, ordD, ixN]; exact ⟨rfl, rfl⟩)
          (draw_at (e := mC (.int 6)) (i := 0) rfl rfl hs' rfl (by decide) (by decide)) (drv_in (by decide))
        have hd2 : ∃ z, d = .str z ∧ Asc z ∧ z.length ≤ 4 := by
          simp only [List.mem_cons, List.not_mem_nil, or_false] at hd
          rcases hd with rfl | rfl | rfl | rfl | rfl | rfl <;> exact ⟨_, rfl, by decide, by decide⟩
        obtain ⟨z2, rfl, hz2, hl2⟩ := hd2
        have h1 : z.length + 1 ≤ 16777216 := by omega
        have h2 : z.length + 1 + z2.length ≤ 16777216 := by omega
        refine ⟨_, _, ?_, z ++ [47] ++ z2, drw s' 6, some (.im (.int j)), rfl, rfl, (hz.app (by decide)).app hz2, by simp only [List.length_append, List.length_cons, List.length_nil]; omega, drw_ok hs'⟩
        exact asg_eq (i := 2) (ρ := [some (.rf 0), some (.im (.int n)), some (.im (.str z)), some (.im (.int j))]) (op_eq (x := .im (.str (z ++ [47]))) (S1 := [cel s']) (z := .im (.str (z ++ [47] ++ z2))) (by simp [fnM, sRet, sRetN, sExp, sIf, sAsg, sNop, sSeq, mLoc, mC, mOp, mUn, mN, mNil, mCons, mIf, mTup, mLst, stiff, stiffs, fin, ofO, on1, on2, onN, vw, vws, Cell.view, gN, gPut, mTru, mAndT, mOrT, mNotT, mAnd, mOr, mNot, mB, mChain, tru, truD, mSl, oNo, oSome, mCal, calE, callB, refsOf, getB, putB, ren, backV, gI, gO, mRng1, mRng2, mIter, itemsD, sFor, mM0, mM1, mApp, addD, subD, mulD, divD, modD, powD, negD, cmpD, ixD, lenD, absD, minD, maxD, intD, ordD, ixN, h1]) e (by simp [on2, vw, addD, h2, ofO, fin])))
    refine sq_for (rng1_eq e rfl (by omega)) e2 ?_
    have hh : (List.replicate n [113]).flatten.length = n := by rw [rep_len]; simp
    have h1 : z1.length + n ≤ 16777216 := by omega
    have h3 : (-100000 : Int) ≤ n := by omega
    have h4 : (n : Int) ≤ 100000 := by omega
    refine ends_ret (v := .im (.str (z1 ++ (List.replicate n [113]).flatten))) (S1 := [cel s1]) ?_ ⟨_, _, rfl, _, _, rfl, rfl, hs3, hz1.app (Asc.rep (by decide) n), by rw [List.length_append, hh]; omega⟩
    refine op_eq (y := .im (.str (List.replicate n [113]).flatten)) (S2 := [cel s1]) (loc_eq rfl) (by simp [fnM, sRet, sRetN, sExp, sIf, sAsg, sNop, sSeq, mLoc, mC, mOp, mUn, mN, mNil, mCons, mIf, mTup, mLst, stiff, stiffs, fin, ofO, on1, on2, onN, vw, vws, Cell.view, gN, gPut, mTru, mAndT, mOrT, mNotT, mAnd, mOr, mNot, mB, mChain, tru, truD, mSl, oNo, oSome, mCal, calE, callB, refsOf, getB, putB, ren, backV, gI, gO, mRng1, mRng2, mIter, itemsD, sFor, mM0, mM1, mApp, addD, subD, mulD, divD, modD, powD, negD, cmpD, ixD, lenD, absD, minD, maxD, intD, ordD, ixN, h3, h4]) ?_
    simp only [on2, vw, addD, hh, h1, if_pos, ofO, fin]
  obtain ⟨v, S', e, z, s', rfl, rfl, h⟩ := q
  exact ⟨z, s', e, h⟩
theorem random_at {ρ : Rho} {S : Sto} {i k : Nat} {s : Src} {n : Nat} {e : ME} (hi : ρ[i]? = some (some (.rf k))) (hS : S[k]? = some (cel s)) (hs : Sok s) (he : e ρ S = .ok (.im (.int n)) S) (hn : n ≤ 1000) :
    ∃ z s', mCal false false m_l_random_name [.p 0, .p 1] [] (mCons (mLoc i) (mCons e mNil)) mNil ρ S = .ok (.im (.str z)) (S.set k (cel s')) ∧ Sok s' ∧ Asc z ∧ z.length ≤ 13 + n := by
  obtain ⟨z, s', e1, h⟩ := random_ok hs hn
  exact ⟨z, s', cal_eq (cons_eq (loc_eq hi) (cons_eq he nil_eq)) nil_eq (calE_rf (ds := [.int n]) hS e1), h⟩
theorem any_ok {s : Src} (hs : Sok s) : ∃ z s', m_l_any_name [.rf 0] [cel s] = .ok (.im (.str z)) [cel s'] ∧ Sok s' ∧ Asc z ∧ z.length ≤ 300 := by
  have q : ∃ v S', fnM 4 b_l_any_name [.rf 0] [cel s] = .ok v S' ∧ ∃ z s', v = .im (.str z) ∧ S' = [cel s'] ∧ Sok s' ∧ Asc z ∧ z.length ≤ 300 := by
    refine fn_ends [some (.rf 0), none, none, none] rfl ?_
    refine sq_asg (draw_at (i := 0) rfl rfl hs rfl (by decide) (by decide)) ?_
    have hs1 := drw_ok (n := 8) hs
    generalize drw s 8 = s1 at *
    generalize drv s 8 = way at *
    by_cases h4 : way < 4
    · refine sq_t (S1 := [cel s1]) (by simp [fnM, sRet, sRetN, sExp, sIf, sAsg, sNop, sSeq, mLoc, mC, mOp, mUn, mN, mNil, mCons, mIf, mTup, mLst, stiff, stiffs, fin, ofO, on1, on2, onN, vw, vws, Cell.view, gN, gPut, mTru, mAndT, mOrT, mNotT, mAnd, mOr, mNot, mB, mChain, tru, truD, mSl, oNo, oSome, mCal, calE, callB, refsOf, getB, putB, ren, backV, gI, gO, mRng1, mRng2, mIter, itemsD, sFor, mM0, mM1, mApp, addD, subD, mulD, divD, modD, powD, negD, cmpD, ixD, lenD, absD, minD, maxD, intD, ordD, ixN, h4]) ?_
      obtain ⟨z, s', e, h1, h2, h3⟩ := random_at (ρ := [some (.rf 0), some (.im (.int way)), none, none]) (S := [cel s1]) (e := mC (.int 0)) (n := 0) (i := 0) (k := 0) rfl rfl hs1 rfl (by decide)
      exact ends_ret e ⟨_, _, rfl, z, s', rfl, rfl, h1, h2, by omega⟩
    refine sq_f (S1 := [cel s1]) (by simp [fnM, sRet, sRetN, sExp, sIf, sAsg, sNop, sSeq, mLoc, mC, mOp, mUn, mN, mNil, mCons, mIf, mTup, mLst, stiff, stiffs, fin, ofO, on1, on2, onN, vw, vws, Cell.view, gN, gPut, mTru, mAndT, mOrT, mNotT, mAnd, mOr, mNot, mB, mChain, tru, truD, mSl, oNo, oSome, mCal, calE, callB, refsOf, getB, putB, ren, backV, gI, gO, mRng1, mRng2, mIter, itemsD, sFor, mM0, mM1, mApp, addD, subD, mulD, divD, modD, powD, negD, cmpD, ixD, lenD, absD, minD, maxD, intD, ordD, ixN, h4]) ?_
    by_cases h6 : way < 6
    · refine sq_t (S1 := [cel s1]) (by simp [fnM, sRet, sRetN, sExp, sIf, sAsg, sNop, sSeq, mLoc, mC, mOp, mUn, mN, mNil, mCons, mIf, mTup, mLst, stiff, stiffs, fin, ofO, on1, on2, onN, vw, vws, Cell.view, gN, gPut, mTru, mAndT, mOrT, mNotT, mAnd, mOr, mNot, mB, mChain, tru, truD, mSl, oNo, oSome, mCal, calE, callB, refsOf, getB, putB, ren, backV, gI, gO, mRng1, mRng2, mIter, itemsD, sFor, mM0, mM1, mApp, addD, subD, mulD, divD, modD, powD, negD, cmpD, ixD, lenD, absD, minD, maxD, intD, ordD, ixN, h6]) ?_
      have hs2 := drw_ok (n := 149) hs1
      obtain ⟨d, hd, e⟩ := pick_ok (ρ := [some (.rf 0), some (.im (.int way)), none, none]) (S := [cel s1]) (a := mLst false (mCons (mC (.int 99)) (mCons (mC (.int 100)) (mCons (mC (.int 101)) (mCons (mC (.int 150)) (mCons (mC (.int 249)) (mCons (mC (.int 250)) (mCons (mOp false addD (mC (.int 101)) (mCal false false m_l_draw [.p 0, .p 1] [] (mCons (mLoc 0) (mCons (mC (.int 149)) mNil)) mNil)) mNil))))))))
        (lst_eq (ds := [.int 99, .int 100, .int 101, .int 150, .int 249, .int 250, .int (101 + drv s1 149)]) (cons_eq rfl (cons_eq rfl (cons_eq rfl (cons_eq rfl (cons_eq rfl (cons_eq rfl (cons_eq (op_eq rfl (draw_at (e := mC (.int 149)) (i := 0) rfl rfl hs1 rfl (by decide) (by decide)) rfl) nil_eq))))))))
        (draw_at (e := mC (.int 7)) (i := 0) rfl rfl hs2 rfl (by decide) (by decide)) (drv_in (by decide))
      have hd2 : ∃ m : Nat, d = .int m ∧ m ≤ 250 := by
        have := drv_in (s := s1) (n := 149) (by decide)
        simp only [List.mem_cons, List.not_mem_nil, or_false] at hd
        rcases hd with rfl | rfl | rfl | rfl | rfl | rfl | rfl
        · exact ⟨99, rfl, by decide⟩
        · exact ⟨100, rfl, by decide⟩
        · exact ⟨101, rfl, by decide⟩
        · exact ⟨150, rfl, by decide⟩
        · exact ⟨249, rfl, by decide⟩
        · exact ⟨250, rfl, by decide⟩
        · exact ⟨(101 + drv s1 149).toNat, by rw [Int.toNat_of_nonneg (by omega)], by omega⟩
      obtain ⟨m, rfl, hm⟩ := hd2
      refine sq_asg e ?_
      have hs3 := drw_ok (n := 7) hs2
      generalize drw (drw s1 149) 7 = s3 at *
      obtain ⟨z, s4, e, h1, h2, h3⟩ := random_at (ρ := [some (.rf 0), some (.im (.int way)), some (.im (.int m)), none]) (S := [cel s3]) (e := mC (.int 0)) (n := 0) (i := 0) (k := 0) rfl rfl hs3 rfl (by decide)
      refine sq_asg e ?_
      obtain ⟨c, hc, e⟩ := pickS_ok (ρ := [some (.rf 0), some (.im (.int way)), some (.im (.int m)), some (.im (.str z))]) (S := [cel s4]) (a := mC (.str [97, 98, 99, 100, 101, 102, 103, 104, 105, 106, 107, 108, 109, 110, 111, 112, 113, 114, 115, 116, 117, 118, 119, 120, 121, 122, 48, 49, 50, 51, 52, 53, 54, 55, 56, 57])) rfl (by decide)
        (draw_at (e := mC (.int 36)) (i := 0) rfl rfl h1 rfl (by decide) (by decide)) (drv_in (by decide))
      have hc2 : c < 128 := (by decide : ∀ c ∈ [97, 98, 99, 100, 101, 102, 103, 104, 105, 106, 107, 108, 109, 110, 111, 112, 113, 114, 115, 116, 117, 118, 119, 120, 121, 122, 48, 49, 50, 51, 52, 53, 54, 55, 56, 57], c < 128) c hc
      have hz : z.length ≤ 16777216 := by omega
      have hx : (-100000 : Int) ≤ m - z.length ∧ (m : Int) - z.length ≤ 100000 := by omega
      have hr : (List.replicate (m - z.length : Int).toNat [c]).flatten.length = (m - z.length : Int).toNat := by rw [rep_len]; simp
      have ht : z.length + (m - z.length : Int).toNat ≤ 16777216 := by omega
      refine ends_ret (v := .im (.str (z ++ (List.replicate (m - z.length : Int).toNat [c]).flatten))) (S1 := [cel (drw s4 36)]) ?_ ⟨_, _, rfl, _, _, rfl, rfl, drw_ok h1, h2.app (Asc.rep (by intro d hd; rw [List.mem_singleton.mp hd]; exact hc2) _), by rw [List.length_append, hr]; omega⟩
      refine op_eq (loc_eq rfl) (op_eq e (x := .im (.str [c])) (y := .im (.int (m - z.length))) (S2 := [cel (drw s4 36)]) (by simp [fnM, sRet, sRetN, sExp, sIf, sAsg, sNop, sSeq, mLoc, mC, mOp, mUn, mN, mNil, mCons, mIf, mTup, mLst, stiff, stiffs, fin, ofO, on1, on2, onN, vw, vws, Cell.view, gN, gPut, mTru, mAndT, mOrT, mNotT, mAnd, mOr, mNot, mB, mChain, tru, truD, mSl, oNo, oSome, mCal, calE, callB, refsOf, getB, putB, ren, backV, gI, gO, mRng1, mRng2, mIter, itemsD, sFor, mM0, mM1, mApp, addD, subD, mulD, divD, modD, powD, negD, cmpD, ixD, lenD, absD, minD, maxD, intD, ordD, ixN, hz]) (z := .im (.str (List.replicate (m - z.length : Int).toNat [c]).flatten)) (o_mulS ⟨by simp, hx⟩)) ?_
      exact o_addS (by rw [hr]; exact ht)
    refine sq_f (S1 := [cel s1]) (by simp [fnM, sRet, sRetN, sExp, sIf, sAsg, sNop, sSeq, mLoc, mC, mOp, mUn, mN, mNil, mCons, mIf, mTup, mLst, stiff, stiffs, fin, ofO, on1, on2, onN, vw, vws, Cell.view, gN, gPut, mTru, mAndT, mOrT, mNotT, mAnd, mOr, mNot, mB, mChain, tru, truD, mSl, oNo, oSome, mCal, calE, callB, refsOf, getB, putB, ren, backV, gI, gO, mRng1, mRng2, mIter, itemsD, sFor, mM0, mM1, mApp, addD, subD, mulD, divD, modD, powD, negD, cmpD, ixD, lenD, absD, minD, maxD, intD, ordD, ixN, h6]) ?_
    obtain ⟨d, hd, e⟩ := pick_ok (ρ := [some (.rf 0), some (.im (.int way)), none, none]) (S := [cel s1]) (a := (mLst false (mCons (mC (.str [46, 46])) (mCons (mC (.str [47, 97])) (mCons (mC (.str [97, 47, 47, 98])) (mCons (mC (.str [97, 47])) (mCons (mC (.str [46, 47, 97])) (mCons (mC (.str [97, 47, 46, 46, 47, 98])) (mCons (mC (.str [45])) (mCons (mC (.str [46, 95, 45, 47])) mNil)))))))))) (by simp [fnM, sRet, sRetN, sExp, sIf, sAsg, sNop, sSeq, mLoc, mC, mOp, mUn, mN, mNil, mCons, mIf, mTup, mLst, stiff, stiffs, fin, ofO, on1, on2, onN, vw, vws, Cell.view, gN, gPut, mTru, mAndT, mOrT, mNotT, mAnd, mOr, mNot, mB, mChain, tru, truD, mSl, oNo, oSome, mCal, calE, callB, refsOf, getB, putB, ren, backV, gI, gO, mRng1, mRng2, mIter, itemsD, sFor, mM0, mM1, mApp, addD, subD, mulD, divD, modD, powD, negD, cmpD, ixD, lenD, absD, minD, maxD, intD, ordD, ixN]; exact ⟨rfl, rfl⟩)
      (draw_at (e := mC (.int 8)) (i := 0) rfl rfl hs1 rfl (by decide) (by decide)) (drv_in (by decide))
    have hd2 : ∃ z, d = .str z ∧ Asc z ∧ z.length ≤ 300 := by
      simp only [List.mem_cons, List.not_mem_nil, or_false] at hd
      rcases hd with rfl | rfl | rfl | rfl | rfl | rfl | rfl | rfl <;> exact ⟨_, rfl, by decide, by decide⟩
    obtain ⟨z2, rfl, hz2, hl2⟩ := hd2
    exact ends_ret e ⟨_, _, rfl, z2, _, rfl, rfl, drw_ok hs1, hz2, hl2⟩
  obtain ⟨v, S', e, z, s', rfl, rfl, h⟩ := q
  exact ⟨z, s', e, h⟩
theorem any_at {ρ : Rho} {S : Sto} {i k : Nat} {s : Src} (hi : ρ[i]? = some (some (.rf k))) (hS : S[k]? = some (cel s)) (hs : Sok s) :
    ∃ z s', mCal false false m_l_any_name [.p 0] [] (mCons (mLoc i) mNil) mNil ρ S = .ok (.im (.str z)) (S.set k (cel s')) ∧ Sok s' ∧ Asc z ∧ z.length ≤ 300 := by
  obtain ⟨z, s', e1, h⟩ := any_ok hs
  exact ⟨z, s', cal_eq (cons_eq (loc_eq hi) nil_eq) nil_eq (calE_rf (ds := []) hS e1), h⟩
end Tar

set_option autoImplicit false
namespace Tar
open PySem PySem.Spec L2
/-! fields and headers -/
theorem text_field_eq {l : List Nat} {w : Nat} (S : Sto) (h : Asc l) (hl : l.length ≤ 100000) (hw : w ≤ 100000) : m_text_field [.im (.str l), .im (.int w)] S = .ok (.im (.byt (fldL w l))) S := by
  have ht : (l.take w).length ≤ 100000 := by rw [List.length_take]; omega
  have hn : nnB (some (w : Int)) = true := by unfold nnB; rw [decide_eq_true_iff]; omega
  have hn2 : (nnB none && nnB (some (w : Int))) = true := by rw [hn]; rfl
  have e1 : mSl false (mOp false addD (mM0 false encD (mSl false (mLoc 0) oNo (oSome (mLoc 1)))) (mN false bytD (mCons (mLoc 1) mNil))) oNo (oSome (mLoc 1)) [some (.im (.str l)), some (.im (.int w))] S = .ok (.im (.byt (fldL w l))) S := by
    refine sl_eq (op_eq (m0_eq (sl_eq (loc_eq rfl) no_eq (some_eq (loc_eq rfl)) (o_slS hn2 (by omega))) (o_enc (fun c hc => h c (List.mem_of_mem_take hc)) (by rw [cutN_to]; omega))) (n_eq (cons_eq (loc_eq rfl) nil_eq) (o_bytN ⟨by omega, by omega⟩)) (o_addB ?_)) no_eq (some_eq (loc_eq rfl)) ((o_slB hn2 ?_).trans ?_)
    · rw [cutN_to, List.length_replicate]
      omega
    · rw [cutN_to, List.length_append, List.length_replicate]
      omega
    · rfl
  exact fn_ret (n := 2) rfl e1
theorem octal_field_eq {n w : Nat} (S : Sto) (hw : 0 < w) (hw2 : w ≤ 1000) (h : n < 8 ^ w) {j : Int} (hj : j = w + 1) : m_octal_field [.im (.int n), .im (.int j)] S = .ok (.im (.byt (octF w n))) S := by
  subst hj
  obtain ⟨h1, h2⟩ := octL_fill hw h
  have hz : 0 ≤ (w : Int) + 1 - 1 ∧ (w : Int) + 1 - 1 ≤ 1000 := by omega
  have hzf : zfL (octL n) (w + 1 - 1) = octD w n := by
    have := zfill_oct hw h
    unfold octS at this
    unfold zfL
    rw [show (w : Int) + 1 - 1 = w by omega, this]
  have e1 : mOp false addD (mM0 false encD (mM1 false zfD (mUn false octD1 (mLoc 0)) (mOp false subD (mLoc 1) (mC (.int 1))))) (mN false bytD (mCons (mC (.int 1)) mNil)) [some (.im (.int n)), some (.im (.int (w + 1)))] S = .ok (.im (.byt (octF w n))) S := by
    refine op_eq (m0_eq (m1_eq (un_eq (loc_eq rfl) (o_oct (by omega))) (op_eq (loc_eq rfl) c_eq o_subI) (o_zf hz hzf)) (o_enc (fun c hc => by have := octD_in w n c hc; omega) (by rw [octD_len]; omega))) (n_eq (cons_eq c_eq nil_eq) (o_bytN ⟨by decide, by decide⟩)) ((o_addB ?_).trans rfl)
    rw [octD_len, List.length_replicate]
    show w + 1 ≤ _
    omega
  exact fn_ret (n := 2) rfl e1
theorem sum_of_eq {l : List Nat} (S : Sto) (hl : l.length ≤ 100000) : m_sum_of [.im (.byt l)] S = .ok (.im (.int ((chkN l : Nat) : Int))) S := by
  have hc : (cutN l (some 148) (some 156)).length ≤ 100000 := Nat.le_trans (((List.drop_sublist _ _).trans (List.take_sublist _ _)).length_le) hl
  refine fn_ret (n := 1) (ρ := [some (.im (.byt l))]) rfl (op_eq (op_eq (n_eq (cons_eq (loc_eq rfl) nil_eq) (o_sumB (by omega))) (n_eq (cons_eq (sl_eq (loc_eq rfl) (some_eq c_eq) (some_eq c_eq) (o_slB rfl (by omega))) nil_eq) (o_sumB (by omega))) o_subI) (op_eq c_eq (n_eq (z := .im (.int 32)) (cons_eq c_eq nil_eq) rfl) (o_mulI (by decide))) (o_addI.trans ?_))
  have := cut_sum l (some 148) (some 156)
  congr 3
  unfold chkN
  omega
theorem magic_eq (S : Sto) : m_magic_field [] S = .ok (.im (.byt magicL)) S :=
  fn_ret (n := 0) (ρ := []) rfl (op_eq (op_eq (m0_eq c_eq (o_enc (by decide) (by decide))) (n_eq (cons_eq c_eq nil_eq) (o_bytN (by decide))) (o_addB (by decide))) c_eq ((o_addB (by decide)).trans rfl))
theorem checksum_field_eq {l : List Nat} (S : Sto) (h : Lt256 l) (hl : l.length = 512) : m_checksum_field [.im (.byt l)] S = .ok (.im (.byt (octF 6 (chkN l) ++ [32]))) S :=
  fn_ret (n := 1) (ρ := [some (.im (.byt l))]) rfl (op_eq (cal_eq (cons_eq (cal_eq (cons_eq (loc_eq rfl) nil_eq) nil_eq (calE_im (ds := [.byt l]) (sum_of_eq [] (by omega)))) (cons_eq c_eq nil_eq)) nil_eq (calE_im (ds := [.int ((chkN l : Nat) : Int), .int 7]) (octal_field_eq (w := 6) [] (by decide) (by decide) (chk_small h hl) rfl))) c_eq (o_addB (by rw [octF_len]; decide)))
theorem header_eq {k nm tg : List Nat} {mode size time : Nat} (S : Sto) (hk : k.length = 1) (ak : Asc k) (an : Asc nm) (at_ : Asc tg) (ln : nm.length ≤ 100000) (lt : tg.length ≤ 100000) (hm : mode < 8 ^ 7) (hs : size < 8 ^ 11) (ht : time < 8 ^ 11) :
    m_header [.im (.str k), .im (.str nm), .im (.int mode), .im (.int size), .im (.int time), .im (.str tg)] S = .ok (.im (.byt (hdr k nm mode size time tg))) S := by
  have oc : ∀ {ρ : Rho} {S : Sto} {e : ME} {n w : Nat} {j : Int}, e ρ S = .ok (.im (.int n)) S → 0 < w → w ≤ 1000 → n < 8 ^ w → j = w + 1 → mCal true false m_octal_field [.p 0, .p 1] [] (mCons e (mCons (mC (.int j)) mNil)) mNil ρ S = .ok (.im (.byt (octF w n))) S := fun {ρ S e n w j} he h1 h2 h3 h4 =>
    cal_eq (cons_eq he (cons_eq c_eq nil_eq)) nil_eq (calE_im (ds := [.int n, .int j]) (octal_field_eq [] h1 h2 h3 h4))
  have tx : ∀ {ρ : Rho} {S : Sto} {i : Nat} {l : List Nat}, ρ[i]? = some (some (.im (.str l))) → Asc l → l.length ≤ 100000 → mCal true false m_text_field [.p 0, .p 1] [] (mCons (mLoc i) (mCons (mC (.int 100)) mNil)) mNil ρ S = .ok (.im (.byt (fldL 100 l))) S := fun {ρ S i l} he h1 h2 =>
    cal_eq (cons_eq (loc_eq he) (cons_eq c_eq nil_eq)) nil_eq (calE_im (ds := [.str l, .int 100]) (text_field_eq (w := 100) [] h1 h2 (by decide)))
  have q : ∃ v S', fnM 8 b_header [.im (.str k), .im (.str nm), .im (.int mode), .im (.int size), .im (.int time), .im (.str tg)] S = .ok v S' ∧ v = .im (.byt (hdr k nm mode size time tg)) ∧ S' = S := by
    refine fn_ends [some (.im (.str k)), some (.im (.str nm)), some (.im (.int mode)), some (.im (.int size)), some (.im (.int time)), some (.im (.str tg)), none, none] rfl ?_
    refine sq_asg (op_eq (op_eq (op_eq (tx rfl an ln) (oc (w := 7) (loc_eq rfl) (by decide) (by decide) hm rfl) (o_addB ?_)) (oc (n := 0) (w := 7) c_eq (by decide) (by decide) (by decide) rfl) (o_addB ?_)) (oc (n := 0) (w := 7) c_eq (by decide) (by decide) (by decide) rfl) (o_addB ?_)) ?_
    · rw [fldL_len, octF_len]; decide
    · simp only [List.length_append, fldL_len, octF_len]; decide
    · simp only [List.length_append, fldL_len, octF_len]; decide
    refine sq_asg (op_eq (op_eq (loc_eq rfl) (oc (w := 11) (loc_eq rfl) (by decide) (by decide) hs rfl) (o_addB ?_)) (oc (w := 11) (loc_eq rfl) (by decide) (by decide) ht rfl) (o_addB ?_)) ?_
    · simp only [List.length_append, fldL_len, octF_len]; decide
    · simp only [List.length_append, fldL_len, octF_len]; decide
    refine sq_asg (op_eq (op_eq (op_eq (m0_eq (loc_eq rfl) (o_enc ak (by omega))) (tx rfl at_ lt) (o_addB ?_)) (cal_eq nil_eq nil_eq (calE_im (ds := []) (magic_eq []))) (o_addB ?_)) (n_eq (cons_eq c_eq nil_eq) (o_bytN (by decide))) (o_addB ?_)) ?_
    · rw [fldL_len]; omega
    · simp only [List.length_append, fldL_len, magicL, List.length_replicate, List.length_cons, List.length_nil]; omega
    · simp only [List.length_append, fldL_len, magicL, List.length_replicate, List.length_cons, List.length_nil]; omega
    have lF := hdrF_len nm mode size time
    have lB := hdrB_len (tg := tg) hk
    refine ends_ret (op_eq (op_eq (x := .im (.byt (hdrF nm mode size time))) (loc_eq rfl) (cal_eq (cons_eq (op_eq (op_eq (x := .im (.byt (hdrF nm mode size time))) (loc_eq rfl) (n_eq (cons_eq c_eq nil_eq) (o_bytN (by decide))) (o_addB ?_)) (y := .im (.byt (hdrB k tg))) (loc_eq rfl) (o_addB ?_)) nil_eq) nil_eq (calE_im (ds := [.byt (hdrF nm mode size time ++ List.replicate 8 0 ++ hdrB k tg)]) (checksum_field_eq [] ?_ ?_))) (o_addB ?_)) (y := .im (.byt (hdrB k tg))) (loc_eq rfl) (o_addB ?_)) ⟨_, _, rfl, rfl, rfl⟩
    · rw [lF, List.length_replicate]; decide
    · rw [List.length_append, lF, lB, List.length_replicate]; decide
    · exact (asc_app (asc_app (hdrF_asc _ _ _ an) (asc_zeros _)) (hdrB_asc ak at_)).lt
    · rw [List.length_append, List.length_append, lF, lB, List.length_replicate]
    · rw [List.length_append, lF, octF_len]; decide
    · rw [List.length_append, List.length_append, lF, lB, octF_len]; decide
  obtain ⟨v, S', e, rfl, rfl⟩ := q
  exact e
end Tar

set_option autoImplicit false
namespace Tar
open PySem PySem.Spec L2
/-! checksums, blobs, what the law works out -/
theorem checksum_eq {l : List Nat} (S : Sto) (hl : l.length = 512) : m_checksum [.im (.byt l)] S = .ok (.im (.int ((chkN l : Nat) : Int))) S := by
  have q : ∃ v S', fnM 1 b_checksum [.im (.byt l)] S = .ok v S' ∧ v = .im (.int ((chkN l : Nat) : Int)) ∧ S' = S := by
    refine fn_ends [some (.im (.byt l))] rfl ?_
    refine sq_f (orT_f (notT_eq (truB_eq (n_eq (cons_eq (loc_eq rfl) (cons_eq c_eq nil_eq)) (o_isi (r := true) rfl (by decide +kernel)))) rfl) (b_eq (op_eq (n_eq (cons_eq (loc_eq rfl) nil_eq) (o_lenB (by omega))) c_eq (o_neI.trans (by rw [hl]; rfl))))) ?_
    exact ends_ret (cal_eq (cons_eq (loc_eq rfl) nil_eq) nil_eq (calE_im (ds := [.byt l]) (sum_of_eq [] (by omega)))) ⟨_, _, rfl, rfl, rfl⟩
  obtain ⟨v, S', e, rfl, rfl⟩ := q
  exact e
theorem noBlock_raise {d : D} (S : Sto) : sRaise "NoBlock" ["thing"] (mCons (mLoc 0) mNil) [some (.im d)] S = .ex ⟨"NoBlock", [("thing", d)]⟩ [some (.im d)] S := by
  unfold sRaise
  rw [cons_eq (loc_eq (x := .im d) rfl) nil_eq]
  rfl
theorem checksum_ex {d : D} (S : Sto) (h : (∃ t, tyB d = some t ∧ isiB t "bytes" = false) ∨ ∃ l, d = .byt l ∧ l.length ≠ 512 ∧ l.length ≤ 16777216) : m_checksum [.im d] S = .ex ⟨"NoBlock", [("thing", d)]⟩ S := by
  have e : (mOrT (mNotT (mTru (mN false isiD (mCons (mLoc 0) (mCons (mC (.ty "bytes")) mNil))))) (mB (mOp false neD (mN false lenD (mCons (mLoc 0) mNil)) (mC (.int 512))))) [some (.im d)] S = .ok true S := by
    rcases h with ⟨t, h1, h2⟩ | ⟨l, rfl, h1, h2⟩
    · exact orT_t (notT_eq (truB_eq (n_eq (cons_eq (loc_eq rfl) (cons_eq c_eq nil_eq)) (o_isi (r := false) h1 (by rw [h2]; decide +kernel)))) rfl)
    · refine orT_f (notT_eq (truB_eq (n_eq (cons_eq (loc_eq rfl) (cons_eq c_eq nil_eq)) (o_isi (r := true) rfl (by decide +kernel)))) rfl) (b_eq (op_eq (n_eq (cons_eq (loc_eq rfl) nil_eq) (o_lenB h2)) c_eq (o_neI.trans ?_)))
      have : ((l.length : Int) == 512) = false := by rw [beq_eq_false_iff_ne]; omega
      rw [this]
      rfl
  unfold m_checksum fnM
  show (match sSeq (sIf _ _ sNop) _ [some (.im d)] S with | .nx _ S' => _ | .rt x S' => _ | .ex e _ S' => _ | _ => _) = _
  unfold sSeq sIf
  rw [e, toS_ok, if_pos rfl, noBlock_raise]
  rfl
theorem total_eq {l : List Nat} (S : Sto) : m_l_total [.im (.lst (nD l))] S = .ok (.im (.int ((chkN l : Nat) : Int))) S := by
  have hc : cutN (nD l) (some 148) (some 156) = nD (cutN l (some 148) (some 156)) := by
    unfold cutN nD
    simp [List.map_take, List.map_drop]
  refine fn_ret (n := 1) (ρ := [some (.im (.lst (nD l)))]) rfl (op_eq (op_eq (n_eq (cons_eq (loc_eq rfl) nil_eq) o_sumN) (n_eq (cons_eq (sl_eq (loc_eq rfl) (some_eq c_eq) (some_eq c_eq) ((o_slL rfl).trans (by rw [hc]))) nil_eq) o_sumN) o_subI) c_eq (o_addI.trans ?_))
  have := cut_sum l (some 148) (some 156)
  congr 3
  unfold chkN
  omega
theorem int_eq {i : Int} (S : Sto) : m_is_integer [.im (.int i)] S = .ok (.im (.bl true)) S :=
  fn_ret (n := 1) (ρ := [some (.im (.int i))]) rfl (and_t (n_eq (cons_eq (loc_eq rfl) (cons_eq c_eq nil_eq)) (o_isi (r := true) rfl (by decide +kernel))) (not_eq (n_eq (cons_eq (loc_eq rfl) (cons_eq c_eq nil_eq)) (o_isi (r := false) rfl (by decide +kernel))) rfl))
theorem within_eq {i a b : Int} (S : Sto) (h : a ≤ i ∧ i ≤ b) : m_is_within [.im (.int i), .im (.int a), .im (.int b)] S = .ok (.im (.bl true)) S :=
  fn_ret (n := 3) (ρ := [some (.im (.int i)), some (.im (.int a)), some (.im (.int b))]) rfl (and_t (cal_eq (cons_eq (loc_eq rfl) nil_eq) nil_eq (calE_im (ds := [.int i]) (int_eq []))) (chain_t (loc_eq rfl) (loc_eq rfl) (o_cmp (decide_eq_true h.1)) (loc_eq rfl) (o_cmp (decide_eq_true h.2))))
theorem bls_true : ∀ l : List D, blsD (l.map fun _ => .bl true) = some (l.map fun _ => true)
  | [] => rfl
  | d :: l => by
    show (blsD (l.map _)).map _ = _
    rw [bls_true l]
    rfl
theorem o_allT {mu : Bool} {S : Sto} (l : List D) : onN mu allD [.im (.lst (l.map fun _ => .bl true))] S = .ok (.im (.bl true)) S := by
  have h : (l.map fun _ => true).all id = true := by
    rw [List.all_eq_true]
    intro b hb
    obtain ⟨_, _, rfl⟩ := List.mem_map.mp hb
    rfl
  simp only [onN, vws, vw, allD, bls_true, Option.map_some, ofO, fin, h]
theorem blob_eq {l : List Nat} (S : Sto) (h : Lt256 l) (hl : l.length ≤ 100000) : m_blob [.im (.lst (nD l))] S = .ok (.im (.byt l)) S := by
  have q : ∃ v S', fnM 2 b_blob [.im (.lst (nD l))] S = .ok v S' ∧ v = .im (.byt l) ∧ S' = S := by
    refine fn_ends [some (.im (.lst (nD l))), none] rfl ?_
    refine sq_f (orT_f (notT_eq (truB_eq (n_eq (cons_eq (loc_eq rfl) (cons_eq (x := .im (.tup [.ty "list", .ty "tuple"])) (S1 := S) rfl nil_eq)) (o_isiT (r := true) rfl (ns := ["list", "tuple"]) (by decide +kernel) (by decide +kernel)))) rfl)
      (notT_eq (b := true) (truB_eq (n_eq (cons_eq (comp_eq (f := fun _ => .bl true) (iter_eq (loc_eq rfl) rfl) (by rw [List.length_map]; omega) (fun d hd => ?_)) nil_eq) (o_allT _))) rfl)) ?_
    · obtain ⟨c, hc, rfl⟩ := List.mem_map.mp hd
      have := h c hc
      exact ⟨_, rfl, rfl, cal_eq (cons_eq (loc_eq rfl) (cons_eq c_eq (cons_eq c_eq nil_eq))) nil_eq (calE_im (ds := [.int c, .int 0, .int 255]) (within_eq [] ⟨by omega, by omega⟩))⟩
    · exact ends_ret (n_eq (cons_eq (loc_eq rfl) nil_eq) (o_bytL h)) ⟨_, _, rfl, rfl, rfl⟩
  obtain ⟨v, S', e, rfl, rfl⟩ := q
  exact e
theorem codes_eq {l : List Nat} (S : Sto) (hl : l.length ≤ 100000) : m_l_codes [.im (.str l)] S = .ok (.im (.lst (nD l))) S := by
  refine fn_ret (n := 2) (ρ := [some (.im (.str l)), none]) rfl ((comp_eq (f := fun d => match d with | .str [c] => .int c | _ => .non) (iter_eq (loc_eq rfl) rfl) (by rw [List.length_map]; omega) (fun d hd => ?_)).trans ?_)
  · obtain ⟨c, hc, rfl⟩ := List.mem_map.mp hd
    exact ⟨_, rfl, rfl, n_eq (cons_eq (loc_eq rfl) nil_eq) rfl⟩
  · rw [List.map_map]
    rfl
theorem nD_app (a b : List Nat) : nD a ++ nD b = nD (a ++ b) := (List.map_append ..).symm
theorem nD_len (l : List Nat) : (nD l).length = l.length := List.length_map ..
theorem octal_eq {n w : Nat} (hw : w ≤ 1000) {j : Int} (hj : j = w + 1) : ∃ S', m_l_octal [.im (.int n), .im (.int j)] [] = .ok (.im (.lst (nD (octF w n)))) S' := by
  subst hj
  have q : ∃ v S', fnM 4 b_l_octal [.im (.int n), .im (.int (w + 1))] [] = .ok v S' ∧ v = .im (.lst (nD (octF w n))) := by
    refine fn_ends [some (.im (.int n)), some (.im (.int (w + 1))), none, none] rfl ?_
    refine sq_asg (x := .rf 0) (S1 := [.lst []]) (cells_eq (ds := []) nil_eq) ?_
    obtain ⟨ρ2, S2, e2, x, rfl, rfl⟩ := forR (i := 3) (n := w) (b := (sSeq (sExp (mApp (mLoc 2) (mOp false addD (mC (.int 48)) (mOp false modD (mN false intD (mCons (mLoc 0) mNil)) (mC (.int 8))))))
    (sAsg (mOp false divD (mLoc 0) (mC (.int 8))) (gN 0)))) (Inv := fun j ρ S => ∃ x, ρ = [some (.im (.int ((n / 8 ^ j : Nat) : Int))), some (.im (.int (w + 1))), some (.rf 0), x] ∧ S = [.lst (nD (octD j n).reverse)])
      ⟨none, by rw [Nat.pow_zero, Nat.div_one], rfl⟩ (fun j hj ρ S ⟨x, e1, e2⟩ => by
        subst e1 e2
        have hl : (nD (octD j n).reverse).length < 16777216 := by rw [nD_len, List.length_reverse, octD_len]; omega
        have e3 : nD (octD (j + 1) n).reverse = nD (octD j n).reverse ++ [.int (48 + ((n / 8 ^ j : Nat) : Int) % 8)] := by
          rw [octD_front, List.reverse_cons, ← nD_app]
          congr 1
        refine ⟨_, _, ?_, some (.im (.int j)), rfl, rfl⟩
        rw [e3, show ((n / 8 ^ (j + 1) : Nat) : Int) = ((n / 8 ^ j : Nat) : Int) / 8 by rw [Nat.pow_succ, ← Nat.div_div_eq_div_mul]; rfl]
        generalize nD (octD j n).reverse = q at *
        generalize ((n / 8 ^ j : Nat) : Int) = r at *
        simp [fnM, sRet, sRetN, sExp, sIf, sAsg, sNop, sSeq, mLoc, mC, mOp, mUn, mN, mNil, mCons, mIf, mTup, mLst, stiff, stiffs, fin, ofO, on1, on2, onN, vw, vws, Cell.view, gN, gPut, mTru, mAndT, mOrT, mNotT, mAnd, mOr, mNot, mB, mChain, tru, truD, mSl, oNo, oSome, mCal, calE, callB, refsOf, getB, putB, ren, backV, gI, gO, mRng1, mRng2, mIter, itemsD, sFor, mM0, mM1, mApp, addD, subD, mulD, divD, modD, powD, negD, cmpD, ixD, lenD, absD, minD, maxD, intD, ordD, ixN, sExp, hl])
    refine sq_for (rng1_eq (op_eq (loc_eq rfl) c_eq o_subI) (by omega) (by omega)) e2 ?_
    refine ends_ret (op_eq (un_eq (loc_eq rfl) (z := .im (.lst (nD (octD w n)))) (S2 := [.lst (nD (octD w n).reverse)]) ?_) (lst_eq (ds := [.int 0]) (cons_eq c_eq nil_eq)) (o_addL ?_)) ⟨_, _, rfl, ?_⟩
    · simp only [on1, vw, Cell.view, List.getElem?_cons_zero, Option.map_some, revD, ofO, fin]
      rw [← List.map_reverse, List.reverse_reverse]
      rfl
    · rw [nD_len, octD_len]
      show w + 1 ≤ _
      omega
    · exact congrArg (fun z => Vl.im (.lst z)) (nD_app (octD w n) [0])
  obtain ⟨v, S', e, rfl⟩ := q
  exact ⟨S', e⟩
theorem fld_take (w : Nat) (l : List Nat) : (l ++ List.replicate w 0).take w = fldL w l := by
  unfold fldL
  rw [cutN_to, cutN_to]
  by_cases h : w ≤ l.length
  · rw [List.take_append_of_le_length h, List.take_append_of_le_length (by rw [List.length_take]; omega), List.take_take, Nat.min_self]
  · rw [List.take_of_length_le (show l.length ≤ w by omega)]
theorem zer100 (n : Nat) : (List.replicate n [D.int 0]).flatten = nD (List.replicate n 0) := by
  rw [flat1, nD, List.map_replicate]
  rfl
theorem head_eq {k nm tg : List Nat} {mode size time : Nat} {d : D} (hk : k.length = 1) (ln : nm.length ≤ 1000) (lt : tg.length ≤ 1000)
    (d0 : ixD d (.int 0) = some (.v (.int mode))) (d1 : ixD d (.int 1) = some (.v (.int size))) (d2 : ixD d (.int 2) = some (.v (.int time))) :
    m_l_head [.im (.str k), .im (.str nm), .im d, .im (.str tg)] [] = .ok (.im (.lst (nD (hdr k nm mode size time tg)))) [] := by
  have oc : ∀ {ρ : Rho} {S : Sto} {e : ME} {n w : Nat} {j : Int}, e ρ S = .ok (.im (.int n)) S → w ≤ 1000 → j = w + 1 → mCal true false m_l_octal [.p 0, .p 1] [] (mCons e (mCons (mC (.int j)) mNil)) mNil ρ S = .ok (.im (.lst (nD (octF w n)))) S := fun {ρ S e n w j} he h1 h2 => by
    obtain ⟨S', h⟩ := octal_eq (n := n) h1 h2
    exact cal_eq (cons_eq he (cons_eq c_eq nil_eq)) nil_eq (calE_im (ds := [.int n, .int j]) h)
  have cd : ∀ {ρ : Rho} {S : Sto} {e : ME} {l : List Nat}, e ρ S = .ok (.im (.str l)) S → l.length ≤ 100000 → mCal true false m_l_codes [.p 0] [] (mCons e mNil) mNil ρ S = .ok (.im (.lst (nD l))) S := fun {ρ S e l} he h =>
    cal_eq (cons_eq he nil_eq) nil_eq (calE_im (ds := [.str l]) (codes_eq [] h))
  have fl : ∀ {ρ : Rho} {S : Sto} {e : ME} {l : List Nat}, e ρ S = .ok (.im (.str l)) S → l.length ≤ 100000 → mSl false (mOp false addD (mCal true false m_l_codes [.p 0] [] (mCons e mNil) mNil) (mOp false mulD (mLst false (mCons (mC (.int 0)) mNil)) (mC (.int 100)))) oNo (oSome (mC (.int 100))) ρ S = .ok (.im (.lst (nD (fldL 100 l)))) S := fun {ρ S e l} he h => by
    refine sl_eq (op_eq (cd he h) (op_eq (lst_eq (ds := [.int 0]) (cons_eq c_eq nil_eq)) c_eq ((o_mulL (by decide)).trans (by rw [zer100]))) ((o_addL ?_).trans (by rw [nD_app]))) no_eq (some_eq c_eq) ((o_slL rfl).trans ?_)
    · rw [nD_len, nD_len, List.length_replicate]
      show _ + 100 ≤ _
      omega
    · show R.ok (Vl.im (D.lst ((nD (l ++ List.replicate 100 0)).take 100))) S = _
      rw [← fld_take]
      exact congrArg (fun z => R.ok (Vl.im (D.lst z)) S) (List.map_take ..).symm
  have ix : ∀ {ρ : Rho} {S : Sto} {i : Int} {n : Nat}, ρ[2]? = some (some (.im d)) → ixD d (.int i) = some (.v (.int n)) → mOp false ixD (mLoc 2) (mC (.int i)) ρ S = .ok (.im (.int n)) S := fun {ρ S i n} h1 h2 =>
    op_eq (loc_eq h1) c_eq (by simp only [on2, vw, h2, ofO, fin])
  have q : ∃ v S', fnM 6 b_l_head [.im (.str k), .im (.str nm), .im d, .im (.str tg)] [] = .ok v S' ∧ v = .im (.lst (nD (hdr k nm mode size time tg))) ∧ S' = [] := by
    refine fn_ends [some (.im (.str k)), some (.im (.str nm)), some (.im d), some (.im (.str tg)), none, none] rfl ?_
    refine sq_asg (op_eq (op_eq (op_eq (fl (loc_eq rfl) (by omega)) (oc (w := 7) (ix rfl d0) (by decide) rfl) ((o_addL ?_).trans (by rw [nD_app]))) (oc (n := 0) (w := 7) c_eq (by decide) rfl) ((o_addL ?_).trans (by rw [nD_app]))) (oc (n := 0) (w := 7) c_eq (by decide) rfl) ((o_addL ?_).trans (by rw [nD_app]))) ?_
    · rw [nD_len, nD_len, fldL_len, octF_len]; decide
    · simp only [nD_len, List.length_append, fldL_len, octF_len]; decide
    · simp only [nD_len, List.length_append, fldL_len, octF_len]; decide
    refine sq_asg (op_eq (op_eq (loc_eq rfl) (oc (w := 11) (ix rfl d1) (by decide) rfl) ((o_addL ?_).trans (by rw [nD_app]))) (oc (w := 11) (ix rfl d2) (by decide) rfl) ((o_addL ?_).trans (by rw [nD_app]))) ?_
    · simp only [nD_len, List.length_append, fldL_len, octF_len]; decide
    · simp only [nD_len, List.length_append, fldL_len, octF_len]; decide
    refine sq_asg (op_eq (op_eq (op_eq (op_eq (cd (loc_eq rfl) (by omega)) (fl (loc_eq rfl) (by omega)) ((o_addL ?_).trans (by rw [nD_app]))) (cd (l := [117, 115, 116, 97, 114]) c_eq (by decide)) ((o_addL ?_).trans (by rw [nD_app]))) (lst_eq (ds := nD [0, 48, 48]) (cons_eq c_eq (cons_eq c_eq (cons_eq c_eq nil_eq)))) ((o_addL ?_).trans (by rw [nD_app]))) (op_eq (lst_eq (ds := [.int 0]) (cons_eq c_eq nil_eq)) c_eq ((o_mulL (by decide)).trans (by rw [zer100]))) ((o_addL ?_).trans (by rw [nD_app]))) ?_
    · simp only [nD_len, List.length_append, fldL_len, octF_len]; omega
    · simp only [nD_len, List.length_append, fldL_len, octF_len, List.length_cons, List.length_nil]; omega
    · simp only [nD_len, List.length_append, fldL_len, octF_len, List.length_cons, List.length_nil]; omega
    · simp only [nD_len, List.length_append, fldL_len, octF_len, List.length_cons, List.length_nil, List.length_replicate]
      show _ + 247 ≤ _
      omega
    have lF := hdrF_len nm mode size time
    have lB := hdrB_len (tg := tg) hk
    have eB : k ++ fldL 100 tg ++ [117, 115, 116, 97, 114] ++ [0, 48, 48] ++ List.replicate (247 : Int).toNat 0 = hdrB k tg := by
      unfold hdrB magicL
      simp only [List.append_assoc]
      rfl
    rw [eB]
    have eF : fldL 100 nm ++ octF 7 mode ++ octF 7 0 ++ octF 7 0 ++ octF 11 size ++ octF 11 time = hdrF nm mode size time := rfl
    rw [eF]
    refine ends_ret (op_eq (op_eq (op_eq (loc_eq rfl) (oc (n := (hdrF nm mode size time).sum + (hdrB k tg).sum + 256) (w := 6) (op_eq (op_eq (n_eq (cons_eq (loc_eq rfl) nil_eq) o_sumN) (n_eq (cons_eq (loc_eq rfl) nil_eq) o_sumN) o_addI) c_eq (o_addI.trans rfl)) (by decide) rfl) ((o_addL ?_).trans (by rw [nD_app]))) (lst_eq (ds := nD [32]) (cons_eq c_eq nil_eq)) ((o_addL ?_).trans (by rw [nD_app]))) (loc_eq rfl) ((o_addL ?_).trans (by rw [nD_app]))) ⟨_, _, rfl, ?_, rfl⟩
    · simp only [nD_len, lF, octF_len]; decide
    · simp only [nD_len, List.length_append, lF, octF_len]; decide
    · simp only [nD_len, List.length_append, lF, lB, octF_len]; decide
    · unfold hdr
      rw [chk_front lF]
      simp only [List.append_assoc]
  obtain ⟨v, S', e, rfl, rfl⟩ := q
  exact e
theorem refused_eq {d : D} {z : List Nat} (S : Sto) (h : m_checksum [.im d] [] = .ex ⟨"NoBlock", [("thing", d)]⟩ []) (hz : repL d = some z) : m_l_refused [.im d] S = .ok (.im (.bl true)) S := by
  have e1 : mCal true false m_checksum [.p 0] [] (mCons (mLoc 0) mNil) mNil [some (.im d), none, none] S = .ex ⟨"NoBlock", [("thing", d)]⟩ S := by
    unfold mCal
    rw [cons_eq (loc_eq (x := .im d) rfl) nil_eq, bind_ok, nil_eq, bind_ok]
    exact calE_ex (ds := [d]) h
  have er : ∀ {ρ : Rho} {S : Sto} {e : ME}, e ρ S = .ok (.im d) S → mN false repD (mCons e mNil) ρ S = .ok (.im (.str z)) S := fun he => n_eq (cons_eq he nil_eq) (by simp only [onN, vws, vw, repD, hz, Option.map_some, ofO, fin])
  have q : ∃ v S', fnM 3 b_l_refused [.im d] S = .ok v S' ∧ v = .im (.bl true) ∧ S' = S := by
    refine fn_ends [some (.im d), none, none] rfl ?_
    refine sq_rt (v := .im (.bl true)) (S1 := S) ?_ ⟨_, _, rfl, rfl, rfl⟩
    refine tryAs_eq (S1 := S) (fs := [("thing", d)]) (ρ1 := [some (.im d), none, none]) (by unfold sExp; rw [e1]; rfl) (by decide +kernel) (fun k => ?_)
    have e2 : Ends' (sSeq (sAsg (mAnd (mIsX k 1 "NoBlock" (mC (.ty "TypeError"))) (mNot (mIsX k 1 "NoBlock" (mTup (mCons (mC (.own "NoBlob")) (mCons (mC (.own "NoData")) (mCons (mC (.own "NoMember")) mNil))))))) (gN 2))
    (sRet (mAnd (mLoc 2) (mOp false eqD (mN false repD (mCons (mXf k 1 "NoBlock" ["thing"] "thing") mNil)) (mN false repD (mCons (mLoc 0) mNil))))) [some (.im d), some (.im (.exn k "NoBlock" [("thing", d)])), none] S) fun r => r = .rt (.im (.bl true)) S := by
      refine sq_asg (and_t (isX_eq rfl c_eq (r := true) (by decide +kernel)) (not_eq (isX_eq rfl (tup_eq (ds := [.own "NoBlob", .own "NoData", .own "NoMember"]) (cons_eq c_eq (cons_eq c_eq (cons_eq c_eq nil_eq)))) (r := false) (by decide +kernel)) rfl)) ?_
      refine ends_ret (and_t (loc_eq rfl) (op_eq (er (xf_eq rfl rfl rfl)) (er (loc_eq rfl)) (o_eqS.trans (by rw [beq_self_eq_true])))) rfl
    exact e2
  obtain ⟨v, S', e, rfl, rfl⟩ := q
  exact e
end Tar

set_option autoImplicit false
namespace Tar
open PySem PySem.Spec L2
/-! the law -/
noncomputable abbrev b_turn : MS :=
      (sSeq (sAsg (mOp false ixD (mC (.str [48, 83, 53, 50, 49, 75, 76])) (mCal false false m_l_draw [.p 0, .p 1] [] (mCons (mLoc 2) (mCons (mC (.int 7)) mNil)) mNil)) (gN 4))
      (sSeq (sAsg (mLst false (mCons (mC (.str [])) (mCons (mC (.str [46, 47, 46, 47, 64, 76, 111, 110, 103, 76, 105, 110, 107])) (mCons (mSl false (mCal false false m_l_any_name [.p 0] [] (mCons (mLoc 2) mNil) mNil) oNo (oSome (mC (.int 150)))) (mCons (mSl false (mCal false false m_l_any_name [.p 0] [] (mCons (mLoc 2) mNil) mNil) oNo (oSome (mC (.int 150)))) mNil))))) (gN 5))
      (sSeq (sAsg (mOp false ixD (mLoc 5) (mCal false false m_l_draw [.p 0, .p 1] [] (mCons (mLoc 2) (mCons (mC (.int 4)) mNil)) mNil)) (gN 6))
      (sSeq (sAsg (mOp false ixD (mLst false (mCons (mOp false ixD (mLoc 5) (mC (.int 0))) (mCons (mOp false ixD (mLoc 5) (mC (.int 3))) mNil))) (mCal false false m_l_draw [.p 0, .p 1] [] (mCons (mLoc 2) (mCons (mC (.int 2)) mNil)) mNil)) (gN 7))
      (sSeq (sAsg (mLst true (mCons (mOp false ixD (mLst false (mCons (mC (.int 0)) (mCons (mC (.int 511)) (mCons (mC (.int 4095)) (mCons (mOp false subD (mOp false powD (mC (.int 8)) (mC (.int 7))) (mC (.int 1))) mNil))))) (mCal false false m_l_draw [.p 0, .p 1] [] (mCons (mLoc 2) (mCons (mC (.int 4)) mNil)) mNil)) (mCons (mCal false false m_l_draw [.p 0, .p 1] [] (mCons (mLoc 2) (mCons (mOp false powD (mC (.int 8)) (mC (.int 11))) mNil)) mNil) (mCons (mOp false subD (mOp false powD (mC (.int 8)) (mC (.int 11))) (mC (.int 1))) mNil)))) (gN 8))
      (sSeq (sAsg (mOp false ixD (mLst false (mCons (mC (.int 0)) (mCons (mOp false subD (mOp false powD (mC (.int 8)) (mC (.int 11))) (mC (.int 1))) (mCons (mCal false false m_l_draw [.p 0, .p 1] [] (mCons (mLoc 2) (mCons (mOp false powD (mC (.int 8)) (mC (.int 11))) mNil)) mNil) mNil)))) (mCal false false m_l_draw [.p 0, .p 1] [] (mCons (mLoc 2) (mCons (mC (.int 3)) mNil)) mNil)) (gPut (mLoc 8) (mC (.int 2))))
      (sSeq (sAsg (mCal true false m_l_head [.p 0, .p 1, .p 2, .p 3] [] (mCons (mLoc 4) (mCons (mLoc 6) (mCons (mLoc 8) (mCons (mLoc 7) mNil)))) mNil) (gN 9))
      (sSeq (sAsg (mCal true false m_header [.p 0, .p 1, .k 0, .k 1, .k 2, .k 3] [] (mCons (mLoc 4) (mCons (mLoc 6) mNil)) (mCons (mOp false ixD (mLoc 8) (mC (.int 0))) (mCons (mOp false ixD (mLoc 8) (mC (.int 1))) (mCons (mOp false ixD (mLoc 8) (mC (.int 2))) (mCons (mLoc 7) mNil))))) (gN 10))
      (sSeq (sIf (mOrT (mB (mOp false neD (mN false lstD (mCons (mLoc 10) mNil)) (mLoc 9))) (mB (mOp false neD (mSl false (mN false lstD (mCons (mCal true false m_header [.k 2, .k 1, .d 0, .d 1, .d 2, .k 0] [(.int 0), (.int 0), (.int 0)] mNil (mCons (mLoc 7) (mCons (mLoc 6) (mCons (mLoc 4) mNil)))) mNil)) oNo (oSome (mC (.int 100)))) (mSl false (mLoc 9) oNo (oSome (mC (.int 100)))))))
        (sRet (mC (.bl false)))
        sNop)
      (sSeq (sIf (mOrT (mB (mOp false neD (mCal true false m_checksum [.p 0] [] (mCons (mLoc 10) mNil) mNil) (mCal true false m_l_total [.p 0] [] (mCons (mLoc 9) mNil) mNil))) (mB (mOp false neD (mCal true false m_checksum [.k 0] [] mNil (mCons (mLoc 10) mNil)) (mCal true false m_checksum [.p 0] [] (mCons (mLoc 10) mNil) mNil))))
        (sRet (mC (.bl false)))
        sNop)
      (sSeq (sAsg (mCal false false m_l_draw [.p 0, .p 1] [] (mCons (mLoc 2) (mCons (mC (.int 512)) mNil)) mNil) (gN 11))
      (sSeq (sAsg (mOp false addD (mOp false addD (mSl false (mLoc 9) oNo (oSome (mLoc 11))) (mLst false (mCons (mCal false false m_l_draw [.p 0, .p 1] [] (mCons (mLoc 2) (mCons (mC (.int 256)) mNil)) mNil) mNil))) (mSl false (mLoc 9) (oSome (mOp false addD (mLoc 11) (mC (.int 1)))) oNo)) (gN 12))
      (sSeq (sIf (mB (mOp false neD (mCal true false m_checksum [.p 0] [] (mCons (mCal true false m_blob [.p 0] [] (mCons (mLoc 12) mNil) mNil) mNil) mNil) (mCal true false m_l_total [.p 0] [] (mCons (mLoc 12) mNil) mNil)))
        (sRet (mC (.bl false)))
        sNop)
      (sSeq (sAsg (mOp false ixD (mLst false (mCons (mC .non) (mCons (mLoc 9) (mCons (mOp false mulD (mC (.str [97])) (mC (.int 512))) (mCons (mCal true false m_blob [.p 0] [] (mCons (mSl false (mLoc 9) oNo (oSome (mC (.int 511)))) mNil) mNil) (mCons (mCal true false m_blob [.p 0] [] (mCons (mOp false addD (mLoc 9) (mLst false (mCons (mC (.int 0)) mNil))) mNil) mNil) (mCons (mCal true false m_blob [.p 0] [] (mCons (mLst false mNil) mNil) mNil) (mCons (mC (.int 512)) mNil)))))))) (mCal false false m_l_draw [.p 0, .p 1] [] (mCons (mLoc 2) (mCons (mC (.int 7)) mNil)) mNil)) (gN 13))
      (sIf (mNotT (mTru (mCal true false m_l_refused [.p 0] [] (mCons (mLoc 13) mNil) mNil)))
        (sRet (mC (.bl false)))
        sNop)))))))))))))))
theorem draw_x {ρ : Rho} {S : Sto} {i c : Nat} {s : Src} {n : Int} {e : ME} (hi : ρ[i]? = some (some (.rf c))) (hS : S[c]? = some (cel s)) (hs : Sok s) (he : e ρ S = .ok (.im (.int n)) S) (h0 : 0 < n) (h1 : n < 18446744073709551616) :
    ∃ v s' S', mCal false false m_l_draw [.p 0, .p 1] [] (mCons (mLoc i) (mCons e mNil)) mNil ρ S = .ok (.im (.int v)) S' ∧ (0 ≤ v ∧ v < n) ∧ S'[c]? = some (cel s') ∧ Sok s' ∧ Fr c S S' ∧ S'.length = S.length :=
  ⟨_, _, _, draw_at hi hS hs he h0 h1, drv_in h0, set_at hS, drw_ok hs, Fr.set, List.length_set⟩
theorem any_x {ρ : Rho} {S : Sto} {i c : Nat} {s : Src} (hi : ρ[i]? = some (some (.rf c))) (hS : S[c]? = some (cel s)) (hs : Sok s) :
    ∃ z s' S', mCal false false m_l_any_name [.p 0] [] (mCons (mLoc i) mNil) mNil ρ S = .ok (.im (.str z)) S' ∧ S'[c]? = some (cel s') ∧ Sok s' ∧ Fr c S S' ∧ S'.length = S.length ∧ Asc z ∧ z.length ≤ 300 := by
  obtain ⟨z, s', e, h1, h2, h3⟩ := any_at hi hS hs
  exact ⟨z, s', _, e, set_at hS, h1, Fr.set, List.length_set, h2, h3⟩
theorem cut_nD (l : List Nat) (lo hi : Option Int) : cutN (nD l) lo hi = nD (cutN l lo hi) := by
  unfold cutN nD
  simp [List.map_take, List.map_drop]
theorem hdr_100 {k nm tg k' tg' : List Nat} {a b c a' b' c' : Nat} : cutN (hdr k nm a b c tg) none (some 100) = cutN (hdr k' nm a' b' c' tg') none (some 100) := by
  have h : ∀ (k nm tg : List Nat) (a b c : Nat), (hdr k nm a b c tg).take 100 = fldL 100 nm := fun k nm tg a b c => by
    unfold hdr hdrF
    simp only [List.append_assoc]
    rw [List.take_append_of_le_length (by rw [fldL_len]; decide)]
    exact List.take_of_length_le (by rw [fldL_len]; decide)
  show (hdr k nm a b c tg).take 100 = (hdr k' nm a' b' c' tg').take 100
  rw [h, h]
theorem p811 {ρ : Rho} {S : Sto} : mOp false powD (mC (.int 8)) (mC (.int 11)) ρ S = .ok (.im (.int 8589934592)) S := by simp [fnM, sRet, sRetN, sExp, sIf, sAsg, sNop, sSeq, mLoc, mC, mOp, mUn, mN, mNil, mCons, mIf, mTup, mLst, stiff, stiffs, fin, ofO, on1, on2, onN, vw, vws, Cell.view, gN, gPut, mTru, mAndT, mOrT, mNotT, mAnd, mOr, mNot, mB, mChain, tru, truD, mSl, oNo, oSome, mCal, calE, callB, refsOf, getB, putB, ren, backV, gI, gO, mRng1, mRng2, mIter, itemsD, sFor, mM0, mM1, mApp, addD, subD, mulD, divD, modD, powD, negD, cmpD, ixD, lenD, absD, minD, maxD, intD, ordD, ixN]
theorem p87 {ρ : Rho} {S : Sto} : mOp false powD (mC (.int 8)) (mC (.int 7)) ρ S = .ok (.im (.int 2097152)) S := by simp [fnM, sRet, sRetN, sExp, sIf, sAsg, sNop, sSeq, mLoc, mC, mOp, mUn, mN, mNil, mCons, mIf, mTup, mLst, stiff, stiffs, fin, ofO, on1, on2, onN, vw, vws, Cell.view, gN, gPut, mTru, mAndT, mOrT, mNotT, mAnd, mOr, mNot, mB, mChain, tru, truD, mSl, oNo, oSome, mCal, calE, callB, refsOf, getB, putB, ren, backV, gI, gO, mRng1, mRng2, mIter, itemsD, sFor, mM0, mM1, mApp, addD, subD, mulD, divD, modD, powD, negD, cmpD, ixD, lenD, absD, minD, maxD, intD, ordD, ixN]
theorem put_eq {e : ME} {ρ : Rho} {S S1 : Sto} {d : D} {i n m : Nat} {j : Int} {ys : List D} (he : e ρ S = .ok (.im d) S1) (hi : ρ[i]? = some (some (.rf n))) (hc : S1[n]? = some (.lst ys)) (hj : ixN ys.length j = some m) : sAsg e (gPut (mLoc i) (mC (.int j))) ρ S = .nx ρ (S1.set n (.lst (ys.set m d))) := by
  unfold sAsg
  rw [he, toS_ok]
  unfold gPut
  rw [loc_eq hi]
  simp only [mC, stiff, hc, hj]
theorem asc_take {n : Nat} {z : List Nat} (h : Asc z) : Asc (cutN z none (some (n : Int))) := fun c hc => h c (List.mem_of_mem_take (by rw [cutN_to] at hc; exact hc))
abbrev R15 (a b : D) (c : Nat) (x3 x4 x5 x6 x7 x8 x9 x10 x11 x12 x13 x14 : Option Vl) : Rho := [some (.im a), some (.im b), some (.rf c), x3, x4, x5, x6, x7, x8, x9, x10, x11, x12, x13, x14]
theorem turn_ok {a b : D} {c : Nat} {s : Src} {S : Sto} (x3 x4 x5 x6 x7 x8 x9 x10 x11 x12 x13 x14 : Option Vl) (hS : S[c]? = some (cel s)) (hs : Sok s) :
    Ends' (b_turn (R15 a b c x3 x4 x5 x6 x7 x8 x9 x10 x11 x12 x13 x14) S) fun r => ∃ S' s' y3 y4 y5 y6 y7 y8 y9 y10 y11 y12 y13 y14, r = .nx (R15 a b c y3 y4 y5 y6 y7 y8 y9 y10 y11 y12 y13 y14) S' ∧ S'[c]? = some (cel s') ∧ Sok s' := by
  -- letter
  obtain ⟨v, s1, S1, e, hv, hS1, hs1, -, -⟩ := draw_x (ρ := R15 a b c x3 x4 x5 x6 x7 x8 x9 x10 x11 x12 x13 x14) (e := mC (.int 7)) (i := 2) (n := 7) rfl hS hs rfl (by decide) (by decide)
  obtain ⟨lc, hlc, e⟩ := pickS_ok (a := mC (.str [48, 83, 53, 50, 49, 75, 76])) c_eq (by decide) e hv
  have hlc2 : Asc [lc] := fun d hd => by
    rw [List.mem_singleton.mp hd]
    exact (by decide : ∀ d ∈ [48, 83, 53, 50, 49, 75, 76], d < 128) lc hlc
  refine sq_asg e ?_
  clear e hS hs
  -- some names
  obtain ⟨z1, s2, S2, e1, hS2, hs2, -, -, ha1, hz1⟩ := any_x (ρ := R15 a b c x3 (some (.im (.str [lc]))) x5 x6 x7 x8 x9 x10 x11 x12 x13 x14) (i := 2) rfl hS1 hs1
  obtain ⟨z2, s3, S3, e2, hS3, hs3, -, -, ha2, hz2⟩ := any_x (ρ := R15 a b c x3 (some (.im (.str [lc]))) x5 x6 x7 x8 x9 x10 x11 x12 x13 x14) (i := 2) rfl hS2 hs2
  refine sq_asg (lst_eq (ds := [.str [], .str [46, 47, 46, 47, 64, 76, 111, 110, 103, 76, 105, 110, 107], .str (cutN z1 none (some 150)), .str (cutN z2 none (some 150))]) (cons_eq c_eq (cons_eq c_eq (cons_eq (sl_eq e1 no_eq (some_eq c_eq) (o_slS rfl (by omega))) (cons_eq (sl_eq e2 no_eq (some_eq c_eq) (o_slS rfl (by omega))) nil_eq))))) ?_
  have w1 : Asc (cutN z1 none (some 150)) ∧ (cutN z1 none (some 150)).length ≤ 150 := ⟨asc_take (n := 150) ha1, by show (z1.take 150).length ≤ 150; rw [List.length_take]; omega⟩
  have w2 : Asc (cutN z2 none (some 150)) ∧ (cutN z2 none (some 150)).length ≤ 150 := ⟨asc_take (n := 150) ha2, by show (z2.take 150).length ≤ 150; rw [List.length_take]; omega⟩
  generalize cutN z1 none (some 150) = n1 at *
  generalize cutN z2 none (some 150) = n2 at *
  clear e1 e2 hS1 hS2 hs1 hs2 ha1 ha2 hz1 hz2
  -- text
  obtain ⟨v, s4, S4, e, hv, hS4, hs4, -, -⟩ := draw_x (ρ := R15 a b c x3 (some (.im (.str [lc]))) (some (.im (.lst [.str [], .str [46, 47, 46, 47, 64, 76, 111, 110, 103, 76, 105, 110, 107], .str n1, .str n2]))) x6 x7 x8 x9 x10 x11 x12 x13 x14) (e := mC (.int 4)) (i := 2) (n := 4) rfl hS3 hs3 rfl (by decide) (by decide)
  obtain ⟨d, hd, e⟩ := pick_ok (a := mLoc 5) (loc_eq rfl) e hv
  have hd2 : ∃ t, d = .str t ∧ Asc t ∧ t.length ≤ 150 := by
    simp only [List.mem_cons, List.not_mem_nil, or_false] at hd
    rcases hd with rfl | rfl | rfl | rfl
    · exact ⟨_, rfl, by decide, by decide⟩
    · exact ⟨_, rfl, by decide, by decide⟩
    · exact ⟨_, rfl, w1⟩
    · exact ⟨_, rfl, w2⟩
  obtain ⟨tx, rfl, atx, ltx⟩ := hd2
  refine sq_asg e ?_
  clear e hd hS3 hs3
  -- aim
  obtain ⟨v, s5, S5, e, hv, hS5, hs5, -, -⟩ := draw_x (ρ := R15 a b c x3 (some (.im (.str [lc]))) (some (.im (.lst [.str [], .str [46, 47, 46, 47, 64, 76, 111, 110, 103, 76, 105, 110, 107], .str n1, .str n2]))) (some (.im (.str tx))) x7 x8 x9 x10 x11 x12 x13 x14) (e := mC (.int 2)) (i := 2) (n := 2) rfl hS4 hs4 rfl (by decide) (by decide)
  obtain ⟨d, hd, e⟩ := pick_ok (a := mLst false (mCons (mOp false ixD (mLoc 5) (mC (.int 0))) (mCons (mOp false ixD (mLoc 5) (mC (.int 3))) mNil))) (lst_eq (ds := [.str [], .str n2]) (cons_eq (op_eq (loc_eq rfl) c_eq rfl) (cons_eq (op_eq (loc_eq rfl) c_eq rfl) nil_eq))) e hv
  have hd2 : ∃ t, d = .str t ∧ Asc t ∧ t.length ≤ 150 := by
    simp only [List.mem_cons, List.not_mem_nil, or_false] at hd
    rcases hd with rfl | rfl
    · exact ⟨_, rfl, by decide, by decide⟩
    · exact ⟨_, rfl, w2⟩
  obtain ⟨am, rfl, aam, lam⟩ := hd2
  refine sq_asg e ?_
  clear e hd hS4 hs4
  generalize (some (Vl.im (.lst [.str [], .str [46, 47, 46, 47, 64, 76, 111, 110, 103, 76, 105, 110, 107], .str n1, .str n2]))) = y5
  -- numbers
  obtain ⟨v, s6, S6, e, hv, hS6, hs6, -, -⟩ := draw_x (ρ := R15 a b c x3 (some (.im (.str [lc]))) y5 (some (.im (.str tx))) (some (.im (.str am))) x8 x9 x10 x11 x12 x13 x14) (e := mC (.int 4)) (i := 2) (n := 4) rfl hS5 hs5 rfl (by decide) (by decide)
  obtain ⟨d, hd, e⟩ := pick_ok (a := mLst false (mCons (mC (.int 0)) (mCons (mC (.int 511)) (mCons (mC (.int 4095)) (mCons (mOp false subD (mOp false powD (mC (.int 8)) (mC (.int 7))) (mC (.int 1))) mNil))))) (lst_eq (ds := [.int 0, .int 511, .int 4095, .int (2097152 - 1)]) (cons_eq c_eq (cons_eq c_eq (cons_eq c_eq (cons_eq (op_eq p87 c_eq o_subI) nil_eq))))) e hv
  have hd2 : ∃ t : Nat, d = .int t ∧ t < 8 ^ 7 := by
    simp only [List.mem_cons, List.not_mem_nil, or_false] at hd
    rcases hd with rfl | rfl | rfl | rfl
    · exact ⟨0, rfl, by decide⟩
    · exact ⟨511, rfl, by decide⟩
    · exact ⟨4095, rfl, by decide⟩
    · exact ⟨2097151, rfl, by decide⟩
  obtain ⟨mode, rfl, hmode⟩ := hd2
  obtain ⟨v2, s7, S7, e2, hv2, hS7, hs7, -, -⟩ := draw_x (ρ := R15 a b c x3 (some (.im (.str [lc]))) y5 (some (.im (.str tx))) (some (.im (.str am))) x8 x9 x10 x11 x12 x13 x14) (e := mOp false powD (mC (.int 8)) (mC (.int 11))) (i := 2) (n := 8589934592) rfl hS6 hs6 p811 (by decide) (by decide)
  obtain ⟨size, rfl⟩ : ∃ n : Nat, v2 = n := ⟨v2.toNat, (Int.toNat_of_nonneg hv2.1).symm⟩
  have hsize : size < 8 ^ 11 := by
    have := hv2.2
    show size < 8589934592
    omega
  refine sq_asg (cells_eq (ds := [.int mode, .int size, .int (8589934592 - 1)]) (cons_eq e (cons_eq e2 (cons_eq (op_eq p811 c_eq o_subI) nil_eq)))) ?_
  have hcS : c < S7.length := (List.getElem?_eq_some_iff.mp hS7).1
  have hS8 : (S7 ++ [Cell.lst [.int mode, .int size, .int (8589934592 - 1)]])[c]? = some (cel s7) := by rw [List.getElem?_append_left hcS]; exact hS7
  have hN8 : (S7 ++ [Cell.lst [.int mode, .int size, .int (8589934592 - 1)]])[S7.length]? = some (.lst [.int mode, .int size, .int (8589934592 - 1)]) := by simp
  have hne : S7.length ≠ c := by omega
  generalize S7 ++ [Cell.lst [.int mode, .int size, .int (8589934592 - 1)]] = S8 at *
  generalize S7.length = n8 at *
  clear e e2 hd hS5 hs5 hS6 hs6 hS7 hv hv2
  -- the time
  obtain ⟨v, s8, S9, e, hv, hS9, hs8, f9, -⟩ := draw_x (ρ := R15 a b c x3 (some (.im (.str [lc]))) y5 (some (.im (.str tx))) (some (.im (.str am))) (some (.rf n8)) x9 x10 x11 x12 x13 x14) (e := mOp false powD (mC (.int 8)) (mC (.int 11))) (i := 2) (n := 8589934592) rfl hS8 hs7 p811 (by decide) (by decide)
  obtain ⟨w, s9, S10, e2, hw, hS10, hs9, f10, -⟩ := draw_x (ρ := R15 a b c x3 (some (.im (.str [lc]))) y5 (some (.im (.str tx))) (some (.im (.str am))) (some (.rf n8)) x9 x10 x11 x12 x13 x14) (e := mC (.int 3)) (i := 2) (n := 3) rfl hS9 hs8 rfl (by decide) (by decide)
  obtain ⟨d, hd, e⟩ := pick_ok (a := mLst false (mCons (mC (.int 0)) (mCons (mOp false subD (mOp false powD (mC (.int 8)) (mC (.int 11))) (mC (.int 1))) (mCons (mCal false false m_l_draw [.p 0, .p 1] [] (mCons (mLoc 2) (mCons (mOp false powD (mC (.int 8)) (mC (.int 11))) mNil)) mNil) mNil)))) (lst_eq (ds := [.int 0, .int (8589934592 - 1), .int v]) (cons_eq c_eq (cons_eq (op_eq p811 c_eq o_subI) (cons_eq e nil_eq)))) e2 hw
  have hd2 : ∃ t : Nat, d = .int t ∧ t < 8 ^ 11 := by
    simp only [List.mem_cons, List.not_mem_nil, or_false] at hd
    rcases hd with rfl | rfl | rfl
    · exact ⟨0, rfl, by decide⟩
    · exact ⟨8589934591, rfl, by decide⟩
    · have := hv.2
      exact ⟨v.toNat, by rw [Int.toNat_of_nonneg hv.1], by show v.toNat < 8589934592; omega⟩
  obtain ⟨time, rfl, htime⟩ := hd2
  have hN10 : S10[n8]? = some (.lst [.int mode, .int size, .int (8589934592 - 1)]) := by rw [(f9.trans f10) n8 hne]; exact hN8
  refine sq (put_eq (i := 8) (n := n8) (m := 2) e rfl hN10 rfl) ?_
  have hS11 : (S10.set n8 (.lst ([D.int mode, .int size, .int (8589934592 - 1)].set 2 (.int time))))[c]? = some (cel s9) := by rw [List.getElem?_set_ne hne]; exact hS10
  have hN11 : (S10.set n8 (.lst ([D.int mode, .int size, .int (8589934592 - 1)].set 2 (.int time))))[n8]? = some (.lst (nD [mode, size, time])) := set_at hN10
  generalize S10.set n8 (.lst ([D.int mode, .int size, .int (8589934592 - 1)].set 2 (.int time))) = S11 at *
  clear e e2 hd hS8 hs7 hS9 hs8 hS10 hN8 hN10 f9 f10 hv hw
  -- due
  have e1 := head_eq (k := [lc]) (nm := tx) (tg := am) (mode := mode) (size := size) (time := time) (d := .lst (nD [mode, size, time])) rfl (by omega) (by omega) rfl rfl rfl
  have hlen : (hdr [lc] tx mode size time am).length = 512 := hdr_len rfl
  have hasc : Asc (hdr [lc] tx mode size time am) := hdr_asc hlc2 atx aam
  have hst : stiffs [.im (.str [lc]), .im (.str tx), .rf n8, .im (.str am)] S11 = some ([.str [lc], .str tx, .lst (nD [mode, size, time]), .str am], S11.set n8 (.frz (.lst (nD [mode, size, time])))) := by
    simp only [stiffs, stiff, hN11, Cell.view]
  refine sq_asg (cal_eq (cons_eq (loc_eq rfl) (cons_eq (loc_eq rfl) (cons_eq (loc_eq rfl) (cons_eq (loc_eq rfl) nil_eq)))) nil_eq (calE_st hst e1)) ?_
  have hS12 : (S11.set n8 (.frz (.lst (nD [mode, size, time]))))[c]? = some (cel s9) := by rw [List.getElem?_set_ne hne]; exact hS11
  have hN12 : (S11.set n8 (.frz (.lst (nD [mode, size, time]))))[n8]? = some (.frz (.lst (nD [mode, size, time]))) := set_at hN11
  generalize S11.set n8 (.frz (.lst (nD [mode, size, time]))) = S12 at *
  clear e1 hst hS11 hN11
  -- made
  have ix : ∀ {ρ : Rho} {i : Nat} {n : Nat}, ρ[8]? = some (some (.rf n8)) → [mode, size, time][i]? = some n → mOp false ixD (mLoc 8) (mC (.int i)) ρ S12 = .ok (.im (.int n)) S12 := fun {ρ i n} h1 h2 =>
    op_eq (loc_eq h1) c_eq (by simp only [on2, vw, hN12, Option.map_some, Cell.view, ixD, atI_nat, nD, List.getElem?_map, h2, ofO, fin])
  refine sq_asg (cal_eq (cons_eq (loc_eq rfl) (cons_eq (loc_eq rfl) nil_eq)) (cons_eq (ix (i := 0) rfl rfl) (cons_eq (ix (i := 1) rfl rfl) (cons_eq (ix (i := 2) rfl rfl) (cons_eq (loc_eq rfl) nil_eq)))) (calE_im (ds := [.str [lc], .str tx, .int mode, .int size, .int time, .str am]) (header_eq [] rfl hlc2 atx aam (by omega) (by omega) hmode hsize htime))) ?_
  -- the first test
  refine sq_f (orT_f (b_eq (op_eq (n_eq (cons_eq (loc_eq rfl) nil_eq) (o_lstB (by omega))) (loc_eq rfl) (o_neL.trans (by rw [beq_self_eq_true]; rfl))))
    (b_eq (op_eq (sl_eq (n_eq (cons_eq (cal_eq nil_eq (cons_eq (loc_eq rfl) (cons_eq (loc_eq rfl) (cons_eq (loc_eq rfl) nil_eq))) (calE_im (ds := [.str [lc], .str tx, .int 0, .int 0, .int 0, .str am]) (header_eq (mode := 0) (size := 0) (time := 0) [] rfl hlc2 atx aam (by omega) (by omega) (by decide) (by decide) (by decide)))) nil_eq) (o_lstB (by rw [hdr_len rfl]; decide))) no_eq (some_eq c_eq) ((o_slL rfl).trans (by rw [cut_nD]))) (sl_eq (loc_eq rfl) no_eq (some_eq c_eq) ((o_slL rfl).trans (by rw [cut_nD]))) (o_neL.trans (by rw [hdr_100 (k := [lc]) (k' := [lc]) (tg := am) (tg' := am) (a' := mode) (b' := size) (c' := time), beq_self_eq_true]; rfl))))) ?_
  -- checksums
  have ck : ∀ {ρ : Rho} {S : Sto}, ρ[10]? = some (some (.im (.byt (hdr [lc] tx mode size time am)))) → mCal true false m_checksum [.p 0] [] (mCons (mLoc 10) mNil) mNil ρ S = .ok (.im (.int ((chkN (hdr [lc] tx mode size time am) : Nat) : Int))) S := fun h =>
    cal_eq (cons_eq (loc_eq h) nil_eq) nil_eq (calE_im (ds := [.byt _]) (checksum_eq [] hlen))
  refine sq_f (orT_f (b_eq (op_eq (ck rfl) (cal_eq (cons_eq (loc_eq rfl) nil_eq) nil_eq (calE_im (ds := [.lst (nD (hdr [lc] tx mode size time am))]) (total_eq []))) (o_neI.trans (by rw [beq_self_eq_true]; rfl))))
    (b_eq (op_eq (cal_eq nil_eq (cons_eq (loc_eq rfl) nil_eq) (calE_im (ds := [.byt (hdr [lc] tx mode size time am)]) (checksum_eq [] hlen))) (ck rfl) (o_neI.trans (by rw [beq_self_eq_true]; rfl))))) ?_
  clear ck ix
  generalize hH : hdr [lc] tx mode size time am = H at *
  -- another block
  obtain ⟨v, s10, S13, e, hv, hS13, hs10, -, -⟩ := draw_x (ρ := R15 a b c x3 (some (.im (.str [lc]))) y5 (some (.im (.str tx))) (some (.im (.str am))) (some (.rf n8)) (some (.im (.lst (nD H)))) (some (.im (.byt H))) x11 x12 x13 x14) (e := mC (.int 512)) (i := 2) (n := 512) rfl hS12 hs9 rfl (by decide) (by decide)
  refine sq_asg e ?_
  obtain ⟨at', rfl⟩ : ∃ n : Nat, v = n := ⟨v.toNat, (Int.toNat_of_nonneg hv.1).symm⟩
  have hat : at' < 512 := by omega
  obtain ⟨u, s11, S14, e, hu, hS14, hs11, -, -⟩ := draw_x (ρ := R15 a b c x3 (some (.im (.str [lc]))) y5 (some (.im (.str tx))) (some (.im (.str am))) (some (.rf n8)) (some (.im (.lst (nD H)))) (some (.im (.byt H))) (some (.im (.int at'))) x12 x13 x14) (e := mC (.int 256)) (i := 2) (n := 256) rfl hS13 hs10 rfl (by decide) (by decide)
  obtain ⟨by', rfl⟩ : ∃ n : Nat, u = n := ⟨u.toNat, (Int.toNat_of_nonneg hu.1).symm⟩
  have hby : by' < 256 := by omega
  have k1 : (nnB none && nnB (some (at' : Int))) = true := by simp [nnB]
  have k2 : (nnB (some ((at' : Int) + 1)) && nnB none) = true := by simp [nnB]; omega
  have hc1 : cutN H none (some (at' : Int)) = H.take at' := rfl
  have hc2 : cutN H (some ((at' : Int) + 1)) none = H.drop (at' + 1) := by
    unfold cutN
    simp [hiN, loN]
  have l1 : (H.take at').length = at' := by rw [List.length_take]; omega
  have l2 : (H.drop (at' + 1)).length = 511 - at' := by rw [List.length_drop]; omega
  refine sq_asg (x := .im (.lst (nD (H.take at' ++ [by'] ++ H.drop (at' + 1))))) (S1 := S14) (op_eq (op_eq (sl_eq (loc_eq rfl) no_eq (some_eq (loc_eq rfl)) ((o_slL k1).trans (by rw [cut_nD, hc1]))) (lst_eq (ds := nD [by']) (cons_eq e nil_eq)) ((o_addL ?_).trans (by rw [nD_app]))) (sl_eq (loc_eq rfl) (some_eq (op_eq (loc_eq rfl) c_eq o_addI)) no_eq ((o_slL k2).trans (by rw [cut_nD, hc2]))) ((o_addL ?_).trans (by rw [nD_app]))) ?_
  · rw [nD_len, nD_len, l1]
    show at' + 1 ≤ _
    omega
  · rw [nD_len, nD_len, List.length_append, l1, l2]
    show at' + 1 + _ ≤ _
    omega
  have lo : (H.take at' ++ [by'] ++ H.drop (at' + 1)).length = 512 := by
    rw [List.length_append, List.length_append, l1, l2]
    show at' + 1 + _ = _
    omega
  have lt : Lt256 (H.take at' ++ [by'] ++ H.drop (at' + 1)) := by
    intro x hx
    rcases List.mem_append.mp hx with hx | hx
    · rcases List.mem_append.mp hx with hx | hx
      · exact hasc.lt x (List.mem_of_mem_take hx)
      · rw [List.mem_singleton.mp hx]
        exact hby
    · exact hasc.lt x (List.mem_of_mem_drop hx)
  generalize H.take at' ++ [by'] ++ H.drop (at' + 1) = O at *
  clear e hv hu k1 k2 hc1 hc2 l1 l2 hS12 hs9 hS13 hs10
  refine sq_f (b_eq (op_eq (cal_eq (cons_eq (cal_eq (cons_eq (loc_eq rfl) nil_eq) nil_eq (calE_im (ds := [.lst (nD O)]) (blob_eq [] lt (by omega)))) nil_eq) nil_eq (calE_im (ds := [.byt O]) (checksum_eq [] lo))) (cal_eq (cons_eq (loc_eq rfl) nil_eq) nil_eq (calE_im (ds := [.lst (nD O)]) (total_eq []))) (o_neI.trans (by rw [beq_self_eq_true]; rfl)))) ?_
  -- odd values
  obtain ⟨v, s12, S15, e, hv, hS15, hs12, -, -⟩ := draw_x (ρ := R15 a b c x3 (some (.im (.str [lc]))) y5 (some (.im (.str tx))) (some (.im (.str am))) (some (.rf n8)) (some (.im (.lst (nD H)))) (some (.im (.byt H))) (some (.im (.int at'))) (some (.im (.lst (nD O)))) x13 x14) (e := mC (.int 7)) (i := 2) (n := 7) rfl hS14 hs11 rfl (by decide) (by decide)
  have hc3 : cutN H none (some (511 : Int)) = H.take 511 := rfl
  have l3 : (H.take 511).length = 511 := by rw [List.length_take]; omega
  have t3 : Lt256 (H.take 511) := fun x hx => hasc.lt x (List.mem_of_mem_take hx)
  have t4 : Lt256 (H ++ [0]) := fun x hx => (List.mem_append.mp hx).elim (hasc.lt x) (fun hx => by rw [List.mem_singleton.mp hx]; decide)
  obtain ⟨d, hd, e⟩ := pick_ok (a := mLst false (mCons (mC .non) (mCons (mLoc 9) (mCons (mOp false mulD (mC (.str [97])) (mC (.int 512))) (mCons (mCal true false m_blob [.p 0] [] (mCons (mSl false (mLoc 9) oNo (oSome (mC (.int 511)))) mNil) mNil) (mCons (mCal true false m_blob [.p 0] [] (mCons (mOp false addD (mLoc 9) (mLst false (mCons (mC (.int 0)) mNil))) mNil) mNil) (mCons (mCal true false m_blob [.p 0] [] (mCons (mLst false mNil) mNil) mNil) (mCons (mC (.int 512)) mNil))))))))
    (lst_eq (ds := [.non, .lst (nD H), .str (List.replicate 512 [97]).flatten, .byt (H.take 511), .byt (H ++ [0]), .byt [], .int 512]) (cons_eq c_eq (cons_eq (loc_eq rfl) (cons_eq (op_eq c_eq c_eq (o_mulS (by decide))) (cons_eq (cal_eq (cons_eq (sl_eq (loc_eq rfl) no_eq (some_eq c_eq) ((o_slL rfl).trans (by rw [cut_nD, hc3]))) nil_eq) nil_eq (calE_im (ds := [.lst (nD (H.take 511))]) (blob_eq [] t3 (by omega)))) (cons_eq (cal_eq (cons_eq (op_eq (loc_eq rfl) (lst_eq (ds := nD [0]) (cons_eq c_eq nil_eq)) ((o_addL (by rw [nD_len, hlen]; decide)).trans (by rw [nD_app]))) nil_eq) nil_eq (calE_im (ds := [.lst (nD (H ++ [0]))]) (blob_eq [] t4 (by rw [List.length_append, hlen]; decide)))) (cons_eq (cal_eq (cons_eq (lst_eq (ds := nD []) nil_eq) nil_eq) nil_eq (calE_im (ds := [.lst (nD [])]) (blob_eq [] (fun x hx => nomatch hx) (by decide)))) (cons_eq c_eq nil_eq)))))))) e hv
  refine sq_asg e ?_
  have hd2 : m_checksum [.im d] [] = .ex ⟨"NoBlock", [("thing", d)]⟩ [] ∧ ∃ z, repL d = some z := by
    simp only [List.mem_cons, List.not_mem_nil, or_false] at hd
    rcases hd with rfl | rfl | rfl | rfl | rfl | rfl | rfl
    · exact ⟨checksum_ex [] (.inl ⟨_, rfl, by decide +kernel⟩), _, rfl⟩
    · exact ⟨checksum_ex [] (.inl ⟨_, rfl, by decide +kernel⟩), rep_nums hasc.lt (by omega)⟩
    · exact ⟨checksum_ex [] (.inl ⟨_, rfl, by decide +kernel⟩), _, rep_str (by decide +kernel)⟩
    · exact ⟨checksum_ex [] (.inr ⟨_, rfl, by omega, by omega⟩), _, rep_byt (by omega)⟩
    · exact ⟨checksum_ex [] (.inr ⟨_, rfl, by rw [List.length_append, hlen]; decide, by rw [List.length_append, hlen]; decide⟩), _, rep_byt (by rw [List.length_append, hlen]; decide)⟩
    · exact ⟨checksum_ex [] (.inr ⟨_, rfl, by decide, by decide⟩), _, rep_byt (by decide)⟩
    · exact ⟨checksum_ex [] (.inl ⟨_, rfl, by decide +kernel⟩), _, rep_int (by decide +kernel)⟩
  obtain ⟨h1, z, h2⟩ := hd2
  refine ends_f (notT_eq (truB_eq (cal_eq (cons_eq (loc_eq rfl) nil_eq) nil_eq (calE_im (ds := [d]) (refused_eq [] h1 h2)))) rfl) ?_
  exact ⟨S15, s12, _, _, _, _, _, _, _, _, _, _, _, _, rfl, hS15, hs12⟩
theorem forE {i n : Nat} {b : MS} (Inv : Rho → Sto → Prop) {ρ : Rho} {S : Sto} (h0 : Inv ρ S) (h : ∀ j : Nat, j < n → ∀ ρ S, Inv ρ S → Ends' (b (ρ.set i (some (.im (.int j)))) S) fun r => ∃ ρ2 S2, r = .nx ρ2 S2 ∧ Inv ρ2 S2) : ∃ ρ2 S2, forL (gN i) b (rngD 0 n) ρ S = .nx ρ2 S2 ∧ Inv ρ2 S2 :=
  forR (fun _ => Inv) h0 h
theorem law_ok (ns : List Int) : ∃ S', m_law [.im (.scr ns)] [] = .ok (.im (.bl true)) S' := by
  have q : ∃ v S', fnM 15 b_law [.im (.scr ns)] [] = .ok v S' ∧ v = .im (.bl true) := by
    refine fn_ends [some (.im (.scr ns)), none, none, none, none, none, none, none, none, none, none, none, none, none, none] rfl ?_
    obtain ⟨m, hm, hm2⟩ : ∃ m : Nat, (if (if (ns.length : Int) < 4 then (ns.length : Int) else 4) > 1 then (if (ns.length : Int) < 4 then (ns.length : Int) else 4) else 1) = (m : Int) ∧ m ≤ 4 :=
      ⟨(if (if (ns.length : Int) < 4 then (ns.length : Int) else 4) > 1 then (if (ns.length : Int) < 4 then (ns.length : Int) else 4) else 1).toNat, by (repeat' split) <;> omega, by (repeat' split) <;> omega⟩
    obtain ⟨ρ2, S2, e, hI⟩ := forE (i := 1) (n := m) (b := (sSeq (sAsg (mCal true true m_l_source [.p 0, .p 1] [] (mCons (mLoc 0) (mCons (mLoc 1) mNil)) mNil) (gN 2)) (sFor (mRng1 (mC (.int 6))) (gN 3) b_turn)))
      (ρ := [some (.im (.scr ns)), none, none, none, none, none, none, none, none, none, none, none, none, none, none]) (S := [])
      (fun ρ S => ∃ x1 x2 x3 x4 x5 x6 x7 x8 x9 x10 x11 x12 x13 x14, ρ = [some (.im (.scr ns)), x1, x2, x3, x4, x5, x6, x7, x8, x9, x10, x11, x12, x13, x14])
      ⟨_, _, _, _, _, _, _, _, _, _, _, _, _, _, rfl⟩ (fun j hj ρ S hI => by
        obtain ⟨x1, x2, x3, x4, x5, x6, x7, x8, x9, x10, x11, x12, x13, x14, rfl⟩ := hI
        obtain ⟨s, hs, e0⟩ := source_ok ns j
        refine sq_asg (ρ := [some (.im (.scr ns)), some (.im (.int j)), x2, x3, x4, x5, x6, x7, x8, x9, x10, x11, x12, x13, x14]) (cal_eq (cons_eq (loc_eq rfl) (cons_eq (loc_eq rfl) nil_eq)) nil_eq (calE_own (ds := [.scr ns, .int j]) e0)) ?_
        obtain ⟨ρ2, S2, e, hI⟩ := forE (i := 3) (n := 6) (b := b_turn) (ρ := R15 (.scr ns) (.int j) S.length x3 x4 x5 x6 x7 x8 x9 x10 x11 x12 x13 x14) (S := S ++ [cel s])
          (fun ρ S' => ∃ s' y3 y4 y5 y6 y7 y8 y9 y10 y11 y12 y13 y14, ρ = R15 (.scr ns) (.int j) S.length y3 y4 y5 y6 y7 y8 y9 y10 y11 y12 y13 y14 ∧ S'[S.length]? = some (cel s') ∧ Sok s')
          ⟨s, _, _, _, _, _, _, _, _, _, _, _, _, rfl, by simp, hs⟩ (fun i hi ρ S' hI => by
            obtain ⟨s', y3, y4, y5, y6, y7, y8, y9, y10, y11, y12, y13, y14, rfl, h1, h2⟩ := hI
            obtain ⟨S3, s3, z3, z4, z5, z6, z7, z8, z9, z10, z11, z12, z13, z14, e, h3, h4⟩ := turn_ok (a := .scr ns) (b := .int j) (some (.im (.int i))) y4 y5 y6 y7 y8 y9 y10 y11 y12 y13 y14 h1 h2
            exact ⟨_, S3, e, s3, _, _, _, _, _, _, _, _, _, _, _, _, rfl, h3, h4⟩)
        obtain ⟨s', y3, y4, y5, y6, y7, y8, y9, y10, y11, y12, y13, y14, rfl, h1, h2⟩ := hI
        exact ⟨_, S2, for_eq (rng1_eq (n := 6) c_eq rfl (by decide)) e, _, _, _, _, _, _, _, _, _, _, _, _, _, _, rfl⟩)
    obtain ⟨x1, x2, x3, x4, x5, x6, x7, x8, x9, x10, x11, x12, x13, x14, rfl⟩ := hI
    refine sq_for (rng1_eq (i := (if (if (ns.length : Int) < 4 then (ns.length : Int) else 4) > 1 then (if (ns.length : Int) < 4 then (ns.length : Int) else 4) else 1)) (by simp [fnM, sRet, sRetN, sExp, sIf, sAsg, sNop, sSeq, mLoc, mC, mOp, mUn, mN, mNil, mCons, mIf, mTup, mLst, stiff, stiffs, fin, ofO, on1, on2, onN, vw, vws, Cell.view, gN, gPut, mTru, mAndT, mOrT, mNotT, mAnd, mOr, mNot, mB, mChain, tru, truD, mSl, oNo, oSome, mCal, calE, callB, refsOf, getB, putB, ren, backV, gI, gO, mRng1, mRng2, mIter, itemsD, sFor, mM0, mM1, mApp, addD, subD, mulD, divD, modD, powD, negD, cmpD, ixD, lenD, absD, minD, maxD, intD, ordD, ixN]) hm (by omega)) e ?_
    have hh := header_eq (k := [48]) (nm := [97]) (tg := []) (mode := 0) (size := 0) (time := 0) [] rfl (by decide) (by decide) (by decide) (by decide) (by decide) (by decide) (by decide) (by decide)
    refine sq_asg (cal_eq (cons_eq c_eq (cons_eq c_eq nil_eq)) nil_eq (calE_im (ds := [.str [48], .str [97], .int 0, .int 0, .int 0, .str []]) hh)) ?_
    have l0 : (hdr [48] [97] 0 0 0 []).length = 512 := hdr_len rfl
    have zz : (List.replicate 512 [D.int 255]).flatten = nD (List.replicate 512 255) := by
      rw [flat1, nD, List.map_replicate]
      rfl
    refine ends_ret (v := .im (.bl true)) (S1 := S2) (and_t (op_eq (n_eq (cons_eq (loc_eq rfl) nil_eq) (o_lstB (by omega))) (cal_eq (cons_eq c_eq (cons_eq c_eq (cons_eq (tup_eq (ds := nD [0, 0, 0]) (cons_eq c_eq (cons_eq c_eq (cons_eq c_eq nil_eq)))) (cons_eq c_eq nil_eq)))) nil_eq (calE_im (ds := [.str [48], .str [97], .tup (nD [0, 0, 0]), .str []]) (head_eq (mode := 0) (size := 0) (time := 0) rfl (by decide) (by decide) rfl rfl rfl))) (o_eqL.trans (by rw [beq_self_eq_true])))
      (op_eq (cal_eq (cons_eq (cal_eq (cons_eq (op_eq (lst_eq (ds := [.int 255]) (cons_eq c_eq nil_eq)) c_eq ((o_mulL (by decide)).trans (by rw [show ((512 : Int)).toNat = 512 from rfl, zz]))) nil_eq) nil_eq (calE_im (ds := [.lst (nD (List.replicate 512 255))]) (blob_eq [] (fun x hx => by rw [(List.mem_replicate.mp hx).2]; decide) (by rw [List.length_replicate]; decide)))) nil_eq) nil_eq (calE_im (ds := [.byt (List.replicate 512 255)]) (checksum_eq [] (List.length_replicate ..)))) (op_eq (op_eq c_eq c_eq (o_mulI (by decide))) c_eq o_addI) (o_eqI.trans ?_))) ⟨_, _, rfl, rfl⟩
    rw [show chkN (List.replicate 512 255) = 128776 by decide +kernel]
    rfl
  obtain ⟨v, S', e, rfl⟩ := q
  exact ⟨S', e⟩
end Tar

set_option autoImplicit false
/-! The end: a law's def, called with the script. -/
namespace Tar
open PySem PySem.Spec PyProof.Rows L2
section
variable {P : Program} {w : World} {K : PySem.W.Frag} {mg : Str → Option Value} {base : Heap} {x : Str} {st : Stmt} {ps : List Str} {k : Nat} {kws : List (Str × V)} {f : Addr} {fd : FuncData}
def spLawD (K : PySem.W.Frag) : Sp := fun vs H Q _ => ∃ (a : Addr) (ns : List Int), vs = [.ref a] ∧ ns.length ≤ 63 ∧ Only H ∧ SqL K H a (ns.map V.int) ∧ ∀ H', Q (.bl true) H'
theorem FnM.at {m : MF} (c : FnM P w K mg base k x st ps kws m) (g : mg x = some (.ref f)) (F : FunD K x x (defArgs st) (defBody st) (defScope st) [] kws f fd) : FnG P w K mg base (L2.CX P w) k f fd ps (spM ⟨K, mg⟩ ps.length m) := by
  obtain ⟨f', fd', h, F', g'⟩ := c
  rw [g] at g'
  cases g'
  obtain ⟨_, _, _, _, _, _, _, _, _, _, e1, l1, _⟩ := F.ex
  obtain ⟨_, _, _, _, _, _, _, _, _, _, e2, l2, _⟩ := F'.ex
  rw [l1] at l2
  cases l2
  exact h
theorem law_end {m : MF} (F : FnG P w K mg base (L2.CX P w) k f fd [x] (spM ⟨K, mg⟩ 1 m)) (hm : ∀ ns : List Int, ns.length ≤ 63 → ∃ S', m [.im (.scr ns)] [] = .ok (.im (.bl true)) S') : FnG P w K mg base CX0 k f fd [x] (spLawD K) := by
  refine ⟨fun vs H Q E ⟨a, ns, h, _⟩ => by rw [h]; rfl, fun A outer s H args us vs Q E hg hr e0 hb r hsp => ?_⟩
  obtain ⟨a, ns, rfl, hl, hO, hS, q⟩ := hsp
  obtain ⟨S', e⟩ := hm ns hl
  have hsp : spM ⟨K, mg⟩ 1 m [.ref a] H Q (fun _ _ _ => False) := by
    refine ⟨rfl, ⟨H, [], fun _ => False⟩, [], [.im (.scr ns)], rfl, ⟨rfl, List.nodup_nil, fun _ z => False.elim z, fun _ z => absurd z (by simp), fun n c z => absurd z (by simp)⟩, ⟨_, _, rfl, ⟨a, rfl, ?_⟩, rfl⟩, ?_⟩
    · rcases hS with (z | ⟨o, z⟩) | z
      · rcases hO a with y | ⟨o, xs, y⟩
        · rw [y] at z; cases z
        · rw [y] at z; cases z
      · exact .inl ⟨o, z, fun z => z⟩
      · exact .inr z
    · rw [e]
      intro v W' _ _ hv
      obtain rfl : v = .bl true := hv
      exact q _
  refine codeAny_mono (F.run A outer s H args us _ Q _ hg hr e0 hb r hsp) fun r s' h => ?_
  cases r with
  | ok fl => cases fl <;> exact h
  | error e =>
    obtain ⟨_, _, _, _, _, _, _, _, _, _, _, _, z⟩ := h
    exact z.elim
theorem ef_mk {c : String} {fs : List String} {C : Addr} (er : Er K mg P (Str.ofString c) (fs.map Str.ofString) C) (gm : mg (Str.ofString c) = some (.ref C)) (isT : ∀ n ∈ excAll, PySem.W.kitOne K (.ref C) (.type n) = some (excUp (errBase c) n))
    (abs names : List String) (pres : List (String × Addr)) (ha : ∀ y ∈ abs, mg (Str.ofString y) = none) (hn : pres.map (·.1) = names) (hall : errAll.all (fun y => abs.contains y || names.contains y) = true)
    (hp : ∀ p ∈ pres, mg (Str.ofString p.1) = some (.ref p.2) ∧ PySem.W.kitOne K (.ref C) (.ref p.2) = some (decide (p.1 = c)) ∧ PySem.W.exmOne K (.ref p.2) (.ref C) = some (decide (p.1 = c))) : EF K mg P c fs C := by
  have key : ∀ y ∈ errAll, ∀ D, mg (Str.ofString y) = some (.ref D) → PySem.W.kitOne K (.ref C) (.ref D) = some (decide (y = c)) ∧ PySem.W.exmOne K (.ref D) (.ref C) = some (decide (y = c)) := by
    intro y hy D hD
    have h := List.all_eq_true.mp hall y hy
    rcases Bool.or_eq_true_iff.mp h with h | h
    · rw [ha y (by simpa using h)] at hD
      cases hD
    · have h' : y ∈ names := by simpa using h
      rw [← hn] at h'
      obtain ⟨p, hp1, rfl⟩ := List.mem_map.mp h'
      obtain ⟨h1, h2, h3⟩ := hp p hp1
      rw [h1] at hD
      cases hD
      exact ⟨h2, h3⟩
  exact ⟨er, gm, isT, fun y hy D hD => (key y hy D hD).1, fun y hy D hD => (key y hy D hD).2⟩
end
end Tar

set_option autoImplicit false
namespace K5
open PySem PySem.Spec PyProof.Rows L2 Tar

def top (i : Nat) : Stmt := PySem.Challenge.pw_tarhouse_k05_headers_built.main.body.getD i (.Pass ⟨0, 0, 0, 0⟩)
abbrev s_is_integer : Stmt := top 6
theorem sc_is_integer : FnScope ["thing"] ["thing"] (defScope s_is_integer) := ⟨rfl, rfl, rfl, by decide +kernel, rfl, by decide +kernel, by decide +kernel⟩
abbrev s_is_within : Stmt := top 7
theorem sc_is_within : FnScope ["thing", "low", "high"] ["thing", "low", "high"] (defScope s_is_within) := ⟨rfl, rfl, rfl, by decide +kernel, rfl, by decide +kernel, by decide +kernel⟩
abbrev s_blob : Stmt := top 8
theorem sc_blob : FnScope ["numbers", "number"] ["numbers"] (defScope s_blob) := ⟨rfl, rfl, rfl, by decide +kernel, rfl, by decide +kernel, by decide +kernel⟩
abbrev s_text_field : Stmt := top 12
theorem sc_text_field : FnScope ["text", "width"] ["text", "width"] (defScope s_text_field) := ⟨rfl, rfl, rfl, by decide +kernel, rfl, by decide +kernel, by decide +kernel⟩
abbrev s_octal_field : Stmt := top 13
theorem sc_octal_field : FnScope ["number", "width"] ["number", "width"] (defScope s_octal_field) := ⟨rfl, rfl, rfl, by decide +kernel, rfl, by decide +kernel, by decide +kernel⟩
abbrev s_sum_of : Stmt := top 14
theorem sc_sum_of : FnScope ["block"] ["block"] (defScope s_sum_of) := ⟨rfl, rfl, rfl, by decide +kernel, rfl, by decide +kernel, by decide +kernel⟩
abbrev s_checksum : Stmt := top 15
theorem sc_checksum : FnScope ["block"] ["block"] (defScope s_checksum) := ⟨rfl, rfl, rfl, by decide +kernel, rfl, by decide +kernel, by decide +kernel⟩
abbrev s_checksum_field : Stmt := top 16
theorem sc_checksum_field : FnScope ["block"] ["block"] (defScope s_checksum_field) := ⟨rfl, rfl, rfl, by decide +kernel, rfl, by decide +kernel, by decide +kernel⟩
abbrev s_magic_field : Stmt := top 17
theorem sc_magic_field : FnScope [] [] (defScope s_magic_field) := ⟨rfl, rfl, rfl, by decide +kernel, rfl, by decide +kernel, by decide +kernel⟩
abbrev s_header : Stmt := top 18
theorem sc_header : FnScope ["kind", "name", "mode", "size", "time", "target", "front", "behind"] ["kind", "name", "mode", "size", "time", "target"] (defScope s_header) := ⟨rfl, rfl, rfl, by decide +kernel, rfl, by decide +kernel, by decide +kernel⟩
abbrev s_l_source : Stmt := top 20
theorem sc_l_source : FnScope ["_law_script", "_law_at", "_law_cell", "_law_large", "_law_mix", "_law_k"] ["_law_script", "_law_at"] (defScope s_l_source) := ⟨rfl, rfl, rfl, by decide +kernel, rfl, by decide +kernel, by decide +kernel⟩
abbrev s_l_draw : Stmt := top 21
theorem sc_l_draw : FnScope ["_law_source_here", "_law_many", "_law_digit"] ["_law_source_here", "_law_many"] (defScope s_l_draw) := ⟨rfl, rfl, rfl, by decide +kernel, rfl, by decide +kernel, by decide +kernel⟩
abbrev s_l_random_name : Stmt := top 22
theorem sc_l_random_name : FnScope ["_law_source_here", "_law_many", "_law_found", "_law_k"] ["_law_source_here", "_law_many"] (defScope s_l_random_name) := ⟨rfl, rfl, rfl, by decide +kernel, rfl, by decide +kernel, by decide +kernel⟩
abbrev s_l_any_name : Stmt := top 23
theorem sc_l_any_name : FnScope ["_law_source_here", "_law_way", "_law_width2", "_law_base"] ["_law_source_here"] (defScope s_l_any_name) := ⟨rfl, rfl, rfl, by decide +kernel, rfl, by decide +kernel, by decide +kernel⟩
abbrev s_l_codes : Stmt := top 24
theorem sc_l_codes : FnScope ["_law_text", "_law_sign"] ["_law_text"] (defScope s_l_codes) := ⟨rfl, rfl, rfl, by decide +kernel, rfl, by decide +kernel, by decide +kernel⟩
abbrev s_l_octal : Stmt := top 25
theorem sc_l_octal : FnScope ["_law_number", "_law_width", "_law_digits", "_law_k"] ["_law_number", "_law_width"] (defScope s_l_octal) := ⟨rfl, rfl, rfl, by decide +kernel, rfl, by decide +kernel, by decide +kernel⟩
abbrev s_l_head : Stmt := top 26
theorem sc_l_head : FnScope ["_law_letter", "_law_label", "_law_numbers", "_law_aim2", "_law_front", "_law_behind"] ["_law_letter", "_law_label", "_law_numbers", "_law_aim2"] (defScope s_l_head) := ⟨rfl, rfl, rfl, by decide +kernel, rfl, by decide +kernel, by decide +kernel⟩
abbrev s_l_refused : Stmt := top 27
theorem sc_l_refused : FnScope ["_law_thing", "e", "_law_is_alone"] ["_law_thing"] (defScope s_l_refused) := ⟨rfl, rfl, rfl, by decide +kernel, rfl, by decide +kernel, by decide +kernel⟩
abbrev s_l_total : Stmt := top 28
theorem sc_l_total : FnScope ["_law_numbers"] ["_law_numbers"] (defScope s_l_total) := ⟨rfl, rfl, rfl, by decide +kernel, rfl, by decide +kernel, by decide +kernel⟩
abbrev s_law : Stmt := top 29
theorem sc_law : FnScope ["_law_script", "_law_k", "_law_source_here", "_law_turn", "_law_letter", "_law_some", "_law_text", "_law_aim", "_law_numbers", "_law_due", "_law_made", "_law_at", "_law_other", "_law_odd", "_law_plain"] ["_law_script"] (defScope s_law) := ⟨rfl, rfl, rfl, by decide +kernel, rfl, by decide +kernel, by decide +kernel⟩
structure Txt (mg : Str → Option Value) : Prop where
  n_bool : mg "bool" = none
  n_isinstance : mg "isinstance" = none
  n_int : mg "int" = none
  n_bytes : mg "bytes" = none
  n_all : mg "all" = none
  n_tuple : mg "tuple" = none
  n_list : mg "list" = none
  n_sum : mg "sum" = none
  n_ord : mg "ord" = none
  n_len : mg "len" = none
  n_range : mg "range" = none
  n_min : mg "min" = none
  n_abs : mg "abs" = none
  n_repr : mg "repr" = none
  n_TypeError : mg "TypeError" = none
  n_max : mg "max" = none
  g_BLOCK : ∃ u, mg "BLOCK" = some u ∧ RelV (.int 512) u
  g_MAGIC : ∃ u, mg "MAGIC" = some u ∧ RelV (.str (SX.S [117, 115, 116, 97, 114])) u
section
variable {P : Program} {w : World} {K : PySem.W.Frag} {mg : Str → Option Value} {base : Heap}
theorem f_is_integer (T : Txt mg) (D : DefD K mg "is_integer" s_is_integer [] []) : FnM P w K mg base 1 "is_integer" s_is_integer ["thing"] [] m_is_integer := 
  fn_go D sc_is_integer rfl (fun f cdv A outer s H E hgd hr tk po => (c_one (c_ret (c_and (c_blt b_isi T.n_isinstance (by decide +kernel) (c_cons (c_loc (i := 0)) (c_cons (c_ty "int" T.n_int) c_nil))) (c_one' (c_not (c_blt b_isi T.n_isinstance (by decide +kernel) (c_cons (c_loc (i := 0)) (c_cons (c_ty "bool" T.n_bool) c_nil)))))))))
theorem f_is_within (T : Txt mg) (C_is_integer_1 : CalM P w K mg base 1 "is_integer" 1 [] [.p 0] [] m_is_integer) (D : DefD K mg "is_within" s_is_within [] []) : FnM P w K mg base 2 "is_within" s_is_within ["thing", "low", "high"] [] m_is_within := 
  fn_go D sc_is_within rfl (fun f cdv A outer s H E hgd hr tk po => (c_one (c_ret (c_and (c_cal C_is_integer_1 hr (by decide) hgd tk (c_cons (c_loc (i := 0)) c_nil) (hla := (l_cons l_nil))) (c_one' (c_chain o_le o_le (c_loc (i := 1)) (c_loc (i := 0)) (c_loc (i := 2))))))))
theorem f_blob (T : Txt mg) {C_NoBlob : Addr} (e_NoBlob : EF K mg P "NoBlob" ["numbers"] C_NoBlob) (C_is_within_3 : CalM P w K mg base 2 "is_within" 3 [] [.p 0, .p 1, .p 2] [] m_is_within) (D : DefD K mg "blob" s_blob [] []) : FnM P w K mg base 3 "blob" s_blob ["numbers"] [] m_blob := 
  fn_go D sc_blob rfl (fun f cdv A outer s H E hgd hr tk po => (c_seq (c_ifs (PW.pt (c_orT (c_notT (c_tru (c_blt b_isi T.n_isinstance (by decide +kernel) (c_cons (c_loc (i := 0)) (c_cons (c_tup (c_cons (c_ty "list" T.n_list) (c_cons (c_ty "tuple" T.n_tuple) c_nil))) c_nil))))) (c_or1 (c_notT (c_tru (c_blt (b_all rfl) T.n_all (by decide +kernel) (c_cons (c_comp (own := [("number", 1)]) rfl sc_blob.nd (i_of (c_loc (i := 0))) (blkOk_by (own := [("number", 1)]) (N := ["numbers", "number"]) (sc := defScope s_blob) (by decide +kernel)) ct_name (fun _ _ _ _ _ => (pg_name (i := 1) sc_blob.nd rfl (Or.inl rfl))) (fun _ _ _ _ _ => ts_nil) (fun _ _ _ _ _ => (c_cal C_is_within_3 hr (by decide) hgd takes0 (c_cons (c_loc (i := 1)) (c_cons c_int (c_cons c_int c_nil))) (hla := (l_cons (l_cons (l_cons l_nil))))))) c_nil)))))))
    (c_one (c_raise (c := "NoBlob") rfl e_NoBlob hr tk (c_cons (c_loc (i := 0)) c_nil)))
    c_nop)
  (c_one (c_ret (c_bty (b_byt rfl) T.n_bytes (by decide +kernel) (c_cons (c_loc (i := 0)) c_nil))))))
theorem f_text_field (T : Txt mg) (D : DefD K mg "text_field" s_text_field [] []) : FnM P w K mg base 1 "text_field" s_text_field ["text", "width"] [] m_text_field := 
  fn_go D sc_text_field rfl (fun f cdv A outer s H E hgd hr tk po => (c_one (c_ret (c_sl (c_op o_add (c_m0 PySem.F.slot_str_encode PySem.F.type_str_encode m_enc (c_sl (c_loc (i := 0)) p_no (p_some (c_loc (i := 1))))) (c_bty (b_byt rfl) T.n_bytes (by decide +kernel) (c_cons (c_loc (i := 1)) c_nil))) p_no (p_some (c_loc (i := 1)))))))
theorem f_octal_field (T : Txt mg) (D : DefD K mg "octal_field" s_octal_field [] []) : FnM P w K mg base 1 "octal_field" s_octal_field ["number", "width"] [] m_octal_field := 
  fn_go D sc_octal_field rfl (fun f cdv A outer s H E hgd hr tk po => (c_one (c_ret (c_op o_add (c_m0 PySem.F.slot_str_encode PySem.F.type_str_encode m_enc (c_m1 PySem.F.slot_str_zfill PySem.F.type_str_zfill m_zf (c_oct (c_loc (i := 0))) (c_op o_sub (c_loc (i := 1)) c_int))) (c_bty (b_byt rfl) T.n_bytes (by decide +kernel) (c_cons c_int c_nil))))))
theorem f_sum_of (T : Txt mg) (D : DefD K mg "sum_of" s_sum_of [] []) : FnM P w K mg base 1 "sum_of" s_sum_of ["block"] [] m_sum_of := 
  fn_go D sc_sum_of rfl (fun f cdv A outer s H E hgd hr tk po => (c_one (c_ret (c_op o_add (c_op o_sub (c_blt (b_sum rfl) T.n_sum (by decide +kernel) (c_cons (c_loc (i := 0)) c_nil)) (c_blt (b_sum rfl) T.n_sum (by decide +kernel) (c_cons (c_sl (c_loc (i := 0)) (p_some c_int) (p_some c_int)) c_nil))) (c_op o_mul c_int (c_blt b_ord T.n_ord (by decide +kernel) (c_cons c_str c_nil)))))))
theorem f_checksum (T : Txt mg) {C_NoBlock : Addr} (e_NoBlock : EF K mg P "NoBlock" ["thing"] C_NoBlock) (C_sum_of_1 : CalM P w K mg base 1 "sum_of" 1 [] [.p 0] [] m_sum_of) (D : DefD K mg "checksum" s_checksum [] []) : FnM P w K mg base 2 "checksum" s_checksum ["block"] [] m_checksum := 
  fn_go D sc_checksum rfl (fun f cdv A outer s H E hgd hr tk po => (c_seq (c_ifs (PW.pt (c_orT (c_notT (c_tru (c_blt b_isi T.n_isinstance (by decide +kernel) (c_cons (c_loc (i := 0)) (c_cons (c_ty "bytes" T.n_bytes) c_nil))))) (c_or1 (c_cmpT (o_ne hr.units) (c_blt b_len T.n_len (by decide +kernel) (c_cons (c_loc (i := 0)) c_nil)) (c_gc T.g_BLOCK (fun _ _ => rfl))))))
    (c_one (c_raise (c := "NoBlock") rfl e_NoBlock hr tk (c_cons (c_loc (i := 0)) c_nil)))
    c_nop)
  (c_one (c_ret (c_cal C_sum_of_1 hr (by decide) hgd tk (c_cons (c_loc (i := 0)) c_nil) (hla := (l_cons l_nil)))))))
theorem f_checksum_field (T : Txt mg) (C_octal_field_2 : CalM P w K mg base 1 "octal_field" 2 [] [.p 0, .p 1] [] m_octal_field) (C_sum_of_1 : CalM P w K mg base 1 "sum_of" 1 [] [.p 0] [] m_sum_of) (D : DefD K mg "checksum_field" s_checksum_field [] []) : FnM P w K mg base 2 "checksum_field" s_checksum_field ["block"] [] m_checksum_field := 
  fn_go D sc_checksum_field rfl (fun f cdv A outer s H E hgd hr tk po => (c_one (c_ret (c_op o_add (c_cal C_octal_field_2 hr (by decide) hgd tk (c_cons (c_cal C_sum_of_1 hr (by decide) hgd tk (c_cons (c_loc (i := 0)) c_nil) (hla := (l_cons l_nil))) (c_cons c_int c_nil)) (hla := (l_cons (l_cons l_nil)))) c_byt))))
theorem f_magic_field (T : Txt mg) (D : DefD K mg "magic_field" s_magic_field [] []) : FnM P w K mg base 1 "magic_field" s_magic_field [] [] m_magic_field := 
  fn_go D sc_magic_field rfl (fun f cdv A outer s H E hgd hr tk po => (c_one (c_ret (c_op o_add (c_op o_add (c_m0 PySem.F.slot_str_encode PySem.F.type_str_encode m_enc (c_gc T.g_MAGIC (fun _ _ => rfl))) (c_bty (b_byt rfl) T.n_bytes (by decide +kernel) (c_cons c_int c_nil))) c_byt))))
theorem f_header (T : Txt mg) (C_checksum_field_1 : CalM P w K mg base 2 "checksum_field" 1 [] [.p 0] [] m_checksum_field) (C_text_field_2 : CalM P w K mg base 1 "text_field" 2 [] [.p 0, .p 1] [] m_text_field) (C_magic_field_0 : CalM P w K mg base 1 "magic_field" 0 [] [] [] m_magic_field) (C_octal_field_2 : CalM P w K mg base 1 "octal_field" 2 [] [.p 0, .p 1] [] m_octal_field) (D : DefD K mg "header" s_header [] [("mode", .int 0), ("size", .int 0), ("time", .int 0), ("target", .str (SX.S []))]) : FnM P w K mg base 3 "header" s_header ["kind", "name", "mode", "size", "time", "target"] [("mode", .int 0), ("size", .int 0), ("time", .int 0), ("target", .str (SX.S []))] m_header := 
  fn_go D sc_header rfl (fun f cdv A outer s H E hgd hr tk po => (c_seq (c_set (i := 6) sc_header.nd (c_op o_add (c_op o_add (c_op o_add (c_cal C_text_field_2 hr (by decide) hgd tk (c_cons (c_loc (i := 1)) (c_cons c_int c_nil)) (hla := (l_cons (l_cons l_nil)))) (c_cal C_octal_field_2 hr (by decide) hgd tk (c_cons (c_loc (i := 2)) (c_cons c_int c_nil)) (hla := (l_cons (l_cons l_nil))))) (c_cal C_octal_field_2 hr (by decide) hgd tk (c_cons c_int (c_cons c_int c_nil)) (hla := (l_cons (l_cons l_nil))))) (c_cal C_octal_field_2 hr (by decide) hgd tk (c_cons c_int (c_cons c_int c_nil)) (hla := (l_cons (l_cons l_nil))))))
  (c_seq (c_set (i := 6) sc_header.nd (c_op o_add (c_op o_add (c_loc (i := 6)) (c_cal C_octal_field_2 hr (by decide) hgd tk (c_cons (c_loc (i := 3)) (c_cons c_int c_nil)) (hla := (l_cons (l_cons l_nil))))) (c_cal C_octal_field_2 hr (by decide) hgd tk (c_cons (c_loc (i := 4)) (c_cons c_int c_nil)) (hla := (l_cons (l_cons l_nil))))))
  (c_seq (c_set (i := 7) sc_header.nd (c_op o_add (c_op o_add (c_op o_add (c_m0 PySem.F.slot_str_encode PySem.F.type_str_encode m_enc (c_loc (i := 0))) (c_cal C_text_field_2 hr (by decide) hgd tk (c_cons (c_loc (i := 5)) (c_cons c_int c_nil)) (hla := (l_cons (l_cons l_nil))))) (c_cal0 C_magic_field_0 hr (by decide) hgd tk)) (c_bty (b_byt rfl) T.n_bytes (by decide +kernel) (c_cons c_int c_nil))))
  (c_one (c_ret (c_op o_add (c_op o_add (c_loc (i := 6)) (c_cal C_checksum_field_1 hr (by decide) hgd tk (c_cons (c_op o_add (c_op o_add (c_loc (i := 6)) (c_bty (b_byt rfl) T.n_bytes (by decide +kernel) (c_cons c_int c_nil))) (c_loc (i := 7))) c_nil) (hla := (l_cons l_nil)))) (c_loc (i := 7)))))))))
theorem f_l_source (T : Txt mg) (D : DefD K mg "_law_source" s_l_source [] []) : FnM P w K mg base 1 "_law_source" s_l_source ["_law_script", "_law_at"] [] m_l_source := 
  fn_go D sc_l_source rfl (fun f cdv A outer s H E hgd hr tk po => (c_seq (c_set (i := 2) sc_l_source.nd (c_if (c_cmpT o_lt (c_loc (i := 1)) (c_blt b_len T.n_len (by decide +kernel) (c_cons (c_loc (i := 0)) c_nil))) (c_ix o_ix (c_loc (i := 0)) (c_loc (i := 1))) c_int))
  (c_seq (c_set (i := 3) sc_l_source.nd (c_if (c_cmpT o_ge (c_blt b_abs T.n_abs (by decide +kernel) (c_cons (c_loc (i := 2)) c_nil)) (c_op o_pow c_int c_int)) (c_op o_mod (c_bty b_int T.n_int (by decide +kernel) (c_cons (c_blt b_abs T.n_abs (by decide +kernel) (c_cons (c_loc (i := 2)) c_nil)) c_nil)) (c_op o_mul (c_op o_mul (c_op o_pow c_int c_int) (c_op o_pow c_int c_int)) (c_op o_pow c_int c_int))) c_int))
  (c_seq (c_set (i := 4) sc_l_source.nd (c_op o_mod (c_bty b_int T.n_int (by decide +kernel) (c_cons (c_op o_add (c_op o_add (c_loc (i := 2)) (c_op o_mul c_int (c_loc (i := 1)))) c_int) c_nil)) c_int))
  (c_seq (c_for po rfl (i_rng1 T.n_range (c_blt (b_min rfl) T.n_min (by decide +kernel) (c_cons (c_blt b_len T.n_len (by decide +kernel) (c_cons (c_loc (i := 0)) c_nil)) (c_cons c_int c_nil)))) (g_name (i := 5) sc_l_source.nd)
    (c_one (c_set (i := 4) sc_l_source.nd (c_op o_mod (c_bty b_int T.n_int (by decide +kernel) (c_cons (c_op o_add (c_op o_add (c_op o_pow (c_loc (i := 4)) c_int) (c_op o_mod (c_bty b_int T.n_int (by decide +kernel) (c_cons (c_ix o_ix (c_loc (i := 0)) (c_loc (i := 5))) c_nil)) c_int)) (c_op o_mul c_int (c_loc (i := 5)))) c_nil)) c_int))))
  (c_one (c_ret (c_lst (c_cons (c_loc (i := 3)) (c_cons (c_loc (i := 4)) (c_cons c_int c_nil)))))))))))
theorem f_l_draw (T : Txt mg) (D : DefD K mg "_law_draw" s_l_draw [] []) : FnM P w K mg base 1 "_law_draw" s_l_draw ["_law_source_here", "_law_many"] [] m_l_draw := 
  fn_go D sc_l_draw rfl (fun f cdv A outer s H E hgd hr tk po => (c_seq (c_ifs (c_cmpT o_gt (c_ix o_ix (c_loc (i := 0)) c_int) c_int)
    (c_seq (c_set (i := 2) sc_l_draw.nd (c_op o_mod (c_bty b_int T.n_int (by decide +kernel) (c_cons (c_ix o_ix (c_loc (i := 0)) c_int) c_nil)) (c_loc (i := 1))))
    (c_seq (c_put (c_loc (i := 0)) c_int (c_op o_div (c_ix o_ix (c_loc (i := 0)) c_int) (c_loc (i := 1))))
    (c_one (c_ret (c_loc (i := 2))))))
    c_nop)
  (c_seq (c_put (c_loc (i := 0)) c_int (c_op o_add (c_ix o_ix (c_loc (i := 0)) c_int) c_int))
  (c_seq (c_put (c_loc (i := 0)) c_int (c_op o_mod (c_bty b_int T.n_int (by decide +kernel) (c_cons (c_op o_add (c_op o_add (c_op o_pow (c_ix o_ix (c_loc (i := 0)) c_int) c_int) (c_op o_mul c_int (c_ix o_ix (c_loc (i := 0)) c_int))) c_int) c_nil)) c_int))
  (c_one (c_ret (c_op o_mod (c_bty b_int T.n_int (by decide +kernel) (c_cons (c_op o_div (c_op o_mod (c_bty b_int T.n_int (by decide +kernel) (c_cons (c_op o_mul (c_ix o_ix (c_loc (i := 0)) c_int) c_int) c_nil)) c_int) c_int) c_nil)) (c_loc (i := 1)))))))))
theorem f_l_random_name (T : Txt mg) (C_l_draw_2 : CalM P w K mg base 1 "_law_draw" 2 [] [.p 0, .p 1] [] m_l_draw) (D : DefD K mg "_law_random_name" s_l_random_name [] []) : FnM P w K mg base 2 "_law_random_name" s_l_random_name ["_law_source_here", "_law_many"] [] m_l_random_name := 
  fn_go D sc_l_random_name rfl (fun f cdv A outer s H E hgd hr tk po => (c_seq (c_set (i := 2) sc_l_random_name.nd (c_ix o_ix (c_lst (c_cons c_str (c_cons c_str (c_cons c_str (c_cons c_str (c_cons c_str (c_cons c_str c_nil))))))) (c_cal C_l_draw_2 hr (by decide) hgd tk (c_cons (c_loc (i := 0)) (c_cons c_int c_nil)) (hla := (l_cons (l_cons l_nil))))))
  (c_seq (c_for po rfl (i_rng1 T.n_range (c_ix o_ix (c_lst (c_cons c_int (c_cons c_int (c_cons c_int (c_cons c_int c_nil))))) (c_cal C_l_draw_2 hr (by decide) hgd tk (c_cons (c_loc (i := 0)) (c_cons c_int c_nil)) (hla := (l_cons (l_cons l_nil)))))) (g_name (i := 3) sc_l_random_name.nd)
    (c_one (c_set (i := 2) sc_l_random_name.nd (c_op o_add (c_op o_add (c_loc (i := 2)) c_str) (c_ix o_ix (c_lst (c_cons c_str (c_cons c_str (c_cons c_str (c_cons c_str (c_cons c_str (c_cons c_str c_nil))))))) (c_cal C_l_draw_2 hr (by decide) hgd tk (c_cons (c_loc (i := 0)) (c_cons c_int c_nil)) (hla := (l_cons (l_cons l_nil)))))))))
  (c_one (c_ret (c_op o_add (c_loc (i := 2)) (c_op o_mul c_str (c_loc (i := 1)))))))))
theorem f_l_any_name (T : Txt mg) (C_l_draw_2 : CalM P w K mg base 1 "_law_draw" 2 [] [.p 0, .p 1] [] m_l_draw) (C_l_random_name_2 : CalM P w K mg base 2 "_law_random_name" 2 [] [.p 0, .p 1] [] m_l_random_name) (D : DefD K mg "_law_any_name" s_l_any_name [] []) : FnM P w K mg base 3 "_law_any_name" s_l_any_name ["_law_source_here"] [] m_l_any_name := 
  fn_go D sc_l_any_name rfl (fun f cdv A outer s H E hgd hr tk po => (c_seq (c_set (i := 1) sc_l_any_name.nd (c_cal C_l_draw_2 hr (by decide) hgd tk (c_cons (c_loc (i := 0)) (c_cons c_int c_nil)) (hla := (l_cons (l_cons l_nil)))))
  (c_seq (c_ifs (c_cmpT o_lt (c_loc (i := 1)) c_int)
    (c_one (c_ret (c_cal C_l_random_name_2 hr (by decide) hgd tk (c_cons (c_loc (i := 0)) (c_cons c_int c_nil)) (hla := (l_cons (l_cons l_nil))))))
    c_nop)
  (c_seq (c_ifs (c_cmpT o_lt (c_loc (i := 1)) c_int)
    (c_seq (c_set (i := 2) sc_l_any_name.nd (c_ix o_ix (c_lst (c_cons c_int (c_cons c_int (c_cons c_int (c_cons c_int (c_cons c_int (c_cons c_int (c_cons (c_op o_add c_int (c_cal C_l_draw_2 hr (by decide) hgd tk (c_cons (c_loc (i := 0)) (c_cons c_int c_nil)) (hla := (l_cons (l_cons l_nil))))) c_nil)))))))) (c_cal C_l_draw_2 hr (by decide) hgd tk (c_cons (c_loc (i := 0)) (c_cons c_int c_nil)) (hla := (l_cons (l_cons l_nil))))))
    (c_seq (c_set (i := 3) sc_l_any_name.nd (c_cal C_l_random_name_2 hr (by decide) hgd tk (c_cons (c_loc (i := 0)) (c_cons c_int c_nil)) (hla := (l_cons (l_cons l_nil)))))
    (c_one (c_ret (c_op o_add (c_loc (i := 3)) (c_op o_mul (c_ix o_ix c_str (c_cal C_l_draw_2 hr (by decide) hgd tk (c_cons (c_loc (i := 0)) (c_cons c_int c_nil)) (hla := (l_cons (l_cons l_nil))))) (c_op o_sub (c_loc (i := 2)) (c_blt b_len T.n_len (by decide +kernel) (c_cons (c_loc (i := 3)) c_nil)))))))))
    c_nop)
  (c_one (c_ret (c_ix o_ix (c_lst (c_cons c_str (c_cons c_str (c_cons c_str (c_cons c_str (c_cons c_str (c_cons c_str (c_cons c_str (c_cons c_str c_nil))))))))) (c_cal C_l_draw_2 hr (by decide) hgd tk (c_cons (c_loc (i := 0)) (c_cons c_int c_nil)) (hla := (l_cons (l_cons l_nil)))))))))))
theorem f_l_codes (T : Txt mg) (D : DefD K mg "_law_codes" s_l_codes [] []) : FnM P w K mg base 1 "_law_codes" s_l_codes ["_law_text"] [] m_l_codes := 
  fn_go D sc_l_codes rfl (fun f cdv A outer s H E hgd hr tk po => (c_one (c_ret (c_comp (own := [("_law_sign", 1)]) rfl sc_l_codes.nd (i_of (c_loc (i := 0))) (blkOk_by (own := [("_law_sign", 1)]) (N := ["_law_text", "_law_sign"]) (sc := defScope s_l_codes) (by decide +kernel)) ct_name (fun _ _ _ _ _ => (pg_name (i := 1) sc_l_codes.nd rfl (Or.inl rfl))) (fun _ _ _ _ _ => ts_nil) (fun _ _ _ _ _ => (c_blt b_ord T.n_ord (by decide +kernel) (c_cons (c_loc (i := 1)) c_nil)))))))
theorem f_l_octal (T : Txt mg) (D : DefD K mg "_law_octal" s_l_octal [] []) : FnM P w K mg base 1 "_law_octal" s_l_octal ["_law_number", "_law_width"] [] m_l_octal := 
  fn_go D sc_l_octal rfl (fun f cdv A outer s H E hgd hr tk po => (c_seq (c_set (i := 2) sc_l_octal.nd (c_lst c_nil))
  (c_seq (c_for po rfl (i_rng1 T.n_range (c_op o_sub (c_loc (i := 1)) c_int)) (g_name (i := 3) sc_l_octal.nd)
    (c_seq (c_exp (c_app (c_loc (i := 2)) (c_op o_add c_int (c_op o_mod (c_bty b_int T.n_int (by decide +kernel) (c_cons (c_loc (i := 0)) c_nil)) c_int))))
    (c_one (c_set (i := 0) sc_l_octal.nd (c_op o_div (c_loc (i := 0)) c_int)))))
  (c_one (c_ret (c_op o_add (c_rev (c_loc (i := 2))) (c_lst (c_cons c_int c_nil))))))))
theorem f_l_head (T : Txt mg) (C_l_octal_2 : CalM P w K mg base 1 "_law_octal" 2 [] [.p 0, .p 1] [] m_l_octal) (C_l_codes_1 : CalM P w K mg base 1 "_law_codes" 1 [] [.p 0] [] m_l_codes) (D : DefD K mg "_law_head" s_l_head [] []) : FnM P w K mg base 2 "_law_head" s_l_head ["_law_letter", "_law_label", "_law_numbers", "_law_aim2"] [] m_l_head := 
  fn_go D sc_l_head rfl (fun f cdv A outer s H E hgd hr tk po => (c_seq (c_set (i := 4) sc_l_head.nd (c_op o_add (c_op o_add (c_op o_add (c_sl (c_op o_add (c_cal C_l_codes_1 hr (by decide) hgd tk (c_cons (c_loc (i := 1)) c_nil) (hla := (l_cons l_nil))) (c_op o_mul (c_lst (c_cons c_int c_nil)) c_int)) p_no (p_some c_int)) (c_cal C_l_octal_2 hr (by decide) hgd tk (c_cons (c_ix o_ix (c_loc (i := 2)) c_int) (c_cons c_int c_nil)) (hla := (l_cons (l_cons l_nil))))) (c_cal C_l_octal_2 hr (by decide) hgd tk (c_cons c_int (c_cons c_int c_nil)) (hla := (l_cons (l_cons l_nil))))) (c_cal C_l_octal_2 hr (by decide) hgd tk (c_cons c_int (c_cons c_int c_nil)) (hla := (l_cons (l_cons l_nil))))))
  (c_seq (c_set (i := 4) sc_l_head.nd (c_op o_add (c_op o_add (c_loc (i := 4)) (c_cal C_l_octal_2 hr (by decide) hgd tk (c_cons (c_ix o_ix (c_loc (i := 2)) c_int) (c_cons c_int c_nil)) (hla := (l_cons (l_cons l_nil))))) (c_cal C_l_octal_2 hr (by decide) hgd tk (c_cons (c_ix o_ix (c_loc (i := 2)) c_int) (c_cons c_int c_nil)) (hla := (l_cons (l_cons l_nil))))))
  (c_seq (c_set (i := 5) sc_l_head.nd (c_op o_add (c_op o_add (c_op o_add (c_op o_add (c_cal C_l_codes_1 hr (by decide) hgd tk (c_cons (c_loc (i := 0)) c_nil) (hla := (l_cons l_nil))) (c_sl (c_op o_add (c_cal C_l_codes_1 hr (by decide) hgd tk (c_cons (c_loc (i := 3)) c_nil) (hla := (l_cons l_nil))) (c_op o_mul (c_lst (c_cons c_int c_nil)) c_int)) p_no (p_some c_int))) (c_cal C_l_codes_1 hr (by decide) hgd tk (c_cons c_str c_nil) (hla := (l_cons l_nil)))) (c_lst (c_cons c_int (c_cons c_int (c_cons c_int c_nil))))) (c_op o_mul (c_lst (c_cons c_int c_nil)) c_int)))
  (c_one (c_ret (c_op o_add (c_op o_add (c_op o_add (c_loc (i := 4)) (c_cal C_l_octal_2 hr (by decide) hgd tk (c_cons (c_op o_add (c_op o_add (c_blt (b_sum rfl) T.n_sum (by decide +kernel) (c_cons (c_loc (i := 4)) c_nil)) (c_blt (b_sum rfl) T.n_sum (by decide +kernel) (c_cons (c_loc (i := 5)) c_nil))) c_int) (c_cons c_int c_nil)) (hla := (l_cons (l_cons l_nil))))) (c_lst (c_cons c_int c_nil))) (c_loc (i := 5)))))))))
theorem f_l_refused (T : Txt mg) {C_NoBlock : Addr} {C_NoMember : Addr} {C_NoData : Addr} {C_NoBlob : Addr} (e_NoBlock : EF K mg P "NoBlock" ["thing"] C_NoBlock) (e_NoMember : EF K mg P "NoMember" ["thing"] C_NoMember) (e_NoData : EF K mg P "NoData" ["thing"] C_NoData) (e_NoBlob : EF K mg P "NoBlob" ["numbers"] C_NoBlob) (C_checksum_1 : CalM P w K mg base 2 "checksum" 1 [] [.p 0] [] m_checksum) (D : DefD K mg "_law_refused" s_l_refused [] []) : FnM P w K mg base 3 "_law_refused" s_l_refused ["_law_thing"] [] m_l_refused := 
  fn_go D sc_l_refused rfl (fun f cdv A outer s H E hgd hr tk po => (c_seq (c_tryAs (c := "NoBlock") (i := 1) rfl rfl sc_l_refused.nd e_NoBlock tk (fun W pn xe tk1 po1 =>
    (c_one (c_exp (c_cal C_checksum_1 hr (by decide) hgd tk1 (c_cons (c_loc (i := 0)) c_nil) (hla := (l_cons l_nil)))))) (fun a oe cls d pn hz hf =>
    (c_seq (c_set (i := 2) sc_l_refused.nd (c_and (c_isX e_NoBlock hz hf T.n_isinstance (c_ty "TypeError" T.n_TypeError)) (c_one' (c_not (c_isX e_NoBlock hz hf T.n_isinstance (c_tup (c_cons (c_cls (c := "NoBlob") e_NoBlob.gm) (c_cons (c_cls (c := "NoData") e_NoData.gm) (c_cons (c_cls (c := "NoMember") e_NoMember.gm) c_nil)))))))))
    (c_one (c_ret (c_and (c_loc (i := 2)) (c_one' (c_cmp (o_eq hr.units) (c_blt (b_rep hgd hr.units) T.n_repr (by decide +kernel) (c_cons (c_xf (f := "thing") e_NoBlock hz hf) c_nil)) (c_blt (b_rep hgd hr.units) T.n_repr (by decide +kernel) (c_cons (c_loc (i := 0)) c_nil))))))))))
  (c_one (c_ret c_bl))))
theorem f_l_total (T : Txt mg) (D : DefD K mg "_law_total" s_l_total [] []) : FnM P w K mg base 1 "_law_total" s_l_total ["_law_numbers"] [] m_l_total := 
  fn_go D sc_l_total rfl (fun f cdv A outer s H E hgd hr tk po => (c_one (c_ret (c_op o_add (c_op o_sub (c_blt (b_sum rfl) T.n_sum (by decide +kernel) (c_cons (c_loc (i := 0)) c_nil)) (c_blt (b_sum rfl) T.n_sum (by decide +kernel) (c_cons (c_sl (c_loc (i := 0)) (p_some c_int) (p_some c_int)) c_nil))) c_int))))
theorem f_law (T : Txt mg) (C_checksum_1 : CalM P w K mg base 2 "checksum" 1 [] [.p 0] [] m_checksum) (C_blob_1 : CalM P w K mg base 3 "blob" 1 [] [.p 0] [] m_blob) (C_l_head_4 : CalM P w K mg base 2 "_law_head" 4 [] [.p 0, .p 1, .p 2, .p 3] [] m_l_head) (C_header_2 : CalM P w K mg base 3 "header" 2 [] [.p 0, .p 1, .d 0, .d 1, .d 2, .d 3] [(.int 0), (.int 0), (.int 0), (.str [])] m_header) (C_l_refused_1 : CalM P w K mg base 3 "_law_refused" 1 [] [.p 0] [] m_l_refused) (C_l_draw_2 : CalM P w K mg base 1 "_law_draw" 2 [] [.p 0, .p 1] [] m_l_draw) (C_l_total_1 : CalM P w K mg base 1 "_law_total" 1 [] [.p 0] [] m_l_total) (C_checksum_0_block : CalM P w K mg base 2 "checksum" 0 ["block"] [.k 0] [] m_checksum) (C_header_0_target_name_kind : CalM P w K mg base 3 "header" 0 ["target", "name", "kind"] [.k 2, .k 1, .d 0, .d 1, .d 2, .k 0] [(.int 0), (.int 0), (.int 0)] m_header) (C_header_2_mode_size_time_target : CalM P w K mg base 3 "header" 2 ["mode", "size", "time", "target"] [.p 0, .p 1, .k 0, .k 1, .k 2, .k 3] [] m_header) (C_l_any_name_1 : CalM P w K mg base 3 "_law_any_name" 1 [] [.p 0] [] m_l_any_name) (C_l_source_2 : CalM P w K mg base 1 "_law_source" 2 [] [.p 0, .p 1] [] m_l_source) (D : DefD K mg "law" s_law [] []) : FnM P w K mg base 4 "law" s_law ["_law_script"] [] m_law := 
  fn_go D sc_law rfl (fun f cdv A outer s H E hgd hr tk po => (c_seq (c_for po rfl (i_rng1 T.n_range (c_blt (b_max rfl) T.n_max (by decide +kernel) (c_cons c_int (c_cons (c_blt (b_min rfl) T.n_min (by decide +kernel) (c_cons c_int (c_cons (c_blt b_len T.n_len (by decide +kernel) (c_cons (c_loc (i := 0)) c_nil)) c_nil))) c_nil)))) (g_name (i := 1) sc_law.nd)
    (c_seq (c_set (i := 2) sc_law.nd (c_cal C_l_source_2 hr (by decide) hgd tk (c_cons (c_loc (i := 0)) (c_cons (c_loc (i := 1)) c_nil)) (hla := (l_cons (l_cons l_nil)))))
    (c_one (c_for po rfl (i_rng1 T.n_range c_int) (g_name (i := 3) sc_law.nd)
      (c_seq (c_set (i := 4) sc_law.nd (c_ix o_ix c_str (c_cal C_l_draw_2 hr (by decide) hgd tk (c_cons (c_loc (i := 2)) (c_cons c_int c_nil)) (hla := (l_cons (l_cons l_nil))))))
      (c_seq (c_set (i := 5) sc_law.nd (c_lst (c_cons c_str (c_cons c_str (c_cons (c_sl (c_cal C_l_any_name_1 hr (by decide) hgd tk (c_cons (c_loc (i := 2)) c_nil) (hla := (l_cons l_nil))) p_no (p_some c_int)) (c_cons (c_sl (c_cal C_l_any_name_1 hr (by decide) hgd tk (c_cons (c_loc (i := 2)) c_nil) (hla := (l_cons l_nil))) p_no (p_some c_int)) c_nil))))))
      (c_seq (c_set (i := 6) sc_law.nd (c_ix o_ix (c_loc (i := 5)) (c_cal C_l_draw_2 hr (by decide) hgd tk (c_cons (c_loc (i := 2)) (c_cons c_int c_nil)) (hla := (l_cons (l_cons l_nil))))))
      (c_seq (c_set (i := 7) sc_law.nd (c_ix o_ix (c_lst (c_cons (c_ix o_ix (c_loc (i := 5)) c_int) (c_cons (c_ix o_ix (c_loc (i := 5)) c_int) c_nil))) (c_cal C_l_draw_2 hr (by decide) hgd tk (c_cons (c_loc (i := 2)) (c_cons c_int c_nil)) (hla := (l_cons (l_cons l_nil))))))
      (c_seq (c_set (i := 8) sc_law.nd (c_lst (c_cons (c_ix o_ix (c_lst (c_cons c_int (c_cons c_int (c_cons c_int (c_cons (c_op o_sub (c_op o_pow c_int c_int) c_int) c_nil))))) (c_cal C_l_draw_2 hr (by decide) hgd tk (c_cons (c_loc (i := 2)) (c_cons c_int c_nil)) (hla := (l_cons (l_cons l_nil))))) (c_cons (c_cal C_l_draw_2 hr (by decide) hgd tk (c_cons (c_loc (i := 2)) (c_cons (c_op o_pow c_int c_int) c_nil)) (hla := (l_cons (l_cons l_nil)))) (c_cons (c_op o_sub (c_op o_pow c_int c_int) c_int) c_nil)))))
      (c_seq (c_put (c_loc (i := 8)) c_int (c_ix o_ix (c_lst (c_cons c_int (c_cons (c_op o_sub (c_op o_pow c_int c_int) c_int) (c_cons (c_cal C_l_draw_2 hr (by decide) hgd tk (c_cons (c_loc (i := 2)) (c_cons (c_op o_pow c_int c_int) c_nil)) (hla := (l_cons (l_cons l_nil)))) c_nil)))) (c_cal C_l_draw_2 hr (by decide) hgd tk (c_cons (c_loc (i := 2)) (c_cons c_int c_nil)) (hla := (l_cons (l_cons l_nil))))))
      (c_seq (c_set (i := 9) sc_law.nd (c_cal C_l_head_4 hr (by decide) hgd tk (c_cons (c_loc (i := 4)) (c_cons (c_loc (i := 6)) (c_cons (c_loc (i := 8)) (c_cons (c_loc (i := 7)) c_nil)))) (hla := (l_cons (l_cons (l_cons (l_cons l_nil)))))))
      (c_seq (c_set (i := 10) sc_law.nd (c_calK C_header_2_mode_size_time_target hr (by decide) hgd tk (c_cons (c_loc (i := 4)) (c_cons (c_loc (i := 6)) c_nil)) (k_cons (c_ix o_ix (c_loc (i := 8)) c_int) (k_cons (c_ix o_ix (c_loc (i := 8)) c_int) (k_cons (c_ix o_ix (c_loc (i := 8)) c_int) (k_cons (c_loc (i := 7)) k_nil)))) (l_cons (l_cons l_nil)) (l_cons (l_cons (l_cons (l_cons l_nil))))))
      (c_seq (c_ifs (PW.pt (c_orT (c_cmpT (o_ne hr.units) (c_bty (b_lst rfl) T.n_list (by decide +kernel) (c_cons (c_loc (i := 10)) c_nil)) (c_loc (i := 9))) (c_or1 (c_cmpT (o_ne hr.units) (c_sl (c_bty (b_lst rfl) T.n_list (by decide +kernel) (c_cons (c_calK0 C_header_0_target_name_kind hr (by decide) hgd tk (k_cons (c_loc (i := 7)) (k_cons (c_loc (i := 6)) (k_cons (c_loc (i := 4)) k_nil))) (l_cons (l_cons (l_cons l_nil)))) c_nil)) p_no (p_some c_int)) (c_sl (c_loc (i := 9)) p_no (p_some c_int))))))
        (c_one (c_ret c_bl))
        c_nop)
      (c_seq (c_ifs (PW.pt (c_orT (c_cmpT (o_ne hr.units) (c_cal C_checksum_1 hr (by decide) hgd tk (c_cons (c_loc (i := 10)) c_nil) (hla := (l_cons l_nil))) (c_cal C_l_total_1 hr (by decide) hgd tk (c_cons (c_loc (i := 9)) c_nil) (hla := (l_cons l_nil)))) (c_or1 (c_cmpT (o_ne hr.units) (c_calK0 C_checksum_0_block hr (by decide) hgd tk (k_cons (c_loc (i := 10)) k_nil) (l_cons l_nil)) (c_cal C_checksum_1 hr (by decide) hgd tk (c_cons (c_loc (i := 10)) c_nil) (hla := (l_cons l_nil)))))))
        (c_one (c_ret c_bl))
        c_nop)
      (c_seq (c_set (i := 11) sc_law.nd (c_cal C_l_draw_2 hr (by decide) hgd tk (c_cons (c_loc (i := 2)) (c_cons c_int c_nil)) (hla := (l_cons (l_cons l_nil)))))
      (c_seq (c_set (i := 12) sc_law.nd (c_op o_add (c_op o_add (c_sl (c_loc (i := 9)) p_no (p_some (c_loc (i := 11)))) (c_lst (c_cons (c_cal C_l_draw_2 hr (by decide) hgd tk (c_cons (c_loc (i := 2)) (c_cons c_int c_nil)) (hla := (l_cons (l_cons l_nil)))) c_nil))) (c_sl (c_loc (i := 9)) (p_some (c_op o_add (c_loc (i := 11)) c_int)) p_no)))
      (c_seq (c_ifs (c_cmpT (o_ne hr.units) (c_cal C_checksum_1 hr (by decide) hgd tk (c_cons (c_cal C_blob_1 hr (by decide) hgd tk (c_cons (c_loc (i := 12)) c_nil) (hla := (l_cons l_nil))) c_nil) (hla := (l_cons l_nil))) (c_cal C_l_total_1 hr (by decide) hgd tk (c_cons (c_loc (i := 12)) c_nil) (hla := (l_cons l_nil))))
        (c_one (c_ret c_bl))
        c_nop)
      (c_seq (c_set (i := 13) sc_law.nd (c_ix o_ix (c_lst (c_cons c_non (c_cons (c_loc (i := 9)) (c_cons (c_op o_mul c_str c_int) (c_cons (c_cal C_blob_1 hr (by decide) hgd tk (c_cons (c_sl (c_loc (i := 9)) p_no (p_some c_int)) c_nil) (hla := (l_cons l_nil))) (c_cons (c_cal C_blob_1 hr (by decide) hgd tk (c_cons (c_op o_add (c_loc (i := 9)) (c_lst (c_cons c_int c_nil))) c_nil) (hla := (l_cons l_nil))) (c_cons (c_cal C_blob_1 hr (by decide) hgd tk (c_cons (c_lst c_nil) c_nil) (hla := (l_cons l_nil))) (c_cons c_int c_nil)))))))) (c_cal C_l_draw_2 hr (by decide) hgd tk (c_cons (c_loc (i := 2)) (c_cons c_int c_nil)) (hla := (l_cons (l_cons l_nil))))))
      (c_one (c_ifs (c_notT (c_tru (c_cal C_l_refused_1 hr (by decide) hgd tk (c_cons (c_loc (i := 13)) c_nil) (hla := (l_cons l_nil)))))
        (c_one (c_ret c_bl))
        c_nop))))))))))))))))))))
  (c_seq (c_set (i := 14) sc_law.nd (c_cal C_header_2 hr (by decide) hgd tk (c_cons c_str (c_cons c_str c_nil)) (hla := (l_cons (l_cons l_nil)))))
  (c_one (c_ret (c_and (c_cmp (o_eq hr.units) (c_bty (b_lst rfl) T.n_list (by decide +kernel) (c_cons (c_loc (i := 14)) c_nil)) (c_cal C_l_head_4 hr (by decide) hgd tk (c_cons c_str (c_cons c_str (c_cons (c_tup (c_cons c_int (c_cons c_int (c_cons c_int c_nil)))) (c_cons c_str c_nil)))) (hla := (l_cons (l_cons (l_cons (l_cons l_nil))))))) (c_one' (c_cmp (o_eq hr.units) (c_cal C_checksum_1 hr (by decide) hgd tk (c_cons (c_cal C_blob_1 hr (by decide) hgd tk (c_cons (c_op o_mul (c_lst (c_cons c_int c_nil)) c_int) c_nil) (hla := (l_cons l_nil))) c_nil) (hla := (l_cons l_nil))) (c_op o_add (c_op o_mul c_int c_int) c_int)))))))))
theorem cal_is_integer_1 (c : FnM P w K mg base 1 "is_integer" s_is_integer ["thing"] [] m_is_integer) : CalM P w K mg base 1 "is_integer" 1 [] [.p 0] [] m_is_integer :=
  c.cal 1 [] [.p 0] (by decide) (by simp) (fun kV doc pm an cdv ct us ws l1 l2 => match us, ws, l1, l2 with | [_], [], _, _ => rfl)
theorem cal_is_within_3 (c : FnM P w K mg base 2 "is_within" s_is_within ["thing", "low", "high"] [] m_is_within) : CalM P w K mg base 2 "is_within" 3 [] [.p 0, .p 1, .p 2] [] m_is_within :=
  c.cal 3 [] [.p 0, .p 1, .p 2] (by decide) (by simp) (fun kV doc pm an cdv ct us ws l1 l2 => match us, ws, l1, l2 with | [_, _, _], [], _, _ => rfl)
theorem cal_sum_of_1 (c : FnM P w K mg base 1 "sum_of" s_sum_of ["block"] [] m_sum_of) : CalM P w K mg base 1 "sum_of" 1 [] [.p 0] [] m_sum_of :=
  c.cal 1 [] [.p 0] (by decide) (by simp) (fun kV doc pm an cdv ct us ws l1 l2 => match us, ws, l1, l2 with | [_], [], _, _ => rfl)
theorem cal_octal_field_2 (c : FnM P w K mg base 1 "octal_field" s_octal_field ["number", "width"] [] m_octal_field) : CalM P w K mg base 1 "octal_field" 2 [] [.p 0, .p 1] [] m_octal_field :=
  c.cal 2 [] [.p 0, .p 1] (by decide) (by simp) (fun kV doc pm an cdv ct us ws l1 l2 => match us, ws, l1, l2 with | [_, _], [], _, _ => rfl)
theorem cal_checksum_field_1 (c : FnM P w K mg base 2 "checksum_field" s_checksum_field ["block"] [] m_checksum_field) : CalM P w K mg base 2 "checksum_field" 1 [] [.p 0] [] m_checksum_field :=
  c.cal 1 [] [.p 0] (by decide) (by simp) (fun kV doc pm an cdv ct us ws l1 l2 => match us, ws, l1, l2 with | [_], [], _, _ => rfl)
theorem cal_text_field_2 (c : FnM P w K mg base 1 "text_field" s_text_field ["text", "width"] [] m_text_field) : CalM P w K mg base 1 "text_field" 2 [] [.p 0, .p 1] [] m_text_field :=
  c.cal 2 [] [.p 0, .p 1] (by decide) (by simp) (fun kV doc pm an cdv ct us ws l1 l2 => match us, ws, l1, l2 with | [_, _], [], _, _ => rfl)
theorem cal_magic_field_0 (c : FnM P w K mg base 1 "magic_field" s_magic_field [] [] m_magic_field) : CalM P w K mg base 1 "magic_field" 0 [] [] [] m_magic_field :=
  c.cal 0 [] [] (by decide) (by simp) (fun kV doc pm an cdv ct us ws l1 l2 => match us, ws, l1, l2 with | [], [], _, _ => rfl)
theorem cal_l_draw_2 (c : FnM P w K mg base 1 "_law_draw" s_l_draw ["_law_source_here", "_law_many"] [] m_l_draw) : CalM P w K mg base 1 "_law_draw" 2 [] [.p 0, .p 1] [] m_l_draw :=
  c.cal 2 [] [.p 0, .p 1] (by decide) (by simp) (fun kV doc pm an cdv ct us ws l1 l2 => match us, ws, l1, l2 with | [_, _], [], _, _ => rfl)
theorem cal_l_random_name_2 (c : FnM P w K mg base 2 "_law_random_name" s_l_random_name ["_law_source_here", "_law_many"] [] m_l_random_name) : CalM P w K mg base 2 "_law_random_name" 2 [] [.p 0, .p 1] [] m_l_random_name :=
  c.cal 2 [] [.p 0, .p 1] (by decide) (by simp) (fun kV doc pm an cdv ct us ws l1 l2 => match us, ws, l1, l2 with | [_, _], [], _, _ => rfl)
theorem cal_l_octal_2 (c : FnM P w K mg base 1 "_law_octal" s_l_octal ["_law_number", "_law_width"] [] m_l_octal) : CalM P w K mg base 1 "_law_octal" 2 [] [.p 0, .p 1] [] m_l_octal :=
  c.cal 2 [] [.p 0, .p 1] (by decide) (by simp) (fun kV doc pm an cdv ct us ws l1 l2 => match us, ws, l1, l2 with | [_, _], [], _, _ => rfl)
theorem cal_l_codes_1 (c : FnM P w K mg base 1 "_law_codes" s_l_codes ["_law_text"] [] m_l_codes) : CalM P w K mg base 1 "_law_codes" 1 [] [.p 0] [] m_l_codes :=
  c.cal 1 [] [.p 0] (by decide) (by simp) (fun kV doc pm an cdv ct us ws l1 l2 => match us, ws, l1, l2 with | [_], [], _, _ => rfl)
theorem cal_checksum_1 (c : FnM P w K mg base 2 "checksum" s_checksum ["block"] [] m_checksum) : CalM P w K mg base 2 "checksum" 1 [] [.p 0] [] m_checksum :=
  c.cal 1 [] [.p 0] (by decide) (by simp) (fun kV doc pm an cdv ct us ws l1 l2 => match us, ws, l1, l2 with | [_], [], _, _ => rfl)
theorem cal_blob_1 (c : FnM P w K mg base 3 "blob" s_blob ["numbers"] [] m_blob) : CalM P w K mg base 3 "blob" 1 [] [.p 0] [] m_blob :=
  c.cal 1 [] [.p 0] (by decide) (by simp) (fun kV doc pm an cdv ct us ws l1 l2 => match us, ws, l1, l2 with | [_], [], _, _ => rfl)
theorem cal_l_head_4 (c : FnM P w K mg base 2 "_law_head" s_l_head ["_law_letter", "_law_label", "_law_numbers", "_law_aim2"] [] m_l_head) : CalM P w K mg base 2 "_law_head" 4 [] [.p 0, .p 1, .p 2, .p 3] [] m_l_head :=
  c.cal 4 [] [.p 0, .p 1, .p 2, .p 3] (by decide) (by simp) (fun kV doc pm an cdv ct us ws l1 l2 => match us, ws, l1, l2 with | [_, _, _, _], [], _, _ => rfl)
theorem cal_header_2 (c : FnM P w K mg base 3 "header" s_header ["kind", "name", "mode", "size", "time", "target"] [("mode", .int 0), ("size", .int 0), ("time", .int 0), ("target", .str (SX.S []))] m_header) : CalM P w K mg base 3 "header" 2 [] [.p 0, .p 1, .d 0, .d 1, .d 2, .d 3] [(.int 0), (.int 0), (.int 0), (.str [])] m_header :=
  c.calD 2 [] [.p 0, .p 1, .d 0, .d 1, .d 2, .d 3] [("mode", .int 0), ("size", .int 0), ("time", .int 0), ("target", .str (SX.S []))] [(.int 0), (.int 0), (.int 0), (.str [])] (by decide) (by simp) ⟨_, _, rfl, rfl, ⟨_, _, rfl, rfl, ⟨_, _, rfl, rfl, ⟨_, _, rfl, rfl, rfl⟩⟩⟩⟩ (by decide) (by simp) (fun D doc pm an cdv ct us mv ws l1 l2 l3 => match us, mv, ws, l1, l2, l3 with | [_, _], [_, _, _, _], [], _, _, _ => ⟨_, _, _, _, _, _, rfl, rfl, _, _, _, _, _, _, rfl, rfl, _, _, _, _, _, _, rfl, rfl, _, _, _, _, _, _, rfl, rfl, rfl⟩)
theorem cal_l_refused_1 (c : FnM P w K mg base 3 "_law_refused" s_l_refused ["_law_thing"] [] m_l_refused) : CalM P w K mg base 3 "_law_refused" 1 [] [.p 0] [] m_l_refused :=
  c.cal 1 [] [.p 0] (by decide) (by simp) (fun kV doc pm an cdv ct us ws l1 l2 => match us, ws, l1, l2 with | [_], [], _, _ => rfl)
theorem cal_l_total_1 (c : FnM P w K mg base 1 "_law_total" s_l_total ["_law_numbers"] [] m_l_total) : CalM P w K mg base 1 "_law_total" 1 [] [.p 0] [] m_l_total :=
  c.cal 1 [] [.p 0] (by decide) (by simp) (fun kV doc pm an cdv ct us ws l1 l2 => match us, ws, l1, l2 with | [_], [], _, _ => rfl)
theorem cal_checksum_0_block (c : FnM P w K mg base 2 "checksum" s_checksum ["block"] [] m_checksum) : CalM P w K mg base 2 "checksum" 0 ["block"] [.k 0] [] m_checksum :=
  c.cal 0 ["block"] [.k 0] (by decide) (by simp) (fun kV doc pm an cdv ct us ws l1 l2 => match us, ws, l1, l2 with | [], [_], _, _ => rfl)
theorem cal_header_0_target_name_kind (c : FnM P w K mg base 3 "header" s_header ["kind", "name", "mode", "size", "time", "target"] [("mode", .int 0), ("size", .int 0), ("time", .int 0), ("target", .str (SX.S []))] m_header) : CalM P w K mg base 3 "header" 0 ["target", "name", "kind"] [.k 2, .k 1, .d 0, .d 1, .d 2, .k 0] [(.int 0), (.int 0), (.int 0)] m_header :=
  c.calD 0 ["target", "name", "kind"] [.k 2, .k 1, .d 0, .d 1, .d 2, .k 0] [("mode", .int 0), ("size", .int 0), ("time", .int 0)] [(.int 0), (.int 0), (.int 0)] (by decide) (by simp) ⟨_, _, rfl, rfl, ⟨_, _, rfl, rfl, ⟨_, _, rfl, rfl, rfl⟩⟩⟩ (by decide) (by simp) (fun D doc pm an cdv ct us mv ws l1 l2 l3 => match us, mv, ws, l1, l2, l3 with | [], [_, _, _], [_, _, _], _, _, _ => ⟨_, _, _, _, _, _, rfl, rfl, _, _, _, _, _, _, rfl, rfl, _, _, _, _, _, _, rfl, rfl, rfl⟩)
theorem cal_header_2_mode_size_time_target (c : FnM P w K mg base 3 "header" s_header ["kind", "name", "mode", "size", "time", "target"] [("mode", .int 0), ("size", .int 0), ("time", .int 0), ("target", .str (SX.S []))] m_header) : CalM P w K mg base 3 "header" 2 ["mode", "size", "time", "target"] [.p 0, .p 1, .k 0, .k 1, .k 2, .k 3] [] m_header :=
  c.cal 2 ["mode", "size", "time", "target"] [.p 0, .p 1, .k 0, .k 1, .k 2, .k 3] (by decide) (by simp) (fun kV doc pm an cdv ct us ws l1 l2 => match us, ws, l1, l2 with | [_, _], [_, _, _, _], _, _ => rfl)
theorem cal_l_any_name_1 (c : FnM P w K mg base 3 "_law_any_name" s_l_any_name ["_law_source_here"] [] m_l_any_name) : CalM P w K mg base 3 "_law_any_name" 1 [] [.p 0] [] m_l_any_name :=
  c.cal 1 [] [.p 0] (by decide) (by simp) (fun kV doc pm an cdv ct us ws l1 l2 => match us, ws, l1, l2 with | [_], [], _, _ => rfl)
theorem cal_l_source_2 (c : FnM P w K mg base 1 "_law_source" s_l_source ["_law_script", "_law_at"] [] m_l_source) : CalM P w K mg base 1 "_law_source" 2 [] [.p 0, .p 1] [] m_l_source :=
  c.cal 2 [] [.p 0, .p 1] (by decide) (by simp) (fun kV doc pm an cdv ct us ws l1 l2 => match us, ws, l1, l2 with | [_, _], [], _, _ => rfl)
end
end K5

set_option autoImplicit false
namespace K5
open PySem PySem.Spec PyProof.Rows L2 Tar
abbrev i_NoBlob : Stmt := inClass (top 1) 0
theorem ix_NoBlob : IniX i_NoBlob ["numbers"] := ⟨fun qual kV doc pm an cd ct cc us h => match us, h with | [_, _], _ => rfl, ⟨_, rfl, rfl⟩, rfl, rfl, rfl, by decide +kernel, by decide +kernel, by decide +kernel, by decide +kernel, rfl, rfl, ⟨_, _, _, _, _, _, _, _, _, rfl, (.cons .nil), fun qual kV doc pm an cd ct cc L fI => ⟨_, rfl⟩⟩⟩
abbrev i_NoData : Stmt := inClass (top 2) 0
theorem ix_NoData : IniX i_NoData ["thing"] := ⟨fun qual kV doc pm an cd ct cc us h => match us, h with | [_, _], _ => rfl, ⟨_, rfl, rfl⟩, rfl, rfl, rfl, by decide +kernel, by decide +kernel, by decide +kernel, by decide +kernel, rfl, rfl, ⟨_, _, _, _, _, _, _, _, _, rfl, (.cons .nil), fun qual kV doc pm an cd ct cc L fI => ⟨_, rfl⟩⟩⟩
abbrev i_NoBlock : Stmt := inClass (top 3) 0
theorem ix_NoBlock : IniX i_NoBlock ["thing"] := ⟨fun qual kV doc pm an cd ct cc us h => match us, h with | [_, _], _ => rfl, ⟨_, rfl, rfl⟩, rfl, rfl, rfl, by decide +kernel, by decide +kernel, by decide +kernel, by decide +kernel, rfl, rfl, ⟨_, _, _, _, _, _, _, _, _, rfl, (.cons .nil), fun qual kV doc pm an cd ct cc L fI => ⟨_, rfl⟩⟩⟩
abbrev i_NoMember : Stmt := inClass (top 4) 0
theorem ix_NoMember : IniX i_NoMember ["thing"] := ⟨fun qual kV doc pm an cd ct cc us h => match us, h with | [_, _], _ => rfl, ⟨_, rfl, rfl⟩, rfl, rfl, rfl, by decide +kernel, by decide +kernel, by decide +kernel, by decide +kernel, rfl, rfl, ⟨_, _, _, _, _, _, _, _, _, rfl, (.cons .nil), fun qual kV doc pm an cd ct cc L fI => ⟨_, rfl⟩⟩⟩
theorem all_mk {l : PySem.W.OpenLaw} {w : World} {K : PySem.W.Frag} {h : Heap} {mg : Str → Option Value} {fa : Addr} (X : K.In h) (G : h.Ns mainGlobals mg) (hfa : mg "law" = some (.ref fa))
    {f0 : Addr} {od0 an0 : Option Addr} {sl0 : Array (Option Value)} {oc0 dc0 pm0 cd0 ct0 : Value}
    {kV0 : Value}
    {f1 : Addr} {od1 an1 : Option Addr} {sl1 : Array (Option Value)} {oc1 dc1 pm1 cd1 ct1 : Value}
    {kV1 : Value}
    {f2 : Addr} {od2 an2 : Option Addr} {sl2 : Array (Option Value)} {oc2 dc2 pm2 cd2 ct2 : Value}
    {kV2 : Value}
    {f3 : Addr} {od3 an3 : Option Addr} {sl3 : Array (Option Value)} {oc3 dc3 pm3 cd3 ct3 : Value}
    {kV3 : Value}
    {f4 : Addr} {od4 an4 : Option Addr} {sl4 : Array (Option Value)} {oc4 dc4 pm4 cd4 ct4 : Value}
    {kV4 : Value}
    {f5 : Addr} {od5 an5 : Option Addr} {sl5 : Array (Option Value)} {oc5 dc5 pm5 cd5 ct5 : Value}
    {kV5 : Value}
    {f6 : Addr} {od6 an6 : Option Addr} {sl6 : Array (Option Value)} {oc6 dc6 pm6 cd6 ct6 : Value}
    {kV6 : Value}
    {f7 : Addr} {od7 an7 : Option Addr} {sl7 : Array (Option Value)} {oc7 dc7 pm7 cd7 ct7 : Value}
    {kV7 : Value}
    {f8 : Addr} {od8 an8 : Option Addr} {sl8 : Array (Option Value)} {oc8 dc8 pm8 cd8 ct8 : Value}
    {kV8 : Value}
    {f9 : Addr} {od9 an9 : Option Addr} {sl9 : Array (Option Value)} {oc9 dc9 pm9 cd9 ct9 : Value}
    {kD9 : Addr}
    {kt9_0 : Tok}
    {kt9_1 : Tok}
    {kt9_2 : Tok}
    {kt9_3 : Tok}
    {f10 : Addr} {od10 an10 : Option Addr} {sl10 : Array (Option Value)} {oc10 dc10 pm10 cd10 ct10 : Value}
    {kV10 : Value}
    {f11 : Addr} {od11 an11 : Option Addr} {sl11 : Array (Option Value)} {oc11 dc11 pm11 cd11 ct11 : Value}
    {kV11 : Value}
    {f12 : Addr} {od12 an12 : Option Addr} {sl12 : Array (Option Value)} {oc12 dc12 pm12 cd12 ct12 : Value}
    {kV12 : Value}
    {f13 : Addr} {od13 an13 : Option Addr} {sl13 : Array (Option Value)} {oc13 dc13 pm13 cd13 ct13 : Value}
    {kV13 : Value}
    {f14 : Addr} {od14 an14 : Option Addr} {sl14 : Array (Option Value)} {oc14 dc14 pm14 cd14 ct14 : Value}
    {kV14 : Value}
    {f15 : Addr} {od15 an15 : Option Addr} {sl15 : Array (Option Value)} {oc15 dc15 pm15 cd15 ct15 : Value}
    {kV15 : Value}
    {f16 : Addr} {od16 an16 : Option Addr} {sl16 : Array (Option Value)} {oc16 dc16 pm16 cd16 ct16 : Value}
    {kV16 : Value}
    {f17 : Addr} {od17 an17 : Option Addr} {sl17 : Array (Option Value)} {oc17 dc17 pm17 cd17 ct17 : Value}
    {kV17 : Value}
    {f18 : Addr} {od18 an18 : Option Addr} {sl18 : Array (Option Value)} {oc18 dc18 pm18 cd18 ct18 : Value}
    {kV18 : Value}
    {f19 : Addr} {od19 an19 : Option Addr} {sl19 : Array (Option Value)} {oc19 dc19 pm19 cd19 ct19 : Value}
    {kV19 : Value}
    {tk0 : Tok}
    {tk1 : Tok}
    {C0 fI0 cda0 cc0 : Addr} {ec0 ek0 eo0 ep0 et0 cl0 ccl0 : Value} {eod0 ean0 cld0 cdd0 : Option Addr} {esl0 csl0 ccs0 : Array (Option Value)} {vs0 : Array Value} {file0 : Str} {etk0 : Tok} {cdD0 : ClassData}
    {C1 fI1 cda1 cc1 : Addr} {ec1 ek1 eo1 ep1 et1 cl1 ccl1 : Value} {eod1 ean1 cld1 cdd1 : Option Addr} {esl1 csl1 ccs1 : Array (Option Value)} {vs1 : Array Value} {file1 : Str} {etk1 : Tok} {cdD1 : ClassData}
    {C2 fI2 cda2 cc2 : Addr} {ec2 ek2 eo2 ep2 et2 cl2 ccl2 : Value} {eod2 ean2 cld2 cdd2 : Option Addr} {esl2 csl2 ccs2 : Array (Option Value)} {vs2 : Array Value} {file2 : Str} {etk2 : Tok} {cdD2 : ClassData}
    {C3 fI3 cda3 cc3 : Addr} {ec3 ek3 eo3 ep3 et3 cl3 ccl3 : Value} {eod3 ean3 cld3 cdd3 : Option Addr} {esl3 csl3 ccs3 : Array (Option Value)} {vs3 : Array Value} {file3 : Str} {etk3 : Tok} {cdD3 : ClassData}
    (a0 : PySem.W.nsIn K mainGlobals "is_integer" = some (some (.ref f0)))
    (l0 : K.lookup f0 = some ⟨oc0, od0, .func (PySem.W.fnOf "is_integer" "is_integer" (defArgs s_is_integer) (defBody s_is_integer) (defScope s_is_integer) .none kV0 dc0 pm0 an0 cd0 ct0), sl0⟩)
    (c0 : PySem.W.codeIn K cd0 "is_integer" = true)
    (k0 : PySem.W.keepIn K (.ref f0) = true)
    (a1 : PySem.W.nsIn K mainGlobals "is_within" = some (some (.ref f1)))
    (l1 : K.lookup f1 = some ⟨oc1, od1, .func (PySem.W.fnOf "is_within" "is_within" (defArgs s_is_within) (defBody s_is_within) (defScope s_is_within) .none kV1 dc1 pm1 an1 cd1 ct1), sl1⟩)
    (c1 : PySem.W.codeIn K cd1 "is_within" = true)
    (k1 : PySem.W.keepIn K (.ref f1) = true)
    (a2 : PySem.W.nsIn K mainGlobals "blob" = some (some (.ref f2)))
    (l2 : K.lookup f2 = some ⟨oc2, od2, .func (PySem.W.fnOf "blob" "blob" (defArgs s_blob) (defBody s_blob) (defScope s_blob) .none kV2 dc2 pm2 an2 cd2 ct2), sl2⟩)
    (c2 : PySem.W.codeIn K cd2 "blob" = true)
    (k2 : PySem.W.keepIn K (.ref f2) = true)
    (a3 : PySem.W.nsIn K mainGlobals "text_field" = some (some (.ref f3)))
    (l3 : K.lookup f3 = some ⟨oc3, od3, .func (PySem.W.fnOf "text_field" "text_field" (defArgs s_text_field) (defBody s_text_field) (defScope s_text_field) .none kV3 dc3 pm3 an3 cd3 ct3), sl3⟩)
    (c3 : PySem.W.codeIn K cd3 "text_field" = true)
    (k3 : PySem.W.keepIn K (.ref f3) = true)
    (a4 : PySem.W.nsIn K mainGlobals "octal_field" = some (some (.ref f4)))
    (l4 : K.lookup f4 = some ⟨oc4, od4, .func (PySem.W.fnOf "octal_field" "octal_field" (defArgs s_octal_field) (defBody s_octal_field) (defScope s_octal_field) .none kV4 dc4 pm4 an4 cd4 ct4), sl4⟩)
    (c4 : PySem.W.codeIn K cd4 "octal_field" = true)
    (k4 : PySem.W.keepIn K (.ref f4) = true)
    (a5 : PySem.W.nsIn K mainGlobals "sum_of" = some (some (.ref f5)))
    (l5 : K.lookup f5 = some ⟨oc5, od5, .func (PySem.W.fnOf "sum_of" "sum_of" (defArgs s_sum_of) (defBody s_sum_of) (defScope s_sum_of) .none kV5 dc5 pm5 an5 cd5 ct5), sl5⟩)
    (c5 : PySem.W.codeIn K cd5 "sum_of" = true)
    (k5 : PySem.W.keepIn K (.ref f5) = true)
    (a6 : PySem.W.nsIn K mainGlobals "checksum" = some (some (.ref f6)))
    (l6 : K.lookup f6 = some ⟨oc6, od6, .func (PySem.W.fnOf "checksum" "checksum" (defArgs s_checksum) (defBody s_checksum) (defScope s_checksum) .none kV6 dc6 pm6 an6 cd6 ct6), sl6⟩)
    (c6 : PySem.W.codeIn K cd6 "checksum" = true)
    (k6 : PySem.W.keepIn K (.ref f6) = true)
    (a7 : PySem.W.nsIn K mainGlobals "checksum_field" = some (some (.ref f7)))
    (l7 : K.lookup f7 = some ⟨oc7, od7, .func (PySem.W.fnOf "checksum_field" "checksum_field" (defArgs s_checksum_field) (defBody s_checksum_field) (defScope s_checksum_field) .none kV7 dc7 pm7 an7 cd7 ct7), sl7⟩)
    (c7 : PySem.W.codeIn K cd7 "checksum_field" = true)
    (k7 : PySem.W.keepIn K (.ref f7) = true)
    (a8 : PySem.W.nsIn K mainGlobals "magic_field" = some (some (.ref f8)))
    (l8 : K.lookup f8 = some ⟨oc8, od8, .func (PySem.W.fnOf "magic_field" "magic_field" (defArgs s_magic_field) (defBody s_magic_field) (defScope s_magic_field) .none kV8 dc8 pm8 an8 cd8 ct8), sl8⟩)
    (c8 : PySem.W.codeIn K cd8 "magic_field" = true)
    (k8 : PySem.W.keepIn K (.ref f8) = true)
    (a9 : PySem.W.nsIn K mainGlobals "header" = some (some (.ref f9)))
    (l9 : K.lookup f9 = some ⟨oc9, od9, .func (PySem.W.fnOf "header" "header" (defArgs s_header) (defBody s_header) (defScope s_header) .none (.ref kD9) dc9 pm9 an9 cd9 ct9), sl9⟩)
    (c9 : PySem.W.codeIn K cd9 "header" = true)
    (k9 : PySem.W.keepIn K (.ref f9) = true)
    (kw9_0 : PySem.W.nsIn K kD9 "mode" = some (some (.int 0 kt9_0)))
    (kw9_1 : PySem.W.nsIn K kD9 "size" = some (some (.int 0 kt9_1)))
    (kw9_2 : PySem.W.nsIn K kD9 "time" = some (some (.int 0 kt9_2)))
    (kw9_3 : PySem.W.nsIn K kD9 "target" = some (some (.str "" kt9_3)))
    (a10 : PySem.W.nsIn K mainGlobals "_law_source" = some (some (.ref f10)))
    (l10 : K.lookup f10 = some ⟨oc10, od10, .func (PySem.W.fnOf "_law_source" "_law_source" (defArgs s_l_source) (defBody s_l_source) (defScope s_l_source) .none kV10 dc10 pm10 an10 cd10 ct10), sl10⟩)
    (c10 : PySem.W.codeIn K cd10 "_law_source" = true)
    (k10 : PySem.W.keepIn K (.ref f10) = true)
    (a11 : PySem.W.nsIn K mainGlobals "_law_draw" = some (some (.ref f11)))
    (l11 : K.lookup f11 = some ⟨oc11, od11, .func (PySem.W.fnOf "_law_draw" "_law_draw" (defArgs s_l_draw) (defBody s_l_draw) (defScope s_l_draw) .none kV11 dc11 pm11 an11 cd11 ct11), sl11⟩)
    (c11 : PySem.W.codeIn K cd11 "_law_draw" = true)
    (k11 : PySem.W.keepIn K (.ref f11) = true)
    (a12 : PySem.W.nsIn K mainGlobals "_law_random_name" = some (some (.ref f12)))
    (l12 : K.lookup f12 = some ⟨oc12, od12, .func (PySem.W.fnOf "_law_random_name" "_law_random_name" (defArgs s_l_random_name) (defBody s_l_random_name) (defScope s_l_random_name) .none kV12 dc12 pm12 an12 cd12 ct12), sl12⟩)
    (c12 : PySem.W.codeIn K cd12 "_law_random_name" = true)
    (k12 : PySem.W.keepIn K (.ref f12) = true)
    (a13 : PySem.W.nsIn K mainGlobals "_law_any_name" = some (some (.ref f13)))
    (l13 : K.lookup f13 = some ⟨oc13, od13, .func (PySem.W.fnOf "_law_any_name" "_law_any_name" (defArgs s_l_any_name) (defBody s_l_any_name) (defScope s_l_any_name) .none kV13 dc13 pm13 an13 cd13 ct13), sl13⟩)
    (c13 : PySem.W.codeIn K cd13 "_law_any_name" = true)
    (k13 : PySem.W.keepIn K (.ref f13) = true)
    (a14 : PySem.W.nsIn K mainGlobals "_law_codes" = some (some (.ref f14)))
    (l14 : K.lookup f14 = some ⟨oc14, od14, .func (PySem.W.fnOf "_law_codes" "_law_codes" (defArgs s_l_codes) (defBody s_l_codes) (defScope s_l_codes) .none kV14 dc14 pm14 an14 cd14 ct14), sl14⟩)
    (c14 : PySem.W.codeIn K cd14 "_law_codes" = true)
    (k14 : PySem.W.keepIn K (.ref f14) = true)
    (a15 : PySem.W.nsIn K mainGlobals "_law_octal" = some (some (.ref f15)))
    (l15 : K.lookup f15 = some ⟨oc15, od15, .func (PySem.W.fnOf "_law_octal" "_law_octal" (defArgs s_l_octal) (defBody s_l_octal) (defScope s_l_octal) .none kV15 dc15 pm15 an15 cd15 ct15), sl15⟩)
    (c15 : PySem.W.codeIn K cd15 "_law_octal" = true)
    (k15 : PySem.W.keepIn K (.ref f15) = true)
    (a16 : PySem.W.nsIn K mainGlobals "_law_head" = some (some (.ref f16)))
    (l16 : K.lookup f16 = some ⟨oc16, od16, .func (PySem.W.fnOf "_law_head" "_law_head" (defArgs s_l_head) (defBody s_l_head) (defScope s_l_head) .none kV16 dc16 pm16 an16 cd16 ct16), sl16⟩)
    (c16 : PySem.W.codeIn K cd16 "_law_head" = true)
    (k16 : PySem.W.keepIn K (.ref f16) = true)
    (a17 : PySem.W.nsIn K mainGlobals "_law_refused" = some (some (.ref f17)))
    (l17 : K.lookup f17 = some ⟨oc17, od17, .func (PySem.W.fnOf "_law_refused" "_law_refused" (defArgs s_l_refused) (defBody s_l_refused) (defScope s_l_refused) .none kV17 dc17 pm17 an17 cd17 ct17), sl17⟩)
    (c17 : PySem.W.codeIn K cd17 "_law_refused" = true)
    (k17 : PySem.W.keepIn K (.ref f17) = true)
    (a18 : PySem.W.nsIn K mainGlobals "_law_total" = some (some (.ref f18)))
    (l18 : K.lookup f18 = some ⟨oc18, od18, .func (PySem.W.fnOf "_law_total" "_law_total" (defArgs s_l_total) (defBody s_l_total) (defScope s_l_total) .none kV18 dc18 pm18 an18 cd18 ct18), sl18⟩)
    (c18 : PySem.W.codeIn K cd18 "_law_total" = true)
    (k18 : PySem.W.keepIn K (.ref f18) = true)
    (a19 : PySem.W.nsIn K mainGlobals "law" = some (some (.ref f19)))
    (l19 : K.lookup f19 = some ⟨oc19, od19, .func (PySem.W.fnOf "law" "law" (defArgs s_law) (defBody s_law) (defScope s_law) .none kV19 dc19 pm19 an19 cd19 ct19), sl19⟩)
    (c19 : PySem.W.codeIn K cd19 "law" = true)
    (k19 : PySem.W.keepIn K (.ref f19) = true)
    (z0 : PySem.W.nsIn K mainGlobals "bool" = some none)
    (z1 : PySem.W.nsIn K mainGlobals "isinstance" = some none)
    (z2 : PySem.W.nsIn K mainGlobals "int" = some none)
    (z3 : PySem.W.nsIn K mainGlobals "bytes" = some none)
    (z4 : PySem.W.nsIn K mainGlobals "all" = some none)
    (z5 : PySem.W.nsIn K mainGlobals "tuple" = some none)
    (z6 : PySem.W.nsIn K mainGlobals "list" = some none)
    (z7 : PySem.W.nsIn K mainGlobals "sum" = some none)
    (z8 : PySem.W.nsIn K mainGlobals "ord" = some none)
    (z9 : PySem.W.nsIn K mainGlobals "len" = some none)
    (z10 : PySem.W.nsIn K mainGlobals "range" = some none)
    (z11 : PySem.W.nsIn K mainGlobals "min" = some none)
    (z12 : PySem.W.nsIn K mainGlobals "abs" = some none)
    (z13 : PySem.W.nsIn K mainGlobals "repr" = some none)
    (z14 : PySem.W.nsIn K mainGlobals "TypeError" = some none)
    (z15 : PySem.W.nsIn K mainGlobals "max" = some none)
    (cst0 : PySem.W.nsIn K mainGlobals "BLOCK" = some (some (.int 512 tk0)))
    (cst1 : PySem.W.nsIn K mainGlobals "MAGIC" = some (some (.str "ustar" tk1)))
    (y0 : PySem.W.nsIn K mainGlobals "NoName" = some none)
    (y1 : PySem.W.nsIn K mainGlobals "NoMode" = some none)
    (y2 : PySem.W.nsIn K mainGlobals "NoTime" = some none)
    (y3 : PySem.W.nsIn K mainGlobals "NoSize" = some none)
    (y4 : PySem.W.nsIn K mainGlobals "NoPieces" = some none)
    (y5 : PySem.W.nsIn K mainGlobals "TooMany" = some none)
    (y6 : PySem.W.nsIn K mainGlobals "Closed" = some none)
    (y7 : PySem.W.nsIn K mainGlobals "NoOffset" = some none)
    (y8 : PySem.W.nsIn K mainGlobals "Torn" = some none)
    (y9 : PySem.W.nsIn K mainGlobals "Wrong" = some none)
    (y10 : PySem.W.nsIn K mainGlobals "NoHouse" = some none)
    (y11 : PySem.W.nsIn K mainGlobals "NoPath" = some none)
    (y12 : PySem.W.nsIn K mainGlobals "Refused" = some none)
    (y13 : PySem.W.nsIn K mainGlobals "NoIndex" = some none)
    (y14 : PySem.W.nsIn K mainGlobals "NoEdit" = some none)
    (y15 : PySem.W.nsIn K mainGlobals "NoText" = some none)
    (y16 : PySem.W.nsIn K mainGlobals "NoCommand" = some none)
    (eop : PySem.W.nsIn K cStatics "thirdparty.any" = some none)
    (ens : PySem.W.nsIn K mainGlobals "super" = some none)
    (ehn : PySem.W.specialIn K (.builtin "object.__class__") "__get__" = some (some (.builtin "getset_descriptor.__get__")))
    (eht : PySem.W.takesIn K (.builtin "object.__class__") = some true)
    (gC0 : PySem.W.nsIn K mainGlobals "NoBlob" = some (some (.ref C0)))
    (kC0 : PySem.W.keepIn K (.ref C0) = true)
    (fi0 : PySem.W.findIn K (.ref C0) "__init__" = some (some (.ref fI0)))
    (lf0 : K.lookup fI0 = some ⟨ec0, eod0, .func (PySem.W.ksFn "__init__" "NoBlob.__init__" (defArgs i_NoBlob) (defBody i_NoBlob) (defScope i_NoBlob) .none ek0 eo0 ep0 ean0 (.ref cda0) et0 cc0), esl0⟩)
    (cI0 : PySem.W.codeIn K (.ref cda0) "NoBlob.__init__" = true)
    (lcc0 : K.lookup cc0 = some ⟨cl0, cld0, .cell (some (.ref C0)), csl0⟩)
    (lcd0 : K.lookup cda0 = some ⟨ccl0, cdd0, .fields vs0, ccs0⟩)
    (vf0 : vs0[2]? = some (.str file0 etk0))
    (pf0 : ((l.prog.main.file : Str) == file0) = true)
    (cD0 : PySem.W.clsIn K C0 = some cdD0)
    (ini0 : PySem.W.excInitIn K C0 [.type "TypeError", .type "Exception", .type "BaseException", .type "object"] "TypeError.__new__" = true)
    (ovr0 : PySem.W.excOver K C0 [.type "TypeError", .type "Exception", .type "BaseException", .type "object"] = true)
    (hd0 : PySem.W.hasDictIn K C0 = true)
    (tf0 : PySem.W.typeIn K (.ref fI0) = some (.type "function"))
    (sa0 : PySem.W.findIn K (.ref C0) "__setattr__" = some (some (.builtin "object.__setattr__")))
    (ga0 : PySem.W.findIn K (.ref C0) "__getattribute__" = some (some (.builtin "BaseException.__getattribute__")))
    (gg0 : PySem.W.findIn K (.ref C0) "__getattr__" = some none)
    (mr0 : PySem.W.mroIn K C0 (.ref C0) = some true)
    (su0 : PySem.W.ks_superIn K C0 C0 "__init__" = some (some (.builtin "TypeError.__init__")))
    (sb0 : PySem.W.subIn K (.ref C0) (.type "TypeError") = some true)
    (ex0 : PySem.W.subIn K (.ref C0) (.type "BaseException") = some true)
    (ty0 : PySem.W.typeIn K (.ref C0) = some (.type "type"))
    (ha0 : PySem.W.findIn K (.ref C0) "__class__" = some (some (.builtin "object.__class__")))
    (hm0 : PySem.W.mroIn K C0 (.type "object") = some true)
    (no0_0 : PySem.W.findIn K (.ref C0) "numbers" = some none)
    (it0_0 : PySem.W.kitOne K (.ref C0) (.type "TypeError") = some true)
    (it0_1 : PySem.W.kitOne K (.ref C0) (.type "ValueError") = some false)
    (it0_2 : PySem.W.kitOne K (.ref C0) (.type "OverflowError") = some false)
    (it0_3 : PySem.W.kitOne K (.ref C0) (.type "RuntimeError") = some false)
    (it0_4 : PySem.W.kitOne K (.ref C0) (.type "IndexError") = some false)
    (it0_5 : PySem.W.kitOne K (.ref C0) (.type "KeyError") = some false)
    (it0_6 : PySem.W.kitOne K (.ref C0) (.type "LookupError") = some false)
    (it0_7 : PySem.W.kitOne K (.ref C0) (.type "ArithmeticError") = some false)
    (gC1 : PySem.W.nsIn K mainGlobals "NoData" = some (some (.ref C1)))
    (kC1 : PySem.W.keepIn K (.ref C1) = true)
    (fi1 : PySem.W.findIn K (.ref C1) "__init__" = some (some (.ref fI1)))
    (lf1 : K.lookup fI1 = some ⟨ec1, eod1, .func (PySem.W.ksFn "__init__" "NoData.__init__" (defArgs i_NoData) (defBody i_NoData) (defScope i_NoData) .none ek1 eo1 ep1 ean1 (.ref cda1) et1 cc1), esl1⟩)
    (cI1 : PySem.W.codeIn K (.ref cda1) "NoData.__init__" = true)
    (lcc1 : K.lookup cc1 = some ⟨cl1, cld1, .cell (some (.ref C1)), csl1⟩)
    (lcd1 : K.lookup cda1 = some ⟨ccl1, cdd1, .fields vs1, ccs1⟩)
    (vf1 : vs1[2]? = some (.str file1 etk1))
    (pf1 : ((l.prog.main.file : Str) == file1) = true)
    (cD1 : PySem.W.clsIn K C1 = some cdD1)
    (ini1 : PySem.W.excInitIn K C1 [.type "TypeError", .type "Exception", .type "BaseException", .type "object"] "TypeError.__new__" = true)
    (ovr1 : PySem.W.excOver K C1 [.type "TypeError", .type "Exception", .type "BaseException", .type "object"] = true)
    (hd1 : PySem.W.hasDictIn K C1 = true)
    (tf1 : PySem.W.typeIn K (.ref fI1) = some (.type "function"))
    (sa1 : PySem.W.findIn K (.ref C1) "__setattr__" = some (some (.builtin "object.__setattr__")))
    (ga1 : PySem.W.findIn K (.ref C1) "__getattribute__" = some (some (.builtin "BaseException.__getattribute__")))
    (gg1 : PySem.W.findIn K (.ref C1) "__getattr__" = some none)
    (mr1 : PySem.W.mroIn K C1 (.ref C1) = some true)
    (su1 : PySem.W.ks_superIn K C1 C1 "__init__" = some (some (.builtin "TypeError.__init__")))
    (sb1 : PySem.W.subIn K (.ref C1) (.type "TypeError") = some true)
    (ex1 : PySem.W.subIn K (.ref C1) (.type "BaseException") = some true)
    (ty1 : PySem.W.typeIn K (.ref C1) = some (.type "type"))
    (ha1 : PySem.W.findIn K (.ref C1) "__class__" = some (some (.builtin "object.__class__")))
    (hm1 : PySem.W.mroIn K C1 (.type "object") = some true)
    (no1_0 : PySem.W.findIn K (.ref C1) "thing" = some none)
    (it1_0 : PySem.W.kitOne K (.ref C1) (.type "TypeError") = some true)
    (it1_1 : PySem.W.kitOne K (.ref C1) (.type "ValueError") = some false)
    (it1_2 : PySem.W.kitOne K (.ref C1) (.type "OverflowError") = some false)
    (it1_3 : PySem.W.kitOne K (.ref C1) (.type "RuntimeError") = some false)
    (it1_4 : PySem.W.kitOne K (.ref C1) (.type "IndexError") = some false)
    (it1_5 : PySem.W.kitOne K (.ref C1) (.type "KeyError") = some false)
    (it1_6 : PySem.W.kitOne K (.ref C1) (.type "LookupError") = some false)
    (it1_7 : PySem.W.kitOne K (.ref C1) (.type "ArithmeticError") = some false)
    (gC2 : PySem.W.nsIn K mainGlobals "NoBlock" = some (some (.ref C2)))
    (kC2 : PySem.W.keepIn K (.ref C2) = true)
    (fi2 : PySem.W.findIn K (.ref C2) "__init__" = some (some (.ref fI2)))
    (lf2 : K.lookup fI2 = some ⟨ec2, eod2, .func (PySem.W.ksFn "__init__" "NoBlock.__init__" (defArgs i_NoBlock) (defBody i_NoBlock) (defScope i_NoBlock) .none ek2 eo2 ep2 ean2 (.ref cda2) et2 cc2), esl2⟩)
    (cI2 : PySem.W.codeIn K (.ref cda2) "NoBlock.__init__" = true)
    (lcc2 : K.lookup cc2 = some ⟨cl2, cld2, .cell (some (.ref C2)), csl2⟩)
    (lcd2 : K.lookup cda2 = some ⟨ccl2, cdd2, .fields vs2, ccs2⟩)
    (vf2 : vs2[2]? = some (.str file2 etk2))
    (pf2 : ((l.prog.main.file : Str) == file2) = true)
    (cD2 : PySem.W.clsIn K C2 = some cdD2)
    (ini2 : PySem.W.excInitIn K C2 [.type "TypeError", .type "Exception", .type "BaseException", .type "object"] "TypeError.__new__" = true)
    (ovr2 : PySem.W.excOver K C2 [.type "TypeError", .type "Exception", .type "BaseException", .type "object"] = true)
    (hd2 : PySem.W.hasDictIn K C2 = true)
    (tf2 : PySem.W.typeIn K (.ref fI2) = some (.type "function"))
    (sa2 : PySem.W.findIn K (.ref C2) "__setattr__" = some (some (.builtin "object.__setattr__")))
    (ga2 : PySem.W.findIn K (.ref C2) "__getattribute__" = some (some (.builtin "BaseException.__getattribute__")))
    (gg2 : PySem.W.findIn K (.ref C2) "__getattr__" = some none)
    (mr2 : PySem.W.mroIn K C2 (.ref C2) = some true)
    (su2 : PySem.W.ks_superIn K C2 C2 "__init__" = some (some (.builtin "TypeError.__init__")))
    (sb2 : PySem.W.subIn K (.ref C2) (.type "TypeError") = some true)
    (ex2 : PySem.W.subIn K (.ref C2) (.type "BaseException") = some true)
    (ty2 : PySem.W.typeIn K (.ref C2) = some (.type "type"))
    (ha2 : PySem.W.findIn K (.ref C2) "__class__" = some (some (.builtin "object.__class__")))
    (hm2 : PySem.W.mroIn K C2 (.type "object") = some true)
    (no2_0 : PySem.W.findIn K (.ref C2) "thing" = some none)
    (it2_0 : PySem.W.kitOne K (.ref C2) (.type "TypeError") = some true)
    (it2_1 : PySem.W.kitOne K (.ref C2) (.type "ValueError") = some false)
    (it2_2 : PySem.W.kitOne K (.ref C2) (.type "OverflowError") = some false)
    (it2_3 : PySem.W.kitOne K (.ref C2) (.type "RuntimeError") = some false)
    (it2_4 : PySem.W.kitOne K (.ref C2) (.type "IndexError") = some false)
    (it2_5 : PySem.W.kitOne K (.ref C2) (.type "KeyError") = some false)
    (it2_6 : PySem.W.kitOne K (.ref C2) (.type "LookupError") = some false)
    (it2_7 : PySem.W.kitOne K (.ref C2) (.type "ArithmeticError") = some false)
    (gC3 : PySem.W.nsIn K mainGlobals "NoMember" = some (some (.ref C3)))
    (kC3 : PySem.W.keepIn K (.ref C3) = true)
    (fi3 : PySem.W.findIn K (.ref C3) "__init__" = some (some (.ref fI3)))
    (lf3 : K.lookup fI3 = some ⟨ec3, eod3, .func (PySem.W.ksFn "__init__" "NoMember.__init__" (defArgs i_NoMember) (defBody i_NoMember) (defScope i_NoMember) .none ek3 eo3 ep3 ean3 (.ref cda3) et3 cc3), esl3⟩)
    (cI3 : PySem.W.codeIn K (.ref cda3) "NoMember.__init__" = true)
    (lcc3 : K.lookup cc3 = some ⟨cl3, cld3, .cell (some (.ref C3)), csl3⟩)
    (lcd3 : K.lookup cda3 = some ⟨ccl3, cdd3, .fields vs3, ccs3⟩)
    (vf3 : vs3[2]? = some (.str file3 etk3))
    (pf3 : ((l.prog.main.file : Str) == file3) = true)
    (cD3 : PySem.W.clsIn K C3 = some cdD3)
    (ini3 : PySem.W.excInitIn K C3 [.type "TypeError", .type "Exception", .type "BaseException", .type "object"] "TypeError.__new__" = true)
    (ovr3 : PySem.W.excOver K C3 [.type "TypeError", .type "Exception", .type "BaseException", .type "object"] = true)
    (hd3 : PySem.W.hasDictIn K C3 = true)
    (tf3 : PySem.W.typeIn K (.ref fI3) = some (.type "function"))
    (sa3 : PySem.W.findIn K (.ref C3) "__setattr__" = some (some (.builtin "object.__setattr__")))
    (ga3 : PySem.W.findIn K (.ref C3) "__getattribute__" = some (some (.builtin "BaseException.__getattribute__")))
    (gg3 : PySem.W.findIn K (.ref C3) "__getattr__" = some none)
    (mr3 : PySem.W.mroIn K C3 (.ref C3) = some true)
    (su3 : PySem.W.ks_superIn K C3 C3 "__init__" = some (some (.builtin "TypeError.__init__")))
    (sb3 : PySem.W.subIn K (.ref C3) (.type "TypeError") = some true)
    (ex3 : PySem.W.subIn K (.ref C3) (.type "BaseException") = some true)
    (ty3 : PySem.W.typeIn K (.ref C3) = some (.type "type"))
    (ha3 : PySem.W.findIn K (.ref C3) "__class__" = some (some (.builtin "object.__class__")))
    (hm3 : PySem.W.mroIn K C3 (.type "object") = some true)
    (no3_0 : PySem.W.findIn K (.ref C3) "thing" = some none)
    (it3_0 : PySem.W.kitOne K (.ref C3) (.type "TypeError") = some true)
    (it3_1 : PySem.W.kitOne K (.ref C3) (.type "ValueError") = some false)
    (it3_2 : PySem.W.kitOne K (.ref C3) (.type "OverflowError") = some false)
    (it3_3 : PySem.W.kitOne K (.ref C3) (.type "RuntimeError") = some false)
    (it3_4 : PySem.W.kitOne K (.ref C3) (.type "IndexError") = some false)
    (it3_5 : PySem.W.kitOne K (.ref C3) (.type "KeyError") = some false)
    (it3_6 : PySem.W.kitOne K (.ref C3) (.type "LookupError") = some false)
    (it3_7 : PySem.W.kitOne K (.ref C3) (.type "ArithmeticError") = some false)
    (io0_0 : PySem.W.kitOne K (.ref C0) (.ref C0) = some true)
    (em0_0 : PySem.W.exmOne K (.ref C0) (.ref C0) = some true)
    (io0_1 : PySem.W.kitOne K (.ref C0) (.ref C1) = some false)
    (em0_1 : PySem.W.exmOne K (.ref C1) (.ref C0) = some false)
    (io0_2 : PySem.W.kitOne K (.ref C0) (.ref C2) = some false)
    (em0_2 : PySem.W.exmOne K (.ref C2) (.ref C0) = some false)
    (io0_3 : PySem.W.kitOne K (.ref C0) (.ref C3) = some false)
    (em0_3 : PySem.W.exmOne K (.ref C3) (.ref C0) = some false)
    (io1_0 : PySem.W.kitOne K (.ref C1) (.ref C0) = some false)
    (em1_0 : PySem.W.exmOne K (.ref C0) (.ref C1) = some false)
    (io1_1 : PySem.W.kitOne K (.ref C1) (.ref C1) = some true)
    (em1_1 : PySem.W.exmOne K (.ref C1) (.ref C1) = some true)
    (io1_2 : PySem.W.kitOne K (.ref C1) (.ref C2) = some false)
    (em1_2 : PySem.W.exmOne K (.ref C2) (.ref C1) = some false)
    (io1_3 : PySem.W.kitOne K (.ref C1) (.ref C3) = some false)
    (em1_3 : PySem.W.exmOne K (.ref C3) (.ref C1) = some false)
    (io2_0 : PySem.W.kitOne K (.ref C2) (.ref C0) = some false)
    (em2_0 : PySem.W.exmOne K (.ref C0) (.ref C2) = some false)
    (io2_1 : PySem.W.kitOne K (.ref C2) (.ref C1) = some false)
    (em2_1 : PySem.W.exmOne K (.ref C1) (.ref C2) = some false)
    (io2_2 : PySem.W.kitOne K (.ref C2) (.ref C2) = some true)
    (em2_2 : PySem.W.exmOne K (.ref C2) (.ref C2) = some true)
    (io2_3 : PySem.W.kitOne K (.ref C2) (.ref C3) = some false)
    (em2_3 : PySem.W.exmOne K (.ref C3) (.ref C2) = some false)
    (io3_0 : PySem.W.kitOne K (.ref C3) (.ref C0) = some false)
    (em3_0 : PySem.W.exmOne K (.ref C0) (.ref C3) = some false)
    (io3_1 : PySem.W.kitOne K (.ref C3) (.ref C1) = some false)
    (em3_1 : PySem.W.exmOne K (.ref C1) (.ref C3) = some false)
    (io3_2 : PySem.W.kitOne K (.ref C3) (.ref C2) = some false)
    (em3_2 : PySem.W.exmOne K (.ref C2) (.ref C3) = some false)
    (io3_3 : PySem.W.kitOne K (.ref C3) (.ref C3) = some true)
    (em3_3 : PySem.W.exmOne K (.ref C3) (.ref C3) = some true)
    (tp : (l.prog.main.scope.names.lookup ("super" : Str)).isSome = false) :
    ∃ fd : FuncData, (∀ (s : Shared) (v : Value), BindsTo s fd ⟨[v], []⟩ [("_law_script", v)]) ∧ ∀ base : Heap, K.In base → base.Ns mainGlobals mg → FnG l.prog w K mg base CX0 4 fa fd ["_law_script"] (spLawD K) := by
  have e := hfa.symm.trans (PySem.W.mg_of X G a19)
  cases e
  have T : Txt mg := ⟨PySem.W.mg_none_of X G z0, PySem.W.mg_none_of X G z1, PySem.W.mg_none_of X G z2, PySem.W.mg_none_of X G z3, PySem.W.mg_none_of X G z4, PySem.W.mg_none_of X G z5, PySem.W.mg_none_of X G z6, PySem.W.mg_none_of X G z7, PySem.W.mg_none_of X G z8, PySem.W.mg_none_of X G z9, PySem.W.mg_none_of X G z10, PySem.W.mg_none_of X G z11, PySem.W.mg_none_of X G z12, PySem.W.mg_none_of X G z13, PySem.W.mg_none_of X G z14, PySem.W.mg_none_of X G z15, ⟨_, PySem.W.mg_of X G cst0, ⟨_, rfl⟩⟩, ⟨_, PySem.W.mg_of X G cst1, ⟨_, rfl⟩⟩⟩
  have D_is_integer : DefD K mg "is_integer" s_is_integer [] [] := DefD.of (def_mk X G a0 l0 c0 k0)
  have D_is_within : DefD K mg "is_within" s_is_within [] [] := DefD.of (def_mk X G a1 l1 c1 k1)
  have D_blob : DefD K mg "blob" s_blob [] [] := DefD.of (def_mk X G a2 l2 c2 k2)
  have D_text_field : DefD K mg "text_field" s_text_field [] [] := DefD.of (def_mk X G a3 l3 c3 k3)
  have D_octal_field : DefD K mg "octal_field" s_octal_field [] [] := DefD.of (def_mk X G a4 l4 c4 k4)
  have D_sum_of : DefD K mg "sum_of" s_sum_of [] [] := DefD.of (def_mk X G a5 l5 c5 k5)
  have D_checksum : DefD K mg "checksum" s_checksum [] [] := DefD.of (def_mk X G a6 l6 c6 k6)
  have D_checksum_field : DefD K mg "checksum_field" s_checksum_field [] [] := DefD.of (def_mk X G a7 l7 c7 k7)
  have D_magic_field : DefD K mg "magic_field" s_magic_field [] [] := DefD.of (def_mk X G a8 l8 c8 k8)
  have D_header : DefD K mg "header" s_header [] [("mode", .int 0), ("size", .int 0), ("time", .int 0), ("target", .str (SX.S []))] := defD_mk X G a9 l9 c9 k9 (List.forall_mem_cons.mpr ⟨⟨_, kw9_0, ⟨_, rfl⟩⟩, (List.forall_mem_cons.mpr ⟨⟨_, kw9_1, ⟨_, rfl⟩⟩, (List.forall_mem_cons.mpr ⟨⟨_, kw9_2, ⟨_, rfl⟩⟩, (List.forall_mem_cons.mpr ⟨⟨_, kw9_3, ⟨_, rfl⟩⟩, (fun q hq => nomatch hq)⟩)⟩)⟩)⟩)
  have D_l_source : DefD K mg "_law_source" s_l_source [] [] := DefD.of (def_mk X G a10 l10 c10 k10)
  have D_l_draw : DefD K mg "_law_draw" s_l_draw [] [] := DefD.of (def_mk X G a11 l11 c11 k11)
  have D_l_random_name : DefD K mg "_law_random_name" s_l_random_name [] [] := DefD.of (def_mk X G a12 l12 c12 k12)
  have D_l_any_name : DefD K mg "_law_any_name" s_l_any_name [] [] := DefD.of (def_mk X G a13 l13 c13 k13)
  have D_l_codes : DefD K mg "_law_codes" s_l_codes [] [] := DefD.of (def_mk X G a14 l14 c14 k14)
  have D_l_octal : DefD K mg "_law_octal" s_l_octal [] [] := DefD.of (def_mk X G a15 l15 c15 k15)
  have D_l_head : DefD K mg "_law_head" s_l_head [] [] := DefD.of (def_mk X G a16 l16 c16 k16)
  have D_l_refused : DefD K mg "_law_refused" s_l_refused [] [] := DefD.of (def_mk X G a17 l17 c17 k17)
  have D_l_total : DefD K mg "_law_total" s_l_total [] [] := DefD.of (def_mk X G a18 l18 c18 k18)
  have D_law : DefD K mg "law" s_law [] [] := DefD.of (def_mk X G a19 l19 c19 k19)
  have hab : ∀ y ∈ (["NoName", "NoMode", "NoTime", "NoSize", "NoPieces", "TooMany", "Closed", "NoOffset", "Torn", "Wrong", "NoHouse", "NoPath", "Refused", "NoIndex", "NoEdit", "NoText", "NoCommand"] : List String), mg (Str.ofString y) = none := (List.forall_mem_cons.mpr ⟨PySem.W.mg_none_of X G y0, (List.forall_mem_cons.mpr ⟨PySem.W.mg_none_of X G y1, (List.forall_mem_cons.mpr ⟨PySem.W.mg_none_of X G y2, (List.forall_mem_cons.mpr ⟨PySem.W.mg_none_of X G y3, (List.forall_mem_cons.mpr ⟨PySem.W.mg_none_of X G y4, (List.forall_mem_cons.mpr ⟨PySem.W.mg_none_of X G y5, (List.forall_mem_cons.mpr ⟨PySem.W.mg_none_of X G y6, (List.forall_mem_cons.mpr ⟨PySem.W.mg_none_of X G y7, (List.forall_mem_cons.mpr ⟨PySem.W.mg_none_of X G y8, (List.forall_mem_cons.mpr ⟨PySem.W.mg_none_of X G y9, (List.forall_mem_cons.mpr ⟨PySem.W.mg_none_of X G y10, (List.forall_mem_cons.mpr ⟨PySem.W.mg_none_of X G y11, (List.forall_mem_cons.mpr ⟨PySem.W.mg_none_of X G y12, (List.forall_mem_cons.mpr ⟨PySem.W.mg_none_of X G y13, (List.forall_mem_cons.mpr ⟨PySem.W.mg_none_of X G y14, (List.forall_mem_cons.mpr ⟨PySem.W.mg_none_of X G y15, (List.forall_mem_cons.mpr ⟨PySem.W.mg_none_of X G y16, (fun q hq => nomatch hq)⟩)⟩)⟩)⟩)⟩)⟩)⟩)⟩)⟩)⟩)⟩)⟩)⟩)⟩)⟩)⟩)⟩)
  have e_NoBlob : EF K mg l.prog "NoBlob" ["numbers"] C0 := ef_mk (er_mk X G PySem.F.excBase_TypeError PySem.F.store_TypeError PySem.W.kxs_TypeError ix_NoBlob (by decide) tp pf0 gC0 kC0 fi0 lf0 cI0 lcc0 lcd0 vf0 cD0 ini0 ovr0 hd0 tf0 sa0 ga0 gg0 mr0 eop su0 sb0 ex0 ty0 ens ha0 ehn eht hm0 (List.forall_mem_cons.mpr ⟨no0_0, (fun q hq => nomatch hq)⟩)) (PySem.W.mg_of X G gC0) (List.forall_mem_cons.mpr ⟨it0_0, (List.forall_mem_cons.mpr ⟨it0_1, (List.forall_mem_cons.mpr ⟨it0_2, (List.forall_mem_cons.mpr ⟨it0_3, (List.forall_mem_cons.mpr ⟨it0_4, (List.forall_mem_cons.mpr ⟨it0_5, (List.forall_mem_cons.mpr ⟨it0_6, (List.forall_mem_cons.mpr ⟨it0_7, (fun q hq => nomatch hq)⟩)⟩)⟩)⟩)⟩)⟩)⟩)⟩) ["NoName", "NoMode", "NoTime", "NoSize", "NoPieces", "TooMany", "Closed", "NoOffset", "Torn", "Wrong", "NoHouse", "NoPath", "Refused", "NoIndex", "NoEdit", "NoText", "NoCommand"] ["NoBlob", "NoData", "NoBlock", "NoMember"] [("NoBlob", C0), ("NoData", C1), ("NoBlock", C2), ("NoMember", C3)] hab rfl (by decide +kernel) (List.forall_mem_cons.mpr ⟨⟨PySem.W.mg_of X G gC0, io0_0, em0_0⟩, (List.forall_mem_cons.mpr ⟨⟨PySem.W.mg_of X G gC1, io0_1, em0_1⟩, (List.forall_mem_cons.mpr ⟨⟨PySem.W.mg_of X G gC2, io0_2, em0_2⟩, (List.forall_mem_cons.mpr ⟨⟨PySem.W.mg_of X G gC3, io0_3, em0_3⟩, (fun q hq => nomatch hq)⟩)⟩)⟩)⟩)
  have e_NoData : EF K mg l.prog "NoData" ["thing"] C1 := ef_mk (er_mk X G PySem.F.excBase_TypeError PySem.F.store_TypeError PySem.W.kxs_TypeError ix_NoData (by decide) tp pf1 gC1 kC1 fi1 lf1 cI1 lcc1 lcd1 vf1 cD1 ini1 ovr1 hd1 tf1 sa1 ga1 gg1 mr1 eop su1 sb1 ex1 ty1 ens ha1 ehn eht hm1 (List.forall_mem_cons.mpr ⟨no1_0, (fun q hq => nomatch hq)⟩)) (PySem.W.mg_of X G gC1) (List.forall_mem_cons.mpr ⟨it1_0, (List.forall_mem_cons.mpr ⟨it1_1, (List.forall_mem_cons.mpr ⟨it1_2, (List.forall_mem_cons.mpr ⟨it1_3, (List.forall_mem_cons.mpr ⟨it1_4, (List.forall_mem_cons.mpr ⟨it1_5, (List.forall_mem_cons.mpr ⟨it1_6, (List.forall_mem_cons.mpr ⟨it1_7, (fun q hq => nomatch hq)⟩)⟩)⟩)⟩)⟩)⟩)⟩)⟩) ["NoName", "NoMode", "NoTime", "NoSize", "NoPieces", "TooMany", "Closed", "NoOffset", "Torn", "Wrong", "NoHouse", "NoPath", "Refused", "NoIndex", "NoEdit", "NoText", "NoCommand"] ["NoBlob", "NoData", "NoBlock", "NoMember"] [("NoBlob", C0), ("NoData", C1), ("NoBlock", C2), ("NoMember", C3)] hab rfl (by decide +kernel) (List.forall_mem_cons.mpr ⟨⟨PySem.W.mg_of X G gC0, io1_0, em1_0⟩, (List.forall_mem_cons.mpr ⟨⟨PySem.W.mg_of X G gC1, io1_1, em1_1⟩, (List.forall_mem_cons.mpr ⟨⟨PySem.W.mg_of X G gC2, io1_2, em1_2⟩, (List.forall_mem_cons.mpr ⟨⟨PySem.W.mg_of X G gC3, io1_3, em1_3⟩, (fun q hq => nomatch hq)⟩)⟩)⟩)⟩)
  have e_NoBlock : EF K mg l.prog "NoBlock" ["thing"] C2 := ef_mk (er_mk X G PySem.F.excBase_TypeError PySem.F.store_TypeError PySem.W.kxs_TypeError ix_NoBlock (by decide) tp pf2 gC2 kC2 fi2 lf2 cI2 lcc2 lcd2 vf2 cD2 ini2 ovr2 hd2 tf2 sa2 ga2 gg2 mr2 eop su2 sb2 ex2 ty2 ens ha2 ehn eht hm2 (List.forall_mem_cons.mpr ⟨no2_0, (fun q hq => nomatch hq)⟩)) (PySem.W.mg_of X G gC2) (List.forall_mem_cons.mpr ⟨it2_0, (List.forall_mem_cons.mpr ⟨it2_1, (List.forall_mem_cons.mpr ⟨it2_2, (List.forall_mem_cons.mpr ⟨it2_3, (List.forall_mem_cons.mpr ⟨it2_4, (List.forall_mem_cons.mpr ⟨it2_5, (List.forall_mem_cons.mpr ⟨it2_6, (List.forall_mem_cons.mpr ⟨it2_7, (fun q hq => nomatch hq)⟩)⟩)⟩)⟩)⟩)⟩)⟩)⟩) ["NoName", "NoMode", "NoTime", "NoSize", "NoPieces", "TooMany", "Closed", "NoOffset", "Torn", "Wrong", "NoHouse", "NoPath", "Refused", "NoIndex", "NoEdit", "NoText", "NoCommand"] ["NoBlob", "NoData", "NoBlock", "NoMember"] [("NoBlob", C0), ("NoData", C1), ("NoBlock", C2), ("NoMember", C3)] hab rfl (by decide +kernel) (List.forall_mem_cons.mpr ⟨⟨PySem.W.mg_of X G gC0, io2_0, em2_0⟩, (List.forall_mem_cons.mpr ⟨⟨PySem.W.mg_of X G gC1, io2_1, em2_1⟩, (List.forall_mem_cons.mpr ⟨⟨PySem.W.mg_of X G gC2, io2_2, em2_2⟩, (List.forall_mem_cons.mpr ⟨⟨PySem.W.mg_of X G gC3, io2_3, em2_3⟩, (fun q hq => nomatch hq)⟩)⟩)⟩)⟩)
  have e_NoMember : EF K mg l.prog "NoMember" ["thing"] C3 := ef_mk (er_mk X G PySem.F.excBase_TypeError PySem.F.store_TypeError PySem.W.kxs_TypeError ix_NoMember (by decide) tp pf3 gC3 kC3 fi3 lf3 cI3 lcc3 lcd3 vf3 cD3 ini3 ovr3 hd3 tf3 sa3 ga3 gg3 mr3 eop su3 sb3 ex3 ty3 ens ha3 ehn eht hm3 (List.forall_mem_cons.mpr ⟨no3_0, (fun q hq => nomatch hq)⟩)) (PySem.W.mg_of X G gC3) (List.forall_mem_cons.mpr ⟨it3_0, (List.forall_mem_cons.mpr ⟨it3_1, (List.forall_mem_cons.mpr ⟨it3_2, (List.forall_mem_cons.mpr ⟨it3_3, (List.forall_mem_cons.mpr ⟨it3_4, (List.forall_mem_cons.mpr ⟨it3_5, (List.forall_mem_cons.mpr ⟨it3_6, (List.forall_mem_cons.mpr ⟨it3_7, (fun q hq => nomatch hq)⟩)⟩)⟩)⟩)⟩)⟩)⟩)⟩) ["NoName", "NoMode", "NoTime", "NoSize", "NoPieces", "TooMany", "Closed", "NoOffset", "Torn", "Wrong", "NoHouse", "NoPath", "Refused", "NoIndex", "NoEdit", "NoText", "NoCommand"] ["NoBlob", "NoData", "NoBlock", "NoMember"] [("NoBlob", C0), ("NoData", C1), ("NoBlock", C2), ("NoMember", C3)] hab rfl (by decide +kernel) (List.forall_mem_cons.mpr ⟨⟨PySem.W.mg_of X G gC0, io3_0, em3_0⟩, (List.forall_mem_cons.mpr ⟨⟨PySem.W.mg_of X G gC1, io3_1, em3_1⟩, (List.forall_mem_cons.mpr ⟨⟨PySem.W.mg_of X G gC2, io3_2, em3_2⟩, (List.forall_mem_cons.mpr ⟨⟨PySem.W.mg_of X G gC3, io3_3, em3_3⟩, (fun q hq => nomatch hq)⟩)⟩)⟩)⟩)
  have FL : FunD K "law" "law" (defArgs s_law) (defBody s_law) (defScope s_law) [] [] fa (PySem.W.fnOf "law" "law" (defArgs s_law) (defBody s_law) (defScope s_law) .none kV19 dc19 pm19 an19 cd19 ct19) := ⟨⟨_, _, _, _, _, _, _, _, _, _, rfl, l19, c19, .inl ⟨rfl, rfl⟩, .inl rfl⟩, k19⟩
  refine ⟨PySem.W.fnOf "law" "law" (defArgs s_law) (defBody s_law) (defScope s_law) .none kV19 dc19 pm19 an19 cd19 ct19, fun s v => .of_eq rfl, fun base _ _ => ?_⟩
  have F_is_integer := f_is_integer (P := l.prog) (w := w) (base := base) T D_is_integer
  have C_is_integer_1 := cal_is_integer_1 F_is_integer
  have F_text_field := f_text_field (P := l.prog) (w := w) (base := base) T D_text_field
  have C_text_field_2 := cal_text_field_2 F_text_field
  have F_octal_field := f_octal_field (P := l.prog) (w := w) (base := base) T D_octal_field
  have C_octal_field_2 := cal_octal_field_2 F_octal_field
  have F_sum_of := f_sum_of (P := l.prog) (w := w) (base := base) T D_sum_of
  have C_sum_of_1 := cal_sum_of_1 F_sum_of
  have F_magic_field := f_magic_field (P := l.prog) (w := w) (base := base) T D_magic_field
  have C_magic_field_0 := cal_magic_field_0 F_magic_field
  have F_l_source := f_l_source (P := l.prog) (w := w) (base := base) T D_l_source
  have C_l_source_2 := cal_l_source_2 F_l_source
  have F_l_draw := f_l_draw (P := l.prog) (w := w) (base := base) T D_l_draw
  have C_l_draw_2 := cal_l_draw_2 F_l_draw
  have F_l_codes := f_l_codes (P := l.prog) (w := w) (base := base) T D_l_codes
  have C_l_codes_1 := cal_l_codes_1 F_l_codes
  have F_l_octal := f_l_octal (P := l.prog) (w := w) (base := base) T D_l_octal
  have C_l_octal_2 := cal_l_octal_2 F_l_octal
  have F_l_total := f_l_total (P := l.prog) (w := w) (base := base) T D_l_total
  have C_l_total_1 := cal_l_total_1 F_l_total
  have F_is_within := f_is_within (P := l.prog) (w := w) (base := base) T C_is_integer_1 D_is_within
  have C_is_within_3 := cal_is_within_3 F_is_within
  have F_checksum := f_checksum (P := l.prog) (w := w) (base := base) T e_NoBlock C_sum_of_1 D_checksum
  have C_checksum_1 := cal_checksum_1 F_checksum
  have C_checksum_0_block := cal_checksum_0_block F_checksum
  have F_checksum_field := f_checksum_field (P := l.prog) (w := w) (base := base) T C_octal_field_2 C_sum_of_1 D_checksum_field
  have C_checksum_field_1 := cal_checksum_field_1 F_checksum_field
  have F_l_random_name := f_l_random_name (P := l.prog) (w := w) (base := base) T C_l_draw_2 D_l_random_name
  have C_l_random_name_2 := cal_l_random_name_2 F_l_random_name
  have F_l_head := f_l_head (P := l.prog) (w := w) (base := base) T C_l_octal_2 C_l_codes_1 D_l_head
  have C_l_head_4 := cal_l_head_4 F_l_head
  have F_blob := f_blob (P := l.prog) (w := w) (base := base) T e_NoBlob C_is_within_3 D_blob
  have C_blob_1 := cal_blob_1 F_blob
  have F_header := f_header (P := l.prog) (w := w) (base := base) T C_checksum_field_1 C_text_field_2 C_magic_field_0 C_octal_field_2 D_header
  have C_header_2 := cal_header_2 F_header
  have C_header_0_target_name_kind := cal_header_0_target_name_kind F_header
  have C_header_2_mode_size_time_target := cal_header_2_mode_size_time_target F_header
  have F_l_any_name := f_l_any_name (P := l.prog) (w := w) (base := base) T C_l_draw_2 C_l_random_name_2 D_l_any_name
  have C_l_any_name_1 := cal_l_any_name_1 F_l_any_name
  have F_l_refused := f_l_refused (P := l.prog) (w := w) (base := base) T e_NoBlock e_NoMember e_NoData e_NoBlob C_checksum_1 D_l_refused
  have C_l_refused_1 := cal_l_refused_1 F_l_refused
  have F_law := f_law (P := l.prog) (w := w) (base := base) T C_checksum_1 C_blob_1 C_l_head_4 C_header_2 C_l_refused_1 C_l_draw_2 C_l_total_1 C_checksum_0_block C_header_0_target_name_kind C_header_2_mode_size_time_target C_l_any_name_1 C_l_source_2 D_law
  exact law_end (F_law.at (PySem.W.mg_of X G a19) FL) (fun ns hn => law_ok ns)
end K5
open PySem PySem.W PyProof.Rows
set_option maxRecDepth 100000 in
set_option maxHeartbeats 0 in
theorem PySem.Challenge.cw_tarhouse_k05_headers_built_holds : PySem.Challenge.rw_tarhouse_k05_headers_built.Holds := by
  w_on; o_law; k_head; (case hw => w_witness2)
  k_fill
  refine Tar.walkG (l := PySem.Challenge.rw_tarhouse_k05_headers_built) (n := 63) (k := 4) (x := "_law_script") (sp := Tar.spLawD) rfl (by decide) rfl ⟨rfl, by decide, by decide⟩ (fun w h Y => PySem.W.kIn_of Y) ?F (fun _ _ a ns hl hO hS => ⟨a, ns, rfl, hl, hO, hS, fun _ => rfl⟩)
  case F =>
    intro w mg fa h KX G hmg
    refine' K5.all_mk KX G hmg ?a0 ?l0 ?c0 ?k0 ?a1 ?l1 ?c1 ?k1 ?a2 ?l2 ?c2 ?k2 ?a3 ?l3 ?c3 ?k3 ?a4 ?l4 ?c4 ?k4 ?a5 ?l5 ?c5 ?k5 ?a6 ?l6 ?c6 ?k6 ?a7 ?l7 ?c7 ?k7 ?a8 ?l8 ?c8 ?k8 ?a9 ?l9 ?c9 ?k9 ?kw9_0 ?kw9_1 ?kw9_2 ?kw9_3 ?a10 ?l10 ?c10 ?k10 ?a11 ?l11 ?c11 ?k11 ?a12 ?l12 ?c12 ?k12 ?a13 ?l13 ?c13 ?k13 ?a14 ?l14 ?c14 ?k14 ?a15 ?l15 ?c15 ?k15 ?a16 ?l16 ?c16 ?k16 ?a17 ?l17 ?c17 ?k17 ?a18 ?l18 ?c18 ?k18 ?a19 ?l19 ?c19 ?k19 ?z0 ?z1 ?z2 ?z3 ?z4 ?z5 ?z6 ?z7 ?z8 ?z9 ?z10 ?z11 ?z12 ?z13 ?z14 ?z15 ?cst0 ?cst1 ?y0 ?y1 ?y2 ?y3 ?y4 ?y5 ?y6 ?y7 ?y8 ?y9 ?y10 ?y11 ?y12 ?y13 ?y14 ?y15 ?y16 ?eop ?ens ?ehn ?eht ?gC0 ?kC0 ?fi0 ?lf0 ?cI0 ?lcc0 ?lcd0 ?vf0 ?pf0 ?cD0 ?ini0 ?ovr0 ?hd0 ?tf0 ?sa0 ?ga0 ?gg0 ?mr0 ?su0 ?sb0 ?ex0 ?ty0 ?ha0 ?hm0 ?no0_0 ?it0_0 ?it0_1 ?it0_2 ?it0_3 ?it0_4 ?it0_5 ?it0_6 ?it0_7 ?gC1 ?kC1 ?fi1 ?lf1 ?cI1 ?lcc1 ?lcd1 ?vf1 ?pf1 ?cD1 ?ini1 ?ovr1 ?hd1 ?tf1 ?sa1 ?ga1 ?gg1 ?mr1 ?su1 ?sb1 ?ex1 ?ty1 ?ha1 ?hm1 ?no1_0 ?it1_0 ?it1_1 ?it1_2 ?it1_3 ?it1_4 ?it1_5 ?it1_6 ?it1_7 ?gC2 ?kC2 ?fi2 ?lf2 ?cI2 ?lcc2 ?lcd2 ?vf2 ?pf2 ?cD2 ?ini2 ?ovr2 ?hd2 ?tf2 ?sa2 ?ga2 ?gg2 ?mr2 ?su2 ?sb2 ?ex2 ?ty2 ?ha2 ?hm2 ?no2_0 ?it2_0 ?it2_1 ?it2_2 ?it2_3 ?it2_4 ?it2_5 ?it2_6 ?it2_7 ?gC3 ?kC3 ?fi3 ?lf3 ?cI3 ?lcc3 ?lcd3 ?vf3 ?pf3 ?cD3 ?ini3 ?ovr3 ?hd3 ?tf3 ?sa3 ?ga3 ?gg3 ?mr3 ?su3 ?sb3 ?ex3 ?ty3 ?ha3 ?hm3 ?no3_0 ?it3_0 ?it3_1 ?it3_2 ?it3_3 ?it3_4 ?it3_5 ?it3_6 ?it3_7 ?io0_0 ?em0_0 ?io0_1 ?em0_1 ?io0_2 ?em0_2 ?io0_3 ?em0_3 ?io1_0 ?em1_0 ?io1_1 ?em1_1 ?io1_2 ?em1_2 ?io1_3 ?em1_3 ?io2_0 ?em2_0 ?io2_1 ?em2_1 ?io2_2 ?em2_2 ?io2_3 ?em2_3 ?io3_0 ?em3_0 ?io3_1 ?em3_1 ?io3_2 ?em3_2 ?io3_3 ?em3_3 ?tp
    (case a0 => k_is)
    (case l0 => k_is)
    (case c0 => k_is)
    (case k0 => k_is)
    (case a1 => k_is)
    (case l1 => k_is)
    (case c1 => k_is)
    (case k1 => k_is)
    (case a2 => k_is)
    (case l2 => k_is)
    (case c2 => k_is)
    (case k2 => k_is)
    (case a3 => k_is)
    (case l3 => k_is)
    (case c3 => k_is)
    (case k3 => k_is)
    (case a4 => k_is)
    (case l4 => k_is)
    (case c4 => k_is)
    (case k4 => k_is)
    (case a5 => k_is)
    (case l5 => k_is)
    (case c5 => k_is)
    (case k5 => k_is)
    (case a6 => k_is)
    (case l6 => k_is)
    (case c6 => k_is)
    (case k6 => k_is)
    (case a7 => k_is)
    (case l7 => k_is)
    (case c7 => k_is)
    (case k7 => k_is)
    (case a8 => k_is)
    (case l8 => k_is)
    (case c8 => k_is)
    (case k8 => k_is)
    (case a9 => k_is)
    (case l9 => k_is)
    (case c9 => k_is)
    (case k9 => k_is)
    (case kw9_0 => k_is)
    (case kw9_1 => k_is)
    (case kw9_2 => k_is)
    (case kw9_3 => k_is)
    (case a10 => k_is)
    (case l10 => k_is)
    (case c10 => k_is)
    (case k10 => k_is)
    (case a11 => k_is)
    (case l11 => k_is)
    (case c11 => k_is)
    (case k11 => k_is)
    (case a12 => k_is)
    (case l12 => k_is)
    (case c12 => k_is)
    (case k12 => k_is)
    (case a13 => k_is)
    (case l13 => k_is)
    (case c13 => k_is)
    (case k13 => k_is)
    (case a14 => k_is)
    (case l14 => k_is)
    (case c14 => k_is)
    (case k14 => k_is)
    (case a15 => k_is)
    (case l15 => k_is)
    (case c15 => k_is)
    (case k15 => k_is)
    (case a16 => k_is)
    (case l16 => k_is)
    (case c16 => k_is)
    (case k16 => k_is)
    (case a17 => k_is)
    (case l17 => k_is)
    (case c17 => k_is)
    (case k17 => k_is)
    (case a18 => k_is)
    (case l18 => k_is)
    (case c18 => k_is)
    (case k18 => k_is)
    (case a19 => k_is)
    (case l19 => k_is)
    (case c19 => k_is)
    (case k19 => k_is)
    (case z0 => k_is)
    (case z1 => k_is)
    (case z2 => k_is)
    (case z3 => k_is)
    (case z4 => k_is)
    (case z5 => k_is)
    (case z6 => k_is)
    (case z7 => k_is)
    (case z8 => k_is)
    (case z9 => k_is)
    (case z10 => k_is)
    (case z11 => k_is)
    (case z12 => k_is)
    (case z13 => k_is)
    (case z14 => k_is)
    (case z15 => k_is)
    (case cst0 => k_is)
    (case cst1 => k_is)
    (case y0 => k_is)
    (case y1 => k_is)
    (case y2 => k_is)
    (case y3 => k_is)
    (case y4 => k_is)
    (case y5 => k_is)
    (case y6 => k_is)
    (case y7 => k_is)
    (case y8 => k_is)
    (case y9 => k_is)
    (case y10 => k_is)
    (case y11 => k_is)
    (case y12 => k_is)
    (case y13 => k_is)
    (case y14 => k_is)
    (case y15 => k_is)
    (case y16 => k_is)
    (case eop => k_is)
    (case ens => k_is)
    (case ehn => k_is)
    (case eht => k_is)
    (case gC0 => k_is)
    (case kC0 => k_is)
    (case fi0 => k_is)
    (case lf0 => k_is)
    (case cI0 => k_is)
    (case lcc0 => k_is)
    (case lcd0 => k_is)
    (case vf0 => exact rfl)
    (case pf0 => decide +kernel)
    (case cD0 => k_is)
    (case ini0 => kernel_rfl)
    (case ovr0 => kernel_rfl)
    (case hd0 => k_is)
    (case tf0 => k_is)
    (case sa0 => k_is)
    (case ga0 => k_is)
    (case gg0 => k_is)
    (case mr0 => k_is)
    (case su0 => kernel_rfl)
    (case sb0 => k_is)
    (case ex0 => k_is)
    (case ty0 => k_is)
    (case ha0 => k_is)
    (case hm0 => k_is)
    (case no0_0 => k_is)
    (case it0_0 => kernel_rfl)
    (case it0_1 => kernel_rfl)
    (case it0_2 => kernel_rfl)
    (case it0_3 => kernel_rfl)
    (case it0_4 => kernel_rfl)
    (case it0_5 => kernel_rfl)
    (case it0_6 => kernel_rfl)
    (case it0_7 => kernel_rfl)
    (case gC1 => k_is)
    (case kC1 => k_is)
    (case fi1 => k_is)
    (case lf1 => k_is)
    (case cI1 => k_is)
    (case lcc1 => k_is)
    (case lcd1 => k_is)
    (case vf1 => exact rfl)
    (case pf1 => decide +kernel)
    (case cD1 => k_is)
    (case ini1 => kernel_rfl)
    (case ovr1 => kernel_rfl)
    (case hd1 => k_is)
    (case tf1 => k_is)
    (case sa1 => k_is)
    (case ga1 => k_is)
    (case gg1 => k_is)
    (case mr1 => k_is)
    (case su1 => kernel_rfl)
    (case sb1 => k_is)
    (case ex1 => k_is)
    (case ty1 => k_is)
    (case ha1 => k_is)
    (case hm1 => k_is)
    (case no1_0 => k_is)
    (case it1_0 => kernel_rfl)
    (case it1_1 => kernel_rfl)
    (case it1_2 => kernel_rfl)
    (case it1_3 => kernel_rfl)
    (case it1_4 => kernel_rfl)
    (case it1_5 => kernel_rfl)
    (case it1_6 => kernel_rfl)
    (case it1_7 => kernel_rfl)
    (case gC2 => k_is)
    (case kC2 => k_is)
    (case fi2 => k_is)
    (case lf2 => k_is)
    (case cI2 => k_is)
    (case lcc2 => k_is)
    (case lcd2 => k_is)
    (case vf2 => exact rfl)
    (case pf2 => decide +kernel)
    (case cD2 => k_is)
    (case ini2 => kernel_rfl)
    (case ovr2 => kernel_rfl)
    (case hd2 => k_is)
    (case tf2 => k_is)
    (case sa2 => k_is)
    (case ga2 => k_is)
    (case gg2 => k_is)
    (case mr2 => k_is)
    (case su2 => kernel_rfl)
    (case sb2 => k_is)
    (case ex2 => k_is)
    (case ty2 => k_is)
    (case ha2 => k_is)
    (case hm2 => k_is)
    (case no2_0 => k_is)
    (case it2_0 => kernel_rfl)
    (case it2_1 => kernel_rfl)
    (case it2_2 => kernel_rfl)
    (case it2_3 => kernel_rfl)
    (case it2_4 => kernel_rfl)
    (case it2_5 => kernel_rfl)
    (case it2_6 => kernel_rfl)
    (case it2_7 => kernel_rfl)
    (case gC3 => k_is)
    (case kC3 => k_is)
    (case fi3 => k_is)
    (case lf3 => k_is)
    (case cI3 => k_is)
    (case lcc3 => k_is)
    (case lcd3 => k_is)
    (case vf3 => exact rfl)
    (case pf3 => decide +kernel)
    (case cD3 => k_is)
    (case ini3 => kernel_rfl)
    (case ovr3 => kernel_rfl)
    (case hd3 => k_is)
    (case tf3 => k_is)
    (case sa3 => k_is)
    (case ga3 => k_is)
    (case gg3 => k_is)
    (case mr3 => k_is)
    (case su3 => kernel_rfl)
    (case sb3 => k_is)
    (case ex3 => k_is)
    (case ty3 => k_is)
    (case ha3 => k_is)
    (case hm3 => k_is)
    (case no3_0 => k_is)
    (case it3_0 => kernel_rfl)
    (case it3_1 => kernel_rfl)
    (case it3_2 => kernel_rfl)
    (case it3_3 => kernel_rfl)
    (case it3_4 => kernel_rfl)
    (case it3_5 => kernel_rfl)
    (case it3_6 => kernel_rfl)
    (case it3_7 => kernel_rfl)
    (case io0_0 => kernel_rfl)
    (case em0_0 => kernel_rfl)
    (case io0_1 => kernel_rfl)
    (case em0_1 => kernel_rfl)
    (case io0_2 => kernel_rfl)
    (case em0_2 => kernel_rfl)
    (case io0_3 => kernel_rfl)
    (case em0_3 => kernel_rfl)
    (case io1_0 => kernel_rfl)
    (case em1_0 => kernel_rfl)
    (case io1_1 => kernel_rfl)
    (case em1_1 => kernel_rfl)
    (case io1_2 => kernel_rfl)
    (case em1_2 => kernel_rfl)
    (case io1_3 => kernel_rfl)
    (case em1_3 => kernel_rfl)
    (case io2_0 => kernel_rfl)
    (case em2_0 => kernel_rfl)
    (case io2_1 => kernel_rfl)
    (case em2_1 => kernel_rfl)
    (case io2_2 => kernel_rfl)
    (case em2_2 => kernel_rfl)
    (case io2_3 => kernel_rfl)
    (case em2_3 => kernel_rfl)
    (case io3_0 => kernel_rfl)
    (case em3_0 => kernel_rfl)
    (case io3_1 => kernel_rfl)
    (case em3_1 => kernel_rfl)
    (case io3_2 => kernel_rfl)
    (case em3_2 => kernel_rfl)
    (case io3_3 => kernel_rfl)
    (case em3_3 => kernel_rfl)
    (case tp => decide +kernel)
