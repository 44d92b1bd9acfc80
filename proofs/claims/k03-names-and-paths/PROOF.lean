import PyProof.Rows.All
import Wide.All
import OpenK.AllK
import Wide.FinOn
import PyProof.ReprRoads
import HandS.ForMost
import HandS.Wide
import HandS.IsInst
import HandS.Defaults
import HandS.Walk
import HandS.More
import HandS.Codes
import PySem.Challenge.RW_tarhouse_k03_names_and_paths
set_option Elab.async false
set_option linter.all false
set_option maxRecDepth 100000
set_option maxHeartbeats 4000000
/-! Rules of our own over the hand layer, for the laws of tarhouse. -/
namespace Tar
open PySem PySem.Spec PyProof.Rows L2
/-! ### heaps -/
/-- all but what stands at p is as it was -/
def Kp (p : Addr) (H H' : Hp) : Prop := ∀ b o, H b = some o → b ≠ p → H' b = some o
theorem Kp.refl (p : Addr) (H : Hp) : Kp p H H := fun _ _ e _ => e
theorem Kp.trans {p : Addr} {H H1 H2 : Hp} (a : Kp p H H1) (b : Kp p H1 H2) : Kp p H H2 := fun c o e n => b c o (a c o e n) n
theorem Kp.of {p : Addr} {H H' : Hp} (s : Same H H') : Kp p H H' := fun b o e _ => s b o e
theorem Kp.same {p : Addr} {H H' : Hp} {o : HO} (k : Kp p H H') (n : H p = none) : Same H H' := fun b u e => k b u e (ne_of_none e n)
theorem kp_upd {p : Addr} {H : Hp} {o : HO} : Kp p H (upd H p o) := fun b u e n => by
  rw [upd_ne n]
  exact e
theorem same_upd {H : Hp} {p : Addr} {o : HO} (h : H p = none) : Same H (upd H p o) := fun b x e => by
  rw [upd_ne (ne_of_none e h)]
  exact e
theorem Same.tup {K : PySem.W.Frag} {H H' : Hp} {a : Addr} {xs : List V} (e : Same H H') (h : SqT K H a xs) : SqT K H' a xs := by
  rcases h with h | h
  · rcases h with h | ⟨o, h⟩
    · exact .inl (.inl (e _ _ h))
    · exact .inl (.inr ⟨o, e _ _ h⟩)
  · exact .inr h
/-! ### text times int -/
section
variable {X : Cx}
theorem op_mul_str : OpR X (binaryOp .Mult) (fun x y H Q => ∃ i n, x = .str i ∧ y = .int n ∧ MulOk i n ∧ Q (.str (Txt.mul i n)) H) := by
  intro pins s σ H x y v u Q I rx ry h
  obtain ⟨i, n, rfl, rfl, hm, q⟩ := h
  obtain ⟨t, rfl⟩ := rx
  obtain ⟨t', rfl⟩ := ry
  exact SB.mul hm fun t2 k => ⟨.str (Txt.mul i n), H, I.tok k, ⟨t2, rfl⟩, q⟩
end
/-! ### f(k = v, ..) of a def -/
section
variable {X : Cx} {CX : CXT} {k : Nat} {f : Addr} {fd : FuncData} {ps ks : List Str} {sp : Sp} {E : XK} {x : Str} {p pos : Pos} {kws : List Keyword} {tk : TA} {g : List Value → List Value → List Value} {gV : List V → List V → List V}
def tCallK0 (m : Nat) (sp : Sp) (gV : List V → List V → List V) (E : XK) (tk : TA) : TE := fun σ H Q => tk σ H fun zs H2 => zs.length = m ∧ sp (gV [] zs) H2 Q E
theorem pe_callK0 (F : FnOk X.prog X.w X.K X.mg X.base CX k f fd ps sp) (hr : Room k X.A) (hg : Gl X x) (hm : X.mg x = some (.ref f)) (hk : PySem.W.keepIn X.K (.ref f) = true) (hb : KBn X.K fd ps 0 ks g gV) (hx : Passes CX X E) (hkw : PK X kws tk)
    (hall : (backToKw pos (keywordEach kws X.env)).all (·.1.isSome) = true := by rfl)
    (hks : (backToKw pos (keywordEach kws X.env)).filterMap (·.1) = ks := by rfl) (hdb : (x == ("__debug__" : Str)) = false := by decide)
    (hpl : ((backTo pos (starEach [] X.env)).any (·.1) || (backToKw pos (keywordEach kws X.env)).any (·.1.isNone)) = false := by rfl) :
    PE X (.Call (.Name x p) [] kws pos) (tCallK0 ks.length sp gV E tk) := by
  constructor
  intro pins s σ H Q I h
  refine wpAny_Call_Name_kw (ld_glob I hg hm ?_ hdb)
  refine PySem.W.callWith_KW0 (h₀ := X.base) I.ok.mod.kin hk hall ?_ hpl
  refine thn (hkw.run pos pins s σ H _ I h) ?_
  rintro ws s2 ⟨zs, H2, I2, rz, l2, q2⟩
  refine ⟨I2.kIn, ?_⟩
  rw [hks]
  exact run_fnN (us := []) (vs := []) F hr hb hx I2 .nil rz rfl l2 q2
/-- one parameter, given by its name -/
theorem kbn_one {K : PySem.W.Frag} {fd : FuncData} {a : Str} (h : ∀ v : Value, bindArgs fd ⟨[], [(a, v)]⟩ = pure [(a, v)]) : KBn K fd [a] 0 [a] (fun _ ws => ws) (fun _ zs => zs) := by
  refine ⟨fun s us ws _ l1 l2 => ?_, fun _ r => r⟩
  obtain rfl : us = [] := List.eq_nil_of_length_eq_zero l1
  match ws, l2 with
  | [w1], _ => exact .of_eq (h w1)
end
/-! ### repr of data -/
section
variable {X : Cx}
theorem call_repr (hg : X.A.guards = some []) (hu : X.A.units + 64 < cLine) : CallR X (.builtin "repr") (fun xs H Q => ∃ a d, xs = [.ref a] ∧ Dp X.K H (.ref a) d ∧ d.showable = true ∧ d.hasDict = false ∧ d.depth < 60 ∧ d.shown.length ≤ sizeLine ∧ Q (.str d.shown) H) := by
  intro pins s σ H xs us Q I r h
  obtain ⟨a, d, rfl, hd, h1, h2, h3, h4, q⟩ := h
  obtain rfl := Vals.ref1 r
  obtain ⟨as, hr⟩ := Dp.reads I d (.ref a) (.ref a) hd rfl
  refine repr_of_reads' hr h1 (fun z => ?_) hg (by omega) (fun _ _ e => e) (fun h' u tk hk => ?_) h4
  · rw [h2] at z
    cases z
  · exact ⟨.str d.shown, H, I.kept hk, ⟨u, rfl⟩, q⟩
end
/-! ### a def's promise where no repr is running around -/
structure FnG (P : Program) (w : World) (K : PySem.W.Frag) (mg : Str → Option Value) (base : Heap) (CX : CXT) (k : Nat) (f : Addr) (fd : FuncData) (ps : List Str) (sp : Sp) : Prop where
  len : ∀ vs H Q E, sp vs H Q E → vs.length = ps.length
  run : ∀ (A : Around) (outer : List Env) (s : Shared) (H : Hp) (args : Args) (us : List Value) (vs : List V) (Q : VK) (E : XK), A.guards = some [] → Room k A → Env0 P w K mg base A outer s H →
    BindsTo s fd args (ps.zip us) → Vals vs us → sp vs H Q E → codeAny (model P w) A (.call (.ref f) args) (CR CX outer P w H s Q E) s

/-! ### defs by their names -/
/-- the def x of the text stands behind the top -/
def Def (K : PySem.W.Frag) (mg : Str → Option Value) (x : Str) (st : Stmt) : Prop := ∃ f fd, Fun K x x st f fd ∧ mg x = some (.ref f)
/-- the def x keeps its promise -/
def Cal (P : Program) (w : World) (K : PySem.W.Frag) (mg : Str → Option Value) (base : Heap) (k : Nat) (x : Str) (st : Stmt) (ps : List Str) (sp : Sp) : Prop :=
  ∃ f fd, FnOk P w K mg base CX0 k f fd ps sp ∧ Fun K x x st f fd ∧ mg x = some (.ref f) ∧ Binds K fd ps []
/-- .. called by keywords alone -/
def CalK (P : Program) (w : World) (K : PySem.W.Frag) (mg : Str → Option Value) (base : Heap) (k : Nat) (x : Str) (st : Stmt) (ps ks : List Str) (gV : List V → List V → List V) (sp : Sp) : Prop :=
  ∃ f fd g, FnOk P w K mg base CX0 k f fd ps sp ∧ Fun K x x st f fd ∧ mg x = some (.ref f) ∧ KBn K fd ps 0 ks g gV
section
variable {P : Program} {w : World} {K : PySem.W.Frag} {mg : Str → Option Value} {base : Heap} {x : Str} {st : Stmt} {N ps : List Str} {k : Nat} {sp : Sp}
theorem cal_of (D : Def K mg x st) (S : FnScope N ps (defScope st))
    (hb : ∀ (kV doc pm : Value) (an : Option Addr) (cdv ct : Value) (us : List Value), us.length = ps.length →
      bindArgs (PySem.W.fnOf x x (defArgs st) (defBody st) (defScope st) .none kV doc pm an cdv ct) ⟨us, []⟩ = pure (ps.zip us))
    (ln : ∀ vs H Q E, sp vs H Q E → vs.length = ps.length)
    (hbody : ∀ (f : Addr) (cdv : Value) (A : Around) (outer : List Env) (s : Shared) (H : Hp) (vs : List V) (Q : VK) (E : XK),
      Room k (A.deeper (envOfC x (defScope st) s.heap.objs.size f cdv)) → sp vs H Q E →
      ∃ t, PSs (cxOf CX0 P w K mg base N x (defScope st) f cdv A outer s H E).nox (defBody st) t ∧ t { nx := fun _ H' => Q .non H', rt := Q } (start N vs) H) :
    Cal P w K mg base (k + 1) x st ps sp := by
  obtain ⟨f, fd, F, g⟩ := D
  exact ⟨f, fd, F.ok S ln (fun cdv A outer s H vs Q E hr h => hbody f cdv A outer s H vs Q E hr h), F, g, F.binds hb⟩
theorem Cal.imp {sp' : Sp} (c : Cal P w K mg base k x st ps sp) (h : ∀ vs H Q E, sp' vs H Q E → sp vs H Q E) : Cal P w K mg base k x st ps sp' := by
  obtain ⟨f, fd, F, D, g, b⟩ := c
  exact ⟨f, fd, F.imp h, D, g, b⟩
/-- a def of one parameter, called by its name -/
theorem Cal.kw1 {a : Str} (c : Cal P w K mg base k x st [a] sp)
    (hb : ∀ (kV doc pm : Value) (an : Option Addr) (cdv ct v : Value), bindArgs (PySem.W.fnOf x x (defArgs st) (defBody st) (defScope st) .none kV doc pm an cdv ct) ⟨[], [(a, v)]⟩ = pure [(a, v)]) :
    CalK P w K mg base k x st [a] [a] (fun _ zs => zs) sp := by
  obtain ⟨f, fd, F, D, g, b⟩ := c
  obtain ⟨oc, od, kV, doc, pm, an, cdv, ct, osl, rfl, lk, hcd⟩ := D.ex
  exact ⟨f, _, _, F, D, g, kbn_one (fun v => hb kV doc pm an cdv ct v)⟩
end
section
variable {X : Cx} {k j : Nat} {ps ks : List Str} {sp : Sp} {st : Stmt} {E : XK} {x : Str} {p pos : Pos} {e : Expr} {es : List Expr} {kws : List Keyword} {t tk : TA} {gV : List V → List V → List V}
theorem pe_cal (c : Cal X.prog X.w X.K X.mg X.base k x st ps sp) (hr : Room j X.A) (hk : k ≤ j) (hg : Gl X x) (hx : Passes CX0 X E) (ha : PA X (e :: es) t)
    (hdb : (x == ("__debug__" : Str)) = false := by decide) (he : starEach (e :: es) X.env = (false, eval e X.env) :: starEach es X.env := by rfl) (hpl : (backTo pos (starEach es X.env)).any (·.1) = false := by rfl) :
    PE X (.Call (.Name x p) (e :: es) [] pos) (tCall sp [] E t) := by
  obtain ⟨f, fd, F, D, g, b⟩ := c
  exact pe_call F (hr.mono hk) hg g D.kp b .nil hx ha hdb he hpl
theorem pe_calK (c : CalK X.prog X.w X.K X.mg X.base k x st ps ks gV sp) (hr : Room j X.A) (hk : k ≤ j) (hg : Gl X x) (hx : Passes CX0 X E) (hkw : PK X kws tk)
    (hall : (backToKw pos (keywordEach kws X.env)).all (·.1.isSome) = true := by rfl) (hks : (backToKw pos (keywordEach kws X.env)).filterMap (·.1) = ks := by rfl)
    (hdb : (x == ("__debug__" : Str)) = false := by decide)
    (hpl : ((backTo pos (starEach [] X.env)).any (·.1) || (backToKw pos (keywordEach kws X.env)).any (·.1.isNone)) = false := by rfl) :
    PE X (.Call (.Name x p) [] kws pos) (tCallK0 ks.length sp gV E tk) := by
  obtain ⟨f, fd, g, F, D, gm, b⟩ := c
  exact pe_callK0 F (hr.mono hk) hg gm D.kp b hx hkw hall hks hdb hpl
/-- from what the top has left -/
theorem def_mk {K : PySem.W.Frag} {mg : Str → Option Value} {h : Heap} {x : Str} {st : Stmt} {f : Addr} {oc : Value} {od an : Option Addr} {osl : Array (Option Value)} {kV doc pm cdv ct : Value} (X : K.In h) (G : h.Ns mainGlobals mg)
    (a : PySem.W.nsIn K mainGlobals x = some (some (.ref f)))
    (l : K.lookup f = some ⟨oc, od, .func (PySem.W.fnOf x x (defArgs st) (defBody st) (defScope st) .none kV doc pm an cdv ct), osl⟩)
    (c : PySem.W.codeIn K cdv x = true) (k : PySem.W.keepIn K (.ref f) = true) : Def K mg x st :=
  ⟨f, _, fun_mk l c k, PySem.W.mg_of X G a⟩
/-- a constant of the module -/
theorem pe_gc {v : V} (hg : Gl X x) (h : ∃ u, X.mg x = some u ∧ RelV v u) (hd : (x == ("__debug__" : Str)) = false := by decide) : PE X (.Name x pos) (tC v) := by
  obtain ⟨u, e, r⟩ := h
  exact pe_glob hg e r hd
end
/-- a built-in class as a value -/
theorem pe_ty {X : Cx} {x : Str} {pos : Pos} (n : String) (hg : Gl X x) (hm : X.mg x = none) (hv : bootBuiltins x = some (.type n)) (hn : x ≠ "__name__" := by decide) (hd : (x == ("__debug__" : Str)) = false := by decide) :
    PE X (.Name x pos) (tC (.ty n)) := pe_bltn hg hm hv rfl hn hd
/-- len, by a K that is written -/
def rLenK (K : PySem.W.Frag) : List V → Hp → VK → Prop := fun xs H Q => ∃ p ys, xs = [.ref p] ∧ (SqL K H p ys ∨ SqT K H p ys) ∧ Q (.int ys.length) H
theorem call_lenK {X : Cx} {K : PySem.W.Frag} (h : X.K = K) : CallR X (.builtin "len") (rLenK K) := by
  subst h
  exact call_len_seq
def rLenV (K : PySem.W.Frag) : List V → Hp → VK → Prop := fun xs H Q => ∃ x n, xs = [x] ∧ LenV K x H n ∧ Q (.int n) H
theorem call_lenV {X : Cx} {K : PySem.W.Frag} (h : X.K = K) : CallR X (.builtin "len") (rLenV K) := by
  subst h
  exact call_len
/-! ### comprehensions whose element leaves the heap as it is -/
section
variable {J : It} {n : Nat} {G : Hp → Prop} {Y : Nat → Hp → V → Hp → Prop}
theorem lc_map (w : Walk J n G Y) {i0 : Nat} {te : TE} {σ : L2.St} {H1 : Hp} {D : Addr} {Qd : Hp → Prop} (f : Nat → V) (hz : n ≤ sizeLine)
    (hG : ∀ xs, G (upd H1 D (.lst xs)))
    (hs : ∀ i x H H', i < n → Y i H x H' → H = upd H1 D (.lst ((List.range i).map f)) → H' = H ∧ wipe ((wipe σ [i0]).set i0 (some x)) [i0] = wipe σ [i0] ∧
      ∀ Q : VK, Q (f i) H → te ((wipe σ [i0]).set i0 (some x)) H Q) (hd : Qd (upd H1 D (.lst ((List.range n).map f)))) :
    ∃ W : Nat → Nat → Hp → Prop, (∃ m, W 0 m (upd H1 D (.lst []))) ∧ ∀ i m H, W i m H →
      (J.stop i H ∧ Qd H) ∨ (J.go i H ∧ ∃ Nx : Hp → Prop, (∀ H', Nx H' → ∃ m', m' < m ∧ W (i + 1) m' H') ∧ ∀ x H', J.yld i H x H' → (gName i0) x (wipe σ [i0]) H' fun σ2 H2 => wipe σ2 [i0] = wipe σ [i0] ∧ tYes σ2 H2 fun b H3 =>
        if b = true then te σ2 H3 fun y H4 => ∃ acc, H4 D = some (.lst acc) ∧ acc.length < sizeLine ∧ Nx (upd H4 D (.lst (acc ++ [y]))) else Nx H3) := by
  refine lc_it w (fun i H => H = upd H1 D (.lst ((List.range i).map f))) rfl (fun i H _ e => by rw [e]; exact hG _) ?_ ?_
  · intro i x H H' hi e y
    obtain ⟨rfl, hw, hq⟩ := hs i x H H' hi y e
    refine ⟨hw, ?_⟩
    refine hq _ ⟨(List.range i).map f, ?_, ?_, ?_⟩
    · rw [e, upd_same]
    · rw [List.length_map, List.length_range]
      omega
    · rw [e, upd_upd, List.range_succ, List.map_append]
      rfl
  · intro H e
    rw [e]
    exact hd
/-- .. whose element may lay new objects -/
theorem lc_grow (w : Walk J n G Y) {g : TG} {tt : TT} {vs : List Nat} {te : TE} {σ : L2.St} {H1 : Hp} {D : Addr} {Qd : Hp → Prop} (f : Nat → V) (hz : n ≤ sizeLine) (hD : H1 D = none)
    (hG : ∀ H, Same H1 H → G H)
    (hs : ∀ i x H H' (Z : VK), i < n → Y i H x H' → Same H1 H → H D = some (.lst ((List.range i).map f)) → (∀ H2, Same H' H2 → Z (f i) H2) →
      Same H H' ∧ g x (wipe σ vs) H' fun σ2 H2 => wipe σ2 vs = wipe σ vs ∧ tt σ2 H2 fun b H3 => b = true ∧ te σ2 H3 Z)
    (mt : ∀ σ H (Q Q' : Bool → Hp → Prop), (∀ b H1, Q b H1 → Q' b H1) → tt σ H Q → tt σ H Q')
    (mg : ∀ x σ H (Q Q' : L2.St → Hp → Prop), (∀ a b, Q a b → Q' a b) → g x σ H Q → g x σ H Q')
    (hd : ∀ H, Same H1 H → H D = some (.lst ((List.range n).map f)) → Qd H) :
    ∃ W : Nat → Nat → Hp → Prop, (∃ m, W 0 m (upd H1 D (.lst []))) ∧ ∀ i m H, W i m H →
      (J.stop i H ∧ Qd H) ∨ (J.go i H ∧ ∃ Nx : Hp → Prop, (∀ H', Nx H' → ∃ m', m' < m ∧ W (i + 1) m' H') ∧ ∀ x H', J.yld i H x H' → g x (wipe σ vs) H' fun σ2 H2 => wipe σ2 vs = wipe σ vs ∧ tt σ2 H2 fun b H3 =>
        if b = true then te σ2 H3 fun y H4 => ∃ acc, H4 D = some (.lst acc) ∧ acc.length < sizeLine ∧ Nx (upd H4 D (.lst (acc ++ [y]))) else Nx H3) := by
  refine lc_it w (fun i H => Same H1 H ∧ H D = some (.lst ((List.range i).map f))) ⟨same_upd hD, upd_same⟩ (fun i H _ e => hG H e.1) ?_ ?_
  · rintro i x H H' hi ⟨e1, e2⟩ y
    obtain ⟨sm, -⟩ := hs i x H H' (fun _ _ => True) hi y e1 e2 (fun _ _ => trivial)
    obtain ⟨-, q⟩ := hs i x H H' (fun y H4 => ∃ acc, H4 D = some (.lst acc) ∧ acc.length < sizeLine ∧
      (Same H1 (upd H4 D (.lst (acc ++ [y]))) ∧ (upd H4 D (.lst (acc ++ [y]))) D = some (.lst ((List.range (i + 1)).map f)))) hi y e1 e2 (fun H2 s2 => by
        refine ⟨(List.range i).map f, s2 _ _ (sm _ _ e2), ?_, ?_, ?_⟩
        · rw [List.length_map, List.length_range]
          omega
        · intro b o hb
          rw [upd_ne (ne_of_none hb hD)]
          exact s2 _ _ (sm _ _ (e1 _ _ hb))
        · rw [upd_same, List.range_succ, List.map_append]
          rfl)
    refine mg _ _ _ _ _ ?_ q
    rintro σ2 H2 ⟨hw, ht⟩
    refine ⟨hw, mt _ _ _ _ ?_ ht⟩
    rintro b H3 ⟨rfl, hq⟩
    exact hq
  · rintro H ⟨e1, e2⟩
    exact hd H e1 e2
theorem mono_yes : ∀ (σ : L2.St) (H : Hp) (Q Q' : Bool → Hp → Prop), (∀ b H1, Q b H1 → Q' b H1) → tYes σ H Q → tYes σ H Q' := fun _ _ _ _ h q => h _ _ q
theorem mono_name {i : Nat} : ∀ (x : V) (σ : L2.St) (H : Hp) (Q Q' : L2.St → Hp → Prop), (∀ a b, Q a b → Q' a b) → gName i x σ H Q → gName i x σ H Q' := fun _ _ _ _ _ h q => h _ _ q
end
section
variable {P : Program} {w : World} {K : PySem.W.Frag} {mg : Str → Option Value} {base : Heap}
/-- a def by its body, where no repr is running around it -/
theorem okG {x qual : Str} {st : Stmt} {f : Addr} {fd : FuncData} {N ps : List Str} {k : Nat} {sp : Sp} (F : Fun K x qual st f fd) (S : FnScope N ps (defScope st))
    (ln : ∀ vs H Q E, sp vs H Q E → vs.length = ps.length)
    (hb : ∀ (cdv : Value) (A : Around) (outer : List Env) (s : Shared) (H : Hp) (vs : List V) (Q : VK) (E : XK), A.guards = some [] → Room k (A.deeper (envOfC qual (defScope st) s.heap.objs.size f cdv)) → sp vs H Q E →
      ∃ t, PSs (cxOf CX0 P w K mg base N qual (defScope st) f cdv A outer s H E).nox (defBody st) t ∧
        t { nx := fun _ H' => Q .non H', rt := Q } (start N vs) H) :
    FnG P w K mg base CX0 (k + 1) f fd ps sp := by
  refine ⟨ln, ?_⟩
  intro A outer s H args us vs Q E hg hr e0 hbd r hsp
  obtain ⟨oc, od, kV, doc, pm, an, cdv, ct, osl, rfl, lk, hcd⟩ := F.ex
  have hl := ln _ _ _ _ hsp
  have KX : K.In s.heap := e0.mod.kin.keeps (fun b o e => (e0.bs b o e).1)
  have lm : s.heap.NoLimit := e0.mod.nolimit.keeps (fun b o e => (e0.bs b o e).1)
  have hkd : ∀ y ∈ ps.zip us, (defScope st).names.lookup y.1 = some .local ∨
      ((defScope st).names.lookup y.1 = some .cell ∧ ((cellsFrom (s.heap.objs.size + 1) (defScope st).names []).lookup y.1).isSome = true) := by
    rintro ⟨nm, vl⟩ hy
    have hm := S.par nm (List.of_mem_zip hy).1
    rcases hm with q | q
    · exact Or.inl q
    · exact Or.inr ⟨q, PySem.W.cellsFrom_some _ _ _ (Or.inl q)⟩
  refine codeAny_call_function hr.depth (KX _ _ lk) rfl S.co S.gen rfl (PySem.W.codeRec_of KX hcd) (hbd _ _ _ _ ?_)
  refine wpAny_newFunctionEnv_cells S.kind hkd ?_
  intro en he s1 xx
  subst he
  refine ⟨lm.keeps xx.toInCall.keep, codeAny_func ?_⟩
  obtain ⟨t, ht, hq⟩ := hb cdv A outer s H vs Q E hg (hr.deeper _) hsp
  have I := inv_start (CX := CX0) (N := N) (E := E) S hr.hd e0 hl r xx
  have I' := I.wish (fun _ _ => False)
  refine wpAny_mono (ht.run [] s1 (start N vs) H _ I' hq) (fun fl s' hs => ?_) (fun e s' hs => (show False from hs).elim)
  cases fl with
  | ret u =>
    obtain ⟨v, sg, H', J, rv, q⟩ := hs
    exact ⟨v, H', J.os, J.bare, J.base, J.hok, rv, q⟩
  | next =>
    obtain ⟨sg, H', J, q⟩ := hs
    exact ⟨V.non, H', J.os, J.bare, J.base, J.hok, rfl, q⟩
  | brk =>
    obtain ⟨_, _, _, q⟩ := hs
    exact q.elim
  | cont =>
    obtain ⟨_, _, _, q⟩ := hs
    exact q.elim
end
/-- an abstract heap in which a list of the heap's own is known, or one of the module's -/
theorem start_heap {P : Program} {w : World} {K : PySem.W.Frag} {h : Heap} {a : Addr} {vs : List Value} {ns : List Int} (KX : K.In h)
    (ha : h.get? a = some { cls := .type "list", data := .seq vs.toArray }) (hi : IntsAre vs ns) (hl : ns.length ≤ sizeLine) :
    ∃ H : Hp, Only H ∧ SqL K H a (ns.map V.int) ∧ HOk P w H h ∧ (∀ b, H b ≠ none → b = a) ∧ (H a ≠ none → K.lookup a = none) := by
  have rv := vals_ints hi
  have lenV := hi.length
  cases hk : K.lookup a with
  | some o =>
    have e := KX a o hk
    rw [ha] at e
    cases e
    refine ⟨fun _ => none, fun _ => Or.inl rfl, Or.inr ⟨_, vs.toArray, _, hk, rfl, rfl, rfl, ?_, ?_⟩, ?_, ?_, ?_⟩
    · rw [List.size_toArray, lenV]
      exact hl
    · simpa using rv
    · intro b u z
      have z' : (none : Option HO) = some u := z
      cases z'
    · intro b z
      exact absurd rfl z
    · intro z
      exact absurd rfl z
  | none =>
    let L : HO := .frz { cls := .type "list", data := .seq vs.toArray } (.lst (ns.map V.int))
    let H : Hp := upd (fun _ => none) a L
    have eA : H a = some L := upd_same
    have eN : ∀ b, b ≠ a → H b = none := fun b hb => upd_ne hb
    refine ⟨H, ?_, Or.inl (Or.inr ⟨_, eA⟩), ?_, ?_, fun _ => rfl⟩
    · intro b
      by_cases hb : b = a
      · rw [hb]
        exact Or.inr ⟨_, _, eA⟩
      · exact Or.inl (eN b hb)
    · intro b u z
      by_cases hb : b = a
      · rw [hb] at z ⊢
        have z' := eA.symm.trans z
        cases z'
        refine ⟨ha, ?_, vs, _, rv, ha⟩
        rw [List.length_map]
        exact hl
      · have z' := (eN b hb).symm.trans z
        cases z'
    · intro b z
      by_cases hb : b = a
      · exact hb
      · exact absurd (eN b hb) z
/-- THE END for a law whose def is promised by FnG -/
theorem walkG {l : PySem.W.OpenLaw} {n k : Nat} {q : Program} {loose : List Str} {XP : (Str → Option Value) → Heap → Prop} {YP : World → Heap → Prop} {d : DefRec} {K : Params → PySem.W.Frag} {sp : PySem.W.Frag → Sp} {x : Str}
    (hn : l.most = some n) (hn2 : n ≤ sizeLine) (hdf : d.params.defaults = []) (hr : Room k callerA)
    (hY : ∀ (w : World) (h : Heap), YP w h → (K w.params).In h)
    (F : ∀ (w : World) (mg : Str → Option Value) (fa : Addr) (h : Heap), (K w.params).In h → h.Ns mainGlobals mg → mg d.name = some (.ref fa) →
      ∃ fd : FuncData, (∀ (s : Shared) (u : Value), BindsTo s fd ⟨[u], []⟩ [(x, u)]) ∧
        ∀ base : Heap, (K w.params).In base → base.Ns mainGlobals mg → FnG l.prog w (K w.params) mg base CX0 k fa fd [x] (sp (K w.params)))
    (hsp : ∀ (K : PySem.W.Frag) (H : Hp) (a : Addr) (ns : List Int), ns.length ≤ n → Only H → SqL K H a (ns.map V.int) → sp K [.ref a] H (fun v _ => v = .bl true) fun _ _ _ => False) :
    PySem.W.WalkO q loose XP YP l.row.toRowW d [] (fun f vs => PySem.call f vs) := by
  refine Att.attach_call hn hdf ?_
  intro w s0 s1 mg mb fa o pm cd doc a vs ns G Y ho hd hcd hmg hobj hints hlen hg
  have KX := hY w _ Y
  obtain ⟨fd, hb, hF⟩ := F w mg fa _ KX G.T.g hmg
  obtain ⟨H, hO, hS, hok, hA, hK⟩ := start_heap (P := l.prog) (w := w) KX hobj hints (Nat.le_trans hlen hn2)
  -- dicts are not tracked
  have noA : ∀ {b : Addr} {o : Obj} {es : Array DictEntry} {ep : Nat}, s1.heap.get? b = some o → o.data = .dict es ep → H b = none := by
    intro b o es ep e de
    cases qb : H b with
    | none => rfl
    | some u =>
      obtain rfl : b = a := hA b (by rw [qb]; exact fun z => nomatch z)
      rw [hobj] at e
      cases e
      exact nomatch de
  have nsK : ∀ {b : Addr} {m : Str → Option Value}, s1.heap.Ns b m → (hidT s1.heap H).Ns b m := by
    rintro b m ⟨o, es, ep, e, de, r⟩
    exact ⟨o, es, ep, hidT_get e (noA e de), de, r⟩
  have hKb : (K w.params).In (hidT s1.heap H) := by
    intro b o e
    refine hidT_get (KX b o e) ?_
    cases qb : H b with
    | none => rfl
    | some u =>
      have nb : H b ≠ none := by
        rw [qb]
        exact fun z => nomatch z
      obtain rfl : b = a := hA b nb
      rw [hK nb] at e
      cases e
  have hM : Mod (K w.params) mg (hidT s1.heap H) := by
    obtain ⟨mc, h1, h2⟩ := G.T.nolimit
    exact ⟨hKb, nsK G.T.g, ⟨mb, nsK G.T.b, G.T.builtins⟩, ⟨mc, nsK h1, h2⟩⟩
  have e0 : Env0 l.prog w (K w.params) mg (hidT s1.heap H) callerA [] s1 H := by
    refine ⟨rfl, hM, fun b o e => of_hidT e, Nat.le_of_eq (hidT_size _ _), trivial, ?_, hok, .of_eq hg⟩
    intro b hb
    exact nomatch (show b ∈ ([] : List Addr) from hb)
  have run := (hF _ hKb (nsK G.T.g)).run callerA [] s1 H ⟨[.ref a], []⟩ [.ref a] [.ref a] _ _ rfl hr e0 (hb s1 (.ref a)) (.cons rfl .nil) (hsp (K w.params) H a ns hlen hO hS)
  refine codeAny_mono run ?_
  intro r s' h
  cases r with
  | error e => exact (show False from h).elim
  | ok fl =>
    cases fl with
    | next => exact (show False from h).elim
    | brk => exact (show False from h).elim
    | cont => exact (show False from h).elim
    | ret u =>
      obtain ⟨v, H', os, bare, un, hok', r', qq⟩ := h
      obtain rfl : v = .bl true := qq
      obtain rfl : u = Value.bool true := r'
      refine ⟨rfl, OldK.of_keep ?_, os, bare⟩
      intro b o e
      have nf : b ∉ frs ([] : List Env) := fun z => nomatch (show b ∈ ([] : List Addr) from z)
      rcases hO b with z | ⟨ob, xs, z⟩
      · exact un.keep b o e z nf (fun z => nomatch z)
      · have z2 := un.frzs b ob _ z
        obtain ⟨e1, _⟩ := hok b _ z
        obtain ⟨e2, _⟩ := hok' b _ z2
        rw [e] at e1
        cases e1
        exact e2
end Tar

namespace K3
open PySem PySem.Spec PyProof.Rows L2 Tar
/-! ### the text -/
def top (i : Nat) : Stmt := PySem.Challenge.pw_tarhouse_k03_names_and_paths.main.body.getD i (.Pass ⟨0, 0, 0, 0⟩)
abbrev s_is_integer : Stmt := top 3
theorem sc_is_integer : FnScope ["thing"] ["thing"] (defScope s_is_integer) := ⟨rfl, rfl, rfl, by decide +kernel, rfl, by decide +kernel, by decide +kernel⟩
abbrev s_is_within : Stmt := top 4
theorem sc_is_within : FnScope ["thing", "low", "high"] ["thing", "low", "high"] (defScope s_is_within) := ⟨rfl, rfl, rfl, by decide +kernel, rfl, by decide +kernel, by decide +kernel⟩
abbrev s_blob : Stmt := top 5
theorem sc_blob : FnScope ["numbers", "number"] ["numbers"] (defScope s_blob) := ⟨rfl, rfl, rfl, by decide +kernel, rfl, by decide +kernel, by decide +kernel⟩
abbrev s_is_name : Stmt := top 9
theorem sc_is_name : FnScope ["thing", "sign"] ["thing"] (defScope s_is_name) := ⟨rfl, rfl, rfl, by decide +kernel, rfl, by decide +kernel, by decide +kernel⟩
abbrev s_is_path : Stmt := top 10
theorem sc_is_path : FnScope ["thing", "part"] ["thing"] (defScope s_is_path) := ⟨rfl, rfl, rfl, by decide +kernel, rfl, by decide +kernel, by decide +kernel⟩
abbrev s_l_source : Stmt := top 12
theorem sc_l_source : FnScope ["_law_script", "_law_at", "_law_cell", "_law_large", "_law_mix", "_law_k"] ["_law_script", "_law_at"] (defScope s_l_source) := ⟨rfl, rfl, rfl, by decide +kernel, rfl, by decide +kernel, by decide +kernel⟩
abbrev s_l_draw : Stmt := top 13
theorem sc_l_draw : FnScope ["_law_source_here", "_law_many", "_law_digit"] ["_law_source_here", "_law_many"] (defScope s_l_draw) := ⟨rfl, rfl, rfl, by decide +kernel, rfl, by decide +kernel, by decide +kernel⟩
abbrev s_l_random_name : Stmt := top 14
theorem sc_l_random_name : FnScope ["_law_source_here", "_law_many", "_law_found", "_law_k"] ["_law_source_here", "_law_many"] (defScope s_l_random_name) := ⟨rfl, rfl, rfl, by decide +kernel, rfl, by decide +kernel, by decide +kernel⟩
abbrev s_l_any_name : Stmt := top 15
theorem sc_l_any_name : FnScope ["_law_source_here", "_law_way", "_law_size", "_law_base"] ["_law_source_here"] (defScope s_l_any_name) := ⟨rfl, rfl, rfl, by decide +kernel, rfl, by decide +kernel, by decide +kernel⟩
abbrev s_l_is_name : Stmt := top 16
theorem sc_l_is_name : FnScope ["_law_given", "_law_sign"] ["_law_given"] (defScope s_l_is_name) := ⟨rfl, rfl, rfl, by decide +kernel, rfl, by decide +kernel, by decide +kernel⟩
abbrev s_l_is_path : Stmt := top 17
theorem sc_l_is_path : FnScope ["_law_given", "_law_part", "_law_sign"] ["_law_given"] (defScope s_l_is_path) := ⟨rfl, rfl, rfl, by decide +kernel, rfl, by decide +kernel, by decide +kernel⟩
abbrev s_l_bent : Stmt := top 18
theorem sc_l_bent : FnScope ["_law_source_here", "_law_text", "_law_at", "_law_sign", "_law_some"] ["_law_source_here", "_law_text"] (defScope s_l_bent) := ⟨rfl, rfl, rfl, by decide +kernel, rfl, by decide +kernel, by decide +kernel⟩
abbrev s_law : Stmt := top 19
theorem sc_law : FnScope ["_law_script", "_law_k", "_law_source_here", "_law_turn", "_law_text", "_law_some", "_law_odd", "_law_given", "_law_told"] ["_law_script"] (defScope s_law) := ⟨rfl, rfl, rfl, by decide +kernel, rfl, by decide +kernel, by decide +kernel⟩
/-! ### the mathematics -/
def letters : Str := "abcdefghijklmnopqrstuvwxyz0123456789._-/"
def isLet (c : Nat) : Bool := decide (c ∈ letters.cps.toList)
def isNm (z : Str) : Bool := decide (1 ≤ z.length) && (decide (z.length ≤ 250) && z.cps.toList.all isLet)
def badL (l : List Nat) : Bool := l == [] || (l == [46] || l == [46, 46])
def isPt (z : Str) : Bool := isNm z && !((TL.spl [47] 0 [] z.cps.toList).any badL)
/-- the law's own walk over the signs -/
def chk : List Nat → List Nat → Bool
  | _, [] => true
  | acc, c :: r => if c = 47 then (if badL acc = true then false else chk [] r) else chk (acc ++ [c]) r
theorem chk_spl : ∀ (l acc : List Nat), chk acc (l ++ [47]) = !((TL.spl [47] 0 acc l).any badL)
  | [], acc => by
    rw [TL.spl_nil]
    show (if (47 : Nat) = 47 then (if badL acc = true then false else chk [] []) else _) = !(List.any [acc] badL)
    rw [if_pos rfl]
    cases h : badL acc <;> simp [h, chk]
  | c :: r, acc => by
    by_cases hc : c = 47
    · subst hc
      have hp : TL.pre [47] (47 :: r) = true := by simp [TL.pre]
      rw [TL.spl_hit hp]
      show (if (47 : Nat) = 47 then (if badL acc = true then false else chk [] (r ++ [47])) else _) = _
      rw [if_pos rfl, chk_spl r []]
      show _ = !(List.any (acc :: TL.spl [47] 0 [] r) badL)
      rw [List.any_cons]
      cases h : badL acc <;> simp
    · have hp : TL.pre [47] (c :: r) = false := by
        have : (c == 47) = false := beq_eq_false_iff_ne.mpr hc
        simp [TL.pre, hc]
      rw [TL.spl_miss hp]
      show (if c = 47 then _ else chk (acc ++ [c]) (r ++ [47])) = _
      rw [if_neg hc, chk_spl r (acc ++ [c])]
theorem in_bad (q : List Nat) : inV (.str (⟨q.toArray⟩ : Str)) [.str "", .str ".", .str ".."] = badL q := by
  have e0 : ((("" : Str) == (⟨q.toArray⟩ : Str)) : Bool) = (q == []) := by
    rw [show ("" : Str) = SX.S [] by decide +kernel, SX.S_beq]
    cases q <;> rfl
  have e1 : (((("." : Str)) == (⟨q.toArray⟩ : Str)) : Bool) = (q == [46]) := by
    rw [show ("." : Str) = SX.S [46] by decide +kernel, SX.S_beq]
    exact Bool.eq_iff_iff.mpr ⟨fun h => by rw [beq_iff_eq] at h ⊢; exact h.symm, fun h => by rw [beq_iff_eq] at h ⊢; exact h.symm⟩
  have e2 : ((((".." : Str)) == (⟨q.toArray⟩ : Str)) : Bool) = (q == [46, 46]) := by
    rw [show (".." : Str) = SX.S [46, 46] by decide +kernel, SX.S_beq]
    exact Bool.eq_iff_iff.mpr ⟨fun h => by rw [beq_iff_eq] at h ⊢; exact h.symm, fun h => by rw [beq_iff_eq] at h ⊢; exact h.symm⟩
  show (List.any [V.str "", V.str ".", V.str ".."] fun y => eqV y (.str (⟨q.toArray⟩ : Str))) = badL q
  simp only [List.any_cons, List.any_nil, Bool.or_false, eqV, badL]
  rw [e0, e1, e2]
theorem range_map {α : Type} (l : List Nat) (g : Nat → α) : (List.range l.length).map (fun i => g (l.getD i 0)) = l.map g := by
  refine List.ext_getElem? fun i => ?_
  by_cases h : i < l.length
  · simp [h, List.getD]
  · simp [h, Nat.le_of_not_lt h]
/-! ### what the top has -/
structure Txt (mg : Str → Option Value) : Prop where
  n_isinstance : mg "isinstance" = none
  n_int : mg "int" = none
  n_bool : mg "bool" = none
  n_bytes : mg "bytes" = none
  n_all : mg "all" = none
  n_list : mg "list" = none
  n_tuple : mg "tuple" = none
  n_str : mg "str" = none
  n_len : mg "len" = none
  n_any : mg "any" = none
  n_range : mg "range" = none
  n_min : mg "min" = none
  n_abs : mg "abs" = none
  n_max : mg "max" = none
  n_repr : mg "repr" = none
  g_LETTERS : ∃ u, mg "LETTERS" = some u ∧ RelV (.str letters) u
  g_MOST_NAME : ∃ u, mg "MOST_NAME" = some u ∧ RelV (.int 250) u
/-! ### values that are handed to is_name -/
theorem TyOf.same {K : PySem.W.Frag} {H H' : Hp} {x : V} {t : Value} (s : Same H H') (h : TyOf K H x t) : TyOf K H' x t := by
  cases h with
  | non => exact .non
  | bl b => exact .bl b
  | int i => exact .int i
  | str z => exact .str z
  | flt z => exact .flt z
  | lst e => exact .lst (s _ _ e)
  | frz e => exact .frz (s _ _ e)
  | tup e => exact .tup (s _ _ e)
  | dK e => exact .dK (s _ _ e)
  | dT e => exact .dT (s _ _ e)
  | ins e a b c d f => exact .ins (s _ _ e) a b c d f
theorem TyX.same {K : PySem.W.Frag} {H H' : Hp} {x : V} {t : Value} (s : Same H H') (h : TyX K H x t) : TyX K H' x t := by
  cases h with
  | base h => exact .base (TyOf.same s h)
  | byt b => exact .byt b
  | set e => exact .set (s _ _ e)
  | kList e c => exact .kList e c
  | kTuple e c => exact .kTuple e c
  | kDict e c => exact .kDict e c
  | fTuple e => exact .fTuple (s _ _ e)
  | fDict e => exact .fDict (s _ _ e)
inductive Gv (K : PySem.W.Frag) (H : Hp) : V → Option Str → Prop where
  | str (z : Str) (h : z.length ≤ 1000) : Gv K H (.str z) (some z)
  | oth {x : V} {t : Value} (ty : TyX K H x t) (k : PySem.W.kitOne K t (.type "str") = some false) : Gv K H x none
theorem Gv.same {K : PySem.W.Frag} {H H' : Hp} {x : V} {o : Option Str} (s : Same H H') (h : Gv K H x o) : Gv K H' x o := by
  cases h with
  | str z h => exact .str z h
  | oth ty k => exact .oth (TyX.same s ty) k
def byO (f : Str → Bool) : Option Str → Bool
  | none => false
  | some z => f z
def spNm (f : Str → Bool) (K : PySem.W.Frag) : Sp := fun vs H Q _ => ∃ x o, vs = [x] ∧ Gv K H x o ∧ ∀ H', Same H H' → Q (.bl (byO f o)) H'
theorem size1000 {n : Nat} (h : n ≤ 1000) : n ≤ sizeLine := Nat.le_of_lt (small1000 h)
section
variable {P : Program} {w : World} {K : PySem.W.Frag} {mg : Str → Option Value} {base : Heap}
theorem c_is_name (D : Def K mg "is_name" s_is_name) (T : Txt mg) : Cal P w K mg base 1 "is_name" s_is_name ["thing"] (spNm isNm K) := by
  refine cal_of D sc_is_name (fun _ _ _ _ _ _ us hl => match us, hl with | [_], _ => rfl) (fun vs H Q E h => ?_) (fun f cdv A outer s H vs Q E hr h => ?_)
  · obtain ⟨x, o, rfl, _⟩ := h
    rfl
  · obtain ⟨x, o, rfl, gv, q⟩ := h
    refine ⟨_, (pss_cons (ps_if (PW.pt (pw_or (pt_not (pt_val (pe_callB call_isi (by rfl) T.n_isinstance (by decide +kernel) (pa_cons (pv 0) (pa_cons (pe_ty "str" (by rfl) T.n_str (by decide +kernel)) pa_nil))))) (pw_or1 (pt_not (pt_chain op_le op_le pe_int (pe_callB call_len_str (by rfl) T.n_len PySem.boot_len (pa_cons (pv 0) pa_nil)) (pe_gc (by rfl) T.g_MOST_NAME))))))
        (pss_one (ps_ret pe_bl))
        pss_nil)
      (pss_one (ps_ret (pe_callB (cr_all rfl) (by rfl) T.n_all (by decide +kernel) (pa_cons (pe_lc (own := [("sign", 1)]) (g := (gName 1)) (tt := tYes) rfl sc_is_name.nd (pi_str (pv 0)) (blkOk_by (own := [("sign", 1)]) (N := ["thing", "sign"]) (sc := defScope s_is_name) (by decide +kernel)) (fun _ _ _ _ _ => (pg_name (i := 1) sc_is_name.nd rfl (Or.inl rfl))) (fun _ _ _ _ _ => pts_nil) (fun _ _ _ _ _ => (pe_cmpR op_in_sign (pv 1) (pe_gc (by rfl) T.g_LETTERS) rfl))) pa_nil))))), ?_⟩
    cases gv with
    | oth ty k =>
      refine ⟨_, rfl, _, _, _, _, false, rfl, .ty _, ty, k, false, rfl, ?_⟩
      exact q H (Same.refl H)
    | str z hz =>
      have hz' : z.length ≤ sizeLine := size1000 hz
      refine ⟨_, rfl, _, _, _, _, true, rfl, .ty _, .base (.str z), kit_ty (by decide +kernel), true, rfl, ?_⟩
      refine ⟨_, rfl, z, rfl, hz', _, _, rfl, rfl, _, rfl, ?_⟩
      refine ite2 (fun h1 => ?_) (fun h1 => ?_)
      · have h1' : 1 ≤ z.length := by
          have := of_decide_eq_true h1
          omega
        refine ⟨_, _, rfl, rfl, _, rfl, ?_⟩
        refine ite2 (fun h2 => ?_) (fun h2 => ?_)
        · have h2' : ¬ z.length ≤ 250 := by
            intro hh
            rw [decide_eq_true (show (z.length : Int) ≤ 250 by omega)] at h2
            exact absurd h2 (by decide)
          have e : byO isNm (some z) = false := by
            show isNm z = false
            unfold isNm
            rw [decide_eq_false h2']
            simp
          rw [e] at q
          exact q H (Same.refl H)
        · have h2' : z.length ≤ 250 := by
            refine Decidable.byContradiction fun hh => h2 ?_
            rw [decide_eq_false (show ¬ (z.length : Int) ≤ 250 by omega)]
            rfl
          refine ⟨_, rfl, z, rfl, fun D hD => ?_⟩
          refine lc_map walk_str (fun i => .bl (isLet (z.cps.toList.getD i 0))) (by show z.length ≤ sizeLine; exact hz') (fun _ => trivial) ?_ ?_
          · rintro i y H1 H2 hi ⟨rfl, c, hc, rfl⟩ e
            refine ⟨rfl, rfl, fun Q1 q1 => ⟨_, rfl, c, letters, rfl, rfl, ?_⟩⟩
            have ec : z.cps.toList.getD i 0 = c := by
              rw [List.getD, Array.getElem?_toList, hc]
              rfl
            rw [ec] at q1
            exact q1
          · refine ⟨D, z.cps.toList.map isLet, rfl, ?_, ?_⟩
            · rw [List.map_map]
              refine SqL.of (upd_same.trans ?_)
              have := range_map z.cps.toList (fun c => V.bl (isLet c))
              rw [Array.length_toList] at this
              rw [this]
              rfl
            · have e : byO isNm (some z) = (z.cps.toList.map isLet).all id := by
                show isNm z = _
                unfold isNm
                rw [decide_eq_true h1', decide_eq_true h2', List.all_map]
                simp
              rw [← e]
              exact q _ (same_upd hD)
      · have h1' : ¬ 1 ≤ z.length := by
          intro hh
          exact h1 (decide_eq_true (by omega))
        refine ⟨_, rfl, ?_⟩
        have e : byO isNm (some z) = false := by
          show isNm z = false
          unfold isNm
          rw [decide_eq_false h1']
          rfl
        rw [e] at q
        exact q H (Same.refl H)
end
end K3

namespace K3
open PySem PySem.Spec PyProof.Rows L2 Tar
section
variable {P : Program} {w : World} {K : PySem.W.Frag} {mg : Str → Option Value} {base : Heap}
theorem c_l_is_name (D : Def K mg "_law_is_name" s_l_is_name) (T : Txt mg) : Cal P w K mg base 1 "_law_is_name" s_l_is_name ["_law_given"] (spNm isNm K) := by
  refine cal_of D sc_l_is_name (fun _ _ _ _ _ _ us hl => match us, hl with | [_], _ => rfl) (fun vs H Q E h => ?_) (fun f cdv A outer s H vs Q E hr h => ?_)
  · obtain ⟨x, o, rfl, _⟩ := h
    rfl
  · obtain ⟨x, o, rfl, gv, q⟩ := h
    refine ⟨_, (pss_cons (ps_if (PW.pt (pw_or (pt_not (pt_val (pe_callB call_isi (by rfl) T.n_isinstance (by decide +kernel) (pa_cons (pv 0) (pa_cons (pe_ty "str" (by rfl) T.n_str (by decide +kernel)) pa_nil))))) (pw_or1 (pt_not (pt_chain op_le op_le pe_int (pe_callB call_len_str (by rfl) T.n_len PySem.boot_len (pa_cons (pv 0) pa_nil)) pe_int)))))
        (pss_one (ps_ret pe_bl))
        pss_nil)
      (pss_one (ps_ret (pe_callB (cr_all rfl) (by rfl) T.n_all (by decide +kernel) (pa_cons (pe_lc (own := [("_law_sign", 1)]) (g := (gName 1)) (tt := tYes) rfl sc_l_is_name.nd (pi_str (pv 0)) (blkOk_by (own := [("_law_sign", 1)]) (N := ["_law_given", "_law_sign"]) (sc := defScope s_l_is_name) (by decide +kernel)) (fun _ _ _ _ _ => (pg_name (i := 1) sc_l_is_name.nd rfl (Or.inl rfl))) (fun _ _ _ _ _ => pts_nil) (fun _ _ _ _ _ => (pe_cmpR op_in_sign (pv 1) pe_str rfl))) pa_nil))))), ?_⟩
    cases gv with
    | oth ty k =>
      refine ⟨_, rfl, _, _, _, _, false, rfl, .ty _, ty, k, false, rfl, ?_⟩
      exact q H (Same.refl H)
    | str z hz =>
      have hz' : z.length ≤ sizeLine := size1000 hz
      refine ⟨_, rfl, _, _, _, _, true, rfl, .ty _, .base (.str z), kit_ty (by decide +kernel), true, rfl, ?_⟩
      refine ⟨_, rfl, z, rfl, hz', _, _, rfl, rfl, _, rfl, ?_⟩
      refine ite2 (fun h1 => ?_) (fun h1 => ?_)
      · have h1' : 1 ≤ z.length := by
          have := of_decide_eq_true h1
          omega
        refine ⟨_, _, rfl, rfl, _, rfl, ?_⟩
        refine ite2 (fun h2 => ?_) (fun h2 => ?_)
        · have h2' : ¬ z.length ≤ 250 := by
            intro hh
            rw [decide_eq_true (show (z.length : Int) ≤ 250 by omega)] at h2
            exact absurd h2 (by decide)
          have e : byO isNm (some z) = false := by
            show isNm z = false
            unfold isNm
            rw [decide_eq_false h2']
            simp
          rw [e] at q
          exact q H (Same.refl H)
        · have h2' : z.length ≤ 250 := by
            refine Decidable.byContradiction fun hh => h2 ?_
            rw [decide_eq_false (show ¬ (z.length : Int) ≤ 250 by omega)]
            rfl
          refine ⟨_, rfl, z, rfl, fun D hD => ?_⟩
          refine lc_map walk_str (fun i => .bl (isLet (z.cps.toList.getD i 0))) (by show z.length ≤ sizeLine; exact hz') (fun _ => trivial) ?_ ?_
          · rintro i y H1 H2 hi ⟨rfl, c, hc, rfl⟩ e
            refine ⟨rfl, rfl, fun Q1 q1 => ⟨_, rfl, c, letters, rfl, rfl, ?_⟩⟩
            have ec : z.cps.toList.getD i 0 = c := by
              rw [List.getD, Array.getElem?_toList, hc]
              rfl
            rw [ec] at q1
            exact q1
          · refine ⟨D, z.cps.toList.map isLet, rfl, ?_, ?_⟩
            · rw [List.map_map]
              refine SqL.of (upd_same.trans ?_)
              have := range_map z.cps.toList (fun c => V.bl (isLet c))
              rw [Array.length_toList] at this
              rw [this]
              rfl
            · have e : byO isNm (some z) = (z.cps.toList.map isLet).all id := by
                show isNm z = _
                unfold isNm
                rw [decide_eq_true h1', decide_eq_true h2', List.all_map]
                simp
              rw [← e]
              exact q _ (same_upd hD)
      · have h1' : ¬ 1 ≤ z.length := by
          intro hh
          exact h1 (decide_eq_true (by omega))
        refine ⟨_, rfl, ?_⟩
        have e : byO isNm (some z) = false := by
          show isNm z = false
          unfold isNm
          rw [decide_eq_false h1']
          rfl
        rw [e] at q
        exact q H (Same.refl H)
theorem split_eq (z : Str) : PySem.Txt.split z "/" = (TL.spl [47] 0 [] z.cps.toList).map SX.S := by
  have h := SX.split_S (a := z.cps.toList) (b := [47]) (by decide) (by decide)
  rw [SX.S_tl] at h
  rw [show ("/" : Str) = SX.S [47] by decide +kernel]
  exact h
theorem spl_len : ∀ (l : List Nat) (k : Nat) (acc : List Nat), (TL.spl [47] k acc l).length ≤ l.length + 1
  | [], k, acc => by
    rw [TL.spl_nil]
    exact Nat.le_refl _
  | c :: r, 0, acc => by
    cases h : TL.pre [47] (c :: r) with
    | true =>
      rw [TL.spl_hit h]
      have := spl_len r ([47].length - 1) []
      simp only [List.length_cons] at this ⊢
      omega
    | false =>
      rw [TL.spl_miss h]
      have := spl_len r 0 (acc ++ [c])
      simp only [List.length_cons] at this ⊢
      omega
  | c :: r, k + 1, acc => by
    show (TL.spl [47] k acc r).length ≤ _
    have := spl_len r k acc
    simp only [List.length_cons] at this ⊢
    omega
theorem c_is_path (C_is_name : Cal P w K mg base 1 "is_name" s_is_name ["thing"] (spNm isNm K)) (D : Def K mg "is_path" s_is_path) (T : Txt mg) : Cal P w K mg base 2 "is_path" s_is_path ["thing"] (spNm isPt K) := by
  refine cal_of D sc_is_path (fun _ _ _ _ _ _ us hl => match us, hl with | [_], _ => rfl) (fun vs H Q E h => ?_) (fun f cdv A outer s H vs Q E hr h => ?_)
  · obtain ⟨x, o, rfl, _⟩ := h
    rfl
  · obtain ⟨x, o, rfl, gv, q⟩ := h
    refine ⟨_, (pss_one (ps_ret (pe_and (pe_cal C_is_name hr (by decide) (by rfl) pass0 (pa_cons (pv 0) pa_nil)) (pe_one (pe_not (pe_callB (cr_any rfl) (by rfl) T.n_any (by decide +kernel) (pa_cons (pe_lc (own := [("part", 1)]) (g := (gName 1)) (tt := tYes) rfl sc_is_path.nd (pi_list (pe_split (pv 0) pe_str)) (blkOk_by (own := [("part", 1)]) (N := ["thing", "part"]) (sc := defScope s_is_path) (by decide +kernel)) (fun _ _ _ _ _ => (pg_name (i := 1) sc_is_path.nd rfl (Or.inl rfl))) (fun _ _ _ _ _ => pts_nil) (fun _ _ _ _ _ => (pe_cmpR (show OpR _ (compareOp .In) (rIn K false) from op_in_seq) (pv 1) (pe_tup (pa_cons pe_str (pa_cons pe_str (pa_cons pe_str pa_nil)))) rfl))) pa_nil))))))), ?_⟩
    refine ⟨_, rfl, x, o, rfl, gv, fun H1 s1 => ⟨_, rfl, ?_⟩⟩
    refine ite2 (fun h1 => ?_) (fun h1 => ?_)
    · cases gv with
      | oth ty k => exact absurd h1 (by decide)
      | str z hz =>
        have h1' : isNm z = true := h1
        let L := TL.spl [47] 0 [] z.cps.toList
        have hL : L.length ≤ z.length + 1 := spl_len _ _ _
        have h250 : z.length ≤ 250 := by
          unfold isNm at h1'
          simp only [Bool.and_eq_true, decide_eq_true_eq] at h1'
          exact h1'.2.1
        refine ⟨_, rfl, ⟨z, rfl⟩, z, "/", rfl, rfl, rfl, Nat.le_of_lt (small1000 (n := z.length + 2) (by omega)) , fun p hp => ?_⟩
        · have s2 : Same H1 (upd H1 p (.lst ((PySem.Txt.split z "/").map V.str))) := same_upd hp
          refine ⟨p, rfl, ⟨_, SqL.of upd_same⟩, fun D hD => ?_⟩
          refine lc_grow (walk_list (xs := (PySem.Txt.split z "/").map V.str)) (fun i => .bl (badL (L.getD i []))) ?_ hD ?_ ?_ mono_yes mono_name ?_
          · rw [split_eq, List.length_map, List.length_map]
            show L.length ≤ sizeLine
            exact size1000 (by omega)
          · intro H2 s3
            exact SqL.of (s3 _ _ upd_same)
          · rintro i x H2 H3 Z hi ⟨rfl, hx⟩ s3 hl hZ
            refine ⟨Same.refl _, rfl, rfl, ?_⟩
            rw [split_eq, List.map_map, List.getElem?_map] at hx
            cases hxi : L[i]? with
            | none =>
              have : (TL.spl [47] 0 [] z.cps.toList)[i]? = none := hxi
              rw [this] at hx
              cases hx
            | some l =>
              have hxi' : (TL.spl [47] 0 [] z.cps.toList)[i]? = some l := hxi
              rw [hxi'] at hx
              obtain rfl : V.str (SX.S l) = x := Option.some.inj hx
              refine ⟨_, rfl, by show 3 ≤ sizeLine; decide, fun t ht => ?_⟩
              refine ⟨t, _, rfl, .inr (SqT.of upd_same), rfl, rfl, ?_⟩
              have e : badL (L.getD i []) = inV (.str (SX.S l)) [.str "", .str ".", .str ".."] := by
                rw [in_bad l, List.getD, hxi]
                rfl
              rw [e] at hZ
              exact hZ _ (same_upd ht)
          · intro H2 s3 hl
            refine ⟨D, L.map badL, rfl, SqL.of (hl.trans ?_), _, rfl, ?_⟩
            · have e : (PySem.Txt.split z "/").length = L.length := by
                rw [split_eq, List.length_map]
              rw [List.length_map, e, List.map_map]
              congr 2
              refine List.ext_getElem? fun i => ?_
              by_cases h : i < L.length
              · simp [h, List.getD]
              · simp [h, Nat.le_of_not_lt h]
            · have e : byO isPt (some z) = !((L.map badL).any id) := by
                show isPt z = _
                unfold isPt
                rw [h1', List.any_map]
                rfl
              rw [e] at q
              exact q H2 (s1.trans (s2.trans s3))
    · have e : byO isPt o = false := by
        cases o with
        | none => rfl
        | some z =>
          show isPt z = false
          unfold isPt
          have : isNm z = false := by
            cases hh : isNm z with
            | false => rfl
            | true => exact absurd hh h1
          rw [this]
          rfl
      rw [e] at q
      exact q H1 s1
end
end K3

namespace K3
open PySem PySem.Spec PyProof.Rows L2 Tar
theorem slash_ne (c : Nat) : (V.str (⟨#[c]⟩ : Str) = V.str "/") ↔ c = 47 := by
  constructor
  · intro h
    have h' : (⟨#[c]⟩ : Str) = ("/" : Str) := V.str.inj h
    rw [show ("/" : Str) = SX.S [47] by decide +kernel] at h'
    have : [c] = [47] := SX.S_inj (a := [c]) (b := [47]) h'
    exact List.cons.inj this |>.1
  · rintro rfl
    rw [show ("/" : Str) = SX.S [47] by decide +kernel]
section
variable {P : Program} {w : World} {K : PySem.W.Frag} {mg : Str → Option Value} {base : Heap}
theorem c_l_is_path (C_l_is_name : Cal P w K mg base 1 "_law_is_name" s_l_is_name ["_law_given"] (spNm isNm K)) (D : Def K mg "_law_is_path" s_l_is_path) (T : Txt mg) : Cal P w K mg base 2 "_law_is_path" s_l_is_path ["_law_given"] (spNm isPt K) := by
  refine cal_of D sc_l_is_path (fun _ _ _ _ _ _ us hl => match us, hl with | [_], _ => rfl) (fun vs H Q E h => ?_) (fun f cdv A outer s H vs Q E hr h => ?_)
  · obtain ⟨x, o, rfl, _⟩ := h
    rfl
  · obtain ⟨x, o, rfl, gv, q⟩ := h
    refine ⟨_, (pss_cons (ps_if (pt_not (pt_val (pe_cal C_l_is_name hr (by decide) (by rfl) pass0 (pa_cons (pv 0) pa_nil))))
        (pss_one (ps_ret pe_bl))
        pss_nil)
      (pss_cons (ps_set (i := 1) sc_l_is_path.nd rfl (Or.inl rfl) pe_str)
      (pss_cons (ps_for PassesOwn.never rfl (pi_str (pe_op op_add_str (pv 0) pe_str)) (pg_name (i := 2) sc_l_is_path.nd rfl (Or.inl rfl))
        (pss_one (ps_if (pt_cmpR op_ne (pv 2) pe_str (nomark _))
          (pss_one (ps_set (i := 1) sc_l_is_path.nd rfl (Or.inl rfl) (pe_op op_add_str (pv 1) (pv 2))))
          (pss_one (ps_if (pt_cmpR op_in_seq (pv 1) (pe_tup (pa_cons pe_str (pa_cons pe_str (pa_cons pe_str pa_nil)))) rfl)
            (pss_one (ps_ret pe_bl))
            (pss_one (ps_set (i := 1) sc_l_is_path.nd rfl (Or.inl rfl) pe_str)))))))
      (pss_one (ps_ret pe_bl))))), ?_⟩
    refine ⟨_, rfl, x, o, rfl, gv, fun H1 s1 => ⟨_, rfl, ?_⟩⟩
    refine ite2 (fun h1 => ?_) (fun h1 => ?_)
    · have e : byO isPt o = false := by
        cases o with
        | none => rfl
        | some z =>
          show isPt z = false
          unfold isPt
          have : isNm z = false := by
            cases hh : isNm z with
            | false => rfl
            | true =>
              have hb : byO isNm (some z) = true := hh
              rw [hb] at h1
              exact absurd h1 (by decide)
          rw [this]
          rfl
      rw [e] at q
      exact q H1 s1
    · cases gv with
      | oth ty k => exact absurd rfl h1
      | str z hz =>
        have hn : isNm z = true := by
          cases hh : isNm z with
          | true => rfl
          | false =>
            have hb : byO isNm (some z) = false := hh
            rw [hb] at h1
            exact absurd rfl h1
        let l : List Nat := z.cps.toList ++ [47]
        have ez : (z ++ ("/" : Str)) = SX.S l := by
          rw [show ("/" : Str) = SX.S [47] by decide +kernel, ← SX.S_tl z, SX.S_cat]
        have hlen : l.length ≤ 1001 := by
          show (z.cps.toList ++ [47]).length ≤ 1001
          rw [List.length_append, Array.length_toList]
          have : z.cps.size = z.length := rfl
          rw [this]
          show z.length + 1 ≤ 1001
          omega
        have hpt : byO isPt (some z) = chk [] l := by
          show isPt z = chk [] (z.cps.toList ++ [47])
          unfold isPt
          rw [hn, chk_spl]
          rfl
        rw [hpt] at q
        have big : (1001 : Nat) + 1001 ≤ sizeLine := by decide
        -- for sign in given + '/'
        refine ⟨_, rfl, _, _, rfl, rfl, ?_, _, rfl, ?_⟩
        · show z.length + 1 ≤ sizeLine
          omega
        rw [ez]
        refine for_it (walk_str (z := SX.S l)) (fun i σ H2 => ∃ (acc : List Nat) (v : Option V), σ = [some (.str z), some (.str (SX.S acc)), v] ∧ Same H1 H2 ∧ chk [] l = chk acc (l.drop i) ∧ acc.length ≤ i)
          ⟨[], none, ?_, Same.refl _, rfl, Nat.le_refl _⟩ (fun _ _ _ _ _ => trivial) ?_ ?_
        · rw [show SX.S [] = ("" : Str) by decide +kernel]
          rfl
        · rintro i x σ H2 H3 hi ⟨acc, v, rfl, s2, ec, ha⟩ ⟨rfl, c, hc, rfl⟩
          have hi' : i < l.length := by simpa using hi
          have hc' : l[i]? = some c := by simpa using hc
          have hd : l.drop i = c :: l.drop (i + 1) := by
            rw [List.drop_eq_getElem_cons hi']
            rw [List.getElem?_eq_getElem hi'] at hc'
            rw [Option.some.inj hc']
          rw [hd] at ec
          refine ⟨_, rfl, rfl, _, rfl, ?_⟩
          by_cases h47 : c = 47
          · subst h47
            rw [decide_eq_true ((slash_ne 47).mpr rfl)]
            refine ⟨_, rfl, by show 3 ≤ sizeLine; decide, fun t ht => ?_⟩
            refine ⟨t, _, rfl, .inr (SqT.of upd_same), rfl, rfl, _, rfl, ?_⟩
            have e : (if false = true then !inV (.str (SX.S acc)) [V.str "", V.str ".", V.str ".."] else inV (.str (SX.S acc)) [V.str "", V.str ".", V.str ".."]) = badL acc := in_bad acc
            rw [e]
            have ec' : chk [] l = if badL acc = true then false else chk [] (l.drop (i + 1)) := by
              rw [ec]
              show (if (47 : Nat) = 47 then (if badL acc = true then false else chk [] (l.drop (i + 1))) else _) = _
              rw [if_pos rfl]
            refine ite2 (fun hb => ?_) (fun hb => ?_)
            · rw [if_pos hb] at ec'
              rw [ec'] at q
              exact q _ (s1.trans (s2.trans (same_upd ht)))
            · rw [if_neg hb] at ec'
              refine ⟨[], some (.str ⟨#[47]⟩), ?_, s2.trans (same_upd ht), ec', Nat.zero_le _⟩
              rw [show SX.S [] = ("" : Str) by decide +kernel]
              rfl
          · rw [decide_eq_false (fun h => h47 ((slash_ne c).mp h))]
            refine ⟨_, rfl, _, rfl, _, _, rfl, rfl, ?_, acc ++ [c], some (.str ⟨#[c]⟩), ?_, s2, ?_, ?_⟩
            · show (SX.S acc).length + 1 ≤ sizeLine
              rw [SX.S_len]
              omega
            · rw [← SX.S_cat]
              rfl
            · rw [ec]
              show (if c = 47 then _ else chk (acc ++ [c]) (l.drop (i + 1))) = _
              rw [if_neg h47]
            · rw [List.length_append]
              show acc.length + 1 ≤ i + 1
              omega
        · rintro σ H2 ⟨acc, v, rfl, s2, ec, ha⟩
          have e : l.drop (SX.S l).cps.size = [] := by
            refine List.drop_eq_nil_of_le ?_
            simp
          rw [e] at ec
          rw [ec] at q
          exact q H2 (s1.trans s2)
/-! ### integers, blobs -/
def spInteger (K : PySem.W.Frag) : Sp := fun vs H Q _ => ∃ (x : V) (t : Value) (b c : Bool), vs = [x] ∧ TyX K H x t ∧ PySem.W.kitOne K t (.type "int") = some b ∧ PySem.W.kitOne K t (.type "bool") = some c ∧ Q (.bl (b && !c)) H
theorem c_is_integer (D : Def K mg "is_integer" s_is_integer) (T : Txt mg) : Cal P w K mg base 1 "is_integer" s_is_integer ["thing"] (spInteger K) := by
  refine cal_of D sc_is_integer (fun _ _ _ _ _ _ us hl => match us, hl with | [_], _ => rfl) (fun vs H Q E h => ?_) (fun f cdv A outer s H vs Q E hr h => ?_)
  · obtain ⟨x, t, b, c, rfl, _⟩ := h
    rfl
  · obtain ⟨x, t, b, c, rfl, ty, h1, h2, q⟩ := h
    refine ⟨_, (pss_one (ps_ret (pe_and (pe_callB call_isi (by rfl) T.n_isinstance (by decide +kernel) (pa_cons (pv 0) (pa_cons (pe_ty "int" (by rfl) T.n_int (by decide +kernel)) pa_nil))) (pe_one (pe_not (pe_callB call_isi (by rfl) T.n_isinstance (by decide +kernel) (pa_cons (pv 0) (pa_cons (pe_ty "bool" (by rfl) T.n_bool (by decide +kernel)) pa_nil)))))))), ?_⟩
    refine ⟨_, rfl, _, _, _, _, b, rfl, .ty _, ty, h1, b, rfl, ?_⟩
    cases b with
    | false => exact q
    | true => exact ⟨_, rfl, _, _, _, _, c, rfl, .ty _, ty, h2, c, rfl, q⟩
def spWithin (K : PySem.W.Frag) : Sp := fun vs H Q _ => ∃ (x : V) (lo hi : Int), vs = [x, .int lo, .int hi] ∧
  ((∃ i, x = .int i ∧ Q (.bl (decide (lo ≤ i) && decide (i ≤ hi))) H) ∨
   (∃ (t : Value) (b c : Bool), TyX K H x t ∧ PySem.W.kitOne K t (.type "int") = some b ∧ PySem.W.kitOne K t (.type "bool") = some c ∧ (b && !c) = false ∧ Q (.bl false) H))
theorem c_is_within (C_is_integer : Cal P w K mg base 1 "is_integer" s_is_integer ["thing"] (spInteger K)) (D : Def K mg "is_within" s_is_within) (T : Txt mg) :
    Cal P w K mg base 2 "is_within" s_is_within ["thing", "low", "high"] (spWithin K) := by
  refine cal_of D sc_is_within (fun _ _ _ _ _ _ us hl => match us, hl with | [_, _, _], _ => rfl) (fun vs H Q E h => ?_) (fun f cdv A outer s H vs Q E hr h => ?_)
  · obtain ⟨x, lo, hi, rfl, _⟩ := h
    rfl
  · obtain ⟨x, lo, hi, rfl, h⟩ := h
    refine ⟨_, (pss_one (ps_ret (pe_and (pe_cal C_is_integer hr (by decide) (by rfl) pass0 (pa_cons (pv 0) pa_nil)) (pe_one (pe_chain op_le op_le (pv 1) (pv 0) (pv 2)))))), ?_⟩
    rcases h with ⟨i, rfl, q⟩ | ⟨t, b, c, ty, h1, h2, e, q⟩
    · refine ⟨_, rfl, _, _, true, false, rfl, .base (.int i), kit_ty (by decide +kernel), kit_ty (by decide +kernel), _, rfl, ?_⟩
      refine ⟨_, rfl, _, rfl, _, _, rfl, rfl, _, rfl, ?_⟩
      refine ite2 (fun h1 => ?_) (fun h1 => ?_)
      · refine ⟨_, rfl, _, _, rfl, rfl, ?_⟩
        rw [h1] at q
        exact q
      · have h1' : decide (lo ≤ i) = false := by
          cases hh : decide (lo ≤ i) with
          | false => rfl
          | true => exact absurd hh h1
        rw [h1'] at q
        exact q
    · refine ⟨_, rfl, _, _, b, c, rfl, ty, h1, h2, _, rfl, ?_⟩
      rw [e]
      exact q
def spBlob (K : PySem.W.Frag) : Sp := fun vs H Q _ => ∃ (a : Addr) (ns : List Int), vs = [.ref a] ∧ SqL K H a (ns.map V.int) ∧ TyX K H (.ref a) (.type "list") ∧ B8 ns ∧ ns.length ≤ 70000 ∧ ∀ H', Same H H' → Q (.byt (byteArr ns)) H'
theorem c_blob (C_is_within : Cal P w K mg base 2 "is_within" s_is_within ["thing", "low", "high"] (spWithin K)) (D : Def K mg "blob" s_blob) (T : Txt mg) :
    Cal P w K mg base 3 "blob" s_blob ["numbers"] (spBlob K) := by
  refine cal_of D sc_blob (fun _ _ _ _ _ _ us hl => match us, hl with | [_], _ => rfl) (fun vs H Q E h => ?_) (fun f cdv A outer s H vs Q E hr h => ?_)
  · obtain ⟨x, lo, rfl, _⟩ := h
    rfl
  · obtain ⟨a, ns, rfl, hS, ty, hb, hn, q⟩ := h
    refine ⟨_, (pss_cons (ps_if (PW.pt (pw_or (pt_not (pt_val (pe_callB call_isiT (by rfl) T.n_isinstance (by decide +kernel) (pa_cons (pv 0) (pa_cons (pe_tup (pa_cons (pe_ty "list" (by rfl) T.n_list (by decide +kernel)) (pa_cons (pe_ty "tuple" (by rfl) T.n_tuple (by decide +kernel)) pa_nil))) pa_nil))))) (pw_or1 (pt_not (pt_val (pe_callB (cr_all rfl) (by rfl) T.n_all (by decide +kernel) (pa_cons (pe_lc (own := [("number", 1)]) (g := (gName 1)) (tt := tYes) rfl sc_blob.nd (pi_list (pv 0)) (blkOk_by (own := [("number", 1)]) (N := ["numbers", "number"]) (sc := defScope s_blob) (by decide +kernel)) (fun _ _ _ _ _ => (pg_name (i := 1) sc_blob.nd rfl (Or.inl rfl))) (fun _ _ _ _ _ => pts_nil) (fun _ _ _ _ _ => (pe_cal C_is_within hr (by decide) (by rfl) pass0 (pa_cons (pv 1) (pa_cons pe_int (pa_cons pe_int pa_nil)))))) pa_nil)))))))
        (pss_one ps_never)
        pss_nil)
      (pss_one (ps_ret (pe_callTy (call_bytes_list rfl) (by rfl) T.n_bytes (by decide +kernel) (pa_cons (pv 0) pa_nil))))), ?_⟩
    refine ⟨_, rfl, by show 2 ≤ sizeLine; decide, fun t ht => ?_⟩
    have s1 : Same H (upd H t (.tup [.ty "list", .ty "tuple"])) := same_upd ht
    refine ⟨_, t, _, _, [.type "list", .type "tuple"], true, rfl, upd_same, .cons (.ty _) (.cons (.ty _) .nil), TyX.same s1 ty, kitAny_cons (b := true) (kit_ty (by decide +kernel)) (fun z => by cases z) (fun _ => rfl), true, rfl, ?_⟩
    refine ⟨_, rfl, a, rfl, ⟨_, s1.seq hS⟩, fun D hD => ?_⟩
    refine lc_map (walk_list (xs := ns.map V.int)) (fun i => .bl true) ?_ ?_ ?_ ?_
    · rw [List.length_map]
      exact Nat.le_trans hn (by decide)
    · intro xs
      exact (same_upd hD).seq (s1.seq hS)
    · rintro i x H2 H3 hi ⟨rfl, hx⟩ e
      rw [List.getElem?_map] at hx
      cases hxi : ns[i]? with
      | none =>
        rw [hxi] at hx
        cases hx
      | some m =>
        rw [hxi] at hx
        obtain rfl : V.int m = x := Option.some.inj hx
        have hm := hb m (List.mem_of_getElem? hxi)
        refine ⟨rfl, rfl, fun Q1 q1 => ⟨_, rfl, _, 0, 255, rfl, .inl ⟨m, rfl, ?_⟩⟩⟩
        rw [decide_eq_true hm.1, decide_eq_true (show m ≤ 255 by omega)]
        exact q1
    · refine ⟨D, List.replicate ns.length true, rfl, SqL.of (upd_same.trans ?_), true, ?_, ?_⟩
      · rw [List.length_map]
        congr 2
        refine List.ext_getElem? fun i => ?_
        by_cases h : i < ns.length
        · simp [h]
        · simp [h, Nat.le_of_not_lt h]
      · congr 1
        rw [List.all_eq_true]
        intro b hbb
        exact (List.mem_replicate.mp hbb).2
      · refine ⟨_, rfl, a, ns, rfl, (same_upd hD).seq (s1.seq hS), hb, ?_⟩
        exact q _ (s1.trans (same_upd hD))
end
end K3

namespace K3
open PySem PySem.Spec PyProof.Rows L2 Tar
/-! ### the law's draws -/
/-- a source of draws -/
def SrcAt (H : Hp) (p : Addr) : Prop := ∃ a b c : Int, H p = some (.lst [.int a, .int b, .int c]) ∧ 0 ≤ a ∧ 0 ≤ b ∧ b < 2147483647
def spDraw : Sp := fun vs H Q _ => ∃ (p : Addr) (m : Int), vs = [.ref p, .int m] ∧ SrcAt H p ∧ 0 < m ∧ m < 1073741824 ∧
  ∀ (d : Int) (H' : Hp), 0 ≤ d → d < m → SrcAt H' p → Kp p H H' → Q (.int d) H'
def spSource (K : PySem.W.Frag) : Sp := fun vs H Q _ => ∃ (a : Addr) (ns : List Int) (k : Nat), vs = [.ref a, .int k] ∧ SqL K H a (ns.map V.int) ∧ ns.length ≤ 63 ∧ k ≤ 63 ∧
  ∀ (p : Addr) (H' : Hp), H p = none → Same H H' → SrcAt H' p → Q (.ref p) H'
theorem pow5_lt {b : Int} (h : b < 2147483647) (h0 : 0 ≤ b) : b.natAbs < 2 ^ 64 := by
  have : b.natAbs < 2147483647 := by omega
  exact Nat.lt_trans this (by decide)
section
variable {P : Program} {w : World} {K : PySem.W.Frag} {mg : Str → Option Value} {base : Heap}
theorem c_l_draw (D : Def K mg "_law_draw" s_l_draw) (T : Txt mg) : Cal P w K mg base 1 "_law_draw" s_l_draw ["_law_source_here", "_law_many"] spDraw := by
  refine cal_of D sc_l_draw (fun _ _ _ _ _ _ us hl => match us, hl with | [_, _], _ => rfl) (fun vs H Q E h => ?_) (fun f cdv A outer s H vs Q E hr h => ?_)
  · obtain ⟨p, m, rfl, _⟩ := h
    rfl
  · obtain ⟨p, m, rfl, ⟨a, b, c, hp, ha, hb, hb2⟩, hm, hm2, q⟩ := h
    refine ⟨_, (pss_cons (ps_if (pt_cmpR op_gt (pe_ix ix_list (pv 0) pe_int (fun _ _ => rfl)) pe_int (nomark _))
        (pss_cons (ps_set (i := 2) sc_l_draw.nd rfl (Or.inl rfl) (pe_op op_mod (pe_callTy call_int1 (by rfl) T.n_int (by decide +kernel) (pa_cons (pe_ix ix_list (pv 0) pe_int (fun _ _ => rfl)) pa_nil)) (pv 1)))
        (pss_cons (ps_asg (pe_op op_fdiv (pe_ix ix_list (pv 0) pe_int (fun _ _ => rfl)) (pv 1)) (pg_sub (pv 0) pe_int set_list))
        (pss_one (ps_ret (pv 2)))))
        pss_nil)
      (pss_cons (ps_asg (pe_op op_add (pe_ix ix_list (pv 0) pe_int (fun _ _ => rfl)) pe_int) (pg_sub (pv 0) pe_int set_list))
      (pss_cons (ps_asg (pe_op op_mod (pe_callTy call_int1 (by rfl) T.n_int (by decide +kernel) (pa_cons (pe_op op_add (pe_op op_add (pe_op op_pow (pe_ix ix_list (pv 0) pe_int (fun _ _ => rfl)) pe_int) (pe_op op_mul pe_int (pe_ix ix_list (pv 0) pe_int (fun _ _ => rfl)))) pe_int) pa_nil)) pe_int) (pg_sub (pv 0) pe_int set_list))
      (pss_one (ps_ret (pe_op op_mod (pe_callTy call_int1 (by rfl) T.n_int (by decide +kernel) (pa_cons (pe_op op_fdiv (pe_op op_mod (pe_callTy call_int1 (by rfl) T.n_int (by decide +kernel) (pa_cons (pe_op op_mul (pe_ix ix_list (pv 0) pe_int (fun _ _ => rfl)) pe_int) pa_nil)) pe_int) pe_int) pa_nil)) (pv 1))))))), ?_⟩
    refine ⟨_, rfl, p, _, 0, _, rfl, rfl, SqL.of hp, rfl, _, _, rfl, rfl, _, rfl, ?_⟩
    refine ite2 (fun h1 => ?_) (fun h1 => ?_)
    · have h1' : 0 < a := of_decide_eq_true h1
      -- digit = int(source[0]) % many
      refine ⟨_, rfl, p, _, 0, _, rfl, rfl, SqL.of hp, rfl, .inl ⟨_, rfl, _, rfl, _, _, rfl, rfl, hm, ?_⟩⟩
      -- source[0] = source[0] // many
      refine ⟨_, rfl, p, _, 0, _, rfl, rfl, SqL.of hp, rfl, _, rfl, _, _, rfl, rfl, ⟨hm, hm2⟩, ?_⟩
      refine ⟨_, rfl, p, _, 0, 0, rfl, rfl, hp, rfl, ?_⟩
      refine ⟨_, rfl, ?_⟩
      refine q _ _ (Int.emod_nonneg _ (by omega)) (Int.emod_lt_of_pos _ hm) ⟨a / m, b, c, upd_same, ?_, hb, hb2⟩ kp_upd
      exact Int.ediv_nonneg ha (by omega)
    · -- source[2] = source[2] + 1
      refine ⟨_, rfl, p, _, 2, _, rfl, rfl, SqL.of hp, rfl, _, _, rfl, rfl, ?_⟩
      refine ⟨_, rfl, p, _, 2, 2, rfl, rfl, hp, rfl, ?_⟩
      have hp1 : (upd H p (.lst [V.int a, V.int b, V.int (c + 1)])) p = some (.lst [V.int a, V.int b, V.int (c + 1)]) := upd_same
      -- source[1] = int(source[1] ** 5 + 48271 * source[2] + 11) % 2147483647
      refine ⟨_, rfl, p, _, 1, _, rfl, rfl, SqL.of hp1, rfl, _, _, rfl, rfl, ⟨by decide, by decide, pow5_lt hb2 hb⟩, ?_⟩
      refine ⟨_, rfl, p, _, 2, _, rfl, rfl, SqL.of hp1, rfl, _, _, rfl, rfl, .inl ⟨by decide, by decide⟩, _, _, rfl, rfl, _, _, rfl, rfl, .inl ⟨_, rfl, _, _, rfl, rfl, (by show (0 : Int) < 2147483647; decide), ?_⟩⟩
      refine ⟨_, rfl, p, _, 1, 1, rfl, rfl, hp1, rfl, ?_⟩
      have hx0 : 0 ≤ (b ^ (5 : Int).toNat + 48271 * (c + 1) + 11) % 2147483647 := Int.emod_nonneg _ (by decide)
      have hx1 : (b ^ (5 : Int).toNat + 48271 * (c + 1) + 11) % 2147483647 < 2147483647 := Int.emod_lt_of_pos _ (by decide)
      have hp2 : (upd (upd H p (.lst [V.int a, V.int b, V.int (c + 1)])) p (.lst [V.int a, V.int ((b ^ (5 : Int).toNat + 48271 * (c + 1) + 11) % 2147483647), V.int (c + 1)])) p = some (.lst [V.int a, V.int ((b ^ (5 : Int).toNat + 48271 * (c + 1) + 11) % 2147483647), V.int (c + 1)]) := upd_same
      -- return int(int(source[1] * 69621) % 2147483629 // 8) % many
      refine ⟨_, rfl, p, _, 1, _, rfl, rfl, SqL.of hp2, rfl, _, _, rfl, rfl, .inr ⟨by decide, by decide⟩, .inl ⟨_, rfl, _, _, rfl, rfl, (by show (0 : Int) < 2147483629; decide), _, _, rfl, rfl, ⟨by decide, by decide⟩, .inl ⟨_, rfl, _, rfl, _, _, rfl, rfl, hm, ?_⟩⟩⟩
      refine q _ _ (Int.emod_nonneg _ (by omega)) (Int.emod_lt_of_pos _ hm) ⟨a, _, c + 1, hp2, ha, hx0, hx1⟩ ?_
      exact Kp.trans kp_upd kp_upd
theorem c_l_source (D : Def K mg "_law_source" s_l_source) (T : Txt mg) : Cal P w K mg base 1 "_law_source" s_l_source ["_law_script", "_law_at"] (spSource K) := by
  refine cal_of D sc_l_source (fun _ _ _ _ _ _ us hl => match us, hl with | [_, _], _ => rfl) (fun vs H Q E h => ?_) (fun f cdv A outer s H vs Q E hr h => ?_)
  · obtain ⟨a, ns, k, rfl, _⟩ := h
    rfl
  · obtain ⟨a, ns, k, rfl, hS, hn, hk, q⟩ := h
    refine ⟨_, (pss_cons (ps_set (i := 2) sc_l_source.nd rfl (Or.inl rfl) (pe_ifExp (pt_cmpR op_lt (pv 1) (pe_callB call_len_seq (by rfl) T.n_len PySem.boot_len (pa_cons (pv 0) pa_nil)) (nomark _)) (pe_ix ix_list (pv 0) (pv 1) (fun _ _ => rfl)) pe_int))
      (pss_cons (ps_set (i := 3) sc_l_source.nd rfl (Or.inl rfl) (pe_ifExp (pt_cmpR op_ge (pe_callB call_abs (by rfl) T.n_abs (by decide +kernel) (pa_cons (pv 2) pa_nil)) (pe_op op_pow pe_int pe_int) (nomark _)) (pe_op op_mod (pe_callTy call_int1 (by rfl) T.n_int (by decide +kernel) (pa_cons (pe_callB call_abs (by rfl) T.n_abs (by decide +kernel) (pa_cons (pv 2) pa_nil)) pa_nil)) (pe_op op_mulW (pe_op op_mulW (pe_op op_pow pe_int pe_int) (pe_op op_pow pe_int pe_int)) (pe_op op_pow pe_int pe_int))) pe_int))
      (pss_cons (ps_set (i := 4) sc_l_source.nd rfl (Or.inl rfl) (pe_op op_mod (pe_callTy call_int1 (by rfl) T.n_int (by decide +kernel) (pa_cons (pe_op op_add (pe_op op_add (pv 2) (pe_op op_mul pe_int (pv 1))) pe_int) pa_nil)) pe_int))
      (pss_cons (ps_for PassesOwn.never rfl (pi_range1 (by rfl) T.n_range (pa_cons (pe_callB (call_min2 rfl) (by rfl) T.n_min (by decide +kernel) (pa_cons (pe_callB call_len_seq (by rfl) T.n_len PySem.boot_len (pa_cons (pv 0) pa_nil)) (pa_cons pe_int pa_nil))) pa_nil)) (pg_name (i := 5) sc_l_source.nd rfl (Or.inl rfl))
        (pss_one (ps_set (i := 4) sc_l_source.nd rfl (Or.inl rfl) (pe_op op_mod (pe_callTy call_int1 (by rfl) T.n_int (by decide +kernel) (pa_cons (pe_op op_add (pe_op op_add (pe_op op_pow (pv 4) pe_int) (pe_op op_mod (pe_callTy call_int1 (by rfl) T.n_int (by decide +kernel) (pa_cons (pe_ix ix_list (pv 0) (pv 5) (fun _ _ => rfl)) pa_nil)) pe_int)) (pe_op op_mul pe_int (pv 5))) pa_nil)) pe_int))))
      (pss_one (ps_ret (pe_lst (pa_cons (pv 3) (pa_cons (pv 4) (pa_cons pe_int pa_nil)))))))))), ?_⟩
    refine ⟨_, rfl, _, rfl, a, _, rfl, .inl hS, _, _, rfl, rfl, _, rfl, ?_⟩
    have rest : ∀ (i : Nat) (x : Int), ns[i]? = some x → atI (ns.map V.int) ((0 : Int) + i) = some (V.int x) := by
      intro i x hx
      rw [Int.zero_add]
      refine atI_nat ?_
      rw [List.getElem?_map, hx]
      rfl
    refine ite2 (fun h1 => ?_) (fun h1 => ?_)
    · have h1' : k < ns.length := by
        have := of_decide_eq_true h1
        rw [List.length_map] at this
        omega
      refine ⟨_, rfl, _, rfl, a, _, _, .int ns[k], rfl, rfl, hS, ?_, ?_⟩
      · refine atI_nat ?_
        rw [List.getElem?_map, List.getElem?_eq_getElem h1']
        rfl
      generalize ns[k] = cell
      refine ⟨_, rfl, _, rfl, _, _, rfl, rfl, ⟨by decide, by decide, by decide⟩, _, _, rfl, rfl, _, rfl, ?_⟩
      refine ite2 (fun h2 => ?_) (fun h2 => ?_)
      · refine ⟨_, rfl, _, rfl, .inl ⟨_, rfl, ?_⟩⟩
        refine ⟨_, _, rfl, rfl, ⟨by decide, by decide, by decide⟩, _, _, rfl, rfl, ⟨by decide, by decide, by decide⟩, _, _, rfl, rfl, by unfold CMulW; decide +kernel, _, _, rfl, rfl, ⟨by decide, by decide, by decide⟩, _, _, rfl, rfl, by unfold CMulW; decide +kernel, _, _, rfl, rfl, (by show (0 : Int) < 10 ^ Int.toNat 60 * 10 ^ Int.toNat 60 * 10 ^ Int.toNat 60; decide +kernel), ?_⟩
        refine ⟨_, rfl, _, rfl, _, _, rfl, rfl, .inl ⟨by decide, by decide⟩, _, _, rfl, rfl, _, _, rfl, rfl, .inl ⟨_, rfl, _, _, rfl, rfl, (by show (0 : Int) < 2147483647; decide), ?_⟩⟩
        refine ⟨_, rfl, a, _, rfl, .inl hS, _, _, rfl, _, rfl, ?_, ?_, ?_⟩
        · rw [List.length_map]
          split <;> omega
        · rw [List.length_map]
          split <;> omega
        refine for_range (fun i σ H2 => ∃ (c lg mix : Int) (v : Option V), σ = [some (.ref a), some (.int k), some (.int c), some (.int lg), some (.int mix), v] ∧ 0 ≤ lg ∧ 0 ≤ mix ∧ mix < 2147483647 ∧ H2 = H)
          ⟨_, _, _, _, rfl, ?_, Int.emod_nonneg _ (by decide), Int.emod_lt_of_pos _ (by decide), rfl⟩ ?_ ?_
        · first | exact Int.le_refl 0 | exact Int.emod_nonneg _ (by decide +kernel)
        · rintro i σ H2 hi ⟨c, lg, mix, v, rfl, hl, h0, h3, rfl⟩
          have hi' : i < ns.length := by
            rw [List.length_map] at hi
            split at hi <;> omega
          refine ⟨_, rfl, _, _, rfl, rfl, ⟨by decide, by decide, pow5_lt h3 h0⟩, _, rfl, _, rfl, a, _, _, _, rfl, rfl, hS, rest i _ (List.getElem?_eq_getElem hi'), .inl ⟨_, rfl, _, _, rfl, rfl, (by show (0 : Int) < 2147483629; decide), _, _, rfl, rfl, _, rfl, _, _, rfl, rfl, .inl ⟨by decide, by decide⟩, _, _, rfl, rfl, .inl ⟨_, rfl, _, _, rfl, rfl, (by show (0 : Int) < 2147483647; decide), ?_⟩⟩⟩
          exact ⟨c, lg, _, _, rfl, hl, Int.emod_nonneg _ (by decide), Int.emod_lt_of_pos _ (by decide), rfl⟩
        · rintro σ H2 ⟨c, lg, mix, v, rfl, hl, h0, h3, rfl⟩
          exact ⟨_, rfl, _, rfl, by show 3 ≤ sizeLine; decide, fun p hp => q p _ hp (same_upd hp) ⟨lg, mix, 0, upd_same, hl, h0, h3⟩⟩
      · refine ⟨_, rfl, _, rfl, _, _, rfl, rfl, .inl ⟨by decide, by decide⟩, _, _, rfl, rfl, _, _, rfl, rfl, .inl ⟨_, rfl, _, _, rfl, rfl, (by show (0 : Int) < 2147483647; decide), ?_⟩⟩
        refine ⟨_, rfl, a, _, rfl, .inl hS, _, _, rfl, _, rfl, ?_, ?_, ?_⟩
        · rw [List.length_map]
          split <;> omega
        · rw [List.length_map]
          split <;> omega
        refine for_range (fun i σ H2 => ∃ (c lg mix : Int) (v : Option V), σ = [some (.ref a), some (.int k), some (.int c), some (.int lg), some (.int mix), v] ∧ 0 ≤ lg ∧ 0 ≤ mix ∧ mix < 2147483647 ∧ H2 = H)
          ⟨_, _, _, _, rfl, ?_, Int.emod_nonneg _ (by decide), Int.emod_lt_of_pos _ (by decide), rfl⟩ ?_ ?_
        · first | exact Int.le_refl 0 | exact Int.emod_nonneg _ (by decide +kernel)
        · rintro i σ H2 hi ⟨c, lg, mix, v, rfl, hl, h0, h3, rfl⟩
          have hi' : i < ns.length := by
            rw [List.length_map] at hi
            split at hi <;> omega
          refine ⟨_, rfl, _, _, rfl, rfl, ⟨by decide, by decide, pow5_lt h3 h0⟩, _, rfl, _, rfl, a, _, _, _, rfl, rfl, hS, rest i _ (List.getElem?_eq_getElem hi'), .inl ⟨_, rfl, _, _, rfl, rfl, (by show (0 : Int) < 2147483629; decide), _, _, rfl, rfl, _, rfl, _, _, rfl, rfl, .inl ⟨by decide, by decide⟩, _, _, rfl, rfl, .inl ⟨_, rfl, _, _, rfl, rfl, (by show (0 : Int) < 2147483647; decide), ?_⟩⟩⟩
          exact ⟨c, lg, _, _, rfl, hl, Int.emod_nonneg _ (by decide), Int.emod_lt_of_pos _ (by decide), rfl⟩
        · rintro σ H2 ⟨c, lg, mix, v, rfl, hl, h0, h3, rfl⟩
          exact ⟨_, rfl, _, rfl, by show 3 ≤ sizeLine; decide, fun p hp => q p _ hp (same_upd hp) ⟨lg, mix, 0, upd_same, hl, h0, h3⟩⟩
    · refine ⟨_, rfl, _, rfl, _, _, rfl, rfl, ⟨by decide, by decide, by decide⟩, _, _, rfl, rfl, _, rfl, ?_⟩
      refine ite2 (fun h2 => ?_) (fun h2 => ?_)
      · exact absurd h2 (by decide +kernel)
      · refine ⟨_, rfl, _, rfl, _, _, rfl, rfl, .inl ⟨by decide, by decide⟩, _, _, rfl, rfl, _, _, rfl, rfl, .inl ⟨_, rfl, _, _, rfl, rfl, (by show (0 : Int) < 2147483647; decide), ?_⟩⟩
        refine ⟨_, rfl, a, _, rfl, .inl hS, _, _, rfl, _, rfl, ?_, ?_, ?_⟩
        · rw [List.length_map]
          split <;> omega
        · rw [List.length_map]
          split <;> omega
        refine for_range (fun i σ H2 => ∃ (c lg mix : Int) (v : Option V), σ = [some (.ref a), some (.int k), some (.int c), some (.int lg), some (.int mix), v] ∧ 0 ≤ lg ∧ 0 ≤ mix ∧ mix < 2147483647 ∧ H2 = H)
          ⟨_, _, _, _, rfl, ?_, Int.emod_nonneg _ (by decide), Int.emod_lt_of_pos _ (by decide), rfl⟩ ?_ ?_
        · first | exact Int.le_refl 0 | exact Int.emod_nonneg _ (by decide +kernel)
        · rintro i σ H2 hi ⟨c, lg, mix, v, rfl, hl, h0, h3, rfl⟩
          have hi' : i < ns.length := by
            rw [List.length_map] at hi
            split at hi <;> omega
          refine ⟨_, rfl, _, _, rfl, rfl, ⟨by decide, by decide, pow5_lt h3 h0⟩, _, rfl, _, rfl, a, _, _, _, rfl, rfl, hS, rest i _ (List.getElem?_eq_getElem hi'), .inl ⟨_, rfl, _, _, rfl, rfl, (by show (0 : Int) < 2147483629; decide), _, _, rfl, rfl, _, rfl, _, _, rfl, rfl, .inl ⟨by decide, by decide⟩, _, _, rfl, rfl, .inl ⟨_, rfl, _, _, rfl, rfl, (by show (0 : Int) < 2147483647; decide), ?_⟩⟩⟩
          exact ⟨c, lg, _, _, rfl, hl, Int.emod_nonneg _ (by decide), Int.emod_lt_of_pos _ (by decide), rfl⟩
        · rintro σ H2 ⟨c, lg, mix, v, rfl, hl, h0, h3, rfl⟩
          exact ⟨_, rfl, _, rfl, by show 3 ≤ sizeLine; decide, fun p hp => q p _ hp (same_upd hp) ⟨lg, mix, 0, upd_same, hl, h0, h3⟩⟩
end
end K3

namespace K3
open PySem PySem.Spec PyProof.Rows L2 Tar
/-! ### texts times ints -/
theorem mul_tl (x : Str) (n : Int) : (PySem.Txt.mul x n).cps.toList = (List.replicate n.toNat x.cps.toList).flatten := by
  unfold PySem.Txt.mul
  have fl : ∀ (k : Nat) (acc : Array Nat), ((List.replicate k x.cps).foldl (· ++ ·) acc).toList = acc.toList ++ (List.replicate k x.cps.toList).flatten := by
    intro k
    induction k with
    | zero => intro acc; simp
    | succ k ih =>
      intro acc
      rw [List.replicate_succ, List.foldl_cons, ih, List.replicate_succ, List.flatten_cons]
      simp
  split
  · rename_i h
    have : n.toNat = 0 := by omega
    rw [this]
    rfl
  · split
    · rename_i h1 h2
      rw [Bool.or_eq_true, beq_iff_eq, beq_iff_eq] at h2
      rcases h2 with h2 | h2
      · subst h2
        simp
      · have hx : x.cps.toList = [] := by
          have : x.cps.toList.length = 0 := by
            rw [Array.length_toList]
            exact h2
          exact List.eq_nil_of_length_eq_zero this
        rw [hx]
        simp
    · have := fl n.toNat #[]
      simpa using this
theorem len_tl (x : Str) : x.length = x.cps.toList.length := by
  rw [Array.length_toList]
  rfl
theorem mul_len (x : Str) (n : Int) : (PySem.Txt.mul x n).length = n.toNat * x.length := by
  rw [len_tl, mul_tl, len_tl x]
  simp [List.length_flatten]
theorem mulOk_small {x : Str} {n : Int} (h1 : x.length ≤ 100) (h2 : -100000 ≤ n) (h3 : n ≤ 100000) : MulOk x n := by
  refine ⟨?_, fun h4 _ => ?_, fun h4 _ => ?_⟩
  · rw [decide_eq_false (by omega), decide_eq_false (by omega)]
    rfl
  · intro h5
    have h6 : (2 ^ 63 - 1 : Int) / n ≥ 100 := by
      have hp : 0 < n := by omega
      refine (Int.le_ediv_iff_mul_le hp).mpr ?_
      omega
    omega
  · have hm : x.length * n.toNat ≤ 100 * 100000 := Nat.mul_le_mul h1 (by omega)
    exact decide_eq_false (Nat.not_lt.mpr (Nat.le_trans hm (by decide)))
/-! ### texts of letters -/
def Lets (z : Str) : Prop := z.cps.toList.all isLet = true
theorem Lets.app {x y : Str} (hx : Lets x) (hy : Lets y) : Lets (x ++ y) := by
  unfold Lets at *
  rw [show (x ++ y).cps.toList = x.cps.toList ++ y.cps.toList from TL.tl_append x y, List.all_append, hx, hy]
  rfl
theorem app_len (x y : Str) : (x ++ y).length = x.length + y.length := by
  rw [len_tl, len_tl x, len_tl y, show (x ++ y).cps.toList = x.cps.toList ++ y.cps.toList from TL.tl_append x y, List.length_append]
theorem Lets.mul {x : Str} (hx : Lets x) (n : Int) : Lets (PySem.Txt.mul x n) := by
  unfold Lets at *
  rw [mul_tl, List.all_eq_true]
  intro c hc
  obtain ⟨l, hl, hcl⟩ := List.mem_flatten.mp hc
  obtain rfl := (List.mem_replicate.mp hl).2
  exact List.all_eq_true.mp hx c hcl
/-- an item of a written list -/
theorem at_in {α : Type} {xs : List α} {d : Int} (h0 : 0 ≤ d) (h1 : d < xs.length) : ∃ v, atI xs d = some v ∧ v ∈ xs := by
  obtain ⟨j, rfl⟩ : ∃ j : Nat, d = (j : Int) := ⟨d.toNat, by omega⟩
  have hl : j < xs.length := by omega
  exact ⟨xs[j], atI_nat (List.getElem?_eq_getElem hl), List.getElem_mem hl⟩
theorem SrcAt.kp {H H' : Hp} {p : Addr} (h : SrcAt H p) (s : Same H H') : SrcAt H' p := by
  obtain ⟨a, b, c, e, r⟩ := h
  exact ⟨a, b, c, s _ _ e, r⟩
/-- a name is drawn: letters, at most m of them, at least one -/
def spRand : Sp := fun vs H Q _ => ∃ (p : Addr) (n : Int), vs = [.ref p, .int n] ∧ SrcAt H p ∧ 0 ≤ n ∧ n ≤ 1000 ∧
  ∀ (z : Str) (H' : Hp), Lets z → 1 ≤ z.length → z.length ≤ 15 + n.toNat → SrcAt H' p → Kp p H H' → Q (.str z) H'
section
variable {P : Program} {w : World} {K : PySem.W.Frag} {mg : Str → Option Value} {base : Heap}
/-- [..][draw(source, n)]: the item's facts by a look at all items -/
theorem c_l_random_name (C_l_draw : Cal P w K mg base 1 "_law_draw" s_l_draw ["_law_source_here", "_law_many"] spDraw) (D : Def K mg "_law_random_name" s_l_random_name) (T : Txt mg) :
    Cal P w K mg base 2 "_law_random_name" s_l_random_name ["_law_source_here", "_law_many"] spRand := by
  refine cal_of D sc_l_random_name (fun _ _ _ _ _ _ us hl => match us, hl with | [_, _], _ => rfl) (fun vs H Q E h => ?_) (fun f cdv A outer s H vs Q E hr h => ?_)
  · obtain ⟨p, m, rfl, _⟩ := h
    rfl
  · obtain ⟨p, n, rfl, hp, hn0, hn1, q⟩ := h
    refine ⟨_, (pss_cons (ps_set (i := 2) sc_l_random_name.nd rfl (Or.inl rfl) (pe_ix ix_list (pe_lst (pa_cons pe_str (pa_cons pe_str (pa_cons pe_str (pa_cons pe_str (pa_cons pe_str (pa_cons pe_str pa_nil))))))) (pe_cal C_l_draw hr (by decide) (by rfl) pass0 (pa_cons (pv 0) (pa_cons pe_int pa_nil))) (fun _ _ => rfl)))
      (pss_cons (ps_for PassesOwn.never rfl (pi_range1 (by rfl) T.n_range (pa_cons (pe_ix ix_list (pe_lst (pa_cons pe_int (pa_cons pe_int (pa_cons pe_int (pa_cons pe_int pa_nil))))) (pe_cal C_l_draw hr (by decide) (by rfl) pass0 (pa_cons (pv 0) (pa_cons pe_int pa_nil))) (fun _ _ => rfl)) pa_nil)) (pg_name (i := 3) sc_l_random_name.nd rfl (Or.inl rfl))
        (pss_one (ps_set (i := 2) sc_l_random_name.nd rfl (Or.inl rfl) (pe_op op_add_str (pe_op op_add_str (pv 2) pe_str) (pe_ix ix_list (pe_lst (pa_cons pe_str (pa_cons pe_str (pa_cons pe_str (pa_cons pe_str (pa_cons pe_str (pa_cons pe_str pa_nil))))))) (pe_cal C_l_draw hr (by decide) (by rfl) pass0 (pa_cons (pv 0) (pa_cons pe_int pa_nil))) (fun _ _ => rfl))))))
      (pss_one (ps_ret (pe_op op_add_str (pv 2) (pe_op op_mul_str pe_str (pv 1))))))), ?_⟩
    have big : (100000 : Nat) ≤ sizeLine := by decide
    -- found = [..][draw(source, 6)]
    refine ⟨by show 6 ≤ sizeLine; decide, fun l hl => ?_⟩
    have sl := same_upd (o := .lst [V.str "a", V.str "b", V.str "dir", V.str "x-1", V.str "a.b", V.str "_"]) hl
    refine ⟨_, rfl, p, 6, rfl, hp.kp sl, by decide, by decide, fun d H1 d0 d1 hp1 k1 => ?_⟩
    have nlp : l ≠ p := by
      obtain ⟨_, _, _, e, _⟩ := hp
      exact (ne_of_none e hl).symm
    have hl1 := k1 l _ upd_same nlp
    obtain ⟨v, hv, hm⟩ := at_in (xs := [V.str "a", V.str "b", V.str "dir", V.str "x-1", V.str "a.b", V.str "_"]) d0 d1
    have fv : ∃ z : Str, v = .str z ∧ Lets z ∧ 1 ≤ z.length ∧ z.length ≤ 3 := by
      have all : ∀ v ∈ [V.str "a", V.str "b", V.str "dir", V.str "x-1", V.str "a.b", V.str "_"], ∃ z : Str, v = .str z ∧ Lets z ∧ 1 ≤ z.length ∧ z.length ≤ 3 := by
        simp only [List.forall_mem_cons]
        refine ⟨⟨_, rfl, ?_⟩, ⟨_, rfl, ?_⟩, ⟨_, rfl, ?_⟩, ⟨_, rfl, ?_⟩, ⟨_, rfl, ?_⟩, ⟨_, rfl, ?_⟩, fun _ h => nomatch h⟩
        all_goals
          unfold Lets
          decide +kernel
      exact all v hm
    obtain ⟨z, rfl, lz, z1, z2⟩ := fv
    refine ⟨l, _, d, _, rfl, rfl, SqL.of hl1, hv, ?_⟩
    have kA : Kp p H H1 := Kp.trans (Kp.of sl) k1
    -- for k in range([0, 0, 1, 2][draw(source, 4)])
    refine ⟨by show 4 ≤ sizeLine; decide, fun l2 hl2 => ?_⟩
    have sl2 := same_upd (o := .lst [V.int 0, V.int 0, V.int 1, V.int 2]) hl2
    refine ⟨_, rfl, p, 4, rfl, hp1.kp sl2, by decide, by decide, fun d2 H2 d20 d21 hp2 k2 => ?_⟩
    have nlp2 : l2 ≠ p := by
      obtain ⟨_, _, _, e, _⟩ := hp1
      exact (ne_of_none e hl2).symm
    have hl22 := k2 l2 _ upd_same nlp2
    obtain ⟨v2, hv2, hm2⟩ := at_in (xs := [V.int 0, V.int 0, V.int 1, V.int 2]) d20 d21
    have fv2 : ∃ m : Nat, v2 = .int m ∧ m ≤ 2 := by
      have all : ∀ v ∈ [V.int 0, V.int 0, V.int 1, V.int 2], ∃ m : Nat, v = .int m ∧ m ≤ 2 := by
        simp only [List.forall_mem_cons]
        exact ⟨⟨0, rfl, by decide⟩, ⟨0, rfl, by decide⟩, ⟨1, rfl, by decide⟩, ⟨2, rfl, by decide⟩, fun _ h => nomatch h⟩
      exact all v2 hm2
    obtain ⟨m, rfl, hm'⟩ := fv2
    refine ⟨l2, _, d2, _, rfl, rfl, SqL.of hl22, hv2, _, rfl, by omega, by omega, ?_⟩
    have kB : Kp p H H2 := Kp.trans kA (Kp.trans (Kp.of sl2) k2)
    refine for_range (fun i σ H3 => ∃ (z : Str) (v : Option V), σ = [some (.ref p), some (.int n), some (.str z), v] ∧ Lets z ∧ 1 ≤ z.length ∧ z.length ≤ 3 + 5 * i ∧ SrcAt H3 p ∧ Kp p H H3)
      ⟨z, none, rfl, lz, z1, by omega, hp2, kB⟩ ?_ ?_
    · rintro i σ H3 hi ⟨z, v, rfl, lz, z1, z2, hp3, k3⟩
      have hi2 : i < 2 := by omega
      refine ⟨_, rfl, _, _, rfl, rfl, ?_, ?_⟩
      · show z.length + 1 ≤ sizeLine
        omega
      refine ⟨by show 6 ≤ sizeLine; decide, fun l4 hl4 => ?_⟩
      have sl4 := same_upd (o := .lst [V.str "a", V.str "b", V.str "c", V.str "..a", V.str "long", V.str "0"]) hl4
      refine ⟨_, rfl, p, 6, rfl, hp3.kp sl4, by decide, by decide, fun d4 H4 d40 d41 hp4 k4 => ?_⟩
      have nlp4 : l4 ≠ p := by
        obtain ⟨_, _, _, e, _⟩ := hp3
        exact (ne_of_none e hl4).symm
      have hl44 := k4 l4 _ upd_same nlp4
      obtain ⟨v4, hv4, hm4⟩ := at_in (xs := [V.str "a", V.str "b", V.str "c", V.str "..a", V.str "long", V.str "0"]) d40 d41
      have fv4 : ∃ y : Str, v4 = .str y ∧ Lets y ∧ 1 ≤ y.length ∧ y.length ≤ 4 := by
        have all : ∀ v ∈ [V.str "a", V.str "b", V.str "c", V.str "..a", V.str "long", V.str "0"], ∃ z : Str, v = .str z ∧ Lets z ∧ 1 ≤ z.length ∧ z.length ≤ 4 := by
          simp only [List.forall_mem_cons]
          refine ⟨⟨_, rfl, ?_⟩, ⟨_, rfl, ?_⟩, ⟨_, rfl, ?_⟩, ⟨_, rfl, ?_⟩, ⟨_, rfl, ?_⟩, ⟨_, rfl, ?_⟩, fun _ h => nomatch h⟩
          all_goals
            unfold Lets
            decide +kernel
        exact all v4 hm4
      obtain ⟨y, rfl, ly, y1, y2⟩ := fv4
      have lsl : Lets ("/" : Str) := by
        unfold Lets
        decide +kernel
      have e1 : (z ++ ("/" : Str)).length = z.length + 1 := by
        rw [app_len]
        rfl
      have e2 : (z ++ ("/" : Str) ++ y).length = z.length + 1 + y.length := by rw [app_len, e1]
      refine ⟨l4, _, d4, _, rfl, rfl, SqL.of hl44, hv4, _, _, rfl, rfl, ?_, ?_⟩
      · rw [e1]
        omega
      · exact ⟨z ++ ("/" : Str) ++ y, _, rfl, (lz.app lsl).app ly, by rw [e2]; omega, by rw [e2]; omega, hp4, Kp.trans k3 (Kp.trans (Kp.of sl4) k4)⟩
    · rintro σ H3 ⟨z, v, rfl, lz, z1, z2, hp3, k3⟩
      have lq : Lets ("q" : Str) := by
        unfold Lets
        decide +kernel
      have e1 : (PySem.Txt.mul "q" n).length = n.toNat := by
        rw [mul_len, show ("q" : Str).length = 1 by decide +kernel, Nat.mul_one]
      refine ⟨_, rfl, _, rfl, _, _, rfl, rfl, mulOk_small (by decide +kernel) (by omega) (by omega), _, _, rfl, rfl, ?_, ?_⟩
      · rw [e1]
        omega
      · exact q _ H3 (lz.app (lq.mul n)) (by rw [app_len]; omega) (by rw [app_len, e1]; omega) hp3 k3
end
end K3

namespace K3
open PySem PySem.Spec PyProof.Rows L2 Tar
/-- [..][draw(source, n)] -/
theorem pick_ix {K : PySem.W.Frag} {H : Hp} {p l : Addr} {xs : List V} {Q : VK} {E : XK} {m : Int} (hp : SrcAt H p) (hl : H l = none) (hm : m = (xs.length : Int)) (h0 : 0 < xs.length) (h1 : xs.length ≤ 1000)
    (h : ∀ v H', v ∈ xs → SrcAt H' p → Kp p H H' → Q v H') : spDraw [.ref p, .int m] (upd H l (.lst xs)) (fun d H2 => rIxL K (.ref l) d H2 Q) E := by
  subst hm
  refine ⟨p, _, rfl, hp.kp (same_upd hl), by omega, by omega, fun d H1 d0 d1 hp1 k1 => ?_⟩
  have nlp : l ≠ p := by
    obtain ⟨_, _, _, e, _⟩ := hp
    exact (ne_of_none e hl).symm
  obtain ⟨v, hv, hm⟩ := at_in (xs := xs) d0 d1
  exact ⟨l, xs, d, v, rfl, rfl, SqL.of (k1 l _ upd_same nlp), hv, h v H1 hm hp1 (Kp.trans (Kp.of (same_upd hl)) k1)⟩
/-- a text that is drawn -/
def spText (n : Nat) : Sp := fun vs H Q _ => ∃ (p : Addr), vs = [.ref p] ∧ SrcAt H p ∧ ∀ (z : Str) (H' : Hp), Lets z → 1 ≤ z.length → z.length ≤ n → SrcAt H' p → Kp p H H' → Q (.str z) H'
def spBent : Sp := fun vs H Q _ => ∃ (p : Addr) (z : Str), vs = [.ref p, .str z] ∧ SrcAt H p ∧ z.length ≤ 900 ∧ ∀ (y : Str) (H' : Hp), y.length ≤ z.length + 1 → SrcAt H' p → Kp p H H' → Q (.str y) H'
theorem cut_le (z : Str) (lo hi : Option Int) : (cutS z lo hi).length ≤ z.length := cutS_length z lo hi
/-- the two cuts at one place -/
theorem cut_two (z : Str) (d : Int) (h0 : 0 ≤ d) : (cutS z none (some d)).length + (cutS z (some d) none).length ≤ z.length := by
  obtain ⟨j, rfl⟩ : ∃ j : Nat, d = (j : Int) := ⟨d.toNat, by omega⟩
  unfold cutS
  show (List.toArray _).size + (List.toArray _).size ≤ z.length
  simp only [HT.sIx_none, HT.sIx_nat, List.size_toArray, List.length_take, List.length_drop, Array.length_toList]
  have : z.cps.size = z.length := rfl
  omega
theorem cut_one (z : Str) (d : Int) (h0 : 0 ≤ d) : (cutS z (some d) (some (d + 1))).length ≤ 1 := by
  obtain ⟨j, rfl⟩ : ∃ j : Nat, d = (j : Int) := ⟨d.toNat, by omega⟩
  have e : ((j : Int) + 1) = ((j + 1 : Nat) : Int) := by omega
  rw [e]
  unfold cutS
  show (List.toArray _).size ≤ 1
  simp only [HT.sIx_nat, List.size_toArray, List.length_take, List.length_drop, Array.length_toList]
  omega
theorem cut_next (z : Str) (d : Int) (h0 : 0 ≤ d) : (cutS z (some (d + 1)) none).length ≤ (cutS z (some d) none).length := by
  obtain ⟨j, rfl⟩ : ∃ j : Nat, d = (j : Int) := ⟨d.toNat, by omega⟩
  have e : ((j : Int) + 1) = ((j + 1 : Nat) : Int) := by omega
  rw [e]
  unfold cutS
  show (List.toArray _).size ≤ (List.toArray _).size
  simp only [HT.sIx_nat, HT.sIx_none, List.size_toArray, List.length_take, List.length_drop, Array.length_toList]
  have : z.cps.size = z.length := rfl
  omega
section
variable {P : Program} {w : World} {K : PySem.W.Frag} {mg : Str → Option Value} {base : Heap}
theorem c_l_any_name (C_l_draw : Cal P w K mg base 1 "_law_draw" s_l_draw ["_law_source_here", "_law_many"] spDraw) (C_l_random_name : Cal P w K mg base 2 "_law_random_name" s_l_random_name ["_law_source_here", "_law_many"] spRand)
    (D : Def K mg "_law_any_name" s_l_any_name) (T : Txt mg) : Cal P w K mg base 3 "_law_any_name" s_l_any_name ["_law_source_here"] (spText 250) := by
  refine cal_of D sc_l_any_name (fun _ _ _ _ _ _ us hl => match us, hl with | [_], _ => rfl) (fun vs H Q E h => ?_) (fun f cdv A outer s H vs Q E hr h => ?_)
  · obtain ⟨p, rfl, _⟩ := h
    rfl
  · obtain ⟨p, rfl, hp, q⟩ := h
    refine ⟨_, (pss_cons (ps_set (i := 1) sc_l_any_name.nd rfl (Or.inl rfl) (pe_cal C_l_draw hr (by decide) (by rfl) pass0 (pa_cons (pv 0) (pa_cons pe_int pa_nil))))
      (pss_cons (ps_if (pt_cmpR op_lt (pv 1) pe_int (nomark _))
        (pss_one (ps_ret (pe_cal C_l_random_name hr (by decide) (by rfl) pass0 (pa_cons (pv 0) (pa_cons pe_int pa_nil)))))
        pss_nil)
      (pss_cons (ps_if (pt_cmpR op_lt (pv 1) pe_int (nomark _))
        (pss_cons (ps_set (i := 2) sc_l_any_name.nd rfl (Or.inl rfl) (pe_ix ix_list (pe_lst (pa_cons pe_int (pa_cons pe_int (pa_cons pe_int (pa_cons pe_int (pa_cons pe_int (pa_cons pe_int (pa_cons (pe_op op_add pe_int (pe_cal C_l_draw hr (by decide) (by rfl) pass0 (pa_cons (pv 0) (pa_cons pe_int pa_nil)))) pa_nil)))))))) (pe_cal C_l_draw hr (by decide) (by rfl) pass0 (pa_cons (pv 0) (pa_cons pe_int pa_nil))) (fun _ _ => rfl)))
        (pss_cons (ps_set (i := 3) sc_l_any_name.nd rfl (Or.inl rfl) (pe_cal C_l_random_name hr (by decide) (by rfl) pass0 (pa_cons (pv 0) (pa_cons pe_int pa_nil))))
        (pss_one (ps_ret (pe_op op_add_str (pv 3) (pe_op op_mul_str (pe_ix ix_str pe_str (pe_cal C_l_draw hr (by decide) (by rfl) pass0 (pa_cons (pv 0) (pa_cons pe_int pa_nil))) (fun _ _ => rfl)) (pe_op op_sub (pv 2) (pe_callB call_len_str (by rfl) T.n_len PySem.boot_len (pa_cons (pv 3) pa_nil)))))))))
        pss_nil)
      (pss_one (ps_ret (pe_ix ix_list (pe_lst (pa_cons pe_str (pa_cons pe_str (pa_cons pe_str (pa_cons pe_str (pa_cons pe_str (pa_cons pe_str (pa_cons pe_str (pa_cons pe_str pa_nil))))))))) (pe_cal C_l_draw hr (by decide) (by rfl) pass0 (pa_cons (pv 0) (pa_cons pe_int pa_nil))) (fun _ _ => rfl))))))), ?_⟩
    have big : (100000 : Nat) ≤ sizeLine := by decide
    refine ⟨_, rfl, p, 8, rfl, hp, by decide, by decide, fun d H1 d0 d1 hp1 k1 => ?_⟩
    refine ⟨_, rfl, _, _, rfl, rfl, _, rfl, ite2 (fun _ => ?_) (fun _ => ?_)⟩
    · refine ⟨_, rfl, p, 0, rfl, hp1, by decide, by decide, fun z H2 lz z1 z2 hp2 k2 => ?_⟩
      exact q z H2 lz z1 (by have : (0 : Int).toNat = 0 := rfl; omega) hp2 (Kp.trans k1 k2)
    refine ⟨_, rfl, _, _, rfl, rfl, _, rfl, ite2 (fun _ => ?_) (fun _ => ?_)⟩
    · -- size = [99, .., 101 + draw(source, 149)][draw(source, 7)]
      refine ⟨_, rfl, p, 149, rfl, hp1, by decide, by decide, fun d2 H2 d20 d21 hp2 k2 => ?_⟩
      refine ⟨_, _, rfl, rfl, ?_⟩
      refine ⟨by show 7 ≤ sizeLine; decide, fun l hl => ⟨_, rfl, pick_ix (E := E0) hp2 hl rfl (by show 0 < 7; decide) (by show 7 ≤ 1000; decide) fun v H3 hv hp3 k3 => ?_⟩⟩
      have fv : ∃ m : Int, v = .int m ∧ 99 ≤ m ∧ m ≤ 250 := by
        simp only [List.mem_cons, List.not_mem_nil, or_false] at hv
        rcases hv with rfl | rfl | rfl | rfl | rfl | rfl | rfl
        · exact ⟨_, rfl, by decide, by decide⟩
        · exact ⟨_, rfl, by decide, by decide⟩
        · exact ⟨_, rfl, by decide, by decide⟩
        · exact ⟨_, rfl, by decide, by decide⟩
        · exact ⟨_, rfl, by decide, by decide⟩
        · exact ⟨_, rfl, by decide, by decide⟩
        · exact ⟨_, rfl, by omega, by omega⟩
      obtain ⟨m, rfl, m0, m1⟩ := fv
      refine ⟨_, rfl, p, 0, rfl, hp3, by decide, by decide, fun z H4 lz z1 z2 hp4 k4 => ?_⟩
      have z2' : z.length ≤ 15 := z2
      refine ⟨_, rfl, _, rfl, p, 36, rfl, hp4, by decide, by decide, fun d5 H5 d50 d51 hp5 k5 => ?_⟩
      have e36 : ("abcdefghijklmnopqrstuvwxyz0123456789" : Str).cps.toList.length = 36 := by decide +kernel
      obtain ⟨c, hc, hcm⟩ := at_in (xs := ("abcdefghijklmnopqrstuvwxyz0123456789" : Str).cps.toList) d50 (by rw [e36]; exact d51)
      have lc : Lets (⟨#[c]⟩ : Str) := by
        have all : ("abcdefghijklmnopqrstuvwxyz0123456789" : Str).cps.toList.all isLet = true := by decide +kernel
        show (#[c].toList.all isLet) = true
        have := List.all_eq_true.mp all c hcm
        simp [this]
      have c1 : (⟨#[c]⟩ : Str).length = 1 := rfl
      refine ⟨_, d5, c, rfl, rfl, by decide +kernel, hc, ?_⟩
      have e1 : (PySem.Txt.mul (⟨#[c]⟩ : Str) (m - (z.length : Int))).length = (m - (z.length : Int)).toNat := by
        rw [mul_len, c1, Nat.mul_one]
      refine ⟨_, rfl, _, rfl, z, rfl, by omega, _, _, rfl, rfl, _, _, rfl, rfl, mulOk_small (by rw [c1]; decide) (by omega) (by omega), _, _, rfl, rfl, ?_, ?_⟩
      · rw [e1]
        omega
      · refine q _ _ (lz.app (lc.mul _)) (by rw [app_len]; omega) (by rw [app_len, e1]; omega) hp5 ?_
        exact Kp.trans k1 (Kp.trans k2 (Kp.trans k3 (Kp.trans k4 k5)))
    · refine ⟨by show 8 ≤ sizeLine; decide, fun l hl => ⟨_, rfl, pick_ix (E := E0) hp1 hl rfl (by decide) (by decide) fun v H3 hv hp3 k3 => ?_⟩⟩
      have all : ∀ v ∈ [V.str "..", V.str "/a", V.str "a//b", V.str "a/", V.str "./a", V.str "a/../b", V.str "-", V.str "._-/"], ∃ z : Str, v = .str z ∧ Lets z ∧ 1 ≤ z.length ∧ z.length ≤ 250 := by
        simp only [List.forall_mem_cons]
        refine ⟨⟨_, rfl, ?_⟩, ⟨_, rfl, ?_⟩, ⟨_, rfl, ?_⟩, ⟨_, rfl, ?_⟩, ⟨_, rfl, ?_⟩, ⟨_, rfl, ?_⟩, ⟨_, rfl, ?_⟩, ⟨_, rfl, ?_⟩, fun _ h => nomatch h⟩
        all_goals
          unfold Lets
          decide +kernel
      obtain ⟨z, rfl, lz, z1, z2⟩ := all v hv
      exact q z H3 lz z1 z2 hp3 (Kp.trans k1 k3)
theorem c_l_bent (C_l_draw : Cal P w K mg base 1 "_law_draw" s_l_draw ["_law_source_here", "_law_many"] spDraw) (D : Def K mg "_law_bent" s_l_bent) (T : Txt mg) :
    Cal P w K mg base 2 "_law_bent" s_l_bent ["_law_source_here", "_law_text"] spBent := by
  refine cal_of D sc_l_bent (fun _ _ _ _ _ _ us hl => match us, hl with | [_, _], _ => rfl) (fun vs H Q E h => ?_) (fun f cdv A outer s H vs Q E hr h => ?_)
  · obtain ⟨p, z, rfl, _⟩ := h
    rfl
  · obtain ⟨p, z, rfl, hp, hz, q⟩ := h
    refine ⟨_, (pss_cons (ps_set (i := 2) sc_l_bent.nd rfl (Or.inl rfl) (pe_cal C_l_draw hr (by decide) (by rfl) pass0 (pa_cons (pv 0) (pa_cons (pe_op op_add (pe_callB call_len_str (by rfl) T.n_len PySem.boot_len (pa_cons (pv 1) pa_nil)) pe_int) pa_nil))))
      (pss_cons (ps_set (i := 3) sc_l_bent.nd rfl (Or.inl rfl) (pe_ix ix_str pe_str (pe_cal C_l_draw hr (by decide) (by rfl) pass0 (pa_cons (pv 0) (pa_cons pe_int pa_nil))) (fun _ _ => rfl)))
      (pss_cons (ps_set (i := 4) sc_l_bent.nd rfl (Or.inl rfl) (pe_lst (pa_cons (pe_op op_add_str (pe_slice sl_str (pv 1) po_none (po_some (pv 2))) (pe_slice sl_str (pv 1) (po_some (pe_op op_add (pv 2) pe_int)) po_none)) (pa_cons (pe_op op_add_str (pe_op op_add_str (pe_slice sl_str (pv 1) po_none (po_some (pv 2))) (pv 3)) (pe_slice sl_str (pv 1) (po_some (pv 2)) po_none)) (pa_cons (pe_op op_add_str (pe_op op_add_str (pe_slice sl_str (pv 1) po_none (po_some (pv 2))) (pv 3)) (pe_slice sl_str (pv 1) (po_some (pe_op op_add (pv 2) pe_int)) po_none)) pa_nil)))))
      (pss_cons (ps_expr (pe_bm PySem.F.plainAttrs_list PySem.F.slot_list_append PySem.F.type_list_append mt_append (pv 4) (pa_cons (pe_op op_add_str (pe_op op_add_str (pe_slice sl_str (pv 1) po_none (po_some (pv 2))) (pe_slice sl_str (pv 1) (po_some (pv 2)) (po_some (pe_op op_add (pv 2) pe_int)))) (pe_slice sl_str (pv 1) (po_some (pv 2)) po_none)) pa_nil)))
      (pss_one (ps_ret (pe_ix ix_list (pv 4) (pe_cal C_l_draw hr (by decide) (by rfl) pass0 (pa_cons (pv 0) (pa_cons pe_int pa_nil))) (fun _ _ => rfl)))))))), ?_⟩
    have big : (100000 : Nat) ≤ sizeLine := by decide
    have hzs : z.length ≤ sizeLine := by omega
    refine ⟨_, rfl, _, rfl, z, rfl, hzs, _, _, rfl, rfl, p, _, rfl, hp, by omega, by omega, fun d H1 d0 d1 hp1 k1 => ?_⟩
    refine ⟨_, rfl, p, 13, rfl, hp1, by decide, by decide, fun d2 H2 d20 d21 hp2 k2 => ?_⟩
    have e13 : ("/./..a0A_ -@/" : Str).cps.toList.length = 13 := by decide +kernel
    obtain ⟨c, hc, hcm⟩ := at_in (xs := ("/./..a0A_ -@/" : Str).cps.toList) d20 (by rw [e13]; exact d21)
    have c1 : (⟨#[c]⟩ : Str).length = 1 := rfl
    refine ⟨_, d2, c, rfl, rfl, by decide +kernel, hc, ?_⟩
    have t2 := cut_two z d d0
    have tn := cut_next z d d0
    have t1 := cut_one z d d0
    -- some = [.., .., ..]
    refine ⟨_, rfl, _, rfl, d, rfl, z, rfl, hzs, _, rfl, _, rfl, _, _, rfl, rfl, _, rfl, z, rfl, hzs, _, _, rfl, rfl, by omega, ?_⟩
    refine ⟨_, rfl, _, rfl, d, rfl, z, rfl, hzs, _, rfl, _, _, rfl, rfl, by rw [c1]; omega, _, rfl, _, rfl, d, rfl, z, rfl, hzs, _, _, rfl, rfl, by rw [app_len, c1]; omega, ?_⟩
    refine ⟨_, rfl, _, rfl, d, rfl, z, rfl, hzs, _, rfl, _, _, rfl, rfl, by rw [c1]; omega, _, rfl, _, rfl, _, _, rfl, rfl, _, rfl, z, rfl, hzs, _, _, rfl, rfl, by rw [app_len, c1]; omega, ?_⟩
    refine ⟨by show 3 ≤ sizeLine; decide, fun l hl => ?_⟩
    -- some.append(..)
    refine ⟨_, rfl, .inl ⟨rfl, _, SqL.of upd_same⟩, ?_⟩
    refine ⟨_, rfl, _, rfl, d, rfl, z, rfl, hzs, _, rfl, _, rfl, d, rfl, _, rfl, _, _, rfl, rfl, _, rfl, z, rfl, hzs, _, _, rfl, rfl, by omega, _, rfl, _, rfl, d, rfl, z, rfl, hzs, _, _, rfl, rfl, by rw [app_len]; omega, ?_⟩
    refine ⟨l, _, _, rfl, rfl, upd_same, by show 3 < sizeLine; decide, ?_⟩
    have nlp : l ≠ p := by
      obtain ⟨_, _, _, e, _⟩ := hp2
      exact (ne_of_none e hl).symm
    have hp3 : ∀ xs ys, SrcAt (upd (upd H2 l (.lst xs)) l (.lst ys)) p := by
      intro xs ys
      obtain ⟨a, b, c, e, r⟩ := hp2
      exact ⟨a, b, c, by rw [upd_ne nlp.symm, upd_ne nlp.symm]; exact e, r⟩
    refine ⟨_, rfl, _, rfl, p, 4, rfl, hp3 _ _, by decide, by decide, fun d4 H4 d40 d41 hp4 k4 => ?_⟩
    have hl4 := k4 l _ upd_same nlp
    obtain ⟨v, hv, hvm⟩ := at_in (xs := [V.str (cutS z none (some d) ++ cutS z (some (d + 1)) none), V.str (cutS z none (some d) ++ (⟨#[c]⟩ : Str) ++ cutS z (some d) none), V.str (cutS z none (some d) ++ (⟨#[c]⟩ : Str) ++ cutS z (some (d + 1)) none)] ++ [V.str (cutS z none (some d) ++ cutS z (some d) (some (d + 1)) ++ cutS z (some d) none)]) d40 d41
    have fv : ∃ y : Str, v = .str y ∧ y.length ≤ z.length + 1 := by
      simp only [List.cons_append, List.nil_append, List.mem_cons, List.not_mem_nil, or_false] at hvm
      rcases hvm with rfl | rfl | rfl | rfl
      · exact ⟨_, rfl, by rw [app_len]; omega⟩
      · exact ⟨_, rfl, by rw [app_len, app_len, c1]; omega⟩
      · exact ⟨_, rfl, by rw [app_len, app_len, c1]; omega⟩
      · exact ⟨_, rfl, by rw [app_len, app_len]; omega⟩
    obtain ⟨y, rfl, y1⟩ := fv
    refine ⟨l, _, d4, _, rfl, rfl, SqL.of hl4, hv, ?_⟩
    refine q y H4 y1 hp4 (Kp.trans k1 (Kp.trans k2 ?_))
    intro b o e nb
    refine k4 b o ?_ nb
    have : b ≠ l := ne_of_none e hl
    rw [upd_ne this, upd_ne this]
    exact e
end
end K3

namespace K3
open PySem PySem.Spec PyProof.Rows L2 Tar
theorem same_kp {H H1 H2 : Hp} {p : Addr} (s : Same H H1) (n : H p = none) (k : Kp p H1 H2) : Same H H2 := fun b o e => k b o (s b o e) (ne_of_none e n)
def spLaw (K : PySem.W.Frag) : Sp := fun vs H Q _ => ∃ (a : Addr) (ns : List Int), vs = [.ref a] ∧ SqL K H a (ns.map V.int) ∧ ns.length ≤ 63 ∧ ∀ H', Q (.bl true) H'
theorem two_shown (b : Bool) : (PyData.list [.bool b, .bool b]).shown.length ≤ sizeLine := by
  cases b
  · exact Nat.le_trans (show _ ≤ 100 by decide +kernel) (by decide)
  · exact Nat.le_trans (show _ ≤ 100 by decide +kernel) (by decide)
theorem two_deep (b : Bool) : (PyData.list [.bool b, .bool b]).depth < 60 := by
  cases b <;> decide
theorem two_dp {K : PySem.W.Frag} {H : Hp} {l : Addr} {b : Bool} (h : H l = some (.lst [.bl b, .bl b])) : Dp K H (.ref l) (.list [.bool b, .bool b]) :=
  .lst (SqL.of h) (.cons (.bl b) (.cons (.bl b) .nil))
section
variable {P : Program} {w : World} {K : PySem.W.Frag} {mg : Str → Option Value} {base : Heap}
theorem ok_law {f : Addr} {fd : FuncData} (F : Fun K "law" "law" s_law f fd) (T : Txt mg)
    (C_l_source : Cal P w K mg base 1 "_law_source" s_l_source ["_law_script", "_law_at"] (spSource K))
    (C_l_draw : Cal P w K mg base 1 "_law_draw" s_l_draw ["_law_source_here", "_law_many"] spDraw)
    (C_l_any_name : Cal P w K mg base 3 "_law_any_name" s_l_any_name ["_law_source_here"] (spText 250))
    (C_l_bent : Cal P w K mg base 2 "_law_bent" s_l_bent ["_law_source_here", "_law_text"] spBent)
    (C_blob : Cal P w K mg base 3 "blob" s_blob ["numbers"] (spBlob K))
    (C_is_name : Cal P w K mg base 1 "is_name" s_is_name ["thing"] (spNm isNm K)) (CK_is_name : CalK P w K mg base 1 "is_name" s_is_name ["thing"] ["thing"] (fun _ zs => zs) (spNm isNm K))
    (C_is_path : Cal P w K mg base 2 "is_path" s_is_path ["thing"] (spNm isPt K)) (CK_is_path : CalK P w K mg base 2 "is_path" s_is_path ["thing"] ["thing"] (fun _ zs => zs) (spNm isPt K))
    (C_l_is_name : Cal P w K mg base 1 "_law_is_name" s_l_is_name ["_law_given"] (spNm isNm K)) (C_l_is_path : Cal P w K mg base 2 "_law_is_path" s_l_is_path ["_law_given"] (spNm isPt K)) :
    FnG P w K mg base CX0 11 f fd ["_law_script"] (spLaw K) := by
  refine okG F sc_law (fun vs H Q E h => ?_) (fun cdv A outer s H vs Q E hg hr h => ?_)
  · obtain ⟨a, ns, rfl, _⟩ := h
    rfl
  · obtain ⟨a, ns, rfl, hS, hn, q⟩ := h
    have hgd : (A.deeper (envOfC "law" (defScope s_law) s.heap.objs.size f cdv)).guards = some [] := hg
    have big : (100000 : Nat) ≤ sizeLine := by decide
    refine ⟨_, (pss_cons (ps_for PassesOwn.never rfl (pi_range1 (by rfl) T.n_range (pa_cons (pe_callB (call_max2 rfl) (by rfl) T.n_max (by decide +kernel) (pa_cons pe_int (pa_cons (pe_callB (call_min2 rfl) (by rfl) T.n_min (by decide +kernel) (pa_cons pe_int (pa_cons (pe_callB call_len_seq (by rfl) T.n_len PySem.boot_len (pa_cons (pv 0) pa_nil)) pa_nil))) pa_nil))) pa_nil)) (pg_name (i := 1) sc_law.nd rfl (Or.inl rfl))
        (pss_cons (ps_set (i := 2) sc_law.nd rfl (Or.inl rfl) (pe_cal C_l_source hr (by decide) (by rfl) pass0 (pa_cons (pv 0) (pa_cons (pv 1) pa_nil))))
        (pss_one (ps_for PassesOwn.never rfl (pi_range1 (by rfl) T.n_range (pa_cons pe_int pa_nil)) (pg_name (i := 3) sc_law.nd rfl (Or.inl rfl))
          (pss_cons (ps_set (i := 4) sc_law.nd rfl (Or.inl rfl) (pe_cal C_l_any_name hr (by decide) (by rfl) pass0 (pa_cons (pv 2) pa_nil)))
          (pss_cons (ps_set (i := 5) sc_law.nd rfl (Or.inl rfl) (pe_lst (pa_cons (pv 4) (pa_cons (pe_cal C_l_bent hr (by decide) (by rfl) pass0 (pa_cons (pv 2) (pa_cons (pv 4) pa_nil))) (pa_cons (pe_cal C_l_bent hr (by decide) (by rfl) pass0 (pa_cons (pv 2) (pa_cons (pe_cal C_l_bent hr (by decide) (by rfl) pass0 (pa_cons (pv 2) (pa_cons (pv 4) pa_nil))) pa_nil))) (pa_cons (pe_op op_add_str (pv 4) (pe_op op_mul_str pe_str pe_int)) pa_nil))))))
          (pss_cons (ps_set (i := 6) sc_law.nd rfl (Or.inl rfl) (pe_lst (pa_cons pe_non (pa_cons pe_int (pa_cons pe_bl (pa_cons (pe_lst (pa_cons (pv 4) pa_nil)) (pa_cons (pe_tup (pa_cons (pv 4) pa_nil)) (pa_cons pe_str (pa_cons pe_str (pa_cons pe_str (pa_cons pe_str (pa_cons pe_str (pa_cons pe_str (pa_cons pe_str (pa_cons (pe_cal C_blob hr (by decide) (by rfl) pass0 (pa_cons (pe_lst (pa_cons pe_int pa_nil)) pa_nil)) pa_nil)))))))))))))))
          (pss_cons (ps_set (i := 6) sc_law.nd rfl (Or.inl rfl) (pe_op op_cat (pv 6) (pe_lst (pa_cons (pe_op op_mul_str pe_str pe_int) (pa_cons pe_str pa_nil)))))
          (pss_one (ps_for PassesOwn.never rfl (pi_list (pe_op op_cat (pv 5) (pe_lst (pa_cons (pe_ix ix_list (pv 6) (pe_cal C_l_draw hr (by decide) (by rfl) pass0 (pa_cons (pv 2) (pa_cons pe_int pa_nil))) (fun _ _ => rfl)) pa_nil)))) (pg_name (i := 7) sc_law.nd rfl (Or.inl rfl))
            (pss_cons (ps_set (i := 8) sc_law.nd rfl (Or.inl rfl) (pe_lst (pa_cons (pe_cal C_is_name hr (by decide) (by rfl) pass0 (pa_cons (pv 7) pa_nil)) (pa_cons (pe_calK CK_is_name hr (by decide) (by rfl) pass0 (pk_cons (pv 7) pk_nil)) pa_nil))))
            (pss_cons (ps_if (pt_cmpR op_ne (pe_callB (call_repr hgd hr.units) (by rfl) T.n_repr (by decide +kernel) (pa_cons (pv 8) pa_nil)) (pe_callB (call_repr hgd hr.units) (by rfl) T.n_repr (by decide +kernel) (pa_cons (pe_op op_rep (pe_lst (pa_cons (pe_cal C_l_is_name hr (by decide) (by rfl) pass0 (pa_cons (pv 7) pa_nil)) pa_nil)) pe_int) pa_nil)) (nomark _))
              (pss_one (ps_ret pe_bl))
              pss_nil)
            (pss_cons (ps_set (i := 8) sc_law.nd rfl (Or.inl rfl) (pe_lst (pa_cons (pe_cal C_is_path hr (by decide) (by rfl) pass0 (pa_cons (pv 7) pa_nil)) (pa_cons (pe_calK CK_is_path hr (by decide) (by rfl) pass0 (pk_cons (pv 7) pk_nil)) pa_nil))))
            (pss_one (ps_if (pt_cmpR op_ne (pe_callB (call_repr hgd hr.units) (by rfl) T.n_repr (by decide +kernel) (pa_cons (pv 8) pa_nil)) (pe_callB (call_repr hgd hr.units) (by rfl) T.n_repr (by decide +kernel) (pa_cons (pe_op op_rep (pe_lst (pa_cons (pe_cal C_l_is_path hr (by decide) (by rfl) pass0 (pa_cons (pv 7) pa_nil)) pa_nil)) pe_int) pa_nil)) (nomark _))
              (pss_one (ps_ret pe_bl))
              pss_nil)))))))))))))))
      (pss_one (ps_ret pe_bl))), ?_⟩
    -- for k in range(max(1, min(4, len(script))))
    refine ⟨_, rfl, a, _, rfl, .inl hS, _, _, rfl, _, _, rfl, _, rfl, ?_, ?_, ?_⟩
    · rw [List.length_map]
      split <;> split <;> omega
    · rw [List.length_map]
      split <;> split <;> omega
    refine for_range (fun i σ H1 => ∃ v1 v2 v3 v4 v5 v6 v7 v8 : Option V, σ = [some (.ref a), v1, v2, v3, v4, v5, v6, v7, v8] ∧ Same H H1) ⟨_, _, _, _, _, _, _, _, rfl, Same.refl H⟩ ?_ (fun σ H1 _ => q H1)
    rintro i σ H1 hi ⟨v1, v2, v3, v4, v5, v6, v7, v8, rfl, s1⟩
    have hi4 : i ≤ 63 := by
      rw [List.length_map] at hi
      split at hi <;> split at hi <;> omega
    refine ⟨_, rfl, _, rfl, a, ns, i, by rw [Int.zero_add]; rfl, s1.seq hS, hn, hi4, fun p H2 np s2 hp2 => ?_⟩
    have npH : H p = none := s1.free np
    -- for turn in range(12)
    refine ⟨12, rfl, by decide, by decide, ?_⟩
    refine for_range (fun j σ H3 => ∃ v1 v3 v4 v5 v6 v7 v8 : Option V, σ = [some (.ref a), v1, some (.ref p), v3, v4, v5, v6, v7, v8] ∧ Same H H3 ∧ SrcAt H3 p) ⟨_, _, _, _, _, _, _, rfl, s1.trans s2, hp2⟩ ?_ ?_
    · rintro j σ H3 hj ⟨w1, w3, w4, w5, w6, w7, w8, rfl, s3, hp3⟩
      -- text
      refine ⟨_, rfl, p, rfl, hp3, fun z H4 lz z1 z2 hp4 k4 => ?_⟩
      have s4 := same_kp s3 npH k4
      -- some
      refine ⟨_, rfl, _, rfl, _, rfl, p, z, rfl, hp4, by omega, fun y H5 y1 hp5 k5 => ?_⟩
      have s5 := same_kp s4 npH k5
      refine ⟨_, rfl, _, rfl, _, rfl, p, z, rfl, hp5, by omega, fun y2 H6 y21 hp6 k6 => ?_⟩
      have s6 := same_kp s5 npH k6
      refine ⟨p, y2, rfl, hp6, by omega, fun y3 H7 y31 hp7 k7 => ?_⟩
      have s7 := same_kp s6 npH k7
      have ex : (PySem.Txt.mul "x" 10).length = 10 := by rw [mul_len]; decide +kernel
      refine ⟨_, rfl, _, _, rfl, rfl, mulOk_small (by decide +kernel) (by decide) (by decide), _, _, rfl, rfl, by rw [ex]; omega, ?_⟩
      refine ⟨by show 4 ≤ sizeLine; decide, fun ls hls => ?_⟩
      have s8 := s7.trans (same_upd (o := .lst [V.str z, V.str y, V.str y3, V.str (z ++ PySem.Txt.mul "x" 10)]) hls)
      have hp8 := hp7.kp (same_upd (o := .lst [V.str z, V.str y, V.str y3, V.str (z ++ PySem.Txt.mul "x" 10)]) hls)
      -- odd
      refine ⟨_, rfl, by show 1 ≤ sizeLine; decide, fun l1 hl1 => ?_⟩
      refine ⟨_, rfl, by show 1 ≤ sizeLine; decide, fun t1 ht1 => ?_⟩
      refine ⟨by show 1 ≤ sizeLine; decide, fun l2 hl2 => ?_⟩
      refine ⟨l2, [97], rfl, SqL.of upd_same, .base (.lst upd_same), ?_, by decide, fun H9 s9 => ?_⟩
      · intro n hn
        simp only [List.mem_singleton] at hn
        subst hn
        decide
      refine ⟨by show 13 ≤ sizeLine; decide, fun lo hlo => ?_⟩
      have ea : (PySem.Txt.mul "a" 251).length = 251 := by rw [mul_len]; decide +kernel
      refine ⟨_, rfl, _, _, rfl, rfl, mulOk_small (by decide +kernel) (by decide) (by decide), ?_⟩
      refine ⟨by show 2 ≤ sizeLine; decide, fun l3 hl3 => ?_⟩
      have nlo3 : lo ≠ l3 := ne_of_none upd_same hl3
      refine ⟨lo, l3, _, _, rfl, rfl, by rw [upd_ne nlo3]; exact upd_same, upd_same, by show 13 + 2 ≤ sizeLine; decide, fun lb hlb => ?_⟩
      -- the heap at this place
      generalize hHb : (upd (upd (upd H9 lo _) l3 _) lb _) = Hb
      have sb9 : Same H9 Hb := by
        rw [← hHb]
        exact (same_upd hlo).trans ((same_upd hl3).trans (same_upd hlb))
      have s0a := same_upd (o := .lst [V.str z]) hl1
      have s0b := same_upd (o := .tup [V.str z]) ht1
      have s0c := same_upd (o := .lst [V.int 97]) hl2
      have sA := s0a.trans (s0b.trans (s0c.trans (s9.trans sb9)))
      have hl1b : Hb l1 = some (.lst [V.str z]) := sb9 _ _ (s9 _ _ (s0c _ _ (s0b _ _ upd_same)))
      have ht1b : Hb t1 = some (.tup [V.str z]) := sb9 _ _ (s9 _ _ (s0c _ _ upd_same))
      have hlsb := sA _ _ (upd_same (H := H7) (a := ls) (o := .lst [V.str z, V.str y, V.str y3, V.str (z ++ PySem.Txt.mul "x" 10)]))
      have sHb : Same H Hb := s8.trans sA
      have hpb : SrcAt Hb p := hp8.kp sA
      have hlbb : Hb lb = some (.lst ([V.non, V.int 5, V.bl true, V.ref l1, V.ref t1, V.str "", V.str ".", V.str "..", V.str "...", V.str "a/...", V.str "/", V.str "-", V.byt (byteArr [97])] ++ [V.str (PySem.Txt.mul "a" 251), V.str "~"])) := by
        rw [← hHb]
        exact upd_same
      -- some + [odd[draw(source, 15)]]
      refine ⟨_, rfl, _, rfl, _, rfl, p, 15, rfl, hpb, by decide, by decide, fun d H10 d0 d1 hp10 k10 => ?_⟩
      have s10 := same_kp sHb npH k10
      have nbp : ∀ b o, Hb b = some o → H7 b = none → b ≠ p := by
        intro b o e1 e2
        rintro rfl
        obtain ⟨_, _, _, e3, _⟩ := hp7
        rw [e2] at e3
        cases e3
      have neP : ∀ b, H7 b = none → b ≠ p := by
        rintro b e2 rfl
        obtain ⟨_, _, _, e3, _⟩ := hp7
        rw [e2] at e3
        cases e3
      have nP8 : ∀ {b : Addr} {Hx : Hp}, SrcAt Hx p → Hx b = none → b ≠ p := by
        rintro b Hx ⟨_, _, _, e3, _⟩ e2 rfl
        rw [e2] at e3
        cases e3
      have np1 : l1 ≠ p := nP8 hp8 hl1
      have np2 : t1 ≠ p := nP8 (hp8.kp s0a) ht1
      have nps : ls ≠ p := nP8 hp7 hls
      have npb : lb ≠ p := nP8 (((hp8.kp (s0a.trans (s0b.trans (s0c.trans s9)))).kp (same_upd hlo)).kp (same_upd hl3)) hlb
      obtain ⟨v, hv, hvm⟩ := at_in (xs := [V.non, V.int 5, V.bl true, V.ref l1, V.ref t1, V.str "", V.str ".", V.str "..", V.str "...", V.str "a/...", V.str "/", V.str "-", V.byt (byteArr [97])] ++ [V.str (PySem.Txt.mul "a" 251), V.str "~"]) d0 d1
      refine ⟨lb, _, d, v, rfl, rfl, SqL.of (k10 _ _ hlbb npb), hv, ?_⟩
      refine ⟨by show 1 ≤ sizeLine; decide, fun l4 hl4 => ?_⟩
      have hls10 := k10 _ _ hlsb nps
      have nls4 : ls ≠ l4 := ne_of_none hls10 hl4
      refine ⟨ls, l4, _, _, rfl, rfl, by rw [upd_ne nls4]; exact hls10, upd_same, by show 4 + 1 ≤ sizeLine; decide, fun lf hlf => ?_⟩
      refine ⟨lf, rfl, ⟨_, SqL.of upd_same⟩, ?_⟩
      generalize hHf : (upd (upd H10 l4 _) lf _) = Hf
      have sf : Same H10 Hf := by
        rw [← hHf]
        exact (same_upd hl4).trans (same_upd hlf)
      have hlff : Hf lf = some (.lst ([V.str z, V.str y, V.str y3, V.str (z ++ PySem.Txt.mul "x" 10)] ++ [v])) := by
        rw [← hHf]
        exact upd_same
      have hl1f := sf _ _ (k10 _ _ hl1b np1)
      have ht1f := sf _ _ (k10 _ _ ht1b np2)
      have gvs : ∀ x ∈ [V.str z, V.str y, V.str y3, V.str (z ++ PySem.Txt.mul "x" 10)] ++ [v], ∃ o, Gv K Hf x o := by
        intro x hx
        simp only [List.cons_append, List.nil_append, List.mem_cons, List.not_mem_nil, or_false] at hx
        rcases hx with rfl | rfl | rfl | rfl | rfl
        · exact ⟨_, .str _ (by omega)⟩
        · exact ⟨_, .str _ (by omega)⟩
        · exact ⟨_, .str _ (by omega)⟩
        · exact ⟨_, .str _ (by rw [app_len, ex]; omega)⟩
        · simp only [List.cons_append, List.nil_append, List.mem_cons, List.not_mem_nil, or_false] at hvm
          rcases hvm with rfl | rfl | rfl | rfl | rfl | rfl | rfl | rfl | rfl | rfl | rfl | rfl | rfl | rfl | rfl
          · exact ⟨_, .oth (.base .non) (kit_ty (by decide +kernel))⟩
          · exact ⟨_, .oth (.base (.int _)) (kit_ty (by decide +kernel))⟩
          · exact ⟨_, .oth (.base (.bl _)) (kit_ty (by decide +kernel))⟩
          · exact ⟨_, .oth (.base (.lst hl1f)) (kit_ty (by decide +kernel))⟩
          · exact ⟨_, .oth (.base (.tup ht1f)) (kit_ty (by decide +kernel))⟩
          · exact ⟨_, .str _ (by decide +kernel)⟩
          · exact ⟨_, .str _ (by decide +kernel)⟩
          · exact ⟨_, .str _ (by decide +kernel)⟩
          · exact ⟨_, .str _ (by decide +kernel)⟩
          · exact ⟨_, .str _ (by decide +kernel)⟩
          · exact ⟨_, .str _ (by decide +kernel)⟩
          · exact ⟨_, .str _ (by decide +kernel)⟩
          · exact ⟨_, .oth (.byt _) (kit_ty (by decide +kernel))⟩
          · exact ⟨_, .str _ (by rw [ea]; decide)⟩
          · exact ⟨_, .str _ (by decide +kernel)⟩
      refine for_list (K := K) (a := lf) (xs := [V.str z, V.str y, V.str y3, V.str (z ++ PySem.Txt.mul "x" 10)] ++ [v])
        (fun i σ H11 => ∃ w1 w3 w4 w5 w6 w7 w8 : Option V, σ = [some (.ref a), w1, some (.ref p), w3, w4, w5, w6, w7, w8] ∧ Same Hf H11) ⟨_, _, _, _, _, _, _, rfl, Same.refl _⟩ ?_ ?_ ?_
      · rintro i σ H11 _ ⟨_, _, _, _, _, _, _, _, s11⟩
        exact SqL.of (s11 _ _ hlff)
      · rintro i x σ H11 hx ⟨x1, x3, x4, x5, x6, x7, x8, rfl, s11⟩
        obtain ⟨o, gv0⟩ := gvs x (List.mem_of_getElem? hx)
        have gv := gv0.same s11
        -- told = [is_name(given), is_name(thing=given)]
        refine ⟨_, rfl, x, o, rfl, gv, fun H12 s12 => ⟨_, rfl, rfl, x, o, rfl, gv.same s12, fun H13 s13 => ⟨by show 2 ≤ sizeLine; decide, fun m1 hm1 => ?_⟩⟩⟩
        have s14 := same_upd (o := .lst [V.bl (byO isNm o), V.bl (byO isNm o)]) hm1
        refine ⟨_, rfl, m1, _, rfl, two_dp upd_same, rfl, rfl, two_deep _, two_shown _, ?_⟩
        refine ⟨_, rfl, x, o, rfl, gv.same (s12.trans (s13.trans s14)), fun H15 s15 => ⟨by show 1 ≤ sizeLine; decide, fun m2 hm2 => ?_⟩⟩
        refine ⟨m2, 2, _, rfl, rfl, upd_same, by decide, by decide, by show 1 * 2 ≤ sizeLine; decide, fun m3 hm3 => ?_⟩
        refine ⟨m3, _, rfl, two_dp (b := byO isNm o) upd_same, rfl, rfl, two_deep _, two_shown _, ?_⟩
        refine ⟨rfl, _, rfl, iteNS rfl ?_⟩
        have s16 : Same H11 (upd (upd H15 m2 (.lst [V.bl (byO isNm o)])) m3 (.lst (List.replicate (2 : Int).toNat [V.bl (byO isNm o)]).flatten)) :=
          s12.trans (s13.trans (s14.trans (s15.trans ((same_upd hm2).trans (same_upd hm3)))))
        generalize (upd (upd H15 m2 (.lst [V.bl (byO isNm o)])) m3 (.lst (List.replicate (2 : Int).toNat [V.bl (byO isNm o)]).flatten)) = H16 at s16 ⊢
        have gv2 := gv.same s16
        refine ⟨_, rfl, x, o, rfl, gv2, fun H17 s17 => ⟨_, rfl, rfl, x, o, rfl, gv2.same s17, fun H18 s18 => ⟨by show 2 ≤ sizeLine; decide, fun m4 hm4 => ?_⟩⟩⟩
        have s19 := same_upd (o := .lst [V.bl (byO isPt o), V.bl (byO isPt o)]) hm4
        refine ⟨_, rfl, m4, _, rfl, two_dp upd_same, rfl, rfl, two_deep _, two_shown _, ?_⟩
        refine ⟨_, rfl, x, o, rfl, gv2.same (s17.trans (s18.trans s19)), fun H20 s20 => ⟨by show 1 ≤ sizeLine; decide, fun m5 hm5 => ?_⟩⟩
        refine ⟨m5, 2, _, rfl, rfl, upd_same, by decide, by decide, by show 1 * 2 ≤ sizeLine; decide, fun m6 hm6 => ?_⟩
        refine ⟨m6, _, rfl, two_dp (b := byO isPt o) upd_same, rfl, rfl, two_deep _, two_shown _, ?_⟩
        refine ⟨rfl, _, rfl, iteNS rfl ?_⟩
        refine ⟨_, _, _, _, _, _, _, rfl, ?_⟩
        exact s11.trans (s16.trans (s17.trans (s18.trans (s19.trans (s20.trans ((same_upd hm5).trans (same_upd hm6)))))))
      · rintro σ H11 ⟨x1, x3, x4, x5, x6, x7, x8, rfl, s11⟩
        exact ⟨_, _, _, _, _, _, _, rfl, s10.trans (sf.trans s11), (hp10.kp sf).kp s11⟩
    · rintro σ H3 ⟨w1, w3, w4, w5, w6, w7, w8, rfl, s3, hp3⟩
      exact ⟨_, _, _, _, _, _, _, _, rfl, s3⟩
end
end K3

namespace K3
open PySem PySem.Spec PyProof.Rows L2 Tar
theorem all_mk {l : PySem.W.OpenLaw} {w : World} {K : PySem.W.Frag} {h : Heap} {mg : Str → Option Value} {fa : Addr} (X : K.In h) (G : h.Ns mainGlobals mg) (hfa : mg "law" = some (.ref fa))
    {f0 : Addr} {od0 an0 : Option Addr} {sl0 : Array (Option Value)} {oc0 kV0 dc0 pm0 cd0 ct0 : Value}
    {f1 : Addr} {od1 an1 : Option Addr} {sl1 : Array (Option Value)} {oc1 kV1 dc1 pm1 cd1 ct1 : Value}
    {f2 : Addr} {od2 an2 : Option Addr} {sl2 : Array (Option Value)} {oc2 kV2 dc2 pm2 cd2 ct2 : Value}
    {f3 : Addr} {od3 an3 : Option Addr} {sl3 : Array (Option Value)} {oc3 kV3 dc3 pm3 cd3 ct3 : Value}
    {f4 : Addr} {od4 an4 : Option Addr} {sl4 : Array (Option Value)} {oc4 kV4 dc4 pm4 cd4 ct4 : Value}
    {f5 : Addr} {od5 an5 : Option Addr} {sl5 : Array (Option Value)} {oc5 kV5 dc5 pm5 cd5 ct5 : Value}
    {f6 : Addr} {od6 an6 : Option Addr} {sl6 : Array (Option Value)} {oc6 kV6 dc6 pm6 cd6 ct6 : Value}
    {f7 : Addr} {od7 an7 : Option Addr} {sl7 : Array (Option Value)} {oc7 kV7 dc7 pm7 cd7 ct7 : Value}
    {f8 : Addr} {od8 an8 : Option Addr} {sl8 : Array (Option Value)} {oc8 kV8 dc8 pm8 cd8 ct8 : Value}
    {f9 : Addr} {od9 an9 : Option Addr} {sl9 : Array (Option Value)} {oc9 kV9 dc9 pm9 cd9 ct9 : Value}
    {f10 : Addr} {od10 an10 : Option Addr} {sl10 : Array (Option Value)} {oc10 kV10 dc10 pm10 cd10 ct10 : Value}
    {f11 : Addr} {od11 an11 : Option Addr} {sl11 : Array (Option Value)} {oc11 kV11 dc11 pm11 cd11 ct11 : Value}
    {f12 : Addr} {od12 an12 : Option Addr} {sl12 : Array (Option Value)} {oc12 kV12 dc12 pm12 cd12 ct12 : Value}
    {tk0 : Tok}
    {tk1 : Tok}
    (a0 : PySem.W.nsIn K mainGlobals "is_integer" = some (some (.ref f0)))
    (l0 : K.lookup f0 = some ⟨oc0, od0, .func (PySem.W.fnOf "is_integer" "is_integer" (defArgs s_is_integer) (defBody s_is_integer) (defScope s_is_integer) .none kV0 dc0 pm0 an0 cd0 ct0), sl0⟩)
    (c0 : PySem.W.codeIn K cd0 "is_integer" = true)
    (k0 : PySem.W.keepIn K (.ref f0) = true)
    (a1 : PySem.W.nsIn K mainGlobals "is_within" = some (some (.ref f1)))
    (l1 : K.lookup f1 = some ⟨oc1, od1, .func (PySem.W.fnOf "is_within" "is_within" (defArgs s_is_within) (defBody s_is_within) (defScope s_is_within) .none kV1 dc1 pm1 an1 cd1 ct1), sl1⟩)
    (c1 : PySem.W.codeIn K cd1 "is_within" = true)
    (k1 : PySem.W.keepIn K (.ref f1) = true)
    (a2 : PySem.W.nsIn K mainGlobals "blob" = some (some (.ref f2)))
    (l2 : K.lookup f2 = some ⟨oc2, od2, .func (PySem.W.fnOf "blob" "blob" (defArgs s_blob) (defBody s_blob) (defScope s_blob) .none kV2 dc2 pm2 an2 cd2 ct2), sl2⟩)
    (c2 : PySem.W.codeIn K cd2 "blob" = true)
    (k2 : PySem.W.keepIn K (.ref f2) = true)
    (a3 : PySem.W.nsIn K mainGlobals "is_name" = some (some (.ref f3)))
    (l3 : K.lookup f3 = some ⟨oc3, od3, .func (PySem.W.fnOf "is_name" "is_name" (defArgs s_is_name) (defBody s_is_name) (defScope s_is_name) .none kV3 dc3 pm3 an3 cd3 ct3), sl3⟩)
    (c3 : PySem.W.codeIn K cd3 "is_name" = true)
    (k3 : PySem.W.keepIn K (.ref f3) = true)
    (a4 : PySem.W.nsIn K mainGlobals "is_path" = some (some (.ref f4)))
    (l4 : K.lookup f4 = some ⟨oc4, od4, .func (PySem.W.fnOf "is_path" "is_path" (defArgs s_is_path) (defBody s_is_path) (defScope s_is_path) .none kV4 dc4 pm4 an4 cd4 ct4), sl4⟩)
    (c4 : PySem.W.codeIn K cd4 "is_path" = true)
    (k4 : PySem.W.keepIn K (.ref f4) = true)
    (a5 : PySem.W.nsIn K mainGlobals "_law_source" = some (some (.ref f5)))
    (l5 : K.lookup f5 = some ⟨oc5, od5, .func (PySem.W.fnOf "_law_source" "_law_source" (defArgs s_l_source) (defBody s_l_source) (defScope s_l_source) .none kV5 dc5 pm5 an5 cd5 ct5), sl5⟩)
    (c5 : PySem.W.codeIn K cd5 "_law_source" = true)
    (k5 : PySem.W.keepIn K (.ref f5) = true)
    (a6 : PySem.W.nsIn K mainGlobals "_law_draw" = some (some (.ref f6)))
    (l6 : K.lookup f6 = some ⟨oc6, od6, .func (PySem.W.fnOf "_law_draw" "_law_draw" (defArgs s_l_draw) (defBody s_l_draw) (defScope s_l_draw) .none kV6 dc6 pm6 an6 cd6 ct6), sl6⟩)
    (c6 : PySem.W.codeIn K cd6 "_law_draw" = true)
    (k6 : PySem.W.keepIn K (.ref f6) = true)
    (a7 : PySem.W.nsIn K mainGlobals "_law_random_name" = some (some (.ref f7)))
    (l7 : K.lookup f7 = some ⟨oc7, od7, .func (PySem.W.fnOf "_law_random_name" "_law_random_name" (defArgs s_l_random_name) (defBody s_l_random_name) (defScope s_l_random_name) .none kV7 dc7 pm7 an7 cd7 ct7), sl7⟩)
    (c7 : PySem.W.codeIn K cd7 "_law_random_name" = true)
    (k7 : PySem.W.keepIn K (.ref f7) = true)
    (a8 : PySem.W.nsIn K mainGlobals "_law_any_name" = some (some (.ref f8)))
    (l8 : K.lookup f8 = some ⟨oc8, od8, .func (PySem.W.fnOf "_law_any_name" "_law_any_name" (defArgs s_l_any_name) (defBody s_l_any_name) (defScope s_l_any_name) .none kV8 dc8 pm8 an8 cd8 ct8), sl8⟩)
    (c8 : PySem.W.codeIn K cd8 "_law_any_name" = true)
    (k8 : PySem.W.keepIn K (.ref f8) = true)
    (a9 : PySem.W.nsIn K mainGlobals "_law_is_name" = some (some (.ref f9)))
    (l9 : K.lookup f9 = some ⟨oc9, od9, .func (PySem.W.fnOf "_law_is_name" "_law_is_name" (defArgs s_l_is_name) (defBody s_l_is_name) (defScope s_l_is_name) .none kV9 dc9 pm9 an9 cd9 ct9), sl9⟩)
    (c9 : PySem.W.codeIn K cd9 "_law_is_name" = true)
    (k9 : PySem.W.keepIn K (.ref f9) = true)
    (a10 : PySem.W.nsIn K mainGlobals "_law_is_path" = some (some (.ref f10)))
    (l10 : K.lookup f10 = some ⟨oc10, od10, .func (PySem.W.fnOf "_law_is_path" "_law_is_path" (defArgs s_l_is_path) (defBody s_l_is_path) (defScope s_l_is_path) .none kV10 dc10 pm10 an10 cd10 ct10), sl10⟩)
    (c10 : PySem.W.codeIn K cd10 "_law_is_path" = true)
    (k10 : PySem.W.keepIn K (.ref f10) = true)
    (a11 : PySem.W.nsIn K mainGlobals "_law_bent" = some (some (.ref f11)))
    (l11 : K.lookup f11 = some ⟨oc11, od11, .func (PySem.W.fnOf "_law_bent" "_law_bent" (defArgs s_l_bent) (defBody s_l_bent) (defScope s_l_bent) .none kV11 dc11 pm11 an11 cd11 ct11), sl11⟩)
    (c11 : PySem.W.codeIn K cd11 "_law_bent" = true)
    (k11 : PySem.W.keepIn K (.ref f11) = true)
    (a12 : PySem.W.nsIn K mainGlobals "law" = some (some (.ref f12)))
    (l12 : K.lookup f12 = some ⟨oc12, od12, .func (PySem.W.fnOf "law" "law" (defArgs s_law) (defBody s_law) (defScope s_law) .none kV12 dc12 pm12 an12 cd12 ct12), sl12⟩)
    (c12 : PySem.W.codeIn K cd12 "law" = true)
    (k12 : PySem.W.keepIn K (.ref f12) = true)
    (z0 : PySem.W.nsIn K mainGlobals "isinstance" = some none)
    (z1 : PySem.W.nsIn K mainGlobals "int" = some none)
    (z2 : PySem.W.nsIn K mainGlobals "bool" = some none)
    (z3 : PySem.W.nsIn K mainGlobals "bytes" = some none)
    (z4 : PySem.W.nsIn K mainGlobals "all" = some none)
    (z5 : PySem.W.nsIn K mainGlobals "list" = some none)
    (z6 : PySem.W.nsIn K mainGlobals "tuple" = some none)
    (z7 : PySem.W.nsIn K mainGlobals "str" = some none)
    (z8 : PySem.W.nsIn K mainGlobals "len" = some none)
    (z9 : PySem.W.nsIn K mainGlobals "any" = some none)
    (z10 : PySem.W.nsIn K mainGlobals "range" = some none)
    (z11 : PySem.W.nsIn K mainGlobals "min" = some none)
    (z12 : PySem.W.nsIn K mainGlobals "abs" = some none)
    (z13 : PySem.W.nsIn K mainGlobals "max" = some none)
    (z14 : PySem.W.nsIn K mainGlobals "repr" = some none)
    (cst0 : PySem.W.nsIn K mainGlobals "LETTERS" = some (some (.str letters tk0)))
    (cst1 : PySem.W.nsIn K mainGlobals "MOST_NAME" = some (some (.int 250 tk1))) :
    ∃ fd : FuncData, (∀ (s : Shared) (v : Value), BindsTo s fd ⟨[v], []⟩ [("_law_script", v)]) ∧ ∀ base : Heap, K.In base → base.Ns mainGlobals mg → FnG l.prog w K mg base CX0 11 fa fd ["_law_script"] (spLaw K) := by
  have e := hfa.symm.trans (PySem.W.mg_of X G a12)
  cases e
  have T : Txt mg := ⟨PySem.W.mg_none_of X G z0, PySem.W.mg_none_of X G z1, PySem.W.mg_none_of X G z2, PySem.W.mg_none_of X G z3, PySem.W.mg_none_of X G z4, PySem.W.mg_none_of X G z5, PySem.W.mg_none_of X G z6, PySem.W.mg_none_of X G z7, PySem.W.mg_none_of X G z8, PySem.W.mg_none_of X G z9, PySem.W.mg_none_of X G z10, PySem.W.mg_none_of X G z11, PySem.W.mg_none_of X G z12, PySem.W.mg_none_of X G z13, PySem.W.mg_none_of X G z14, ⟨_, PySem.W.mg_of X G cst0, ⟨_, rfl⟩⟩, ⟨_, PySem.W.mg_of X G cst1, ⟨_, rfl⟩⟩⟩
  have D_is_integer : Def K mg "is_integer" s_is_integer := def_mk X G a0 l0 c0 k0
  have D_is_within : Def K mg "is_within" s_is_within := def_mk X G a1 l1 c1 k1
  have D_blob : Def K mg "blob" s_blob := def_mk X G a2 l2 c2 k2
  have D_is_name : Def K mg "is_name" s_is_name := def_mk X G a3 l3 c3 k3
  have D_is_path : Def K mg "is_path" s_is_path := def_mk X G a4 l4 c4 k4
  have D_l_source : Def K mg "_law_source" s_l_source := def_mk X G a5 l5 c5 k5
  have D_l_draw : Def K mg "_law_draw" s_l_draw := def_mk X G a6 l6 c6 k6
  have D_l_random_name : Def K mg "_law_random_name" s_l_random_name := def_mk X G a7 l7 c7 k7
  have D_l_any_name : Def K mg "_law_any_name" s_l_any_name := def_mk X G a8 l8 c8 k8
  have D_l_is_name : Def K mg "_law_is_name" s_l_is_name := def_mk X G a9 l9 c9 k9
  have D_l_is_path : Def K mg "_law_is_path" s_l_is_path := def_mk X G a10 l10 c10 k10
  have D_l_bent : Def K mg "_law_bent" s_l_bent := def_mk X G a11 l11 c11 k11
  have FL := fun_mk (st := s_law) l12 c12 k12
  refine ⟨PySem.W.fnOf "law" "law" (defArgs s_law) (defBody s_law) (defScope s_law) .none kV12 dc12 pm12 an12 cd12 ct12, fun s v => .of_eq rfl, fun base _ _ => ?_⟩
  have c1 := c_is_name (P := l.prog) (w := w) (base := base) D_is_name T
  have c2 := c_is_path c1 D_is_path T
  have c3 := c_l_is_name (P := l.prog) (w := w) (base := base) D_l_is_name T
  have c4 := c_l_is_path c3 D_l_is_path T
  have c5 := c_is_integer (P := l.prog) (w := w) (base := base) D_is_integer T
  have c6 := c_is_within c5 D_is_within T
  have c7 := c_blob c6 D_blob T
  have c8 := c_l_draw (P := l.prog) (w := w) (base := base) D_l_draw T
  have c9 := c_l_source (P := l.prog) (w := w) (base := base) D_l_source T
  have c10 := c_l_random_name c8 D_l_random_name T
  have c11 := c_l_any_name c8 c10 D_l_any_name T
  have c12 := c_l_bent c8 D_l_bent T
  exact ok_law FL T c9 c8 c11 c12 c7 c1 (c1.kw1 fun _ _ _ _ _ _ _ => rfl) c2 (c2.kw1 fun _ _ _ _ _ _ _ => rfl) c3 c4
end K3
open PySem PySem.W PyProof.Rows
set_option maxRecDepth 100000 in
set_option maxHeartbeats 0 in
theorem PySem.Challenge.cw_tarhouse_k03_names_and_paths_holds : PySem.Challenge.rw_tarhouse_k03_names_and_paths.Holds := by
  w_on; o_law; k_head; (case hw => w_witness2)
  k_fill
  refine Tar.walkG (l := PySem.Challenge.rw_tarhouse_k03_names_and_paths) (n := 63) (k := 11) (x := "_law_script") (sp := K3.spLaw) rfl (by decide) rfl ⟨rfl, by decide, by decide⟩ (fun w h Y => PySem.W.kIn_of Y) ?F (fun _ _ a ns hl _ hS => ⟨a, ns, rfl, hS, hl, fun _ => rfl⟩)
  case F =>
    intro w mg fa h KX G hmg
    refine' K3.all_mk KX G hmg ?a0 ?l0 ?c0 ?k0 ?a1 ?l1 ?c1 ?k1 ?a2 ?l2 ?c2 ?k2 ?a3 ?l3 ?c3 ?k3 ?a4 ?l4 ?c4 ?k4 ?a5 ?l5 ?c5 ?k5 ?a6 ?l6 ?c6 ?k6 ?a7 ?l7 ?c7 ?k7 ?a8 ?l8 ?c8 ?k8 ?a9 ?l9 ?c9 ?k9 ?a10 ?l10 ?c10 ?k10 ?a11 ?l11 ?c11 ?k11 ?a12 ?l12 ?c12 ?k12 ?z0 ?z1 ?z2 ?z3 ?z4 ?z5 ?z6 ?z7 ?z8 ?z9 ?z10 ?z11 ?z12 ?z13 ?z14 ?cst0 ?cst1
    (case a0 => k_is)
    (case l0 => k_is)
    (case c0 => k_is)
    (case k0 => k_is)
    (case a1 => k_is)
    (case l1 => k_is)
    (case c1 => k_is)
    (case k1 => k_is)
    (case a2 => k_is)
    (case l2 => k_is)
    (case c2 => k_is)
    (case k2 => k_is)
    (case a3 => k_is)
    (case l3 => k_is)
    (case c3 => k_is)
    (case k3 => k_is)
    (case a4 => k_is)
    (case l4 => k_is)
    (case c4 => k_is)
    (case k4 => k_is)
    (case a5 => k_is)
    (case l5 => k_is)
    (case c5 => k_is)
    (case k5 => k_is)
    (case a6 => k_is)
    (case l6 => k_is)
    (case c6 => k_is)
    (case k6 => k_is)
    (case a7 => k_is)
    (case l7 => k_is)
    (case c7 => k_is)
    (case k7 => k_is)
    (case a8 => k_is)
    (case l8 => k_is)
    (case c8 => k_is)
    (case k8 => k_is)
    (case a9 => k_is)
    (case l9 => k_is)
    (case c9 => k_is)
    (case k9 => k_is)
    (case a10 => k_is)
    (case l10 => k_is)
    (case c10 => k_is)
    (case k10 => k_is)
    (case a11 => k_is)
    (case l11 => k_is)
    (case c11 => k_is)
    (case k11 => k_is)
    (case a12 => k_is)
    (case l12 => k_is)
    (case c12 => k_is)
    (case k12 => k_is)
    (case z0 => k_is)
    (case z1 => k_is)
    (case z2 => k_is)
    (case z3 => k_is)
    (case z4 => k_is)
    (case z5 => k_is)
    (case z6 => k_is)
    (case z7 => k_is)
    (case z8 => k_is)
    (case z9 => k_is)
    (case z10 => k_is)
    (case z11 => k_is)
    (case z12 => k_is)
    (case z13 => k_is)
    (case z14 => k_is)
    (case cst0 => k_is)
    (case cst1 => k_is)
