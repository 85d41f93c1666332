import PyProof.Rows.All
import PySem.Challenge.RW_wordplays_k12_past_formulas
import HandS.ForMost
import HandS.ForExc
import HandS.Small
import HandS.TryMany
import HandS.ExcInit
import HandS.ExcField
import HandS.ExcOwn
import HandS.TupMul
import HandS.Flow
import HandS.TupAny
import HandS.Deep
import HandS.IsInst
import HandS.Style
import HandS.TryOnly
import PyProof.Rows.InDataRows
import HandS.SetBool
import PyProof.DictMoreH
import HandS.TupLen
import PyProof.ReprRoads
import HandS.SetKeys
import HandS.DictComp
import HandS.HeadHook1
set_option Elab.async false
set_option linter.all false
set_option maxRecDepth 100000
set_option maxHeartbeats 8000000
/-! Mi, part Z: errors, at the hand layer: X() without arguments; except clauses with and without names. -/
namespace Mi
open PySem PySem.Spec PyProof.Rows L2
section
variable {X : Cx}
/-- X(), X an own exception class without own __init__ -/
theorem pmk_own0 {C : Addr} {bmB : List Value} {B newId initId : String} {x : Str} {p pos : Pos} (F : ExcBaseFacts B newId initId bmB) (q : PySem.W.excIn X.K C bmB newId = true) (gC : X.mg x = some (.ref C))
    (kC : PySem.W.keepIn X.K (.ref C) = true) (r : Raises X (.ref C)) (hg : Gl X x) (hdb : (x == ("__debug__" : Str)) = false) :
    PMk X (.Call (.Name x p) [] [] pos) (fun _ H Q => Q (.ref C) none H) := by
  intro pins s σ H Q I h
  refine wpAny_Call_Name_kw (ld_glob I hg gC ?_ hdb)
  refine PySem.W.callWith_K0 I.kIn kC ?_
  show wpAny _ _ (call (.ref C) []) _ _ _
  obtain ⟨bm, N, nm, qn, bs, hdct, sn, sub, ab, col, dd, k0, k1, k2, k3, k5, mN, hC, hN, hni, T⟩ := exc_obj I.kIn q
  refine wpAny_call_exc_subT F T hC hN hni (fun h' e hm => ?_) (Nat.zero_le _)
  exact mk_of I hm r h (I.hok.gone hm.new)
/-- what the clauses wish of an exception of the body, one after the other; a clause may name it (slot i) -/
def wMix (K : PySem.W.Frag) (Wout : WX) (D : Ends) : List (Value × Option Nat × (Addr → Value → Option Addr → TS)) → WX
  | [] => Wout
  | (c, none, ts) :: r => fun cls d σ H => ∃ b, PySem.W.exmOne K cls c = some b ∧ (b = true → ∀ a, H a = none → ts a cls d D σ H) ∧ (b = false → wMix K Wout D r cls d σ H)
  | (c, some i, ts) :: r => fun cls d σ H => ∃ b, PySem.W.exmOne K cls c = some b ∧ (b = true → ∀ a, H a = none → ts a cls d { nx := fun σ' H' => D.nx (σ'.set i none) H', rt := D.rt, bk := fun σ' H' => D.bk (σ'.set i none) H', ct := fun σ' H' => D.ct (σ'.set i none) H' } (σ.set i (some (.ref a))) H) ∧ (b = false → wMix K Wout D r cls d σ H)
inductive HdsM (X : Cx) : List ExceptHandler → List (Value × Option Nat × (Addr → Value → Option Addr → TS)) → Prop
  | nil : HdsM X [] []
  | one {x : Str} {c : Value} {ts : Addr → Value → Option Addr → TS} {b₀ : Stmt} {suite : List Stmt} {np pos' : Pos} {hds : List ExceptHandler} {l : List (Value × Option Nat × (Addr → Value → Option Addr → TS))} (hc : Names X x c)
      (hsu : ∀ (a : Addr) (oe : Obj) (cls : Value) (d : Option Addr) (pn : List (Addr × Obj)), Zc cls d oe → (∃ vs, oe.data = .fields vs) → PSs (X.suite a ((a, oe) :: pn)) (b₀ :: suite) (ts a cls d)) (r : HdsM X hds l) :
      HdsM X (.ExceptHandler (some (.Name x np)) none (b₀ :: suite) pos' :: hds) ((c, none, ts) :: l)
  | nam {x n : Str} {i : Nat} {c : Value} {ts : Addr → Value → Option Addr → TS} {b₀ : Stmt} {suite : List Stmt} {np pos' : Pos} {hds : List ExceptHandler} {l : List (Value × Option Nat × (Addr → Value → Option Addr → TS))} (hc : Names X x c) (hi : X.N[i]? = some n) (hln : X.env.kindOf n = some .local)
      (hsu : ∀ (a : Addr) (oe : Obj) (cls : Value) (d : Option Addr) (pn : List (Addr × Obj)), Zc cls d oe → (∃ vs, oe.data = .fields vs) → PSs (X.suite a ((a, oe) :: pn)) (b₀ :: suite) (ts a cls d)) (r : HdsM X hds l) :
      HdsM X (.ExceptHandler (some (.Name x np)) (some n) (b₀ :: suite) pos' :: hds) ((c, some i, ts) :: l)
end
section
variable {X : Cx} {body : List Stmt} {h₀ : ExceptHandler} {hds : List ExceptHandler} {l : List (Value × Option Nat × (Addr → Value → Option Addr → TS))} {pos : Pos} {tb : WX → TS} {Wout : WX}
theorem ps_try_mix (hs : X.stack = X.env :: X.outer) (hf : X.env.frame = some X.env.locals) (hN : X.N.Nodup) (tk : Takes X Wout)
    (hb : ∀ (W : WX) (pn : List (Addr × Obj)) (xe : Value → Shared → Prop), Takes (X.tr pn xe) W → PassesOwn (model X.prog X.w) X.A X.env xe → PSs (X.tr pn xe) body (tb W))
    (hh : HdsM X (h₀ :: hds) l) : PS X (.Try body (h₀ :: hds) [] [] pos) (fun D σ H => tb (wMix X.K Wout D l) D σ H) := by
  refine ⟨fun pins s σ H D I h => ?_⟩
  have ok := I.ok
  have hfr : X.A.frames = some (X.env :: X.outer) := by rw [ok.frames, hs]
  refine wpAny_Try_except ?_
  refine wpAny_mono ((hb (wMix X.K Wout D l) (X.pn ++ pins) (fun e s₁ => wpAny (model X.prog X.w) X.A (noteFrame e X.env) (fun _ s₂ => wpAny (model X.prog X.w) X.A (setFlight e none) (fun _ s₃ =>
    wpAny (model X.prog X.w) X.A (handleBy e X.env (h₀ :: hds)) (SP X pins D) X.xe s₃) X.xe s₂) X.xe s₁) (fun u s' xx => ?_) PassesOwn.looking).run [] s σ H D (I.toTry _) h) (fun f s1 hsp => ?_) (fun e s1 he => he)
  · -- the catch
    obtain ⟨a, B, sI, pins', σ', H', cls, d, rfl, J', nb, up, sky, na, os, ag, w⟩ := xx
    have J : Inv X pins σ' H' sI := J'.ofTry ok
    have sky' : Sky B (X.env :: X.outer) a (Zc cls d) X.env.locals s'.heap := by rw [← hs]; exact sky
    show wpAny (model X.prog X.w) X.A (noteFrame (.ref a) X.env) _ _ _
    refine Sky.land Zc.steady hfr hf sky' fun h3 fl3 up3 => ?_
    have J3 : Inv X pins σ' H' { s' with heap := h3 } := J.landed nb fl3.1 (up.trans up3) os ag
    obtain ⟨oe3, vs3, he3, hz3, hd3⟩ := fl3.there
    have notFr : ∀ {h : Heap} {o : Obj} {vs : Array Value}, h.FunFrames B (X.env :: X.outer) → h.get? a = some o → o.data = .fields vs → a ∉ frs (X.env :: X.outer) := fun {h o vs} ff e dd hm => by
      obtain ⟨_, o', e', hnf⟩ := ff.mem hm
      rw [e] at e'; cases e'
      exact hnf _ dd
    have nfr := notFr fl3.2.2.1 he3 hd3
    have nL : a ≠ X.env.locals := fun z => nfr (List.mem_filterMap.mpr ⟨X.env, List.mem_cons_self, by rw [hf, z]⟩)
    have nF : a ∉ X.fs := fun hm => by
      obtain ⟨e, he, q⟩ := List.mem_filterMap.mp hm
      exact nfr (List.mem_filterMap.mpr ⟨e, List.mem_cons_of_mem _ he, q⟩)
    have S3 := J3.suite he3 hd3 na nL nF
    have go : ∀ {hds' : List ExceptHandler} {l' : List (Value × Option Nat × (Addr → Value → Option Addr → TS))}, HdsM X hds' l' → wMix X.K Wout D l' cls d σ' H' →
        wpAny (model X.prog X.w) X.A (handleBy (.ref a) X.env hds') (SP X pins D) X.xe { s' with heap := h3 } := by
      intro hds' l' hk
      induction hk with
      | nil =>
        intro w
        refine wpAny_handleBy_nil ?_
        obtain ⟨k1, k2, k3, oe, vs, T, oT, ts', he, hz, hd, h1, hr⟩ := id fl3
        unfold PySem.passOn
        refine wpAny_bind (wpAny_field he hd h1 ?_)
        rw [if_neg (show ¬ ((Value.ref T == Value.none) = true) from by simp)]
        have fin : wpAny (model X.prog X.w) X.A (setFlight (.ref a) X.env.frame) (fun _ s4 => wpAny (model X.prog X.w) X.A (throw (.ref a) : Sem Flow) (SP X pins D) X.xe s4) X.xe { s' with heap := h3 } := by
          rw [hf]
          refine HandSPX.setFlight_upZ fl3 fun h4 hh4 up4 => wpAny_throw (tk _ _ ?_)
          exact ⟨a, B, sI, pins, σ', H', cls, d, rfl, J, nb, (up.trans up3).trans up4, .inr (.inr (by rw [hs]; exact hh4)), na, os, ag, w⟩
        first
          | exact wpAny_bind (wpAny_pure (wpAny_bind fin))
          | exact wpAny_bind fin
      | @one x c ts b₀ suite np pos' hds2 l2 hc hsu r ih =>
        intro w
        obtain ⟨b, hb1, hyes, hno⟩ := w
        refine wpAny_handleBy_cons (codeAny_handlers_test ?_) (by intro q; cases q)
        have LT : PySem.W.Looks (model X.prog X.w) h3 (typeOf (.ref a)) cls := fun A Q E s k q => wpAny_typeOf_ref (k _ _ he3) (by rw [hz3.1]; exact q)
        have LM := PySem.W.exm_one (M := model X.prog X.w) (J3.kIn) LT hb1
        have test : ∀ {Q : Value → Shared → Prop} {E : Value → Shared → Prop}, Q c { s' with heap := h3 } → wpAny (model X.prog X.w) (X.A.mark (some (.ref a))) (eval (.Name x np) X.env) Q E { s' with heap := h3 } := fun {Q E} q => by
          obtain ⟨hg, hdbg, hm | ⟨hm, hv, hnn⟩⟩ := hc
          · exact ld_glob (X := X.suite a ((a, oe3) :: (X.pn ++ pins))) S3 hg hm q hdbg
          · exact ld_blt (X := X.suite a ((a, oe3) :: (X.pn ++ pins))) S3 hg hm hv q hnn hdbg
        refine test (LM.here ?_)
        cases b with
        | true =>
          refine codeAny_handlers_suite ?_
          refine HandSPX.lands_againZ fl3 fun h4 fl4 up4 => ?_
          have J4 : Inv X pins σ' H' { s' with heap := h4 } := J.landed nb fl4.1 ((up.trans up3).trans up4) os ag
          obtain ⟨oe4, vs4, he4, hz4, hd4⟩ := fl4.there
          have S4 := J4.suite he4 hd4 na nL nF
          refine wpAny_mono ((hsu a oe4 cls d (X.pn ++ pins) hz4 ⟨_, hd4⟩).run [] _ _ H' _ S4 (hyes rfl a na)) (fun f s6 hsp => ?_) (fun _ _ z => False.elim z)
          cases f with
          | next =>
            obtain ⟨σ6, H6, S6, q6⟩ := hsp
            exact ⟨_, _, S6.unsuite ok, q6⟩
          | brk =>
            obtain ⟨σ6, H6, S6, q6⟩ := hsp
            exact ⟨_, _, S6.unsuite ok, q6⟩
          | cont =>
            obtain ⟨σ6, H6, S6, q6⟩ := hsp
            exact ⟨_, _, S6.unsuite ok, q6⟩
          | ret u =>
            obtain ⟨v6, σ6, H6, S6, r6, q6⟩ := hsp
            exact ⟨_, _, _, S6.unsuite ok, r6, q6⟩
        | false =>
          show wpAny _ X.A (handleBy (.ref a) X.env hds2) _ _ _
          exact ih (hno rfl)
      | @nam x n i c ts b₀ suite np pos' hds2 l2 hc hi hln hsu r ih =>
        intro w
        obtain ⟨b, hb1, hyes, hno⟩ := w
        have hloc : Loc X.env.scope n := .inl hln
        refine wpAny_handleBy_cons (codeAny_handlers_test ?_) (by intro q; cases q)
        have LT : PySem.W.Looks (model X.prog X.w) h3 (typeOf (.ref a)) cls := fun A Q E s k q => wpAny_typeOf_ref (k _ _ he3) (by rw [hz3.1]; exact q)
        have LM := PySem.W.exm_one (M := model X.prog X.w) (J3.kIn) LT hb1
        have test : ∀ {Q : Value → Shared → Prop} {E : Value → Shared → Prop}, Q c { s' with heap := h3 } → wpAny (model X.prog X.w) (X.A.mark (some (.ref a))) (eval (.Name x np) X.env) Q E { s' with heap := h3 } := fun {Q E} q => by
          obtain ⟨hg, hdbg, hm | ⟨hm, hv, hnn⟩⟩ := hc
          · exact ld_glob (X := X.suite a ((a, oe3) :: (X.pn ++ pins))) S3 hg hm q hdbg
          · exact ld_blt (X := X.suite a ((a, oe3) :: (X.pn ++ pins))) S3 hg hm hv q hnn hdbg
        refine test (LM.here ?_)
        cases b with
        | true =>
          refine codeAny_handlers_suite_as ?_
          refine HandSPX.lands_againZ fl3 fun h4 fl4 up4 => ?_
          have J4 : Inv X pins σ' H' { s' with heap := h4 } := J.landed nb fl4.1 ((up.trans up3).trans up4) os ag
          obtain ⟨oe4, vs4, he4, hz4, hd4⟩ := fl4.there
          have S4 := J4.suite he4 hd4 na nL nF
          refine store_ok (X := X.suite a ((a, oe4) :: (X.pn ++ pins))) (v := .ref a) S4 hN hi hloc rfl (fun s5 S5 => ?_) (.inr hln)
          refine wpAny_mono ((hsu a oe4 cls d (X.pn ++ pins) hz4 ⟨_, hd4⟩).run [] s5 _ H' _ S5 (hyes rfl a na)) (fun f s6 hsp => ?_) (fun _ _ z => False.elim z)
          have end_ : ∀ {σ6 : L2.St} {H6 : Hp} {Q : Shared → Prop}, Inv (X.suite a ((a, oe4) :: (X.pn ++ pins))) [] σ6 H6 s6 → (∀ s7, Inv X pins (σ6.set i none) H6 s7 → Q s7) →
              wpAny (model X.prog X.w) X.A (do bindName X.env n .none; unbindBehindTheSuite X.env n pos') (fun _ s7 => Q s7) X.xe s6 := fun {σ6 H6 Q} S6 hq => gone_ok (S6.unsuite ok) hN hi hln hq
          cases f with
          | next =>
            obtain ⟨σ6, H6, S6, q6⟩ := hsp
            exact end_ S6 fun s7 J7 => ⟨_, _, J7, q6⟩
          | brk =>
            obtain ⟨σ6, H6, S6, q6⟩ := hsp
            exact end_ S6 fun s7 J7 => ⟨_, _, J7, q6⟩
          | cont =>
            obtain ⟨σ6, H6, S6, q6⟩ := hsp
            exact end_ S6 fun s7 J7 => ⟨_, _, J7, q6⟩
          | ret u =>
            obtain ⟨v6, σ6, H6, S6, r6, q6⟩ := hsp
            exact end_ S6 fun s7 J7 => ⟨_, _, _, J7, r6, q6⟩
        | false =>
          show wpAny _ X.A (handleBy (.ref a) X.env hds2) _ _ _
          exact ih (hno rfl)
    exact go hh w
  · cases f with
    | next =>
      obtain ⟨σ', H', J', q⟩ := hsp
      exact wpAny_execs_nil ⟨σ', H', J'.ofTry ok, q⟩
    | brk =>
      obtain ⟨σ', H', J', q⟩ := hsp
      exact ⟨σ', H', J'.ofTry ok, q⟩
    | cont =>
      obtain ⟨σ', H', J', q⟩ := hsp
      exact ⟨σ', H', J'.ofTry ok, q⟩
    | ret u =>
      obtain ⟨v, σ', H', J', r, q⟩ := hsp
      exact ⟨v, σ', H', J'.ofTry ok, r, q⟩
end
end Mi

/-! ### own errors with their own __init__ -/
namespace Mi
open PySem PySem.Spec PyProof.Rows L2
def oexB (K : PySem.W.Frag) (C : Addr) : Bool := (match K.lookup C with
  | some ⟨.type "type", _, .cls cd, sl⟩ => (match cd.mro, sl.toList with
    | .ref C' :: bm, [_, _, _, _, some (.builtin n), _] => C' == C && n == "ValueError.__new__" && !cd.hasDel && cd.hasDict && PySem.HandSPX.refsVE bm
    | _, _ => false)
  | _ => false) && (decide (PySem.W.findIn K (.ref C) "__setattr__" = some (some (.builtin "object.__setattr__"))) && (decide (PySem.W.subIn K (.ref C) (.type "BaseException") = some true) && (decide (PySem.W.typeIn K (.ref C) = some (.type "type")) && PySem.W.keepIn K (.ref C))))
theorem oexB_ok {K : PySem.W.Frag} {C : Addr} (h : oexB K C = true) : OexC K C := by
  unfold oexB at h
  rw [Bool.and_eq_true, Bool.and_eq_true, Bool.and_eq_true, Bool.and_eq_true] at h
  obtain ⟨q, h1, h2, h3, h4⟩ := h
  refine ⟨?_, of_decide_eq_true h1, of_decide_eq_true h2, of_decide_eq_true h3, h4⟩
  split at q
  · rename_i dd cd sl ho
    split at q
    · rename_i C' bm k0 k1 k2 k3 n k5 hm hs
      simp only [Bool.and_eq_true, beq_iff_eq, Bool.not_eq_true'] at q
      obtain ⟨⟨⟨⟨rfl, rfl⟩, hdel⟩, hdict⟩, ht⟩ := q
      obtain ⟨nm, bs, mro, ns, qn, hd, sn, sub, ab, col, del⟩ := cd
      dsimp only at hm hdel hdict
      subst hm hdel hdict
      have hsl : sl = #[k0, k1, k2, k3, some (.builtin "ValueError.__new__"), k5] := by
        obtain ⟨l⟩ := sl
        simp only at hs
        rw [hs]
      subst hsl
      exact ⟨nm, qn, ns, bs, bm, sn, sub, ab, col, dd, k0, k1, k2, k3, k5, ho, ht⟩
    · cases q
  · cases q
/-- the fields as they lie: the last one first -/
def gsOf : List Str → List V → List (Str × V)
  | [f], [v] => [(f, v)]
  | [f, g], [v, u] => [(g, u), (f, v)]
  | _, _ => []
section
variable {P : Program} {w : World} {K : PySem.W.Frag} {mg : Str → Option Value} {base : Heap} {C : Addr}
/-- what __init__ promises -/
def spIni (C : Addr) (fs : List Str) : Sp := fun vs H Q _ => ∃ (a : Addr) (xs : List V), vs = .ref a :: xs ∧ xs.length = fs.length ∧ H a = some (exo a C none) ∧ ∀ dx, H dx = none → dx ≠ a → Q .non (upd (upd H dx (exd dx (gsOf fs xs))) a (exo a C (some dx)))
theorem ini1 {qual f : Str} {st : Stmt} {fI : Addr} {fd : FuncData} {p1 p2 p3 p4 : Pos} (F : Fun K "__init__" qual st fI fd) (hS : FnScope ["self", f] ["self", f] (defScope st)) (hb : defBody st = [.Assign [.Attribute (.Name "self" p1) f p2] (.Name f p3) p4])
    (T : OexC K C) (hno : PySem.W.findIn K (.ref C) f = some none) (hs : (defScope st).names.lookup ("self" : Str) = some NameKind.local) (hl : (defScope st).names.lookup f = some NameKind.local) (h1 : (f == ("__debug__" : Str)) = false) (h2 : (f == ("__classdict__" : Str)) = false) (k : Nat) :
    FnOk P w K mg base (L2.CX P w) (k + 1) fI fd ["self", f] (spIni C [f]) := by
  refine F.okX hS (fun vs H Q E h => ?_) (fun cdv A outer s H vs Q E hr h => ?_)
  · obtain ⟨a, xs, rfl, hx, _⟩ := h
    show xs.length + 1 = 2
    rw [hx]
    rfl
  · obtain ⟨a, xs, rfl, hx, ha, q⟩ := h
    match xs, hx, q with
    | [x], _, q =>
    rw [hb]
    refine ⟨_, pss_one (ps_ost (pv 0 (x := ("self" : Str)) rfl (.inl hs)) (pv 1 (x := f) rfl (.inl hl) h1 h2)), ?_⟩
    exact ⟨x, rfl, .ref a, rfl, a, C, rfl, T, hno, .inl ⟨ha, fun dx n ne => q dx n ne⟩⟩
theorem ini2 {qual f g : Str} {st : Stmt} {fI : Addr} {fd : FuncData} {p1 p2 p3 p4 q1 q2 q3 q4 : Pos} (F : Fun K "__init__" qual st fI fd) (hS : FnScope ["self", f, g] ["self", f, g] (defScope st))
    (hb : defBody st = [.Assign [.Attribute (.Name "self" p1) f p2] (.Name f p3) p4, .Assign [.Attribute (.Name "self" q1) g q2] (.Name g q3) q4])
    (T : OexC K C) (hno : PySem.W.findIn K (.ref C) f = some none) (hno' : PySem.W.findIn K (.ref C) g = some none) (hs : (defScope st).names.lookup ("self" : Str) = some NameKind.local) (hl : (defScope st).names.lookup f = some NameKind.local) (hl' : (defScope st).names.lookup g = some NameKind.local)
    (h1 : (f == ("__debug__" : Str)) = false) (h2 : (f == ("__classdict__" : Str)) = false) (h3 : (g == ("__debug__" : Str)) = false) (h4 : (g == ("__classdict__" : Str)) = false) (k : Nat) :
    FnOk P w K mg base (L2.CX P w) (k + 1) fI fd ["self", f, g] (spIni C [f, g]) := by
  refine F.okX hS (fun vs H Q E h => ?_) (fun cdv A outer s H vs Q E hr h => ?_)
  · obtain ⟨a, xs, rfl, hx, _⟩ := h
    show xs.length + 1 = 3
    rw [hx]
    rfl
  · obtain ⟨a, xs, rfl, hx, ha, q⟩ := h
    match xs, hx, q with
    | [x, y], _, q =>
    rw [hb]
    refine ⟨_, pss_cons (ps_ost (pv 0 (x := ("self" : Str)) rfl (.inl hs)) (pv 1 (x := f) rfl (.inl hl) h1 h2)) (pss_one (ps_ost (pv 0 (x := ("self" : Str)) rfl (.inl hs)) (pv 2 (x := g) rfl (.inl hl') h3 h4))), ?_⟩
    refine ⟨x, rfl, .ref a, rfl, a, C, rfl, T, hno, .inl ⟨ha, fun dx n ne => ?_⟩⟩
    refine ⟨y, rfl, .ref a, rfl, a, C, rfl, T, hno', .inr ⟨dx, [(f, x)], upd_same, ?_, ?_, ?_⟩⟩
    · rw [upd_ne ne, upd_same]
    · show 1 ≤ 900
      omega
    · have e : upd (upd (upd H dx (exd dx [(f, x)])) a (exo a C (some dx))) dx (exd dx [(g, y), (f, x)]) = upd (upd H dx (exd dx [(g, y), (f, x)])) a (exo a C (some dx)) := by
        funext b
        by_cases hba : b = a
        · rw [hba, upd_ne ne.symm, upd_same, upd_same]
        · by_cases hbd : b = dx
          · rw [hbd, upd_same, upd_ne ne, upd_same]
          · rw [upd_ne hbd, upd_ne hba, upd_ne hbd, upd_ne hba, upd_ne hbd]
      show Q .non (upd (upd (upd H dx (exd dx [(f, x)])) a (exo a C (some dx))) dx (exd dx [(g, y), (f, x)]))
      rw [e]
      exact q dx n ne
/-- what X(e, ..) with an own __init__ wishes, in plain words -/
theorem ini_read {fs : List Str} {vs : List V} {H1 : Hp} {Q : XK} (hl : vs.length = fs.length) (hfs : fs.length ≤ 1000) (h : ∀ d, H1 d = none → Q (.ref C) (some d) (upd H1 d (.xd (gsOf fs vs)))) :
    vs.length ≤ 1000 ∧ ∀ a, H1 a = none → spIni C fs (.ref a :: (vs ++ [])) (upd H1 a (exo a C none))
      (fun v H2 => v = .non ∧ ∃ (d : Addr) (gs : List (Str × V)), H2 a = some (exo a C (some d)) ∧ H2 d = some (exd d gs) ∧ H1 d = none ∧ Q (.ref C) (some d) (upd (del H2 a) d (.xd gs))) (fun _ _ _ => False) := by
  refine ⟨by omega, fun a na => ?_⟩
  rw [List.append_nil]
  refine ⟨a, vs, rfl, hl, upd_same, fun dx n ne => ⟨rfl, dx, gsOf fs vs, upd_same, ?_, ?_, ?_⟩⟩
  · rw [upd_ne ne, upd_same]
  · rw [upd_ne ne] at n
    exact n
  · rw [upd_ne ne] at n
    have e : upd (del (upd (upd (upd H1 a (exo a C none)) dx (exd dx (gsOf fs vs))) a (exo a C (some dx))) a) dx (.xd (gsOf fs vs)) = upd H1 dx (.xd (gsOf fs vs)) := by
      funext b
      by_cases hbd : b = dx
      · rw [hbd, upd_same, upd_same]
      · rw [upd_ne hbd, upd_ne hbd]
        by_cases hba : b = a
        · rw [hba, del_same, na]
        · rw [del_ne hba, upd_ne hba, upd_ne hbd, upd_ne hba]
    rw [e]
    exact h dx n
end
end Mi

/-! ### a tuple many times -/
namespace Mi
open PySem PySem.Spec PyProof.Rows L2
def rRep2 (K : PySem.W.Frag) : R2 := fun x y H Q => ∃ l k xs, x = .ref l ∧ y = .int k ∧ SqT K H l xs ∧ xs ≠ [] ∧ 2 ≤ k ∧ k ≤ 1000000 ∧ k.toNat * xs.length ≤ 1000000 ∧ ∀ p, H p = none → Q (.ref p) (upd H p (.tup (List.replicate k.toNat xs).flatten))
theorem op_rep2 {X : Cx} : OpR X (binaryOp .Mult) (rRep2 X.K) := by
  intro pins s σ H x y v u Q I rx ry h
  obtain ⟨l, k, xs, rfl, rfl, hT, hne, h1, h2, hz, q⟩ := h
  cases rx
  obtain ⟨t, rfl⟩ := ry
  obtain ⟨its, r, ⟨⟨cls, dd, data, sl⟩, ho, hc, n, hd⟩, hs⟩ := I.tuple hT
  simp only at hc hd
  subst hc hd
  have hle : its.length = xs.length := r.length.symm
  have hn : its ≠ [] := fun e => hne (List.eq_nil_of_length_eq_zero (by rw [← hle, e]; rfl))
  have hi : its.toArray.isEmpty = false := by cases its with | nil => exact absurd rfl hn | cons a b => rfl
  have hsz0 : its.toArray.size = xs.length := by rw [List.size_toArray, hle]
  have hm : ((its.toArray.size : Nat) : Int) * k ≤ 1000000 := by
    rw [hsz0]
    have e : ((xs.length : Nat) : Int) * k = ((k.toNat * xs.length : Nat) : Int) := by
      rw [Int.natCast_mul, Int.mul_comm, Int.toNat_of_nonneg (by omega)]
    rw [e]
    omega
  have fl : (List.replicate k.toNat its).flatten.length ≤ sizeLine := by
    rw [PyProof.Rows.lm_len_rep_flat, hle, sizeLine_eq]
    omega
  have c0 : (decide (k < -(2 ^ 63)) || decide (k ≥ 2 ^ 63)) = false := by
    rw [decide_eq_false (by omega), decide_eq_false (by omega)]
    rfl
  have c1 : (its.toArray.isEmpty || k == 1) = false := by
    rw [hi, Bool.false_or]
    exact beq_eq_false_iff_ne.mpr (by omega)
  have c2 : (decide (k ≤ 0) || its.toArray.isEmpty) = false := by
    rw [hi, Bool.or_false]
    exact decide_eq_false (by omega)
  have c4 : Builtin.Tuple.tupleTooMany (((its.toArray.size : Nat) : Int) * k) = false := by
    unfold Builtin.Tuple.tupleTooMany
    rw [sizeLine_eq]
    exact decide_eq_false (by omega)
  have fin := tuple_mulW l its.toArray n dd sl k t c0 c1 c2 (by omega) c4 (by rw [size_rep, List.size_toArray]; exact fl)
  refine wpAny_binaryOp_repeat_ref (T := "tuple") (U := "int") (by decide) ⟨_, ho, rfl⟩ (fun s' => typeIs_int s' k t) noFill_tuple_mul F.fills_int_mul F.slot_int_rmul repeat_tuple F.slot_int_index.lookup
    (call_meets F.slot_int_rmul (typeIs_int s k t) F.entry_int_rmul (F.args_int_rmul_2 _ _) (int_rmul_tuple k t l its.toArray n dd sl) ⟨ho, rfl, ⟨_, ho, rfl⟩, call_meets F.slot_tuple_mul ⟨_, ho, rfl⟩ F.entry_tuple_mul (F.args_tuple_mul_2 _ _) fin ⟨ho, ?_⟩⟩)
  rw [size_rep]
  refine ⟨.ref s.heap.objs.size, _, I.laid (t' := s.toks) (o := .tup (List.replicate k.toNat xs).flatten) (fun b ob q => Heap.get?_push_of_some _ q) (Nat.le_refl _) ?_, rfl, q _ (I.hok.fresh (Nat.le_refl _))⟩
  exact ⟨by rw [PyProof.Rows.lm_len_rep_flat, sizeLine_eq]; omega, _, r.rep k.toNat, IsTup.new _ _⟩
end Mi

/-! ### defs that are called where no repr is under way -/
namespace Mi
open PySem PySem.Spec PyProof.Rows L2
section
variable {P : Program} {w : World} {K : PySem.W.Frag} {mg : Str → Option Value} {base : Heap}
/-- a def's promise at a stack without a repr under way -/
structure FnG (P : Program) (w : World) (K : PySem.W.Frag) (mg : Str → Option Value) (base : Heap) (k : Nat) (f : Addr) (fd : FuncData) (ps : List Str) (sp : Sp) : Prop where
  len : ∀ vs H Q E, sp vs H Q E → vs.length = ps.length
  run : ∀ (A : Around) (outer : List Env) (s : Shared) (H : Hp) (args : Args) (us : List Value) (vs : List V) (Q : VK) (E : XK), A.guards = some [] → Room k A → Env0 P w K mg base A outer s H → BindsTo s fd args (ps.zip us) → Vals vs us → sp vs H Q E →
    codeAny (model P w) A (.call (.ref f) args) (CR (L2.CX P w) outer P w H s Q E) s
theorem FnG.imp {k : Nat} {f : Addr} {fd : FuncData} {ps : List Str} {sp sp' : Sp} (F : FnG P w K mg base k f fd ps sp) (h : ∀ vs H Q E, sp' vs H Q E → sp vs H Q E) : FnG P w K mg base k f fd ps sp' :=
  ⟨fun vs H Q E q => F.len vs H Q E (h _ _ _ _ q), fun A outer s H args us vs Q E g hr he hb hv hs => F.run A outer s H args us vs Q E g hr he hb hv (h _ _ _ _ hs)⟩
/-- what a body's end says of the call -/
theorem cr_end {X : Cx} {outer : List Env} {H : Hp} {s s' : Shared} {Q : VK} {E : XK} {fl : Flow} (e1 : X.prog = P) (e2 : X.w = w) (e3 : X.fs = frs outer) (e4 : X.ex = []) (e5 : X.s_0 = s) (e6 : X.H_0 = H)
    : SP X [] { nx := fun _ H' => Q .non H', rt := Q } fl s' → CR (L2.CX P w) outer P w H s Q E (.ok (.ret (match fl with | .ret u => u | _ => .none))) s' := by
  intro h
  have key : ∀ {σ' : L2.St} {H' : Hp} {v : V} {u : Value}, Inv X [] σ' H' s' → RelV v u → Q v H' → CE outer P w H s Q u s' := fun {σ' H' v u} J r q => by
    have b := J.base
    have o := J.hok
    rw [e3, e4, e5, e6] at b
    rw [e1, e2] at o
    exact ⟨v, H', e5 ▸ J.os, J.bare, b, o, r, q⟩
  cases fl with
  | next =>
    obtain ⟨σ', H', J, q⟩ := h
    exact key J (show RelV V.non Value.none from rfl) q
  | ret u =>
    obtain ⟨v, σ', H', J, r, q⟩ := h
    exact key J r q
  | brk =>
    obtain ⟨_, _, _, q⟩ := h
    exact q.elim
  | cont =>
    obtain ⟨_, _, _, q⟩ := h
    exact q.elim
/-- a def that may raise, by its body -/
theorem fun_g {x qual : Str} {st : Stmt} {f : Addr} {fd : FuncData} {N ps : List Str} {k : Nat} {sp : Sp} (F : Fun K x qual st f fd) (S : FnScope N ps (defScope st)) (len : ∀ vs H Q E, sp vs H Q E → vs.length = ps.length)
    (body : ∀ (cdv : Value) (A : Around) (outer : List Env) (s : Shared) (H : Hp) (vs : List V) (Q : VK) (E : XK), A.guards = some [] → Room k (A.deeper (envOfC qual (defScope st) s.heap.objs.size f cdv)) → sp vs H Q E →
      ∃ t, PSs (cxOf (L2.CX P w) P w K mg base N qual (defScope st) f cdv A outer s H E) (defBody st) t ∧ t { nx := fun _ H' => Q .non H', rt := Q } (start N vs) H) : FnG P w K mg base (k + 1) f fd ps sp := by
  obtain ⟨_, _, _, _, _, _, cdv, _, _, rfl, lk, hcd⟩ := F.ex
  refine ⟨len, fun A outer s H args us vs Q E g hr e0 hb r hsp => ?_⟩
  have here : ∀ {b : Addr} {o : Obj}, base.get? b = some o → s.heap.get? b = some o := fun e => (e0.bs _ _ e).1
  have KX : K.In s.heap := e0.mod.kin.keeps fun _ _ => here
  have ways : ∀ y ∈ ps.zip us, (defScope st).names.lookup y.1 = some .local ∨ ((defScope st).names.lookup y.1 = some .cell ∧ ((cellsFrom (s.heap.objs.size + 1) (defScope st).names []).lookup y.1).isSome = true) := fun y hy =>
    (S.par y.1 (List.of_mem_zip hy).1).imp id fun q => ⟨q, PySem.W.cellsFrom_some _ _ _ (.inl q)⟩
  refine codeAny_call_function hr.depth (KX _ _ lk) rfl S.co S.gen rfl (PySem.W.codeRec_of KX hcd) (hb _ _ _ _ (wpAny_newFunctionEnv_cells S.kind ways fun env he s1 x => ?_))
  cases he
  refine ⟨(e0.mod.nolimit.keeps fun _ _ => here).keeps x.toInCall.keep, codeAny_func ?_⟩
  obtain ⟨t, ht, hq⟩ := body cdv A outer s H vs Q E g (hr.deeper _) hsp
  exact wpAny_mono (ht.run [] s1 _ H _ (inv_start (CX := L2.CX P w) (E := E) S hr.hd e0 (len _ _ _ _ hsp) r x) hq) (fun fl s' h => cr_end (E := E) (X := cxOf (L2.CX P w) P w K mg base N qual (defScope st) f cdv A outer s H E) rfl rfl rfl rfl rfl rfl h) fun _ _ h => h
/-- the callee runs -/
theorem run_fnG {X : Cx} {k : Nat} {f : Addr} {fd : FuncData} {ps : List Str} {sp : Sp} {E : L2.St → XK} {pins : List (Addr × Obj)} {σ : L2.St} {H : Hp} {s : Shared} {Q : VK} {us : List Value} {vs : List V} (F : FnG X.prog X.w X.K X.mg X.base k f fd ps sp) (g : X.A.guards = some []) (hr : Room k X.A) (hb : Binds X.K fd ps [])
    (hx : PassesAt (L2.CX X.prog X.w) X σ (E σ)) (I : Inv X pins σ H s) (r : Vals vs us) (h : sp vs H Q (E σ)) : wpAny (model X.prog X.w) X.A (call (.ref f) us) (EP X pins σ Q) X.xe s := by
  have n : (us ++ []).length = ps.length := by rw [List.append_nil, ← r.length, F.len _ _ _ _ h]
  have b := hb s us I.kIn n
  rw [List.append_nil] at b
  refine wpAny_call (codeAny_mono (F.run _ _ _ _ ⟨us, []⟩ _ _ Q (E σ) g hr I.env0 b r h) fun o s' c => ?_)
  match o, c with
  | .error e, c => exact hx pins H s e s' I c
  | .ok (.ret u), c => exact I.after c
theorem guards_make {A : Around} (g : A.guards = some []) (C : Addr) (us : List Value) (kw : List (Str × Value)) : (A.under (.builtin "type.__call__" ⟨.ref C :: us, kw⟩)).guards = some [] := by
  show pushGuards (Code.guards (.builtin "type.__call__" ⟨.ref C :: us, kw⟩)) A.guards = some []
  have e : Code.guards (.builtin "type.__call__" ⟨.ref C :: us, kw⟩) = [] := by
    unfold Code.guards
    rw [show Code.isGuard (.builtin "type.__call__" ⟨.ref C :: us, kw⟩) = false from by simp [Code.isGuard, guardIds]]
    rfl
  rw [e, g]
  rfl
/-- the law is called by the caller -/
theorem law_g {mb : Str → Option Value} {k : Nat} {fa a : Addr} {fd : FuncData} {x : Str} {sp : Sp} {s₁ : Shared} {vs : List Value} {ns : List Int} (KX : K.In s₁.heap) (hns : s₁.heap.Ns mainGlobals mg) (hb : s₁.heap.Ns builtinsNs mb) (hbb : ∀ x : Str, x ≠ "__name__" → mb x = bootBuiltins x) (hlim : s₁.heap.NoLimit) (hg : s₁.gens = #[])
    (ha : s₁.heap.get? a = some { cls := .type "list", data := .seq vs.toArray }) (hi : IntsAre vs ns) (hl : ns.length ≤ sizeLine) (hr : Room k callerA) (F : ∀ base : Heap, K.In base → base.Ns mainGlobals mg → FnG P w K mg base k fa fd [x] sp) (bind : ∀ (s : Shared) (u : Value), BindsTo s fd ⟨[u], []⟩ [(x, u)])
    (hsp : ∀ H : Hp, Only H → SqL K H a (ns.map V.int) → sp [.ref a] H (fun v _ => v = .bl true) fun _ _ _ => False) :
    codeAny (model P w) callerA (.call (.ref fa) ⟨[.ref a], []⟩) (fun r s' => r = .ok (.ret (.bool true)) ∧ OldK s₁.heap s'.heap ∧ s'.os = s₁.os ∧ AllBare s'.gens) s₁ := by
  have rv : Vals (ns.map V.int) vs := vals_ints hi
  -- the script alone is tracked, where it is none of the written part
  obtain ⟨H, hH⟩ : ∃ H : Hp, H = fun b => if b = a ∧ K.lookup a = none then some (.frz { cls := .type "list", data := .seq vs.toArray } (.lst (ns.map V.int))) else none := ⟨_, rfl⟩
  have at_ : ∀ {b : Addr} {u : HO}, H b = some u → b = a ∧ K.lookup a = none ∧ u = .frz { cls := .type "list", data := .seq vs.toArray } (.lst (ns.map V.int)) := fun {b u} h => by
    rw [hH] at h
    dsimp only at h
    split at h
    · rename_i c
      exact ⟨c.1, c.2, (Option.some.inj h).symm⟩
    · cases h
  have only : Only H := fun b => by
    cases q : H b with
    | none => exact .inl rfl
    | some u => exact .inr ⟨_, _, by rw [(at_ q).2.2]⟩
  have sq : SqL K H a (ns.map V.int) := by
    cases q : K.lookup a with
    | none => exact .inl (.inr ⟨_, by rw [hH]; exact if_pos ⟨rfl, q⟩⟩)
    | some o =>
      have e := KX a o q
      rw [ha] at e
      cases e
      exact .inr ⟨_, vs.toArray, _, q, rfl, rfl, rfl, by rw [List.size_toArray, ← rv.length, List.length_map]; exact hl, rv⟩
  have ok : HOk P w H s₁.heap := fun b u h => by
    obtain ⟨rfl, _, rfl⟩ := at_ h
    exact ⟨ha, by rw [List.length_map]; exact hl, vs, _, rv, ha⟩
  have keep : ∀ {b : Addr} {o : Obj} {es : Array DictEntry} {ep : Nat}, s₁.heap.get? b = some o → o.data = .dict es ep → (hidT s₁.heap H).get? b = some o := fun {b o es ep} e d => hidT_get e (by
    cases q : H b with
    | none => rfl
    | some u =>
      obtain ⟨rfl, _, _⟩ := at_ q
      rw [ha] at e
      cases e
      cases d)
  have nsK : ∀ {b : Addr} {m : Str → Option Value}, s₁.heap.Ns b m → (hidT s₁.heap H).Ns b m := fun {b m} ⟨o, es, ep, e, d, r⟩ => ⟨o, es, ep, keep e d, d, r⟩
  have Kb : K.In (hidT s₁.heap H) := fun b o e => hidT_get (KX b o e) (by
    cases q : H b with
    | none => rfl
    | some u =>
      obtain ⟨rfl, n, _⟩ := at_ q
      rw [n] at e
      cases e)
  obtain ⟨mc, l1, l2⟩ := hlim
  have e0 : Env0 P w K mg (hidT s₁.heap H) callerA [] s₁ H := ⟨rfl, ⟨Kb, nsK hns, ⟨mb, nsK hb, hbb⟩, ⟨mc, nsK l1, l2⟩⟩, fun _ _ e => of_hidT e, Nat.le_of_eq (hidT_size _ _), trivial, fun _ h => (List.not_mem_nil h).elim, ok, .of_eq hg⟩
  refine codeAny_mono ((F _ Kb (nsK hns)).run callerA [] s₁ H ⟨[.ref a], []⟩ [.ref a] [.ref a] _ _ rfl hr e0 (bind s₁ (.ref a)) (.cons rfl .nil) (hsp H only sq)) fun r s' c => ?_
  match r, c with
  | .error e, c =>
    obtain ⟨_, _, _, _, _, _, _, _, _, _, _, _, z⟩ := c
    exact z.elim
  | .ok (.ret u), c =>
    obtain ⟨v, H', os, bare, un, ok', r', q⟩ := c
    have q : v = .bl true := q
    subst q
    have r' : u = Value.bool true := r'
    refine ⟨by rw [r'], OldK.of_keep fun b o e => ?_, os, bare⟩
    cases q : H b with
    | none => exact un.keep b o e q (fun z => (List.not_mem_nil z).elim) List.not_mem_nil
    | some u =>
      obtain ⟨rfl, _, rfl⟩ := at_ q
      have e2 := (ok' b _ (un.frzs b _ _ q)).1
      rw [ha] at e
      rw [e2, ← e]
/-- the goal behind k_head, from the law's promise -/
theorem walk_g {l : PySem.W.OpenLaw} {n k : Nat} {q : Program} {loose : List Str} {XP : (Str → Option Value) → Heap → Prop} {YP : World → Heap → Prop} {d : DefRec} {K : Params → PySem.W.Frag} {sp : World → Sp} {x : Str} (hn : l.most = some n) (hn2 : n ≤ sizeLine) (hdf : d.params.defaults = []) (hr : Room k callerA)
    (hY : ∀ (w : World) (h : Heap), YP w h → (K w.params).In h)
    (F : ∀ (w : World) (mg : Str → Option Value) (fa : Addr) (h : Heap), (K w.params).In h → h.Ns mainGlobals mg → mg d.name = some (.ref fa) → ∃ fd : FuncData, (∀ (s : Shared) (u : Value), BindsTo s fd ⟨[u], []⟩ [(x, u)]) ∧
        ∀ base : Heap, (K w.params).In base → base.Ns mainGlobals mg → FnG l.prog w (K w.params) mg base k fa fd [x] (sp w))
    (hsp : ∀ (w : World) (H : Hp) (a : Addr) (ns : List Int), ns.length ≤ n → Only H → SqL (K w.params) H a (ns.map V.int) → sp w [.ref a] H (fun v _ => v = .bl true) fun _ _ _ => False) :
    PySem.W.WalkO q loose XP YP l.row.toRowW d [] (fun f vs => PySem.call f vs) :=
  Att.attach_call hn hdf fun w _ s₁ mg _ fa _ _ _ _ a _ ns G Y _ _ _ hmg obj are len gens => by
    obtain ⟨fd, b, hF⟩ := F w mg fa _ (hY w _ Y) G.T.g hmg
    exact law_g (hY w _ Y) G.T.g G.T.b G.T.builtins G.T.nolimit gens obj are (Nat.le_trans len hn2) hr hF b fun H o s => hsp w H a ns len o s
end
end Mi

/-! Mi, part DA: keys of a dict that are tuples of any form: their hash and their equality in the model. -/
namespace Mi
open PySem PySem.Spec PyProof.Rows L2
/-- the built-in types that are asked for -/
inductive Ty where
  | non | bool | int | str | tup | lst | dic
  deriving DecidableEq, Inhabited
def Ty.name : Ty → String
  | .non => "NoneType" | .bool => "bool" | .int => "int" | .str => "str" | .tup => "tuple" | .lst => "list" | .dic => "dict"
def Ty.sub (a b : Ty) : Bool := decide (a = b) || (decide (a = .bool) && decide (b = .int))

/-- a datum: tuples by value, what can change by its number in the store -/
inductive D where
  | non | bl (b : Bool) | int (i : Int) | str (x : Str) | tup (ds : List D) | ref (n : Nat) | fn (f : Nat) | ty (t : Ty)
  deriving Inhabited

/-! ### alike, without numbers of the store -/
mutual
def D.same : D → D → Bool
  | .non, .non => true
  | .bl a, .bl b => decide (a = b)
  | .int a, .int b => decide (a = b)
  | .str a, .str b => decide (a = b)
  | .tup a, .tup b => sames a b
  | .ref a, .ref b => decide (a = b)
  | .fn a, .fn b => decide (a = b)
  | .ty a, .ty b => decide (a = b)
  | _, _ => false
def sames : List D → List D → Bool
  | [], [] => true
  | a :: as, b :: bs => D.same a b && sames as bs
  | _, _ => false
end
mutual
def D.pure : D → Bool
  | .ref _ => false
  | .tup ds => pures ds
  | _ => true
def pures : List D → Bool
  | [] => true
  | d :: ds => D.pure d && pures ds
end
mutual
theorem same_eq : ∀ {a b : D}, D.same a b = true → a = b
  | .non, b, h => by cases b <;> first | rfl | cases h
  | .bl a, b, h => by cases b <;> first | (rw [of_decide_eq_true h]) | cases h
  | .int a, b, h => by cases b <;> first | (rw [of_decide_eq_true h]) | cases h
  | .str a, b, h => by cases b <;> first | (rw [of_decide_eq_true h]) | cases h
  | .ref a, b, h => by cases b <;> first | (rw [of_decide_eq_true h]) | cases h
  | .fn a, b, h => by cases b <;> first | (rw [of_decide_eq_true h]) | cases h
  | .ty a, b, h => by cases b <;> first | (rw [of_decide_eq_true h]) | cases h
  | .tup a, b, h => by
    cases b with
    | tup b => rw [sames_eq (show sames a b = true from h)]
    | _ => cases h
theorem sames_eq : ∀ {a b : List D}, sames a b = true → a = b
  | [], b, h => by cases b <;> first | rfl | cases h
  | a :: as, b, h => by
    cases b with
    | nil => cases h
    | cons b bs =>
      have h : (D.same a b && sames as bs) = true := h
      rw [Bool.and_eq_true] at h
      rw [same_eq h.1, sames_eq h.2]
end
mutual
theorem same_refl : ∀ a : D, D.same a a = true
  | .non => rfl
  | .bl a => decide_eq_true rfl
  | .int a => decide_eq_true rfl
  | .str a => decide_eq_true rfl
  | .ref a => decide_eq_true rfl
  | .fn a => decide_eq_true rfl
  | .ty a => decide_eq_true rfl
  | .tup a => sames_refl a
theorem sames_refl : ∀ a : List D, sames a a = true
  | [] => rfl
  | a :: as => by
    show (D.same a a && sames as as) = true
    rw [same_refl a, sames_refl as]
    rfl
end
instance : DecidableEq D := fun a b => if h : D.same a b = true then .isTrue (same_eq h) else .isFalse fun e => h (e ▸ same_refl a)
mutual
/-- a value that is a key's -/
def kyIs (h : Heap) : D → Value → Prop
  | .int i, v => (∃ t, v = .int i t) ∨ ∃ b, v = .bool b ∧ i = PpSet.b2 b
  | .str x, v => PyData.strOk x = true ∧ ∃ t, v = .str x t
  | .tup ds, v => ∃ a o its n, v = .ref a ∧ h.get? a = some o ∧ o.cls = .type "tuple" ∧ o.data = .seq its n ∧ kysAre h ds its.toList
  | _, _ => False
def kysAre (h : Heap) : List D → List Value → Prop
  | [], vs => vs = []
  | d :: ds, vs => ∃ v us, vs = v :: us ∧ kyIs h d v ∧ kysAre h ds us
end
mutual
def dep : D → Nat
  | .tup ds => deps ds + 1
  | _ => 0
def deps : List D → Nat
  | [] => 0
  | d :: ds => max (dep d) (deps ds)
end
mutual
def kyHash (w : World) : D → Int
  | .int i => keyH w (.inl i)
  | .str x => keyH w (.inr x)
  | .tup ds => reduceHash (Builtin.Tuple.tupleHashOf (kyHashes w ds))
  | _ => 0
def kyHashes (w : World) : List D → List Int
  | [] => []
  | d :: ds => kyHash w d :: kyHashes w ds
end
mutual
def kyDraws : D → Nat
  | .tup ds => kysDraws ds + 1
  | _ => 1
def kysDraws : List D → Nat
  | [] => 0
  | d :: ds => kyDraws d + kysDraws ds
end
section
variable {P : Program} {w : World} {A : Around} {E : Value → Shared → Prop} {h h' : Heap}
theorem b2_inj {b c : Bool} (h : PpSet.b2 b = PpSet.b2 c) : b = c := by cases b <;> cases c <;> first | rfl | cases h
mutual
theorem kyIs.inj : ∀ {x y : D} {v : Value}, kyIs h x v → kyIs h y v → x = y
  | .int i, y, v, hx, hy => by
    cases y with
    | int j =>
      rcases hx with ⟨t, rfl⟩ | ⟨b, rfl, rfl⟩
      · rcases hy with ⟨t', e⟩ | ⟨b, e, _⟩
        · cases e; rfl
        · cases e
      · rcases hy with ⟨t', e⟩ | ⟨b, e, rfl⟩
        · cases e
        · cases e; rfl
    | str j => obtain ⟨_, t', rfl⟩ := hy; rcases hx with ⟨t, e⟩ | ⟨b, e, _⟩ <;> cases e
    | tup j => obtain ⟨_, _, _, _, rfl, _⟩ := hy; rcases hx with ⟨t, e⟩ | ⟨b, e, _⟩ <;> cases e
    | _ => exact hy.elim
  | .str i, y, v, hx, hy => by
    obtain ⟨_, t, rfl⟩ := hx
    cases y with
    | int j => rcases hy with ⟨t', e⟩ | ⟨b, e, _⟩ <;> cases e
    | str j => obtain ⟨_, t', e⟩ := hy; cases e; rfl
    | tup j => obtain ⟨_, _, _, _, e, _⟩ := hy; cases e
    | _ => exact hy.elim
  | .tup i, y, v, hx, hy => by
    obtain ⟨a, o, its, n, rfl, e1, e2, e3, e4⟩ := hx
    cases y with
    | int j => rcases hy with ⟨t', e⟩ | ⟨b, e, _⟩ <;> cases e
    | str j => obtain ⟨_, t', e⟩ := hy; cases e
    | tup j =>
      obtain ⟨a', o', its', n', e, f1, f2, f3, f4⟩ := hy
      cases e
      rw [e1] at f1
      cases f1
      rw [e3] at f3
      cases f3
      rw [kysAre.inj e4 f4]
    | _ => exact hy.elim
  | .non, _, _, hx, _ => hx.elim
  | .bl _, _, _, hx, _ => hx.elim
  | .ref _, _, _, hx, _ => hx.elim
  | .fn _, _, _, hx, _ => hx.elim
  | .ty _, _, _, hx, _ => hx.elim
theorem kysAre.inj : ∀ {xs ys : List D} {vs : List Value}, kysAre h xs vs → kysAre h ys vs → xs = ys
  | [], ys, vs, hx, hy => by
    have hx : vs = [] := hx
    subst hx
    cases ys with
    | nil => rfl
    | cons y ys => obtain ⟨_, _, e, _⟩ := hy; cases e
  | x :: xs, ys, vs, hx, hy => by
    obtain ⟨v, us, rfl, h1, h2⟩ := hx
    cases ys with
    | nil => exact nomatch (show v :: us = [] from hy)
    | cons y ys =>
      obtain ⟨v', us', e, g1, g2⟩ := hy
      cases e
      rw [kyIs.inj h1 g1, kysAre.inj h2 g2]
end
mutual
theorem kyIs.to (k : ∀ b o, h.get? b = some o → o.cls = .type "tuple" → (∃ its n, o.data = .seq its n) → h'.get? b = some o) : ∀ {x : D} {v : Value}, kyIs h x v → kyIs h' x v
  | .int _, _, hx => hx
  | .str _, _, hx => hx
  | .tup _, _, hx => by
    obtain ⟨a, o, its, n, e0, e1, e2, e3, e4⟩ := hx
    exact ⟨a, o, its, n, e0, k a o e1 e2 ⟨its, n, e3⟩, e2, e3, kysAre.to k e4⟩
theorem kysAre.to (k : ∀ b o, h.get? b = some o → o.cls = .type "tuple" → (∃ its n, o.data = .seq its n) → h'.get? b = some o) : ∀ {xs : List D} {vs : List Value}, kysAre h xs vs → kysAre h' xs vs
  | [], _, hx => hx
  | _ :: _, _, hx => by
    obtain ⟨v, us, e, h1, h2⟩ := hx
    exact ⟨v, us, e, kyIs.to k h1, kysAre.to k h2⟩
end
theorem kysAre.length : ∀ {xs : List D} {vs : List Value}, kysAre h xs vs → xs.length = vs.length
  | [], vs, hx => by
    have hx : vs = [] := hx
    rw [hx]
    rfl
  | _ :: _, _, hx => by
    obtain ⟨v, us, rfl, _, h2⟩ := hx
    rw [List.length_cons, List.length_cons, kysAre.length h2]
theorem kyIs.tupT {s : Shared} {ds : List D} {v : Value} (x : kyIs s.heap (.tup ds) v) : s.TypeIs v "tuple" := by
  obtain ⟨a, o, its, n, rfl, e1, e2, _⟩ := x
  exact ⟨o, e1, e2⟩
theorem kyHashes_app {ds es : List D} : kyHashes w (ds ++ es) = kyHashes w ds ++ kyHashes w es := by
  induction ds with
  | nil => rfl
  | cons d ds ih => show kyHash w d :: kyHashes w (ds ++ es) = _; rw [ih]; rfl
theorem kysDraws_app {ds es : List D} : kysDraws (ds ++ es) = kysDraws ds + kysDraws es := by
  induction ds with
  | nil => show kysDraws es = 0 + kysDraws es; omega
  | cons d ds ih => show kyDraws d + kysDraws (ds ++ es) = kyDraws d + kysDraws ds + kysDraws es; omega
theorem ky_hash_s {A : Around} {E : Value → Shared → Prop} {s : Shared} {k : Key} {v : Value} {Q : Int → Shared → Prop} (hk : (mixKind P w).is k v = true) (hq : Q (keyH w k) { s with toks := s.toks + 1 }) : wpAny (model P w) A (pyHash v) Q E s := (mixKind P w).pyHash hk hq
theorem ky_hash (n : Nat) : ∀ {A : Around} {E : Value → Shared → Prop} {s : Shared} {d : D} {v : Value} {Q : Int → Shared → Prop}, dep d ≤ n → A.units + n < cLine → kyIs s.heap d v → Q (kyHash w d) { s with toks := s.toks + kyDraws d } → wpAny (model P w) A (pyHash v) Q E s := by
  have sc : ∀ {A : Around} {E : Value → Shared → Prop} {s : Shared} {d : D} {v : Value} {Q : Int → Shared → Prop}, dep d = 0 → kyIs s.heap d v → Q (kyHash w d) { s with toks := s.toks + kyDraws d } → wpAny (model P w) A (pyHash v) Q E s := by
    intro A E s d v Q hd hk hq
    cases d with
    | int i =>
      rcases hk with ⟨t, rfl⟩ | ⟨b, rfl, rfl⟩
      · exact ky_hash_s (k := .inl i) (mixKind_int P w i t) hq
      · exact PpSet.pyHash_bool hq
    | str i => obtain ⟨_, t, rfl⟩ := hk; exact ky_hash_s (k := .inr i) (mixKind_str P w i t) hq
    | tup ds => exact nomatch hd
    | _ => exact hk.elim
  induction n with
  | zero => intro A E s d v Q hd _ hk hq; exact sc (Nat.le_zero.mp hd) hk hq
  | succ n ih =>
    intro A E s d v Q hd hu hk hq
    by_cases h0 : dep d = 0
    · exact sc h0 hk hq
    clear sc
    cases d with
    | tup ds => ?_
    | _ => exact absurd rfl h0
    clear h0
    have tT := hk.tupT
    have hds : deps ds ≤ n := Nat.le_of_succ_le_succ hd
    obtain ⟨a, o, its, m, rfl, e1, e2, e3, e4⟩ := hk
    unfold pyHash
    first | unfold pyHashByItsType | skip
    first | refine wpAny_bind (wpAny_cRoomFor_or (.inr (by omega)) ?_) | skip
    refine wpAny_bind (wpAny_specialOf tT F.slot_tuple_hash.lookup ?_)
    show wpAny _ _ (if (some (Value.builtin "tuple.__hash__") == some Value.none) = true then _ else _) Q E s
    rw [if_neg (fun z => by rw [beq_builtin_none] at z; cases z)]
    refine wpAny_bind (wpAny_specialOf tT F.slot_tuple_hash.lookup ?_)
    show wpAny _ _ (callSpecialIfBoundUnlessNone? (.ref a) "__hash__" _ >>= _) Q E s
    refine wpAny_bind (wpAny_callSpecialIfBoundUnlessNone?_slot tT F.slot_tuple_hash (wpAny_call_entry F.slot_tuple_hash tT F.entry_tuple_hash ?_ (F.args_tuple_hash_1 _)))
    show wpAny _ _ (Builtin.Tuple.tupleItemsOf (.ref a) >>= _) _ _ s
    refine wpAny_bind (wpAny_tupleItemsOf e1 e3 ?_)
    refine wpAny_bind ?_
    rw [← Array.forIn_toList]
    have hu' : A.in1.units + n < cLine := by show A.units + 1 + n < cLine; omega
    refine wpAny_forIn_list _ (fun rest (b : Array Int) s' => ∃ done left, ds = done ++ left ∧ kysAre s.heap left rest ∧ b.toList = kyHashes w done ∧ s' = { s with toks := s.toks + kysDraws done }) _ ?_ ?_ _ _ ⟨[], ds, rfl, e4, rfl, rfl⟩
    · rintro x rest b s' ⟨done, left, hdl, hl, hb, rfl⟩
      cases left with
      | nil => exact nomatch (show x :: rest = [] from hl)
      | cons d left =>
        obtain ⟨v, us, e, g1, g2⟩ := hl
        cases e
        have hdd : dep d ≤ n := by
          subst hdl
          refine Nat.le_trans ?_ hds
          clear hds hd g1 g2 hb hq e4
          induction done with
          | nil => exact Nat.le_max_left _ _
          | cons c cs ih => exact Nat.le_trans ih (Nat.le_max_right _ _)
        refine wpAny_bind (ih hdd hu' g1 ?_)
        have hh : kyHashes w (done ++ [d]) = kyHashes w done ++ [kyHash w d] := kyHashes_app
        have hw : kysDraws (done ++ [d]) = kysDraws done + kyDraws d := kysDraws_app
        first
          | exact wpAny_pure ⟨done ++ [d], left, by rw [hdl, List.append_assoc]; rfl, g2, by rw [hh, ← hb, Array.toList_push], by rw [hw]; simp only [Nat.add_assoc]⟩
          | exact wpAny_bind (wpAny_pure (wpAny_pure ⟨done ++ [d], left, by rw [hdl, List.append_assoc]; rfl, g2, by rw [hh, ← hb, Array.toList_push], by rw [hw]; simp only [Nat.add_assoc]⟩))
    · rintro b s' ⟨done, left, hdl, hl, hb, rfl⟩
      cases left with
      | cons d left => obtain ⟨v, us, e, _⟩ := hl; cases e
      | nil =>
        rw [List.append_nil] at hdl
        subst hdl
        show wpAny _ _ (retInt (Builtin.Tuple.tupleHashOf b.toList)) _ _ _
        rw [hb]
        refine wpAny_ret_mkInt ?_
        have hq : Q (reduceHash (Builtin.Tuple.tupleHashOf (kyHashes w ds))) { s with toks := s.toks + (kysDraws ds + 1) } := hq
        obtain ⟨z, hz⟩ : ∃ z, z = Builtin.Tuple.tupleHashOf (kyHashes w ds) := ⟨_, rfl⟩
        rw [← hz] at hq ⊢
        show wpAny _ _ (if (decide (-(2 : Int) ^ 63 ≤ z) && decide (z < 2 ^ 63)) = true then _ else _) Q E _
        unfold reduceHash at hq
        split
        · rename_i hr
          rw [if_pos hr] at hq
          exact wpAny_pure hq
        · rename_i hr
          rw [if_neg hr] at hq
          exact wpAny_bind (wpAny_rule (wpAny_pure hq))
mutual
/-- the data that a key's value lays -/
def NP : D → PyData → Prop
  | .int i, p => p = .int i ∨ ∃ b, p = .bool b ∧ i = PpSet.b2 b
  | .str x, p => PyData.strOk x = true ∧ p = .str x
  | .tup ds, p => ∃ ps, p = .tuple ps ∧ NPs ds ps
  | _, _ => False
def NPs : List D → List PyData → Prop
  | [], ps => ps = []
  | d :: ds, ps => ∃ p qs, ps = p :: qs ∧ NP d p ∧ NPs ds qs
end
mutual
theorem NP.lay : ∀ {x : D} {p : PyData}, NP x p → p.canLay0 = true ∧ p.depth = dep x
  | .int i, p, hx => by rcases hx with rfl | ⟨b, rfl, _⟩ <;> exact ⟨rfl, rfl⟩
  | .str x, p, hx => by obtain ⟨h1, rfl⟩ := hx; exact ⟨h1, rfl⟩
  | .tup ds, p, hx => by
    obtain ⟨ps, rfl, h1⟩ := hx
    obtain ⟨h2, h3⟩ := NPs.lay h1
    exact ⟨h2, by show PyData.depthAll ps + 1 = deps ds + 1; rw [h3]⟩
theorem NPs.lay : ∀ {xs : List D} {ps : List PyData}, NPs xs ps → PyData.canLayAll0 ps = true ∧ PyData.depthAll ps = deps xs
  | [], ps, hx => by
    have hx : ps = [] := hx
    subst hx
    exact ⟨rfl, rfl⟩
  | x :: xs, ps, hx => by
    obtain ⟨p, qs, rfl, h1, h2⟩ := hx
    obtain ⟨a1, a2⟩ := NP.lay h1
    obtain ⟨b1, b2⟩ := NPs.lay h2
    refine ⟨?_, ?_⟩
    · show (p.canLay0 && PyData.canLayAll0 qs) = true
      rw [a1, b1]
      rfl
    · show max p.depth (PyData.depthAll qs) = max (dep x) (deps xs)
      rw [a2, b2]
end
mutual
theorem NP.eqv : ∀ {x y : D} {p q : PyData}, NP x p → NP y q → PyData.eqv p q = D.same x y
  | .int i, y, p, q, hx, hy => by
    cases y with
    | int j =>
      have hb : ∀ a c : Int, (a == c) = decide (a = c) := fun a c => rfl
      rcases hx with rfl | ⟨b, rfl, rfl⟩ <;> rcases hy with rfl | ⟨c, rfl, rfl⟩
      · exact hb _ _
      · exact hb _ _
      · exact hb _ _
      · show (b == c) = decide (PpSet.b2 b = PpSet.b2 c)
        cases b <;> cases c <;> rfl
    | str j => obtain ⟨_, rfl⟩ := hy; rcases hx with rfl | ⟨b, rfl, _⟩ <;> rfl
    | tup j => obtain ⟨_, rfl, _⟩ := hy; rcases hx with rfl | ⟨b, rfl, _⟩ <;> rfl
    | _ => exact hy.elim
  | .str i, y, p, q, hx, hy => by
    obtain ⟨_, rfl⟩ := hx
    cases y with
    | int j => rcases hy with rfl | ⟨b, rfl, _⟩ <;> rfl
    | str j => obtain ⟨_, rfl⟩ := hy; show (i == j) = decide (i = j); by_cases e : i = j <;> simp [e]
    | tup j => obtain ⟨_, rfl, _⟩ := hy; rfl
    | _ => exact hy.elim
  | .tup i, y, p, q, hx, hy => by
    obtain ⟨ps, rfl, h1⟩ := hx
    cases y with
    | int j => rcases hy with rfl | ⟨b, rfl, _⟩ <;> rfl
    | str j => obtain ⟨_, rfl⟩ := hy; rfl
    | tup j => obtain ⟨qs, rfl, h2⟩ := hy; exact NPs.eqv h1 h2
    | _ => exact hy.elim
theorem NPs.eqv : ∀ {xs ys : List D} {ps qs : List PyData}, NPs xs ps → NPs ys qs → PyData.eqvAll ps qs = sames xs ys
  | [], ys, ps, qs, hx, hy => by
    have hx : ps = [] := hx
    subst hx
    cases ys with
    | nil => rw [show qs = [] from hy]; rfl
    | cons y ys => obtain ⟨_, _, rfl, _⟩ := hy; rfl
  | x :: xs, ys, ps, qs, hx, hy => by
    obtain ⟨p, ps, rfl, h1, h2⟩ := hx
    cases ys with
    | nil => rw [show qs = [] from hy]; rfl
    | cons y ys =>
      obtain ⟨q, qs, rfl, g1, g2⟩ := hy
      show (PyData.eqv p q && PyData.eqvAll ps qs) = (D.same x y && sames xs ys)
      rw [NP.eqv h1 g1, NPs.eqv h2 g2]
end
mutual
theorem kyIs.reads : ∀ {x : D} {v : Value}, kyIs h x v → ∃ p as, Reads h v p as ∧ NP x p
  | .int i, v, hx => by
    rcases hx with ⟨t, rfl⟩ | ⟨b, rfl, e⟩
    · exact ⟨_, _, .int i t, .inl rfl⟩
    · exact ⟨_, _, .bool b, .inr ⟨b, rfl, e⟩⟩
  | .str x, v, hx => by
    obtain ⟨h1, t, rfl⟩ := hx
    exact ⟨_, _, .str x t, h1, rfl⟩
  | .tup ds, v, hx => by
    obtain ⟨a, o, its, n, rfl, e1, e2, e3, e4⟩ := hx
    obtain ⟨ps, as, r, np⟩ := kysAre.reads e4
    exact ⟨_, _, .tuple e1 e2 e3 r, ps, rfl, np⟩
theorem kysAre.reads : ∀ {xs : List D} {vs : List Value}, kysAre h xs vs → ∃ ps as, ReadsAll h vs ps as ∧ NPs xs ps
  | [], vs, hx => by
    have hx : vs = [] := hx
    subst hx
    exact ⟨_, _, .nil, rfl⟩
  | x :: xs, vs, hx => by
    obtain ⟨v, us, rfl, h1, h2⟩ := hx
    obtain ⟨p, as, r, np⟩ := kyIs.reads h1
    obtain ⟨ps, bs, rs, nps⟩ := kysAre.reads h2
    exact ⟨_, _, .cons r rs, p, ps, rfl, np, nps⟩
end
theorem same_dec (x y : D) : D.same x y = decide (x = y) := by
  by_cases e : x = y
  · subst e
    rw [same_refl, decide_eq_true rfl]
  · rw [decide_eq_false e]
    cases q : D.same x y with
    | false => rfl
    | true => exact absurd (same_eq q) e
theorem ky_eq {s : Shared} {x y : D} {u v : Value} {Q : Bool → Shared → Prop} (hu : A.units + dep x < cLine) (hx : kyIs s.heap x u) (hy : kyIs s.heap y v) (hq : Q (decide (x = y)) s) : wpAny (model P w) A (eqBool u v) Q E s := by
  obtain ⟨p, as, r1, n1⟩ := hx.reads
  obtain ⟨q, bs, r2, n2⟩ := hy.reads
  refine SeqAt.eqAt_reads p q A s u v as bs r1 r2 n1.lay.1 n2.lay.1 ?_ P w E Q ?_
  · rw [n1.lay.2]
    omega
  · rw [n1.eqv n2, same_dec]
    exact hq
theorem ky_quiet (n : Nat) : ∀ {A : Around} {E : Value → Shared → Prop} {s : Shared} {d : D} {v : Value} {Q : Bool → Shared → Prop}, dep d ≤ n → kyIs s.heap d v → Q true s → wpAny (model P w) A (eqIsQuiet n v) Q E s := by
  have sc : ∀ {n : Nat} {A : Around} {E : Value → Shared → Prop} {s : Shared} {d : D} {v : Value} {Q : Bool → Shared → Prop}, dep d = 0 → kyIs s.heap d v → Q true s → wpAny (model P w) A (eqIsQuiet n v) Q E s := by
    intro n A E s d v Q hd hk hq
    have hv : carriedByValue v = true := by
      cases d with
      | int i => rcases hk with ⟨t, rfl⟩ | ⟨b, rfl, rfl⟩ <;> rfl
      | str i => obtain ⟨_, t, rfl⟩ := hk; rfl
      | tup ds => exact nomatch hd
      | _ => exact hk.elim
    rw [eqIsQuiet_byValue n hv]
    exact wpAny_pure hq
  induction n with
  | zero => intro A E s d v Q hd hk hq; exact sc (Nat.le_zero.mp hd) hk hq
  | succ n ih =>
    intro A E s d v Q hd hk hq
    by_cases h0 : dep d = 0
    · exact sc h0 hk hq
    clear sc
    cases d with
    | tup ds => ?_
    | _ => exact absurd rfl h0
    clear h0
    have tT := hk.tupT
    have hds : deps ds ≤ n := Nat.le_of_succ_le_succ hd
    obtain ⟨a, o, its, m, rfl, e1, e2, e3, e4⟩ := hk
    unfold eqIsQuiet
    refine wpAny_bind (wpAny_specialOf tT F.slot_tuple_eq.lookup ?_)
    show wpAny _ _ (isInstance (.ref a) (.type "tuple") >>= _) _ _ s
    refine wpAny_bind (wpAny_isInstance tT isSubtype_tuple_tuple ?_)
    simp only [Bool.not_true, Bool.false_eq_true, if_false]
    refine wpAny_bind (wpAny_seqItems e1 e3 ?_)
    refine wpAny_bind ?_
    show wpAny _ _ (forIn its _ _) _ _ s
    rw [← Array.forIn_toList]
    refine wpAny_forIn_list _ (fun rest r s' => r.1 = none ∧ s' = s ∧ ∃ left, kysAre s.heap left rest ∧ deps left ≤ n) _ ?_ ?_ _ _ ⟨rfl, rfl, ds, e4, hds⟩
    · rintro v rest r s' ⟨hr, rfl, left, hl, hn⟩
      cases left with
      | nil => exact nomatch (show v :: rest = [] from hl)
      | cons d left =>
        obtain ⟨v', us, e, g1, g2⟩ := hl
        cases e
        have hn : max (dep d) (deps left) ≤ n := hn
        refine wpAny_bind (ih (by omega) g1 ?_)
        simp only [Bool.not_true, Bool.false_eq_true, if_false]
        exact wpAny_pure ⟨rfl, rfl, left, g2, by omega⟩
    · rintro ⟨r1, r2⟩ s' ⟨hr, rfl, _⟩
      simp only at hr
      subst hr
      exact wpAny_pure hq
/-- tuples of any form as keys -/
def treeK (P : Program) (w : World) : HeapKind P w D where
  is := fun h d a => kyIs h d (.ref a) ∧ dep d ≤ 8
  hash := kyHash w
  draws := kyDraws
  room := fun A => A.units + 10 < cLine
  inj := fun hx hy => hx.1.inj hy.1
  keeps := fun {h h' k a d o es ep} x ho hd hs => ⟨x.1.to fun b ob e1 _ e2 => (hs.2 b (fun z => by
    subst z
    obtain ⟨its, n, e2⟩ := e2
    rw [ho] at e1
    cases e1
    rw [hd] at e2
    cases e2)).trans e1, x.2⟩
  pyHash := fun hu hk hq => ky_hash 8 hk.2 (by omega) hk.1 hq
  eqBool := fun hu hx hy hq => ky_eq (by have := hx.2; omega) hx.1 hy.1 hq
  quiet := fun hk hq => ky_quiet 8 hk.2 hk.1 hq
end
end Mi

/-! Mi, part A: a small evaluator for the part of Python in which the laws and the program are written. -/
namespace Mi
open PySem PySem.Spec

/-- what stands at a number -/
inductive Cell where
  | lst (ds : List D)
  | frz (ds : List D)
  | dic (kvs : List (D × D))
  | ins (c : Nat) (fs : List (Str × D))
  deriving Inhabited

abbrev Store := List Cell
structure Exn where
  x : Nat
  fs : List (Str × D)

inductive Out (α : Type) where
  | ok (a : α) (S : Store)
  | er (e : Exn) (S : Store)
  | no
abbrev M (α : Type) := Store → Out α
def M.ret {α : Type} (a : α) : M α := fun S => .ok a S
def M.bnd {α β : Type} (m : M α) (f : α → M β) : M β := fun S => match m S with
  | .ok a S' => f a S'
  | .er e S' => .er e S'
  | .no => .no
def M.fail {α : Type} : M α := fun _ => .no
def M.need (b : Bool) : M Unit := if b then M.ret () else M.fail
instance : Monad M where
  pure := M.ret
  bind := M.bnd

abbrev Env := List (Option D)
abbrev lim : Nat := 1000000

/-! ### the store -/
def getL (r : Nat) : M (List D) := fun S => match S[r]? with
  | some (.lst ds) => .ok ds S
  | some (.frz ds) => .ok ds S
  | _ => .no
/-- a list that may be written -/
def getW (r : Nat) : M (List D) := fun S => match S[r]? with
  | some (.lst ds) => .ok ds S
  | _ => .no
def setL (r : Nat) (ds : List D) : M Unit := fun S => match S[r]? with
  | some (.lst _) => .ok () (S.set r (.lst ds))
  | _ => .no
def newC (c : Cell) : M D := fun S => .ok (.ref S.length) (S ++ [c])
def ofO {α : Type} : Option α → M α
  | some a => M.ret a
  | none => M.fail

/-! ### dicts -/
def isS : D → Bool
  | .int _ => true
  | .str _ => true
  | _ => false
mutual
def keyB : D → Bool
  | .int _ => true
  | .str x => PyData.strOk x
  | .tup ds => keysB ds
  | _ => false
def keysB : List D → Bool
  | [] => true
  | d :: ds => keyB d && keysB ds
end
def isT : D → Bool
  | .tup ds => keysB ds && decide (dep (.tup ds) ≤ 8)
  | _ => false
/-- keys of one kind: numbers and texts, or tuples -/
def kOk (kvs : List (D × D)) (k : D) : Bool := (isS k && kvs.all fun p => isS p.1) || (isT k && kvs.all fun p => isT p.1)
def dval (kvs : List (D × D)) (k : D) : Option D := (kvs.find? fun p => decide (p.1 = k)).map (·.2)
def dput (kvs : List (D × D)) (k v : D) : List (D × D) := if (kvs.any fun p => decide (p.1 = k)) = true then kvs.map (fun p => if p.1 = k then (p.1, v) else p) else kvs ++ [(k, v)]
/-- a dict and a key that fits -/
def getK (r : Nat) (k : D) : M (List (D × D)) := fun S => match S[r]? with
  | some (.dic kvs) => if kOk kvs k then .ok kvs S else .no
  | _ => .no
def putD (r : Nat) (k v : D) : M Unit := fun S => match S[r]? with
  | some (.dic kvs) => if kOk kvs k && decide (kvs.length < lim) then .ok () (S.set r (.dic (dput kvs k v))) else .no
  | _ => .no
def isDic (S : Store) (r : Nat) : Bool := match S[r]? with
  | some (.dic _) => true
  | _ => false
def getD (r : Nat) : M (List (D × D)) := fun S => match S[r]? with
  | some (.dic kvs) => .ok kvs S
  | _ => .no
/-- one way for a dict, one for anything else -/
def orD {α : Type} (r : Nat) (m m' : M α) : M α := fun S => if isDic S r then m S else m' S

/-! ### data as the library's own -/
def toPy (S : Store) : Nat → D → Option PyData
  | 0, _ => none
  | n + 1, d => match d with
    | .non => some .none
    | .bl b => some (.bool b)
    | .int i => some (.int i)
    | .str x => if PyData.strOk x then some (.str x) else none
    | .tup ds => (ds.mapM (toPy S n)).map .tuple
    | .ref r => match S[r]? with
      | some (.lst ds) => (ds.mapM (toPy S n)).map .list
      | some (.frz ds) => (ds.mapM (toPy S n)).map .list
      | _ => none
    | _ => none
/-- ==; of scalars of one kind at once -/
def eqM : D → D → M Bool
  | .int i, .int j => M.ret (decide (i = j))
  | .str x, .str y => M.ret (decide (x = y))
  | .bl x, .bl y => M.ret (decide (x = y))
  | .non, .non => M.ret true
  | .int _, .str _ => M.ret false
  | .str _, .int _ => M.ret false
  | a, b => fun S => match toPy S 60 a, toPy S 60 b with
    | some p, some q => .ok (PyData.eqv p q) S
    | _, _ => .no

/-! ### operators -/
inductive BOp where
  | add | sub | mul | fdiv | mod | pow | shl | shr | band
  deriving DecidableEq
inductive COp where
  | eq | ne | lt | le | gt | ge | is_ | isnt | in_ | nin
  deriving DecidableEq

def inW (i : Int) : Bool := decide (-(2 ^ 64) < i ∧ i < 2 ^ 64)
def binM : BOp → D → D → M D
  | .add, .int i, .int j => M.ret (.int (i + j))
  | .add, .str x, .str y => do M.need (decide (x.length + y.length ≤ lim)); M.ret (.str (x ++ y))
  | .add, .tup xs, .tup ys => do M.need (decide (xs.length + ys.length ≤ lim)); M.ret (.tup (xs ++ ys))
  | .add, .ref a, .ref b => do
    let xs ← getW a
    let ys ← getW b
    M.need (decide (xs.length + ys.length ≤ lim))
    newC (.lst (xs ++ ys))
  | .sub, .int i, .int j => M.ret (.int (i - j))
  | .mul, .int i, .int j => do M.need (inW i || inW j); M.ret (.int (i * j))
  | .mul, .tup ds, .int k => do M.need (!ds.isEmpty && decide (2 ≤ k ∧ k ≤ 1000000 ∧ k.toNat * ds.length ≤ 1000000)); M.ret (.tup (List.replicate k.toNat ds).flatten)
  | .fdiv, .int i, .int j => do M.need (decide (j ≠ 0 ∧ j.natAbs < 1073741824)); M.ret (.int (i.fdiv j))
  | .mod, .int i, .int j => do M.need (decide (j ≠ 0)); M.ret (.int (i.fmod j))
  | .pow, .int i, .int j => do M.need (decide (0 ≤ j ∧ j ≤ 1000000 ∧ i.natAbs < 2 ^ 64)); M.ret (.int (i ^ j.toNat))
  | _, _, _ => M.fail

/-- x op= y -/
def augM : BOp → D → D → M D
  | .add, .int i, .int j => M.ret (.int (i + j))
  | .sub, .int i, .int j => M.ret (.int (i - j))
  | _, _, _ => M.fail
def isM : D → D → M Bool
  | x, .non => M.ret (match x with | .non => true | _ => false)
  | .bl a, .bl b => M.ret (decide (a = b))
  | _, _ => M.fail
/-- whether some item of a list is == x -/
def anyEq (x : D) (ds : List D) : M Bool := fun S => match toPy S 60 x, ds.mapM (toPy S 59) with
  | some p, some qs => .ok (qs.any fun z => PyData.eqv z p) S
  | _, _ => .no
def inSg (y : Str) : List Nat → M Bool
  | [c] => M.ret (decide (c ∈ y.cps.toList))
  | _ => M.fail
def inM : D → D → M Bool
  | .str x, .str y => inSg y x.cps.toList
  | x, .tup ds => anyEq x ds
  | x, .ref r => orD r (do let kvs ← getK r x; M.ret (dval kvs x).isSome) (do let ds ← getL r; anyEq x ds)
  | _, _ => M.fail
def cmpM : COp → D → D → M Bool
  | .eq, x, y => eqM x y
  | .ne, x, y => do let b ← eqM x y; M.ret (!b)
  | .lt, .int i, .int j => M.ret (decide (i < j))
  | .le, .int i, .int j => M.ret (decide (i ≤ j))
  | .gt, .int i, .int j => M.ret (decide (j < i))
  | .ge, .int i, .int j => M.ret (decide (j ≤ i))
  | .is_, x, y => isM x y
  | .isnt, x, y => do let b ← isM x y; M.ret (!b)
  | .in_, x, y => inM x y
  | .nin, x, y => do let b ← inM x y; M.ret (!b)
  | _, _, _ => M.fail

def truthM : D → M Bool
  | .non => M.ret false
  | .bl b => M.ret b
  | .int i => M.ret (i != 0)
  | .str x => do M.need (decide (x.length ≤ lim)); M.ret ((x.length : Int) != 0)
  | .tup ds => M.ret (!ds.isEmpty)
  | .ref r => do let ds ← getL r; M.ret (!ds.isEmpty)
  | _ => M.fail

/-! ### items, parts -/
def asInt : D → M Int
  | .int i => M.ret i
  | _ => M.fail

def ixM : D → D → M D
  | .tup ds, .int i => ofO (L2.atI ds i)
  | .ref r, y => orD r (do let kvs ← getK r y; ofO (dval kvs y)) (do let i ← asInt y; let ds ← getL r; ofO (L2.atI ds i))
  | .str x, .int i => do M.need (decide (x.length ≤ lim)); let c ← ofO (L2.atI x.cps.toList i); M.ret (.str ⟨#[c]⟩)
  | _, _ => M.fail
def setIx : D → D → D → M Unit
  | .ref r, y, v => orD r (putD r y v) (do
    let i ← asInt y
    let ds ← getW r
    let j ← ofO (L2.ixN ds.length i)
    setL r (ds.set j v))
  | _, _, _ => M.fail
def cutL {α : Type} (xs : List α) (lo hi : Option Int) : List α := (xs.drop (HT.sIx xs.length 0 lo)).take (HT.sIx xs.length xs.length hi - HT.sIx xs.length 0 lo)
def slM : D → Option Int → Option Int → M D
  | .tup ds, lo, hi => M.ret (.tup (cutL ds lo hi))
  | .ref r, lo, hi => do let ds ← getL r; newC (.lst (cutL ds lo hi))
  | .str x, lo, hi => do M.need (decide (x.length ≤ lim)); M.ret (.str ⟨(cutL x.cps.toList lo hi).toArray⟩)
  | _, _, _ => M.fail
/-! ### what is built in -/
inductive Blt where
  | len | int | tuple | list | max | min | abs | all | any | sum | isi | repr
  deriving DecidableEq
def tyM : D → M Ty
  | .non => M.ret .non
  | .bl _ => M.ret .bool
  | .int _ => M.ret .int
  | .str _ => M.ret .str
  | .tup _ => M.ret .tup
  | .ref r => fun S => match S[r]? with
    | some (.lst _) => .ok .lst S
    | some (.frz _) => .ok .lst S
    | _ => .no
  | _ => M.fail
def asTys : List D → Option (List Ty)
  | [] => some []
  | .ty t :: r => (asTys r).map (t :: ·)
  | _ => none
def asBls : List D → Option (List Bool)
  | [] => some []
  | .bl t :: r => (asBls r).map (t :: ·)
  | _ => none
def asInts : List D → Option (List Int)
  | [] => some []
  | .int t :: r => (asInts r).map (t :: ·)
  | _ => none
def bltM : Blt → List D → M D
  | .len, [.tup ds] => M.ret (.int ds.length)
  | .len, [.ref r] => orD r (do let kvs ← getD r; M.ret (.int kvs.length)) (do let ds ← getL r; M.ret (.int ds.length))
  | .len, [.str x] => do M.need (decide (x.length ≤ lim)); M.ret (.int x.length)
  | .int, [.int i] => M.ret (.int i)
  | .int, [.bl b] => M.ret (.int (if b then 1 else 0))
  | .tuple, [.tup ds] => M.ret (.tup ds)
  | .tuple, [.ref r] => do let ds ← getL r; M.ret (.tup ds)
  | .list, [.tup ds] => newC (.lst ds)
  | .list, [.ref r] => do let ds ← getL r; newC (.lst ds)
  | .max, [.int i, .int j] => M.ret (.int (if j > i then j else i))
  | .min, [.int i, .int j] => M.ret (.int (if j < i then j else i))
  | .abs, [.int i] => M.ret (.int (if i < 0 then -i else i))
  | .all, [.ref r] => do let ds ← getL r; let bs ← ofO (asBls ds); M.ret (.bl (bs.all id))
  | .any, [.ref r] => do let ds ← getL r; let bs ← ofO (asBls ds); M.ret (.bl (bs.any id))
  | .sum, [.ref r] => do let ds ← getL r; let ns ← ofO (asInts ds); M.ret (.int ns.sum)
  | .repr, [.bl b] => M.ret (.str (if b then "True" else "False"))
  | .repr, [.tup ds] => fun S => match toPy S 20 (.tup ds) with
    | some p => (M.need (p.showable && (!p.hasDict && decide (p.shown.length ≤ lim))) >>= fun _ => M.ret (D.str p.shown)) S
    | none => .no
  | .isi, [x, .ty t] => do let s ← tyM x; M.ret (.bl (Ty.sub s t))
  | .isi, [x, .tup ts] => do let s ← tyM x; let us ← ofO (asTys ts); M.ret (.bl (us.any (Ty.sub s)))
  | _, _ => M.fail

/-- methods of what is built in -/
inductive Mth where
  | append | pop | extend | get | setdefault
  deriving DecidableEq
def mthM : Mth → D → List D → M D
  | .append, .ref r, [x] => do
    let ds ← getW r
    M.need (decide (ds.length < lim))
    setL r (ds ++ [x])
    M.ret .non
  | .extend, .ref r, [.ref q] => do
    let ds ← getW r
    let es ← getW q
    M.need (decide (ds.length + es.length ≤ lim))
    setL r (ds ++ es)
    M.ret .non
  | .pop, .ref r, [] => do
    let ds ← getW r
    let x ← ofO ds[ds.length - 1]?
    setL r ds.dropLast
    M.ret x
  | .pop, .ref r, [.int i] => do
    M.need (decide (-(2 ^ 63) ≤ i ∧ i < 2 ^ 63))
    let ds ← getW r
    let k ← ofO (L2.ixN ds.length i)
    let x ← ofO ds[k]?
    setL r (ds.eraseIdx k)
    M.ret x
  | .get, .ref r, [k, v] => do
    let kvs ← getK r k
    M.ret ((dval kvs k).getD v)
  | .setdefault, .ref r, [k, v] => do
    let kvs ← getK r k
    M.need (decide (kvs.length < lim))
    match dval kvs k with
    | some x => M.ret x
    | none => do
      putD r k v
      M.ret v
  | _, _, _ => M.fail

/-- the receiver is a list, or a dict -/
def mthPre : Mth → D → M Unit
  | .get, .ref r => do let _ ← getD r; M.ret ()
  | .setdefault, .ref r => do let _ ← getD r; M.ret ()
  | _, .ref r => do let _ ← getL r; M.ret ()
  | _, _ => M.fail

/-! ### the terms -/
inductive Tg where
  | v (i : Nat)
  | t (is : List Nat)
mutual
inductive Ex where
  | lit (d : D)
  | var (i : Nat)
  | bin (o : BOp) (a b : Ex)
  | cmp (o : COp) (a b : Ex)
  | chn (o o' : COp) (a b c : Ex)
  | neg (a : Ex)
  | not (a : Ex)
  | and (a b : Ex)
  | or (a b : Ex)
  | ite (c a b : Ex)
  | tup (es : List Ex)
  | lst (es : List Ex)
  | ix (a i : Ex)
  | sl (a : Ex) (lo hi : Option Ex)
  | call (f : Nat) (es : List Ex)
  | blt (b : Blt) (es : List Ex)
  | mth (m : Mth) (a : Ex) (es : List Ex)
  | dic
  | fld (a : Ex) (f : Str)
  | mcl (cs : List (Nat × Nat)) (m : Str) (a : Ex) (es : List Ex)
  | mk (c f : Nat) (es : List Ex)
  | lc (it : Itn) (tg : Tg) (vs : List Nat) (c : Option Ex) (e : Ex)
  | dc (it : Itn) (tg : Tg) (vs : List Nat) (c : Option Ex) (k v : Ex)
inductive Itn where
  | seq (e : Ex)
  | rng (es : List Ex)
  | enu (e : Ex)
  | zip (a b : Ex)
end
/-- what an except suite does -/
inductive HR where
  | ret (d : D) | fld (f : Str) | fld2 (f g : Str) | nx | ct
/-- an except clause: its class, which errors it takes, its name, its suite -/
structure Hdl where
  c : Nat
  ms : List Bool
  nm : Option Nat
  r : HR
inductive Sx where
  | expr (e : Ex)
  | asg (t : Tg) (e : Ex)
  | asgIx (a i e : Ex)
  | asgF (a : Ex) (f : Str) (e : Ex)
  | augF (a : Ex) (f : Str) (o : BOp) (d : D)
  | par (is : List Nat) (es : List Ex)
  | aug (i : Nat) (o : BOp) (e : Ex)
  | ite (c : Ex) (a b : List Sx)
  | whl (c : Ex) (b : List Sx)
  | for_ (t : Tg) (it : Itn) (b : List Sx)
  | ret (e : Ex)
  | retN
  | brk | cnt | pass
  | raise (x : Nat) (fs : List Str) (es : List Ex)
  | try_ (b : List Sx) (hs : List Hdl)

/-! ### sources of loops -/
inductive Src where
  | items (ds : List D)
  | cell (r : Nat)
  | enu (s : Src)
  | zip (s t : Src)
def Src.at : Src → Nat → M (Option D)
  | .items ds, i => M.ret ds[i]?
  | .cell r, i => do let ds ← getL r; M.ret ds[i]?
  | .enu s, i => do
    match ← s.at i with
    | some d => M.ret (some (.tup [.int i, d]))
    | none => M.ret none
  | .zip s t, i => do
    match ← s.at i with
    | some d => match ← t.at i with
      | some e => M.ret (some (.tup [d, e]))
      | none => M.ret none
    | none => M.ret none
def srcOf : D → M Src
  | .tup ds => M.ret (.items ds)
  | .ref r => do let _ ← getL r; M.ret (.cell r)
  | .str x => M.ret (.items (x.cps.toList.map fun c => .str ⟨#[c]⟩))
  | _ => M.fail
def enuOf : D → M Src
  | .ref r => do let _ ← getL r; M.ret (.enu (.cell r))
  | _ => M.fail
def rngD (lo n : Int) : List D := (List.range (n - lo).toNat).map fun k => D.int (lo + (k : Nat))
def rngDn (i j : Int) : List D := (List.range (i - j).toNat).map fun k => D.int (i - (k : Nat))
def in62 (i : Int) : Bool := decide (-(2 ^ 62) ≤ i ∧ i < 2 ^ 62)
def rngM : List D → M Src
  | [.int n] => do M.need (in62 n); M.ret (.items (rngD 0 n))
  | [.int a, .int n] => do M.need (in62 a && in62 n); M.ret (.items (rngD a n))
  | [.int a, .int n, .int c] => do M.need (decide (c = -1) && (in62 a && in62 n)); M.ret (.items (rngDn a n))
  | _ => M.fail
def setAll : List Nat → List D → Env → Env
  | i :: is, d :: ds, env => setAll is ds (env.set i (some d))
  | _, _, env => env
def Tg.bind : Tg → D → Env → M Env
  | .v i, d, env => M.ret (env.set i (some d))
  | .t is, .tup ds, env => do M.need (decide (ds.length = is.length)); M.ret (setAll is ds env)
  | .t is, .ref r, env => do let ds ← getL r; M.need (decide (ds.length = is.length)); M.ret (setAll is ds env)
  | _, _, _ => M.fail
def wipeE (env : Env) : List Nat → Env
  | [] => env
  | v :: vs => (wipeE env vs).set v none

/-! ### instances -/
def getI (r : Nat) : M (Nat × List (Str × D)) := fun S => match S[r]? with
  | some (.ins c fs) => .ok (c, fs) S
  | _ => .no
def fldM : D → Str → M D
  | .ref r, f => do let p ← getI r; ofO (p.2.lookup f)
  | _, _ => M.fail
/-- no field of this name -/
def mthIs : D → Str → M Unit
  | .ref r, m => do let p ← getI r; M.need (p.2.lookup m).isNone
  | _, _ => M.fail
/-- the def that is the method of its class -/
def whose (cs : List (Nat × Nat)) : D → M Nat
  | .ref r => do let p ← getI r; ofO (cs.lookup p.1)
  | _ => M.fail
def isNon : D → M Unit
  | .non => M.ret ()
  | _ => M.fail
def setF : List (Str × D) → Str → D → List (Str × D)
  | [], f, d => [(f, d)]
  | (g, x) :: r, f, d => if g = f then (g, d) :: r else (g, x) :: setF r f d
def putF : D → Str → D → M Unit
  | .ref r, f, d => fun S => match S[r]? with
    | some (.ins c fs) => if fs.length < 1000 then .ok () (S.set r (.ins c (setF fs f d))) else .no
    | _ => .no
  | _, _, _ => M.fail

/-! ### reading terms -/
structure Gen where
  call : Nat → List D → M D
  L : Nat
/-- an error may not leave a comprehension -/
def calmM {α : Type} (m : M α) : M α := fun S => match m S with
  | .ok a S' => .ok a S'
  | _ => .no
def lcLoop (s : Src) (tg : Tg) (c : Env → M Bool) (e : Env → M D) (env : Env) (r : Nat) : Nat → Nat → M Unit
  | 0, _ => M.fail
  | n + 1, i => do
    match ← s.at i with
    | none => M.ret ()
    | some d =>
      let env' ← tg.bind d env
      let k ← c env'
      if k then do
        let x ← e env'
        let ds ← getW r
        M.need (decide (ds.length < lim))
        setL r (ds ++ [x])
        lcLoop s tg c e env r n (i + 1)
      else lcLoop s tg c e env r n (i + 1)
def dcLoop (s : Src) (tg : Tg) (c : Env → M Bool) (k v : Env → M D) (env : Env) (r : Nat) : Nat → Nat → M Unit
  | 0, _ => M.fail
  | n + 1, i => do
    match ← s.at i with
    | none => M.ret ()
    | some d =>
      let env' ← tg.bind d env
      let b ← c env'
      if b then do
        let x ← k env'
        let y ← v env'
        putD r x y
        dcLoop s tg c k v env r n (i + 1)
      else dcLoop s tg c k v env r n (i + 1)
mutual
def ev (G : Gen) : Ex → Env → M D
  | .lit d, _ => M.ret d
  | .var i, env => match env[i]? with
    | some (some d) => M.ret d
    | _ => M.fail
  | .bin o a b, env => do let x ← ev G a env; let y ← ev G b env; binM o x y
  | .cmp o a b, env => do let x ← ev G a env; let y ← ev G b env; let k ← cmpM o x y; M.ret (.bl k)
  | .chn o o' a b c, env => do
    let x ← ev G a env
    let y ← ev G b env
    let k ← cmpM o x y
    if k then do let z ← ev G c env; let k' ← cmpM o' y z; M.ret (.bl k') else M.ret (.bl false)
  | .neg a, env => do let x ← ev G a env; let i ← asInt x; M.ret (.int (-i))
  | .not a, env => do let x ← ev G a env; let k ← truthM x; M.ret (.bl (!k))
  | .and a b, env => do let x ← ev G a env; let k ← truthM x; if k then ev G b env else M.ret x
  | .or a b, env => do let x ← ev G a env; let k ← truthM x; if k then M.ret x else ev G b env
  | .ite c a b, env => do let x ← ev G c env; let k ← truthM x; if k then ev G a env else ev G b env
  | .tup es, env => do let ds ← evs G es env; M.need (decide (ds.length ≤ lim)); M.ret (.tup ds)
  | .lst es, env => do let ds ← evs G es env; M.need (decide (ds.length ≤ lim)); newC (.lst ds)
  | .ix a i, env => do let x ← ev G a env; let y ← ev G i env; ixM x y
  | .sl a lo hi, env => do let x ← ev G a env; let l ← evo G lo env; let h ← evo G hi env; slM x l h
  | .call f es, env => do let ds ← evs G es env; G.call f ds
  | .blt b es, env => do let ds ← evs G es env; bltM b ds
  | .mth m a es, env => do let x ← ev G a env; mthPre m x; let ds ← evs G es env; mthM m x ds
  | .dic, _ => newC (.dic [])
  | .fld a f, env => do let x ← ev G a env; fldM x f
  | .mcl cs m a es, env => do let x ← ev G a env; mthIs x m; let i ← whose cs x; let ds ← evs G es env; G.call i (x :: ds)
  | .mk c f es, env => do let ds ← evs G es env; let x ← newC (.ins c []); let d ← G.call f (x :: ds); isNon d; M.ret x
  | .lc it tg vs c e, env => do
    let s ← evi G it env
    let d ← newC (.lst [])
    match d with
    | .ref r => do
      let _ ← calmM (lcLoop s tg (fun env' => evc G c env') (fun env' => ev G e env') (wipeE env vs) r G.L 0)
      M.ret d
    | _ => M.fail
  | .dc it tg vs c k v, env => do
    let s ← evi G it env
    let d ← newC (.dic [])
    match d with
    | .ref r => do
      let _ ← calmM (dcLoop s tg (fun env' => evc G c env') (fun env' => ev G k env') (fun env' => ev G v env') (wipeE env vs) r G.L 0)
      M.ret d
    | _ => M.fail
def evs (G : Gen) : List Ex → Env → M (List D)
  | [], _ => M.ret []
  | e :: es, env => do let d ← ev G e env; let ds ← evs G es env; M.ret (d :: ds)
def evo (G : Gen) : Option Ex → Env → M (Option Int)
  | none, _ => M.ret none
  | some e, env => do let d ← ev G e env; let i ← asInt d; M.ret (some i)
def evc (G : Gen) : Option Ex → Env → M Bool
  | none, _ => M.ret true
  | some e, env => do let d ← ev G e env; truthM d
def evi (G : Gen) : Itn → Env → M Src
  | .seq e, env => do let d ← ev G e env; srcOf d
  | .rng es, env => do let ds ← evs G es env; rngM ds
  | .enu e, env => do let d ← ev G e env; enuOf d
  | .zip a b, env => M.fail
end
/-- a test -/
def evT (G : Gen) (e : Ex) (env : Env) : M Bool := do let d ← ev G e env; truthM d

/-! ### statements -/
inductive Fl where
  | nx | rt (d : D) | bk | ct
inductive SR where
  | go (f : Fl) (env : Env) (S : Store)
  | er (e : Exn) (env : Env) (S : Store)
  | no
abbrev SM := Env → Store → SR
def bndS {α : Type} (m : M α) (env : Env) (f : α → Store → SR) : Store → SR := fun S => match m S with
  | .ok a S' => f a S'
  | .er e S' => .er e env S'
  | .no => .no
def nxS : SM := fun env S => .go .nx env S
def whileF (c : Env → M Bool) (b : SM) : Nat → SM
  | 0, _, _ => .no
  | n + 1, env, S => bndS (c env) env (fun k S1 => if k then
      match b env S1 with
      | .go .nx env2 S2 => whileF c b n env2 S2
      | .go .ct env2 S2 => whileF c b n env2 S2
      | .go .bk env2 S2 => .go .nx env2 S2
      | r => r
    else .go .nx env S1) S
def forF (s : Src) (tg : Tg) (b : SM) : Nat → Nat → SM
  | 0, _, _, _ => .no
  | n + 1, i, env, S => bndS (s.at i) env (fun o S1 => match o with
    | none => .go .nx env S1
    | some d => bndS (tg.bind d env) env (fun env1 S2 => match b env1 S2 with
      | .go .nx env2 S2 => forF s tg b n (i + 1) env2 S2
      | .go .ct env2 S2 => forF s tg b n (i + 1) env2 S2
      | .go .bk env2 S2 => .go .nx env2 S2
      | r => r) S1) S
def Hdl.wipe (h : Hdl) (env : Env) : Env := match h.nm with
  | some i => env.set i none
  | none => env
def runR (h : Hdl) (e : Exn) (env : Env) (S : Store) : SR := match h.r with
  | .ret d => .go (.rt d) env S
  | .fld f => if e.x = h.c then (match e.fs.lookup f with | some d => .go (.rt d) env S | none => .no) else .no
  | .fld2 f g => if e.x = h.c then (match e.fs.lookup f, e.fs.lookup g with | some d, some d' => .go (.rt (.tup [d, d'])) env S | _, _ => .no) else .no
  | .nx => .go .nx (h.wipe env) S
  | .ct => .go .ct (h.wipe env) S
def runH : List Hdl → Exn → Env → Store → SR
  | [], e, env, S => .er e env S
  | h :: hs, e, env, S => match h.ms[e.x]? with
    | some true => runR h e env S
    | some false => runH hs e env S
    | none => .no
mutual
def xs (G : Gen) : Sx → SM
  | .raise x fs es, env, S => bndS (evs G es env) env (fun ds S' => if ds.length = fs.length then .er ⟨x, fs.zip ds⟩ env S' else .no) S
  | .try_ b hs, env, S => match xss G b env S with
    | .er e env' S' => runH hs e env' S'
    | r => r
  | .expr e, env, S => bndS (ev G e env) env (fun _ S' => .go .nx env S') S
  | .asg t e, env, S => bndS (ev G e env) env (fun d S' => bndS (t.bind d env) env (fun env' S2 => .go .nx env' S2) S') S
  | .asgIx a i e, env, S => bndS (do let v ← ev G e env; let x ← ev G a env; let y ← ev G i env; setIx x y v) env (fun _ S' => .go .nx env S') S
  | .asgF a f e, env, S => bndS (do let v ← ev G e env; let x ← ev G a env; putF x f v) env (fun _ S' => .go .nx env S') S
  | .augF a f o d, env, S => bndS (do let x ← ev G a env; let v ← fldM x f; let z ← augM o v d; putF x f z) env (fun _ S' => .go .nx env S') S
  | .par is es, env, S => bndS (evs G es env) env (fun ds S' => if ds.length = is.length then .go .nx (setAll is ds env) S' else .no) S
  | .aug i o e, env, S => match env[i]? with
    | some (some x) => bndS (do let y ← ev G e env; augM o x y) env (fun d S' => .go .nx (env.set i (some d)) S') S
    | _ => .no
  | .ite c a b, env, S => bndS (evT G c env) env (fun k S' => if k then xss G a env S' else xss G b env S') S
  | .whl c b, env, S => whileF (evT G c) (fun env' S' => xss G b env' S') G.L env S
  | .for_ t it b, env, S => bndS (evi G it env) env (fun s S' => forF s t (fun env' S2 => xss G b env' S2) G.L 0 env S') S
  | .ret e, env, S => bndS (ev G e env) env (fun d S' => .go (.rt d) env S') S
  | .retN, env, S => .go (.rt .non) env S
  | .brk, env, S => .go .bk env S
  | .cnt, env, S => .go .ct env S
  | .pass, env, S => .go .nx env S
def xss (G : Gen) : List Sx → SM
  | [], env, S => .go .nx env S
  | s :: ss, env, S => match xs G s env S with
    | .go .nx env' S' => xss G ss env' S'
    | r => r
end
end Mi

/-! Mi, part B: how data stand in the heap. -/
namespace Mi
open PySem PySem.Spec PyProof.Rows L2

/-- where defs, classes and errors stand -/
structure Adr where
  fa : Nat → Addr
  ca : Nat → Addr
  xa : Nat → Addr
  w : World

/-- a tuple: tracked, or of the written part -/
def TupAt (K : PySem.W.Frag) (H : Hp) (a : Addr) (xs : List V) : Prop :=
  H a = some (.tup xs) ∨ ∃ (o : Obj) (its : Array Value) (n : Nat), K.lookup a = some o ∧ o.cls = .type "tuple" ∧ o.data = .seq its n ∧ its.size ≤ sizeLine ∧ Vals xs its.toList
theorem TupAt.sq {K : PySem.W.Frag} {H : Hp} {a : Addr} {xs : List V} (h : TupAt K H a xs) : SqT K H a xs := by
  rcases h with h | h
  · exact .inl (.inl h)
  · exact .inr h
/-! ### keys of dicts, and dicts whose keys are tuples -/
mutual
/-- a key, over the heap's word -/
def KyH (K : PySem.W.Frag) (H : Hp) : D → V → Prop
  | .int i, v => v = .int i
  | .str x, v => PyData.strOk x = true ∧ v = .str x
  | .tup ds, v => ∃ a vs, v = .ref a ∧ TupAt K H a vs ∧ KysH K H ds vs
  | _, _ => False
def KysH (K : PySem.W.Frag) (H : Hp) : List D → List V → Prop
  | [], vs => vs = []
  | d :: ds, vs => ∃ v us, vs = v :: us ∧ KyH K H d v ∧ KysH K H ds us
end
mutual
theorem KyH.mono {K : PySem.W.Frag} {H H' : Hp} (t : ∀ a xs, H a = some (.tup xs) → H' a = some (.tup xs)) : ∀ {d : D} {v : V}, KyH K H d v → KyH K H' d v
  | .int _, _, h => h
  | .str _, _, h => h
  | .tup _, _, h => by
    obtain ⟨a, vs, e, q, r⟩ := h
    exact ⟨a, vs, e, q.elim (fun z => .inl (t _ _ z)) .inr, KysH.mono t r⟩
theorem KysH.mono {K : PySem.W.Frag} {H H' : Hp} (t : ∀ a xs, H a = some (.tup xs) → H' a = some (.tup xs)) : ∀ {ds : List D} {vs : List V}, KysH K H ds vs → KysH K H' ds vs
  | [], _, h => h
  | _ :: _, _, h => by
    obtain ⟨v, us, e, h1, h2⟩ := h
    exact ⟨v, us, e, KyH.mono t h1, KysH.mono t h2⟩
end
/-- the object of a dict with such keys -/
structure DObj (w : World) (o : Obj) (xs : List (D × Addr × Value)) : Prop where
  ex : o.ExactDict
  en : ∃ (es : Array DictEntry) (ep : Nat), o.data = .dict es ep ∧ es.toList = xs.map fun x => { hash := kyHash w x.1, key := .ref x.2.1, val := x.2.2 }
  nd : (xs.map (·.1)).Nodup
abbrev dE (a : Addr) (o : Obj) : HO := .ext fun h => h.get? a = some o
abbrev PK (K : PySem.W.Frag) (H : Hp) : List (D × V) → List (D × Addr × Value) → Prop := Paired fun p q => p.1 = q.1 ∧ KyH K H p.1 (.ref q.2.1) ∧ dep p.1 ≤ 8 ∧ RelV p.2 q.2.2
def KD (w : World) (K : PySem.W.Frag) (H : Hp) (a : Addr) (kv : List (D × V)) : Prop :=
  (kv = [] ∧ H a = some (.dK [])) ∨ (kv ≠ [] ∧ ∃ o xs, H a = some (dE a o) ∧ (a == sysModules) = false ∧ kv.length ≤ sizeLine ∧ DObj w o xs ∧ PK K H kv xs)
/-- a key that is a number or a text -/
def kD : Key → D
  | .inl i => .int i
  | .inr x => .str x
mutual
inductive RV (K : PySem.W.Frag) (A : Adr) (μ : List Addr) (H : Hp) : D → V → Prop where
  | non : RV K A μ H .non .non
  | bl (b : Bool) : RV K A μ H (.bl b) (.bl b)
  | int (i : Int) : RV K A μ H (.int i) (.int i)
  | str (x : Str) : RV K A μ H (.str x) (.str x)
  | tup {ds : List D} {a : Addr} {vs : List V} : TupAt K H a vs → RVs K A μ H ds vs → RV K A μ H (.tup ds) (.ref a)
  | ref {n : Nat} {a : Addr} : μ[n]? = some a → RV K A μ H (.ref n) (.ref a)
  | fn (f : Nat) : RV K A μ H (.fn f) (.ref (A.fa f))
  | ty (t : Ty) : RV K A μ H (.ty t) (.ty t.name)
inductive RVs (K : PySem.W.Frag) (A : Adr) (μ : List Addr) (H : Hp) : List D → List V → Prop where
  | nil : RVs K A μ H [] []
  | cons {d : D} {v : V} {ds : List D} {vs : List V} : RV K A μ H d v → RVs K A μ H ds vs → RVs K A μ H (d :: ds) (v :: vs)
end

/-- what the further run leaves of the heap -/
structure Nx (μ : List Addr) (H : Hp) (μ' : List Addr) (H' : Hp) : Prop where
  pre : ∃ l, μ' = μ ++ l ∧ ∀ a ∈ l, H a = none
  tup : ∀ a xs, H a = some (.tup xs) → H' a = some (.tup xs)
  frz : ∀ a o u, H a = some (.frz o u) → H' a = some (.frz o u)
  out : ∀ a o, H a = some o → a ∉ μ → H' a = some o
  stay : ∀ a o, H a = some o → ∃ o', H' a = some o'

section
variable {K : PySem.W.Frag} {A : Adr} {μ μ' μ2 : List Addr} {H H' H2 : Hp}
theorem Nx.refl : Nx μ H μ H := ⟨⟨[], by simp, by simp⟩, fun _ _ h => h, fun _ _ _ h => h, fun _ _ h _ => h, fun _ o h => ⟨o, h⟩⟩
theorem Nx.trans (a : Nx μ H μ' H') (b : Nx μ' H' μ2 H2) : Nx μ H μ2 H2 := by
  obtain ⟨l, e, hl⟩ := a.pre
  obtain ⟨m, e', hm⟩ := b.pre
  refine ⟨⟨l ++ m, by rw [e', e, List.append_assoc], fun x hx => ?_⟩, fun x xs h => b.tup x xs (a.tup x xs h), fun x o u h => b.frz x o u (a.frz x o u h), fun x o h hn => ?_, fun x o h => ?_⟩
  · rcases List.mem_append.mp hx with hx | hx
    · exact hl x hx
    · cases q : H x with
      | none => rfl
      | some o =>
        obtain ⟨o', q'⟩ := a.stay x o q
        rw [hm x hx] at q'
        cases q'
  · refine b.out x o (a.out x o h hn) fun hx => ?_
    rw [e] at hx
    rcases List.mem_append.mp hx with hx | hx
    · exact hn hx
    · rw [hl x hx] at h
      cases h
  · obtain ⟨o', h'⟩ := a.stay x o h
    exact b.stay x o' h'
theorem Nx.sqT (n : Nx μ H μ' H') {a : Addr} {xs : List V} (h : TupAt K H a xs) : TupAt K H' a xs := by
  rcases h with h | h
  · exact .inl (n.tup _ _ h)
  · exact .inr h
theorem Nx.at (n : Nx μ H μ' H') {i : Nat} {a : Addr} (h : μ[i]? = some a) : μ'[i]? = some a := by
  obtain ⟨l, e, _⟩ := n.pre
  rw [e, List.getElem?_append_left (List.getElem?_eq_some_iff.mp h).1]
  exact h
mutual
theorem RV.mono (n : Nx μ H μ' H') : ∀ {d : D} {v : V}, RV K A μ H d v → RV K A μ' H' d v
  | _, _, .non => .non
  | _, _, .bl b => .bl b
  | _, _, .int i => .int i
  | _, _, .str x => .str x
  | _, _, .tup h r => .tup (n.sqT h) (RVs.mono n r)
  | _, _, .ref h => .ref (n.at h)
  | _, _, .fn f => .fn f
  | _, _, .ty t => .ty t
theorem RVs.mono (n : Nx μ H μ' H') : ∀ {ds : List D} {vs : List V}, RVs K A μ H ds vs → RVs K A μ' H' ds vs
  | _, _, .nil => .nil
  | _, _, .cons h r => .cons (RV.mono n h) (RVs.mono n r)
end
theorem RVs.length : ∀ {ds : List D} {vs : List V}, RVs K A μ H ds vs → ds.length = vs.length
  | _, _, .nil => rfl
  | _, _, .cons _ r => by rw [List.length_cons, List.length_cons, RVs.length r]
theorem RVs.get : ∀ {ds : List D} {vs : List V} {i : Nat} {d : D}, RVs K A μ H ds vs → ds[i]? = some d → ∃ v, vs[i]? = some v ∧ RV K A μ H d v
  | _, _, i, _, .nil, e => by simp at e
  | _, _, 0, _, .cons h _, e => by simp at e; subst e; exact ⟨_, rfl, h⟩
  | _, _, i + 1, _, .cons _ r, e => by
    obtain ⟨v, e', h⟩ := RVs.get (i := i) r (by simpa using e)
    exact ⟨v, by simpa using e', h⟩
theorem RVs.back : ∀ {ds : List D} {vs : List V} {i : Nat} {v : V}, RVs K A μ H ds vs → vs[i]? = some v → ∃ d, ds[i]? = some d ∧ RV K A μ H d v
  | _, _, i, _, .nil, e => by simp at e
  | _, _, 0, _, .cons h _, e => by simp at e; subst e; exact ⟨_, rfl, h⟩
  | _, _, i + 1, _, .cons _ r, e => by
    obtain ⟨v, e', h⟩ := RVs.back (i := i) r (by simpa using e)
    exact ⟨v, by simpa using e', h⟩
theorem RVs.append : ∀ {ds es : List D} {vs us : List V}, RVs K A μ H ds vs → RVs K A μ H es us → RVs K A μ H (ds ++ es) (vs ++ us)
  | _, _, _, _, .nil, s => s
  | _, _, _, _, .cons h r, s => .cons h (RVs.append r s)
theorem RVs.rep {ds : List D} {vs : List V} (r : RVs K A μ H ds vs) : ∀ n : Nat, RVs K A μ H (List.replicate n ds).flatten (List.replicate n vs).flatten
  | 0 => .nil
  | n + 1 => by
    rw [List.replicate_succ, List.replicate_succ, List.flatten_cons, List.flatten_cons]
    exact RVs.append r (RVs.rep r n)
theorem RVs.set : ∀ {ds : List D} {vs : List V} {d : D} {v : V} (i : Nat), RVs K A μ H ds vs → RV K A μ H d v → RVs K A μ H (ds.set i d) (vs.set i v)
  | _, _, _, _, _, .nil, _ => .nil
  | _, _, _, _, 0, .cons _ r, h => .cons h r
  | _, _, _, _, i + 1, .cons g r, h => .cons g (RVs.set i r h)
theorem RVs.take : ∀ {ds : List D} {vs : List V} (i : Nat), RVs K A μ H ds vs → RVs K A μ H (ds.take i) (vs.take i)
  | _, _, 0, _ => .nil
  | _, _, _ + 1, .nil => .nil
  | _, _, i + 1, .cons h r => .cons h (RVs.take i r)
theorem RVs.drop : ∀ {ds : List D} {vs : List V} (i : Nat), RVs K A μ H ds vs → RVs K A μ H (ds.drop i) (vs.drop i)
  | _, _, 0, r => r
  | _, _, _ + 1, .nil => .nil
  | _, _, i + 1, .cons _ r => RVs.drop i r
theorem RVs.eraseIdx : ∀ {ds : List D} {vs : List V} (i : Nat), RVs K A μ H ds vs → RVs K A μ H (ds.eraseIdx i) (vs.eraseIdx i)
  | _, _, _, .nil => .nil
  | _, _, 0, .cons _ r => r
  | _, _, i + 1, .cons h r => .cons h (RVs.eraseIdx i r)
theorem RVs.dropLast : ∀ {ds : List D} {vs : List V}, RVs K A μ H ds vs → RVs K A μ H ds.dropLast vs.dropLast
  | _, _, .nil => .nil
  | _, _, .cons _ .nil => .nil
  | _, _, .cons h (.cons g r) => .cons h (RVs.dropLast (.cons g r))
theorem RVs.cut {ds : List D} {vs : List V} (r : RVs K A μ H ds vs) (lo hi : Option Int) : RVs K A μ H (cutL ds lo hi) (cutV vs lo hi) := by
  have e := r.length
  unfold cutL cutV
  rw [e]
  exact (r.drop _).take _
theorem RVs.zero {vs : List V} (r : RVs K A μ H [] vs) : vs = [] := by cases r; rfl
theorem RVs.one {d : D} {vs : List V} (r : RVs K A μ H [d] vs) : ∃ v, vs = [v] ∧ RV K A μ H d v := by
  cases r with
  | cons h r => cases r; exact ⟨_, rfl, h⟩
theorem RVs.two {d e : D} {vs : List V} (r : RVs K A μ H [d, e] vs) : ∃ v u, vs = [v, u] ∧ RV K A μ H d v ∧ RV K A μ H e u := by
  cases r with
  | cons h r =>
    obtain ⟨u, rfl, g⟩ := r.one
    exact ⟨_, _, rfl, h, g⟩
theorem RVs.three {d e f : D} {vs : List V} (r : RVs K A μ H [d, e, f] vs) : ∃ v u w, vs = [v, u, w] ∧ RV K A μ H d v ∧ RV K A μ H e u ∧ RV K A μ H f w := by
  cases r with
  | cons h r =>
    obtain ⟨u, w, rfl, g, k⟩ := r.two
    exact ⟨_, _, _, rfl, h, g, k⟩

/-! ### the store -/
/-- named fields -/
inductive RF (K : PySem.W.Frag) (A : Adr) (μ : List Addr) (H : Hp) : List (Str × D) → List (Str × V) → Prop where
  | nil : RF K A μ H [] []
  | cons {f : Str} {d : D} {v : V} {fs : List (Str × D)} {gs : List (Str × V)} : RV K A μ H d v → RF K A μ H fs gs → RF K A μ H ((f, d) :: fs) ((f, v) :: gs)
theorem RF.mono (n : Nx μ H μ' H') : ∀ {fs : List (Str × D)} {gs : List (Str × V)}, RF K A μ H fs gs → RF K A μ' H' fs gs
  | _, _, .nil => .nil
  | _, _, .cons h r => .cons (h.mono n) (RF.mono n r)
/-- a list that is only read -/
def FrzL (K : PySem.W.Frag) (H : Hp) (a : Addr) (xs : List V) : Prop :=
  (∃ o, H a = some (.frz o (.lst xs))) ∨ ∃ (o : Obj) (its : Array Value) (n : Nat), K.lookup a = some o ∧ o.cls = .type "list" ∧ o.dict = none ∧ o.data = .seq its n ∧ its.size ≤ sizeLine ∧ Vals xs its.toList
theorem FrzL.sq {a : Addr} {xs : List V} (h : FrzL K H a xs) : SqL K H a xs := by
  rcases h with ⟨o, h⟩ | h
  · exact .inl (.inr ⟨o, h⟩)
  · exact .inr h
theorem FrzL.mono (n : Nx μ H μ' H') {a : Addr} {xs : List V} (h : FrzL K H a xs) : FrzL K H' a xs := by
  rcases h with ⟨o, h⟩ | h
  · exact .inl ⟨o, n.frz _ _ _ h⟩
  · exact .inr h
def CR (K : PySem.W.Frag) (A : Adr) (μ : List Addr) (H : Hp) : Cell → Addr → Prop
  | .lst ds, a => ∃ vs, H a = some (.lst vs) ∧ RVs K A μ H ds vs
  | .frz ds, a => ∃ vs, FrzL K H a vs ∧ RVs K A μ H ds vs
  | .dic kvs, a => (∃ kv : List (Key × V), H a = some (.dK kv) ∧ Paired (fun p q => p.1 = kD q.1 ∧ RV K A μ H p.2 q.2) kvs kv) ∨ ∃ kv : List (D × V), KD A.w K H a kv ∧ Paired (fun p q => p.1 = q.1 ∧ RV K A μ H p.2 q.2) kvs kv
  | .ins c fs, a => ∃ dx gs, H a = some (.ins (A.ca c) dx gs) ∧ RF K A μ H fs gs
def Cell.isF : Cell → Bool
  | .frz _ => true
  | _ => false
structure Sto (K : PySem.W.Frag) (A : Adr) (μ : List Addr) (S : Store) (H : Hp) : Prop where
  len : μ.length = S.length
  nd : ∀ (i j : Nat) (a : Addr) (c d : Cell), μ[i]? = some a → μ[j]? = some a → S[i]? = some c → S[j]? = some d → c.isF = false → d.isF = false → i = j
  cell : ∀ (n : Nat) (c : Cell) (a : Addr), S[n]? = some c → μ[n]? = some a → CR K A μ H c a
theorem CR.move {c : Cell} {a : Addr} (n : Nx μ H μ' H') (h : CR K A μ H c a) (hs : c.isF = false → H' a = H a) : CR K A μ' H' c a := by
  cases c with
  | lst ds => obtain ⟨vs, e, r⟩ := h; exact ⟨vs, (hs rfl).trans e, r.mono n⟩
  | frz ds => obtain ⟨vs, e, r⟩ := h; exact ⟨vs, e.mono n, r.mono n⟩
  | dic kvs =>
    rcases h with ⟨kv, e, r⟩ | ⟨kv, e, r⟩
    · exact .inl ⟨kv, (hs rfl).trans e, Paired.mapP r fun _ _ z => ⟨z.1, z.2.mono n⟩⟩
    · refine .inr ⟨kv, ?_, Paired.mapP r fun _ _ z => ⟨z.1, z.2.mono n⟩⟩
      rcases e with ⟨e1, e2⟩ | ⟨e1, o, xs, e2, e3, e4, e5, e6⟩
      · exact .inl ⟨e1, (hs rfl).trans e2⟩
      · exact .inr ⟨e1, o, xs, (hs rfl).trans e2, e3, e4, e5, Paired.mapP e6 fun _ _ z => ⟨z.1, z.2.1.mono n.tup, z.2.2⟩⟩
  | ins c fs => obtain ⟨dx, gs, e, r⟩ := h; exact ⟨dx, gs, (hs rfl).trans e, r.mono n⟩
/-- a cell that may be written is tracked -/
theorem CR.there {c : Cell} {a : Addr} (h : CR K A μ H c a) (hf : c.isF = false) : ∃ o, H a = some o := by
  cases c with
  | lst ds => obtain ⟨vs, e, r⟩ := h; exact ⟨_, e⟩
  | frz ds => cases hf
  | dic kvs =>
    rcases h with ⟨kv, e, r⟩ | ⟨kv, ⟨e1, e2⟩ | ⟨e1, o, xs, e2, e3⟩, r⟩
    · exact ⟨_, e⟩
    · exact ⟨_, e2⟩
    · exact ⟨_, e2⟩
  | ins c fs => obtain ⟨dx, gs, e, r⟩ := h; exact ⟨_, e⟩
theorem Sto.adr {S : Store} (s : Sto K A μ S H) {n : Nat} {c : Cell} (h : S[n]? = some c) : ∃ a, μ[n]? = some a := by
  have hn : n < μ.length := by rw [s.len]; exact (List.getElem?_eq_some_iff.mp h).1
  exact ⟨μ[n], List.getElem?_eq_getElem hn⟩
/-- a new object that no number names: a tuple -/
theorem Nx.newT {p : Addr} {o : HO} (hp : H p = none) : Nx μ H μ (upd H p o) :=
  ⟨⟨[], by simp, by simp⟩, fun a xs h => by rw [upd_ne (ne_of_none h hp)]; exact h, fun a o u h => by rw [upd_ne (ne_of_none h hp)]; exact h, fun a o h _ => by rw [upd_ne (ne_of_none h hp)]; exact h, fun a o h => ⟨o, by rw [upd_ne (ne_of_none h hp)]; exact h⟩⟩
theorem Nx.newC {p : Addr} {o : HO} (hp : H p = none) : Nx μ H (μ ++ [p]) (upd H p o) :=
  ⟨⟨[p], rfl, fun a ha => by rw [List.mem_singleton.mp ha]; exact hp⟩, fun a xs h => by rw [upd_ne (ne_of_none h hp)]; exact h, fun a o u h => by rw [upd_ne (ne_of_none h hp)]; exact h, fun a o h _ => by rw [upd_ne (ne_of_none h hp)]; exact h, fun a o h => ⟨o, by rw [upd_ne (ne_of_none h hp)]; exact h⟩⟩
/-- the store behind a step that leaves the cells -/
theorem Sto.same {S : Store} (s : Sto K A μ S H) (n : Nx μ H μ H') (h : ∀ a, (∃ o, H a = some o) → a ∈ μ → H' a = H a) : Sto K A μ S H' :=
  ⟨s.len, s.nd, fun i c a e e' => (s.cell i c a e e').move n fun hf => h a ((s.cell i c a e e').there hf) (List.mem_of_getElem? e')⟩
theorem Sto.newT {S : Store} {p : Addr} {o : HO} (s : Sto K A μ S H) (hp : H p = none) : Sto K A μ S (upd H p o) :=
  s.same (Nx.newT hp) fun a ⟨u, e⟩ _ => upd_ne (ne_of_none e hp)
/-- a new cell -/
theorem Sto.newC {S : Store} {p : Addr} {o : HO} {c : Cell} (s : Sto K A μ S H) (hp : H p = none) (hc : CR K A (μ ++ [p]) (upd H p o) c p) : Sto K A (μ ++ [p]) (S ++ [c]) (upd H p o) := by
  have n : Nx μ H (μ ++ [p]) (upd H p o) := Nx.newC hp
  refine ⟨by rw [List.length_append, List.length_append, s.len]; rfl, fun i j a c1 d1 h1 h2 h3 h4 f1 f2 => ?_, fun i d a h1 h2 => ?_⟩
  · have key : ∀ {i a c1}, (μ ++ [p])[i]? = some a → (S ++ [c])[i]? = some c1 → c1.isF = false → (i < S.length ∧ S[i]? = some c1 ∧ μ[i]? = some a ∧ a ≠ p) ∨ (i = S.length ∧ a = p) := fun {i a c1} h1 h3 f => by
      by_cases hi : i < S.length
      · rw [List.getElem?_append_left hi] at h3
        rw [List.getElem?_append_left (by rw [s.len]; exact hi)] at h1
        obtain ⟨u, e⟩ := (s.cell i c1 a h3 h1).there f
        exact .inl ⟨hi, h3, h1, ne_of_none e hp⟩
      · have hi2 : i = S.length := by
          have := (List.getElem?_eq_some_iff.mp h3).1
          rw [List.length_append, List.length_singleton] at this
          omega
        subst hi2
        rw [List.getElem?_append_right (by rw [s.len]; exact Nat.le_refl _), s.len, Nat.sub_self] at h1
        exact .inr ⟨rfl, (Option.some.inj h1).symm⟩
    rcases key h1 h3 f1 with ⟨a1, a2, a3, a4⟩ | ⟨a1, a2⟩
    · rcases key h2 h4 f2 with ⟨b1, b2, b3, b4⟩ | ⟨b1, b2⟩
      · exact s.nd i j a c1 d1 a3 b3 a2 b2 f1 f2
      · exact absurd b2 a4
    · rcases key h2 h4 f2 with ⟨b1, b2, b3, b4⟩ | ⟨b1, b2⟩
      · exact absurd a2 b4
      · rw [a1, b1]
  · by_cases hi : i < S.length
    · rw [List.getElem?_append_left hi] at h1
      rw [List.getElem?_append_left (by rw [s.len]; exact hi)] at h2
      exact (s.cell i d a h1 h2).move n fun hf => by
        obtain ⟨u, e⟩ := (s.cell i d a h1 h2).there hf
        exact upd_ne (ne_of_none e hp)
    · have hi2 : i = S.length := by
        have := (List.getElem?_eq_some_iff.mp h1).1
        rw [List.length_append, List.length_singleton] at this
        omega
      subst hi2
      rw [List.getElem?_append_right (by rw [s.len]; exact Nat.le_refl _), s.len, Nat.sub_self] at h2
      rw [List.getElem?_append_right (Nat.le_refl _), Nat.sub_self] at h1
      have e1 : c = d := Option.some.inj h1
      have e2 : p = a := Option.some.inj h2
      rw [← e1, ← e2]
      exact hc
/-- a cell is written -/
theorem Nx.wr {n : Nat} {a : Addr} {o o' : HO} (ha : μ[n]? = some a) (h : H a = some o') (ht : ∀ xs, o' ≠ .tup xs) (hf : ∀ u v, o' ≠ .frz u v) : Nx μ H μ (upd H a o) := by
  refine ⟨⟨[], by simp, by simp⟩, fun b xs e => ?_, fun b u v e => ?_, fun b u e hn => ?_, fun b u e => ?_⟩
  · rw [upd_ne fun z => ?_]
    · exact e
    · subst z
      rw [h] at e
      exact ht _ (Option.some.inj e)
  · rw [upd_ne fun z => ?_]
    · exact e
    · subst z
      rw [h] at e
      exact hf _ _ (Option.some.inj e)
  · rw [upd_ne fun z => ?_]
    · exact e
    · subst z
      exact hn (List.mem_of_getElem? ha)
  · by_cases z : b = a
    · subst z
      exact ⟨o, upd_same⟩
    · exact ⟨u, by rw [upd_ne z]; exact e⟩
theorem Sto.wr {S : Store} {n : Nat} {a : Addr} {o : HO} {c c' : Cell} (s : Sto K A μ S H) (hc : S[n]? = some c) (ha : μ[n]? = some a) (hf : c.isF = false) (nx : Nx μ H μ (upd H a o)) (h : CR K A μ (upd H a o) c' a) : Sto K A μ (S.set n c') (upd H a o) := by
  have hn : n < S.length := (List.getElem?_eq_some_iff.mp hc).1
  have old : ∀ {i d}, (S.set n c')[i]? = some d → i ≠ n → S[i]? = some d := fun {i d} h hi => by
    rw [List.getElem?_set_ne (Ne.symm hi)] at h
    exact h
  have hd : ∀ {d}, (S.set n c')[n]? = some d → d = c' := fun {d} h => by
    rw [List.getElem?_set_self hn] at h
    exact (Option.some.inj h).symm
  refine ⟨by rw [List.length_set]; exact s.len, fun i j b c1 d1 h1 h2 h3 h4 f1 f2 => ?_, fun i d b h1 h2 => ?_⟩
  · by_cases hi : i = n
    · by_cases hj : j = n
      · rw [hi, hj]
      · have e : b = a := by rw [hi, ha] at h1; exact (Option.some.inj h1).symm
        subst e
        exact (hj (s.nd j n b d1 c h2 ha (old h4 hj) hc f2 hf)).elim
    · by_cases hj : j = n
      · have e : b = a := by rw [hj, ha] at h2; exact (Option.some.inj h2).symm
        subst e
        exact (hi (s.nd i n b c1 c h1 ha (old h3 hi) hc f1 hf)).elim
      · exact s.nd i j b c1 d1 h1 h2 (old h3 hi) (old h4 hj) f1 f2
  · by_cases hi : i = n
    · subst hi
      rw [ha] at h2
      rw [hd h1, ← Option.some.inj h2]
      exact h
    · refine (s.cell i d b (old h1 hi) h2).move nx fun f => upd_ne fun z => ?_
      subst z
      exact hi (s.nd i n b d c h2 ha (old h1 hi) hc f hf)
/-- the environment and the slots -/
structure ER (K : PySem.W.Frag) (A : Adr) (μ : List Addr) (H : Hp) (env : Env) (σ : L2.St) : Prop where
  len : env.length = σ.length
  at_ : ∀ (i : Nat) (d : D), env[i]? = some (some d) → ∃ v, σ[i]? = some (some v) ∧ RV K A μ H d v
theorem ER.mono {env : Env} {σ : L2.St} (n : Nx μ H μ' H') (e : ER K A μ H env σ) : ER K A μ' H' env σ :=
  ⟨e.len, fun i d h => let ⟨v, h1, h2⟩ := e.at_ i d h; ⟨v, h1, h2.mono n⟩⟩
theorem ER.set {env : Env} {σ : L2.St} {d : D} {v : V} (e : ER K A μ H env σ) (i : Nat) (r : RV K A μ H d v) : ER K A μ H (env.set i (some d)) (σ.set i (some v)) := by
  refine ⟨by rw [List.length_set, List.length_set]; exact e.len, fun j d' h => ?_⟩
  by_cases hj : i = j
  · subst hj
    by_cases hl : i < env.length
    · rw [List.getElem?_set_self hl] at h
      rw [List.getElem?_set_self (by rw [← e.len]; exact hl)]
      have h' := Option.some.inj (Option.some.inj h)
      exact ⟨v, rfl, h' ▸ r⟩
    · rw [List.getElem?_eq_none (by rw [List.length_set]; omega)] at h
      cases h
  · rw [List.getElem?_set_ne hj] at h ⊢
    exact e.at_ j d' h
theorem ER.wipe {env : Env} {σ : L2.St} (e : ER K A μ H env σ) : ∀ vs : List Nat, ER K A μ H (wipeE env vs) (wipe σ vs)
  | [] => e
  | v :: vs => by
    have ih := e.wipe vs
    unfold wipeE
    unfold L2.wipe
    refine ⟨by rw [List.length_set, List.length_set]; exact ih.len, fun j d h => ?_⟩
    by_cases hj : v = j
    · subst hj
      by_cases hl : v < (wipeE env vs).length
      · rw [List.getElem?_set_self hl] at h
        cases h
      · rw [List.getElem?_eq_none (by rw [List.length_set]; omega)] at h
        cases h
    · rw [List.getElem?_set_ne hj] at h ⊢
      exact ih.at_ j d h
end
end Mi

/-! Mi, part C: what the terms read. -/
namespace Mi
open PySem PySem.Spec PyProof.Rows L2

section
variable {K : PySem.W.Frag} {A : Adr} {μ μ' μ1 : List Addr} {H H' H1 : Hp} {α β γ δ : Type} {W : WX}

/-- an error as it lies -/
structure RX (K : PySem.W.Frag) (A : Adr) (μ : List Addr) (H : Hp) (e : Exn) (cls : Value) (dd : Option Addr) : Prop where
  cls : cls = .ref (A.xa e.x)
  fld : e.fs ≠ [] → ∃ d gs, dd = some d ∧ H d = some (.xd gs) ∧ ∀ f x, e.fs.lookup f = some x → ∃ v, gs.lookup f = some v ∧ RV K A μ H x v

/-- what an end of m must give -/
def Cont (K : PySem.W.Frag) (A : Adr) (W : WX) (R : List Addr → Hp → α → β → Prop) (σ : L2.St) (μ : List Addr) (H : Hp) (o : Out α) (Q : β → Hp → Prop) : Prop :=
  match o with
  | .ok d S' => ∀ v μ' H', Nx μ H μ' H' → Sto K A μ' S' H' → R μ' H' d v → Q v H'
  | .er e S' => ∀ cls dd μ' H', Nx μ H μ' H' → Sto K A μ' S' H' → RX K A μ' H' e cls dd → W cls dd σ H'
  | .no => False
theorem Cont.trans {R : List Addr → Hp → α → β → Prop} {σ : L2.St} {o : Out α} {Q : β → Hp → Prop} (n : Nx μ H μ1 H1) (h : Cont K A W R σ μ H o Q) : Cont K A W R σ μ1 H1 o Q := by
  cases o with
  | ok d S' => exact fun v μ' H' n' s r => h v μ' H' (n.trans n') s r
  | er e S' => exact fun cls dd μ' H' n' s r => h cls dd μ' H' (n.trans n') s r
  | no => exact h
theorem Cont.to {R : List Addr → Hp → α → β → Prop} {σ : L2.St} {o : Out α} {Q Q' : β → Hp → Prop} (h : Cont K A W R σ μ H o Q) (w : ∀ v H', Q v H' → Q' v H') : Cont K A W R σ μ H o Q' := by
  cases o with
  | ok d S' => exact fun v μ' H' n' s r => w _ _ (h v μ' H' n' s r)
  | er e S' => exact h
  | no => exact h
theorem Cont.bnd {R1 : List Addr → Hp → α → β → Prop} {R2 : List Addr → Hp → γ → δ → Prop} {σ : L2.St} {m : M α} {f : α → M γ} {S : Store} {Q : δ → Hp → Prop} (h : Cont K A W R2 σ μ H ((m >>= f) S) Q) :
    Cont K A W R1 σ μ H (m S) (fun v H1 => ∃ x S1 μ1, Nx μ H μ1 H1 ∧ Sto K A μ1 S1 H1 ∧ R1 μ1 H1 x v ∧ Cont K A W R2 σ μ1 H1 (f x S1) Q) := by
  have h : Cont K A W R2 σ μ H (M.bnd m f S) Q := h
  unfold M.bnd at h
  cases e : m S with
  | ok a S' =>
    rw [e] at h
    exact fun v μ' H' n s r => ⟨a, S', μ', n, s, r, Cont.trans n h⟩
  | er x S' =>
    rw [e] at h
    exact h
  | no =>
    rw [e] at h
    exact h
/-- a step that leaves the heap -/
theorem Cont.pure {R2 : List Addr → Hp → γ → δ → Prop} {σ : L2.St} {m : M α} {f : α → M γ} {S : Store} {Q : δ → Hp → Prop} (h : Cont K A W R2 σ μ H ((m >>= f) S) Q) (hm : ∀ e S', m S ≠ .er e S') : ∃ a S', m S = .ok a S' ∧ Cont K A W R2 σ μ H (f a S') Q := by
  have h : Cont K A W R2 σ μ H (M.bnd m f S) Q := h
  unfold M.bnd at h
  cases e : m S with
  | ok a S' =>
    rw [e] at h
    exact ⟨a, S', rfl, h⟩
  | er x S' => exact absurd e (hm x S')
  | no =>
    rw [e] at h
    exact h.elim
theorem Cont.need {R2 : List Addr → Hp → γ → δ → Prop} {σ : L2.St} {b : Bool} {f : Unit → M γ} {S : Store} {Q : δ → Hp → Prop} (h : Cont K A W R2 σ μ H ((M.need b >>= f) S) Q) : b = true ∧ Cont K A W R2 σ μ H (f () S) Q := by
  cases b with
  | true => exact ⟨rfl, h⟩
  | false => exact False.elim h
theorem Cont.ofO {R2 : List Addr → Hp → γ → δ → Prop} {σ : L2.St} {b : Option α} {f : α → M γ} {S : Store} {Q : δ → Hp → Prop} (h : Cont K A W R2 σ μ H ((Mi.ofO b >>= f) S) Q) : ∃ a, b = some a ∧ Cont K A W R2 σ μ H (f a S) Q := by
  cases b with
  | some a => exact ⟨a, rfl, h⟩
  | none => exact False.elim h
theorem Cont.getL {R2 : List Addr → Hp → γ → δ → Prop} {σ : L2.St} {r : Nat} {f : List D → M γ} {S : Store} {Q : δ → Hp → Prop} (s : Sto K A μ S H) (h : Cont K A W R2 σ μ H ((Mi.getL r >>= f) S) Q) {a : Addr} (ha : μ[r]? = some a) :
    ∃ ds vs, SqL K H a vs ∧ RVs K A μ H ds vs ∧ Cont K A W R2 σ μ H (f ds S) Q ∧ (S[r]? = some (.lst ds) ∨ S[r]? = some (.frz ds)) := by
  have h : Cont K A W R2 σ μ H (M.bnd (Mi.getL r) f S) Q := h
  unfold M.bnd Mi.getL at h
  cases e : S[r]? with
  | none => rw [e] at h; exact h.elim
  | some c =>
    rw [e] at h
    cases c with
    | lst ds =>
      obtain ⟨vs, h1, h2⟩ := s.cell r _ a e ha
      exact ⟨ds, vs, .inl (.inl h1), h2, h, .inl rfl⟩
    | frz ds =>
      obtain ⟨vs, h1, h2⟩ := s.cell r _ a e ha
      exact ⟨ds, vs, h1.sq, h2, h, .inr rfl⟩
    | dic kvs => exact h.elim
    | ins c fs => exact h.elim
theorem Cont.getW {R2 : List Addr → Hp → γ → δ → Prop} {σ : L2.St} {r : Nat} {f : List D → M γ} {S : Store} {Q : δ → Hp → Prop} (s : Sto K A μ S H) (h : Cont K A W R2 σ μ H ((Mi.getW r >>= f) S) Q) {a : Addr} (ha : μ[r]? = some a) :
    ∃ ds vs, H a = some (.lst vs) ∧ RVs K A μ H ds vs ∧ Cont K A W R2 σ μ H (f ds S) Q ∧ S[r]? = some (.lst ds) := by
  have h : Cont K A W R2 σ μ H (M.bnd (Mi.getW r) f S) Q := h
  unfold M.bnd Mi.getW at h
  cases e : S[r]? with
  | none => rw [e] at h; exact h.elim
  | some c =>
    rw [e] at h
    cases c with
    | lst ds =>
      obtain ⟨vs, h1, h2⟩ := s.cell r _ a e ha
      exact ⟨ds, vs, h1, h2, h, rfl⟩
    | frz ds => exact h.elim
    | dic kvs => exact h.elim
    | ins c fs => exact h.elim
/-- the list at a is written -/
theorem wrL {S : Store} {r : Nat} {a : Addr} {vs us : List V} {ds es : List D} (s : Sto K A μ S H) (ha : μ[r]? = some a) (hr : S[r]? = some (.lst ds)) (h : H a = some (.lst vs)) (q : RVs K A μ H es us) :
    Nx μ H μ (upd H a (.lst us)) ∧ Sto K A μ (S.set r (.lst es)) (upd H a (.lst us)) := by
  have n : Nx μ H μ (upd H a (.lst us)) := Nx.wr ha h (fun _ z => by cases z) (fun _ _ z => by cases z)
  exact ⟨n, s.wr hr ha rfl n ⟨us, upd_same, q.mono n⟩⟩
theorem Cont.setL {R2 : List Addr → Hp → γ → δ → Prop} {σ : L2.St} {r : Nat} {es : List D} {f : Unit → M γ} {S : Store} {Q : δ → Hp → Prop} (h : Cont K A W R2 σ μ H ((Mi.setL r es >>= f) S) Q) {ds : List D} (hr : S[r]? = some (.lst ds)) :
    Cont K A W R2 σ μ H (f () (S.set r (.lst es))) Q := by
  have h : Cont K A W R2 σ μ H (M.bnd (Mi.setL r es) f S) Q := h
  unfold M.bnd Mi.setL at h
  rw [hr] at h
  exact h
/-- a new list -/
theorem Cont.newL {σ : L2.St} {ds : List D} {vs : List V} {S : Store} {Q : V → Hp → Prop} (s : Sto K A μ S H) (h : Cont K A W (RV K A) σ μ H (newC (.lst ds) S) Q) (r : RVs K A μ H ds vs) {p : Addr} (hp : H p = none) : Q (.ref p) (upd H p (.lst vs)) := by
  have n : Nx μ H (μ ++ [p]) (upd H p (.lst vs)) := Nx.newC hp
  refine h (.ref p) (μ ++ [p]) _ n (s.newC hp ⟨vs, upd_same, r.mono n⟩) (.ref ?_)
  rw [← s.len, List.getElem?_append_right (Nat.le_refl _), Nat.sub_self]
  rfl

/-- the reading of an m -/
def uG (K : PySem.W.Frag) (A : Adr) (W : WX) (R : List Addr → Hp → α → β → Prop) (m : Env → M α) : L2.St → Hp → (β → Hp → Prop) → Prop := fun σ H Q =>
  ∃ env S μ, ER K A μ H env σ ∧ Sto K A μ S H ∧ Cont K A W R σ μ H (m env S) Q
abbrev uE (K : PySem.W.Frag) (A : Adr) (W : WX) (m : Env → M D) : TE := uG K A W (RV K A) m
theorem Cont_to_uE {R : List Addr → Hp → α → β → Prop} {m : Env → M α} {σ : L2.St} {H : Hp} {Q Q' : β → Hp → Prop} (h : uG K A W R m σ H Q) (w : ∀ v H', Q v H' → Q' v H') : uG K A W R m σ H Q' := by
  obtain ⟨env, S, μ, hE, hS, hc⟩ := h
  exact ⟨env, S, μ, hE, hS, hc.to w⟩
abbrev uT (K : PySem.W.Frag) (A : Adr) (W : WX) (m : Env → M Bool) : TT := uG K A W (fun _ _ a b => a = b) m
abbrev uA (K : PySem.W.Frag) (A : Adr) (W : WX) (m : Env → M (List D)) : TA := uG K A W (RVs K A) m
abbrev uO (K : PySem.W.Frag) (A : Adr) (W : WX) (m : Env → M (Option Int)) : TO := uG K A W (fun _ _ a b => a = b) m
end
section
variable {X : Cx} {e : Expr}
theorem PE.imp {t t' : TE} (h : PE X e t) (w : ∀ σ H Q, t' σ H Q → t σ H Q) : PE X e t' := ⟨fun pins s σ H Q I q => h.run pins s σ H Q I (w σ H Q q)⟩
theorem PT.imp {t t' : TT} (h : PT X e t) (w : ∀ σ H Q, t' σ H Q → t σ H Q) : PT X e t' := ⟨fun pins s σ H Q I q => h.run pins s σ H Q I (w σ H Q q)⟩
theorem PW.imp {t t' : TT} (h : PW X e t) (w : ∀ σ H Q, t' σ H Q → t σ H Q) : PW X e t' := ⟨fun wh pins s σ H Q I q => h.run wh pins s σ H Q I (w σ H Q q)⟩
theorem PE.or {t t' : TE} (h : PE X e t) (h' : PE X e t') : PE X e (fun σ H Q => t σ H Q ∨ t' σ H Q) := ⟨fun pins s σ H Q I q => q.elim (h.run pins s σ H Q I) (h'.run pins s σ H Q I)⟩
theorem PI.imp {tg : Expr} {t t' : TI} (h : PI X tg e t) (w : ∀ σ H R, t' σ H R → t σ H R) : PI X tg e t' := ⟨fun pins s σ H R I q => h.run pins s σ H R I (w σ H R q)⟩
theorem PI.or {tg : Expr} {t t' : TI} (h : PI X tg e t) (h' : PI X tg e t') : PI X tg e (fun σ H Q => t σ H Q ∨ t' σ H Q) := ⟨fun pins s σ H Q I q => q.elim (h.run pins s σ H Q I) (h'.run pins s σ H Q I)⟩
theorem OpR.or {f : Value → Value → Sem Value} {r r' : R2} (h : OpR X f r) (h' : OpR X f r') : OpR X f (fun x y H Q => r x y H Q ∨ r' x y H Q) := by
  intro pins s σ H x y v u Q I rx ry q
  rcases q with q | q
  · exact h pins s σ H x y v u Q I rx ry q
  · exact h' pins s σ H x y v u Q I rx ry q
theorem CallR.or {f : Value} {r r' : List V → Hp → VK → Prop} (h : CallR X f r) (h' : CallR X f r') : CallR X f (fun x H Q => r x H Q ∨ r' x H Q) := by
  intro pins s σ H xs us Q I rx q
  rcases q with q | q
  · exact h pins s σ H xs us Q I rx q
  · exact h' pins s σ H xs us Q I rx q
end

/-! ### operators -/
section
variable {X : Cx} {A : Adr}
/-- an operator on data: what its rule asks follows from what the evaluator tells -/
def Serves (X : Cx) (A : Adr) (f : D → D → M D) (r : R2) : Prop :=
  ∀ (W : WX) (σ : L2.St) (x y : D) (v w : V) (μ : List Addr) (H : Hp) (S : Store) (Q : VK), Sto X.K A μ S H → RV X.K A μ H x v → RV X.K A μ H y w → Cont X.K A W (RV X.K A) σ μ H (f x y S) Q → r v w H Q
theorem tOp_of {f : D → D → M D} {r : R2} (hr : Serves X A f r) {W : WX} {ma mb : Env → M D} : ∀ σ H Q, uE X.K A W (fun env => do let x ← ma env; let y ← mb env; f x y) σ H Q → tOp r (uE X.K A W ma) (uE X.K A W mb) σ H Q := by
  rintro σ H Q ⟨env, S, μ, hE, hS, h⟩
  refine ⟨env, S, μ, hE, hS, (Cont.bnd h).to ?_⟩
  rintro v H1 ⟨x, S1, μ1, n1, s1, r1, h1⟩
  refine ⟨env, S1, μ1, hE.mono n1, s1, (Cont.bnd h1).to ?_⟩
  rintro w H2 ⟨y, S2, μ2, n2, s2, r2, h2⟩
  exact hr W σ x y v w μ2 H2 S2 Q s2 (r1.mono n2) r2 h2
/-- the end of a pure step -/
theorem Cont.out {K : PySem.W.Frag} {μ : List Addr} {H : Hp} {α β : Type} {W : WX} {R : List Addr → Hp → α → β → Prop} {σ : L2.St} {d : α} {S : Store} {Q : β → Hp → Prop} (h : Cont K A W R σ μ H (M.ret d S) Q) (s : Sto K A μ S H) {v : β} (r : R μ H d v) : Q v H :=
  h v μ H Nx.refl s r
theorem lim_size {n : Nat} (h : n ≤ lim) : n ≤ sizeLine := Nat.le_trans h (by rw [sizeLine_eq]; decide)
theorem lim_lt {n : Nat} (h : n < lim) : n < sizeLine := Nat.lt_of_lt_of_le h (by rw [sizeLine_eq]; decide)
/-- a new tuple -/
theorem Cont.tup {K : PySem.W.Frag} {μ : List Addr} {H : Hp} {W : WX} {σ : L2.St} {ds : List D} {vs : List V} {S : Store} {Q : V → Hp → Prop} (h : Cont K A W (RV K A) σ μ H (M.ret (.tup ds) S) Q) (s : Sto K A μ S H) (r : RVs K A μ H ds vs) {p : Addr} (hp : H p = none) : Q (.ref p) (upd H p (.tup vs)) :=
  h (.ref p) μ _ (Nx.newT hp) (s.newT hp) (.tup (.inl upd_same) (r.mono (Nx.newT hp)))

abbrev rAddU (K : PySem.W.Frag) : R2 := fun x y H Q => rI0 (fun i j => .int (i + j)) x y H Q ∨ ((∃ i j, x = .str i ∧ y = .str j ∧ i.length + j.length ≤ sizeLine ∧ Q (.str (i ++ j)) H) ∨ (rCatA K x y H Q ∨ rCat x y H Q))
theorem op_addU : OpR X (binaryOp .Add) (rAddU X.K) := OpR.or op_add (OpR.or op_add_str (OpR.or op_catA op_cat))
theorem sv_add : Serves X A (binM .add) (rAddU X.K) := by
  intro W σ x y v w μ H S Q s rx ry h
  cases rx with
  | int i =>
    cases ry with
    | int j => exact .inl ⟨i, j, rfl, rfl, h.out s (.int _)⟩
    | _ => exact False.elim h
  | str i =>
    cases ry with
    | str j =>
      obtain ⟨h0, h⟩ := Cont.need h
      exact .inr (.inl ⟨i, j, rfl, rfl, lim_size (of_decide_eq_true h0), h.out s (.str _)⟩)
    | _ => exact False.elim h
  | tup q1 r1 =>
    cases ry with
    | tup q2 r2 =>
      obtain ⟨h0, h⟩ := Cont.need h
      rw [r1.length, r2.length] at h0
      refine .inr (.inr (.inl ⟨_, _, _, _, rfl, rfl, q1.sq, q2.sq, lim_size (of_decide_eq_true h0), fun e => ?_, fun _ e => ?_, fun _ _ p hp => h.tup s (r1.append r2) hp⟩))
      · subst e
        cases r1
        exact h.out s (.tup q2 r2)
      · subst e
        cases r2
        rw [List.append_nil] at h
        exact h.out s (.tup q1 r1)
    | _ => exact False.elim h
  | ref e1 =>
    cases ry with
    | ref e2 =>
      obtain ⟨ds, vs, g1, t1, h, _⟩ := Cont.getW s h e1
      obtain ⟨es, us, g2, t2, h, _⟩ := Cont.getW s h e2
      obtain ⟨h0, h⟩ := Cont.need h
      rw [t1.length, t2.length] at h0
      exact .inr (.inr (.inr ⟨_, _, _, _, rfl, rfl, g1, g2, lim_size (of_decide_eq_true h0), fun p hp => Cont.newL s h (t1.append t2) hp⟩))
    | _ => exact False.elim h
  | _ => exact False.elim h

/-! the others -/
def opAst : BOp → Operator
  | .add => .Add | .sub => .Sub | .mul => .Mult | .fdiv => .FloorDiv | .mod => .Mod | .pow => .Pow | .shl => .LShift | .shr => .RShift | .band => .BitAnd
def rBop (K : PySem.W.Frag) : BOp → R2
  | .add => rAddU K
  | .sub => rI0 fun i j => .int (i - j)
  | .mul => fun x y H Q => rI CMul (fun i j => .int (i * j)) x y H Q ∨ rRep2 K x y H Q
  | .fdiv => rI CDivN fun i j => .int (i.fdiv j)
  | .mod => rI (fun _ j => j ≠ 0) fun i j => .int (i.fmod j)
  | .pow => rI CPow fun i j => .int (i ^ j.toNat)
  | .shl => rI CPow fun i j => .int (i * 2 ^ j.toNat)
  | .shr => rI (fun _ j => 0 ≤ j) fun i j => .int (i / 2 ^ j.toNat)
  | .band => rI0 fun i j => .int (Builtin.bitAnd i j)
theorem op_bop : ∀ o : BOp, OpR X (binaryOp (opAst o)) (rBop X.K o)
  | .add => op_addU
  | .sub => op_sub
  | .mul => OpR.or op_mul op_rep2
  | .fdiv => op_fdivN
  | .mod => op_modN
  | .pow => op_pow
  | .shl => op_shl
  | .shr => op_shr
  | .band => op_and
theorem sv_bop : ∀ o : BOp, Serves X A (binM o) (rBop X.K o)
  | .add => sv_add
  | .sub => by
    intro W σ x y v w μ H S Q s rx ry h
    cases rx with
    | int i =>
      cases ry with
      | int j => exact ⟨i, j, rfl, rfl, h.out s (.int _)⟩
      | _ => exact False.elim h
    | _ => exact False.elim h
  | .mul => by
    intro W σ x y v w μ H S Q s rx ry h
    cases rx with
    | int i =>
      cases ry with
      | int j =>
        obtain ⟨h0, h⟩ := Cont.need h
        rw [Bool.or_eq_true] at h0
        exact .inl ⟨i, j, rfl, rfl, h0.imp (fun z => of_decide_eq_true z) (fun z => of_decide_eq_true z), h.out s (.int _)⟩
      | _ => exact False.elim h
    | @tup ds a vs q t =>
      cases ry with
      | int k =>
        obtain ⟨h0, h⟩ := Cont.need h
        rw [Bool.and_eq_true] at h0
        have h1 : 2 ≤ k ∧ k ≤ 1000000 ∧ k.toNat * ds.length ≤ 1000000 := of_decide_eq_true h0.2
        have e := t.length
        have ne : vs ≠ [] := fun z => by
          rw [z] at e
          have : ds = [] := List.eq_nil_of_length_eq_zero e
          rw [this] at h0
          exact absurd h0.1 (by decide)
        exact .inr ⟨a, k, vs, rfl, rfl, q.sq, ne, h1.1, h1.2.1, by rw [← e]; exact h1.2.2, fun p hp => h.tup s (t.rep k.toNat) hp⟩
      | _ => exact False.elim h
    | _ => exact False.elim h
  | .fdiv => by
    intro W σ x y v w μ H S Q s rx ry h
    cases rx with
    | int i =>
      cases ry with
      | int j =>
        obtain ⟨h0, h⟩ := Cont.need h
        have h1 : j ≠ 0 ∧ j.natAbs < 1073741824 := of_decide_eq_true h0
        exact ⟨i, j, rfl, rfl, h1, h.out s (.int _)⟩
      | _ => exact False.elim h
    | _ => exact False.elim h
  | .mod => by
    intro W σ x y v w μ H S Q s rx ry h
    cases rx with
    | int i =>
      cases ry with
      | int j =>
        obtain ⟨h0, h⟩ := Cont.need h
        exact ⟨i, j, rfl, rfl, of_decide_eq_true h0, h.out s (.int _)⟩
      | _ => exact False.elim h
    | _ => exact False.elim h
  | .pow => by
    intro W σ x y v w μ H S Q s rx ry h
    cases rx with
    | int i =>
      cases ry with
      | int j =>
        obtain ⟨h0, h⟩ := Cont.need h
        have h1 : 0 ≤ j ∧ j ≤ 1000000 ∧ i.natAbs < 2 ^ 64 := of_decide_eq_true h0
        exact ⟨i, j, rfl, rfl, h1, h.out s (.int _)⟩
      | _ => exact False.elim h
    | _ => exact False.elim h
  | .shl => by
    intro W σ x y v w μ H S Q s rx ry h
    cases rx <;> exact False.elim h
  | .shr => by
    intro W σ x y v w μ H S Q s rx ry h
    cases rx <;> exact False.elim h
  | .band => by
    intro W σ x y v w μ H S Q s rx ry h
    cases rx <;> exact False.elim h

/-! ### data that are compared -/
theorem mapM_some {α β : Type} {f : α → Option β} : ∀ {xs : List α} {ys : List β}, xs.mapM f = some ys → Paired (fun x y => f x = some y) xs ys
  | [], ys, h => by
    rw [List.mapM_nil] at h
    cases h
    exact .nil
  | x :: xs, ys, h => by
    rw [List.mapM_cons] at h
    cases e : f x with
    | none => rw [e] at h; cases h
    | some y =>
      rw [e] at h
      cases e2 : xs.mapM f with
      | none => rw [e2] at h; cases h
      | some zs =>
        rw [e2] at h
        cases h
        exact .cons e (mapM_some e2)
def okPy (n : Nat) (p : PyData) : Prop := p.canLay0 = true ∧ p.depth ≤ n
theorem okAll {n : Nat} : ∀ {ps : List PyData}, (∀ p ∈ ps, okPy n p) → PyData.canLayAll0 ps = true ∧ PyData.depthAll ps ≤ n
  | [], _ => ⟨rfl, Nat.zero_le _⟩
  | p :: ps, h => by
    obtain ⟨h1, h2⟩ := okAll (ps := ps) fun q hq => h q (List.mem_cons_of_mem _ hq)
    obtain ⟨h3, h4⟩ := h p List.mem_cons_self
    refine ⟨by unfold PyData.canLayAll0; rw [h3, h1]; rfl, ?_⟩
    unfold PyData.depthAll
    omega
theorem dp_all {K : PySem.W.Frag} {μ : List Addr} {H : Hp} {S : Store} {n : Nat} (ih : ∀ (d : D) (v : V) (p : PyData), RV K A μ H d v → toPy S n d = some p → Dp K H v p ∧ okPy n p) :
    ∀ {ds : List D} {vs : List V} {ps : List PyData}, RVs K A μ H ds vs → Paired (fun x y => toPy S n x = some y) ds ps → DpAll K H vs ps ∧ ∀ p ∈ ps, okPy n p
  | _, _, _, .nil, .nil => ⟨.nil, fun p hp => by cases hp⟩
  | _, _, _, .cons r t, .cons e q => by
    obtain ⟨h1, h2⟩ := ih _ _ _ r e
    obtain ⟨h3, h4⟩ := dp_all ih t q
    refine ⟨.cons h1 h3, fun p hp => ?_⟩
    rcases List.mem_cons.mp hp with rfl | hp
    · exact h2
    · exact h4 p hp
theorem toPy_dp {K : PySem.W.Frag} {μ : List Addr} {H : Hp} {S : Store} (s : Sto K A μ S H) : ∀ (n : Nat) (d : D) (v : V) (p : PyData), RV K A μ H d v → toPy S n d = some p → Dp K H v p ∧ okPy n p
  | 0, d, v, p, _, h => by cases h
  | n + 1, d, v, p, r, h => by
    have lay : ∀ (ds : List D) (vs : List V) (ps : List PyData), RVs K A μ H ds vs → ds.mapM (toPy S n) = some ps → DpAll K H vs ps ∧ PyData.canLayAll0 ps = true ∧ PyData.depthAll ps ≤ n := fun ds vs ps r e => by
      obtain ⟨h1, h2⟩ := dp_all (A := A) (fun d v p => toPy_dp s n d v p) r (mapM_some e)
      exact ⟨h1, okAll h2⟩
    cases r with
    | non => cases h; exact ⟨.non, rfl, Nat.zero_le _⟩
    | bl b => cases h; exact ⟨.bl b, rfl, Nat.zero_le _⟩
    | int i => cases h; exact ⟨.int i, rfl, Nat.zero_le _⟩
    | str x =>
      unfold toPy at h
      by_cases hx : PyData.strOk x = true
      · simp only [hx, if_true] at h
        cases h
        exact ⟨.str x, hx, Nat.zero_le _⟩
      · simp only [hx] at h
        cases h
    | tup q t =>
      unfold toPy at h
      simp only [Option.map_eq_some_iff] at h
      obtain ⟨ps, e, rfl⟩ := h
      obtain ⟨h1, h2, h3⟩ := lay _ _ _ t e
      refine ⟨.tup q.sq h1, by unfold PyData.canLay0; exact h2, ?_⟩
      unfold PyData.depth
      omega
    | @ref m a e =>
      unfold toPy at h
      simp only at h
      split at h
      · rename_i ds hc
        simp only [Option.map_eq_some_iff] at h
        obtain ⟨ps, e2, rfl⟩ := h
        obtain ⟨vs, g1, g2⟩ := s.cell _ _ _ hc e
        obtain ⟨h1, h2, h3⟩ := lay _ _ _ g2 e2
        refine ⟨.lst (.inl (.inl g1)) h1, by unfold PyData.canLay0; exact h2, ?_⟩
        unfold PyData.depth
        omega
      · rename_i ds hc
        simp only [Option.map_eq_some_iff] at h
        obtain ⟨ps, e2, rfl⟩ := h
        obtain ⟨vs, g1, g2⟩ := s.cell _ _ _ hc e
        obtain ⟨h1, h2, h3⟩ := lay _ _ _ g2 e2
        refine ⟨.lst g1.sq h1, by unfold PyData.canLay0; exact h2, ?_⟩
        unfold PyData.depth
        omega
      · cases h
    | fn f => cases h
    | ty t => cases h
theorem shaped_of {n : Nat} {p : PyData} (h : okPy n p) (hn : n ≤ 64) : SeqAt.shaped p = true := by
  unfold SeqAt.shaped
  rw [h.1, Bool.true_and]
  exact decide_eq_true (Nat.le_trans h.2 hn)

abbrev rEqU (K : PySem.W.Frag) : R2 := fun x y H Q => rEq x y H Q ∨ rEqD K x y H Q
abbrev rNeU (K : PySem.W.Frag) : R2 := fun x y H Q => rNe x y H Q ∨ rNeD K x y H Q
/-- == as the evaluator has it, by the rules -/
theorem eq_sv {K : PySem.W.Frag} {μ : List Addr} {H : Hp} {S : Store} (s : Sto K A μ S H) {x y : D} {v w : V} {k : Bool} {S' : Store} (rx : RV K A μ H x v) (ry : RV K A μ H y w) (h : eqM x y S = .ok k S') :
    S' = S ∧ ((scal v w = true ∧ decide (v = w) = k) ∨ ∃ d e, Dp K H v d ∧ Dp K H w e ∧ SeqAt.shaped d = true ∧ SeqAt.shaped e = true ∧ PyData.eqv d e = k) := by
  have gen : (match toPy S 60 x, toPy S 60 y with | some p, some q => (.ok (PyData.eqv p q) S : Out Bool) | _, _ => .no) = .ok k S' → S' = S ∧ ((scal v w = true ∧ decide (v = w) = k) ∨ ∃ d e, Dp K H v d ∧ Dp K H w e ∧ SeqAt.shaped d = true ∧ SeqAt.shaped e = true ∧ PyData.eqv d e = k) := fun h => by
    split at h
    · rename_i p q e1 e2
      cases h
      obtain ⟨h1, h2⟩ := toPy_dp s 60 x v p rx e1
      obtain ⟨h3, h4⟩ := toPy_dp s 60 y w q ry e2
      exact ⟨rfl, .inr ⟨p, q, h1, h3, shaped_of h2 (by omega), shaped_of h4 (by omega), rfl⟩⟩
    · cases h
  have sc : ∀ {b : Bool}, (M.ret b S : Out Bool) = .ok k S' → S' = S ∧ b = k := fun {b} h => by
    cases h
    exact ⟨rfl, rfl⟩
  cases rx with
  | non =>
    cases ry with
    | non => obtain ⟨h1, h2⟩ := sc (b := true) h; exact ⟨h1, .inl ⟨rfl, h2⟩⟩
    | _ => exact gen h
  | bl a =>
    cases ry with
    | bl b =>
      obtain ⟨h1, h2⟩ := sc (b := decide (a = b)) h
      refine ⟨h1, .inl ⟨rfl, ?_⟩⟩
      rw [← h2, decide_eq_decide]
      exact ⟨fun z => V.bl.inj z, fun z => by rw [z]⟩
    | _ => exact gen h
  | int a =>
    cases ry with
    | int b =>
      obtain ⟨h1, h2⟩ := sc (b := decide (a = b)) h
      refine ⟨h1, .inl ⟨rfl, ?_⟩⟩
      rw [← h2, decide_eq_decide]
      exact ⟨fun z => V.int.inj z, fun z => by rw [z]⟩
    | str b => obtain ⟨h1, h2⟩ := sc (b := false) h; exact ⟨h1, .inl ⟨rfl, h2⟩⟩
    | _ => exact gen h
  | str a =>
    cases ry with
    | str b =>
      obtain ⟨h1, h2⟩ := sc (b := decide (a = b)) h
      refine ⟨h1, .inl ⟨rfl, ?_⟩⟩
      rw [← h2, decide_eq_decide]
      exact ⟨fun z => V.str.inj z, fun z => by rw [z]⟩
    | int b => obtain ⟨h1, h2⟩ := sc (b := false) h; exact ⟨h1, .inl ⟨rfl, h2⟩⟩
    | _ => exact gen h
  | tup q t => cases ry <;> exact gen h
  | ref e => cases ry <;> exact gen h
  | fn f => cases ry <;> exact gen h
  | ty f => cases ry <;> exact gen h
theorem eqM_er (x y : D) (S : Store) (e : Exn) (S' : Store) : eqM x y S ≠ .er e S' := by
  unfold eqM
  split <;> first | (intro h; cases h) | (dsimp only; split <;> (intro h; cases h))
end
end Mi

/-! Mi, part DB: dicts at the hand layer: keys numbers and texts, or tuples of any form. -/
namespace Mi
open PySem PySem.Spec PyProof.Rows L2
section
variable {X : Cx} {pins : List (Addr × Obj)} {σ : L2.St} {H : Hp} {s : Shared}
mutual
theorem ky_at (I : Inv X pins σ H s) : ∀ {d : D} {v : V} {u : Value}, KyH X.K H d v → RelV v u → kyIs s.heap d u
  | .int i, v, u, h, r => by
    have h : v = .int i := h
    subst h
    exact .inl r
  | .str x, v, u, h, r => by
    obtain ⟨h1, rfl⟩ := h
    exact ⟨h1, r⟩
  | .tup ds, v, u, h, r => by
    obtain ⟨a, vs, rfl, q, k⟩ := h
    cases r
    obtain ⟨its, rv, ⟨o, h1, h2, n, h3⟩, _⟩ := I.tuple q.sq
    exact ⟨a, o, its.toArray, n, rfl, h1, h2, h3, kys_at I k rv⟩
theorem kys_at (I : Inv X pins σ H s) : ∀ {ds : List D} {vs : List V} {us : List Value}, KysH X.K H ds vs → Vals vs us → kysAre s.heap ds us
  | [], vs, us, h, r => by
    have h : vs = [] := h
    subst h
    cases r
    rfl
  | d :: ds, vs, us, h, r => by
    obtain ⟨v, ws, rfl, h1, h2⟩ := h
    cases r with
    | cons r1 r2 => exact ⟨_, _, rfl, ky_at I h1 r1, kys_at I h2 r2⟩
end
theorem PK.at_ {K : PySem.W.Frag} {kv : List (D × V)} {xs : List (D × Addr × Value)} (r : PK K H kv xs) (k : D) : RelO (valV kv k) ((atKey xs k).map (·.2)) := by
  induction r with
  | nil => exact True.intro
  | @cons p q ps qs z t ih =>
    by_cases e : p.1 = k
    · have e' : q.1 = k := z.1.symm.trans e
      have b : atKey (q :: qs) k = some q.2 := by simp [atKey, List.find?_cons, e']
      rw [valV_pos e, b]
      exact z.2.2.2
    · have e' : ¬ q.1 = k := fun y => e (z.1.trans y)
      have b : atKey (q :: qs) k = atKey qs k := by simp [atKey, List.find?_cons, e']
      rw [valV_neg e, b]
      exact ih
theorem PK.mem {K : PySem.W.Frag} {kv : List (D × V)} {xs : List (D × Addr × Value)} (r : PK K H kv xs) : ∀ x ∈ xs, KyH K H x.1 (.ref x.2.1) ∧ dep x.1 ≤ 8 := by
  induction r with
  | nil => exact fun x hx => nomatch hx
  | @cons p q ps qs z t ih =>
    intro x hx
    rcases List.mem_cons.mp hx with rfl | hx
    · exact ⟨z.1 ▸ z.2.1, z.1 ▸ z.2.2.1⟩
    · exact ih x hx
theorem PK.put {K : PySem.W.Frag} {kv : List (D × V)} {xs : List (D × Addr × Value)} (r : PK K H kv xs) {k : D} {b : Addr} {y : V} {u : Value} (hb : KyH K H k (.ref b)) (hd : dep k ≤ 8) (ry : RelV y u) : PK K H (putK kv k y) (storedH xs k b u) := by
  have e : (kv.any fun p => decide (p.1 = k)) = (atKey xs k).isSome := by rw [valV_any, (r.at_ k).isSome_eq, Option.isSome_map]
  unfold putK storedH
  rw [e]
  by_cases q : (atKey xs k).isSome = true
  · rw [if_pos q, if_pos q]
    clear e q
    induction r with
    | nil => exact .nil
    | @cons p q ps qs z t ih =>
      rw [List.map_cons, List.map_cons]
      refine .cons ?_ ih
      unfold putAt
      by_cases e : p.1 = k
      · rw [if_pos e, if_pos (z.1.symm.trans e)]
        exact ⟨z.1, z.2.1, z.2.2.1, ry⟩
      · rw [if_neg e, if_neg (fun y => e (z.1.trans y))]
        exact z
  · rw [if_neg q, if_neg q]
    exact Paired.snoc r ⟨rfl, hb, hd, ry⟩
/-- what stands in the heap of a dict with tuples for keys -/
theorem kd_at (I : Inv X pins σ H s) {a : Addr} {kv : List (D × V)} (h : KD X.w X.K H a kv) : (a == sysModules) = false ∧ kv.length ≤ sizeLine ∧ ∃ xs, PK X.K H kv xs ∧ s.heap.DictOfH (treeK X.prog X.w) a xs := by
  rcases h with ⟨rfl, e⟩ | ⟨_, o, xs, e, h1, h2, h3, h4⟩
  · obtain ⟨z, hd, vs, rel, dd⟩ := dk_rd I.hok (.inl e)
    cases rel
    obtain ⟨o, es, ep, e1, e2, e3, _, e4, _⟩ := dd
    refine ⟨hd, Nat.zero_le _, [], .nil, o, es, ep, e1, e2, e3, ?_, (fun x hx => nomatch hx), List.nodup_nil⟩
    generalize es.toList = l at e4
    cases e4
    rfl
  · obtain ⟨g, _, _⟩ := (show ObjOk X.prog X.w H s.heap a (dE a o) from I.hok a _ e)
    obtain ⟨es, ep, e1, e2⟩ := h3.en
    exact ⟨h1, h2, xs, h4, o, es, ep, g, h3.ex, e1, e2, fun x hx => ⟨ky_at I (h4.mem x hx).1 rfl, (h4.mem x hx).2⟩, h3.nd⟩
theorem kd_mut {w : World} {K : PySem.W.Frag} {a : Addr} {kv : List (D × V)} (h : KD w K H a kv) : Mut (H a) ∧ ∀ xs, H a ≠ some (.tup xs) := by
  rcases h with ⟨_, e⟩ | ⟨_, o, xs, e, _⟩ <;> rw [e] <;> exact ⟨True.intro, fun _ z => nomatch z⟩
theorem putK_ne {kv : List (D × V)} {k : D} {v : V} : putK kv k v ≠ [] := by
  unfold putK
  split
  · rename_i h
    cases kv with
    | nil => cases h
    | cons p ps => exact fun z => nomatch z
  · exact fun z => by simp at z
/-- the dict is written -/
theorem kd_write (I : Inv X pins σ H s) {a : Addr} {kv : List (D × V)} (h : KD X.w X.K H a kv) {k : D} {b : Addr} {v : V} {u : Value} (hb : KyH X.K H k (.ref b)) (hd : dep k ≤ 8) (rv : RelV v u) (hl : kv.length < sizeLine) {xs : List (D × Addr × Value)} (r : PK X.K H kv xs) {h' : Heap} {t' : Nat}
    (dd : h'.DictOfH (treeK X.prog X.w) a (storedH xs k b u)) (hs : Heap.SameBut a s.heap h') : ∃ o, Inv X pins σ (upd H a (dE a o)) { s with heap := h', toks := t' } ∧ KD X.w X.K (upd H a (dE a o)) a (putK kv k v) := by
  obtain ⟨o, es, ep, e1, e2, e3, e4, _, e5⟩ := dd
  obtain ⟨mu, nt⟩ := kd_mut h
  have keep : ∀ c ys, H c = some (.tup ys) → upd H a (dE a o) c = some (.tup ys) := fun c ys e => by
    have z : c ≠ a := fun z => by
      subst z
      exact nt ys e
    rw [upd_ne z]
    exact e
  have p2 : PK X.K (upd H a (dE a o)) (putK kv k v) (storedH xs k b u) := Paired.mapP (r.put hb hd rv) fun _ _ z => ⟨z.1, z.2.1.mono keep, z.2.2⟩
  refine ⟨o, d_write (ob := dE a o) I mu hs ⟨o, e1⟩ ⟨e1, ⟨o, e1⟩, fun h1 h2 q1 q2 => q2 o q1⟩, .inr ⟨putK_ne, o, _, upd_same, (kd_at I h).1, ?_, ⟨e2, ⟨es, ep, e3, e4⟩, e5⟩, p2⟩⟩
  have := length_putK kv k v
  omega
end
section
variable {X : Cx}
/-- a[k] of a dict -/
def rIxD (w : World) (K : PySem.W.Frag) : R2 := fun x y H Q => ∃ a v, x = .ref a ∧ ((∃ kv k, H a = some (.dK kv) ∧ y = kV k ∧ valV kv k = some v) ∨ ∃ kv k b, KD w K H a kv ∧ y = .ref b ∧ KyH K H k (.ref b) ∧ dep k ≤ 8 ∧ valV kv k = some v) ∧ Q v H
theorem ix_dic (hu : X.A.units + 65 < cLine) : IxR X (rIxD X.w X.K) := by
  intro value slice pins s σ H x y v u Q I rx ry h hs
  obtain ⟨a, z, rfl, h, q⟩ := h
  cases rx
  rcases h with ⟨kv, k, e, rfl, l⟩ | ⟨kv, k, b, h, rfl, hk, hd, l⟩
  · obtain ⟨_, _, vs, rel, dd⟩ := dk_rd I.hok (.inl e)
    obtain ⟨w', hw, rw'⟩ := RelO.some_of (v := z) (o := valueAt vs k) (by rw [← l]; exact rel.val k)
    refine subscriptTail_builtinR (x := w') dd.typeIs slot_dict_getitem.lookup (wpAny_getItem_of (kV_is ry) dd.mapOf hw ⟨rfl, ?_⟩) hs
    exact ⟨z, H, I.tok _, rw', q⟩
  · cases ry
    obtain ⟨hm, _, xs, r, dd⟩ := kd_at I h
    obtain ⟨w', hw, rw'⟩ := RelO.some_of (v := z) (o := (atKey xs k).map (·.2)) (by rw [← l]; exact r.at_ k)
    obtain ⟨p, hp, hp2⟩ := Option.map_eq_some_iff.mp hw
    refine subscriptTail_builtinR (x := w') dd.typeIs slot_dict_getitem.lookup (wpAny_getItem_heap (Q := fun r s' => r = w' ∧ EP X pins σ Q r s') (show X.A.in1.units + 10 < cLine by show X.A.units + 1 + 10 < cLine; omega) (show (treeK X.prog X.w).is s.heap k b from ⟨ky_at I hk rfl, hd⟩) dd hp ⟨hp2, ?_⟩) hs
    rw [hp2]
    exact ⟨z, H, I.tok _, rw', q⟩
/-- a[k] = v of a dict -/
def rSetD (w : World) (K : PySem.W.Frag) : TSet := fun x y v H Q => ∃ a, x = .ref a ∧ ((∃ kv k, H a = some (.dK kv) ∧ y = kV k ∧ kv.length < sizeLine ∧ Q (upd H a (.dK (putK kv k v)))) ∨
  ∃ kv k b, KD w K H a kv ∧ y = .ref b ∧ KyH K H k (.ref b) ∧ dep k ≤ 8 ∧ kv.length < sizeLine ∧ ∀ o, KD w K (upd H a (dE a o)) a (putK kv k v) → Q (upd H a (dE a o)))
theorem set_dic (hu : X.A.units + 65 < cLine) : PSet X (rSetD X.w X.K) := by
  intro pins s σ H x y v xv yv u Q I rx ry rv h
  obtain ⟨a, rfl, h⟩ := h
  cases rx
  rcases h with ⟨kv, k, e, rfl, l, q⟩ | ⟨kv, k, b, h, rfl, hk, hd, l, q⟩
  · exact d_setItem (by omega) I (.k e l) ry rv fun s' I' => ⟨_, I', q⟩
  · cases ry
    obtain ⟨hm, hz, xs, r, dd⟩ := kd_at I h
    refine wpAny_setItem_heap (hsz := by rw [← Paired.length r]; exact hz) (show X.A.in1.units + 10 < cLine by show X.A.units + 1 + 10 < cLine; omega) (show (treeK X.prog X.w).is s.heap k b from ⟨ky_at I hk rfl, hd⟩) dd fun h' dd' hs => ?_
    obtain ⟨o, I', kd'⟩ := kd_write (t' := s.toks + (treeK X.prog X.w).draws k) I h hk hd rv l r dd' hs
    exact ⟨_, I', q o kd'⟩
/-- k in a -/
def rInE (w : World) (K : PySem.W.Frag) (neg : Bool) : R2 := fun y x H Q => ∃ a o, x = .ref a ∧ ((∃ kv k, H a = some (.dK kv) ∧ y = kV k ∧ valV kv k = o) ∨ ∃ kv k b, KD w K H a kv ∧ y = .ref b ∧ KyH K H k (.ref b) ∧ dep k ≤ 8 ∧ valV kv k = o) ∧ Q (.bl (o.isSome ^^ neg)) H
theorem op_inE (hu : X.A.units + 65 < cLine) : OpR X (compareOp .In) (rInE X.w X.K false) := by
  intro pins s σ H y x yv xv Q I ry rx h
  obtain ⟨a, o, rfl, h, q⟩ := h
  rw [Bool.xor_false] at q
  cases rx
  rcases h with ⟨kv, k, e, rfl, l⟩ | ⟨kv, k, b, h, rfl, hk, hd, l⟩
  · exact d_in (o := o) (by omega) I (l ▸ .k e) ry fun s' I' => ⟨.bl o.isSome, H, I', rfl, q⟩
  · cases ry
    obtain ⟨hm, _, xs, r, dd⟩ := kd_at I h
    refine wpAny_in_heap (show X.A.in1.units + 10 < cLine by show X.A.units + 1 + 10 < cLine; omega) (show (treeK X.prog X.w).is s.heap k b from ⟨ky_at I hk rfl, hd⟩) hm dd ?_
    have z := (r.at_ k).isSome_eq
    rw [Option.isSome_map] at z
    rw [← z, l]
    exact ⟨.bl o.isSome, H, I.tok _, rfl, q⟩
theorem op_ninE (hu : X.A.units + 65 < cLine) : OpR X (compareOp .NotIn) (rInE X.w X.K true) := by
  intro pins s σ H y x yv xv Q I ry rx h
  obtain ⟨a, o, rfl, h, q⟩ := h
  rw [Bool.xor_true] at q
  cases rx
  rcases h with ⟨kv, k, e, rfl, l⟩ | ⟨kv, k, b, h, rfl, hk, hd, l⟩
  · exact d_notIn (o := o) (by omega) I (l ▸ .k e) ry fun s' I' => ⟨.bl (!o.isSome), H, I', rfl, q⟩
  · cases ry
    obtain ⟨hm, _, xs, r, dd⟩ := kd_at I h
    refine wpAny_notIn_heap (show X.A.in1.units + 10 < cLine by show X.A.units + 1 + 10 < cLine; omega) (show (treeK X.prog X.w).is s.heap k b from ⟨ky_at I hk rfl, hd⟩) hm dd ?_
    have z := (r.at_ k).isSome_eq
    rw [Option.isSome_map] at z
    rw [← z, l]
    exact ⟨.bl (!o.isSome), H, I.tok _, rfl, q⟩
/-- len of a dict -/
def rLenD (w : World) (K : PySem.W.Frag) : List V → Hp → VK → Prop := fun xs H Q => ∃ (a : Addr) (n : Nat), xs = [.ref a] ∧ ((∃ kv, H a = some (.dK kv) ∧ kv.length = n) ∨ ∃ kv, KD w K H a kv ∧ kv.length = n) ∧ Q (.int n) H
theorem call_lenE : CallR X (.builtin "len") (rLenD X.w X.K) := by
  intro pins s σ H xs us Q I r h
  obtain ⟨a, n, rfl, h, q⟩ := h
  obtain ⟨u, rfl, rx⟩ := vals1 r
  cases rx
  rcases h with ⟨kv, e, rfl⟩ | ⟨kv, h, rfl⟩
  · exact d_len I (.inl e) fun t s' I' => ⟨.int kv.length, H, I', ⟨t, rfl⟩, q⟩
  · obtain ⟨hm, hz, ys, r, dd⟩ := kd_at I h
    have hl : kv.length = ys.length := Paired.length r
    refine call_len_dictH hm dd (by rw [← hl]; rw [sizeLine_eq] at hz; omega) ?_
    rw [← hl]
    exact ⟨.int kv.length, H, I.tok _, ⟨_, rfl⟩, q⟩
/-- the receiver is a dict -/
def isDV (w : World) (K : PySem.W.Frag) (x : V) (H : Hp) : Prop := ∃ a, x = .ref a ∧ ((∃ kv, H a = some (.dK kv)) ∨ ∃ kv, KD w K H a kv)
theorem isDV_at {pins : List (Addr × Obj)} {σ : L2.St} {H : Hp} {s : Shared} {x : V} {v : Value} (I : Inv X pins σ H s) (r : RelV x v) (h : isDV X.w X.K x H) : s.TypeIs v "dict" ∧ ∀ a, v = .ref a → ∃ ob, s.heap.get? a = some ob ∧ ob.dict = none := by
  obtain ⟨a, rfl, h⟩ := h
  cases r
  rcases h with ⟨kv, e⟩ | ⟨kv, h⟩
  · obtain ⟨_, _, vs, _, dd⟩ := dk_rd I.hok (.inl e)
    obtain ⟨ob, _, _, h1, h2, _⟩ := id dd
    exact ⟨dd.typeIs, fun b q => by cases q; exact ⟨ob, h1, h2.2.1⟩⟩
  · obtain ⟨_, _, xs, _, dd⟩ := kd_at I h
    obtain ⟨ob, _, _, h1, h2, _⟩ := id dd
    exact ⟨dd.typeIs, fun b q => by cases q; exact ⟨ob, h1, h2.2.1⟩⟩
def tBMd (w : World) (K : PySem.W.Frag) (r : V → List V → Hp → VK → Prop) (to : TE) (t : TA) : TE := fun σ H Q => to σ H fun x H1 => isDV w K x H1 ∧ t σ H1 fun xs H2 => r x xs H2 Q
theorem pe_bmd {o e : Expr} {es : List Expr} {to : TE} {t : TA} {name : Str} {apos cpos : Pos} {id : String} {r : V → List V → Hp → VK → Prop} (slot : Slot "dict" name id) (hty : typeOf (.builtin id) = pure (.type "method_descriptor")) (hm : MtR X id r) (ho : PE X o to) (ha : PA X (e :: es) t)
    (hbase : attributeBase o name X.env (eval o X.env) = eval o X.env)
    (few : ((backTo cpos (starEach (e :: es) X.env)).all (fun x => !x.1) && (backToKw cpos (keywordEach [] X.env)).all (fun x => x.1.isSome) && decide ((e :: es).length + ([] : List Keyword).length + (if ([] : List Keyword).isEmpty then 0 else 1) < 30)) = true)
    (hline : (apos.endLine == cpos.line) = true) (hs : starEach (e :: es) X.env = (false, eval e X.env) :: starEach es X.env) (hplain : (backTo cpos (starEach es X.env)).any (·.1) = false) :
    PE X (.Call (.Attribute o name apos) (e :: es) [] cpos) (tBMd X.w X.K r to t) := by
  refine ⟨fun pins s σ H Q I h => ?_⟩
  refine wpAny_Call_method_late hbase few hline rfl (thn (ho.run pins s σ H _ I h) fun v s1 ⟨x, H1, I1, r1, ty, q1⟩ => ?_)
  obtain ⟨t1, t2⟩ := isDV_at I1 r1 ty
  refine ⟨"dict", id, PySem.F.plainAttrs_dict, slot, hty, t1, t2, ?_⟩
  have hA := ha.run cpos pins s1 σ H1 _ I1 q1
  rw [hs] at hA ⊢
  refine Calls.callWith_builtin (by show (false || (backTo cpos (starEach es X.env)).any (·.1)) = false; rw [hplain]; rfl) (Calls.evalArgs_plain ?_)
  exact thn hA fun us s2 ⟨vs, H2, I2, r2, q2⟩ => hm pins s2 σ H2 x vs v us Q I2 r1 r2 q2
/-- d.setdefault(k, v) -/
def rDef (w : World) (K : PySem.W.Frag) : V → List V → Hp → VK → Prop := fun x xs H Q => ∃ a y z, x = .ref a ∧ xs = [y, z] ∧ ((∃ kv k, H a = some (.dK kv) ∧ y = kV k ∧ kv.length < sizeLine ∧ (∀ v, valV kv k = some v → Q v H) ∧ (valV kv k = none → Q z (upd H a (.dK (putK kv k z))))) ∨
  ∃ kv k b, KD w K H a kv ∧ y = .ref b ∧ KyH K H k (.ref b) ∧ dep k ≤ 8 ∧ kv.length < sizeLine ∧ (∀ v, valV kv k = some v → Q v H) ∧ (valV kv k = none → ∀ o, KD w K (upd H a (dE a o)) a (putK kv k z) → Q z (upd H a (dE a o))))
theorem mt_setdefault (hu : X.A.units + 65 < cLine) : MtR X "dict.setdefault" (rDef X.w X.K) := by
  intro pins s σ H x xs v us Q I rx rs h
  obtain ⟨a, y, z, rfl, rfl, h⟩ := h
  cases rx
  obtain ⟨yv, zv, rfl, ry, rz⟩ := vals2 rs
  rcases h with ⟨kv, k, e, rfl, l, q1, q2⟩ | ⟨kv, k, b, h, rfl, hk, hd, l, q1, q2⟩
  · exact d_setd I e ry rz l (fun v hv w' s' I' rw' => ⟨v, H, I', rw', q1 v hv⟩) fun hn w' s' I' rw' => ⟨z, _, I', rw', q2 hn⟩
  · cases ry
    obtain ⟨hm, hz, ys, r, dd⟩ := kd_at I h
    have av := r.at_ k
    refine call_setdefault_heap (hsz := by rw [← Paired.length r]; exact hz) (show X.A.in1.units + 10 < cLine by show X.A.units + 1 + 10 < cLine; omega) (show (treeK X.prog X.w).is s.heap k b from ⟨ky_at I hk rfl, hd⟩) hm dd (fun p hp => ?_) fun hn h' dd' hs => ?_
    · rw [hp] at av
      cases hv : valV kv k with
      | none => rw [hv] at av; exact av.elim
      | some w' => rw [hv] at av; exact ⟨w', H, I.tok _, av, q1 w' hv⟩
    · rw [hn] at av
      cases hv : valV kv k with
      | some w' => rw [hv] at av; exact av.elim
      | none =>
        obtain ⟨o, I', kd'⟩ := kd_write (t' := s.toks + (treeK X.prog X.w).draws k) I h hk hd rz l r dd' hs
        exact ⟨z, _, I', rz, q2 hv o kd'⟩
/-- d.get(k, v) -/
def rGet (w : World) (K : PySem.W.Frag) : V → List V → Hp → VK → Prop := fun x xs H Q => ∃ a y z o, x = .ref a ∧ xs = [y, z] ∧ ((∃ kv k, H a = some (.dK kv) ∧ y = kV k ∧ valV kv k = o) ∨
  ∃ kv k b, KD w K H a kv ∧ y = .ref b ∧ KyH K H k (.ref b) ∧ dep k ≤ 8 ∧ valV kv k = o) ∧ Q (o.getD z) H
theorem mt_get (hu : X.A.units + 65 < cLine) : MtR X "dict.get" (rGet X.w X.K) := by
  intro pins s σ H x xs v us Q I rx rs h
  obtain ⟨a, y, z, o, rfl, rfl, h, q⟩ := h
  cases rx
  obtain ⟨yv, zv, rfl, ry, rz⟩ := vals2 rs
  rcases h with ⟨kv, k, e, rfl, l⟩ | ⟨kv, k, b, h, rfl, hk, hd, l⟩
  · exact d_get2 (by omega) I (l ▸ .k e) ry rz fun w' s' I' rw' => ⟨_, H, I', rw', q⟩
  · cases ry
    obtain ⟨hm, hz, ys, r, dd⟩ := kd_at I h
    have av := r.at_ k
    rw [l] at av
    refine call_meetsIn PySem.F.slot_dict_get dd.typeIs PySem.F.entry_dict_get (PySem.F.args_dict_get_3 _ _ _) (meetsH_dict_get_default (treeK X.prog X.w) a b hm zv) ⟨show X.A.in1.units + 10 < cLine by show X.A.units + 1 + 10 < cLine; omega, k, ys, ⟨ky_at I hk rfl, hd⟩, dd, ?_⟩
    exact ⟨_, H, I.tok _, RelO.getD av rz, q⟩
end
end Mi

/-! Mi, part DC: dicts of the store and of the heap. -/
namespace Mi
open PySem PySem.Spec PyProof.Rows L2
section
variable {K : PySem.W.Frag} {A : Adr} {μ : List Addr} {H : Hp} {S : Store}
mutual
theorem RV.ky : ∀ {d : D} {v : V}, RV K A μ H d v → keyB d = true → KyH K H d v
  | _, _, .int i, _ => rfl
  | _, _, .str x, h => ⟨h, rfl⟩
  | _, _, .tup q r, h => ⟨_, _, rfl, q, RVs.ky r h⟩
  | _, _, .non, h => nomatch h
  | _, _, .bl _, h => nomatch h
  | _, _, .ref _, h => nomatch h
  | _, _, .fn _, h => nomatch h
  | _, _, .ty _, h => nomatch h
theorem RVs.ky : ∀ {ds : List D} {vs : List V}, RVs K A μ H ds vs → keysB ds = true → KysH K H ds vs
  | _, _, .nil, _ => rfl
  | _, _, .cons r q, h => by
    have h : (keyB _ && keysB _) = true := h
    rw [Bool.and_eq_true] at h
    exact ⟨_, _, rfl, RV.ky r h.1, RVs.ky q h.2⟩
end
theorem kD_inj {a b : Key} (h : kD a = kD b) : a = b := by
  cases a <;> cases b <;> first | (cases h; rfl) | cases h
theorem kD_S (k : Key) : isS (kD k) = true := by cases k <;> rfl
theorem isS_T {d : D} (h : isS d = true) : isT d = false := by cases d <;> first | rfl | cases h
theorem isS_of {d : D} {v : V} (h : isS d = true) (r : RV K A μ H d v) : ∃ k, d = kD k ∧ v = kV k := by
  cases r with
  | int i => exact ⟨.inl i, rfl, rfl⟩
  | str x => exact ⟨.inr x, rfl, rfl⟩
  | _ => cases h
theorem isT_of {d : D} {v : V} (h : isT d = true) (r : RV K A μ H d v) : ∃ b, v = .ref b ∧ KyH K H d (.ref b) ∧ dep d ≤ 8 := by
  cases r with
  | tup q r =>
    have h : (keysB _ && decide (dep _ ≤ 8)) = true := h
    rw [Bool.and_eq_true] at h
    exact ⟨_, rfl, ⟨_, _, rfl, q, r.ky h.1⟩, of_decide_eq_true h.2⟩
  | _ => cases h
abbrev PS1 (K : PySem.W.Frag) (A : Adr) (μ : List Addr) (H : Hp) : List (D × D) → List (Key × V) → Prop := Paired fun p q => p.1 = kD q.1 ∧ RV K A μ H p.2 q.2
abbrev PT1 (K : PySem.W.Frag) (A : Adr) (μ : List Addr) (H : Hp) : List (D × D) → List (D × V) → Prop := Paired fun p q => p.1 = q.1 ∧ RV K A μ H p.2 q.2
/-- the two ways of a dict and a key that fits -/
theorem Sto.dic (s : Sto K A μ S H) {n : Nat} {a : Addr} {kvs : List (D × D)} {y : D} {w : V} (hn : S[n]? = some (.dic kvs)) (e0 : μ[n]? = some a) (hk : kOk kvs y = true) (ry : RV K A μ H y w) :
    (∃ kv k, H a = some (.dK kv) ∧ w = kV k ∧ y = kD k ∧ PS1 K A μ H kvs kv) ∨ ∃ kv b, KD A.w K H a kv ∧ w = .ref b ∧ KyH K H y (.ref b) ∧ dep y ≤ 8 ∧ PT1 K A μ H kvs kv := by
  have c := s.cell n _ a hn e0
  have hk : ((isS y && kvs.all fun p => isS p.1) || (isT y && kvs.all fun p => isT p.1)) = true := hk
  rw [Bool.or_eq_true, Bool.and_eq_true, Bool.and_eq_true] at hk
  rcases hk with ⟨h1, h2⟩ | ⟨h1, h2⟩
  · obtain ⟨k, rfl, rfl⟩ := isS_of h1 ry
    rcases c with ⟨kv, e, r⟩ | ⟨kv, e, r⟩
    · exact .inl ⟨kv, k, e, rfl, rfl, r⟩
    · rcases e with ⟨rfl, e⟩ | ⟨ne, o, xs, e, _, _, _, pk⟩
      · cases r
        exact .inl ⟨[], k, e, rfl, rfl, .nil⟩
      · cases r with
        | nil => exact absurd rfl ne
        | @cons p q ps qs z t =>
          rw [List.all_cons, Bool.and_eq_true] at h2
          cases pk with
          | cons z2 _ =>
            have g := z2.2.1
            have h2 := h2.1
            rw [z.1] at h2
            cases hq : q.1 with
            | int i => rw [hq] at g; exact nomatch (show V.ref _ = V.int i from g)
            | str i => rw [hq] at g; exact nomatch g.2
            | _ => rw [hq] at h2; cases h2
  · obtain ⟨b, rfl, kh, kd⟩ := isT_of h1 ry
    rcases c with ⟨kv, e, r⟩ | ⟨kv, e, r⟩
    · cases r with
      | nil => exact .inr ⟨[], b, .inl ⟨rfl, e⟩, rfl, kh, kd, .nil⟩
      | @cons p q ps qs z t =>
        rw [List.all_cons, Bool.and_eq_true] at h2
        have h2 := h2.1
        rw [z.1, isS_T (kD_S _)] at h2
        cases h2
    · exact .inr ⟨kv, b, e, rfl, kh, kd, r⟩
theorem PS1.val {kvs : List (D × D)} {kv : List (Key × V)} (r : PS1 K A μ H kvs kv) (k : Key) : match dval kvs (kD k) with
    | some d => ∃ v, valV kv k = some v ∧ RV K A μ H d v
    | none => valV kv k = none := by
  induction r with
  | nil => exact rfl
  | @cons p q ps qs z t ih =>
    by_cases e : q.1 = k
    · have e' : p.1 = kD k := by rw [z.1, e]
      have b : dval (p :: ps) (kD k) = some p.2 := by simp [dval, List.find?_cons, e']
      rw [b, valV_pos e]
      exact ⟨_, rfl, z.2⟩
    · have e' : ¬ p.1 = kD k := fun y => e (kD_inj (z.1.symm.trans y))
      have b : dval (p :: ps) (kD k) = dval ps (kD k) := by simp [dval, List.find?_cons, e']
      rw [b, valV_neg e]
      exact ih
theorem PT1.val {kvs : List (D × D)} {kv : List (D × V)} (r : PT1 K A μ H kvs kv) (k : D) : match dval kvs k with
    | some d => ∃ v, valV kv k = some v ∧ RV K A μ H d v
    | none => valV kv k = none := by
  induction r with
  | nil => exact rfl
  | @cons p q ps qs z t ih =>
    by_cases e : q.1 = k
    · have e' : p.1 = k := by rw [z.1, e]
      have b : dval (p :: ps) k = some p.2 := by simp [dval, List.find?_cons, e']
      rw [b, valV_pos e]
      exact ⟨_, rfl, z.2⟩
    · have e' : ¬ p.1 = k := fun y => e (z.1.symm.trans y)
      have b : dval (p :: ps) k = dval ps k := by simp [dval, List.find?_cons, e']
      rw [b, valV_neg e]
      exact ih
theorem dval_any (k : D) : ∀ kvs : List (D × D), (kvs.any fun p => decide (p.1 = k)) = (dval kvs k).isSome
  | [] => rfl
  | p :: r => by
    rw [List.any_cons]
    by_cases e : p.1 = k
    · simp [dval, List.find?_cons, e]
    · have b : dval (p :: r) k = dval r k := by simp [dval, List.find?_cons, e]
      rw [b, decide_eq_false e, Bool.false_or]
      exact dval_any k r
theorem PS1.put {kvs : List (D × D)} {kv : List (Key × V)} (r : PS1 K A μ H kvs kv) (k : Key) {d : D} {v : V} (rd : RV K A μ H d v) : PS1 K A μ H (dput kvs (kD k) d) (putK kv k v) := by
  have e : (kvs.any fun p => decide (p.1 = kD k)) = kv.any fun p => decide (p.1 = k) := by
    rw [dval_any, valV_any]
    have h := r.val k
    cases hd : dval kvs (kD k) with
    | none => rw [hd] at h; rw [show valV kv k = none from h]; rfl
    | some x => rw [hd] at h; obtain ⟨v', h, _⟩ := h; rw [h]; rfl
  unfold dput putK
  rw [e]
  by_cases q : (kv.any fun p => decide (p.1 = k)) = true
  · rw [if_pos q, if_pos q]
    clear e q
    induction r with
    | nil => exact .nil
    | @cons p q ps qs z t ih =>
      rw [List.map_cons, List.map_cons]
      refine .cons ?_ ih
      by_cases e : q.1 = k
      · rw [if_pos e, if_pos (by rw [z.1, e])]
        exact ⟨z.1, rd⟩
      · rw [if_neg e, if_neg (fun y => e (kD_inj (z.1.symm.trans y)))]
        exact z
  · rw [if_neg q, if_neg q]
    exact Paired.snoc r ⟨rfl, rd⟩
theorem PT1.put {kvs : List (D × D)} {kv : List (D × V)} (r : PT1 K A μ H kvs kv) (k : D) {d : D} {v : V} (rd : RV K A μ H d v) : PT1 K A μ H (dput kvs k d) (putK kv k v) := by
  have e : (kvs.any fun p => decide (p.1 = k)) = kv.any fun p => decide (p.1 = k) := by
    rw [dval_any, valV_any]
    have h := r.val k
    cases hd : dval kvs k with
    | none => rw [hd] at h; rw [show valV kv k = none from h]; rfl
    | some x => rw [hd] at h; obtain ⟨v', h, _⟩ := h; rw [h]; rfl
  unfold dput putK
  rw [e]
  by_cases q : (kv.any fun p => decide (p.1 = k)) = true
  · rw [if_pos q, if_pos q]
    clear e q
    induction r with
    | nil => exact .nil
    | @cons p q ps qs z t ih =>
      rw [List.map_cons, List.map_cons]
      refine .cons ?_ ih
      by_cases e : q.1 = k
      · rw [if_pos e, if_pos (by rw [z.1, e])]
        exact ⟨z.1, rd⟩
      · rw [if_neg e, if_neg (fun y => e (z.1.symm.trans y))]
        exact z
  · rw [if_neg q, if_neg q]
    exact Paired.snoc r ⟨rfl, rd⟩
theorem getK_is {n : Nat} {y : D} {r : Out (List (D × D))} (h : getK n y S = r) (hr : r ≠ .no) : ∃ kvs, S[n]? = some (.dic kvs) ∧ kOk kvs y = true ∧ r = .ok kvs S := by
  unfold getK at h
  split at h
  · rename_i kvs e
    split at h
    · rename_i hk
      exact ⟨kvs, e, hk, h.symm⟩
    · exact absurd h.symm hr
  · exact absurd h.symm hr
theorem orD_t {α : Type} {r : Nat} {m m' : M α} (h : isDic S r = true) : orD r m m' S = m S := if_pos h
theorem orD_f {α : Type} {r : Nat} {m m' : M α} (h : isDic S r = false) : orD r m m' S = m' S := if_neg (by rw [h]; decide)
theorem isDic_get {r : Nat} (h : isDic S r = true) : ∃ kvs, S[r]? = some (.dic kvs) := by
  unfold isDic at h
  split at h
  · rename_i kvs e
    exact ⟨kvs, e⟩
  · cases h
/-- what a bind over a dict's table says -/
theorem Cont.getK {W : WX} {γ δ : Type} {R2 : List Addr → Hp → γ → δ → Prop} {σ : L2.St} {n : Nat} {y : D} {f : List (D × D) → M γ} {Q : δ → Hp → Prop} (h : Cont K A W R2 σ μ H ((Mi.getK n y >>= f) S) Q) : ∃ kvs, S[n]? = some (.dic kvs) ∧ kOk kvs y = true ∧ Cont K A W R2 σ μ H (f kvs S) Q := by
  have h : Cont K A W R2 σ μ H (M.bnd (Mi.getK n y) f S) Q := h
  unfold M.bnd at h
  cases e : Mi.getK n y S with
  | no => rw [e] at h; exact h.elim
  | er x S' => obtain ⟨kvs, _, _, z⟩ := getK_is e (fun z => nomatch z); cases z
  | ok kvs' S' =>
    rw [e] at h
    obtain ⟨kvs, h1, h2, z⟩ := getK_is e (fun z => nomatch z)
    cases z
    exact ⟨_, h1, h2, h⟩
theorem putD_is {n : Nat} {y d : D} {r : Out Unit} (h : putD n y d S = r) (hr : r ≠ .no) : ∃ kvs, S[n]? = some (.dic kvs) ∧ kOk kvs y = true ∧ kvs.length < lim ∧ r = .ok () (S.set n (.dic (dput kvs y d))) := by
  unfold putD at h
  split at h
  · rename_i kvs e
    split at h
    · rename_i hk
      rw [Bool.and_eq_true] at hk
      exact ⟨kvs, e, hk.1, of_decide_eq_true hk.2, h.symm⟩
    · exact absurd h.symm hr
  · exact absurd h.symm hr
end
end Mi

/-! Mi, part DD: dict comprehensions whose keys are of any kind. (The library's rule asks for keys that are numbers and texts; this one leaves the store to rSetD. It goes its way: the loop first, in any context, then the block.) -/
namespace Mi
open PySem PySem.Spec PyProof.Rows L2
/-- one store -/
theorem dset {Y : Cx} (hu : Y.A.units + 65 < cLine) {pins : List (Addr × Obj)} {σ : L2.St} {H : Hp} {s : Shared} {a : Addr} {y v : V} {uy uv : Value} (I : Inv Y pins σ H s) (ry : RelV y uy) (rv : RelV v uv) {P : Hp → Prop} (p : rSetD Y.w Y.K (.ref a) y v H P) {R : Unit → Shared → Prop} {E : Value → Shared → Prop}
    (k : ∀ s' H', Inv Y pins σ H' s' → P H' → R () s') : wpAny (model Y.prog Y.w) Y.A (dictSet a uy uv) R E s := by
  obtain ⟨a', e, p⟩ := p
  cases e
  rcases p with ⟨kv, key, e, rfl, l, q⟩ | ⟨kv, key, b, e, rfl, hk, hd, l, q⟩
  · exact d_dictSet I e l ry rv fun s' I' => k s' _ I' q
  · cases ry
    obtain ⟨hm, hz, xs, r, dd⟩ := kd_at I e
    refine wpAny_dictSet_heap (hsz := by rw [← Paired.length r]; exact hz) (show Y.A.units + 10 < cLine by omega) (show (treeK Y.prog Y.w).is s.heap key b from ⟨ky_at I hk rfl, hd⟩) dd fun h' dd' hs => ?_
    obtain ⟨o, I', kd'⟩ := kd_write (t' := s.toks + (treeK Y.prog Y.w).draws key) I e hk hd rv l r dd' hs
    exact k _ _ I' (q o kd')
/-- the reading -/
def tDcU (w : World) (K : PySem.W.Frag) (wi : TI) (g : TG) (tt : TT) (tk tv : TE) (vs : List Nat) : TE := fun σ H Q => wi σ H fun J H1 => ∀ a, H1 a = none → ∃ Left : Nat → Nat → Hp → Prop, (∃ n, Left 0 n (upd H1 a (.dK []))) ∧ ∀ i n P, Left i n P →
  (J.stop i P ∧ Q (.ref a) P) ∨ (J.go i P ∧ ∃ After : Hp → Prop, (∀ P', After P' → ∃ n', n' < n ∧ Left (i + 1) n' P') ∧ ∀ x P', J.yld i P x P' → g x (L2.wipe σ vs) P' fun σ2 P2 => L2.wipe σ2 vs = L2.wipe σ vs ∧
    tt σ2 P2 fun b P3 => if b = true then tk σ2 P3 fun y P4 => tv σ2 P4 fun z P5 => rSetD w K (.ref a) y z P5 After else After P3)
/-- the loop, in any context that lets nothing out -/
theorem dc_loop {Y : Cx} (hu : Y.A.units + 65 < cLine) (calm : Y.calm = true) (quiet : Y.xe = fun _ _ => False) {tg it : Expr} {tests : List Expr} {ke ve : Expr} {scp : Scope} {pos : Pos} {g : TG} {tt : TT} {tk tv : TE} (pg : PG Y tg g) (pt : PTs Y tests tt) (pk : PE Y ke tk) (pv : PE Y ve tv)
    {vs : List Nat} {τ : L2.St} {J : It} {fp : List Addr} {ita a : Addr} {at_ : Nat → Heap → Prop} (T : Turn Y.prog Y.w Y.K tg J fp ita at_) (fine : ∀ {σ' : L2.St} {P : Hp} {s' : Shared}, Inv Y [] σ' P s' → (∀ b ∈ fp, P b = none) → ∀ b ∈ fp, FpOk Y [] P b)
    {Left : Nat → Nat → Hp → Prop} {Q : Hp → Prop}
    (round : ∀ i n P, Left i n P → (J.stop i P ∧ Q P) ∨ (J.go i P ∧ ∃ After : Hp → Prop, (∀ P', After P' → ∃ n', n' < n ∧ Left (i + 1) n' P') ∧ ∀ x P', J.yld i P x P' → g x τ P' fun σ2 P2 => L2.wipe σ2 vs = τ ∧
      tt σ2 P2 fun b P3 => if b = true then tk σ2 P3 fun y P4 => tv σ2 P4 fun z P5 => rSetD Y.w Y.K (.ref a) y z P5 After else After P3))
    {R : Result → Shared → Prop} (stop : ∀ s' P, Inv Y [] τ P s' → Q P → R (.ok .next) s') {n : Nat} {P : Hp} {s : Shared} (I : Inv Y [] τ P s) (st : at_ 0 s.heap) (fr : ∀ b ∈ fp, P b = none) (l : Left 0 n P) :
    codeAny (model Y.prog Y.w) Y.A (.compLoop (.DictComp ke ve [⟨tg, it, tests, 0⟩] scp pos) 0 (.ref ita) (.ref a) Y.env) R s := by
  have run1 : ∀ {e : Expr} {t : TE}, PE Y e t → ∀ {pins : List (Addr × Obj)} {s : Shared} {σ : L2.St} {P : Hp} {Q : VK}, Inv Y pins σ P s → t σ P Q → wpAny (model Y.prog Y.w) Y.A (eval e Y.env) (EP Y pins σ Q) (fun _ _ => False) s := fun h _ _ _ _ _ I q => quiet ▸ h.run _ _ _ _ _ I q
  refine compLoop_anyD (fun n s' => ∃ i P, Inv Y [] τ P s' ∧ at_ i s'.heap ∧ (∀ b ∈ fp, P b = none) ∧ Left i n P) ?_ n ⟨0, P, I, st, fr, l⟩
  clear I st fr l
  rintro n s ⟨i, P, I, st, fr, l⟩
  rcases round i n P l with ⟨js, q⟩ | ⟨jg, After, next, more⟩
  · refine thnF (T.done Y rfl rfl rfl calm i [] s _ P (fun _ _ => False) I (fine I fr) st js) fun r s2 z => ?_
    obtain ⟨rfl, I2⟩ := z
    exact stop s2 P I2 q
  · refine thnF (T.item Y rfl rfl rfl calm i [] s _ P (fun _ _ => False) I (fine I fr) st jg) fun r s2 z => ?_
    obtain ⟨u, rfl, z⟩ := z
    refine thnF z fun _ s3 z => ?_
    obtain ⟨x, P3, I3, rx, jy, st3, fr3⟩ := z
    have J3 := I3.pinned (fine I3 fr3) (T.obj _ _ st3)
    -- what the turn's end leaves
    have close : ∀ {s' : Shared} {σ' : L2.St} {P' : Hp}, L2.wipe σ' vs = τ → Inv Y ([] ++ pinsAt fp s3.heap) σ' P' s' → After P' → ∃ m, m < n ∧ ∃ i P, Inv Y [] τ P s' ∧ at_ i s'.heap ∧ (∀ b ∈ fp, P b = none) ∧ Left i m P := fun {s' σ' P'} hw I' h' => by
      obtain ⟨m, hm, lm⟩ := next P' h'
      have held : ∀ b ∈ fp, ∀ o, s3.heap.get? b = some o → s'.heap.get? b = some o ∧ P' b = none := fun b hb o e => by
        have z := I'.pin (b, o) (List.mem_append_right _ (List.mem_append_right _ (mem_pinsAt hb e)))
        exact ⟨z.1, z.2.1⟩
      have len : τ.length = σ'.length := by
        rw [← hw]
        exact wipe_length _ _
      refine ⟨m, hm, i + 1, P', I'.unpinned.weak len fun j v e => ?_, T.keep _ _ _ st3 fun b hb o e => (held b hb o e).1, fun b hb => ?_, lm⟩
      · rw [← hw] at e
        exact (wipe_some e).1
      · obtain ⟨o, e, _⟩ := T.obj _ _ st3 b hb
        exact (held b hb o e).2
    have target := pg.run _ s3 _ P3 x u _ J3 rx (more x P3 jy)
    rw [quiet] at target
    refine thnF target fun _ s4 z => ?_
    obtain ⟨σ4, P4, I4, hw, q4⟩ := z
    have test := pt.run _ s4 σ4 P4 _ I4 q4
    rw [quiet] at test
    refine thnF test fun b s5 z => ?_
    obtain ⟨P5, I5, q5⟩ := z
    by_cases hb : b = true
    · rw [if_pos hb] at q5 ⊢
      refine thnF (run1 pk I5 q5) fun u6 s6 z => ?_
      obtain ⟨y, P6, I6, r6, q6⟩ := z
      refine thnF (run1 pv I6 q6) fun u7 s7 z => ?_
      obtain ⟨v, P7, I7, r7, q7⟩ := z
      exact dset hu I7 r6 r7 q7 fun s8 P8 I8 q8 => close hw I8 q8
    · rw [if_neg hb] at q5 ⊢
      exact close hw I5 q5
section
variable {X : Cx}
/-- a dict comprehension -/
theorem pe_dcU (hu : X.A.units + 65 < cLine) (calm : X.calm = true) (nod : X.N.Nodup) {ke ve tg it : Expr} {tests : List Expr} {scp : Scope} {own : List (Str × Nat)} {pos : Pos} {wi : TI} {g : TG} {tt : TT} {tk tv : TE} (src : PI X tg it wi) (bo : BlkOk X.N X.env.scope scp own)
    (hg : ∀ (s : Shared) (H : Hp) (C : Addr) (cl : List (Str × Addr)) (fp : List Addr), PG (X.blk s H scp (compEnvC scp cl C X.env) fp) tg g)
    (ht : ∀ (s : Shared) (H : Hp) (C : Addr) (cl : List (Str × Addr)) (fp : List Addr), PTs (X.blk s H scp (compEnvC scp cl C X.env) fp) tests tt)
    (hk : ∀ (s : Shared) (H : Hp) (C : Addr) (cl : List (Str × Addr)) (fp : List Addr), PE (X.blk s H scp (compEnvC scp cl C X.env) fp) ke tk)
    (hv : ∀ (s : Shared) (H : Hp) (C : Addr) (cl : List (Str × Addr)) (fp : List Addr), PE (X.blk s H scp (compEnvC scp cl C X.env) fp) ve tv) (plain : ∀ x, foldedSetIterable it X.env x = pure x) :
    PE X (.DictComp ke ve [⟨tg, it, tests, 0⟩] scp pos) (tDcU X.w X.K wi g tt tk tv (own.map (·.2))) := by
  refine ⟨fun pins s σ H Q I h => ?_⟩
  rw [arm_eval_DictComp]
  have cells : ∀ y ∈ scp.names, y.2 = .free → ∃ c, X.env.cells.lookup y.1 = some c := fun y hy e => (bo.free y hy e).elim (fun z => I.ok.has _ (.inl z)) fun z => I.ok.has _ (.inr z)
  refine wpAny_comprehension_free rfl plain (closure_ok cells) bo.kind (fun y hy e => by rw [bo.uniq y hy, e]) (thn (src.run pins s σ H _ I h) fun _ s1 z => thn z fun itv s2 z => ?_)
  obtain ⟨ita, fp, at_, J, P, rfl, I2, T, st, fr, q⟩ := z
  refine wpAny_newObj_type (newEnv_comp ?_)
  have an : P s2.heap.objs.size = none := I2.hok.fresh (Nat.le_refl _)
  obtain ⟨Left, ⟨n0, l0⟩, round⟩ := q _ an
  -- the new dict
  obtain ⟨a, ha⟩ : ∃ a, a = s2.heap.objs.size := ⟨_, rfl⟩
  obtain ⟨s3, hs3⟩ : ∃ s3 : Shared, s3 = { s2 with heap := s2.heap.push { cls := .type "dict", data := .dict #[] } } := ⟨_, rfl⟩
  have I3 : Inv X pins σ (upd P a (.dK [])) s3 := by
    subst hs3 ha
    exact I2.laid (t' := s2.toks) (fun b o e => Heap.get?_push_of_some _ e) (Nat.le_refl _) (dk_empty s2.heap I2.big)
  have up : ∀ b o, s2.heap.get? b = some o → s3.heap.get? b = some o := fun b o e => by
    subst hs3
    exact Heap.get?_push_of_some _ e
  have old : ∀ b ∈ fp, b < a := fun b hb => by
    obtain ⟨o, e, _⟩ := T.obj _ _ st b hb
    rw [ha]
    exact Heap.lt_size e
  have size3 : s3.heap.objs.size = a + 1 := by
    rw [hs3, ha]
    exact Heap.size_push ..
  have fr3 : ∀ b ∈ fp, FpOk X pins (upd P a (.dK [])) b ∧ b < s3.heap.objs.size := fun b hb => by
    have hlt := old b hb
    refine ⟨⟨?_, (fr b hb).2⟩, by rw [size3]; exact Nat.lt_succ_of_lt hlt⟩
    rw [upd_ne (Nat.ne_of_lt hlt)]
    exact (fr b hb).1
  rw [← ha] at l0 round ⊢
  rw [← hs3]
  clear hs3 an
  obtain ⟨P3, hP3⟩ : ∃ P3, P3 = upd P a (.dK []) := ⟨_, rfl⟩
  rw [← hP3] at I3 fr3 l0
  clear hP3
  have start := block_start I3 bo nod fr3
  have stS : at_ 0 (pushCells (s3.heap.push { cls := .type "dict", data := .dict #[] }) scp.names) := T.keep _ _ _ st fun b _ o e => pushCells_keeps _ _ _ _ (Heap.get?_push_of_some _ (up b o e))
  have turn := dc_loop (Y := X.blk s3 P3 scp (compEnvC scp (cellsFrom (s3.heap.objs.size + 1) scp.names (cloFrom X.env.cells scp.names [])) s3.heap.objs.size X.env) fp) (tg := tg) (it := it) (scp := scp) (pos := pos) hu calm rfl (hg _ _ _ _ _) (ht _ _ _ _ _) (hk _ _ _ _ _) (hv _ _ _ _ _) (a := a) T
    (fun {σ' P' s'} I' hn b hb => ⟨hn b hb, (I'.ok.exf b hb).1, I'.ok.exfs b hb, .inl hb, fun x c e => (I'.ok.exf b hb).2 x c e, fun p hp => by cases hp⟩) (Left := Left) (Q := Q (.ref a)) (vs := own.map (·.2)) (τ := L2.wipe σ (own.map (·.2)))
    round (R := compPost (model X.prog X.w) X.A X.xe none (EP X pins σ Q) (.ref a) s3.heap.objs.size) (fun s' P' I' q' => ?_) start stS (fun b hb => (fr3 b hb).1.1) l0
  · exact codeAny_compStart_dict turn (T.self X.A 0 _ _ _ stS turn)
  · have back : Inv X pins σ P' s' := I3.call' (ch := fp) I'.os I'.base I'.hok I'.bare fun b hb => ⟨(fr3 b hb).1.2.2.2.1, (fr3 b hb).1.2.1, (fr3 b hb).1.2.2.2.2.1, (fr3 b hb).1.2.2.2.2.2⟩
    have gone : P' s3.heap.objs.size = none := I'.free
    obtain ⟨m, hn, _⟩ := I'.loc
    refine ⟨m, hn, fun h2 sb => ?_⟩
    obtain ⟨f0, f1, f2, f3, f4, f5⟩ := I3.fpOk (Nat.le_refl _) gone
    exact ⟨.ref a, P', back.turned (t' := s'.toks) (fun b o hb e => (sb.2 b hb).trans e) f0 f1 f3 f4 f5, rfl, q'⟩
end
end Mi

/-! Mi, part D: comparisons, items, what is built in. -/
namespace Mi
open PySem PySem.Spec PyProof.Rows L2
section
variable {X : Cx} {A : Adr}

/-! ### in -/
def rInDT (K : PySem.W.Frag) (neg : Bool) : R2 := fun x y H Q => ∃ d ds, Dp K H x d ∧ (Dp K H y (.list ds) ∧ SeqAt.shaped (.list ds) = true ∨ Dp K H y (.tuple ds) ∧ SeqAt.shaped (.tuple ds) = true) ∧ SeqAt.shaped d = true ∧
  Q (.bl (if neg then !(ds.any fun z => PyData.eqv z d) else ds.any fun z => PyData.eqv z d)) H
theorem op_inDT (hu : X.A.units + 65 < cLine) : OpR X (compareOp .In) (rInDT X.K false) := by
  rintro pins s σ H x y v u Q I rx ry ⟨d, ds, hd, hy, sd, q⟩
  obtain ⟨as, r1⟩ := Dp.reads I d x v hd rx
  rcases hy with ⟨he, se⟩ | ⟨he, se⟩
  · obtain ⟨bs, r2⟩ := Dp.reads I (.list ds) y u he ry
    exact SeqAt.in_list_reads r2 r1 (SeqAt.canLay_of_shaped se) (SeqAt.canLay_of_shaped sd) (room_in_shaped sd hu) ⟨.bl _, H, I, rfl, q⟩
  · obtain ⟨bs, r2⟩ := Dp.reads I (.tuple ds) y u he ry
    exact SeqAt.in_tuple_reads r2 r1 (SeqAt.canLay_of_shaped se) (SeqAt.canLay_of_shaped sd) (room_in_shaped sd hu) ⟨.bl _, H, I, rfl, q⟩
theorem op_ninDT (hu : X.A.units + 65 < cLine) : OpR X (compareOp .NotIn) (rInDT X.K true) := by
  rintro pins s σ H x y v u Q I rx ry ⟨d, ds, hd, hy, sd, q⟩
  obtain ⟨as, r1⟩ := Dp.reads I d x v hd rx
  rcases hy with ⟨he, se⟩ | ⟨he, se⟩
  · obtain ⟨bs, r2⟩ := Dp.reads I (.list ds) y u he ry
    exact SeqAt.notIn_list_reads r2 r1 (SeqAt.canLay_of_shaped se) (SeqAt.canLay_of_shaped sd) (room_in_shaped sd hu) ⟨.bl _, H, I, rfl, q⟩
  · obtain ⟨bs, r2⟩ := Dp.reads I (.tuple ds) y u he ry
    exact SeqAt.notIn_tuple_reads r2 r1 (SeqAt.canLay_of_shaped se) (SeqAt.canLay_of_shaped sd) (room_in_shaped sd hu) ⟨.bl _, H, I, rfl, q⟩
abbrev rInSg : R2 := fun x y H Q => ∃ (c : Nat) (z : Str), x = .str ⟨#[c]⟩ ∧ y = .str z ∧ Q (.bl (decide (c ∈ z.cps.toList))) H
abbrev rNinSg : R2 := fun x y H Q => ∃ (c : Nat) (z : Str), x = .str ⟨#[c]⟩ ∧ y = .str z ∧ Q (.bl (!decide (c ∈ z.cps.toList))) H

def InD (w : World) (K : PySem.W.Frag) (H : Hp) (y x : V) (k : Bool) : Prop := ∃ a o, x = .ref a ∧ ((∃ kv k', H a = some (.dK kv) ∧ y = kV k' ∧ valV kv k' = o) ∨ ∃ kv k' b, KD w K H a kv ∧ y = .ref b ∧ KyH K H k' (.ref b) ∧ dep k' ≤ 8 ∧ valV kv k' = o) ∧ o.isSome = k
/-- what the evaluator's «in» tells -/
theorem in_sv {K : PySem.W.Frag} {μ : List Addr} {H : Hp} {S : Store} (s : Sto K A μ S H) {x y : D} {v w : V} {k : Bool} {S' : Store} (rx : RV K A μ H x v) (ry : RV K A μ H y w) (h : inM x y S = .ok k S') :
    S' = S ∧ ((∃ c z, v = .str ⟨#[c]⟩ ∧ w = .str z ∧ decide (c ∈ z.cps.toList) = k) ∨ (∃ d ds, Dp K H v d ∧ (Dp K H w (.list ds) ∧ SeqAt.shaped (.list ds) = true ∨ Dp K H w (.tuple ds) ∧ SeqAt.shaped (.tuple ds) = true) ∧ SeqAt.shaped d = true ∧ (ds.any fun z => PyData.eqv z d) = k) ∨ InD A.w K H v w k) := by
  have any : ∀ {ds : List D} {vs : List V}, RVs K A μ H ds vs → anyEq x ds S = .ok k S' → S' = S ∧ ∃ d ps, Dp K H v d ∧ DpAll K H vs ps ∧ PyData.canLayAll0 ps = true ∧ PyData.depthAll ps ≤ 59 ∧ SeqAt.shaped d = true ∧ (ps.any fun z => PyData.eqv z d) = k := fun {ds vs} r h => by
    unfold anyEq at h
    split at h
    · rename_i p qs e1 e2
      cases h
      obtain ⟨h1, h2⟩ := toPy_dp s 60 x v p rx e1
      obtain ⟨h3, h4⟩ := dp_all (A := A) (fun d v p => toPy_dp s 59 d v p) r (mapM_some e2)
      obtain ⟨h5, h6⟩ := okAll h4
      exact ⟨rfl, p, qs, h1, h3, h5, h6, shaped_of h2 (by omega), rfl⟩
    · cases h
  have sh : ∀ {ps : List PyData}, PyData.canLayAll0 ps = true → PyData.depthAll ps ≤ 59 → SeqAt.shaped (.list ps) = true ∧ SeqAt.shaped (.tuple ps) = true := fun {ps} h1 h2 => by
    refine ⟨shaped_of (n := 60) ⟨by unfold PyData.canLay0; exact h1, by unfold PyData.depth; omega⟩ (by omega), shaped_of (n := 60) ⟨by unfold PyData.canLay0; exact h1, by unfold PyData.depth; omega⟩ (by omega)⟩
  cases ry with
  | @tup ts b us q r =>
    have h : anyEq x ts S = .ok k S' := by cases rx <;> exact h
    obtain ⟨e, d, ps, h1, h2, h3, h4, h5, h6⟩ := any r h
    exact ⟨e, .inr (.inl ⟨d, ps, h1, .inr ⟨.tup q.sq h2, (sh h3 h4).2⟩, h5, h6⟩)⟩
  | @ref n a e0 =>
    have h : orD n (Mi.getK n x >>= fun kvs => M.ret (dval kvs x).isSome) (getL n >>= fun ds => anyEq x ds) S = .ok k S' := by cases rx <;> exact h
    by_cases hD : isDic S n = true
    · rw [orD_t hD] at h
      have h : M.bnd (Mi.getK n x) (fun kvs => M.ret (dval kvs x).isSome) S = .ok k S' := h
      unfold M.bnd at h
      cases g : Mi.getK n x S with
      | no => rw [g] at h; cases h
      | er e S2 => rw [g] at h; cases h
      | ok kvs S2 =>
        rw [g] at h
        obtain ⟨kvs', e1, e2, z⟩ := getK_is g (fun z => nomatch z)
        cases z
        cases h
        refine ⟨rfl, .inr (.inr ?_)⟩
        rcases s.dic e1 e0 e2 rx with ⟨kv, k', f1, rfl, rfl, f2⟩ | ⟨kv, b, f1, rfl, f2, f3, f4⟩
        · refine ⟨a, valV kv k', rfl, .inl ⟨kv, k', f1, rfl, rfl⟩, ?_⟩
          have q := f2.val k'
          cases hd : dval kvs (kD k') with
          | none => rw [hd] at q; rw [show valV kv k' = none from q]; rfl
          | some d => rw [hd] at q; obtain ⟨u, q, _⟩ := q; rw [q]; rfl
        · refine ⟨a, valV kv x, rfl, .inr ⟨kv, x, b, f1, rfl, f2, f3, rfl⟩, ?_⟩
          have q := f4.val x
          cases hd : dval kvs x with
          | none => rw [hd] at q; rw [show valV kv x = none from q]; rfl
          | some d => rw [hd] at q; obtain ⟨u, q, _⟩ := q; rw [q]; rfl
    rw [orD_f (by cases q : isDic S n with | true => exact absurd q hD | false => rfl)] at h
    have h : M.bnd (getL n) (fun ds => anyEq x ds) S = .ok k S' := h
    unfold M.bnd getL at h
    cases e : S[n]? with
    | none => rw [e] at h; cases h
    | some c =>
      rw [e] at h
      cases c with
      | lst ds =>
        obtain ⟨vs, g1, g2⟩ := s.cell n _ a e e0
        obtain ⟨e, d, ps, h1, h2, h3, h4, h5, h6⟩ := any g2 h
        exact ⟨e, .inr (.inl ⟨d, ps, h1, .inl ⟨.lst (.inl (.inl g1)) h2, (sh h3 h4).1⟩, h5, h6⟩)⟩
      | frz ds =>
        obtain ⟨vs, g1, g2⟩ := s.cell n _ a e e0
        obtain ⟨e, d, ps, h1, h2, h3, h4, h5, h6⟩ := any g2 h
        exact ⟨e, .inr (.inl ⟨d, ps, h1, .inl ⟨.lst g1.sq h2, (sh h3 h4).1⟩, h5, h6⟩)⟩
      | dic kvs => cases h
      | ins c fs => cases h
  | str z =>
    cases rx with
    | str x =>
      have h : inSg z x.cps.toList S = .ok k S' := h
      obtain ⟨cps⟩ := x
      have h : inSg z cps.toList S = .ok k S' := h
      generalize e : cps.toList = l at h
      match l, h, e with
      | [c], h, e =>
        cases h
        refine ⟨rfl, .inl ⟨c, z, ?_, rfl, rfl⟩⟩
        have : cps = #[c] := by
          rw [← Array.toList_inj]
          exact e
        rw [this]
      | [], h, e => cases h
      | _ :: _ :: _, h, e => cases h
    | _ => exact absurd h (by intro z; cases z)
  | non => cases rx <;> exact absurd h (by intro z; cases z)
  | bl b => cases rx <;> exact absurd h (by intro z; cases z)
  | int b => cases rx <;> exact absurd h (by intro z; cases z)
  | fn b => cases rx <;> exact absurd h (by intro z; cases z)
  | ty b => cases rx <;> exact absurd h (by intro z; cases z)
theorem anyEq_er (x : D) (ds : List D) (S : Store) (e : Exn) (S' : Store) : anyEq x ds S ≠ .er e S' := by
  unfold anyEq
  split <;> (intro h; cases h)
theorem inM_er (x y : D) (S : Store) (e : Exn) (S' : Store) : inM x y S ≠ .er e S' := by
  unfold inM
  split
  · rename_i x y
    generalize x.cps.toList = l
    match l with
    | [c] => intro h; cases h
    | [] => intro h; cases h
    | _ :: _ :: _ => intro h; cases h
  · exact anyEq_er _ _ _ _ _
  · rename_i r
    show orD r (Mi.getK r x >>= fun kvs => M.ret (dval kvs x).isSome) (getL r >>= fun ds => anyEq x ds) S ≠ _
    unfold orD
    split
    · show M.bnd (Mi.getK r x) _ S ≠ _
      unfold M.bnd
      cases g : Mi.getK r x S with
      | ok kvs S2 => intro h; cases h
      | er x' S2 => obtain ⟨kvs, _, _, z⟩ := getK_is g (fun z => nomatch z); cases z
      | no => intro h; cases h
    · show M.bnd (getL _) _ S ≠ _
      unfold M.bnd getL
      cases S[r]? with
      | none => intro h; cases h
      | some c => cases c <;> first | exact anyEq_er _ _ _ _ _ | (intro h; cases h)
  · intro h; cases h

/-! ### is -/
abbrev rIsU : R2 := fun x y H Q => (y = .non ∧ Q (.bl (decide (x = .non))) H) ∨ rIsB x y H Q
abbrev rIsntU : R2 := fun x y H Q => (y = .non ∧ Q (.bl (!decide (x = .non))) H) ∨ rNotB x y H Q
theorem is_sv {K : PySem.W.Frag} {μ : List Addr} {H : Hp} {S : Store} {x y : D} {v w : V} {k : Bool} {S' : Store} (rx : RV K A μ H x v) (ry : RV K A μ H y w) (h : isM x y S = .ok k S') :
    S' = S ∧ ((w = .non ∧ decide (v = .non) = k) ∨ ∃ a b : Bool, v = .bl a ∧ w = .bl b ∧ decide (a = b) = k) := by
  cases ry with
  | non =>
    cases rx <;> (cases h; exact ⟨rfl, .inl ⟨rfl, rfl⟩⟩)
  | bl b =>
    cases rx with
    | bl a => cases h; exact ⟨rfl, .inr ⟨a, b, rfl, rfl, rfl⟩⟩
    | _ => exact absurd h (by intro z; cases z)
  | _ => cases rx <;> exact absurd h (by intro z; cases z)
theorem isM_er (x y : D) (S : Store) (e : Exn) (S' : Store) : isM x y S ≠ .er e S' := by
  unfold isM
  split <;> (intro h; cases h)

def cmpAst : COp → CmpOp
  | .eq => .Eq | .ne => .NotEq | .lt => .Lt | .le => .LtE | .gt => .Gt | .ge => .GtE | .is_ => .Is | .isnt => .IsNot | .in_ => .In | .nin => .NotIn
def rCop (w : World) (K : PySem.W.Frag) : COp → R2
  | .eq => rEqU K
  | .ne => rNeU K
  | .lt => rI0 fun i j => .bl (decide (i < j))
  | .le => rI0 fun i j => .bl (decide (i ≤ j))
  | .gt => rI0 fun i j => .bl (decide (j < i))
  | .ge => rI0 fun i j => .bl (decide (j ≤ i))
  | .is_ => rIsU
  | .isnt => rIsntU
  | .in_ => fun x y H Q => rInSg x y H Q ∨ (rInDT K false x y H Q ∨ rInE w K false x y H Q)
  | .nin => fun x y H Q => rNinSg x y H Q ∨ (rInDT K true x y H Q ∨ rInE w K true x y H Q)
theorem op_cop (hu : X.A.units + 65 < cLine) : ∀ o : COp, OpR X (compareOp (cmpAst o)) (rCop X.w X.K o)
  | .eq => OpR.or op_eq (op_eqD (by omega))
  | .ne => OpR.or op_ne (op_neD (by omega))
  | .lt => op_lt
  | .le => op_le
  | .gt => op_gt
  | .ge => op_ge
  | .is_ => OpR.or op_isN op_isBl
  | .isnt => OpR.or op_notN op_notBl
  | .in_ => OpR.or op_in_sign (OpR.or (op_inDT hu) (op_inE hu))
  | .nin => OpR.or op_notIn_sign (OpR.or (op_ninDT hu) (op_ninE hu))
/-- what a comparison tells, by the rules -/
def ServesC (X : Cx) (A : Adr) (o : COp) : Prop :=
  ∀ (W : WX) (σ : L2.St) (x y : D) (v w : V) (μ : List Addr) (H : Hp) (S : Store) (Q : Bool → Hp → Prop), Sto X.K A μ S H → RV X.K A μ H x v → RV X.K A μ H y w →
    Cont X.K A W (fun _ _ a b => a = b) σ μ H (cmpM o x y S) Q → rCop A.w X.K o v w H (fun z H' => ∃ k, z = .bl k ∧ Q k H')
theorem Cont.okB {K : PySem.W.Frag} {μ : List Addr} {H : Hp} {W : WX} {σ : L2.St} {m : M Bool} {S : Store} {Q : Bool → Hp → Prop} (h : Cont K A W (fun _ _ a b => a = b) σ μ H (m S) Q) (hm : ∀ e S', m S ≠ .er e S') : ∃ k S', m S = .ok k S' ∧ (Sto K A μ S' H → Q k H) := by
  cases e : m S with
  | ok a S' =>
    rw [e] at h
    exact ⟨a, S', rfl, fun s => h a μ H Nx.refl s rfl⟩
  | er x S' => exact absurd e (hm x S')
  | no => rw [e] at h; exact h.elim
theorem Cont.okN {K : PySem.W.Frag} {μ : List Addr} {H : Hp} {W : WX} {σ : L2.St} {m : M Bool} {S : Store} {Q : Bool → Hp → Prop} (h : Cont K A W (fun _ _ a b => a = b) σ μ H ((do let b ← m; M.ret (!b)) S) Q) (hm : ∀ e S', m S ≠ .er e S') : ∃ k S', m S = .ok k S' ∧ (Sto K A μ S' H → Q (!k) H) := by
  obtain ⟨k, S', e, h⟩ := Cont.pure h hm
  exact ⟨k, S', e, fun s => h.out s rfl⟩
theorem sv_cop : ∀ o : COp, ServesC X A o
  | .eq => by
    intro W σ x y v w μ H S Q s rx ry h
    obtain ⟨k, S', e, q⟩ := Cont.okB h (eqM_er x y S)
    obtain ⟨rfl, c⟩ := eq_sv s rx ry e
    rcases c with ⟨h1, rfl⟩ | ⟨d, d', h1, h2, h3, h4, rfl⟩
    · exact .inl ⟨h1, _, rfl, q s⟩
    · exact .inr ⟨d, d', h1, h2, h3, h4, _, rfl, q s⟩
  | .ne => by
    intro W σ x y v w μ H S Q s rx ry h
    obtain ⟨k, S', e, q⟩ := Cont.okN h (eqM_er x y S)
    obtain ⟨rfl, c⟩ := eq_sv s rx ry e
    rcases c with ⟨h1, rfl⟩ | ⟨d, d', h1, h2, h3, h4, rfl⟩
    · exact .inl ⟨h1, _, rfl, q s⟩
    · exact .inr ⟨d, d', h1, h2, h3, h4, _, rfl, q s⟩
  | .lt => by
    intro W σ x y v w μ H S Q s rx ry h
    cases rx with
    | int i =>
      cases ry with
      | int j => exact ⟨i, j, rfl, rfl, _, rfl, h.out s rfl⟩
      | _ => exact False.elim h
    | _ => exact False.elim h
  | .le => by
    intro W σ x y v w μ H S Q s rx ry h
    cases rx with
    | int i =>
      cases ry with
      | int j => exact ⟨i, j, rfl, rfl, _, rfl, h.out s rfl⟩
      | _ => exact False.elim h
    | _ => exact False.elim h
  | .gt => by
    intro W σ x y v w μ H S Q s rx ry h
    cases rx with
    | int i =>
      cases ry with
      | int j => exact ⟨i, j, rfl, rfl, _, rfl, h.out s rfl⟩
      | _ => exact False.elim h
    | _ => exact False.elim h
  | .ge => by
    intro W σ x y v w μ H S Q s rx ry h
    cases rx with
    | int i =>
      cases ry with
      | int j => exact ⟨i, j, rfl, rfl, _, rfl, h.out s rfl⟩
      | _ => exact False.elim h
    | _ => exact False.elim h
  | .is_ => by
    intro W σ x y v w μ H S Q s rx ry h
    obtain ⟨k, S', e, q⟩ := Cont.okB h (isM_er x y S)
    obtain ⟨rfl, c⟩ := is_sv rx ry e
    rcases c with ⟨rfl, rfl⟩ | ⟨a, b, rfl, rfl, rfl⟩
    · exact .inl ⟨rfl, _, rfl, q s⟩
    · exact .inr ⟨a, b, rfl, rfl, _, rfl, q s⟩
  | .isnt => by
    intro W σ x y v w μ H S Q s rx ry h
    obtain ⟨k, S', e, q⟩ := Cont.okN h (isM_er x y S)
    obtain ⟨rfl, c⟩ := is_sv rx ry e
    rcases c with ⟨rfl, rfl⟩ | ⟨a, b, rfl, rfl, rfl⟩
    · exact .inl ⟨rfl, _, rfl, q s⟩
    · exact .inr ⟨a, b, rfl, rfl, _, rfl, q s⟩
  | .in_ => by
    intro W σ x y v w μ H S Q s rx ry h
    obtain ⟨k, S', e, q⟩ := Cont.okB h (inM_er x y S)
    obtain ⟨rfl, c⟩ := in_sv s rx ry e
    rcases c with ⟨c, z, rfl, rfl, rfl⟩ | ⟨d, ds, h1, h2, h3, rfl⟩ | ⟨a, o, h1, h2, rfl⟩
    · exact .inl ⟨c, z, rfl, rfl, _, rfl, q s⟩
    · exact .inr (.inl ⟨d, ds, h1, h2, h3, _, rfl, q s⟩)
    · exact .inr (.inr ⟨a, o, h1, h2, _, rfl, by rw [Bool.xor_false]; exact q s⟩)
  | .nin => by
    intro W σ x y v w μ H S Q s rx ry h
    obtain ⟨k, S', e, q⟩ := Cont.okN h (inM_er x y S)
    obtain ⟨rfl, c⟩ := in_sv s rx ry e
    rcases c with ⟨c, z, rfl, rfl, rfl⟩ | ⟨d, ds, h1, h2, h3, rfl⟩ | ⟨a, o, h1, h2, rfl⟩
    · exact .inl ⟨c, z, rfl, rfl, _, rfl, q s⟩
    · exact .inr (.inl ⟨d, ds, h1, h2, h3, _, rfl, q s⟩)
    · exact .inr (.inr ⟨a, o, h1, h2, _, rfl, by rw [Bool.xor_true]; exact q s⟩)

/-! ### truth -/
theorem truth_sv {K : PySem.W.Frag} {μ : List Addr} {H : Hp} {S : Store} (s : Sto K A μ S H) {x : D} {v : V} {k : Bool} {S' : Store} (rx : RV K A μ H x v) (h : truthM x S = .ok k S') : S' = S ∧ TruV K v H k := by
  cases rx with
  | non => cases h; exact ⟨rfl, rfl⟩
  | bl b => cases h; exact ⟨rfl, rfl⟩
  | int i => cases h; exact ⟨rfl, rfl⟩
  | str x =>
    by_cases hx : x.length ≤ lim
    · have h : (M.need (decide (x.length ≤ lim)) >>= fun _ => M.ret ((x.length : Int) != 0)) S = .ok k S' := h
      rw [decide_eq_true hx] at h
      cases h
      exact ⟨rfl, lim_size hx, rfl⟩
    · have h : (M.need (decide (x.length ≤ lim)) >>= fun _ => M.ret ((x.length : Int) != 0)) S = .ok k S' := h
      rw [decide_eq_false hx] at h
      cases h
  | @tup ds a vs q r =>
    cases h
    refine ⟨rfl, .inr (.inl ⟨vs, q.sq, ?_⟩)⟩
    cases r <;> rfl
  | @ref n a e0 =>
    have h : M.bnd (getL n) (fun ds => M.ret (!ds.isEmpty)) S = .ok k S' := h
    unfold M.bnd getL at h
    cases e : S[n]? with
    | none => rw [e] at h; cases h
    | some c =>
      rw [e] at h
      cases c with
      | lst ds =>
        obtain ⟨vs, g1, g2⟩ := s.cell n _ a e e0
        cases h
        refine ⟨rfl, .inl ⟨vs, .inl (.inl g1), ?_⟩⟩
        cases g2 <;> rfl
      | frz ds =>
        obtain ⟨vs, g1, g2⟩ := s.cell n _ a e e0
        cases h
        refine ⟨rfl, .inl ⟨vs, g1.sq, ?_⟩⟩
        cases g2 <;> rfl
      | dic kvs => cases h
      | ins c fs => cases h
  | fn f => cases h
  | ty t => cases h
theorem truthM_er (x : D) (S : Store) (e : Exn) (S' : Store) : truthM x S ≠ .er e S' := by
  cases x with
  | str x =>
    show (M.need (decide (x.length ≤ lim)) >>= fun _ => M.ret ((x.length : Int) != 0)) S ≠ _
    cases decide (x.length ≤ lim) <;> (intro h; cases h)
  | ref n =>
    show M.bnd (getL n) (fun ds => M.ret (!ds.isEmpty)) S ≠ _
    unfold M.bnd getL
    cases S[n]? with
    | none => intro h; cases h
    | some c => cases c <;> (intro h; cases h)
  | _ => intro h; cases h
end
end Mi

/-! Mi, part E: items, slices, what is built in. -/
namespace Mi
open PySem PySem.Spec PyProof.Rows L2
section
variable {X : Cx} {A : Adr}

theorem RVs.atI {K : PySem.W.Frag} {μ : List Addr} {H : Hp} {ds : List D} {vs : List V} {i : Int} {d : D} (r : RVs K A μ H ds vs) (h : L2.atI ds i = some d) : ∃ v, L2.atI vs i = some v ∧ RV K A μ H d v := by
  unfold L2.atI at h ⊢
  rw [← r.length]
  cases e : ixN ds.length i with
  | none => rw [e] at h; cases h
  | some j =>
    rw [e] at h
    exact r.get h

/-! ### a[i] -/
abbrev rIxU (w : World) (K : PySem.W.Frag) : R2 := fun x y H Q => rIxD w K x y H Q ∨ rIx K x y H Q
theorem sv_ix : Serves X A ixM (rIxU A.w X.K) := by
  intro W σ x y v w μ H S Q s rx ry h
  cases rx with
  | @tup ds a vs q r =>
    cases ry with
    | int i =>
      have h : Cont X.K A W (RV X.K A) σ μ H (ofO (L2.atI ds i) S) Q := h
      cases e : L2.atI ds i with
      | none => rw [e] at h; exact h.elim
      | some d =>
        rw [e] at h
        obtain ⟨u, h1, h2⟩ := r.atI e
        exact .inr (.inr (.inl ⟨a, vs, i, u, rfl, rfl, q.sq, h1, h.out s h2⟩))
    | _ => exact False.elim h
  | @ref n a e0 =>
    have h : Cont X.K A W (RV X.K A) σ μ H (orD n (Mi.getK n y >>= fun kvs => Mi.ofO (dval kvs y)) (asInt y >>= fun i => getL n >>= fun ds => ofO (L2.atI ds i)) S) Q := h
    by_cases hD : isDic S n = true
    · rw [orD_t hD] at h
      obtain ⟨kvs, e1, e2, h⟩ := Cont.getK h
      refine .inl ?_
      rcases s.dic e1 e0 e2 ry with ⟨kv, k', f1, rfl, rfl, f2⟩ | ⟨kv, b, f1, rfl, f2, f3, f4⟩
      · have q := f2.val k'
        cases hd : dval kvs (kD k') with
        | none => rw [hd] at h; exact h.elim
        | some d =>
          rw [hd] at h q
          obtain ⟨u, q1, q2⟩ := q
          exact ⟨a, u, rfl, .inl ⟨kv, k', f1, rfl, q1⟩, h.out s q2⟩
      · have q := f4.val y
        cases hd : dval kvs y with
        | none => rw [hd] at h; exact h.elim
        | some d =>
          rw [hd] at h q
          obtain ⟨u, q1, q2⟩ := q
          exact ⟨a, u, rfl, .inr ⟨kv, y, b, f1, rfl, f2, f3, q1⟩, h.out s q2⟩
    rw [orD_f (by cases q : isDic S n with | true => exact absurd q hD | false => rfl)] at h
    cases ry with
    | int i =>
      obtain ⟨ds, vs, g1, g2, h, _⟩ := Cont.getL s (show Cont X.K A W (RV X.K A) σ μ H ((getL n >>= fun ds => ofO (L2.atI ds i)) S) Q from h) e0
      cases e : L2.atI ds i with
      | none => rw [e] at h; exact h.elim
      | some d =>
        rw [e] at h
        obtain ⟨u, h1, h2⟩ := g2.atI e
        exact .inr (.inl ⟨a, vs, i, u, rfl, rfl, g1, h1, h.out s h2⟩)
    | _ => exact False.elim h
  | str z =>
    cases ry with
    | int i =>
      obtain ⟨h0, h⟩ := Cont.need h
      obtain ⟨c, hc, h⟩ := Cont.ofO h
      exact .inr (.inr (.inr ⟨z, i, c, rfl, rfl, lim_size (of_decide_eq_true h0), hc, h.out s (.str _)⟩))
    | _ => exact False.elim h
  | _ => cases ry <;> exact False.elim h

/-! ### slices -/
abbrev rSlU (K : PySem.W.Frag) : V → Option Int → Option Int → Hp → VK → Prop := fun x lo hi H Q => rSlL K x lo hi H Q ∨ (rSlA K x lo hi H Q ∨ rSlS x lo hi H Q)
theorem sl_all : SlR X (rSlU X.K) := SlR.or sl_list (SlR.or sl_tupA sl_str)
theorem sIx_hi_le (n : Nat) (hi : Option Int) : HT.sIx n n hi ≤ n := HT.sIx_le _ _ (Nat.le_refl _) _
theorem sv_sl {W : WX} {σ : L2.St} {x : D} {v : V} {lo hi : Option Int} {μ : List Addr} {H : Hp} {S : Store} {Q : VK} (s : Sto X.K A μ S H) (rx : RV X.K A μ H x v) (h : Cont X.K A W (RV X.K A) σ μ H (slM x lo hi S) Q) : rSlU X.K v lo hi H Q := by
  cases rx with
  | @tup ds a vs q r =>
    refine .inr (.inl ⟨a, vs, rfl, q.sq, fun ⟨e1, e2⟩ => ?_, fun _ p hp => h.tup s (r.cut lo hi) hp⟩)
    have e : cutL ds lo hi = ds := by
      unfold cutL
      rw [r.length, e1, e2, Nat.sub_zero, List.drop_zero, ← r.length, List.take_length]
    have h : Cont X.K A W (RV X.K A) σ μ H (M.ret (.tup (cutL ds lo hi)) S) Q := h
    rw [e] at h
    exact h.out s (.tup q r)
  | @ref n a e0 =>
    obtain ⟨ds, vs, g1, g2, h, _⟩ := Cont.getL s h e0
    exact .inl ⟨a, vs, rfl, g1, fun p hp => Cont.newL s h (g2.cut lo hi) hp⟩
  | str z =>
    obtain ⟨h0, h⟩ := Cont.need h
    refine .inr (.inr ⟨z, rfl, lim_size (of_decide_eq_true h0), ?_⟩)
    have e : (z.cps.toList.length) = z.length := Array.length_toList
    have h : Cont X.K A W (RV X.K A) σ μ H (M.ret (.str ⟨(cutL z.cps.toList lo hi).toArray⟩) S) Q := h
    unfold cutL at h
    rw [e] at h
    exact h.out s (.str _)
  | _ => exact False.elim h

/-! ### a[i] = v -/
abbrev rSetU (w : World) (K : PySem.W.Frag) : TSet := fun x y v H Q => rSetD w K x y v H Q ∨ rSetL x y v H Q
theorem PSet.or {t t' : TSet} (h : PSet X t) (h' : PSet X t') : PSet X (fun x y v H Q => t x y v H Q ∨ t' x y v H Q) := by
  intro pins s σ H x y v xv yv u Q I rx ry rv q
  rcases q with q | q
  · exact h pins s σ H x y v xv yv u Q I rx ry rv q
  · exact h' pins s σ H x y v xv yv u Q I rx ry rv q
/-- a dict written -/
theorem wrS {K : PySem.W.Frag} {S : Store} {μ : List Addr} {H : Hp} {n : Nat} {a : Addr} {kvs es : List (D × D)} {kv kv' : List (Key × V)} (s : Sto K A μ S H) (ha : μ[n]? = some a) (hn : S[n]? = some (.dic kvs)) (e : H a = some (.dK kv)) (r : PS1 K A μ H es kv') :
    Nx μ H μ (upd H a (.dK kv')) ∧ Sto K A μ (S.set n (.dic es)) (upd H a (.dK kv')) := by
  have nx : Nx μ H μ (upd H a (.dK kv')) := Nx.wr ha e (fun _ z => nomatch z) (fun _ _ z => nomatch z)
  exact ⟨nx, s.wr hn ha rfl nx (.inl ⟨kv', upd_same, Paired.mapP r fun _ _ z => ⟨z.1, z.2.mono nx⟩⟩)⟩
theorem wrT {K : PySem.W.Frag} {S : Store} {μ : List Addr} {H : Hp} {n : Nat} {a : Addr} {kvs es : List (D × D)} {kv kv' : List (D × V)} {o : Obj} (s : Sto K A μ S H) (ha : μ[n]? = some a) (hn : S[n]? = some (.dic kvs)) (e : KD A.w K H a kv) (e' : KD A.w K (upd H a (dE a o)) a kv') (r : PT1 K A μ H es kv') :
    Nx μ H μ (upd H a (dE a o)) ∧ Sto K A μ (S.set n (.dic es)) (upd H a (dE a o)) := by
  have nx : Nx μ H μ (upd H a (dE a o)) := by
    rcases e with ⟨_, e⟩ | ⟨_, o', xs, e, _⟩
    · exact Nx.wr ha e (fun _ z => nomatch z) (fun _ _ z => nomatch z)
    · exact Nx.wr ha e (fun _ z => nomatch z) (fun _ _ z => nomatch z)
  exact ⟨nx, s.wr hn ha rfl nx (.inr ⟨kv', e', Paired.mapP r fun _ _ z => ⟨z.1, z.2.mono nx⟩⟩)⟩
theorem sv_set {W : WX} {σ : L2.St} {x y d : D} {v w u : V} {μ : List Addr} {H : Hp} {S : Store} {Q : Hp → Prop} (s : Sto X.K A μ S H) (rx : RV X.K A μ H x v) (ry : RV X.K A μ H y w) (rd : RV X.K A μ H d u)
    (h : Cont X.K A W (fun _ _ (_ _ : Unit) => True) σ μ H (setIx x y d S) (fun _ => Q)) : rSetU A.w X.K v w u H Q := by
  cases rx with
  | @ref n a e0 =>
    have h : Cont X.K A W (fun _ _ (_ _ : Unit) => True) σ μ H (orD n (putD n y d) (asInt y >>= fun i => getW n >>= fun ds => Mi.ofO (L2.ixN ds.length i) >>= fun j => setL n (ds.set j d)) S) (fun _ => Q) := h
    by_cases hD : isDic S n = true
    · rw [orD_t hD] at h
      refine .inl ⟨a, rfl, ?_⟩
      cases g : putD n y d S with
      | no => rw [g] at h; exact h.elim
      | er x' S2 => obtain ⟨kvs, _, _, _, z⟩ := putD_is g (fun z => nomatch z); cases z
      | ok u' S2 =>
        rw [g] at h
        obtain ⟨kvs, e1, e2, e3, z⟩ := putD_is g (fun z => nomatch z)
        cases z
        rcases s.dic e1 e0 e2 ry with ⟨kv, k', f1, rfl, rfl, f2⟩ | ⟨kv, b, f1, rfl, f2, f3, f4⟩
        · obtain ⟨nx, s2⟩ := wrS s e0 e1 f1 (f2.put k' rd)
          exact .inl ⟨kv, k', f1, rfl, by rw [← Paired.length f2]; exact lim_lt e3, h () μ _ nx s2 True.intro⟩
        · refine .inr ⟨kv, y, b, f1, rfl, f2, f3, by rw [← Paired.length f4]; exact lim_lt e3, fun o e' => ?_⟩
          obtain ⟨nx, s2⟩ := wrT s e0 e1 f1 e' (f4.put y rd)
          exact h () μ _ nx s2 True.intro
    rw [orD_f (by cases q : isDic S n with | true => exact absurd q hD | false => rfl)] at h
    refine .inr ?_
    cases ry with
    | int i =>
      obtain ⟨ds, vs, g1, g2, h, e⟩ := Cont.getW s (show Cont X.K A W (fun _ _ (_ _ : Unit) => True) σ μ H ((getW n >>= fun ds => Mi.ofO (L2.ixN ds.length i) >>= fun j => setL n (ds.set j d)) S) (fun _ => Q) from h) e0
      obtain ⟨j, hj, h⟩ := Cont.ofO h
      have h2 : Cont X.K A W (fun _ _ (_ _ : Unit) => True) σ μ H ((setL n (ds.set j d) >>= fun u => M.ret u) S) (fun _ => Q) := by
        have z : (setL n (ds.set j d) >>= fun u => M.ret u) S = setL n (ds.set j d) S := by
          show M.bnd _ _ S = _
          unfold M.bnd
          cases setL n (ds.set j d) S <;> rfl
        rw [z]
        exact h
      have h3 := Cont.setL h2 e
      obtain ⟨nx, s2⟩ := wrL s e0 e g1 (g2.set j rd)
      refine ⟨a, vs, i, j, rfl, rfl, g1, by rw [← g2.length]; exact hj, ?_⟩
      exact h3 () μ _ nx s2 True.intro
    | _ => exact False.elim h
  | _ => exact False.elim h

/-! ### types -/
theorem tyM_sv {K : PySem.W.Frag} {μ : List Addr} {H : Hp} {S : Store} (s : Sto K A μ S H) {x : D} {v : V} {t : Ty} {S' : Store} (rx : RV K A μ H x v) (h : tyM x S = .ok t S') : S' = S ∧ TyX K H v (.type t.name) := by
  cases rx with
  | non => cases h; exact ⟨rfl, .base .non⟩
  | bl b => cases h; exact ⟨rfl, .base (.bl b)⟩
  | int i => cases h; exact ⟨rfl, .base (.int i)⟩
  | str x => cases h; exact ⟨rfl, .base (.str x)⟩
  | tup q r =>
    cases h
    rcases q with q | ⟨o, its, n, h1, h2, _⟩
    · exact ⟨rfl, .base (.tup q)⟩
    · exact ⟨rfl, .kTuple h1 h2⟩
  | @ref n a e0 =>
    unfold tyM at h
    simp only at h
    split at h
    · rename_i ds e
      cases h
      obtain ⟨vs, g1, g2⟩ := s.cell n _ a e e0
      exact ⟨rfl, .base (.lst g1)⟩
    · rename_i ds e
      cases h
      obtain ⟨vs, g1, g2⟩ := s.cell n _ a e e0
      rcases g1 with ⟨o, g1⟩ | ⟨o, its, m, h1, h2, _⟩
      · exact ⟨rfl, .base (.frz g1)⟩
      · exact ⟨rfl, .kList h1 h2⟩
    · cases h
  | fn f => cases h
  | ty f => cases h
theorem tyM_er (x : D) (S : Store) (e : Exn) (S' : Store) : tyM x S ≠ .er e S' := by
  cases x with
  | ref n =>
    unfold tyM
    simp only
    split <;> (intro h; cases h)
  | _ => intro h; cases h
theorem kit_sub : ∀ s t : Ty, kitB s.name t.name = some (Ty.sub s t) := by
  intro s t
  cases s <;> cases t <;> decide +kernel
theorem kit_subs {K : PySem.W.Frag} (s : Ty) : ∀ ts : List Ty, PySem.W.kitAny K (.type s.name) (ts.map fun t => Value.type t.name) = some (ts.any (Ty.sub s))
  | [] => kitAny_nil
  | t :: ts => by
    rw [List.map_cons, List.any_cons]
    refine kitAny_cons (b := Ty.sub s t) (kit_ty (kit_sub s t)) (fun e => ?_) fun e => ?_
    · rw [e, Bool.false_or]
      exact kit_subs s ts
    · rw [e, Bool.true_or]
theorem tys_vs {K : PySem.W.Frag} {μ : List Addr} {H : Hp} : ∀ {ds : List D} {vs : List V} {ts : List Ty}, RVs K A μ H ds vs → asTys ds = some ts → vs = ts.map fun t => V.ty t.name
  | _, _, _, .nil, h => by cases h; rfl
  | d :: ds, _, ts, .cons r q, h => by
    cases r with
    | ty t =>
      unfold asTys at h
      simp only [Option.map_eq_some_iff] at h
      obtain ⟨us, e, rfl⟩ := h
      rw [List.map_cons, tys_vs q e]
    | _ => cases h
theorem clsP : ∀ ts : List Ty, Paired ClsV (ts.map fun t => V.ty t.name) (ts.map fun t => Value.type t.name)
  | [] => .nil
  | t :: ts => .cons (.ty t.name) (clsP ts)
theorem bls_vs {K : PySem.W.Frag} {μ : List Addr} {H : Hp} : ∀ {ds : List D} {vs : List V} {ts : List Bool}, RVs K A μ H ds vs → asBls ds = some ts → vs = ts.map V.bl
  | _, _, _, .nil, h => by cases h; rfl
  | d :: ds, _, ts, .cons r q, h => by
    cases r with
    | bl t =>
      unfold asBls at h
      simp only [Option.map_eq_some_iff] at h
      obtain ⟨us, e, rfl⟩ := h
      rw [List.map_cons, bls_vs q e]
    | _ => cases h
theorem ints_vs {K : PySem.W.Frag} {μ : List Addr} {H : Hp} : ∀ {ds : List D} {vs : List V} {ts : List Int}, RVs K A μ H ds vs → asInts ds = some ts → vs = ts.map V.int
  | _, _, _, .nil, h => by cases h; rfl
  | d :: ds, _, ts, .cons r q, h => by
    cases r with
    | int t =>
      unfold asInts at h
      simp only [Option.map_eq_some_iff] at h
      obtain ⟨us, e, rfl⟩ := h
      rw [List.map_cons, ints_vs q e]
    | _ => cases h
theorem vals_of_paired {its : List Value} {ts : List Ty} (h : Vals (ts.map fun t => V.ty t.name) its) : its = ts.map fun t => Value.type t.name := ClsV.all (clsP ts) h

/-! ### calls of what is built in -/
def bltNm : Blt → Str
  | .len => "len" | .int => "int" | .tuple => "tuple" | .list => "list" | .max => "max" | .min => "min" | .abs => "abs" | .all => "all" | .any => "any" | .sum => "sum" | .isi => "isinstance" | .repr => "repr"
/-- a type that is called? -/
def bltT : Blt → Bool
  | .int => true | .tuple => true | .list => true | _ => false
def bltId : Blt → String
  | .len => "len" | .int => "int" | .tuple => "tuple" | .list => "list" | .max => "max" | .min => "min" | .abs => "abs" | .all => "all" | .any => "any" | .sum => "sum" | .isi => "isinstance" | .repr => "repr"
def bltV (b : Blt) : Value := if bltT b then .type (bltId b) else .builtin (bltId b)
theorem blt_boot : ∀ b : Blt, bootBuiltins (bltNm b) = some (bltV b) := by
  intro b
  cases b <;> decide +kernel
def CallU (X : Cx) (A : Adr) (f : Value) (m : List D → M D) : Prop := ∃ r, CallR X f r ∧ ∀ (W : WX) (σ : L2.St) (ds : List D) (vs : List V) (μ : List Addr) (H : Hp) (S : Store) (Q : VK), Sto X.K A μ S H → RVs X.K A μ H ds vs →
  Cont X.K A W (RV X.K A) σ μ H (m ds S) Q → r vs H Q
theorem RVs.len1 {K : PySem.W.Frag} {μ : List Addr} {H : Hp} {d : D} {vs : List V} (r : RVs K A μ H [d] vs) : ∃ v, vs = [v] ∧ RV K A μ H d v := r.one
theorem call_repr_bl : CallR X (.builtin "repr") (fun xs H Q => ∃ b, xs = [.bl b] ∧ Q (.str (if b then "True" else "False")) H) := by
  intro pins s σ H xs us Q I r h
  obtain ⟨b, rfl, q⟩ := h
  obtain ⟨u, rfl, e⟩ := vals1 r
  subst e
  exact PySem.P.repr_of_bool ⟨.str _, H, I.tok _, ⟨_, rfl⟩, q⟩
theorem call_repr_dp (hg : X.A.guards = some []) (hu : X.A.units + 65 < cLine) : CallR X (.builtin "repr") (fun xs H Q => ∃ a p, xs = [.ref a] ∧ Dp X.K H (.ref a) p ∧ p.showable = true ∧ p.hasDict = false ∧ p.depth ≤ 20 ∧ p.shown.length ≤ sizeLine ∧ Q (.str p.shown) H) := by
  intro pins s σ H xs us Q I r h
  obtain ⟨a, p, rfl, hp, h1, h2, h3, h4, q⟩ := h
  obtain ⟨u, rfl, e⟩ := vals1 r
  obtain ⟨as, rd⟩ := Dp.reads I p (.ref a) u hp e
  have e : u = .ref a := e
  subst e
  exact repr_of_reads' rd h1 (fun z => by rw [h2] at z; cases z) hg (by omega) (fun _ _ z => z) (fun h' t tk hk => I.after ⟨.str p.shown, H, rfl, I.bare, Un.kept hk, I.hok.kept hk, ⟨_, rfl⟩, q⟩) h4
theorem blt_sv (hc : X.calm = true) (hgd : X.A.guards = some []) (hu : X.A.units + 65 < cLine) (hw : A.w = X.w) : ∀ b : Blt, CallU X A (bltV b) (bltM b)
  | .len => by
    refine ⟨_, CallR.or call_lenE (CallR.or call_len_seq call_len_str), fun W σ ds vs μ H S Q s r h => ?_⟩
    match ds, r, h with
    | [], r, h => exact False.elim h
    | [d], r, h =>
      obtain ⟨v, rfl, r1⟩ := r.one
      cases r1 with
      | tup q t => exact .inr (.inl ⟨_, _, rfl, .inr q.sq, h.out s (by rw [← t.length]; exact .int _)⟩)
      | @ref n a e0 =>
        have h : Cont X.K A W (RV X.K A) σ μ H (orD n (Mi.getD n >>= fun kvs => M.ret (D.int kvs.length)) (getL n >>= fun ds => M.ret (D.int ds.length)) S) Q := h
        by_cases hD : isDic S n = true
        · rw [orD_t hD] at h
          obtain ⟨kvs, e1⟩ := isDic_get hD
          have h : Cont X.K A W (RV X.K A) σ μ H (M.ret (D.int kvs.length) S) Q := by
            have z : (Mi.getD n >>= fun kvs => M.ret (D.int kvs.length)) S = M.ret (D.int kvs.length) S := by
              show M.bnd (Mi.getD n) _ S = _
              unfold M.bnd Mi.getD
              rw [e1]
            rw [← z]
            exact h
          refine .inl ?_
          rcases s.cell n _ a e1 e0 with ⟨kv, f1, f2⟩ | ⟨kv, f1, f2⟩
          · exact ⟨a, kvs.length, rfl, .inl ⟨kv, f1, (Paired.length f2).symm⟩, h.out s (.int _)⟩
          · exact ⟨a, kvs.length, rfl, .inr ⟨kv, hw ▸ f1, (Paired.length f2).symm⟩, h.out s (.int _)⟩
        rw [orD_f (by cases q : isDic S n with | true => exact absurd q hD | false => rfl)] at h
        obtain ⟨ds, us, g1, g2, h, _⟩ := Cont.getL s h e0
        exact .inr (.inl ⟨a, us, rfl, .inl g1, h.out s (by rw [← g2.length]; exact .int _)⟩)
      | str z =>
        obtain ⟨h0, h⟩ := Cont.need h
        exact .inr (.inr ⟨z, rfl, lim_size (of_decide_eq_true h0), h.out s (.int _)⟩)
      | _ => exact False.elim h
    | d :: _ :: _, r, h => cases d <;> exact False.elim h
  | .int => by
    refine ⟨_, call_int1, fun W σ ds vs μ H S Q s r h => ?_⟩
    match ds, r, h with
    | [], r, h => exact False.elim h
    | [d], r, h =>
      obtain ⟨v, rfl, r1⟩ := r.one
      cases r1 with
      | int i => exact .inl ⟨i, rfl, h.out s (.int _)⟩
      | bl b => exact .inr ⟨b, rfl, h.out s (.int _)⟩
      | _ => exact False.elim h
    | d :: _ :: _, r, h => cases d <;> exact False.elim h
  | .tuple => by
    refine ⟨_, call_tuple_of, fun W σ ds vs μ H S Q s r h => ?_⟩
    match ds, r, h with
    | [], r, h => exact False.elim h
    | [d], r, h =>
      obtain ⟨v, rfl, r1⟩ := r.one
      cases r1 with
      | tup q t => exact ⟨_, _, rfl, .inr ⟨q.sq, h.out s (.tup q t)⟩⟩
      | @ref n a e0 =>
        obtain ⟨ds, us, g1, g2, h, _⟩ := Cont.getL s h e0
        exact ⟨a, us, rfl, .inl ⟨g1, fun p hp => h.tup s g2 hp⟩⟩
      | _ => exact False.elim h
    | d :: _ :: _, r, h => cases d <;> exact False.elim h
  | .list => by
    refine ⟨_, call_list_of, fun W σ ds vs μ H S Q s r h => ?_⟩
    match ds, r, h with
    | [], r, h => exact False.elim h
    | [d], r, h =>
      obtain ⟨v, rfl, r1⟩ := r.one
      cases r1 with
      | tup q t => exact ⟨_, _, rfl, .inr q.sq, fun p hp => Cont.newL s h t hp⟩
      | @ref n a e0 =>
        obtain ⟨ds, us, g1, g2, h, _⟩ := Cont.getL s h e0
        exact ⟨a, us, rfl, .inl g1, fun p hp => Cont.newL s h g2 hp⟩
      | _ => exact False.elim h
    | d :: _ :: _, r, h => cases d <;> exact False.elim h
  | .max => by
    refine ⟨_, call_max2 hc, fun W σ ds vs μ H S Q s r h => ?_⟩
    match ds, r, h with
    | [], r, h => exact False.elim h
    | [d], r, h => cases d <;> exact False.elim h
    | [d, e], r, h =>
      obtain ⟨v, u, rfl, r1, r2⟩ := r.two
      cases r1 with
      | int i =>
        cases r2 with
        | int j => exact ⟨i, j, rfl, h.out s (.int _)⟩
        | _ => exact False.elim h
      | _ => exact False.elim h
    | d :: e :: _ :: _, r, h => cases d <;> cases e <;> exact False.elim h
  | .min => by
    refine ⟨_, call_min2 hc, fun W σ ds vs μ H S Q s r h => ?_⟩
    match ds, r, h with
    | [], r, h => exact False.elim h
    | [d], r, h => cases d <;> exact False.elim h
    | [d, e], r, h =>
      obtain ⟨v, u, rfl, r1, r2⟩ := r.two
      cases r1 with
      | int i =>
        cases r2 with
        | int j => exact ⟨i, j, rfl, h.out s (.int _)⟩
        | _ => exact False.elim h
      | _ => exact False.elim h
    | d :: e :: _ :: _, r, h => cases d <;> cases e <;> exact False.elim h
  | .abs => by
    refine ⟨_, call_abs, fun W σ ds vs μ H S Q s r h => ?_⟩
    match ds, r, h with
    | [], r, h => exact False.elim h
    | [d], r, h =>
      obtain ⟨v, rfl, r1⟩ := r.one
      cases r1 with
      | int i => exact ⟨i, rfl, h.out s (.int _)⟩
      | _ => exact False.elim h
    | d :: _ :: _, r, h => cases d <;> exact False.elim h
  | .all => by
    refine ⟨_, cr_all hc, fun W σ ds vs μ H S Q s r h => ?_⟩
    match ds, r, h with
    | [], r, h => exact False.elim h
    | [d], r, h =>
      obtain ⟨v, rfl, r1⟩ := r.one
      cases r1 with
      | @ref n a e0 =>
        obtain ⟨ds, us, g1, g2, h, _⟩ := Cont.getL s h e0
        obtain ⟨bs, e, h⟩ := Cont.ofO h
        rw [bls_vs g2 e] at g1
        exact ⟨a, bs, rfl, g1, h.out s (.bl _)⟩
      | _ => exact False.elim h
    | d :: _ :: _, r, h => cases d <;> exact False.elim h
  | .any => by
    refine ⟨_, cr_any hc, fun W σ ds vs μ H S Q s r h => ?_⟩
    match ds, r, h with
    | [], r, h => exact False.elim h
    | [d], r, h =>
      obtain ⟨v, rfl, r1⟩ := r.one
      cases r1 with
      | @ref n a e0 =>
        obtain ⟨ds, us, g1, g2, h, _⟩ := Cont.getL s h e0
        obtain ⟨bs, e, h⟩ := Cont.ofO h
        rw [bls_vs g2 e] at g1
        exact ⟨a, bs, rfl, g1, h.out s (.bl _)⟩
      | _ => exact False.elim h
    | d :: _ :: _, r, h => cases d <;> exact False.elim h
  | .sum => by
    refine ⟨_, cr_sum hc, fun W σ ds vs μ H S Q s r h => ?_⟩
    match ds, r, h with
    | [], r, h => exact False.elim h
    | [d], r, h =>
      obtain ⟨v, rfl, r1⟩ := r.one
      cases r1 with
      | @ref n a e0 =>
        obtain ⟨ds, us, g1, g2, h, _⟩ := Cont.getL s h e0
        obtain ⟨bs, e, h⟩ := Cont.ofO h
        rw [ints_vs g2 e] at g1
        exact ⟨a, bs, rfl, g1, h.out s (.int _)⟩
      | _ => exact False.elim h
    | d :: _ :: _, r, h => cases d <;> exact False.elim h
  | .repr => by
    refine ⟨_, CallR.or call_repr_bl (call_repr_dp hgd hu), fun W σ ds vs μ H S Q s r h => ?_⟩
    match ds, r, h with
    | [], r, h => exact False.elim h
    | [d], r, h =>
      obtain ⟨v, rfl, r1⟩ := r.one
      cases r1 with
      | bl b => exact .inl ⟨b, rfl, h.out s (.str _)⟩
      | @tup ds a vs q1 q2 =>
        have h : Cont X.K A W (RV X.K A) σ μ H (match toPy S 20 (.tup ds) with | some p => (M.need (p.showable && (!p.hasDict && decide (p.shown.length ≤ lim))) >>= fun _ => M.ret (D.str p.shown)) S | none => .no) Q := h
        cases e : toPy S 20 (.tup ds) with
        | none => rw [e] at h; exact False.elim h
        | some p =>
          rw [e] at h
          obtain ⟨h0, h⟩ := Cont.need h
          rw [Bool.and_eq_true, Bool.and_eq_true, Bool.not_eq_true'] at h0
          obtain ⟨z1, z2⟩ := toPy_dp s 20 _ _ p (RV.tup q1 q2) e
          exact .inr ⟨a, p, rfl, z1, h0.1, h0.2.1, z2.2, lim_size (of_decide_eq_true h0.2.2), h.out s (.str _)⟩
      | _ => exact False.elim h
    | d :: _ :: _, r, h => cases d <;> exact False.elim h
  | .isi => by
    refine ⟨_, CallR.or call_isi (CallR.or call_isiT call_isiK), fun W σ ds vs μ H S Q s r h => ?_⟩
    match ds, r, h with
    | [], r, h => exact False.elim h
    | [d], r, h => cases d <;> exact False.elim h
    | [d, e], r, h =>
      obtain ⟨v, u, rfl, r1, r2⟩ := r.two
      cases r2 with
      | ty t =>
        have h : Cont X.K A W (RV X.K A) σ μ H ((tyM d >>= fun s => M.ret (D.bl (Ty.sub s t))) S) Q := by cases d <;> exact h
        obtain ⟨k, S', e, h2⟩ := Cont.pure h (tyM_er d S)
        obtain ⟨e1, ty⟩ := tyM_sv s r1 e
        rw [e1] at h2
        exact .inl ⟨v, .ty t.name, .type k.name, .type t.name, _, rfl, .ty _, ty, kit_ty (kit_sub k t), h2.out s (RV.bl _)⟩
      | @tup ts a us q tt =>
        have h : Cont X.K A W (RV X.K A) σ μ H ((tyM d >>= fun s => (ofO (asTys ts) >>= fun us => M.ret (D.bl (us.any (Ty.sub s))))) S) Q := by cases d <;> exact h
        obtain ⟨k, S', e, h2⟩ := Cont.pure h (tyM_er d S)
        obtain ⟨e1, ty⟩ := tyM_sv s r1 e
        rw [e1] at h2
        obtain ⟨ks, e2, h2⟩ := Cont.ofO h2
        have e3 := tys_vs tt e2
        subst e3
        rcases q with q | ⟨o, its, n, h1, h2, h3, h4, h5⟩
        · exact .inr (.inl ⟨v, a, _, .type k.name, _, _, rfl, q, clsP ks, ty, kit_subs k ks, h2.out s (RV.bl _)⟩)
        · have e4 := vals_of_paired h5
          obtain ⟨oc, od, odt, osl⟩ := o
          simp only at h2 h3
          subst h2
          subst h3
          have e5 : its = (ks.map fun t => Value.type t.name).toArray := by rw [← e4]
          subst e5
          exact .inr (.inr ⟨v, a, od, _, n, osl, .type k.name, _, rfl, h1, ty, kit_subs k ks, h2.out s (RV.bl _)⟩)
      | _ => cases d <;> exact False.elim h
    | d :: e :: _ :: _, r, h => cases d <;> cases e <;> exact False.elim h
end
end Mi

/-! Mi, part F: from the syntax to the terms. -/
namespace Mi
open PySem PySem.Spec PyProof.Rows L2

/-- what a module's name is -/
inductive GV where
  | fn (i : Nat) (np : Nat)
  | cst (d : D)
  | xc (i : Nat) (fs : List Str)
  | cl (c i np : Nat)
structure Gam where
  N : List Str
  sc : Scope
  fn : Str → Bool
  glob : List (Str × GV)
  blts : List Str
  sub : List (List Bool)
  flds : List Str
  mts : List (Str × (Nat × Nat × Nat))

def isVis (sc : Scope) (x : Str) : Bool := match sc.names.lookup x with
  | some .local => true
  | some .cell => true
  | some .free => true
  | _ => false
def isGl (sc : Scope) (x : Str) : Bool := match sc.names.lookup x with
  | some .globalImplicit => true
  | _ => false
def isLoc (sc : Scope) (x : Str) : Bool := match sc.names.lookup x with
  | some .local => true
  | some .cell => true
  | _ => false
def ixOf (x : Str) : List Str → Option Nat
  | [] => none
  | y :: ys => if y = x then some 0 else (ixOf x ys).map (· + 1)
def plainNm (x : Str) : Bool := !(x == ("__debug__" : Str)) && !(x == ("__classdict__" : Str)) && !(x == ("__name__" : Str))
def tyOf (x : Str) : Option Ty :=
  if x = "int" then some .int else if x = "bool" then some .bool else if x = "str" then some .str else if x = "tuple" then some .tup else if x = "list" then some .lst else if x = "dict" then some .dic else none
def bltOf (x : Str) : Option Blt := [Blt.len, .int, .tuple, .list, .max, .min, .abs, .all, .any, .sum, .isi, .repr].find? fun b => decide (bltNm b = x)
def cName (Γ : Gam) (x : Str) : Option Ex :=
  if plainNm x then
    if isVis Γ.sc x then (ixOf x Γ.N).map .var
    else if isGl Γ.sc x then match Γ.glob.lookup x with
      | some (.cst d) => some (.lit d)
      | some (.fn i _) => some (.lit (.fn i))
      | some (.xc _ _) => none
      | some (.cl _ _ _) => none
      | none => if decide (x ∈ Γ.blts) then (tyOf x).map fun t => .lit (.ty t) else none
    else none
  else none
def bopOf : Operator → Option BOp
  | .Add => some .add | .Sub => some .sub | .Mult => some .mul | .FloorDiv => some .fdiv | .Mod => some .mod | .Pow => some .pow | .LShift => some .shl | .RShift => some .shr | .BitAnd => some .band
  | _ => none
def copOf : CmpOp → COp
  | .Eq => .eq | .NotEq => .ne | .Lt => .lt | .LtE => .le | .Gt => .gt | .GtE => .ge | .Is => .is_ | .IsNot => .isnt | .In => .in_ | .NotIn => .nin
def optAll {α β : Type} (f : α → Option β) : List α → Option (List β)
  | [] => some []
  | x :: xs => match f x, optAll f xs with
    | some y, some ys => some (y :: ys)
    | _, _ => none
def isSet : Expr → Bool
  | .Set .. => true
  | _ => false
def isSlc : Expr → Bool
  | .Slice .. => true
  | _ => false
def mthOf (m : Str) : Option Mth := if m = "append" then some .append else if m = "pop" then some .pop else if m = "extend" then some .extend else none
def mthOf2 (m : Str) : Option Mth := if m = "get" then some .get else if m = "setdefault" then some .setdefault else none
/-- no base that is super() -/
def notSup : Expr → Bool
  | .Call (.Name _ _) [] [] _ => false
  | _ => true
/-- a target: names of the def -/
def cTg1 (Γ : Gam) : Expr → Option Nat
  | .Name x _ => if isLoc Γ.sc x && (Γ.fn x || decide (Γ.sc.names.lookup x = some .local)) then ixOf x Γ.N else none
  | _ => none
def cTg (Γ : Gam) : Expr → Option Tg
  | .Name x p => (cTg1 Γ (.Name x p)).map .v
  | .Tuple es _ _ => (optAll (cTg1 Γ) es).map .t
  | _ => none
def Tg.ixs : Tg → List Nat
  | .v i => [i]
  | .t is => is
def ownOf (N : List Str) (sc : Scope) : List (Str × Nat) := sc.names.filterMap fun (x, k) => if decide (k = .local) || decide (k = .cell) then (ixOf x N).map fun i => (x, i) else none

mutual
def cE (Γ : Gam) : Nat → Expr → Option Ex
  | 0, _ => none
  | n + 1, e => match e with
    | .Constant (.int i) _ _ => some (.lit (.int i))
    | .Constant (.str x) _ _ => some (.lit (.str x))
    | .Constant (.bool b) _ _ => some (.lit (.bl b))
    | .Constant .none _ _ => some (.lit .non)
    | .Name x _ => cName Γ x
    | .BinOp a o b _ => match bopOf o, cE Γ n a, cE Γ n b with
      | some o', some a', some b' => some (.bin o' a' b')
      | _, _, _ => none
    | .UnaryOp .Not a _ => (cE Γ n a).map .not
    | .UnaryOp .USub a _ => (cE Γ n a).map .neg
    | .BoolOp .And [a] _ => cE Γ n a
    | .BoolOp .Or [a] _ => cE Γ n a
    | .BoolOp .And (a :: b :: r) p => match cE Γ n a, cE Γ n (.BoolOp .And (b :: r) p) with
      | some a', some b' => some (.and a' b')
      | _, _ => none
    | .BoolOp .Or (a :: b :: r) p => match cE Γ n a, cE Γ n (.BoolOp .Or (b :: r) p) with
      | some a', some b' => some (.or a' b')
      | _, _ => none
    | .IfExp c a b _ => match cE Γ n c, cE Γ n a, cE Γ n b with
      | some c', some a', some b' => some (.ite c' a' b')
      | _, _, _ => none
    | .Compare a [o] [b] _ => match cE Γ n a, cE Γ n b with
      | some a', some b' => some (.cmp (copOf o) a' b')
      | _, _ => none
    | .Compare a [o, o'] [b, c] _ => match cE Γ n a, cE Γ n b, cE Γ n c with
      | some a', some b', some c' => some (.chn (copOf o) (copOf o') a' b' c')
      | _, _, _ => none
    | .Tuple es _ _ => (optAll (cE Γ n) es).map .tup
    | .List es _ => (optAll (cE Γ n) es).map .lst
    | .Subscript a (.Slice lo hi none _) _ => match cE Γ n a, cO Γ n lo, cO Γ n hi with
      | some a', some l, some h => some (.sl a' l h)
      | _, _, _ => none
    | .Subscript a i _ => match cE Γ n a, cE Γ n i with
      | some a', some i' => some (.ix a' i')
      | _, _ => none
    | .Call (.Name f _) es [] _ => match optAll (cE Γ n) es with
      | some es' => if plainNm f && isGl Γ.sc f then match Γ.glob.lookup f with
          | some (.fn i np) => if decide (es'.length = np) then some (.call i es') else none
          | some (.cl c i np) => if decide (es'.length = np) then some (.mk c i es') else none
          | some _ => none
          | none => if decide (f ∈ Γ.blts) && !es.isEmpty then (bltOf f).map fun b => .blt b es' else none
        else none
      | none => none
    | .Dict [] [] _ => some .dic
    | .Attribute o f _ => if notSup o && decide (f ∈ Γ.flds) then (cE Γ n o).map fun o' => .fld o' f else none
    | .Call (.Attribute o m apos) es [] cpos => match Γ.mts.lookup m with
      | some (c, i, np) => if notSup o && (apos.endLine == cpos.line) && decide (es.length = np) && decide (np < 20) then match cE Γ n o, optAll (cE Γ n) es with
          | some o', some es' => some (.mcl [(c, i)] m o' es')
          | _, _ => none
        else none
      | none => cB Γ n o m apos es cpos
    | .DictComp kx vx [⟨tg, iter, ifs, 0⟩] scope _ =>
      let own := ownOf Γ.N scope
      let Γ' : Gam := { Γ with sc := relS scope Γ.sc, fn := fun x => scope.names.lookup x == some .cell }
      if blkC Γ.N Γ.sc scope own then match cI Γ n tg iter, cTg Γ' tg, cC Γ' n ifs, cE Γ' n kx, cE Γ' n vx with
        | some it, some t, some c, some k, some v => if t.ixs.all fun i => decide (i ∈ own.map (·.2)) then some (.dc it t (own.map (·.2)) c k v) else none
        | _, _, _, _, _ => none
      else none
    | .ListComp elt [⟨tg, iter, ifs, 0⟩] scope _ =>
      let own := ownOf Γ.N scope
      let Γ' : Gam := { Γ with sc := relS scope Γ.sc, fn := fun x => scope.names.lookup x == some .cell }
      if blkC Γ.N Γ.sc scope own then match cI Γ n tg iter, cTg Γ' tg, cC Γ' n ifs, cE Γ' n elt with
        | some it, some t, some c, some x => if t.ixs.all fun i => decide (i ∈ own.map (·.2)) then some (.lc it t (own.map (·.2)) c x) else none
        | _, _, _, _ => none
      else none
    | _ => none
/-- methods of what is built in -/
def cB (Γ : Gam) : Nat → Expr → Str → Pos → List Expr → Pos → Option Ex
  | 0, _, _, _, _, _ => none
  | n + 1, o, m, apos, es, cpos => if notSup o && apos.endLine == cpos.line then match es with
    | [] => if decide (m = "pop") then (cE Γ n o).map fun o' => .mth .pop o' [] else none
    | [e] => match mthOf m, cE Γ n o, cE Γ n e with
      | some m', some o', some e' => some (.mth m' o' [e'])
      | _, _, _ => none
    | [e, e2] => match mthOf2 m, cE Γ n o, optAll (cE Γ n) [e, e2] with
      | some m', some o', some es' => some (.mth m' o' es')
      | _, _, _ => none
    | _ => none
    else none
def cO (Γ : Gam) : Nat → Option Expr → Option (Option Ex)
  | _, none => some none
  | 0, some _ => none
  | n + 1, some e => (cE Γ n e).map some
def cC (Γ : Gam) : Nat → List Expr → Option (Option Ex)
  | _, [] => some none
  | 0, _ => none
  | n + 1, [e] => (cE Γ n e).map some
  | _, _ => none
def cI (Γ : Gam) : Nat → Expr → Expr → Option Itn
  | 0, _, _ => none
  | n + 1, tg, e => match e with
    | .Call (.Name f p) es [] pos =>
      if decide (f = "range") && isGl Γ.sc "range" && decide (("range" : Str) ∈ Γ.blts) then match es with
        | [a] => (optAll (cE Γ n) [a]).map .rng
        | [a, b] => (optAll (cE Γ n) [a, b]).map .rng
        | [a, b, c] => (optAll (cE Γ n) [a, b, c]).map .rng
        | _ => none
      else if decide (f = "enumerate") && isGl Γ.sc "enumerate" && decide (("enumerate" : Str) ∈ Γ.blts) then match tg, es with
        | .Tuple .., [a] => (cE Γ n a).map .enu
        | _, _ => none
      else (cE Γ n (.Call (.Name f p) es [] pos)).map .seq
    | .Set .. => none
    | e => (cE Γ n e).map .seq
end

def isLc : Expr → Bool
  | .ListComp .. => true
  | .SetComp .. => true
  | .DictComp .. => true
  | _ => false
def isDc : Expr → Bool
  | .DictComp .. => true
  | _ => false
def isTupE : Expr → Bool
  | .Tuple .. => true
  | _ => false
def isNm : Expr → Bool
  | .Name .. => true
  | _ => false
/-- two names at once: the stores are swapped -/
def parB (Γ : Gam) (x y : Str) (px py : Pos) (a b : Expr) : Bool :=
  Γ.sc.kind == .function && (decide (Γ.sc.names.lookup x = some .local) && (decide (Γ.sc.names.lookup y = some .local) && (!decide (x = y) && (decide (py.line = px.line) && (!(foldedForSure 8 a && foldedForSure 8 b) && !(constantsAlone 8 a && constantsAlone 8 b))))))
def litOf : Const → Option D
  | .int i => some (.int i)
  | .str x => some (.str x)
  | .bool b => some (.bl b)
  | .none => some .non
  | _ => none
/-- an except suite: one statement -/
def cHR (fs : List Str) (nm : Option Str) : Stmt → Option HR
  | .Return (some (.Constant c _ _)) _ => (litOf c).map .ret
  | .Return (some (.Attribute (.Name x _) f _)) _ => if decide (nm = some x) && (plainNm x && decide (f ∈ fs)) then some (.fld f) else none
  | .Pass _ => some .nx
  | .Continue _ => some .ct
  | _ => none
def cH (Γ : Gam) : ExceptHandler → Option Hdl
  | .ExceptHandler (some (.Name x _)) nm [st] _ => if plainNm x && isGl Γ.sc x then match Γ.glob.lookup x with
    | some (.xc c fs) => match Γ.sub[c]?, cHR fs nm st with
      | some ms, some r => match nm with
        | none => some ⟨c, ms, none, r⟩
        | some n => if decide (Γ.sc.names.lookup n = some .local) then (ixOf n Γ.N).map fun i => ⟨c, ms, some i, r⟩ else none
      | _, _ => none
    | _ => none
    else none
  | _ => none
mutual
def cS (Γ : Gam) : Nat → Stmt → Option Sx
  | 0, _ => none
  | n + 1, s => match s with
    | .Expr e _ => if isLc e then none else (cE Γ n e).map .expr
    | .Assign [.Attribute a f _] e _ => if !decide (f ∈ Γ.flds) then none else match cE Γ n a, cE Γ n e with
      | some a', some e' => some (.asgF a' f e')
      | _, _ => none
    | .AugAssign (.Attribute a f _) o (.Constant (.int k) _ _) _ => if decide (f ∈ Γ.flds) then match bopOf o, cE Γ n a with
      | some o', some a' => if decide (o' = .add) || decide (o' = .sub) then some (.augF a' f o' (.int k)) else none
      | _, _ => none
      else none
    | .Assign [.Subscript a i _] e _ => if isLc e then none else match cE Γ n a, cE Γ n i, cE Γ n e with
      | some a', some i', some e' => some (.asgIx a' i' e')
      | _, _, _ => none
    | .Assign [.Tuple [.Name x px, .Name y py] _ _] (.Tuple [a, b] _ _) _ => match ixOf x Γ.N, ixOf y Γ.N, optAll (cE Γ n) [a, b] with
      | some i, some j, some es => if parB Γ x y px py a b then some (.par [i, j] es) else none
      | _, _, _ => none
    | .Assign [t] e _ => if !isDc e && (isNm t || !isTupE e && !isLc e) then match cTg Γ t, cE Γ n e with
        | some t', some e' => some (.asg t' e')
        | _, _ => none
      else none
    | .AugAssign t o e _ => match cTg1 Γ t, bopOf o, cE Γ n e with
      | some i, some o', some e' => if decide (o' = .add) || decide (o' = .sub) then some (.aug i o' e') else none
      | _, _, _ => none
    | .If c a b _ => match cE Γ n c, cSs Γ n a, cSs Γ n b with
      | some c', some a', some b' => some (.ite c' a' b')
      | _, _, _ => none
    | .While c b [] _ => match cE Γ n c, cSs Γ n b with
      | some c', some b' => some (.whl c' b')
      | _, _ => none
    | .For t it b [] _ => match cTg Γ t, cI Γ n t it, cSs Γ n b with
      | some t', some i', some b' => some (.for_ t' i' b')
      | _, _, _ => none
    | .Return (some e) _ => (cE Γ n e).map .ret
    | .Return none _ => some .retN
    | .Break _ => some .brk
    | .Continue _ => some .cnt
    | .Pass _ => some .pass
    | .Raise (some (.Call (.Name x _) es [] _)) none _ => if plainNm x && isGl Γ.sc x then match Γ.glob.lookup x, optAll (cE Γ n) es with
      | some (.xc i fs), some es' => if decide (es'.length = fs.length) then some (.raise i fs es') else none
      | _, _ => none
      else none
    | .Try b (h :: hs) [] [] _ => match cSs Γ n b, optAll (cH Γ) (h :: hs) with
      | some b', some hs' => some (.try_ b' hs')
      | _, _ => none
    | _ => none
def cSs (Γ : Gam) : Nat → List Stmt → Option (List Sx)
  | 0, _ => none
  | _ + 1, [] => some []
  | n + 1, s :: ss => match cS Γ n s, cSs Γ n ss with
    | some s', some ss' => some (s' :: ss')
    | _, _ => none
end
end Mi

/-! Mi, part G: the terms are what the syntax means. -/
namespace Mi
open PySem PySem.Spec PyProof.Rows L2

/-- a def's promise, by the evaluator -/
def uSp (K : PySem.W.Frag) (A : Adr) (np : Nat) (f : List D → M D) : Sp := fun vs H Q E =>
  ∃ ds S μ, ds.length = np ∧ RVs K A μ H ds vs ∧ Sto K A μ S H ∧ Cont K A (fun cls dd _ H' => E cls dd H') (RV K A) [] μ H (f ds S) Q
/-- a def that stands behind a name -/
def FnHas (X : Cx) (A : Adr) (G : Gen) (x : Str) (i np : Nat) : Prop :=
  ∃ k fd ps, X.mg x = some (.ref (A.fa i)) ∧ PySem.W.keepIn X.K (.ref (A.fa i)) = true ∧ Room k X.A ∧ Binds X.K fd ps [] ∧ ps.length = np ∧ FnG X.prog X.w X.K X.mg X.base k (A.fa i) fd ps (uSp X.K A np (G.call i))
/-- an own error class, as it stands -/
structure XcHas (X : Cx) (A : Adr) (x : Str) (i : Nat) (fs : List Str) : Prop where
  gm : X.mg x = some (.ref (A.xa i))
  rs : Raises X (.ref (A.xa i))
  no : fs = [] → PySem.W.excIn X.K (A.xa i) He.veBase "ValueError.__new__" = true ∧ PySem.W.keepIn X.K (.ref (A.xa i)) = true
  yes : fs ≠ [] → OexC X.K (A.xa i) ∧ XfC X.K (A.xa i) ∧ (∀ f ∈ fs, PySem.W.findIn X.K (.ref (A.xa i)) f = some none) ∧ (fs.length = 1 ∨ fs.length = 2 ∧ fs.Nodup) ∧
    ∃ fI fd ps, PySem.W.findIn X.K (.ref (A.xa i)) "__init__" = some (some (.ref fI)) ∧ PySem.W.typeIn X.K (.ref fI) = some (.type "function") ∧ Binds X.K fd ps [] ∧ Room 2 X.A ∧ FnOk X.prog X.w X.K X.mg X.base (L2.CX X.prog X.w) 1 fI fd ps (spIni (A.xa i) fs)
/-- an own class, made by its __init__ -/
def ClHas (X : Cx) (A : Adr) (G : Gen) (x : Str) (c i np : Nat) : Prop :=
  X.mg x = some (.ref (A.ca c)) ∧ Mk X.K (A.ca c) (A.fa i) ∧ ∃ k fd ps, Room (k + 1) X.A ∧ Binds X.K fd ps [] ∧ ps.length = np + 1 ∧ FnG X.prog X.w X.K X.mg X.base k (A.fa i) fd ps (uSp X.K A (np + 1) (G.call i))
/-- a method of an own class -/
def MtHas (X : Cx) (A : Adr) (G : Gen) (m : Str) (c i np : Nat) : Prop :=
  Cls X.K (A.ca c) ∧ Meth X.K (A.ca c) m (A.fa i) ∧ ∃ k fd ps, Room k X.A ∧ Binds X.K fd ps [] ∧ ps.length = np + 1 ∧ FnG X.prog X.w X.K X.mg X.base k (A.fa i) fd ps (uSp X.K A (np + 1) (G.call i))
structure Fits (A : Adr) (G : Gen) (Γ : Gam) (X : Cx) (W : WX) : Prop where
  N : X.N = Γ.N
  nd : Γ.N.Nodup
  sc : X.env.scope = Γ.sc
  w : A.w = X.w
  fn : ∀ x, Γ.fn x = true → X.fn x = true
  calm : X.calm = true
  tk : Takes X W
  units : X.A.units + 65 < cLine
  grd : X.A.guards = some []
  blt : ∀ x, x ∈ Γ.blts → X.mg x = none
  cst : ∀ x d, Γ.glob.lookup x = some (.cst d) → ∃ u v, X.mg x = some u ∧ RelV v u ∧ ∀ μ H, RV X.K A μ H d v
  fns : ∀ x i np, Γ.glob.lookup x = some (.fn i np) → FnHas X A G x i np
  xcs : ∀ x i fs, Γ.glob.lookup x = some (.xc i fs) → XcHas X A x i fs
  cls : ∀ x c i np, Γ.glob.lookup x = some (.cl c i np) → ClHas X A G x c i np
  fld : ∀ f, f ∈ Γ.flds → ∀ c, Cls X.K (A.ca c) ∧ NoAttr X.K (A.ca c) f
  mts : ∀ m c i np, Γ.mts.lookup m = some (c, i, np) → MtHas X A G m c i np
  sub : ∀ c ms, Γ.sub[c]? = some ms → ∀ x b, ms[x]? = some b → PySem.W.exmOne X.K (.ref (A.xa x)) (.ref (A.xa c)) = some b

section
variable {X : Cx} {A : Adr} {G : Gen} {Γ : Gam} {W : WX}

theorem ixOf_get {x : Str} : ∀ {ys : List Str} {i : Nat}, ixOf x ys = some i → ys[i]? = some x
  | [], i, h => by cases h
  | y :: ys, i, h => by
    have ih := fun j => @ixOf_get x ys j
    unfold ixOf at h
    by_cases e : y = x
    · rw [if_pos e] at h
      cases h
      rw [e]
      rfl
    · rw [if_neg e] at h
      cases q : ixOf x ys with
      | none => rw [q] at h; cases h
      | some j =>
        rw [q] at h
        cases h
        exact ih j q
theorem vis_of {sc : Scope} {x : Str} (h : isVis sc x = true) : Vis sc x := by
  unfold isVis at h
  split at h
  · exact .inl (by assumption)
  · exact .inr (.inl (by assumption))
  · exact .inr (.inr (by assumption))
  · cases h
theorem gl_of {sc : Scope} {x : Str} (h : isGl sc x = true) : sc.names.lookup x = some .globalImplicit := by
  unfold isGl at h
  split at h
  · assumption
  · cases h
theorem loc_of {sc : Scope} {x : Str} (h : isLoc sc x = true) : Loc sc x := by
  unfold isLoc at h
  split at h
  · exact .inl (by assumption)
  · exact .inr (by assumption)
  · cases h
theorem plain_of {x : Str} (h : plainNm x = true) : (x == ("__debug__" : Str)) = false ∧ (x == ("__classdict__" : Str)) = false ∧ x ≠ "__name__" := by
  unfold plainNm at h
  simp only [Bool.and_eq_true, Bool.not_eq_true'] at h
  exact ⟨h.1.1, h.1.2, fun e => by rw [e] at h; exact absurd h.2 (by decide)⟩
theorem Fits.gl (F : Fits A G Γ X W) {x : Str} (h : isGl Γ.sc x = true) : Gl X x := by
  show X.env.scope.names.lookup x = some .globalImplicit
  rw [F.sc]
  exact gl_of h
theorem Fits.vis (F : Fits A G Γ X W) {x : Str} (h : isVis Γ.sc x = true) : Vis X.env.scope x := by
  rw [F.sc]
  exact vis_of h
theorem Fits.loc (F : Fits A G Γ X W) {x : Str} (h : isLoc Γ.sc x = true) : Loc X.env.scope x := by
  rw [F.sc]
  exact loc_of h

/-- the good meaning of a term -/
def Ok (X : Cx) (A : Adr) (G : Gen) (W : WX) (e : Expr) (m : Ex) : Prop := PE X e (uE X.K A W (ev G m)) ∧ PT X e (uT X.K A W (evT G m))

theorem bnd_assoc {α β γ : Type} (m : M α) (f : α → M β) (g : β → M γ) : (m >>= f) >>= g = m >>= fun a => f a >>= g := by
  funext S
  show M.bnd (M.bnd m f) g S = M.bnd m (fun a => M.bnd (f a) g) S
  unfold M.bnd
  cases m S <;> rfl
theorem ret_bnd {α β : Type} (a : α) (f : α → M β) : M.ret a >>= f = f a := rfl
theorem truth_of {e : Expr} {m : Ex} (h : PE X e (uE X.K A W (ev G m))) (he : ∀ whole, isTrue e X.env whole = (do let v ← whole; standAt e.pos; holding [v] (truthy v))) : Ok X A G W e m := by
  refine ⟨h, PT.imp (pt_truth h he) ?_⟩
  rintro σ H Q ⟨env, S, μ, hE, hS, hc⟩
  refine ⟨env, S, μ, hE, hS, (Cont.bnd hc).to ?_⟩
  rintro v H1 ⟨x, S1, μ1, n1, s1, r1, h1⟩
  obtain ⟨k, S', e, q⟩ := Cont.okB h1 (truthM_er x S1)
  obtain ⟨rfl, t⟩ := truth_sv s1 r1 e
  exact ⟨k, t, q s1⟩
theorem pe_lit {e : Expr} {d : D} {v : V} (h : PE X e (tC v)) (r : ∀ μ H, RV X.K A μ H d v) : PE X e (uE X.K A W (ev G (.lit d))) := by
  refine PE.imp h ?_
  rintro σ H Q ⟨env, S, μ, hE, hS, hc⟩
  exact hc v μ H Nx.refl hS (r μ H)
theorem pe_name (F : Fits A G Γ X W) {x : Str} {p : Pos} {m : Ex} (h : cName Γ x = some m) : PE X (.Name x p) (uE X.K A W (ev G m)) := by
  unfold cName at h
  split at h
  · rename_i hp
    obtain ⟨h1, h2, h3⟩ := plain_of hp
    split at h
    · rename_i hv
      simp only [Option.map_eq_some_iff] at h
      obtain ⟨i, hi, rfl⟩ := h
      refine PE.imp (pe_var (by rw [F.N]; exact ixOf_get hi) (F.vis hv) h1 h2) ?_
      rintro σ H Q ⟨env, S, μ, hE, hS, hc⟩
      unfold ev at hc
      cases e : env[i]? with
      | none => simp only [e] at hc; exact hc.elim
      | some o =>
        cases o with
        | none => simp only [e] at hc; exact hc.elim
        | some d =>
          simp only [e] at hc
          obtain ⟨v, e2, r⟩ := hE.at_ i d e
          exact ⟨v, e2, Cont.out hc hS r⟩
    · split at h
      · rename_i hg
        split at h
        · rename_i d e
          cases h
          obtain ⟨u, v, hm, r, rv⟩ := F.cst x d e
          exact pe_lit (pe_glob (F.gl hg) hm r h1) rv
        · rename_i i np e
          cases h
          obtain ⟨k, fd, ps, hm, _⟩ := F.fns x i np e
          exact pe_lit (v := .ref (A.fa i)) (pe_glob (F.gl hg) hm rfl h1) fun _ _ => .fn i
        · cases h
        · cases h
        · split at h
          · rename_i hb
            simp only [Option.map_eq_some_iff] at h
            obtain ⟨t, ht, rfl⟩ := h
            have hv : bootBuiltins x = some (.type t.name) := by
              unfold tyOf at ht
              repeat' (split at ht)
              all_goals first
                | (rename_i e; cases ht; rw [e]; decide +kernel)
                | cases ht
            exact pe_lit (v := .ty t.name) (pe_bltn (F.gl hg) (F.blt x (of_decide_eq_true hb)) hv rfl h3 h1) fun _ _ => .ty t
          · cases h
      · cases h
  · cases h

/-! ### and, or, not -/
theorem ok_not {a : Expr} {m : Ex} {p : Pos} (h : Ok X A G W a m) : Ok X A G W (.UnaryOp .Not a p) (.not m) := by
  refine ⟨PE.imp (pe_notT h.1) ?_, PT.imp (pt_not h.2) ?_⟩
  · rintro σ H Q ⟨env, S, μ, hE, hS, hc⟩
    refine ⟨env, S, μ, hE, hS, (Cont.bnd hc).to ?_⟩
    rintro v H1 ⟨x, S1, μ1, n1, s1, r1, h1⟩
    obtain ⟨k, S', e, q⟩ := Cont.pure h1 (truthM_er x S1)
    obtain ⟨e1, t⟩ := truth_sv s1 r1 e
    rw [e1] at q
    exact ⟨k, t, q.out s1 (RV.bl _)⟩
  · rintro σ H Q ⟨env, S, μ, hE, hS, hc⟩
    have e : evT G (.not m) env = evT G m env >>= fun k => M.ret (!k) := by
      unfold evT
      show (ev G m env >>= fun x => truthM x >>= fun k => M.ret (D.bl (!k))) >>= truthM = (ev G m env >>= truthM) >>= fun k => M.ret (!k)
      rw [bnd_assoc, bnd_assoc]
      congr 1
      funext x
      rw [bnd_assoc]
      rfl
    rw [e] at hc
    refine ⟨env, S, μ, hE, hS, (Cont.bnd hc).to ?_⟩
    rintro v H1 ⟨x, S1, μ1, n1, s1, r1, h1⟩
    subst r1
    exact h1.out s1 rfl
theorem truthM_same {x : D} {S S' : Store} {k : Bool} (h : truthM x S = .ok k S') : S' = S := by
  cases x with
  | str z =>
    by_cases hz : z.length ≤ lim
    · have h : (M.need (decide (z.length ≤ lim)) >>= fun _ => M.ret ((z.length : Int) != 0)) S = .ok k S' := h
      rw [decide_eq_true hz] at h
      exact (Out.ok.inj h).2.symm
    · have h : (M.need (decide (z.length ≤ lim)) >>= fun _ => M.ret ((z.length : Int) != 0)) S = .ok k S' := h
      rw [decide_eq_false hz] at h
      cases h
  | ref r =>
    have h : M.bnd (getL r) (fun ds => M.ret (!ds.isEmpty)) S = .ok k S' := h
    unfold M.bnd getL at h
    cases q : S[r]? with
    | none => rw [q] at h; cases h
    | some c => rw [q] at h; cases c <;> first | exact (Out.ok.inj h).2.symm | cases h
  | fn f => cases h
  | ty t => cases h
  | _ => exact (Out.ok.inj h).2.symm
theorem pe_andU {a b : Expr} {r : List Expr} {m n : Ex} {p : Pos} (ha : PE X a (uE X.K A W (ev G m))) (hb : PE X (.BoolOp .And (b :: r) p) (uE X.K A W (ev G n))) : PE X (.BoolOp .And (a :: b :: r) p) (uE X.K A W (ev G (.and m n))) := by
  refine PE.imp (pe_andT ha hb) ?_
  rintro σ H Q ⟨env, S, μ, hE, hS, hc⟩
  refine ⟨env, S, μ, hE, hS, (Cont.bnd hc).to ?_⟩
  rintro v H1 ⟨x, S1, μ1, n1, s1, r1, h1⟩
  obtain ⟨k, S', e, q⟩ := Cont.pure h1 (truthM_er x S1)
  obtain ⟨e1, t⟩ := truth_sv s1 r1 e
  rw [e1] at q
  refine ⟨k, t, ?_⟩
  cases k with
  | true => exact ⟨env, S1, μ1, hE.mono n1, s1, q⟩
  | false => exact q.out s1 r1
theorem pe_orU {a b : Expr} {r : List Expr} {m n : Ex} {p : Pos} (ha : PE X a (uE X.K A W (ev G m))) (hb : PE X (.BoolOp .Or (b :: r) p) (uE X.K A W (ev G n))) : PE X (.BoolOp .Or (a :: b :: r) p) (uE X.K A W (ev G (.or m n))) := by
  refine PE.imp (pe_orT ha hb) ?_
  rintro σ H Q ⟨env, S, μ, hE, hS, hc⟩
  refine ⟨env, S, μ, hE, hS, (Cont.bnd hc).to ?_⟩
  rintro v H1 ⟨x, S1, μ1, n1, s1, r1, h1⟩
  obtain ⟨k, S', e, q⟩ := Cont.pure h1 (truthM_er x S1)
  obtain ⟨e1, t⟩ := truth_sv s1 r1 e
  rw [e1] at q
  refine ⟨k, t, ?_⟩
  cases k with
  | true => exact q.out s1 r1
  | false => exact ⟨env, S1, μ1, hE.mono n1, s1, q⟩
theorem pw_andU {a b : Expr} {r : List Expr} {m n : Ex} {p : Pos} (ha : PT X a (uT X.K A W (evT G m))) (hb : PW X (.BoolOp .And (b :: r) p) (uT X.K A W (evT G n))) : PW X (.BoolOp .And (a :: b :: r) p) (uT X.K A W (evT G (.and m n))) := by
  refine PW.imp (pw_and ha hb) ?_
  rintro σ H Q ⟨env, S, μ, hE, hS, hc⟩
  have hc : Cont X.K A W (fun _ _ a b => a = b) σ μ H ((evT G m env >>= fun k => if k then evT G n env else M.ret false) S) Q := by
    have e : evT G (.and m n) env = evT G m env >>= fun k => if k then evT G n env else M.ret false := by
      unfold evT
      show (ev G m env >>= fun x => truthM x >>= fun k => if k = true then ev G n env else M.ret x) >>= truthM = (ev G m env >>= truthM) >>= fun k => if k = true then ev G n env >>= truthM else M.ret false
      rw [bnd_assoc, bnd_assoc]
      congr 1
      funext x
      rw [bnd_assoc]
      funext S
      show M.bnd (truthM x) _ S = M.bnd (truthM x) _ S
      unfold M.bnd
      cases hk : truthM x S with
      | ok k S' =>
        cases k with
        | true => rfl
        | false =>
          have e1 : truthM x S' = .ok false S' := by
            have z := truthM_same hk
            subst z
            exact hk
          exact e1
      | er e S' => rfl
      | no => rfl
    rw [← e]
    exact hc
  refine ⟨env, S, μ, hE, hS, (Cont.bnd hc).to ?_⟩
  rintro v H1 ⟨k, S1, μ1, n1, s1, r1, h1⟩
  subst r1
  cases k with
  | true => exact ⟨env, S1, μ1, hE.mono n1, s1, h1⟩
  | false => exact h1.out s1 rfl
theorem pw_orU {a b : Expr} {r : List Expr} {m n : Ex} {p : Pos} (ha : PT X a (uT X.K A W (evT G m))) (hb : PW X (.BoolOp .Or (b :: r) p) (uT X.K A W (evT G n))) : PW X (.BoolOp .Or (a :: b :: r) p) (uT X.K A W (evT G (.or m n))) := by
  refine PW.imp (pw_or ha hb) ?_
  rintro σ H Q ⟨env, S, μ, hE, hS, hc⟩
  have e : evT G (.or m n) env = evT G m env >>= fun k => if k then M.ret true else evT G n env := by
    unfold evT
    show (ev G m env >>= fun x => truthM x >>= fun k => if k = true then M.ret x else ev G n env) >>= truthM = (ev G m env >>= truthM) >>= fun k => if k = true then M.ret true else ev G n env >>= truthM
    rw [bnd_assoc, bnd_assoc]
    congr 1
    funext x
    rw [bnd_assoc]
    funext S
    show M.bnd (truthM x) _ S = M.bnd (truthM x) _ S
    unfold M.bnd
    cases hk : truthM x S with
    | ok k S' =>
      cases k with
      | false => rfl
      | true =>
        have e1 : truthM x S' = .ok true S' := by
          have z := truthM_same hk
          subst z
          exact hk
        exact e1
    | er e S' => rfl
    | no => rfl
  rw [e] at hc
  refine ⟨env, S, μ, hE, hS, (Cont.bnd hc).to ?_⟩
  rintro v H1 ⟨k, S1, μ1, n1, s1, r1, h1⟩
  subst r1
  cases k with
  | true => exact h1.out s1 rfl
  | false => exact ⟨env, S1, μ1, hE.mono n1, s1, h1⟩
/-! ### a if c else b -/
theorem ok_ite {c a b : Expr} {k m n : Ex} {p : Pos} (hc : Ok X A G W c k) (ha : Ok X A G W a m) (hb : Ok X A G W b n) : Ok X A G W (.IfExp c a b p) (.ite k m n) := by
  have un : ∀ env, ev G (.ite k m n) env = evT G k env >>= fun t => if t then ev G m env else ev G n env := fun env => by
    unfold evT
    rw [bnd_assoc]
    rfl
  refine ⟨PE.imp (pe_ifExp hc.2 ha.1 hb.1) ?_, ?_⟩
  · rintro σ H Q ⟨env, S, μ, hE, hS, h⟩
    rw [un] at h
    refine ⟨env, S, μ, hE, hS, (Cont.bnd h).to ?_⟩
    rintro v H1 ⟨t, S1, μ1, n1, s1, r1, h1⟩
    subst r1
    cases t with
    | true => exact ⟨env, S1, μ1, hE.mono n1, s1, h1⟩
    | false => exact ⟨env, S1, μ1, hE.mono n1, s1, h1⟩
  · refine ⟨fun pins s σ H Q I h => ?_⟩
    obtain ⟨env, S, μ, hE, hS, h⟩ := h
    have e : evT G (.ite k m n) env = evT G k env >>= fun t => if t then evT G m env else evT G n env := by
      show ev G (.ite k m n) env >>= truthM = _
      rw [un, bnd_assoc]
      congr 1
      funext t
      cases t <;> rfl
    rw [e] at h
    have hq := hc.2.run pins s σ H _ I ⟨env, S, μ, hE, hS, Cont.bnd h⟩
    show wpAny _ _ (PySem.isTrue (.IfExp c a b p) X.env _) _ _ _
    have step : ∀ whole, PySem.isTrue (.IfExp c a b p) X.env whole = (PySem.isTrue c X.env (eval c X.env) >>= fun t => if t = true then PySem.isTrue a X.env (eval a X.env) else PySem.isTrue b X.env (eval b X.env)) := fun whole => rfl
    rw [step]
    refine wpAny_bind (thn hq ?_)
    rintro t s1 ⟨H1, I1, t', S1, μ1, n1, s1', r1, h1⟩
    subst r1
    cases t' with
    | true => exact ha.2.run pins s1 σ H1 Q I1 ⟨env, S1, μ1, hE.mono n1, s1', h1⟩
    | false => exact hb.2.run pins s1 σ H1 Q I1 ⟨env, S1, μ1, hE.mono n1, s1', h1⟩
/-! ### comparisons -/
theorem rCop_mono {w0 : World} {K : PySem.W.Frag} (o : COp) {v w : V} {H : Hp} {Q Q' : VK} (h : ∀ z H', Q z H' → Q' z H') (r : rCop w0 K o v w H Q) : rCop w0 K o v w H Q' := by
  cases o with
  | eq =>
    rcases r with ⟨a, q⟩ | ⟨d, e, a, b, c, f, q⟩
    · exact .inl ⟨a, h _ _ q⟩
    · exact .inr ⟨d, e, a, b, c, f, h _ _ q⟩
  | ne =>
    rcases r with ⟨a, q⟩ | ⟨d, e, a, b, c, f, q⟩
    · exact .inl ⟨a, h _ _ q⟩
    · exact .inr ⟨d, e, a, b, c, f, h _ _ q⟩
  | lt => obtain ⟨i, j, a, b, q⟩ := r; exact ⟨i, j, a, b, h _ _ q⟩
  | le => obtain ⟨i, j, a, b, q⟩ := r; exact ⟨i, j, a, b, h _ _ q⟩
  | gt => obtain ⟨i, j, a, b, q⟩ := r; exact ⟨i, j, a, b, h _ _ q⟩
  | ge => obtain ⟨i, j, a, b, q⟩ := r; exact ⟨i, j, a, b, h _ _ q⟩
  | is_ =>
    rcases r with ⟨a, q⟩ | ⟨d, e, a, b, q⟩
    · exact .inl ⟨a, h _ _ q⟩
    · exact .inr ⟨d, e, a, b, h _ _ q⟩
  | isnt =>
    rcases r with ⟨a, q⟩ | ⟨d, e, a, b, q⟩
    · exact .inl ⟨a, h _ _ q⟩
    · exact .inr ⟨d, e, a, b, h _ _ q⟩
  | in_ =>
    rcases r with ⟨c, z, a, b, q⟩ | ⟨d, ds, a, b, c, q⟩ | ⟨a, o, b, c, q⟩
    · exact .inl ⟨c, z, a, b, h _ _ q⟩
    · exact .inr (.inl ⟨d, ds, a, b, c, h _ _ q⟩)
    · exact .inr (.inr ⟨a, o, b, c, h _ _ q⟩)
  | nin =>
    rcases r with ⟨c, z, a, b, q⟩ | ⟨d, ds, a, b, c, q⟩ | ⟨a, o, b, c, q⟩
    · exact .inl ⟨c, z, a, b, h _ _ q⟩
    · exact .inr (.inl ⟨d, ds, a, b, c, h _ _ q⟩)
    · exact .inr (.inr ⟨a, o, b, c, h _ _ q⟩)
theorem pe_cmpU (hu : X.A.units + 65 < cLine) (hw : A.w = X.w) {a b : Expr} {m n : Ex} {o : COp} {p : Pos} (ha : PE X a (uE X.K A W (ev G m))) (hb : PE X b (uE X.K A W (ev G n))) (hm : behindInMarks (cmpAst o) b = false) : Ok X A G W (.Compare a [cmpAst o] [b] p) (.cmp o m n) := by
  have un : ∀ env, ev G (.cmp o m n) env = ev G m env >>= fun x => ev G n env >>= fun y => cmpM o x y >>= fun k => M.ret (.bl k) := fun env => rfl
  have key : ∀ {env : Env} {S : Store} {μ : List Addr} {σ : L2.St} {H : Hp} {Q : Bool → Hp → Prop}, ER X.K A μ H env σ → Sto X.K A μ S H →
      Cont X.K A W (fun _ _ a b => a = b) σ μ H ((ev G m env >>= fun x => ev G n env >>= fun y => cmpM o x y) S) Q → tTest (tOp (rCop A.w X.K o) (uE X.K A W (ev G m)) (uE X.K A W (ev G n))) σ H Q := fun {env S μ σ H Q} hE hS h => by
    refine ⟨env, S, μ, hE, hS, (Cont.bnd h).to ?_⟩
    rintro v H1 ⟨x, S1, μ1, n1, s1, r1, h1⟩
    refine ⟨env, S1, μ1, hE.mono n1, s1, (Cont.bnd h1).to ?_⟩
    rintro w H2 ⟨y, S2, μ2, n2, s2, r2, h2⟩
    exact sv_cop o W σ x y v w μ2 H2 S2 Q s2 (r1.mono n2) r2 h2
  refine ⟨PE.imp (pe_cmpR (hw ▸ op_cop hu o : OpR X (compareOp (cmpAst o)) (rCop A.w X.K o)) ha hb hm) ?_, PT.imp (pt_cmpR (hw ▸ op_cop hu o : OpR X (compareOp (cmpAst o)) (rCop A.w X.K o)) ha hb hm) ?_⟩
  · rintro σ H Q ⟨env, S, μ, hE, hS, h⟩
    refine ⟨env, S, μ, hE, hS, (Cont.bnd h).to ?_⟩
    rintro v H1 ⟨x, S1, μ1, n1, s1, r1, h1⟩
    refine ⟨env, S1, μ1, hE.mono n1, s1, (Cont.bnd h1).to ?_⟩
    rintro w H2 ⟨y, S2, μ2, n2, s2, r2, h2⟩
    refine rCop_mono o ?_ (sv_cop (X := X) o W σ x y v w μ2 H2 S2 (fun k H' => Q (.bl k) H') s2 (r1.mono n2) r2 ((Cont.bnd h2).to ?_))
    · rintro z H' ⟨k, rfl, q⟩
      exact q
    · rintro k H' ⟨k', S3, μ3, n3, s3, r3, h3⟩
      subst r3
      exact h3.out s3 (RV.bl _)
  · rintro σ H Q ⟨env, S, μ, hE, hS, h⟩
    refine key hE hS ?_
    have e : evT G (.cmp o m n) env = ev G m env >>= fun x => ev G n env >>= fun y => cmpM o x y := by
      unfold evT
      rw [un, bnd_assoc]
      congr 1
      funext x
      rw [bnd_assoc]
      congr 1
      funext y
      rw [bnd_assoc]
      funext S
      show M.bnd (cmpM o x y) _ S = _
      unfold M.bnd
      cases cmpM o x y S <;> rfl
    rw [← e]
    exact h
end
end Mi

/-! Mi, part H: chains, displays, items, calls. -/
namespace Mi
open PySem PySem.Spec PyProof.Rows L2
section
variable {X : Cx} {A : Adr} {G : Gen} {Γ : Gam} {W : WX}

theorem bnd_congr {α β : Type} {m : M α} {f g : α → M β} (h : ∀ a, f a = g a) : m >>= f = m >>= g := by
  congr 1
  funext a
  exact h a
theorem truth_bl {m : M Bool} : (m >>= fun k => M.ret (D.bl k)) >>= truthM = m := by
  rw [bnd_assoc]
  funext S
  show M.bnd m _ S = _
  unfold M.bnd
  cases m S <;> rfl
/-! ### chains -/
theorem ok_chn (hu : X.A.units + 65 < cLine) (hw : A.w = X.w) {a b c : Expr} {m n l : Ex} {o o' : COp} {p : Pos} (ha : PE X a (uE X.K A W (ev G m))) (hb : PE X b (uE X.K A W (ev G n))) (hc : PE X c (uE X.K A W (ev G l)))
    (hm : lastMarks [cmpAst o, cmpAst o'] [b, c] = false) : Ok X A G W (.Compare a [cmpAst o, cmpAst o'] [b, c] p) (.chn o o' m n l) := by
  have un : ∀ env, ev G (.chn o o' m n l) env = (ev G m env >>= fun x => ev G n env >>= fun y => cmpM o x y >>= fun k => if k then ev G l env >>= fun z => cmpM o' y z else M.ret false) >>= fun k => M.ret (D.bl k) := fun env => by
    rw [bnd_assoc]
    refine bnd_congr fun x => ?_
    rw [bnd_assoc]
    refine bnd_congr fun y => ?_
    rw [bnd_assoc]
    refine bnd_congr fun k => ?_
    cases k with
    | true =>
      show (ev G l env >>= fun z => cmpM o' y z >>= fun k' => M.ret (D.bl k')) = (ev G l env >>= fun z => cmpM o' y z) >>= _
      rw [bnd_assoc]
    | false => rfl
  have key : ∀ {env : PySem.Env → Unit} {e : Env} {S : Store} {μ : List Addr} {σ : L2.St} {H : Hp} {Q : Bool → Hp → Prop}, ER X.K A μ H e σ → Sto X.K A μ S H →
      Cont X.K A W (fun _ _ a b => a = b) σ μ H ((ev G m e >>= fun x => ev G n e >>= fun y => cmpM o x y >>= fun k => if k then ev G l e >>= fun z => cmpM o' y z else M.ret false) S) Q →
      tChain (rCop A.w X.K o) (rCop A.w X.K o') (uE X.K A W (ev G m)) (uE X.K A W (ev G n)) (uE X.K A W (ev G l)) σ H (fun z H' => ∃ k, z = .bl k ∧ Q k H') := fun {_ e S μ σ H Q} hE hS h => by
    refine ⟨e, S, μ, hE, hS, (Cont.bnd h).to ?_⟩
    rintro v H1 ⟨x, S1, μ1, n1, s1, r1, h1⟩
    refine ⟨e, S1, μ1, hE.mono n1, s1, (Cont.bnd h1).to ?_⟩
    rintro w H2 ⟨y, S2, μ2, n2, s2, r2, h2⟩
    refine rCop_mono o ?_ (sv_cop o W σ x y v w μ2 H2 S2 _ s2 (r1.mono n2) r2 (Cont.bnd h2))
    rintro z H3 ⟨k, rfl, k', S3, μ3, n3, s3, r3, h3⟩
    subst r3
    refine ⟨k', rfl, ?_⟩
    cases k' with
    | true =>
      refine ⟨e, S3, μ3, (((hE.mono n1).mono n2).mono n3), s3, (Cont.bnd h3).to ?_⟩
      rintro u H4 ⟨z, S4, μ4, n4, s4, r4, h4⟩
      exact sv_cop o' W σ y z w u μ4 H4 S4 Q s4 ((r2.mono n3).mono n4) r4 h4
    | false => exact ⟨false, rfl, h3.out s3 rfl⟩
  have r1 : OpR X (compareOp (cmpAst o)) (rCop A.w X.K o) := hw ▸ op_cop hu o
  have r2 : OpR X (compareOp (cmpAst o')) (rCop A.w X.K o') := hw ▸ op_cop hu o'
  refine ⟨PE.imp (pe_chain r1 r2 ha hb hc hm) ?_, PT.imp (pt_chain r1 r2 ha hb hc hm) ?_⟩
  · rintro σ H Q ⟨e, S, μ, hE, hS, h⟩
    rw [un] at h
    have h' := (Cont.bnd (R1 := fun _ _ (a b : Bool) => a = b) h)
    have q := key (env := fun _ => ()) hE hS h'
    have fin : ∀ z H', (∃ k, z = V.bl k ∧ ∃ x S1 μ1, Nx μ H μ1 H' ∧ Sto X.K A μ1 S1 H' ∧ x = k ∧ Cont X.K A W (RV X.K A) σ μ1 H' (M.ret (D.bl x) S1) Q) → Q z H' := by
      rintro z H' ⟨k, rfl, x, S1, μ1, n1, s1, rfl, h1⟩
      exact h1.out s1 (RV.bl _)
    refine Cont_to_uE q fun x H1 q1 => Cont_to_uE q1 fun y H2 q2 => rCop_mono o ?_ q2
    rintro z H3 ⟨k, rfl, q3⟩
    refine ⟨k, rfl, ?_⟩
    cases k with
    | true => exact Cont_to_uE q3 fun w H4 q4 => rCop_mono o' fin q4
    | false => exact fin _ _ q3
  · rintro σ H Q ⟨e, S, μ, hE, hS, h⟩
    have e1 : evT G (.chn o o' m n l) e = (ev G m e >>= fun x => ev G n e >>= fun y => cmpM o x y >>= fun k => if k then ev G l e >>= fun z => cmpM o' y z else M.ret false) := by
      unfold evT
      rw [un]
      exact truth_bl
    rw [e1] at h
    exact key (env := fun _ => ()) hE hS h
end
end Mi

/-! Mi, part I: displays, items, calls. -/
namespace Mi
open PySem PySem.Spec PyProof.Rows L2
section
variable {X : Cx} {A : Adr} {G : Gen} {Γ : Gam} {W : WX}

theorem ok_bin {a b : Expr} {m n : Ex} {o : BOp} {p : Pos} (ha : PE X a (uE X.K A W (ev G m))) (hb : PE X b (uE X.K A W (ev G n))) : Ok X A G W (.BinOp a (opAst o) b p) (.bin o m n) :=
  truth_of (PE.imp (pe_op (op_bop o) ha hb) (tOp_of (sv_bop o))) fun _ => rfl
theorem ok_neg {a : Expr} {m : Ex} {p : Pos} (ha : PE X a (uE X.K A W (ev G m))) : Ok X A G W (.UnaryOp .USub a p) (.neg m) := by
  refine truth_of (PE.imp (pe_un un_neg ha) ?_) fun _ => rfl
  rintro σ H Q ⟨e, S, μ, hE, hS, h⟩
  refine ⟨e, S, μ, hE, hS, (Cont.bnd h).to ?_⟩
  rintro v H1 ⟨x, S1, μ1, n1, s1, r1, h1⟩
  cases r1 with
  | int i => exact ⟨i, rfl, Cont.out (v := V.int (-i)) h1 s1 (RV.int _)⟩
  | _ => exact False.elim h1

/-! ### rows of terms -/
def notStar : Expr → Bool
  | .Starred _ _ => false
  | _ => true
theorem star_cons {env : PySem.Env} {e : Expr} {es : List Expr} (h : notStar e = true) : starEach (e :: es) env = (false, eval e env) :: starEach es env := by
  cases e <;> first | rfl | cases h
theorem star_none {env : PySem.Env} {pos : Pos} : ∀ {es : List Expr}, (∀ e ∈ es, notStar e = true) → (backTo pos (starEach es env)).any (·.1) = false
  | [], _ => rfl
  | e :: es, h => by
    rw [star_cons (h e List.mem_cons_self)]
    show (false || (backTo pos (starEach es env)).any (·.1)) = false
    rw [star_none fun e he => h e (List.mem_cons_of_mem _ he)]
    rfl
theorem star_all {env : PySem.Env} {pos : Pos} : ∀ {es : List Expr}, (∀ e ∈ es, notStar e = true) → (backTo pos (starEach es env)).all (fun x => !x.1) = true
  | [], _ => rfl
  | e :: es, h => by
    rw [star_cons (h e List.mem_cons_self)]
    show (!false && (backTo pos (starEach es env)).all (fun x => !x.1)) = true
    rw [star_all fun e he => h e (List.mem_cons_of_mem _ he)]
    rfl
/-- a row of terms that mean what they should -/
inductive Oks (X : Cx) (A : Adr) (G : Gen) (W : WX) : List Expr → List Ex → Prop where
  | nil : Oks X A G W [] []
  | cons {e : Expr} {m : Ex} {es : List Expr} {ms : List Ex} : notStar e = true → PE X e (uE X.K A W (ev G m)) → Oks X A G W es ms → Oks X A G W (e :: es) (m :: ms)
theorem Oks.star {es : List Expr} {ms : List Ex} (h : Oks X A G W es ms) : ∀ e ∈ es, notStar e = true := by
  induction h with
  | nil => intro e he; cases he
  | cons h1 _ _ ih =>
    intro e he
    rcases List.mem_cons.mp he with rfl | he
    · exact h1
    · exact ih e he
theorem Oks.len {es : List Expr} {ms : List Ex} (h : Oks X A G W es ms) : es.length = ms.length := by
  induction h with
  | nil => rfl
  | cons _ _ _ ih => rw [List.length_cons, List.length_cons, ih]
theorem pa_of {es : List Expr} {ms : List Ex} (h : Oks X A G W es ms) : PA X es (uA X.K A W (evs G ms)) := by
  induction h with
  | nil =>
    refine ⟨fun pos pins s σ H Q I q => pa_nil.run pos pins s σ H Q I ?_⟩
    obtain ⟨e, S, μ, hE, hS, hc⟩ := q
    exact Cont.out (v := ([] : List V)) hc hS .nil
  | cons h1 h2 h3 ih =>
    refine ⟨fun pos pins s σ H Q I q => (pa_cons h2 ih (star_cons h1)).run pos pins s σ H Q I ?_⟩
    obtain ⟨e, S, μ, hE, hS, hc⟩ := q
    refine ⟨e, S, μ, hE, hS, (Cont.bnd hc).to ?_⟩
    rintro v H1 ⟨x, S1, μ1, n1, s1, r1, h1⟩
    refine ⟨e, S1, μ1, hE.mono n1, s1, (Cont.bnd h1).to ?_⟩
    rintro vs H2 ⟨xs, S2, μ2, n2, s2, r2, h2⟩
    exact Cont.out (v := v :: vs) h2 s2 (.cons (r1.mono n2) r2)
theorem evs_len {env : Env} : ∀ {ms : List Ex} {S S' : Store} {ds : List D}, evs G ms env S = .ok ds S' → ds.length = ms.length
  | [], S, S', ds, h => by cases h; rfl
  | m :: ms, S, S', ds, h => by
    have h : M.bnd (ev G m env) (fun d => M.bnd (evs G ms env) fun ds => M.ret (d :: ds)) S = .ok ds S' := h
    unfold M.bnd at h
    cases e : ev G m env S with
    | ok d S1 =>
      rw [e] at h
      simp only at h
      cases e2 : evs G ms env S1 with
      | ok es S2 =>
        rw [e2] at h
        cases h
        rw [List.length_cons, List.length_cons, evs_len e2]
      | er _ _ => rw [e2] at h; cases h
      | no => rw [e2] at h; cases h
    | er _ _ => rw [e] at h; cases h
    | no => rw [e] at h; cases h

/-! ### displays -/
theorem ok_tup {es : List Expr} {ms : List Ex} {k : Nat} {p : Pos} (h : Oks X A G W es ms) : Ok X A G W (.Tuple es k p) (.tup ms) := by
  refine truth_of (PE.imp (pe_tup (pa_of h)) ?_) fun _ => rfl
  rintro σ H Q ⟨e, S, μ, hE, hS, hc⟩
  refine ⟨e, S, μ, hE, hS, (Cont.bnd hc).to ?_⟩
  rintro vs H1 ⟨ds, S1, μ1, n1, s1, r1, h1⟩
  obtain ⟨h0, h1⟩ := Cont.need h1
  refine ⟨by rw [← r1.length]; exact lim_size (of_decide_eq_true h0), fun q hq => h1.tup s1 r1 hq⟩
theorem ok_lst {es : List Expr} {ms : List Ex} {p : Pos} (h : Oks X A G W es ms) : Ok X A G W (.List es p) (.lst ms) := by
  refine truth_of (PE.imp (pe_lst (pa_of h)) ?_) fun _ => rfl
  rintro σ H Q ⟨e, S, μ, hE, hS, hc⟩
  refine ⟨e, S, μ, hE, hS, (Cont.bnd hc).to ?_⟩
  rintro vs H1 ⟨ds, S1, μ1, n1, s1, r1, h1⟩
  obtain ⟨h0, h1⟩ := Cont.need h1
  refine ⟨by rw [← r1.length]; exact lim_size (of_decide_eq_true h0), fun q hq => Cont.newL s1 h1 r1 hq⟩

/-! ### items and slices -/
theorem ok_ix (hu : X.A.units + 65 < cLine) (hw : A.w = X.w) {a b : Expr} {m n : Ex} {p : Pos} (ha : PE X a (uE X.K A W (ev G m))) (hb : PE X b (uE X.K A W (ev G n))) (hs : isSlc b = false) : Ok X A G W (.Subscript a b p) (.ix m n) := by
  have r1 : IxR X (rIxU A.w X.K) := IxR.or (hw ▸ ix_dic hu) ix_seq
  refine truth_of (PE.imp (pe_ix r1 ha hb ?_) (tOp_of sv_ix)) fun _ => rfl
  intro o i
  cases b <;> first | rfl | cases hs
def OkO (X : Cx) (A : Adr) (G : Gen) (W : WX) (e : Option Expr) (m : Option Ex) : Prop := PO X e (uO X.K A W (evo G m))
theorem oko_none : OkO X A G W none none := by
  refine ⟨fun pins s σ H Q I q => po_none.run pins s σ H Q I ?_⟩
  obtain ⟨e, S, μ, hE, hS, hc⟩ := q
  exact Cont.out (v := (none : Option Int)) hc hS rfl
theorem oko_some {e : Expr} {m : Ex} (h : PE X e (uE X.K A W (ev G m))) : OkO X A G W (some e) (some m) := by
  refine ⟨fun pins s σ H Q I q => (po_some h).run pins s σ H Q I ?_⟩
  obtain ⟨e, S, μ, hE, hS, hc⟩ := q
  refine ⟨e, S, μ, hE, hS, (Cont.bnd hc).to ?_⟩
  rintro v H1 ⟨x, S1, μ1, n1, s1, r1, h1⟩
  cases r1 with
  | int i => exact ⟨i, rfl, Cont.out (v := some i) h1 s1 rfl⟩
  | _ => exact False.elim h1
theorem ok_sl {a : Expr} {lo hi : Option Expr} {m : Ex} {l h : Option Ex} {p p2 : Pos} (ha : PE X a (uE X.K A W (ev G m))) (hl : OkO X A G W lo l) (hh : OkO X A G W hi h) : Ok X A G W (.Subscript a (.Slice lo hi none p2) p) (.sl m l h) := by
  refine truth_of (PE.imp (pe_slice sl_all ha hl hh) ?_) fun _ => rfl
  rintro σ H Q ⟨e, S, μ, hE, hS, hc⟩
  refine ⟨e, S, μ, hE, hS, (Cont.bnd hc).to ?_⟩
  rintro v H1 ⟨x, S1, μ1, n1, s1, r1, h1⟩
  refine ⟨e, S1, μ1, hE.mono n1, s1, (Cont.bnd h1).to ?_⟩
  rintro i H2 ⟨i', S2, μ2, n2, s2, r2, h2⟩
  subst r2
  refine ⟨e, S2, μ2, (hE.mono n1).mono n2, s2, (Cont.bnd h2).to ?_⟩
  rintro j H3 ⟨j', S3, μ3, n3, s3, r3, h3⟩
  subst r3
  exact sv_sl s3 ((r1.mono n2).mono n3) h3

/-! ### calls -/
theorem uSp_of {np : Nat} {f : List D → M D} {ds : List D} {vs : List V} {S : Store} {μ : List Addr} {H : Hp} {Q : VK} {σ : L2.St} (hl : ds.length = np) (r : RVs X.K A μ H ds vs) (s : Sto X.K A μ S H) (h : Cont X.K A W (RV X.K A) σ μ H (f ds S) Q) : uSp X.K A np f vs H Q (WE W σ) := by
  refine ⟨ds, S, μ, hl, r, s, ?_⟩
  cases e : f ds S with
  | ok d S' => rw [e] at h; exact h
  | er x S' => rw [e] at h; exact h
  | no => rw [e] at h; exact h
theorem pe_callG0 {k : Nat} {f : Addr} {fd : FuncData} {ps : List Str} {sp : Sp} {E : L2.St → XK} {x : Str} {p pos : Pos} (F : FnG X.prog X.w X.K X.mg X.base k f fd ps sp) (gd : X.A.guards = some []) (hr : Room k X.A) (hg : Gl X x) (hm : X.mg x = some (.ref f)) (hk : PySem.W.keepIn X.K (.ref f) = true)
    (hb : Binds X.K fd ps []) (hx : ∀ σ, PassesAt (L2.CX X.prog X.w) X σ (E σ)) (hdb : (x == ("__debug__" : Str)) = false) : PE X (.Call (.Name x p) [] [] pos) (tCallS sp E tNil) :=
  ⟨fun pins s σ H Q I h => wpAny_Call_Name_kw (ld_glob I hg hm (PySem.W.callWith_K0 I.kIn hk (run_fnG (us := []) F gd hr hb (hx σ) I .nil h)) hdb)⟩
theorem pe_callG {k : Nat} {f : Addr} {fd : FuncData} {ps : List Str} {sp : Sp} {E : L2.St → XK} {x : Str} {p pos : Pos} {e : Expr} {es : List Expr} {t : TA} (F : FnG X.prog X.w X.K X.mg X.base k f fd ps sp) (gd : X.A.guards = some []) (hr : Room k X.A) (hg : Gl X x) (hm : X.mg x = some (.ref f))
    (hk : PySem.W.keepIn X.K (.ref f) = true) (hb : Binds X.K fd ps []) (hx : ∀ σ, PassesAt (L2.CX X.prog X.w) X σ (E σ)) (ha : PA X (e :: es) t) (hdb : (x == ("__debug__" : Str)) = false) (st : notStar e = true) (ss : ∀ y ∈ es, notStar y = true) : PE X (.Call (.Name x p) (e :: es) [] pos) (tCallS sp E t) :=
  ⟨fun pins s σ H Q I h => wpAny_Call_Name_kw (ld_glob I hg hm (PySem.W.callWith_K (h₀ := X.base) I.ok.mod.kin hk (thn (ha.run pos pins s σ H _ I h) fun us s1 ⟨vs, H1, I1, r, q⟩ => ⟨I1.kIn, run_fnG F gd hr hb (hx σ) I1 r q⟩) (star_cons st) (star_none ss)) hdb)⟩
theorem ok_call (F : Fits A G Γ X W) {x : Str} {i np : Nat} {es : List Expr} {ms : List Ex} {p pos : Pos} (hg : isGl Γ.sc x = true) (hp : plainNm x = true) (hf : Γ.glob.lookup x = some (.fn i np)) (hn : ms.length = np) (h : Oks X A G W es ms) : Ok X A G W (.Call (.Name x p) es [] pos) (.call i ms) := by
  obtain ⟨k, fd, ps, hm, hk, hr, hb, hl, FO⟩ := F.fns x i np hf
  have q : ∀ σ H Q, uE X.K A W (ev G (.call i ms)) σ H Q → tCallS (uSp X.K A np (G.call i)) (WE W) (uA X.K A W (evs G ms)) σ H Q := by
    rintro σ H Q ⟨e, S, μ, hE, hS, hc⟩
    have hc : Cont X.K A W (RV X.K A) σ μ H ((evs G ms e >>= fun ds => G.call i ds) S) Q := hc
    have hc2 := Cont.bnd (R1 := RVs X.K A) hc
    refine ⟨e, S, μ, hE, hS, ?_⟩
    cases el : evs G ms e S with
    | ok ds S' =>
      rw [el] at hc2
      intro vs μ' H' n s r
      obtain ⟨ds2, S2, μ2, n2, s2, r2, h2⟩ := hc2 vs μ' H' n s r
      have h3 : Cont X.K A W (RV X.K A) σ μ' H' (G.call i ds S') Q := by
        have : Cont X.K A W (RV X.K A) σ μ H (M.bnd (evs G ms e) (fun ds => G.call i ds) S) Q := hc
        unfold M.bnd at this
        rw [el] at this
        exact Cont.trans n this
      exact uSp_of (by rw [evs_len el]; exact hn) r s h3
    | er x S' => rw [el] at hc2; exact hc2
    | no => rw [el] at hc2; exact hc2
  refine truth_of ?_ fun _ => rfl
  cases h with
  | nil =>
    refine PE.imp (pe_callG0 FO F.grd hr (F.gl hg) hm hk hb (fun σ => passAt F.tk σ) (plain_of hp).1) ?_
    rintro σ H Q hq
    obtain ⟨e, S, μ, hE, hS, hc⟩ := q σ H Q hq
    exact Cont.out (v := ([] : List V)) hc hS .nil
  | cons h1 h2 h3 =>
    exact PE.imp (pe_callG FO F.grd hr (F.gl hg) hm hk hb (fun σ => passAt F.tk σ) (pa_of (.cons h1 h2 h3)) (plain_of hp).1 h1 h3.star) q

/-! ### what is built in -/
theorem ok_blt (F : Fits A G Γ X W) {x : Str} {b : Blt} {e : Expr} {es : List Expr} {ms : List Ex} {p pos : Pos} (hg : isGl Γ.sc x = true) (hp : plainNm x = true) (hb : x ∈ Γ.blts) (hx : bltNm b = x) (h : Oks X A G W (e :: es) ms) : Ok X A G W (.Call (.Name x p) (e :: es) [] pos) (.blt b ms) := by
  obtain ⟨r, hr, hs⟩ := blt_sv (A := A) F.calm F.grd F.units F.w b
  have hv := blt_boot b
  rw [hx] at hv
  obtain ⟨p1, p2, p3⟩ := plain_of hp
  have h1 := h.star e List.mem_cons_self
  have h2 := star_none (env := X.env) (pos := pos) (es := es) fun e he => h.star e (List.mem_cons_of_mem _ he)
  have q : PE X (.Call (.Name x p) (e :: es) [] pos) (tCB r (uA X.K A W (evs G ms))) := by
    unfold bltV at hr hv
    by_cases ht : bltT b = true
    · rw [if_pos ht] at hr hv
      exact pe_callTy hr (F.gl hg) (F.blt x hb) hv (pa_of h) p3 p1 (star_cons h1) h2
    · rw [if_neg ht] at hr hv
      exact pe_callB hr (F.gl hg) (F.blt x hb) hv (pa_of h) p3 p1 (star_cons h1) h2
  refine truth_of (PE.imp q ?_) fun _ => rfl
  rintro σ H Q ⟨e, S, μ, hE, hS, hc⟩
  refine ⟨e, S, μ, hE, hS, (Cont.bnd hc).to ?_⟩
  rintro vs H1 ⟨ds, S1, μ1, n1, s1, r1, h1⟩
  exact hs W σ ds vs μ1 H1 S1 Q s1 r1 h1
end
end Mi

/-! Mi, part J: methods, sources, comprehensions. -/
namespace Mi
open PySem PySem.Spec PyProof.Rows L2
section
variable {X : Cx} {A : Adr} {G : Gen} {Γ : Gam} {W : WX}

/-! ### methods of lists -/
def mthNm : Mth → Str
  | .append => "append" | .pop => "pop" | .extend => "extend" | .get => "get" | .setdefault => "setdefault"
def Mth.isL : Mth → Bool
  | .get => false
  | .setdefault => false
  | _ => true
def rMth : Mth → V → List V → Hp → VK → Prop
  | .append => rAppend
  | .pop => rPopAt
  | .extend => rExtend
  | _ => fun _ _ _ _ => False
theorem seq_of_ix {n : Nat} {i : Int} {k : Nat} (h : ixN n i = some k) : seqIndex? i n = some k := (ixN_seq h).1
theorem need_sv {b : Bool} {S : Store} {α : Type} {f : Unit → M α} {r : Out α} (h : (M.need b >>= f) S = r) : b = true ∨ r = .no := by
  cases b with
  | true => exact .inl rfl
  | false => exact .inr h.symm
theorem mth1_sv {σ : L2.St} {x d : D} {v w : V} {μ : List Addr} {H : Hp} {S : Store} {Q : VK} (m : Mth) (s : Sto X.K A μ S H) (rx : RV X.K A μ H x v) (rd : RV X.K A μ H d w)
    (h : Cont X.K A W (RV X.K A) σ μ H (mthM m x [d] S) Q) : rMth m v [w] H Q := by
  cases m with
  | append =>
    cases rx with
    | @ref n a e0 =>
      obtain ⟨ds, vs, g1, g2, h, e⟩ := Cont.getW s h e0
      obtain ⟨h0, h⟩ := Cont.need h
      have h3 := Cont.setL h e
      have rr : RVs X.K A μ H (ds ++ [d]) (vs ++ [w]) := g2.append (.cons rd .nil)
      obtain ⟨nx, s2⟩ := wrL s e0 e g1 rr
      exact ⟨a, vs, w, rfl, rfl, g1, by rw [← g2.length]; exact lim_lt (of_decide_eq_true h0), h3 V.non μ _ nx s2 .non⟩
    | _ => exact False.elim h
  | extend =>
    cases rx with
    | @ref n a e0 =>
      cases rd with
      | @ref n2 b e1 =>
        obtain ⟨ds, vs, g1, g2, h, e⟩ := Cont.getW s h e0
        obtain ⟨es, us, g3, g4, h, e'⟩ := Cont.getW s h e1
        obtain ⟨h0, h⟩ := Cont.need h
        have h3 := Cont.setL h e
        obtain ⟨nx, s2⟩ := wrL s e0 e g1 (g2.append g4)
        exact ⟨a, b, vs, us, rfl, rfl, g1, g3, by rw [← g2.length, ← g4.length]; exact lim_size (of_decide_eq_true h0), h3 V.non μ _ nx s2 .non⟩
      | _ => exact False.elim h
    | _ => cases rd <;> exact False.elim h
  | pop =>
    cases rx with
    | @ref n a e0 =>
      cases rd with
      | int i =>
        obtain ⟨h0, h⟩ := Cont.need h
        obtain ⟨ds, vs, g1, g2, h, e⟩ := Cont.getW s h e0
        obtain ⟨k, hk, h⟩ := Cont.ofO h
        obtain ⟨y, hy, h⟩ := Cont.ofO h
        have h3 := Cont.setL h e
        obtain ⟨u, hu, ru⟩ := g2.get hy
        obtain ⟨nx, s2⟩ := wrL s e0 e g1 (g2.eraseIdx k)
        have h1 : -(2 ^ 63) ≤ i ∧ i < 2 ^ 63 := of_decide_eq_true h0
        exact ⟨a, vs, i, k, u, rfl, rfl, g1, h1.1, h1.2, by rw [← g2.length]; exact seq_of_ix hk, hu, h3 u μ _ nx s2 (ru.mono nx)⟩
      | _ => exact False.elim h
    | _ => cases rd <;> exact False.elim h
  | get => cases rx <;> exact False.elim h
  | setdefault => cases rx <;> exact False.elim h
theorem pop_sv {σ : L2.St} {x : D} {v : V} {μ : List Addr} {H : Hp} {S : Store} {Q : VK} (s : Sto X.K A μ S H) (rx : RV X.K A μ H x v)
    (h : Cont X.K A W (RV X.K A) σ μ H (mthM .pop x [] S) Q) : rPop v [] H Q := by
  cases rx with
  | @ref n a e0 =>
    obtain ⟨ds, vs, g1, g2, h, e⟩ := Cont.getW s h e0
    obtain ⟨y, hy, h⟩ := Cont.ofO h
    have h3 := Cont.setL h e
    obtain ⟨u, hu, ru⟩ := g2.get hy
    obtain ⟨nx, s2⟩ := wrL s e0 e g1 g2.dropLast
    exact ⟨a, vs, u, rfl, rfl, g1, by rw [← g2.length]; exact hu, h3 u μ _ nx s2 (ru.mono nx)⟩
  | _ => exact False.elim h
theorem base_of {o : Expr} {m : Str} (h : notSup o = true) : attributeBase o m X.env (eval o X.env) = eval o X.env := by
  unfold notSup at h
  split at h
  · cases h
  · rename_i hn
    unfold attributeBase
    split
    · rename_i q
      exact absurd rfl (hn _ _ _)
    · rfl
theorem pre_sv {K : PySem.W.Frag} {R : List Addr → Hp → D → V → Prop} {σ : L2.St} {x : D} {v : V} {μ : List Addr} {H : Hp} {S : Store} {Q : VK} {f : Unit → M D} {m : Mth} (hm : m.isL = true) (s : Sto K A μ S H) (rx : RV K A μ H x v) (h : Cont K A W R σ μ H ((mthPre m x >>= f) S) Q) : tyV K "list" v H ∧ Cont K A W R σ μ H (f () S) Q := by
  cases rx with
  | @ref n a e0 =>
    have h : Cont K A W R σ μ H (((getL n >>= fun _ => M.ret ()) >>= f) S) Q := by cases m <;> first | exact h | cases hm
    rw [bnd_assoc] at h
    obtain ⟨ds, vs, g1, g2, h, _⟩ := Cont.getL s h e0
    exact ⟨.inl ⟨rfl, vs, g1⟩, h⟩
  | _ => cases m <;> exact False.elim h
theorem ok_mth1 {o e : Expr} {n l : Ex} {m : Mth} (hm : m.isL = true) {apos cpos : Pos} (ho : PE X o (uE X.K A W (ev G n))) (he : PE X e (uE X.K A W (ev G l))) (hs : notStar e = true) (hb : notSup o = true) (hl : (apos.endLine == cpos.line) = true) :
    Ok X A G W (.Call (.Attribute o (mthNm m) apos) [e] [] cpos) (.mth m n [l]) := by
  have pa : PA X [e] (uA X.K A W (evs G [l])) := pa_of (.cons hs he .nil)
  have few : ((backTo cpos (starEach [e] X.env)).all (fun x => !x.1) && (backToKw cpos (keywordEach [] X.env)).all (fun x => x.1.isSome) && decide (([e] : List Expr).length + ([] : List Keyword).length + (if ([] : List Keyword).isEmpty then 0 else 1) < 30)) = true := by
    rw [star_all (es := [e]) fun x hx => by rw [List.mem_singleton.mp hx]; exact hs]
    rfl
  have q : PE X (.Call (.Attribute o (mthNm m) apos) [e] [] cpos) (tBM X.K "list" (rMth m) (uE X.K A W (ev G n)) (uA X.K A W (evs G [l]))) := by
    cases m with
    | append => exact pe_bm PySem.F.plainAttrs_list PySem.F.slot_list_append PySem.F.type_list_append mt_append ho pa (base_of hb) few hl (star_cons hs) rfl
    | pop => exact pe_bm PySem.F.plainAttrs_list PySem.F.slot_list_pop PySem.F.type_list_pop mt_popAt ho pa (base_of hb) few hl (star_cons hs) rfl
    | extend => exact pe_bm PySem.F.plainAttrs_list PySem.F.slot_list_extend PySem.F.type_list_extend mt_extend ho pa (base_of hb) few hl (star_cons hs) rfl
    | get => cases hm
    | setdefault => cases hm
  refine truth_of (PE.imp q ?_) fun _ => rfl
  rintro σ H Q ⟨env, S, μ, hE, hS, hc⟩
  refine ⟨env, S, μ, hE, hS, (Cont.bnd hc).to ?_⟩
  rintro v H1 ⟨x, S1, μ1, n1, s1, r1, h1⟩
  obtain ⟨ty, h1⟩ := pre_sv hm s1 r1 h1
  refine ⟨ty, env, S1, μ1, hE.mono n1, s1, ?_⟩
  have h2 := Cont.bnd (R1 := RVs X.K A) h1
  cases el : evs G [l] env S1 with
  | er y S' => rw [el] at h2; exact h2
  | no => rw [el] at h2; exact h2
  | ok ds S' =>
    rw [el] at h2
    intro vs μ' H' n' s' r'
    obtain ⟨ds2, S2, μ2, n2, s2, r2, h3⟩ := h2 vs μ' H' n' s' r'
    have hl := evs_len el
    have h4 : Cont X.K A W (RV X.K A) σ μ' H' (mthM m x ds S') Q := by
      have : Cont X.K A W (RV X.K A) σ μ1 H1 (M.bnd (evs G [l] env) (fun ds => mthM m x ds) S1) Q := h1
      unfold M.bnd at this
      rw [el] at this
      exact Cont.trans n' this
    match ds, hl, r', h4 with
    | [d], _, r', h4 =>
      obtain ⟨w, rfl, rd⟩ := r'.one
      exact mth1_sv m s' (r1.mono n') rd h4
theorem ok_mth0 {o : Expr} {n : Ex} {apos cpos : Pos} (ho : PE X o (uE X.K A W (ev G n))) (hb : notSup o = true) (hl : (apos.endLine == cpos.line) = true) :
    Ok X A G W (.Call (.Attribute o (mthNm .pop) apos) [] [] cpos) (.mth .pop n []) := by
  have q : PE X (.Call (.Attribute o "pop" apos) [] [] cpos) (tBM0 X.K "list" rPop (uE X.K A W (ev G n))) := pe_bm0 PySem.F.plainAttrs_list PySem.F.slot_list_pop PySem.F.type_list_pop mt_pop ho (base_of hb) hl
  refine truth_of (PE.imp q ?_) fun _ => rfl
  rintro σ H Q ⟨env, S, μ, hE, hS, hc⟩
  refine ⟨env, S, μ, hE, hS, (Cont.bnd hc).to ?_⟩
  rintro v H1 ⟨x, S1, μ1, n1, s1, r1, h1⟩
  obtain ⟨ty, h1⟩ := pre_sv rfl s1 r1 h1
  exact ⟨ty, pop_sv s1 r1 h1⟩

/-! ### sources -/
/-- the evaluator's source and the layer's -/
def SrcIt (K : PySem.W.Frag) (A : Adr) (μ0 : List Addr) (H0 : Hp) (s : Src) (J : It) : Prop :=
  ∀ μ S H i, Nx μ0 H0 μ H → Sto K A μ S H → (∀ S', s.at i S = .ok none S' → S' = S ∧ J.stop i H) ∧
    (∀ d S', s.at i S = .ok (some d) S' → S' = S ∧ J.go i H ∧ ∀ x H', J.yld i H x H' → Nx μ H μ H' ∧ Sto K A μ S H' ∧ RV K A μ H' d x) ∧ ∀ e S', s.at i S ≠ .er e S'
theorem SrcIt.mono {K : PySem.W.Frag} {μ0 μ1 : List Addr} {H0 H1 : Hp} {s : Src} {J : It} (n : Nx μ0 H0 μ1 H1) (h : SrcIt K A μ0 H0 s J) : SrcIt K A μ1 H1 s J := fun μ S H i n' q => h μ S H i (n.trans n') q
abbrev uI (K : PySem.W.Frag) (A : Adr) (W : WX) (m : Env → M Src) : TI := uG K A W (SrcIt K A) m
theorem src_tup {K : PySem.W.Frag} {μ0 : List Addr} {H0 : Hp} {ds : List D} {vs : List V} {a : Addr} (q : TupAt K H0 a vs) (r : RVs K A μ0 H0 ds vs) : SrcIt K A μ0 H0 (.items ds) (Itt K a) := by
  intro μ S H i n s
  have q' := (n.sqT q).sq
  refine ⟨fun S' h => ?_, fun d S' h => ?_, fun e S' h => by cases h⟩
  · have e1 := (Out.ok.inj h).1
    have e2 := (Out.ok.inj h).2
    exact ⟨e2.symm, vs, q', by rw [← r.length]; exact List.getElem?_eq_none_iff.mp e1⟩
  · have e1 := (Out.ok.inj h).1
    have e2 := (Out.ok.inj h).2
    obtain ⟨v, h1, h2⟩ := (r.mono n).get e1
    refine ⟨e2.symm, ⟨vs, v, q', h1⟩, ?_⟩
    rintro x H' ⟨rfl, hx⟩
    have := hx vs q'
    rw [h1] at this
    cases this
    exact ⟨Nx.refl, s, h2⟩
theorem src_cell {K : PySem.W.Frag} {μ0 : List Addr} {H0 : Hp} {r : Nat} {a : Addr} (ha : μ0[r]? = some a) : SrcIt K A μ0 H0 (.cell r) (Itl K a) := by
  intro μ S H i n s
  have ha' := n.at ha
  have red : ∀ S : Store, (Src.cell r).at i S = M.bnd (getL r) (fun ds => M.ret ds[i]?) S := fun _ => rfl
  cases e : S[r]? with
  | none =>
    refine ⟨fun S' h => ?_, fun d S' h => ?_, fun e' S' h => ?_⟩ <;> (rw [red] at h; unfold M.bnd getL at h; rw [e] at h; cases h)
  | some c =>
    have main : ∀ ds vs, c = .lst ds ∨ c = .frz ds → SqL K H a vs → RVs K A μ H ds vs → (Src.cell r).at i S = .ok ds[i]? S := fun ds vs hc _ _ => by
      rw [red]
      unfold M.bnd getL
      rw [e]
      rcases hc with rfl | rfl <;> rfl
    have fin : ∀ ds vs, c = .lst ds ∨ c = .frz ds → SqL K H a vs → RVs K A μ H ds vs → (∀ S', (Src.cell r).at i S = .ok none S' → S' = S ∧ (Itl K a).stop i H) ∧
        (∀ d S', (Src.cell r).at i S = .ok (some d) S' → S' = S ∧ (Itl K a).go i H ∧ ∀ x H', (Itl K a).yld i H x H' → Nx μ H μ H' ∧ Sto K A μ S H' ∧ RV K A μ H' d x) ∧ ∀ e S', (Src.cell r).at i S ≠ .er e S' := fun ds vs hc q r => by
      rw [main ds vs hc q r]
      refine ⟨fun S' h => ?_, fun d S' h => ?_, fun e S' h => by cases h⟩
      · have e1 := (Out.ok.inj h).1
        have e2 := (Out.ok.inj h).2
        exact ⟨e2.symm, vs, q, by rw [← r.length]; exact List.getElem?_eq_none_iff.mp e1⟩
      · have e1 := (Out.ok.inj h).1
        have e2 := (Out.ok.inj h).2
        obtain ⟨v, h1, h2⟩ := r.get e1
        refine ⟨e2.symm, ⟨vs, v, q, h1⟩, ?_⟩
        rintro x H' ⟨rfl, hx⟩
        have := hx vs q
        rw [h1] at this
        cases this
        exact ⟨Nx.refl, s, h2⟩
    cases c with
    | lst ds =>
      obtain ⟨vs, g1, g2⟩ := s.cell r _ a e ha'
      exact fin ds vs (.inl rfl) (.inl (.inl g1)) g2
    | frz ds =>
      obtain ⟨vs, g1, g2⟩ := s.cell r _ a e ha'
      exact fin ds vs (.inr rfl) g1.sq g2
    | dic kvs => refine ⟨fun S' h => ?_, fun d S' h => ?_, fun e' S' h => ?_⟩ <;> (rw [red] at h; unfold M.bnd getL at h; rw [e] at h; cases h)
    | ins c fs => refine ⟨fun S' h => ?_, fun d S' h => ?_, fun e' S' h => ?_⟩ <;> (rw [red] at h; unfold M.bnd getL at h; rw [e] at h; cases h)
theorem src_str {K : PySem.W.Frag} {μ0 : List Addr} {H0 : Hp} {z : Str} : SrcIt K A μ0 H0 (.items (z.cps.toList.map fun c => .str ⟨#[c]⟩)) (Its z) := by
  intro μ S H i n s
  refine ⟨fun S' h => ?_, fun d S' h => ?_, fun e S' h => by cases h⟩
  · have e1 := (Out.ok.inj h).1
    have e2 := (Out.ok.inj h).2
    refine ⟨e2.symm, ?_⟩
    have := List.getElem?_eq_none_iff.mp e1
    rw [List.length_map, Array.length_toList] at this
    exact this
  · have e1 := (Out.ok.inj h).1
    have e2 := (Out.ok.inj h).2
    rw [List.getElem?_map, Option.map_eq_some_iff] at e1
    obtain ⟨c, hc, rfl⟩ := e1
    have hi := (List.getElem?_eq_some_iff.mp hc).1
    rw [Array.length_toList] at hi
    refine ⟨e2.symm, hi, ?_⟩
    rintro x H' ⟨rfl, c', hc', rfl⟩
    rw [Array.getElem?_toList] at hc
    rw [hc] at hc'
    cases hc'
    exact ⟨Nx.refl, s, .str _⟩
theorem src_rng {K : PySem.W.Frag} {μ0 : List Addr} {H0 : Hp} {lo : Int} {n : Int} {k : Nat} (hk : k = (n - lo).toNat) : SrcIt K A μ0 H0 (.items (rngD lo n)) (Itr lo k) := by
  intro μ S H i nx s
  subst hk
  refine ⟨fun S' h => ?_, fun d S' h => ?_, fun e S' h => by cases h⟩
  · have e1 := (Out.ok.inj h).1
    have e2 := (Out.ok.inj h).2
    refine ⟨e2.symm, ?_⟩
    have := List.getElem?_eq_none_iff.mp e1
    unfold rngD at this
    rw [List.length_map, List.length_range] at this
    exact this
  · have e1 := (Out.ok.inj h).1
    have e2 := (Out.ok.inj h).2
    unfold rngD at e1
    rw [List.getElem?_map, Option.map_eq_some_iff] at e1
    obtain ⟨c, hc, rfl⟩ := e1
    obtain ⟨hi, hc⟩ := List.getElem?_eq_some_iff.mp hc
    rw [List.length_range] at hi
    rw [List.getElem_range] at hc
    subst hc
    refine ⟨e2.symm, hi, ?_⟩
    rintro x H' ⟨rfl, rfl⟩
    exact ⟨Nx.refl, s, .int _⟩
theorem src_rngDn {K : PySem.W.Frag} {μ0 : List Addr} {H0 : Hp} {i n : Int} : SrcIt K A μ0 H0 (.items (rngDn i n)) (Itc i (-1) (i - n).toNat) := by
  intro μ S H j nx s
  refine ⟨fun S' h => ?_, fun d S' h => ?_, fun e S' h => by cases h⟩
  · have e1 := (Out.ok.inj h).1
    have e2 := (Out.ok.inj h).2
    refine ⟨e2.symm, ?_⟩
    have := List.getElem?_eq_none_iff.mp e1
    unfold rngDn at this
    rw [List.length_map, List.length_range] at this
    exact this
  · have e1 := (Out.ok.inj h).1
    have e2 := (Out.ok.inj h).2
    unfold rngDn at e1
    rw [List.getElem?_map, Option.map_eq_some_iff] at e1
    obtain ⟨c, hc, rfl⟩ := e1
    obtain ⟨hi, hc⟩ := List.getElem?_eq_some_iff.mp hc
    rw [List.length_range] at hi
    rw [List.getElem_range] at hc
    subst hc
    refine ⟨e2.symm, hi, ?_⟩
    rintro x H' ⟨rfl, rfl⟩
    refine ⟨Nx.refl, s, ?_⟩
    rw [show i - (j : Int) = i + (j : Int) * (-1) by omega]
    exact .int _
theorem src_enu {K : PySem.W.Frag} {μ0 : List Addr} {H0 : Hp} {r : Nat} {a : Addr} (ha : μ0[r]? = some a) : SrcIt K A μ0 H0 (.enu (.cell r)) (Ite K a) := by
  intro μ S H i n s
  obtain ⟨c1, c2, c3⟩ := src_cell (K := K) (A := A) ha μ S H i n s
  have red : (Src.enu (.cell r)).at i S = M.bnd ((Src.cell r).at i) (fun o => match o with | some d => M.ret (some (.tup [.int i, d])) | none => M.ret none) S := rfl
  rw [red]
  unfold M.bnd
  cases e : (Src.cell r).at i S with
  | no => exact ⟨fun _ h => (by cases h), fun _ _ h => (by cases h), fun _ _ h => (by cases h)⟩
  | er x S' => exact absurd e (c3 x S')
  | ok o S' =>
    cases o with
    | none =>
      obtain ⟨h1, h2⟩ := c1 S' e
      subst h1
      exact ⟨fun S2 h => ⟨(Out.ok.inj h).2.symm, h2⟩, fun d S2 h => (by cases h), fun _ _ h => (by cases h)⟩
    | some d =>
      obtain ⟨h1, h2, h3⟩ := c2 d S' e
      subst h1
      refine ⟨fun S2 h => (by cases h), fun d' S2 h => ?_, fun _ _ h => by cases h⟩
      have e1 := Option.some.inj (Out.ok.inj h).1
      have e2 := (Out.ok.inj h).2
      subst e1
      refine ⟨e2.symm, h2, ?_⟩
      rintro x H' ⟨T, y, rfl, hT, rfl, hy⟩
      obtain ⟨_, _, ry⟩ := h3 y H ⟨rfl, hy⟩
      exact ⟨Nx.newT hT, s.newT hT, .tup (.inl upd_same) (.cons (.int _) (.cons (ry.mono (Nx.newT hT)) .nil))⟩
end
end Mi

/-! Mi, part JA: dicts' methods; instances: fields, methods, new ones. -/
namespace Mi
open PySem PySem.Spec PyProof.Rows L2
section
variable {X : Cx} {A : Adr} {G : Gen} {Γ : Gam} {W : WX}
/-! ### an empty dict -/
theorem ok_dic {p : Pos} : Ok X A G W (.Dict [] [] p) .dic := by
  refine truth_of (PE.imp pe_dnewK ?_) fun _ => rfl
  rintro σ H Q ⟨e, S, μ, hE, hS, hc⟩ a ha
  have h : Cont X.K A W (RV X.K A) σ μ H (newC (.dic []) S) Q := hc
  have n : Nx μ H (μ ++ [a]) (upd H a (.dK [])) := Nx.newC ha
  refine h (.ref a) (μ ++ [a]) _ n (hS.newC ha (.inl ⟨[], upd_same, .nil⟩)) (.ref ?_)
  rw [← hS.len, List.getElem?_append_right (Nat.le_refl _), Nat.sub_self]
  rfl
/-! ### d.get(k, v), d.setdefault(k, v) -/
def rMth2 (w : World) (K : PySem.W.Frag) : Mth → V → List V → Hp → VK → Prop
  | .get => rGet w K
  | .setdefault => rDef w K
  | _ => fun _ _ _ _ => False
theorem preD_sv {K : PySem.W.Frag} {R : List Addr → Hp → D → V → Prop} {σ : L2.St} {x : D} {v : V} {μ : List Addr} {H : Hp} {S : Store} {Q : VK} {f : Unit → M D} {m : Mth} (hm : m.isL = false) (s : Sto K A μ S H) (rx : RV K A μ H x v) (h : Cont K A W R σ μ H ((mthPre m x >>= f) S) Q) : isDV A.w K v H ∧ Cont K A W R σ μ H (f () S) Q := by
  cases rx with
  | @ref n a e0 =>
    have h : Cont K A W R σ μ H (((getD n >>= fun _ => M.ret ()) >>= f) S) Q := by cases m <;> first | exact h | cases hm
    have h : Cont K A W R σ μ H (M.bnd (M.bnd (getD n) fun _ => M.ret ()) f S) Q := h
    unfold M.bnd getD at h
    cases e : S[n]? with
    | none => rw [e] at h; exact h.elim
    | some c =>
      rw [e] at h
      cases c with
      | dic kvs =>
        refine ⟨⟨a, rfl, ?_⟩, h⟩
        rcases s.cell n _ a e e0 with ⟨kv, f1, _⟩ | ⟨kv, f1, _⟩
        · exact .inl ⟨kv, f1⟩
        · exact .inr ⟨kv, f1⟩
      | _ => exact h.elim
  | _ => cases m <;> exact False.elim h
theorem mth2_sv {σ : L2.St} {x d e : D} {v w z : V} {μ : List Addr} {H : Hp} {S : Store} {Q : VK} (m : Mth) (hm : m.isL = false) (s : Sto X.K A μ S H) (rx : RV X.K A μ H x v) (rd : RV X.K A μ H d w) (re : RV X.K A μ H e z)
    (h : Cont X.K A W (RV X.K A) σ μ H (mthM m x [d, e] S) Q) : rMth2 A.w X.K m v [w, z] H Q := by
  cases m with
  | get =>
    cases rx with
    | @ref n a e0 =>
      obtain ⟨kvs, e1, e2, h⟩ := Cont.getK h
      rcases s.dic e1 e0 e2 rd with ⟨kv, k', f1, rfl, rfl, f2⟩ | ⟨kv, b, f1, rfl, f2, f3, f4⟩
      · refine ⟨a, _, z, valV kv k', rfl, rfl, .inl ⟨kv, k', f1, rfl, rfl⟩, ?_⟩
        have q := f2.val k'
        cases hd : dval kvs (kD k') with
        | none => rw [hd] at q h; rw [show valV kv k' = none from q]; exact h.out s re
        | some d => rw [hd] at q h; obtain ⟨u, q, r⟩ := q; rw [q]; exact h.out s r
      · refine ⟨a, _, z, valV kv d, rfl, rfl, .inr ⟨kv, d, b, f1, rfl, f2, f3, rfl⟩, ?_⟩
        have q := f4.val d
        cases hd : dval kvs d with
        | none => rw [hd] at q h; rw [show valV kv d = none from q]; exact h.out s re
        | some d' => rw [hd] at q h; obtain ⟨u, q, r⟩ := q; rw [q]; exact h.out s r
    | _ => exact False.elim h
  | setdefault =>
    cases rx with
    | @ref n a e0 =>
      obtain ⟨kvs, e1, e2, h⟩ := Cont.getK h
      obtain ⟨hlm, h⟩ := Cont.need h
      have hlm : kvs.length < lim := of_decide_eq_true hlm
      have put : dval kvs d = none → kvs.length < lim ∧ Cont X.K A W (RV X.K A) σ μ H (.ok e (S.set n (.dic (dput kvs d e)))) Q := fun hd => by
        rw [hd] at h
        have h : Cont X.K A W (RV X.K A) σ μ H (M.bnd (putD n d e) (fun _ => M.ret e) S) Q := h
        unfold M.bnd at h
        cases g : putD n d e S with
        | no => rw [g] at h; exact h.elim
        | er y S2 => obtain ⟨_, _, _, _, z⟩ := putD_is g (fun z => nomatch z); cases z
        | ok u S2 =>
          rw [g] at h
          obtain ⟨kvs', g1, _, g2, z⟩ := putD_is g (fun z => nomatch z)
          rw [e1] at g1
          cases g1
          cases z
          exact ⟨g2, h⟩
      rcases s.dic e1 e0 e2 rd with ⟨kv, k', f1, rfl, rfl, f2⟩ | ⟨kv, b, f1, rfl, f2, f3, f4⟩
      · have q := f2.val k'
        cases hd : dval kvs (kD k') with
        | some d =>
          rw [hd] at q h
          obtain ⟨u, q, r⟩ := q
          have hl : kv.length < sizeLine := by rw [← Paired.length f2]; exact lim_lt hlm
          exact ⟨a, _, z, rfl, rfl, .inl ⟨kv, k', f1, rfl, hl, (fun v hv => by rw [q] at hv; cases hv; exact h.out s r), fun hn => by rw [q] at hn; cases hn⟩⟩
        | none =>
          rw [hd] at q
          obtain ⟨hl, h⟩ := put hd
          obtain ⟨nx, s2⟩ := wrS s e0 e1 f1 (f2.put k' re)
          exact ⟨a, _, z, rfl, rfl, .inl ⟨kv, k', f1, rfl, by rw [← Paired.length f2]; exact lim_lt hl, (fun v hv => by rw [show valV kv k' = none from q] at hv; cases hv), fun _ => h z μ _ nx s2 (re.mono nx)⟩⟩
      · have q := f4.val d
        cases hd : dval kvs d with
        | some d' =>
          rw [hd] at q h
          obtain ⟨u, q, r⟩ := q
          have hl : kv.length < sizeLine := by rw [← Paired.length f4]; exact lim_lt hlm
          exact ⟨a, _, z, rfl, rfl, .inr ⟨kv, d, b, f1, rfl, f2, f3, hl, (fun v hv => by rw [q] at hv; cases hv; exact h.out s r), fun hn => by rw [q] at hn; cases hn⟩⟩
        | none =>
          rw [hd] at q
          obtain ⟨hl, h⟩ := put hd
          refine ⟨a, _, z, rfl, rfl, .inr ⟨kv, d, b, f1, rfl, f2, f3, by rw [← Paired.length f4]; exact lim_lt hl, (fun v hv => by rw [show valV kv d = none from q] at hv; cases hv), fun _ o e' => ?_⟩⟩
          obtain ⟨nx, s2⟩ := wrT s e0 e1 f1 e' (f4.put d re)
          exact h z μ _ nx s2 (re.mono nx)
    | _ => exact False.elim h
  | _ => cases hm
theorem mthOf2_nm {x : Str} {m : Mth} (h : mthOf2 x = some m) : mthNm m = x ∧ m.isL = false := by
  unfold mthOf2 at h
  repeat' (split at h)
  all_goals first
    | (rename_i e; cases h; rw [e]; exact ⟨rfl, rfl⟩)
    | cases h
theorem few_of {es : List Expr} {cpos : Pos} (hs : ∀ e ∈ es, notStar e = true) (hn : es.length < 30) : ((backTo cpos (starEach es X.env)).all (fun x => !x.1) && (backToKw cpos (keywordEach [] X.env)).all (fun x => x.1.isSome) && decide (es.length + ([] : List Keyword).length + (if ([] : List Keyword).isEmpty then 0 else 1) < 30)) = true := by
  rw [star_all hs, decide_eq_true (show es.length + ([] : List Keyword).length + (if ([] : List Keyword).isEmpty then 0 else 1) < 30 from hn)]
  rfl
/-- arguments, then what is done with them -/
theorem args_then {ms : List Ex} {env : Env} {S : Store} {μ : List Addr} {H : Hp} {σ : L2.St} {Q : VK} {f : List D → M D} {R : List V → Hp → Prop} (hE : ER X.K A μ H env σ) (hS : Sto X.K A μ S H) (hc : Cont X.K A W (RV X.K A) σ μ H ((evs G ms env >>= f) S) Q)
    (hR : ∀ ds vs μ' H' S', Nx μ H μ' H' → Sto X.K A μ' S' H' → RVs X.K A μ' H' ds vs → ds.length = ms.length → Cont X.K A W (RV X.K A) σ μ' H' (f ds S') Q → R vs H') : uA X.K A W (evs G ms) σ H R := by
  refine ⟨env, S, μ, hE, hS, ?_⟩
  have hc2 := Cont.bnd (R1 := RVs X.K A) hc
  cases el : evs G ms env S with
  | ok ds S' =>
    rw [el] at hc2
    intro vs μ' H' n s r
    refine hR ds vs μ' H' S' n s r (evs_len el) ?_
    have : Cont X.K A W (RV X.K A) σ μ H (M.bnd (evs G ms env) f S) Q := hc
    unfold M.bnd at this
    rw [el] at this
    exact Cont.trans n this
  | er x S' => rw [el] at hc2; exact hc2
  | no => rw [el] at hc2; exact hc2
theorem ok_mth2 (F : Fits A G Γ X W) {o e e2 : Expr} {n : Ex} {ms : List Ex} {m : Mth} (hm : m.isL = false) {apos cpos : Pos} (ho : PE X o (uE X.K A W (ev G n))) (he : Oks X A G W [e, e2] ms) (hb : notSup o = true) (hl : (apos.endLine == cpos.line) = true) :
    Ok X A G W (.Call (.Attribute o (mthNm m) apos) [e, e2] [] cpos) (.mth m n ms) := by
  have few := few_of (X := X) (cpos := cpos) he.star (show 2 < 30 by decide)
  have h1 := he.star e List.mem_cons_self
  have h2 := star_none (env := X.env) (pos := cpos) (es := [e2]) fun x hx => he.star x (List.mem_cons_of_mem _ hx)
  have q : PE X (.Call (.Attribute o (mthNm m) apos) [e, e2] [] cpos) (tBMd A.w X.K (rMth2 A.w X.K m) (uE X.K A W (ev G n)) (uA X.K A W (evs G ms))) := by
    rw [F.w]
    cases m with
    | get => exact pe_bmd PySem.F.slot_dict_get PySem.F.type_dict_get (mt_get F.units) ho (pa_of he) (base_of hb) few hl (star_cons h1) h2
    | setdefault => exact pe_bmd PySem.F.slot_dict_setdefault PySem.F.type_dict_setdefault (mt_setdefault F.units) ho (pa_of he) (base_of hb) few hl (star_cons h1) h2
    | _ => cases hm
  refine truth_of (PE.imp q ?_) fun _ => rfl
  rintro σ H Q ⟨env, S, μ, hE, hS, hc⟩
  refine ⟨env, S, μ, hE, hS, (Cont.bnd hc).to ?_⟩
  rintro v H1 ⟨x, S1, μ1, n1, s1, r1, h1⟩
  obtain ⟨ty, h1⟩ := preD_sv hm s1 r1 h1
  refine ⟨ty, args_then (hE.mono n1) s1 h1 fun ds vs μ' H' S' n' s' r' hl' h' => ?_⟩
  have hl2 : ds.length = 2 := by rw [hl', ← he.len]; rfl
  match ds, hl2, r', h' with
  | [d, d2], _, r', h' =>
    obtain ⟨w, z, rfl, rd, re⟩ := r'.two
    exact mth2_sv m hm s' (r1.mono n') rd re h'
/-! ### fields -/
theorem RF.get {K : PySem.W.Frag} {μ : List Addr} {H : Hp} {f : Str} : ∀ {fs : List (Str × D)} {gs : List (Str × V)}, RF K A μ H fs gs → match fs.lookup f with
    | some d => ∃ v, gs.lookup f = some v ∧ RV K A μ H d v
    | none => gs.lookup f = none
  | _, _, .nil => rfl
  | _, _, .cons (f := g) (d := d) (v := v) (fs := fs) (gs := gs) h r => by
    have ih := RF.get (f := f) r
    by_cases e : (f == g) = true
    · have e1 : ((g, d) :: fs).lookup f = some d := by unfold List.lookup; rw [e]
      have e2 : ((g, v) :: gs).lookup f = some v := by unfold List.lookup; rw [e]
      rw [e1, e2]
      exact ⟨v, rfl, h⟩
    · have e : (f == g) = false := by cases q : (f == g) with | true => exact absurd q e | false => rfl
      have e1 : ((g, d) :: fs).lookup f = fs.lookup f := by rw [List.lookup]; rw [e]
      have e2 : ((g, v) :: gs).lookup f = gs.lookup f := by rw [List.lookup]; rw [e]
      rw [e1, e2]
      exact ih
theorem RF.put {K : PySem.W.Frag} {μ : List Addr} {H : Hp} {f : Str} {d : D} {v : V} (rd : RV K A μ H d v) : ∀ {fs : List (Str × D)} {gs : List (Str × V)}, RF K A μ H fs gs → RF K A μ H (setF fs f d) (L2.putF f v gs)
  | _, _, .nil => .cons rd .nil
  | _, _, .cons (f := g) h r => by
    unfold setF L2.putF
    by_cases e : g = f
    · rw [if_pos e, if_pos e]
      exact .cons rd r
    · rw [if_neg e, if_neg e]
      exact .cons h (RF.put rd r)
theorem RF.length {K : PySem.W.Frag} {μ : List Addr} {H : Hp} : ∀ {fs : List (Str × D)} {gs : List (Str × V)}, RF K A μ H fs gs → fs.length = gs.length
  | _, _, .nil => rfl
  | _, _, .cons _ r => by rw [List.length_cons, List.length_cons, RF.length r]
/-- what a bind over an instance says -/
theorem Cont.getI {γ δ : Type} {R2 : List Addr → Hp → γ → δ → Prop} {σ : L2.St} {n : Nat} {f : Nat × List (Str × D) → M γ} {S : Store} {μ : List Addr} {H : Hp} {Q : δ → Hp → Prop} (s : Sto X.K A μ S H) (h : Cont X.K A W R2 σ μ H ((Mi.getI n >>= f) S) Q) {a : Addr} (e0 : μ[n]? = some a) :
    ∃ c fs dx gs, S[n]? = some (.ins c fs) ∧ H a = some (.ins (A.ca c) dx gs) ∧ RF X.K A μ H fs gs ∧ Cont X.K A W R2 σ μ H (f (c, fs) S) Q := by
  have h : Cont X.K A W R2 σ μ H (M.bnd (Mi.getI n) f S) Q := h
  unfold M.bnd Mi.getI at h
  cases e : S[n]? with
  | none => rw [e] at h; exact h.elim
  | some c =>
    rw [e] at h
    cases c with
    | ins c fs =>
      obtain ⟨dx, gs, g1, g2⟩ := s.cell n _ a e e0
      exact ⟨c, fs, dx, gs, rfl, g1, g2, h⟩
    | _ => exact h.elim
theorem ok_fld (F : Fits A G Γ X W) {o : Expr} {f : Str} {n : Ex} {p : Pos} (ho : PE X o (uE X.K A W (ev G n))) (hb : notSup o = true) (hf : f ∈ Γ.flds) : Ok X A G W (.Attribute o f p) (.fld n f) := by
  refine truth_of (PE.imp (pe_fld ho (base_of hb)) ?_) fun _ => rfl
  rintro σ H Q ⟨env, S, μ, hE, hS, hc⟩
  refine ⟨env, S, μ, hE, hS, (Cont.bnd hc).to ?_⟩
  rintro v H1 ⟨x, S1, μ1, n1, s1, r1, h1⟩
  cases r1 with
  | @ref n a e0 =>
    obtain ⟨c, fs, dx, gs, g1, g2, g3, h1⟩ := Cont.getI s1 h1 e0
    obtain ⟨k1, k2⟩ := F.fld f hf c
    have q := g3.get (f := f)
    cases hd : fs.lookup f with
    | none =>
      have h1 : Cont X.K A W (RV X.K A) σ μ1 H1 (ofO (fs.lookup f) S1) Q := h1
      rw [hd] at h1
      exact h1.elim
    | some d =>
      have h1 : Cont X.K A W (RV X.K A) σ μ1 H1 (ofO (fs.lookup f) S1) Q := h1
      rw [hd] at q h1
      obtain ⟨u, q1, q2⟩ := q
      exact ⟨a, A.ca c, dx, gs, u, rfl, g2, k1, k2, q1, h1.out s1 q2⟩
  | _ => exact False.elim h1
/-! ### methods -/
theorem meth_eval {o : Expr} {m : Str} {apos pos : Pos} {es : List Expr} (hb : notSup o = true) (hl : (apos.endLine == pos.line) = true) (hs : ∀ e ∈ es, notStar e = true) (hn : es.length < 30) : eval (.Call (.Attribute o m apos) es [] pos) X.env = (do
    let ov ← eval o X.env
    standAt apos.atName
    let (f, first) ← holding [ov] (getMethod ov m (do return (← importBound o X.env).getD true))
    callWith pos f first (backTo pos (starEach es X.env)) (backToKw pos (keywordEach [] X.env))) := by
  have form : methodCallForm (es.length + ([] : List Keyword).length) (backTo pos (starEach es X.env)) (backToKw pos (keywordEach [] X.env)) = true := few_of hs hn
  have mp : methodCallPos true o X.env apos pos = pure pos := by
    unfold methodCallPos
    rw [hl]
    rfl
  rw [arm_eval_Call, base_of hb]
  unfold methodCall
  rw [form, mp]
  rfl
def tMethS (C : Addr) (m : Str) (sp : Sp) (E : L2.St → XK) (ta : TE) (t : TA) : TE := fun σ H Q => ta σ H fun x H1 => ∃ a dx fs, x = .ref a ∧ H1 a = some (.ins C dx fs) ∧ fs.lookup m = none ∧ t σ H1 fun vs H2 => sp (x :: vs) H2 Q (E σ)
theorem pe_methS' {k : Nat} {f C : Addr} {fd : FuncData} {ps : List Str} {sp : Sp} {E : L2.St → XK} {o : Expr} {m : Str} {apos pos : Pos} {es : List Expr} {ta : TE} {t : TA} (he : PE X o ta) (c : Cls X.K C) (hm : Meth X.K C m f) (F : FnG X.prog X.w X.K X.mg X.base k f fd ps sp) (gd : X.A.guards = some []) (hr : Room k X.A) (hb : Binds X.K fd ps [])
    (hx : ∀ σ, PassesAt (L2.CX X.prog X.w) X σ (E σ)) (ha : PA X es t) (hs : notSup o = true) (hl : (apos.endLine == pos.line) = true) (st : ∀ e ∈ es, notStar e = true) (hn : es.length < 30) (h0 : es = [] → ∀ σ H Q, t σ H Q → Q [] H) : PE X (.Call (.Attribute o m apos) es [] pos) (tMethS C m sp E ta t) := by
  refine ⟨fun pins s σ H Q I h => ?_⟩
  refine PySem.W.methodCall_KW (thn (he.run pins s σ H _ I h) fun u s1 ⟨x, H1, I1, rx, a, dx, fs, ex, ea, l, q⟩ => ?_) (meth_eval hs hl st hn)
  subst ex
  cases rx
  refine getmeth_ok I1 ea c hm l ?_
  cases es with
  | nil => exact PySem.W.callWith_K0 (first := [.ref a]) I1.kIn hm.kp (run_fnG (us := [.ref a]) (vs := [.ref a]) F gd hr hb (hx σ) I1 (.cons rfl .nil) (h0 rfl _ _ _ q))
  | cons e es =>
    refine PySem.W.callWith_K (first := [.ref a]) (h₀ := X.base) I.ok.mod.kin hm.kp (thn (ha.run pos pins s1 σ H1 _ I1 q) fun us s2 ⟨vs, H2, I2, r, q2⟩ => ⟨I2.kIn, ?_⟩) (star_cons (st e List.mem_cons_self)) (star_none fun x hx => st x (List.mem_cons_of_mem _ hx))
    exact run_fnG (us := .ref a :: us) (vs := .ref a :: vs) F gd hr hb (hx σ) I2 (.cons rfl r) q2
theorem ok_mcl (F : Fits A G Γ X W) {o : Expr} {m : Str} {c i np : Nat} {n : Ex} {es : List Expr} {ms : List Ex} {apos pos : Pos} (hm : Γ.mts.lookup m = some (c, i, np)) (ho : PE X o (uE X.K A W (ev G n))) (he : Oks X A G W es ms) (hb : notSup o = true) (hl : (apos.endLine == pos.line) = true) (hn : es.length = np) (hlt : np < 20) :
    Ok X A G W (.Call (.Attribute o m apos) es [] pos) (.mcl [(c, i)] m n ms) := by
  obtain ⟨k1, k2, k, fd, ps, hr, hbd, hps, FO⟩ := F.mts m c i np hm
  have q := pe_methS' (apos := apos) (pos := pos) (E := WE W) ho k1 k2 FO F.grd hr hbd (fun σ => passAt F.tk σ) (pa_of he) hb hl he.star (by omega) (fun e0 σ H Q h => by
    subst e0
    cases he
    obtain ⟨env, S, μ, hE, hS, h⟩ := h
    exact Cont.out (v := ([] : List V)) h hS .nil)
  refine truth_of (PE.imp q ?_) fun _ => rfl
  rintro σ H Q ⟨env, S, μ, hE, hS, hc⟩
  refine ⟨env, S, μ, hE, hS, (Cont.bnd hc).to ?_⟩
  rintro v H1 ⟨x, S1, μ1, n1, s1, r1, h1⟩
  cases r1 with
  | @ref nn a e0 =>
    have h1 : Cont X.K A W (RV X.K A) σ μ1 H1 (((Mi.getI nn >>= fun p => M.need (p.2.lookup m).isNone) >>= fun _ => whose [(c, i)] (.ref nn) >>= fun i => evs G ms env >>= fun ds => G.call i (.ref nn :: ds)) S1) Q := h1
    rw [bnd_assoc] at h1
    obtain ⟨c', fs, dx, gs, g1, g2, g3, h1⟩ := Cont.getI s1 h1 e0
    obtain ⟨h0, h1⟩ := Cont.need h1
    have h1 : Cont X.K A W (RV X.K A) σ μ1 H1 (((Mi.getI nn >>= fun p => ofO (([(c, i)] : List (Nat × Nat)).lookup p.1)) >>= fun i => evs G ms env >>= fun ds => G.call i (.ref nn :: ds)) S1) Q := h1
    rw [bnd_assoc] at h1
    obtain ⟨c2, fs2, dx2, gs2, f1, f2, f3, h1⟩ := Cont.getI s1 h1 e0
    rw [g1] at f1
    cases f1
    obtain ⟨i', hi, h5⟩ := Cont.ofO h1
    clear h1
    have hci : c' = c ∧ i' = i := by
      have hi : ([(c, i)] : List (Nat × Nat)).lookup c' = some i' := hi
      unfold List.lookup at hi
      split at hi
      · rename_i h
        cases hi
        exact ⟨beq_iff_eq.mp h, rfl⟩
      · cases hi
    obtain ⟨rfl, rfl⟩ := hci
    have hnone : gs.lookup m = none := by
      have q := g3.get (f := m)
      cases hd : fs.lookup m with
      | none => rw [hd] at q; exact q
      | some d => rw [hd] at h0; cases h0
    refine ⟨a, dx, gs, rfl, g2, hnone, args_then (hE.mono n1) s1 h5 fun ds vs μ' H' S' n' s' r' hl' h' => ?_⟩
    exact uSp_of (by rw [List.length_cons, hl', ← he.len, hn]) (.cons (.ref (n'.at e0)) r') s' h'
  | _ => exact False.elim h1
/-! ### new ones -/
theorem run_makeS {k : Nat} {f C : Addr} {fd : FuncData} {ps : List Str} {sp : Sp} {E : L2.St → XK} {pins : List (Addr × Obj)} {σ : L2.St} {H : Hp} {s : Shared} {Q : VK} {us : List Value} {vs : List V} (M : Mk X.K C f) (F : FnG X.prog X.w X.K X.mg X.base k f fd ps sp) (gd : X.A.guards = some []) (hr : Room (k + 1) X.A) (hb : Binds X.K fd ps [])
    (hx : PassesAt (L2.CX X.prog X.w) X σ (E σ)) (I : Inv X pins σ H s) (r : Vals vs us)
    (h : ∀ x dx, H x = none → H dx = none → dx ≠ x → sp (.ref x :: vs) (upd (upd H dx (.own x)) x (.ins C dx [])) (fun v H2 => v = .non ∧ Q (.ref x) H2) (E σ)) :
    wpAny (model X.prog X.w) X.A (call (.ref C) us) (EP X pins σ Q) X.xe s := by
  have hq := h (s.heap.objs.size + 1) s.heap.objs.size (I.hok.fresh (Nat.le_succ _)) (I.hok.fresh (Nat.le_refl _)) (Nat.ne_of_lt (Nat.lt_succ_self _))
  have I2 := Inv.made (C := C) I
  have r2 : Vals (V.ref (s.heap.objs.size + 1) :: vs) (Value.ref (s.heap.objs.size + 1) :: us) := .cons rfl r
  have hl : (Value.ref (s.heap.objs.size + 1) :: us ++ []).length = ps.length := by
    have e := r2.length
    rw [F.len _ _ _ _ hq] at e
    rw [List.append_nil]
    exact e.symm
  have hbb := hb _ (Value.ref (s.heap.objs.size + 1) :: us) I2.kIn hl
  rw [List.append_nil] at hbb
  refine wpAny_call (make_map (f := f) I.kIn M.makes M.init (beq_iff_eq.mp M.fn) (codeAny_mono (F.run _ X.stack _ _ ⟨Value.ref (s.heap.objs.size + 1) :: us, []⟩ _ _ _ (E σ) (guards_make gd C us []) (hr.make C us []) (I2.env0.make C us []) hbb r2 hq) fun r s' hq' => ?_))
  cases r with
  | error e => exact hx pins _ _ e s' I2 hq'
  | ok fl =>
    cases fl with
    | ret u =>
      obtain ⟨v, H', I3, rv, ev, q3⟩ := I2.after hq'
      subst ev
      exact ⟨rv, ⟨V.ref (s.heap.objs.size + 1), H', I3, rfl, q3⟩⟩
    | next => exact False.elim hq'
    | brk => exact False.elim hq'
    | cont => exact False.elim hq'
def tMakeS (C : Addr) (sp : Sp) (E : L2.St → XK) (t : TA) : TE := fun σ H Q => t σ H fun vs H1 => ∀ x dx, H1 x = none → H1 dx = none → dx ≠ x → sp (.ref x :: vs) (upd (upd H1 dx (.own x)) x (.ins C dx [])) (fun v H2 => v = .non ∧ Q (.ref x) H2) (E σ)
theorem pe_makeS' {k : Nat} {f C : Addr} {fd : FuncData} {ps : List Str} {sp : Sp} {E : L2.St → XK} {x : Str} {p pos : Pos} {es : List Expr} {t : TA} (M : Mk X.K C f) (F : FnG X.prog X.w X.K X.mg X.base k f fd ps sp) (gd : X.A.guards = some []) (hr : Room (k + 1) X.A) (hg : Gl X x) (hm : X.mg x = some (.ref C)) (hb : Binds X.K fd ps [])
    (hx : ∀ σ, PassesAt (L2.CX X.prog X.w) X σ (E σ)) (ha : PA X es t) (hdb : (x == ("__debug__" : Str)) = false) (st : ∀ e ∈ es, notStar e = true) (h0 : es = [] → ∀ σ H Q, t σ H Q → Q [] H) : PE X (.Call (.Name x p) es [] pos) (tMakeS C sp E t) := by
  refine ⟨fun pins s σ H Q I h => ?_⟩
  refine wpAny_Call_Name_kw (ld_glob I hg hm ?_ hdb)
  cases es with
  | nil => exact PySem.W.callWith_K0 I.kIn M.kp (run_makeS (us := []) M F gd hr hb (hx σ) I .nil (h0 rfl _ _ _ h))
  | cons e es =>
    refine PySem.W.callWith_K (h₀ := X.base) I.ok.mod.kin M.kp (thn (ha.run pos pins s σ H _ I h) fun us s1 ⟨vs, H1, I1, r, q⟩ => ⟨I1.kIn, ?_⟩) (star_cons (st e List.mem_cons_self)) (star_none fun x hx => st x (List.mem_cons_of_mem _ hx))
    exact run_makeS M F gd hr hb (hx σ) I1 r q
theorem ok_mk (F : Fits A G Γ X W) {x : Str} {c i np : Nat} {es : List Expr} {ms : List Ex} {p pos : Pos} (hg : isGl Γ.sc x = true) (hp : plainNm x = true) (hf : Γ.glob.lookup x = some (.cl c i np)) (hn : ms.length = np) (he : Oks X A G W es ms) : Ok X A G W (.Call (.Name x p) es [] pos) (.mk c i ms) := by
  obtain ⟨hm, mk0, k, fd, ps, hr, hb, hps, FO⟩ := F.cls x c i np hf
  have q := pe_makeS' (p := p) (pos := pos) (E := WE W) mk0 FO F.grd hr (F.gl hg) hm hb (fun σ => passAt F.tk σ) (pa_of he) (plain_of hp).1 he.star (fun e0 σ H Q h => by
    subst e0
    cases he
    obtain ⟨env, S, μ, hE, hS, h⟩ := h
    exact Cont.out (v := ([] : List V)) h hS .nil)
  refine truth_of (PE.imp q ?_) fun _ => rfl
  rintro σ H Q ⟨env, S, μ, hE, hS, hc⟩
  refine args_then hE hS hc fun ds vs μ' H' S' n' s' r' hl' h' => ?_
  intro y dx hy hdx ne
  have h' : Cont X.K A W (RV X.K A) σ μ' H' ((G.call i (.ref S'.length :: ds) >>= fun d => isNon d >>= fun _ => M.ret (D.ref S'.length)) (S' ++ [.ins c []])) Q := h'
  have n1 : Nx μ' H' μ' (upd H' dx (.own y)) := Nx.newT hdx
  have s1 : Sto X.K A μ' S' (upd H' dx (.own y)) := s'.newT hdx
  have hy1 : upd H' dx (.own y) y = none := by rw [upd_ne (Ne.symm ne)]; exact hy
  have n2 : Nx μ' (upd H' dx (.own y)) (μ' ++ [y]) (upd (upd H' dx (.own y)) y (.ins (A.ca c) dx [])) := Nx.newC hy1
  have s2 : Sto X.K A (μ' ++ [y]) (S' ++ [.ins c []]) (upd (upd H' dx (.own y)) y (.ins (A.ca c) dx [])) := s1.newC hy1 ⟨dx, [], upd_same, .nil⟩
  have nn := n1.trans n2
  have e0 : (μ' ++ [y])[S'.length]? = some y := by
    rw [← s'.len, List.getElem?_append_right (Nat.le_refl _), Nat.sub_self]
    rfl
  refine uSp_of (by rw [List.length_cons, hl', hn]) (.cons (.ref e0) (r'.mono nn)) s2 ((Cont.bnd (Cont.trans nn h')).to ?_)
  rintro v H3 ⟨d, S3, μ3, n3, s3, r3, h3⟩
  cases r3 with
  | non => exact ⟨rfl, Cont.out h3 s3 (.ref (n3.at e0))⟩
  | _ => exact False.elim h3
end
end Mi

/-! Mi, part K: targets, sources of loops, comprehensions. -/
namespace Mi
open PySem PySem.Spec PyProof.Rows L2
section
variable {X : Cx} {A : Adr} {G : Gen} {Γ : Gam} {W : WX}

/-! ### targets -/
def gNames : List Nat → TGs
  | [] => gNil
  | i :: is => gCons (gName i) (gNames is)
def gOf (K : PySem.W.Frag) : Tg → TG
  | .v i => gName i
  | .t is => fun v σ H Q => gTup K is.length (gNames is) v σ H Q ∨ gLst K is.length (gNames is) v σ H Q
theorem PG.or {X : Cx} {e : Expr} {g g' : TG} (h : PG X e g) (h' : PG X e g') : PG X e (fun v σ H Q => g v σ H Q ∨ g' v σ H Q) := ⟨fun pins s σ H v u Q I r q => q.elim (h.run pins s σ H v u Q I r) (h'.run pins s σ H v u Q I r)⟩
theorem pg_one (F : Fits A G Γ X W) {e : Expr} {i : Nat} (h : cTg1 Γ e = some i) : ∃ x p, e = .Name x p ∧ PG X e (gName i) := by
  cases e with
  | Name x p =>
    unfold cTg1 at h
    simp only at h
    split at h
    · rename_i hc
      rw [Bool.and_eq_true, Bool.or_eq_true] at hc
      refine ⟨x, p, rfl, pg_name (by rw [F.N]; exact F.nd) (by rw [F.N]; exact ixOf_get h) (F.loc hc.1) ?_⟩
      rcases hc.2 with q | q
      · exact .inl (F.fn x q)
      · refine .inr ?_
        rw [F.sc]
        exact of_decide_eq_true q
    · cases h
  | _ => cases h
theorem pgs_of (F : Fits A G Γ X W) : ∀ {es : List Expr} {is : List Nat}, optAll (cTg1 Γ) es = some is → PGs X es (gNames is) ∧ (assignEach es X.env).length = is.length ∧ (assignEach es X.env).findIdx? (·.1) = none
  | [], is, h => by cases h; exact ⟨pgs_nil, rfl, rfl⟩
  | e :: es, is, h => by
    unfold optAll at h
    split at h
    · rename_i i js e1 e2
      cases h
      obtain ⟨x, p, rfl, g⟩ := pg_one F e1
      obtain ⟨h1, h2, h3⟩ := pgs_of F e2
      refine ⟨pgs_cons g h1 rfl, ?_, ?_⟩
      · show (assignEach es X.env).length + 1 = _
        rw [h2]
        rfl
      · show ((false, assign (.Name x p) X.env) :: assignEach es X.env).findIdx? (·.1) = none
        rw [List.findIdx?_cons, h3]
        rfl
    · cases h
theorem pg_of (F : Fits A G Γ X W) {e : Expr} {t : Tg} (h : cTg Γ e = some t) : PG X e (gOf X.K t) := by
  cases e with
  | Name x p =>
    unfold cTg at h
    simp only [Option.map_eq_some_iff] at h
    obtain ⟨i, hi, rfl⟩ := h
    obtain ⟨_, _, _, g⟩ := pg_one F hi
    exact g
  | Tuple es k p =>
    unfold cTg at h
    simp only [Option.map_eq_some_iff] at h
    obtain ⟨is, hi, rfl⟩ := h
    obtain ⟨h1, h2, h3⟩ := pgs_of F hi
    exact PG.or (pg_tup F.calm h1 h2 h3) (pg_lst F.calm h1 h2 h3)
  | _ => cases h
def setV : List Nat → List V → L2.St → L2.St
  | i :: is, v :: vs, σ => setV is vs (σ.set i (some v))
  | _, _, σ => σ
theorem gNames_sv {K : PySem.W.Frag} {μ : List Addr} {H : Hp} : ∀ {is : List Nat} {ds : List D} {vs : List V} {env : Env} {σ : L2.St} {Q : L2.St → Hp → Prop}, ds.length = is.length → RVs K A μ H ds vs → ER K A μ H env σ →
    (ER K A μ H (setAll is ds env) (setV is vs σ) → Q (setV is vs σ) H) → gNames is vs σ H Q
  | [], [], _, env, σ, Q, _, .nil, hE, q => ⟨rfl, q hE⟩
  | i :: is, d :: ds, _, env, σ, Q, hl, .cons r rs, hE, q => ⟨_, _, rfl, gNames_sv (is := is) (by simpa using hl) rs (hE.set i r) q⟩
  | [], _ :: _, _, _, _, _, hl, _, _, _ => by cases hl
  | _ :: _, [], _, _, _, _, hl, _, _, _ => by cases hl
/-- what the slots are behind a target -/
inductive TgV (K : PySem.W.Frag) (H : Hp) : Tg → V → L2.St → L2.St → Prop where
  | v (i : Nat) (x : V) (σ : L2.St) : TgV K H (.v i) x σ (σ.set i (some x))
  | t (is : List Nat) (a : Addr) (vs : List V) (σ : L2.St) : vs.length = is.length → TgV K H (.t is) (.ref a) σ (setV is vs σ)
theorem tg_sv {K : PySem.W.Frag} {μ : List Addr} {H : Hp} {t : Tg} {d : D} {v : V} {env env' : Env} {σ : L2.St} {S S' : Store} {Q : L2.St → Hp → Prop} (s : Sto K A μ S H) (r : RV K A μ H d v) (hE : ER K A μ H env σ) (h : t.bind d env S = .ok env' S')
    (q : ∀ σ', TgV K H t v σ σ' → ER K A μ H env' σ' → Q σ' H) : S' = S ∧ gOf K t v σ H Q := by
  cases t with
  | v i =>
    cases h
    exact ⟨rfl, q _ (.v i v σ) (hE.set i r)⟩
  | t is =>
    cases r with
    | @tup ds a vs g rs =>
      have h : (M.need (decide (ds.length = is.length)) >>= fun _ => M.ret (setAll is ds env)) S = .ok env' S' := h
      by_cases hl : ds.length = is.length
      · rw [decide_eq_true hl] at h
        cases h
        exact ⟨rfl, .inl ⟨a, vs, rfl, g.sq, by rw [← rs.length, hl], gNames_sv hl rs hE fun e => q _ (.t is a vs σ (by rw [← rs.length, hl])) e⟩⟩
      · rw [decide_eq_false hl] at h
        cases h
    | @ref n a e0 =>
      have h : M.bnd (getL n) (fun ds => M.need (decide (ds.length = is.length)) >>= fun _ => M.ret (setAll is ds env)) S = .ok env' S' := h
      unfold M.bnd getL at h
      have key : ∀ ds, (S[n]? = some (.lst ds) ∨ S[n]? = some (.frz ds)) → (M.need (decide (ds.length = is.length)) >>= fun _ => M.ret (setAll is ds env)) S = .ok env' S' → S' = S ∧ gOf K (.t is) (.ref a) σ H Q := by
        intro ds hc h
        obtain ⟨vs, g, rs⟩ : ∃ vs, SqL K H a vs ∧ RVs K A μ H ds vs := by
          rcases hc with hc | hc
          · obtain ⟨vs, h1, h2⟩ := s.cell n _ a hc e0
            exact ⟨vs, .inl (.inl h1), h2⟩
          · obtain ⟨vs, h1, h2⟩ := s.cell n _ a hc e0
            exact ⟨vs, h1.sq, h2⟩
        by_cases hl : ds.length = is.length
        · rw [decide_eq_true hl] at h
          cases h
          exact ⟨rfl, .inr ⟨a, vs, rfl, g, by rw [← rs.length, hl], gNames_sv hl rs hE fun e => q _ (.t is a vs σ (by rw [← rs.length, hl])) e⟩⟩
        · rw [decide_eq_false hl] at h
          cases h
      cases hc : S[n]? with
      | none => rw [hc] at h; cases h
      | some c =>
        rw [hc] at h
        cases c with
        | lst ds => exact key ds (.inl hc) h
        | frz ds => exact key ds (.inr hc) h
        | _ => cases h
    | _ => cases h
theorem bind_er {t : Tg} {d : D} {env : Env} {S : Store} (e : Exn) (S' : Store) : t.bind d env S ≠ .er e S' := by
  cases t with
  | v i => intro h; cases h
  | t is =>
    cases d with
    | tup ds =>
      show (M.need (decide (ds.length = is.length)) >>= fun _ => M.ret (setAll is ds env)) S ≠ _
      cases decide (ds.length = is.length) <;> (intro h; cases h)
    | ref r =>
      show M.bnd (getL r) (fun ds => M.need (decide (ds.length = is.length)) >>= fun _ => M.ret (setAll is ds env)) S ≠ _
      unfold M.bnd getL
      cases S[r]? with
      | none => intro h; cases h
      | some c =>
        cases c with
        | lst ds => show (M.need (decide (ds.length = is.length)) >>= fun _ => M.ret (setAll is ds env)) S ≠ _; cases decide (ds.length = is.length) <;> (intro h; cases h)
        | frz ds => show (M.need (decide (ds.length = is.length)) >>= fun _ => M.ret (setAll is ds env)) S ≠ _; cases decide (ds.length = is.length) <;> (intro h; cases h)
        | _ => intro h; cases h
    | _ => intro h; cases h
theorem wipe_set {σ : L2.St} {i : Nat} {x : Option V} : ∀ {vs : List Nat}, i ∈ vs → wipe (σ.set i x) vs = wipe σ vs
  | [], h => by cases h
  | v :: vs, h => by
    unfold wipe
    by_cases e : i ∈ vs
    · rw [wipe_set e]
    · have ev : i = v := by
        rcases List.mem_cons.mp h with q | q
        · exact q
        · exact absurd q e
      subst ev
      have key : ∀ (us : List Nat), i ∉ us → wipe (σ.set i x) us = (wipe σ us).set i x := by
        intro us
        induction us with
        | nil => intro _; rfl
        | cons u us ih =>
          intro hn
          have h1 : i ≠ u := fun z => hn (by rw [z]; exact List.mem_cons_self)
          unfold wipe
          rw [ih fun z => hn (List.mem_cons_of_mem _ z), List.set_comm _ _ h1]
      rw [key vs e, List.set_set]
theorem wipe_setV {vs : List Nat} : ∀ {is : List Nat} {xs : List V} {σ : L2.St}, (∀ i ∈ is, i ∈ vs) → wipe (setV is xs σ) vs = wipe σ vs
  | [], _, _, _ => by unfold setV; rfl
  | _ :: _, [], _, _ => by unfold setV; rfl
  | i :: is, x :: xs, σ, h => by
    unfold setV
    rw [wipe_setV fun j hj => h j (List.mem_cons_of_mem _ hj), wipe_set (h i List.mem_cons_self)]
theorem TgV.wipe {K : PySem.W.Frag} {H : Hp} {t : Tg} {v : V} {σ σ' : L2.St} {vs : List Nat} (h : TgV K H t v σ σ') (hi : ∀ i ∈ t.ixs, i ∈ vs) : L2.wipe σ' vs = L2.wipe σ vs := by
  cases h with
  | v i x => exact wipe_set (hi i List.mem_cons_self)
  | t is a xs _ hl => exact wipe_setV hi
theorem wipe_wipe {σ : L2.St} : ∀ {us vs : List Nat}, (∀ i ∈ us, i ∈ vs) → L2.wipe (L2.wipe σ us) vs = L2.wipe σ vs
  | [], vs, _ => rfl
  | u :: us, vs, h => by
    show L2.wipe ((L2.wipe σ us).set u none) vs = _
    rw [wipe_set (h u List.mem_cons_self), wipe_wipe fun i hi => h i (List.mem_cons_of_mem _ hi)]

/-! ### sources of loops -/
theorem pi_seq {tg e : Expr} {m : Ex} (h : PE X e (uE X.K A W (ev G m))) : PI X tg e (uI X.K A W (evi G (.seq m))) := by
  refine PI.imp (PI.or (pi_tup h) (PI.or (pi_list h) (pi_str h))) ?_
  rintro σ H R ⟨env, S, μ, hE, hS, hc⟩
  have hc : Cont X.K A W (SrcIt X.K A) σ μ H ((ev G m env >>= fun d => srcOf d) S) R := hc
  have h2 := Cont.bnd (R1 := RV X.K A) hc
  cases el : ev G m env S with
  | er x S' =>
    rw [el] at h2
    exact .inl ⟨env, S, μ, hE, hS, by rw [el]; exact h2⟩
  | no => rw [el] at h2; exact h2.elim
  | ok d S' =>
    rw [el] at h2
    have h3 : Cont X.K A W (SrcIt X.K A) σ μ H (srcOf d S') R := by
      have : Cont X.K A W (SrcIt X.K A) σ μ H (M.bnd (ev G m env) (fun d => srcOf d) S) R := hc
      unfold M.bnd at this
      rw [el] at this
      exact this
    cases d with
    | tup ds =>
      refine .inl ⟨env, S, μ, hE, hS, ?_⟩
      rw [el]
      intro v μ' H' n s r
      cases r with
      | @tup _ a vs q rs => exact ⟨a, rfl, ⟨vs, q.sq⟩, (Cont.trans n h3) _ _ _ Nx.refl s (src_tup q rs)⟩
    | ref r =>
      refine .inr (.inl ⟨env, S, μ, hE, hS, ?_⟩)
      rw [el]
      intro v μ' H' n s rv
      cases rv with
      | @ref _ a e0 =>
        obtain ⟨ds, vs, g1, g2, h4, _⟩ := Cont.getL s (Cont.trans n h3) e0
        exact ⟨a, rfl, ⟨vs, g1⟩, h4 _ _ _ Nx.refl s (src_cell e0)⟩
    | str z =>
      refine .inr (.inr ⟨env, S, μ, hE, hS, ?_⟩)
      rw [el]
      intro v μ' H' n s r
      cases r with
      | str => exact ⟨z, rfl, (Cont.trans n h3) _ _ _ Nx.refl s src_str⟩
    | _ => exact False.elim h3
theorem in62_of {i : Int} (h : in62 i = true) : -(2 ^ 62) ≤ i ∧ i < 2 ^ 62 := of_decide_eq_true h
theorem pi_rng1 (F : Fits A G Γ X W) {tg a : Expr} {ms : List Ex} {p pos : Pos} (hg : isGl Γ.sc "range" = true) (hb : ("range" : Str) ∈ Γ.blts) (h : Oks X A G W [a] ms) : PI X tg (.Call (.Name "range" p) [a] [] pos) (uI X.K A W (evi G (.rng ms))) := by
  have h1 := h.star a List.mem_cons_self
  refine PI.imp (pi_range1 (F.gl hg) (F.blt _ hb) (pa_of h) (by rw [star_cons h1]; rfl)) ?_
  have hlen := h.len
  rintro σ H R ⟨env, S, μ, hE, hS, hc⟩
  have hc : Cont X.K A W (SrcIt X.K A) σ μ H ((evs G ms env >>= fun ds => rngM ds) S) R := hc
  refine ⟨env, S, μ, hE, hS, ?_⟩
  have h2 := Cont.bnd (R1 := RVs X.K A) hc
  cases el : evs G ms env S with
  | er x S' => rw [el] at h2; exact h2
  | no => rw [el] at h2; exact h2
  | ok ds S' =>
    rw [el] at h2
    intro vs μ' H' n s r
    have h3 : Cont X.K A W (SrcIt X.K A) σ μ' H' (rngM ds S') R := by
      have : Cont X.K A W (SrcIt X.K A) σ μ H (M.bnd (evs G ms env) (fun ds => rngM ds) S) R := hc
      unfold M.bnd at this
      rw [el] at this
      exact Cont.trans n this
    have hl := evs_len el
    rw [← hlen] at hl
    match ds, hl, r, h3 with
    | [d], _, r, h3 =>
      obtain ⟨v, rfl, r1⟩ := r.one
      cases r1 with
      | int j =>
        obtain ⟨h0, h3⟩ := Cont.need h3
        obtain ⟨q1, q2⟩ := in62_of h0
        exact ⟨j, rfl, q1, q2, h3 _ _ _ Nx.refl s (src_rng (by rw [Int.sub_zero]))⟩
      | _ => exact False.elim h3
theorem pi_rng2 (F : Fits A G Γ X W) {tg a b : Expr} {ms : List Ex} {p pos : Pos} (hg : isGl Γ.sc "range" = true) (hb : ("range" : Str) ∈ Γ.blts) (h : Oks X A G W [a, b] ms) : PI X tg (.Call (.Name "range" p) [a, b] [] pos) (uI X.K A W (evi G (.rng ms))) := by
  have h1 := h.star a List.mem_cons_self
  have h2 := h.star b (List.mem_cons_of_mem _ List.mem_cons_self)
  refine PI.imp (pi_range2 (F.gl hg) (F.blt _ hb) (pa_of h) (by rw [star_cons h1, star_cons h2]; rfl) (by rw [star_cons h2]; rfl)) ?_
  have hlen := h.len
  rintro σ H R ⟨env, S, μ, hE, hS, hc⟩
  have hc : Cont X.K A W (SrcIt X.K A) σ μ H ((evs G ms env >>= fun ds => rngM ds) S) R := hc
  refine ⟨env, S, μ, hE, hS, ?_⟩
  have h2 := Cont.bnd (R1 := RVs X.K A) hc
  cases el : evs G ms env S with
  | er x S' => rw [el] at h2; exact h2
  | no => rw [el] at h2; exact h2
  | ok ds S' =>
    rw [el] at h2
    intro vs μ' H' n s r
    have h3 : Cont X.K A W (SrcIt X.K A) σ μ' H' (rngM ds S') R := by
      have : Cont X.K A W (SrcIt X.K A) σ μ H (M.bnd (evs G ms env) (fun ds => rngM ds) S) R := hc
      unfold M.bnd at this
      rw [el] at this
      exact Cont.trans n this
    have hl := evs_len el
    rw [← hlen] at hl
    match ds, hl, r, h3 with
    | [d, e], _, r, h3 =>
      obtain ⟨v, u, rfl, r1, r2⟩ := r.two
      cases r1 with
      | int i =>
        cases r2 with
        | int j =>
          obtain ⟨h0, h3⟩ := Cont.need h3
          rw [Bool.and_eq_true] at h0
          obtain ⟨q1, q2⟩ := in62_of h0.1
          obtain ⟨q3, q4⟩ := in62_of h0.2
          exact ⟨i, j, rfl, ⟨q1, q2, q3, q4⟩, h3 _ _ _ Nx.refl s (src_rng rfl)⟩
        | _ => exact False.elim h3
      | _ => cases e <;> exact False.elim h3
theorem pi_rng3 (F : Fits A G Γ X W) {tg a b c : Expr} {ms : List Ex} {p pos : Pos} (hg : isGl Γ.sc "range" = true) (hb : ("range" : Str) ∈ Γ.blts) (h : Oks X A G W [a, b, c] ms) : PI X tg (.Call (.Name "range" p) [a, b, c] [] pos) (uI X.K A W (evi G (.rng ms))) := by
  have h1 := h.star a List.mem_cons_self
  have h2 := h.star b (List.mem_cons_of_mem _ List.mem_cons_self)
  have h3 := h.star c (List.mem_cons_of_mem _ (List.mem_cons_of_mem _ List.mem_cons_self))
  refine PI.imp (pi_range3 (F.gl hg) (F.blt _ hb) (pa_of h) (by rw [star_cons h1]) (by rw [star_cons h2, star_cons h3]; rfl)) ?_
  have hlen := h.len
  rintro σ H R ⟨env, S, μ, hE, hS, hc⟩
  have hc : Cont X.K A W (SrcIt X.K A) σ μ H ((evs G ms env >>= fun ds => rngM ds) S) R := hc
  refine ⟨env, S, μ, hE, hS, ?_⟩
  have h2 := Cont.bnd (R1 := RVs X.K A) hc
  cases el : evs G ms env S with
  | er x S' => rw [el] at h2; exact h2
  | no => rw [el] at h2; exact h2
  | ok ds S' =>
    rw [el] at h2
    intro vs μ' H' n s r
    have h3 : Cont X.K A W (SrcIt X.K A) σ μ' H' (rngM ds S') R := by
      have : Cont X.K A W (SrcIt X.K A) σ μ H (M.bnd (evs G ms env) (fun ds => rngM ds) S) R := hc
      unfold M.bnd at this
      rw [el] at this
      exact Cont.trans n this
    have hl := evs_len el
    rw [← hlen] at hl
    match ds, hl, r, h3 with
    | [d, e, f], _, r, h3 =>
      obtain ⟨v, u, w, rfl, r1, r2, r3⟩ := r.three
      cases r1 with
      | int i =>
        cases r2 with
        | int j =>
          cases r3 with
          | int c =>
            obtain ⟨h0, h4⟩ := Cont.need h3
            rw [Bool.and_eq_true, Bool.and_eq_true] at h0
            have ec := of_decide_eq_true h0.1
            subst ec
            obtain ⟨q1, q2⟩ := in62_of h0.2.1
            obtain ⟨q3, q4⟩ := in62_of h0.2.2
            exact ⟨i, j, -1, _, rfl, RgC.neg q1 q2 q3 q4, h4 _ _ _ Nx.refl s src_rngDn⟩
          | _ => exact False.elim h3
        | _ => cases f <;> exact False.elim h3
      | _ => cases e <;> cases f <;> exact False.elim h3
theorem pi_enuU (F : Fits A G Γ X W) {a : Expr} {m : Ex} {p pos tpos : Pos} {elts : List Expr} {kk : Nat} (hg : isGl Γ.sc "enumerate" = true) (hb : ("enumerate" : Str) ∈ Γ.blts) (hs : notStar a = true) (h : PE X a (uE X.K A W (ev G m))) :
    PI X (.Tuple elts kk tpos) (.Call (.Name "enumerate" p) [a] [] pos) (uI X.K A W (evi G (.enu m))) := by
  refine PI.imp (pi_enum (F.gl hg) (F.blt _ hb) (pa_of (.cons hs h .nil)) (by rw [star_cons hs]; rfl)) ?_
  rintro σ H R ⟨env, S, μ, hE, hS, hc⟩
  have hc : Cont X.K A W (SrcIt X.K A) σ μ H ((ev G m env >>= fun d => enuOf d) S) R := hc
  refine ⟨env, S, μ, hE, hS, ?_⟩
  have e1 : evs G [m] env = ev G m env >>= fun d => M.ret [d] := rfl
  rw [e1]
  have h2 := Cont.bnd (R1 := RV X.K A) hc
  show Cont X.K A W (RVs X.K A) σ μ H (M.bnd (ev G m env) (fun d => M.ret [d]) S) _
  unfold M.bnd
  cases el : ev G m env S with
  | er x S' => rw [el] at h2; exact h2
  | no => rw [el] at h2; exact h2
  | ok d S' =>
    rw [el] at h2
    intro vs μ' H' n s r
    have h3 : Cont X.K A W (SrcIt X.K A) σ μ' H' (enuOf d S') R := by
      have : Cont X.K A W (SrcIt X.K A) σ μ H (M.bnd (ev G m env) (fun ds => enuOf ds) S) R := hc
      unfold M.bnd at this
      rw [el] at this
      exact Cont.trans n this
    obtain ⟨v, rfl, r1⟩ := r.one
    cases r1 with
    | @ref k a e0 =>
      obtain ⟨ds, vs, g1, g2, h4, _⟩ := Cont.getL s h3 e0
      exact ⟨a, vs, rfl, g1, h4 _ _ _ Nx.refl s (src_enu e0)⟩
    | _ => exact False.elim h3
end
end Mi

/-! Mi, part L: comprehensions, then all expressions. -/
namespace Mi
open PySem PySem.Spec PyProof.Rows L2
section
variable {X : Cx} {A : Adr} {G : Gen} {Γ : Gam} {W : WX}
abbrev W0 : WX := fun _ _ _ _ => False
def Gam.blk (Γ : Gam) (scope : Scope) : Gam := { Γ with sc := relS scope Γ.sc, fn := fun x => scope.names.lookup x == some .cell }
theorem Fits.blk (F : Fits A G Γ X W) (scope : Scope) (s : Shared) (H : Hp) (C : Addr) (cl : List (Str × Addr)) (fp : List Addr) : Fits A G (Γ.blk scope) (X.blk s H scope (compEnvC scope cl C X.env) fp) W0 where
  N := F.N
  nd := F.nd
  sc := by
    show relS scope X.env.scope = relS scope Γ.sc
    rw [F.sc]
  fn := fun x h => h
  w := F.w
  calm := F.calm
  tk := takes0
  units := F.units
  grd := F.grd
  blt := F.blt
  cst := F.cst
  fns := F.fns
  xcs := fun x i fs h => ⟨(F.xcs x i fs h).gm, (F.xcs x i fs h).rs, (F.xcs x i fs h).no, (F.xcs x i fs h).yes⟩
  cls := F.cls
  fld := F.fld
  mts := F.mts
  sub := F.sub

/-- what is left of a comprehension's loop -/
def LcW (K : PySem.W.Frag) (A : Adr) (G : Gen) (s : Src) (J : It) (tg : Tg) (c : Env → M Bool) (e : Env → M D) (env0 : Env) (r : Nat) (Dl : Addr) (σ : L2.St) (Q : VK) (μ0 : List Addr) (H0 : Hp) (i n : Nat) (H : Hp) : Prop :=
  ∃ S S' μ, Nx μ0 H0 μ H ∧ Sto K A μ S H ∧ μ[r]? = some Dl ∧ lcLoop s tg c e env0 r n i S = .ok () S' ∧ ∀ μ' H', Nx μ H μ' H' → Sto K A μ' S' H' → Q (.ref Dl) H'
theorem lc_turn {K : PySem.W.Frag} {s : Src} {J : It} {tg : Tg} {c : Env → M Bool} {e : Env → M D} {env0 : Env} {r : Nat} {Dl : Addr} {σ : L2.St} {Q : VK} {μ0 : List Addr} {H0 : Hp} {vs : List Nat}
    (hJ : SrcIt K A μ0 H0 s J) (hE : ER K A μ0 H0 env0 (L2.wipe σ vs)) (ht : ∀ i ∈ tg.ixs, i ∈ vs) (i n : Nat) (H : Hp) (h : LcW K A G s J tg c e env0 r Dl σ Q μ0 H0 i n H) :
    (J.stop i H ∧ Q (.ref Dl) H) ∨ (J.go i H ∧ ∃ Nx : Hp → Prop, (∀ H', Nx H' → ∃ m', m' < n ∧ LcW K A G s J tg c e env0 r Dl σ Q μ0 H0 (i + 1) m' H') ∧ ∀ x H', J.yld i H x H' → gOf K tg x (L2.wipe σ vs) H' fun σ2 H2 => L2.wipe σ2 vs = L2.wipe σ vs ∧
      uT K A W0 c σ2 H2 fun b H3 => if b = true then uE K A W0 e σ2 H3 fun y H4 => ∃ acc, H4 Dl = some (.lst acc) ∧ acc.length < sizeLine ∧ Nx (upd H4 Dl (.lst (acc ++ [y]))) else Nx H3) := by
  obtain ⟨S, S', μ, nx, hS, hr, hl, hq⟩ := h
  obtain ⟨c1, c2, c3⟩ := hJ μ S H i nx hS
  cases n with
  | zero => cases hl
  | succ n =>
    have hm : M.bnd (s.at i) (fun o => match o with
      | none => M.ret ()
      | some d => M.bnd (tg.bind d env0) fun env' => M.bnd (c env') fun k => if k then M.bnd (e env') fun x => M.bnd (getW r) fun ds => M.bnd (M.need (decide (ds.length < lim))) fun _ => M.bnd (setL r (ds ++ [x])) fun _ => lcLoop s tg c e env0 r n (i + 1)
        else lcLoop s tg c e env0 r n (i + 1)) S = .ok () S' := by
      rw [← hl]
      show _ = M.bnd (s.at i) _ S
      congr 1
    clear hl
    revert hm
    intro hl
    unfold M.bnd at hl
    cases e0 : s.at i S with
    | no => rw [e0] at hl; cases hl
    | er x S1 => exact absurd e0 (c3 x S1)
    | ok o S1 =>
      rw [e0] at hl
      cases o with
      | none =>
        obtain ⟨rfl, st⟩ := c1 S1 e0
        have e1 := (Out.ok.inj hl).2
        subst e1
        exact .inl ⟨st, hq μ H Nx.refl hS⟩
      | some d =>
        obtain ⟨rfl, go, step⟩ := c2 d S1 e0
        refine .inr ⟨go, fun H' => LcW K A G s J tg c e env0 r Dl σ Q μ0 H0 (i + 1) n H', fun H' h => ⟨n, Nat.lt_succ_self n, h⟩, fun x H1 hy => ?_⟩
        obtain ⟨n1, s1, r1⟩ := step x H1 hy
        simp only at hl
        cases eb : tg.bind d env0 S1 with
        | no => rw [eb] at hl; cases hl
        | er y S2 => exact absurd eb (bind_er y S2)
        | ok env' S2 =>
          rw [eb] at hl
          simp only at hl
          have nx1 := nx.trans n1
          refine (tg_sv (Q := fun σ2 H2 => _) s1 r1 (hE.mono nx1) eb fun σ2 htg he => ⟨(htg.wipe ht).trans (wipe_wipe fun i hi => hi), ?_⟩).2
          have e2 : S2 = S1 := (tg_sv (Q := fun _ _ => True) s1 r1 (hE.mono nx1) eb fun _ _ _ => True.intro).1
          subst e2
          refine ⟨env', S2, μ, he, s1, ?_⟩
          cases ec : c env' S2 with
          | no => rw [ec] at hl; cases hl
          | er y S3 => rw [ec] at hl; cases hl
          | ok k S3 =>
            rw [ec] at hl
            simp only at hl
            intro b μ3 H3 n3 s3 hb
            subst hb
            have nx3 := nx1.trans n3
            cases k with
            | false =>
              rw [if_neg Bool.false_ne_true] at hl ⊢
              exact ⟨S3, S', μ3, nx3, s3, n3.at (n1.at hr), hl, fun μ' H' n' s' => hq μ' H' ((n1.trans n3).trans n') s'⟩
            | true =>
              rw [if_pos rfl] at hl ⊢
              refine ⟨env', S3, μ3, he.mono n3, s3, ?_⟩
              cases ee : e env' S3 with
              | no => rw [ee] at hl; cases hl
              | er y S4 => rw [ee] at hl; cases hl
              | ok y S4 =>
                rw [ee] at hl
                simp only at hl
                intro v μ4 H4 n4 s4 rv
                have ha := n4.at (n3.at (n1.at hr))
                unfold getW at hl
                cases ew : S4[r]? with
                | none => rw [ew] at hl; cases hl
                | some cc =>
                  rw [ew] at hl
                  cases cc with
                  | lst ds =>
                    simp only at hl
                    obtain ⟨us, g1, g2⟩ := s4.cell r _ Dl ew ha
                    by_cases hd : ds.length < lim
                    · rw [decide_eq_true hd] at hl
                      simp only [M.need, if_true, M.ret, setL, ew] at hl
                      obtain ⟨n5, s5⟩ := wrL s4 ha ew g1 (g2.append (.cons rv .nil))
                      exact ⟨us, g1, by rw [← g2.length]; exact lim_lt hd, _, S', μ4, (nx3.trans n4).trans n5, s5, ha, hl, fun μ' H' n' s' => hq μ' H' ((((n1.trans n3).trans n4).trans n5).trans n') s'⟩
                    · rw [decide_eq_false hd] at hl
                      cases hl
                  | frz ds => cases hl
                  | dic ds => cases hl
                  | ins ds _ => cases hl
theorem lc_of {it : Itn} {t : Tg} {vs : List Nat} {c : Option Ex} {m : Ex} (ht : ∀ i ∈ t.ixs, i ∈ vs) : ∀ σ H Q, uE X.K A W (ev G (.lc it t vs c m)) σ H Q →
    tLc (uI X.K A W (evi G it)) (gOf X.K t) (uT X.K A W0 (evc G c)) (uE X.K A W0 (ev G m)) vs σ H Q := by
  rintro σ H Q ⟨env, S, μ, hE, hS, hc⟩
  have hc : Cont X.K A W (RV X.K A) σ μ H ((evi G it env >>= fun s => newC (.lst []) >>= fun d => match d with
    | .ref r => calmM (lcLoop s t (fun env' => evc G c env') (fun env' => ev G m env') (wipeE env vs) r G.L 0) >>= fun _ => M.ret d
    | _ => M.fail) S) Q := hc
  refine ⟨env, S, μ, hE, hS, (Cont.bnd hc).to ?_⟩
  rintro J H1 ⟨s, S1, μ1, n1, s1, hJ, h1⟩ Dl hD
  have h1 : Cont X.K A W (RV X.K A) σ μ1 H1 ((calmM (lcLoop s t (fun env' => evc G c env') (fun env' => ev G m env') (wipeE env vs) S1.length G.L 0) >>= fun _ => M.ret (D.ref S1.length)) (S1 ++ [.lst []])) Q := h1
  have nD : Nx μ1 H1 (μ1 ++ [Dl]) (upd H1 Dl (.lst [])) := Nx.newC hD
  have sD : Sto X.K A (μ1 ++ [Dl]) (S1 ++ [.lst []]) (upd H1 Dl (.lst [])) := s1.newC hD ⟨[], upd_same, .nil⟩
  have hr : (μ1 ++ [Dl])[S1.length]? = some Dl := by
    rw [← s1.len, List.getElem?_append_right (Nat.le_refl _), Nat.sub_self]
    rfl
  have h2 : Cont X.K A W (RV X.K A) σ μ1 H1 (M.bnd (calmM (lcLoop s t (fun env' => evc G c env') (fun env' => ev G m env') (wipeE env vs) S1.length G.L 0)) (fun _ => M.ret (D.ref S1.length)) (S1 ++ [.lst []])) Q := h1
  unfold M.bnd calmM at h2
  refine ⟨LcW X.K A G s J t (fun env' => evc G c env') (fun env' => ev G m env') (wipeE env vs) S1.length Dl σ Q (μ1 ++ [Dl]) (upd H1 Dl (.lst [])), ⟨G.L, ?_⟩, fun i n H h => lc_turn (hJ.mono nD) (((hE.mono n1).mono nD).wipe vs) ht i n H h⟩
  cases el : lcLoop s t (fun env' => evc G c env') (fun env' => ev G m env') (wipeE env vs) S1.length G.L 0 (S1 ++ [.lst []]) with
  | no => rw [el] at h2; exact h2.elim
  | er y S' => rw [el] at h2; exact h2.elim
  | ok u S' =>
    rw [el] at h2
    refine ⟨_, S', _, Nx.refl, sD, hr, el, fun μ' H' n' s' => ?_⟩
    exact h2 (.ref Dl) μ' H' (nD.trans n') s' (.ref (n'.at hr))
/-- what is left of a dict comprehension's loop -/
def DcW (K : PySem.W.Frag) (A : Adr) (s : Src) (tg : Tg) (c : Env → M Bool) (k v : Env → M D) (env0 : Env) (r : Nat) (Dl : Addr) (Q : VK) (μ0 : List Addr) (H0 : Hp) (i n : Nat) (H : Hp) : Prop :=
  ∃ S S' μ, Nx μ0 H0 μ H ∧ Sto K A μ S H ∧ μ[r]? = some Dl ∧ dcLoop s tg c k v env0 r n i S = .ok () S' ∧ ∀ μ' H', Nx μ H μ' H' → Sto K A μ' S' H' → Q (.ref Dl) H'
theorem dc_turn {K : PySem.W.Frag} {s : Src} {J : It} {tg : Tg} {c : Env → M Bool} {ke ve : Env → M D} {env0 : Env} {r : Nat} {Dl : Addr} {σ : L2.St} {Q : VK} {μ0 : List Addr} {H0 : Hp} {vs : List Nat}
    (hJ : SrcIt K A μ0 H0 s J) (hE : ER K A μ0 H0 env0 (L2.wipe σ vs)) (ht : ∀ i ∈ tg.ixs, i ∈ vs) (i n : Nat) (H : Hp) (h : DcW K A s tg c ke ve env0 r Dl Q μ0 H0 i n H) :
    (J.stop i H ∧ Q (.ref Dl) H) ∨ (J.go i H ∧ ∃ After : Hp → Prop, (∀ H', After H' → ∃ m', m' < n ∧ DcW K A s tg c ke ve env0 r Dl Q μ0 H0 (i + 1) m' H') ∧ ∀ x H', J.yld i H x H' → gOf K tg x (L2.wipe σ vs) H' fun σ2 H2 => L2.wipe σ2 vs = L2.wipe σ vs ∧
      uT K A W0 c σ2 H2 fun b H3 => if b = true then uE K A W0 ke σ2 H3 fun y H4 => uE K A W0 ve σ2 H4 fun z H5 => rSetD A.w K (.ref Dl) y z H5 After else After H3) := by
  obtain ⟨S, S', μ, nx, hS, hr, hl, hq⟩ := h
  obtain ⟨c1, c2, c3⟩ := hJ μ S H i nx hS
  cases n with
  | zero => cases hl
  | succ n =>
    have hm : M.bnd (s.at i) (fun o => match o with
      | none => M.ret ()
      | some d => M.bnd (tg.bind d env0) fun env' => M.bnd (c env') fun b => if b then M.bnd (ke env') fun x => M.bnd (ve env') fun y => M.bnd (putD r x y) fun _ => dcLoop s tg c ke ve env0 r n (i + 1)
        else dcLoop s tg c ke ve env0 r n (i + 1)) S = .ok () S' := by
      rw [← hl]
      show _ = M.bnd (s.at i) _ S
      congr 1
    clear hl
    revert hm
    intro hl
    unfold M.bnd at hl
    cases e0 : s.at i S with
    | no => rw [e0] at hl; cases hl
    | er x S1 => exact absurd e0 (c3 x S1)
    | ok o S1 =>
      rw [e0] at hl
      cases o with
      | none =>
        obtain ⟨rfl, st⟩ := c1 S1 e0
        have e1 := (Out.ok.inj hl).2
        subst e1
        exact .inl ⟨st, hq μ H Nx.refl hS⟩
      | some d =>
        obtain ⟨rfl, go, step⟩ := c2 d S1 e0
        refine .inr ⟨go, fun H' => DcW K A s tg c ke ve env0 r Dl Q μ0 H0 (i + 1) n H', fun H' h => ⟨n, Nat.lt_succ_self n, h⟩, fun x H1 hy => ?_⟩
        obtain ⟨n1, s1, r1⟩ := step x H1 hy
        simp only at hl
        cases eb : tg.bind d env0 S1 with
        | no => rw [eb] at hl; cases hl
        | er y S2 => exact absurd eb (bind_er y S2)
        | ok env' S2 =>
          rw [eb] at hl
          simp only at hl
          have nx1 := nx.trans n1
          refine (tg_sv (Q := fun σ2 H2 => _) s1 r1 (hE.mono nx1) eb fun σ2 htg he => ⟨(htg.wipe ht).trans (wipe_wipe fun i hi => hi), ?_⟩).2
          have e2 : S2 = S1 := (tg_sv (Q := fun _ _ => True) s1 r1 (hE.mono nx1) eb fun _ _ _ => True.intro).1
          subst e2
          refine ⟨env', S2, μ, he, s1, ?_⟩
          cases ec : c env' S2 with
          | no => rw [ec] at hl; cases hl
          | er y S3 => rw [ec] at hl; cases hl
          | ok b S3 =>
            rw [ec] at hl
            simp only at hl
            intro b' μ3 H3 n3 s3 hb
            subst hb
            have nx3 := nx1.trans n3
            cases b with
            | false =>
              rw [if_neg Bool.false_ne_true] at hl ⊢
              exact ⟨S3, S', μ3, nx3, s3, n3.at (n1.at hr), hl, fun μ' H' n' s' => hq μ' H' ((n1.trans n3).trans n') s'⟩
            | true =>
              rw [if_pos rfl] at hl ⊢
              refine ⟨env', S3, μ3, he.mono n3, s3, ?_⟩
              cases ek : ke env' S3 with
              | no => rw [ek] at hl; cases hl
              | er y S4 => rw [ek] at hl; cases hl
              | ok kd S4 =>
                rw [ek] at hl
                simp only at hl
                intro kv μ4 H4 n4 s4 rk
                refine ⟨env', S4, μ4, (he.mono n3).mono n4, s4, ?_⟩
                cases ev : ve env' S4 with
                | no => rw [ev] at hl; cases hl
                | er y S5 => rw [ev] at hl; cases hl
                | ok vd S5 =>
                  rw [ev] at hl
                  simp only at hl
                  intro vv μ5 H5 n5 s5 rv
                  have ha := n5.at (n4.at (n3.at (n1.at hr)))
                  cases ep : putD r kd vd S5 with
                  | no => rw [ep] at hl; cases hl
                  | er y S6 => rw [ep] at hl; cases hl
                  | ok u S6 =>
                    rw [ep] at hl
                    simp only at hl
                    obtain ⟨kvs, e1, e2, e3, z⟩ := putD_is ep (fun z => nomatch z)
                    cases z
                    have nn := (((n1.trans n3).trans n4).trans n5)
                    refine ⟨Dl, rfl, ?_⟩
                    rcases s5.dic e1 ha e2 (rk.mono n5) with ⟨tb, k', f1, rfl, rfl, f2⟩ | ⟨tb, q, f1, rfl, f2, f3, f4⟩
                    · obtain ⟨n6, s6⟩ := wrS s5 ha e1 f1 (f2.put k' rv)
                      exact .inl ⟨tb, k', f1, rfl, by rw [← Paired.length f2]; exact lim_lt e3, _, S', μ5, (nx.trans nn).trans n6, s6, ha, hl, fun μ' H' n' s' => hq μ' H' ((nn.trans n6).trans n') s'⟩
                    · refine .inr ⟨tb, kd, q, f1, rfl, f2, f3, by rw [← Paired.length f4]; exact lim_lt e3, fun o e' => ?_⟩
                      obtain ⟨n6, s6⟩ := wrT s5 ha e1 f1 e' (f4.put kd rv)
                      exact ⟨_, S', μ5, (nx.trans nn).trans n6, s6, ha, hl, fun μ' H' n' s' => hq μ' H' ((nn.trans n6).trans n') s'⟩
theorem dc_of {it : Itn} {t : Tg} {vs : List Nat} {c : Option Ex} {k v : Ex} (ht : ∀ i ∈ t.ixs, i ∈ vs) : ∀ σ H Q, uE X.K A W (ev G (.dc it t vs c k v)) σ H Q →
    tDcU A.w X.K (uI X.K A W (evi G it)) (gOf X.K t) (uT X.K A W0 (evc G c)) (uE X.K A W0 (ev G k)) (uE X.K A W0 (ev G v)) vs σ H Q := by
  rintro σ H Q ⟨env, S, μ, hE, hS, hc⟩
  have hc : Cont X.K A W (RV X.K A) σ μ H ((evi G it env >>= fun s => newC (.dic []) >>= fun d => match d with
    | .ref r => calmM (dcLoop s t (fun env' => evc G c env') (fun env' => ev G k env') (fun env' => ev G v env') (wipeE env vs) r G.L 0) >>= fun _ => M.ret d
    | _ => M.fail) S) Q := hc
  refine ⟨env, S, μ, hE, hS, (Cont.bnd hc).to ?_⟩
  rintro J H1 ⟨s, S1, μ1, n1, s1, hJ, h1⟩ Dl hD
  have nD : Nx μ1 H1 (μ1 ++ [Dl]) (upd H1 Dl (.dK [])) := Nx.newC hD
  have sD : Sto X.K A (μ1 ++ [Dl]) (S1 ++ [.dic []]) (upd H1 Dl (.dK [])) := s1.newC hD (.inl ⟨[], upd_same, .nil⟩)
  have hr : (μ1 ++ [Dl])[S1.length]? = some Dl := by
    rw [← s1.len, List.getElem?_append_right (Nat.le_refl _), Nat.sub_self]
    rfl
  have h2 : Cont X.K A W (RV X.K A) σ μ1 H1 (M.bnd (calmM (dcLoop s t (fun env' => evc G c env') (fun env' => ev G k env') (fun env' => ev G v env') (wipeE env vs) S1.length G.L 0)) (fun _ => M.ret (D.ref S1.length)) (S1 ++ [.dic []])) Q := h1
  unfold M.bnd calmM at h2
  refine ⟨DcW X.K A s t (fun env' => evc G c env') (fun env' => ev G k env') (fun env' => ev G v env') (wipeE env vs) S1.length Dl Q (μ1 ++ [Dl]) (upd H1 Dl (.dK [])), ⟨G.L, ?_⟩, fun i n H h => dc_turn (hJ.mono nD) (((hE.mono n1).mono nD).wipe vs) ht i n H h⟩
  cases el : dcLoop s t (fun env' => evc G c env') (fun env' => ev G k env') (fun env' => ev G v env') (wipeE env vs) S1.length G.L 0 (S1 ++ [.dic []]) with
  | no => rw [el] at h2; exact h2.elim
  | er y S' => rw [el] at h2; exact h2.elim
  | ok u S' =>
    rw [el] at h2
    refine ⟨_, S', _, Nx.refl, sD, hr, el, fun μ' H' n' s' => ?_⟩
    exact h2 (.ref Dl) μ' H' (nD.trans n') s' (.ref (n'.at hr))
theorem set_iter {iter : Expr} {x : Value} (h : isSet iter = false) : foldedSetIterable iter X.env x = pure x := by
  cases iter <;> first | rfl | cases h
theorem ok_lc (F : Fits A G Γ X W) {elt tg iter : Expr} {ifs : List Expr} {scope : Scope} {pos : Pos} {it : Itn} {t : Tg} {c : Option Ex} {m : Ex} (hi : PI X tg iter (uI X.K A W (evi G it))) (ok : BlkOk X.N X.env.scope scope (ownOf Γ.N scope))
    (hg : cTg (Γ.blk scope) tg = some t) (hti : ∀ i ∈ t.ixs, i ∈ (ownOf Γ.N scope).map (·.2))
    (ht : ∀ (s : Shared) (H : Hp) (C : Addr) (cl : List (Str × Addr)) (fp : List Addr), PTs (X.blk s H scope (compEnvC scope cl C X.env) fp) ifs (uT X.K A W0 (evc G c)))
    (he : ∀ (s : Shared) (H : Hp) (C : Addr) (cl : List (Str × Addr)) (fp : List Addr), PE (X.blk s H scope (compEnvC scope cl C X.env) fp) elt (uE X.K A W0 (ev G m))) (hs : isSet iter = false) :
    PE X (.ListComp elt [⟨tg, iter, ifs, 0⟩] scope pos) (uE X.K A W (ev G (.lc it t ((ownOf Γ.N scope).map (·.2)) c m))) :=
  PE.imp (pe_lc F.calm (by rw [F.N]; exact F.nd) hi ok (fun s H C cl fp => pg_of (F.blk scope s H C cl fp) hg) ht he fun x => set_iter hs) (lc_of hti)

theorem ok_dc (F : Fits A G Γ X W) {kx vx tg iter : Expr} {ifs : List Expr} {scope : Scope} {pos : Pos} {it : Itn} {t : Tg} {c : Option Ex} {k v : Ex} (hi : PI X tg iter (uI X.K A W (evi G it))) (ok : BlkOk X.N X.env.scope scope (ownOf Γ.N scope))
    (hg : cTg (Γ.blk scope) tg = some t) (hti : ∀ i ∈ t.ixs, i ∈ (ownOf Γ.N scope).map (·.2))
    (ht : ∀ (s : Shared) (H : Hp) (C : Addr) (cl : List (Str × Addr)) (fp : List Addr), PTs (X.blk s H scope (compEnvC scope cl C X.env) fp) ifs (uT X.K A W0 (evc G c)))
    (hk : ∀ (s : Shared) (H : Hp) (C : Addr) (cl : List (Str × Addr)) (fp : List Addr), PE (X.blk s H scope (compEnvC scope cl C X.env) fp) kx (uE X.K A W0 (ev G k)))
    (hv : ∀ (s : Shared) (H : Hp) (C : Addr) (cl : List (Str × Addr)) (fp : List Addr), PE (X.blk s H scope (compEnvC scope cl C X.env) fp) vx (uE X.K A W0 (ev G v))) (hs : isSet iter = false) :
    Ok X A G W (.DictComp kx vx [⟨tg, iter, ifs, 0⟩] scope pos) (.dc it t ((ownOf Γ.N scope).map (·.2)) c k v) :=
  truth_of (PE.imp (pe_dcU F.units F.calm (by rw [F.N]; exact F.nd) hi ok (fun s H C cl fp => pg_of (F.blk scope s H C cl fp) hg) ht hk hv fun x => set_iter hs) (by rw [← F.w]; exact dc_of hti)) fun _ => rfl

/-! ### all expressions -/
def Good (A : Adr) (G : Gen) (n : Nat) : Prop := ∀ (X : Cx) (Γ : Gam) (W : WX), Fits A G Γ X W → ∀ (e : Expr) (m : Ex), cE Γ n e = some m → Ok X A G W e m ∧ notStar e = true ∧ isSet e = false ∧ isSlc e = false
theorem Good.row {n : Nat} (h : Good A G n) (F : Fits A G Γ X W) : ∀ {es : List Expr} {ms : List Ex}, optAll (cE Γ n) es = some ms → Oks X A G W es ms
  | [], ms, q => by cases q; exact .nil
  | e :: es, ms, q => by
    unfold optAll at q
    split at q
    · rename_i y ys e1 e2
      cases q
      obtain ⟨h1, h2, _⟩ := h X Γ W F e y e1
      exact .cons h2 h1.1 (Good.row h F e2)
    · cases q
theorem Good.part {n : Nat} (h : ∀ k, k < n → Good A G k) (F : Fits A G Γ X W) {e : Option Expr} {m : Option Ex} (q : cO Γ n e = some m) : OkO X A G W e m := by
  cases e with
  | none =>
    have q : (some none : Option (Option Ex)) = some m := by cases n <;> exact q
    cases q
    exact oko_none
  | some e =>
    cases n with
    | zero => cases q
    | succ n =>
      have q : (cE Γ n e).map some = some m := q
      rw [Option.map_eq_some_iff] at q
      obtain ⟨m', q2, rfl⟩ := q
      exact oko_some (h n (Nat.lt_succ_self n) X Γ W F e m' q2).1.1
theorem pts_evc {c : Expr} {m : Ex} (h : PT X c (uT X.K A W (evT G m))) : PTs X [c] (uT X.K A W (evc G (some m))) := pts_one h
theorem Good.tests {n : Nat} (h : ∀ k, k < n → Good A G k) (F : Fits A G Γ X W) {es : List Expr} {m : Option Ex} (q : cC Γ n es = some m) : PTs X es (uT X.K A W (evc G m)) := by
  match es, q with
  | [], q =>
    have q : (some none : Option (Option Ex)) = some m := by cases n <;> exact q
    cases q
    refine ⟨fun pins s σ H Q I r => pts_nil.run pins s σ H Q I ?_⟩
    obtain ⟨env, S, μ, hE, hS, hc⟩ := r
    exact Cont.out (v := true) hc hS rfl
  | [e], q =>
    cases n with
    | zero => cases q
    | succ n =>
      have q : (cE Γ n e).map some = some m := q
      rw [Option.map_eq_some_iff] at q
      obtain ⟨m', q2, rfl⟩ := q
      exact pts_evc (h n (Nat.lt_succ_self n) X Γ W F e m' q2).1.2
  | _ :: _ :: _, q => cases n <;> cases q
theorem Good.iter {n : Nat} (h : ∀ k, k < n → Good A G k) (F : Fits A G Γ X W) {tg e : Expr} {m : Itn} (q : cI Γ n tg e = some m) : PI X tg e (uI X.K A W (evi G m)) ∧ isSet e = false := by
  cases n with
  | zero => cases q
  | succ n =>
    have hn := h n (Nat.lt_succ_self n)
    have seq : ∀ {e : Expr}, (cE Γ n e).map Itn.seq = some m → PI X tg e (uI X.K A W (evi G m)) ∧ isSet e = false := fun {e} q => by
      rw [Option.map_eq_some_iff] at q
      obtain ⟨m', q2, rfl⟩ := q
      obtain ⟨h1, _, h2, _⟩ := hn X Γ W F e m' q2
      exact ⟨pi_seq h1.1, h2⟩
    unfold cI at q
    split at q
    · rename_i f p es pos
      split at q
      · rename_i hf
        simp only [Bool.and_eq_true, decide_eq_true_eq] at hf
        obtain ⟨⟨rfl, hg⟩, hb⟩ := hf
        split at q
        · rename_i a
          rw [Option.map_eq_some_iff] at q
          obtain ⟨ms, q, rfl⟩ := q
          exact ⟨pi_rng1 F hg hb (hn.row F q), rfl⟩
        · rename_i a b
          rw [Option.map_eq_some_iff] at q
          obtain ⟨ms, q, rfl⟩ := q
          exact ⟨pi_rng2 F hg hb (hn.row F q), rfl⟩
        · rename_i a b c
          rw [Option.map_eq_some_iff] at q
          obtain ⟨ms, q, rfl⟩ := q
          exact ⟨pi_rng3 F hg hb (hn.row F q), rfl⟩
        · cases q
      · split at q
        · rename_i hf
          simp only [Bool.and_eq_true, decide_eq_true_eq] at hf
          obtain ⟨⟨rfl, hg⟩, hb⟩ := hf
          split at q
          · rename_i elts kk tpos a
            rw [Option.map_eq_some_iff] at q
            obtain ⟨m', q, rfl⟩ := q
            obtain ⟨h1, h2, _⟩ := hn X Γ W F a m' q
            exact ⟨pi_enuU F hg hb h2 h1.1, rfl⟩
          · cases q
        · exact seq q
    · cases q
    · exact seq q
theorem lastM (o o' : CmpOp) {b c : Expr} (h : isSet c = false) : lastMarks [o, o'] [b, c] = false := by
  show behindInMarks o' c = false
  cases c <;> first | rfl | cases h
theorem behM (o : CmpOp) {c : Expr} (h : isSet c = false) : behindInMarks o c = false := by
  cases c <;> first | rfl | cases h
theorem cop_ast (o : CmpOp) : cmpAst (copOf o) = o := by cases o <;> rfl
theorem bop_ast {o : Operator} {o' : BOp} (h : bopOf o = some o') : opAst o' = o := by cases o <;> cases h <;> rfl
theorem mth_nm {x : Str} {m : Mth} (h : mthOf x = some m) : mthNm m = x := by
  unfold mthOf at h
  repeat' (split at h)
  all_goals first
    | (rename_i e; cases h; rw [e]; rfl)
    | cases h
theorem mth_isL {x : Str} {m : Mth} (h : mthOf x = some m) : m.isL = true := by
  unfold mthOf at h
  repeat' (split at h)
  all_goals first
    | (cases h; rfl)
    | cases h
theorem blt_nm {x : Str} {b : Blt} (h : bltOf x = some b) : bltNm b = x := by
  unfold bltOf at h
  have q := List.find?_some h
  exact of_decide_eq_true q
theorem pw_of {op : BoolOp} {vs : List Expr} {p : Pos} {t : TT} (h : PT X (.BoolOp op vs p) t) : PW X (.BoolOp op vs p) t := ⟨fun _ pins s σ H Q I q => h.run pins s σ H Q I q⟩
theorem Good.bm {n : Nat} (h : ∀ k, k < n → Good A G k) (F : Fits A G Γ X W) {o : Expr} {x : Str} {apos cpos : Pos} {es : List Expr} {m : Ex} (q : cB Γ n o x apos es cpos = some m) : Ok X A G W (.Call (.Attribute o x apos) es [] cpos) m := by
  cases n with
  | zero => cases q
  | succ n =>
    have hn := h n (Nat.lt_succ_self n)
    have E : ∀ {e : Expr} {m : Ex}, cE Γ n e = some m → PE X e (uE X.K A W (ev G m)) := fun q => (hn X Γ W F _ _ q).1.1
    have T : ∀ {e : Expr} {m : Ex}, cE Γ n e = some m → notStar e = true := fun q => (hn X Γ W F _ _ q).2.1
    unfold cB at q
    split at q
    · rename_i hc
      rw [Bool.and_eq_true] at hc
      split at q
      · split at q
        · rename_i hp
          have hp := of_decide_eq_true hp
          subst hp
          rw [Option.map_eq_some_iff] at q
          obtain ⟨o', q, rfl⟩ := q
          exact ok_mth0 (E q) hc.1 hc.2
        · cases q
      · split at q
        · rename_i m' o' e' e1 e2 e3
          cases q
          rw [← mth_nm e1]
          exact ok_mth1 (mth_isL e1) (E e2) (E e3) (T e3) hc.1 hc.2
        · cases q
      · split at q
        · rename_i m' o' es' e1 e2 e3
          cases q
          obtain ⟨n1, n2⟩ := mthOf2_nm e1
          rw [← n1]
          exact ok_mth2 F n2 (E e2) (hn.row F e3) hc.1 hc.2
        · cases q
      · cases q
    · cases q
/-- ALL EXPRESSIONS: what the syntax is read as is what it means -/
theorem good_all (A : Adr) (G : Gen) (n : Nat) : Good A G n := by
  induction n using Nat.strongRecOn with
  | ind n ih =>
    intro X Γ W F e m h
    cases n with
    | zero => cases h
    | succ n =>
      have hn := ih n (Nat.lt_succ_self n)
      have lt : ∀ k, k < n → Good A G k := fun k hk => ih k (Nat.lt_succ_of_lt hk)
      have E : ∀ {e : Expr} {m : Ex}, cE Γ n e = some m → PE X e (uE X.K A W (ev G m)) := fun q => (hn X Γ W F _ _ q).1.1
      have Z : ∀ {e : Expr} {m : Ex}, cE Γ n e = some m → isSet e = false := fun q => (hn X Γ W F _ _ q).2.2.1
      have L : ∀ {e : Expr} {m : Ex}, cE Γ n e = some m → isSlc e = false := fun q => (hn X Γ W F _ _ q).2.2.2
      have T : ∀ {e : Expr} {m : Ex}, cE Γ n e = some m → notStar e = true := fun q => (hn X Γ W F _ _ q).2.1
      unfold cE at h
      split at h
      · cases h; exact ⟨truth_of (pe_lit pe_int fun _ _ => .int _) fun _ => rfl, rfl, rfl, rfl⟩
      · cases h; exact ⟨truth_of (pe_lit pe_str fun _ _ => .str _) fun _ => rfl, rfl, rfl, rfl⟩
      · cases h; exact ⟨truth_of (pe_lit pe_bl fun _ _ => .bl _) fun _ => rfl, rfl, rfl, rfl⟩
      · cases h; exact ⟨truth_of (pe_lit pe_non fun _ _ => .non) fun _ => rfl, rfl, rfl, rfl⟩
      · exact ⟨truth_of (pe_name F h) fun _ => rfl, rfl, rfl, rfl⟩
      · split at h
        · rename_i o' a' b' e1 e2 e3
          cases h
          refine ⟨?_, rfl, rfl, rfl⟩
          rw [← bop_ast e1]
          exact ok_bin (E e2) (E e3)
        · cases h
      · rw [Option.map_eq_some_iff] at h
        obtain ⟨m', q, rfl⟩ := h
        exact ⟨ok_not (hn X Γ W F _ _ q).1, rfl, rfl, rfl⟩
      · rw [Option.map_eq_some_iff] at h
        obtain ⟨m', q, rfl⟩ := h
        exact ⟨ok_neg (E q), rfl, rfl, rfl⟩
      · refine ⟨⟨pe_one (E h), PW.pt (pw_and1 (hn X Γ W F _ _ h).1.2)⟩, rfl, rfl, rfl⟩
      · refine ⟨⟨pe_one (E h), PW.pt (pw_or1 (hn X Γ W F _ _ h).1.2)⟩, rfl, rfl, rfl⟩
      · split at h
        · rename_i a' b' e1 e2
          cases h
          have h1 := (hn X Γ W F _ _ e1).1
          have h2 := (hn X Γ W F _ _ e2).1
          exact ⟨⟨pe_andU h1.1 h2.1, PW.pt (pw_andU h1.2 (pw_of h2.2))⟩, rfl, rfl, rfl⟩
        · cases h
      · split at h
        · rename_i a' b' e1 e2
          cases h
          have h1 := (hn X Γ W F _ _ e1).1
          have h2 := (hn X Γ W F _ _ e2).1
          exact ⟨⟨pe_orU h1.1 h2.1, PW.pt (pw_orU h1.2 (pw_of h2.2))⟩, rfl, rfl, rfl⟩
        · cases h
      · split at h
        · rename_i c' a' b' e1 e2 e3
          cases h
          exact ⟨ok_ite (hn X Γ W F _ _ e1).1 (hn X Γ W F _ _ e2).1 (hn X Γ W F _ _ e3).1, rfl, rfl, rfl⟩
        · cases h
      · split at h
        · rename_i a' b' e1 e2
          cases h
          refine ⟨?_, rfl, rfl, rfl⟩
          have q := pe_cmpU (p := ‹Pos›) (o := copOf ‹CmpOp›) F.units F.w (E e1) (E e2) (behM _ (Z e2))
          rw [cop_ast] at q
          exact q
        · cases h
      · split at h
        · rename_i a' b' c' e1 e2 e3
          cases h
          refine ⟨?_, rfl, rfl, rfl⟩
          have q := fun o o' p => ok_chn (p := p) (o := copOf o) (o' := copOf o') F.units F.w (E e1) (E e2) (E e3) (lastM _ _ (Z e3))
          simp only [cop_ast] at q
          exact q _ _ _
        · cases h
      · rw [Option.map_eq_some_iff] at h
        obtain ⟨m', q, rfl⟩ := h
        exact ⟨ok_tup (hn.row F q), rfl, rfl, rfl⟩
      · rw [Option.map_eq_some_iff] at h
        obtain ⟨m', q, rfl⟩ := h
        exact ⟨ok_lst (hn.row F q), rfl, rfl, rfl⟩
      · split at h
        · rename_i a' l r e1 e2 e3
          cases h
          exact ⟨ok_sl (E e1) (Good.part lt F e2) (Good.part lt F e3), rfl, rfl, rfl⟩
        · cases h
      · split at h
        · rename_i a' i' e1 e2
          cases h
          exact ⟨ok_ix F.units F.w (E e1) (E e2) (L e2), rfl, rfl, rfl⟩
        · cases h
      · split at h
        · rename_i es' e1
          have hr := hn.row F e1
          split at h
          · rename_i hp
            rw [Bool.and_eq_true] at hp
            split at h
            · rename_i i np e2
              split at h
              · rename_i hl
                cases h
                exact ⟨ok_call F hp.2 hp.1 e2 (of_decide_eq_true hl) hr, rfl, rfl, rfl⟩
              · cases h
            · rename_i c i np e2
              split at h
              · rename_i hl
                cases h
                exact ⟨ok_mk F hp.2 hp.1 e2 (of_decide_eq_true hl) hr, rfl, rfl, rfl⟩
              · cases h
            · cases h
            · split at h
              · rename_i hb
                rw [Bool.and_eq_true] at hb
                rw [Option.map_eq_some_iff] at h
                obtain ⟨b, e3, rfl⟩ := h
                refine ⟨?_, rfl, rfl, rfl⟩
                cases hr with
                | nil => exact absurd hb.2 (by decide)
                | cons h1 h2 h3 => exact ok_blt F hp.2 hp.1 (of_decide_eq_true hb.1) (blt_nm e3) (.cons h1 h2 h3)
              · cases h
          · cases h
        · cases h
      · cases h
        exact ⟨ok_dic, rfl, rfl, rfl⟩
      · split at h
        · rename_i hc
          rw [Bool.and_eq_true] at hc
          rw [Option.map_eq_some_iff] at h
          obtain ⟨o', q, rfl⟩ := h
          exact ⟨ok_fld F (E q) hc.1 (of_decide_eq_true hc.2), rfl, rfl, rfl⟩
        · cases h
      · split at h
        · rename_i c i np e1
          split at h
          · rename_i hc
            simp only [Bool.and_eq_true, decide_eq_true_eq] at hc
            obtain ⟨⟨⟨hc1, hc2⟩, hc3⟩, hc4⟩ := hc
            split at h
            · rename_i o' es' e2 e3
              cases h
              exact ⟨ok_mcl F e1 (E e2) (hn.row F e3) hc1 hc2 hc3 hc4, rfl, rfl, rfl⟩
            · cases h
          · cases h
        · exact ⟨Good.bm lt F h, rfl, rfl, rfl⟩
      · dsimp only at h
        split at h
        · rename_i hb
          split at h
          · rename_i it t c k v e1 e2 e3 e4 e5
            split at h
            · rename_i ha
              cases h
              have hi := Good.iter lt F e1
              refine ⟨ok_dc F hi.1 ?_ e2 ?_ (fun s H C cl fp => (Good.tests lt (F.blk _ s H C cl fp) e3)) (fun s H C cl fp => (hn _ _ _ (F.blk _ s H C cl fp) _ _ e4).1.1) (fun s H C cl fp => (hn _ _ _ (F.blk _ s H C cl fp) _ _ e5).1.1) hi.2, rfl, rfl, rfl⟩
              · rw [F.N, F.sc]
                exact blkOk_by hb
              · intro i hi
                have q := List.all_eq_true.mp ha i hi
                exact of_decide_eq_true q
            · cases h
          · cases h
        · cases h
      · dsimp only at h
        split at h
        · rename_i hb
          split at h
          · rename_i it t c x e1 e2 e3 e4
            split at h
            · rename_i ha
              cases h
              have hi := Good.iter lt F e1
              refine ⟨truth_of (ok_lc F hi.1 ?_ e2 ?_ (fun s H C cl fp => (Good.tests lt (F.blk _ s H C cl fp) e3)) (fun s H C cl fp => (hn _ _ _ (F.blk _ s H C cl fp) _ _ e4).1.1) hi.2) fun _ => rfl, rfl, rfl, rfl⟩
              · rw [F.N, F.sc]
                exact blkOk_by hb
              · intro i hi
                have q := List.all_eq_true.mp ha i hi
                exact of_decide_eq_true q
            · cases h
          · cases h
        · cases h
      · cases h
end
end Mi

/-! Mi, part M: statements. -/
namespace Mi
open PySem PySem.Spec PyProof.Rows L2
section
variable {X : Cx} {A : Adr} {G : Gen} {Γ : Gam} {W : WX} {K : PySem.W.Frag} {μ μ1 : List Addr} {H H1 : Hp} {D : Ends}

/-- what a statement's end must give -/
def ContS (K : PySem.W.Frag) (A : Adr) (W : WX) (D : Ends) (μ : List Addr) (H : Hp) : SR → Prop
  | .go .nx env S => ∀ σ' μ' H', Nx μ H μ' H' → Sto K A μ' S H' → ER K A μ' H' env σ' → D.nx σ' H'
  | .go (.rt d) env S => ∀ v μ' H', Nx μ H μ' H' → Sto K A μ' S H' → RV K A μ' H' d v → D.rt v H'
  | .go .bk env S => ∀ σ' μ' H', Nx μ H μ' H' → Sto K A μ' S H' → ER K A μ' H' env σ' → D.bk σ' H'
  | .go .ct env S => ∀ σ' μ' H', Nx μ H μ' H' → Sto K A μ' S H' → ER K A μ' H' env σ' → D.ct σ' H'
  | .er e env S => ∀ cls dd σ' μ' H', Nx μ H μ' H' → Sto K A μ' S H' → ER K A μ' H' env σ' → RX K A μ' H' e cls dd → W cls dd σ' H'
  | .no => False
theorem ContS.trans {r : SR} (n : Nx μ H μ1 H1) (h : ContS K A W D μ H r) : ContS K A W D μ1 H1 r := by
  match r, h with
  | .go .nx env S, h => exact fun σ' μ' H' n' => h σ' μ' H' (n.trans n')
  | .go (.rt d) env S, h => exact fun v μ' H' n' => h v μ' H' (n.trans n')
  | .go .bk env S, h => exact fun σ' μ' H' n' => h σ' μ' H' (n.trans n')
  | .go .ct env S, h => exact fun σ' μ' H' n' => h σ' μ' H' (n.trans n')
  | .er e env S, h => exact fun cls dd σ' μ' H' n' => h cls dd σ' μ' H' (n.trans n')
  | .no, h => exact h
/-- the reading of a statement -/
def uS (K : PySem.W.Frag) (A : Adr) (W : WX) (m : SM) : TS := fun D σ H => ∃ env S μ, ER K A μ H env σ ∧ Sto K A μ S H ∧ ContS K A W D μ H (m env S)
theorem ContS.bnd {α β : Type} {R : List Addr → Hp → α → β → Prop} {m : M α} {env : Env} {σ : L2.St} {f : α → Store → SR} {S : Store} (hE : ER K A μ H env σ) (h : ContS K A W D μ H (bndS m env f S)) :
    Cont K A W R σ μ H (m S) (fun v H1 => ∃ x S1 μ1, Nx μ H μ1 H1 ∧ Sto K A μ1 S1 H1 ∧ R μ1 H1 x v ∧ ContS K A W D μ1 H1 (f x S1)) := by
  unfold bndS at h
  cases e : m S with
  | ok a S' =>
    rw [e] at h
    exact fun v μ' H' n s r => ⟨a, S', μ', n, s, r, h.trans n⟩
  | er x S' =>
    rw [e] at h
    exact fun cls dd μ' H' n s r => h cls dd σ μ' H' n s (hE.mono n) r
  | no =>
    rw [e] at h
    exact h
theorem PS.imp {st : Stmt} {t t' : TS} (h : PS X st t) (w : ∀ D σ H, t' D σ H → t D σ H) : PS X st t' := ⟨fun pins s σ H D I q => h.run pins s σ H D I (w D σ H q)⟩
theorem PSs.imp {st : List Stmt} {t t' : TS} (h : PSs X st t) (w : ∀ D σ H, t' D σ H → t D σ H) : PSs X st t' := ⟨fun pins s σ H D I q => h.run pins s σ H D I (w D σ H q)⟩
abbrev OkS (X : Cx) (A : Adr) (G : Gen) (W : WX) (s : Stmt) (m : Sx) : Prop := PS X s (uS X.K A W (xs G m))
abbrev OkSs (X : Cx) (A : Adr) (G : Gen) (W : WX) (s : List Stmt) (m : List Sx) : Prop := PSs X s (uS X.K A W (xss G m))

theorem noLc {e : Expr} {tg : Option Expr} {l : Nat} {env : PySem.Env} (h : isLc e = false) : swapsWith e tg l env = pure false := by
  cases e <;> first | rfl | cases h
theorem noLcS {e t : Expr} {l : Nat} {env : PySem.Env} (h : isLc e = false) : swapsWithSole [t] e l env = pure false := noLc h
theorem os_nil : OkSs X A G W [] [] := by
  refine PSs.imp pss_nil ?_
  rintro D σ H ⟨env, S, μ, hE, hS, h⟩
  exact h σ μ H Nx.refl hS hE
theorem os_cons {s : Stmt} {m : Sx} {ss : List Stmt} {ms : List Sx} (h1 : OkS X A G W s m) (h2 : OkSs X A G W ss ms) : OkSs X A G W (s :: ss) (m :: ms) := by
  refine PSs.imp (pss_cons h1 h2) ?_
  rintro D σ H ⟨env, S, μ, hE, hS, h⟩
  refine ⟨env, S, μ, hE, hS, ?_⟩
  have h : ContS X.K A W D μ H (match xs G m env S with | .go .nx env' S' => xss G ms env' S' | r => r) := h
  cases e : xs G m env S with
  | no => rw [e] at h; exact h.elim
  | er x env' S' => rw [e] at h; exact h
  | go f env' S' =>
    rw [e] at h
    cases f with
    | nx => exact fun σ' μ' H' n s e' => ⟨env', S', μ', e', s, h.trans n⟩
    | rt d => exact h
    | bk => exact h
    | ct => exact h
theorem os_expr {e : Expr} {m : Ex} {p : Pos} (h : PE X e (uE X.K A W (ev G m))) (hl : isLc e = false) : OkS X A G W (.Expr e p) (.expr m) := by
  refine PS.imp (ps_expr h (noLc hl)) ?_
  rintro D σ H ⟨env, S, μ, hE, hS, h⟩
  refine ⟨env, S, μ, hE, hS, (ContS.bnd hE h).to ?_⟩
  rintro v H1 ⟨x, S1, μ1, n1, s1, r1, h1⟩
  exact h1 σ μ1 H1 Nx.refl s1 (hE.mono n1)
theorem os_ret {e : Expr} {m : Ex} {p : Pos} (h : PE X e (uE X.K A W (ev G m))) : OkS X A G W (.Return (some e) p) (.ret m) := by
  refine PS.imp (ps_ret h) ?_
  rintro D σ H ⟨env, S, μ, hE, hS, h⟩
  refine ⟨env, S, μ, hE, hS, (ContS.bnd hE h).to ?_⟩
  rintro v H1 ⟨x, S1, μ1, n1, s1, r1, h1⟩
  exact h1 v μ1 H1 Nx.refl s1 r1
theorem os_retN {p : Pos} : OkS X A G W (.Return none p) .retN := by
  refine PS.imp ps_retN ?_
  rintro D σ H ⟨env, S, μ, hE, hS, h⟩
  exact h .non μ H Nx.refl hS .non
theorem os_brk {p : Pos} : OkS X A G W (.Break p) .brk := by
  refine PS.imp ps_break ?_
  rintro D σ H ⟨env, S, μ, hE, hS, h⟩
  exact h σ μ H Nx.refl hS hE
theorem os_cnt {p : Pos} : OkS X A G W (.Continue p) .cnt := by
  refine PS.imp ps_continue ?_
  rintro D σ H ⟨env, S, μ, hE, hS, h⟩
  exact h σ μ H Nx.refl hS hE
theorem os_pass {p : Pos} : OkS X A G W (.Pass p) .pass := by
  refine PS.imp ps_pass ?_
  rintro D σ H ⟨env, S, μ, hE, hS, h⟩
  exact h σ μ H Nx.refl hS hE
theorem os_if {c : Expr} {a b : List Stmt} {k : Ex} {m n : List Sx} {p : Pos} (hc : PT X c (uT X.K A W (evT G k))) (ha : OkSs X A G W a m) (hb : OkSs X A G W b n) : OkS X A G W (.If c a b p) (.ite k m n) := by
  refine PS.imp (ps_if hc ha hb) ?_
  rintro D σ H ⟨env, S, μ, hE, hS, h⟩
  refine ⟨env, S, μ, hE, hS, (ContS.bnd hE h).to ?_⟩
  rintro v H1 ⟨x, S1, μ1, n1, s1, r1, h1⟩
  subst r1
  cases x with
  | true => exact ⟨env, S1, μ1, hE.mono n1, s1, h1⟩
  | false => exact ⟨env, S1, μ1, hE.mono n1, s1, h1⟩
/-- a store to a target -/
theorem asg_sv {t : Tg} {m : Ex} : ∀ D σ H, uS X.K A W (xs G (.asg t m)) D σ H → tAsg (uE X.K A W (ev G m)) (gOf X.K t) D σ H := by
  rintro D σ H ⟨env, S, μ, hE, hS, h⟩
  refine ⟨env, S, μ, hE, hS, (ContS.bnd hE h).to ?_⟩
  rintro v H1 ⟨x, S1, μ1, n1, s1, r1, h1⟩
  unfold bndS at h1
  cases eb : t.bind x env S1 with
  | no => rw [eb] at h1; exact h1.elim
  | er y S2 => exact absurd eb (bind_er y S2)
  | ok env' S2 =>
    rw [eb] at h1
    have e2 : S2 = S1 := (tg_sv (Q := fun _ _ => True) s1 r1 (hE.mono n1) eb fun _ _ _ => True.intro).1
    subst e2
    exact (tg_sv s1 r1 (hE.mono n1) eb fun σ' _ he => h1 σ' μ1 H1 Nx.refl s1 he).2
theorem swT {env : PySem.Env} {e : Expr} (h : isTupE e = false) {t : Expr} : swappedStores [t] e env = pure none := by
  cases t <;> cases e <;> first | rfl | cases h
theorem os_asgT (F : Fits A G Γ X W) {t e : Expr} {t' : Tg} {m : Ex} {p : Pos} (ht : cTg Γ t = some t') (h : PE X e (uE X.K A W (ev G m))) (hn : isTupE e = false) (hl : isLc e = false) : OkS X A G W (.Assign [t] e p) (.asg t' m) := by
  refine PS.imp (ps_asg h (pg_of F ht) (noLcS hl) (swT hn) ?_) asg_sv
  cases t <;> first | rfl | (unfold cTg at ht; cases ht)
theorem os_asgN (F : Fits A G Γ X W) {x : Str} {q : Pos} {e : Expr} {t' : Tg} {m : Ex} {p : Pos} (ht : cTg Γ (.Name x q) = some t') (h : PE X e (uE X.K A W (ev G m))) (hl : isLc e = false) : OkS X A G W (.Assign [.Name x q] e p) (.asg t' m) := by
  unfold cTg at ht
  simp only [Option.map_eq_some_iff] at ht
  obtain ⟨i, hi, rfl⟩ := ht
  obtain ⟨x', q', e1, g⟩ := pg_one F hi
  refine PS.imp (ps_asg h g (noLcS hl) ?_ rfl) asg_sv
  cases e <;> rfl
theorem os_set (F : Fits A G Γ X W) {a i e : Expr} {a' i' e' : Ex} {p q : Pos} (ha : PE X a (uE X.K A W (ev G a'))) (hi : PE X i (uE X.K A W (ev G i'))) (he : PE X e (uE X.K A W (ev G e'))) (hs : isSlc i = false) (hl : isLc e = false) : OkS X A G W (.Assign [.Subscript a i q] e p) (.asgIx a' i' e') := by
  refine PS.imp (ps_asg he (pg_sub ha hi (PSet.or (F.w ▸ set_dic F.units : PSet X (rSetD A.w X.K)) set_list) (fun v => by cases i <;> first | rfl | cases hs)) (noLcS hl) (by cases e <;> rfl) rfl) ?_
  rintro D σ H ⟨env, S, μ, hE, hS, h⟩
  have h : ContS X.K A W D μ H (bndS (ev G e' env >>= fun v => ev G a' env >>= fun x => ev G i' env >>= fun y => setIx x y v) env (fun _ S' => .go .nx env S') S) := h
  have h := ContS.bnd (R := fun _ _ (_ _ : Unit) => True) hE h
  refine ⟨env, S, μ, hE, hS, (Cont.bnd h).to ?_⟩
  rintro v H1 ⟨d, S1, μ1, n1, s1, r1, h1⟩
  refine ⟨env, S1, μ1, hE.mono n1, s1, (Cont.bnd h1).to ?_⟩
  rintro w H2 ⟨x, S2, μ2, n2, s2, r2, h2⟩
  refine ⟨env, S2, μ2, (hE.mono n1).mono n2, s2, (Cont.bnd h2).to ?_⟩
  rintro u H3 ⟨y, S3, μ3, n3, s3, r3, h3⟩
  have nn := n1.trans (n2.trans n3)
  refine sv_set s3 (r2.mono n3) r3 (r1.mono (n2.trans n3)) (Q := fun H' => D.nx σ H') (h3.to ?_)
  rintro _ H4 ⟨_, S4, μ4, n4, s4, _, h4⟩
  exact h4 σ μ4 H4 Nx.refl s4 (hE.mono n4)
theorem swp2 {env : PySem.Env} {x y : Str} {px py pt p2 : Pos} {kt k2 : Nat} {a b : Expr} (hk : env.blockKind = .function) (hx : env.kindOf x = some .local) (hy : env.kindOf y = some .local) (hxy : x ≠ y) (hl : py.line = px.line) (ha : notStar a = true) (hb : notStar b = true)
    (h1 : (foldedForSure 8 a && foldedForSure 8 b) = false) (h2 : (constantsAlone 8 a && constantsAlone 8 b) = false) : swappedStores [.Tuple [.Name x px, .Name y py] kt pt] (.Tuple [a, b] k2 p2) env = pure (some [x, y]) := by
  have e1 : (env.kindOf x == some .local) = true := by rw [hx]; rfl
  have e2 : (env.kindOf y == some .local) = true := by rw [hy]; rfl
  have e3 : ([Expr.Name x px, Expr.Name y py].filterMap fun
    | .Name id pos => if env.kindOf id == some .local && pos.line == ((([Expr.Name x px, Expr.Name y py].head?).map (·.pos.line)).getD 0) then some id else none
    | _ => none) = [x, y] := by
    show ([Expr.Name x px, Expr.Name y py].filterMap fun
    | .Name id pos => if env.kindOf id == some .local && pos.line == px.line then some id else none
    | _ => none) = [x, y]
    simp only [List.filterMap_cons, List.filterMap_nil, e1, e2, hl, beq_self_eq_true, Bool.and_self, if_true]
  have e4 : ([a, b].any fun | .Starred .. => true | _ => false) = false := by
    cases a <;> cases b <;> first | rfl | exact nomatch (show false = true from ha) | exact nomatch (show false = true from hb)
  have e5 : ([x, y].eraseDups.length != [x, y].length) = false := by
    have : (y == x) = false := by rw [beq_eq_false_iff_ne]; exact fun e => hxy e.symm
    simp [List.eraseDups_cons, this]
  have e6 : (env.blockKind != .function) = false := by rw [hk]; rfl
  have e7 : [a, b].all (foldedForSure 8) = false := by
    show (foldedForSure 8 a && (foldedForSure 8 b && true)) = false
    rw [Bool.and_true]; exact h1
  have e8 : [a, b].all (constantsAlone 8) = false := by
    show (constantsAlone 8 a && (constantsAlone 8 b && true)) = false
    rw [Bool.and_true]; exact h2
  have e9 : ∀ l : List Str, l = [x, y] → (l.length != 2 || l.eraseDups.length != l.length) = false := fun l h => by
    rw [h, e5]
    rfl
  unfold swappedStores
  dsimp only
  refine (if_neg (Bool.eq_false_iff.mp e6)).trans ?_
  refine (if_neg (Bool.eq_false_iff.mp e4)).trans ?_
  refine (if_neg (Bool.eq_false_iff.mp (e9 _ e3))).trans ?_
  refine (if_neg (Bool.eq_false_iff.mp e7)).trans ?_
  refine (if_neg (Bool.eq_false_iff.mp e8)).trans ?_
  exact congrArg (fun l => pure (some l)) e3
theorem os_par (F : Fits A G Γ X W) {x y : Str} {px py pt p2 p : Pos} {kt k2 : Nat} {a b : Expr} {i j : Nat} {es : List Ex} (hi : ixOf x Γ.N = some i) (hj : ixOf y Γ.N = some j) (h : Oks X A G W [a, b] es) (hp : parB Γ x y px py a b = true) :
    OkS X A G W (.Assign [.Tuple [.Name x px, .Name y py] kt pt] (.Tuple [a, b] k2 p2) p) (.par [i, j] es) := by
  unfold parB at hp
  simp only [Bool.and_eq_true, decide_eq_true_eq, beq_iff_eq, Bool.not_eq_true', decide_eq_false_iff_not] at hp
  obtain ⟨hk, hx, hy, hxy, hl, h1, h2⟩ := hp
  have hij : i ≠ j := fun e => hxy (by have a1 := ixOf_get hi; have a2 := ixOf_get hj; rw [e, a2] at a1; exact (Option.some.inj a1).symm)
  refine PS.imp (ps_par F.calm (by rw [F.N]; exact F.nd) (by rw [F.N]; exact ixOf_get hi) (by rw [F.N]; exact ixOf_get hj) hij (by rw [F.sc]; exact hx) (by rw [F.sc]; exact hy) (pa_of h)
    (swp2 (by unfold Env.blockKind; rw [F.sc, hk]; rfl) (by rw [show X.env.kindOf x = X.env.scope.names.lookup x from rfl, F.sc]; exact hx) (by rw [show X.env.kindOf y = X.env.scope.names.lookup y from rfl, F.sc]; exact hy) hxy hl (h.star a List.mem_cons_self) (h.star b (List.mem_cons_of_mem _ List.mem_cons_self)) h1 h2)) ?_
  have hlen := h.len
  rintro D σ H ⟨env, S, μ, hE, hS, hh⟩
  refine ⟨env, S, μ, hE, hS, (ContS.bnd (R := RVs X.K A) hE hh).to ?_⟩
  rintro vs H1 ⟨ds, S1, μ1, n1, s1, r1, h1⟩
  split at h1
  · rename_i hl2
    match ds, hl2, r1, h1 with
    | [d, e], _, r1, h1 =>
      obtain ⟨v, u, rfl, ra, rb⟩ := r1.two
      exact ⟨v, u, rfl, h1 _ μ1 H1 Nx.refl s1 (((hE.mono n1).set i ra).set j rb)⟩
  · exact h1.elim
theorem os_aug (F : Fits A G Γ X W) {t e : Expr} {i : Nat} {o : BOp} {m : Ex} {p : Pos} (ht : cTg1 Γ t = some i) (h : PE X e (uE X.K A W (ev G m))) (ho : o = .add ∨ o = .sub) : OkS X A G W (.AugAssign t (opAst o) e p) (.aug i o m) := by
  obtain ⟨x, q, rfl, g⟩ := pg_one F ht
  unfold cTg1 at ht
  simp only at ht
  split at ht
  · rename_i hc
    rw [Bool.and_eq_true, Bool.or_eq_true] at hc
    have hf : X.fn x = true ∨ X.env.scope.names.lookup x = some .local := hc.2.imp (F.fn x) fun q => by rw [F.sc]; exact of_decide_eq_true q
    have key : ∀ (f : Int → Int → Int) (tip : TIp), (∀ x y S, augM o x y S = match x, y with | .int i, .int j => .ok (.int (f i j)) S | _, _ => .no) → PIp X (opAst o) (ipI f) → OkS X A G W (.AugAssign (.Name x q) (opAst o) e p) (.aug i o m) := fun f _ hf2 hop => by
      refine PS.imp (ps_aug (by rw [F.N]; exact F.nd) (by rw [F.N]; exact ixOf_get ht) (F.loc hc.1) h hop hf) ?_
      rintro D σ H ⟨env, S, μ, hE, hS, h⟩
      have h : ContS X.K A W D μ H (match env[i]? with | some (some x) => bndS (ev G m env >>= fun y => augM o x y) env (fun d S' => .go .nx (env.set i (some d)) S') S | _ => .no) := h
      split at h
      · rename_i d ed
        obtain ⟨v, hv, rv⟩ := hE.at_ i d ed
        refine ⟨v, hv, env, S, μ, hE, hS, (Cont.bnd (ContS.bnd (R := RV X.K A) hE h)).to ?_⟩
        rintro w H1 ⟨y, S1, μ1, n1, s1, r1, h1⟩
        rw [hf2] at h1
        cases rv with
        | int a =>
          cases r1 with
          | int b =>
            refine ⟨a, b, rfl, rfl, ?_⟩
            obtain ⟨_, S2, μ2, n2, s2, r2, h2⟩ := h1 (.int (f a b)) μ1 H1 Nx.refl s1 (.int _)
            cases r2
            exact h2 _ μ2 H1 Nx.refl s2 (((hE.mono n2)).set i (.int _))
          | _ => exact False.elim h1
        | _ => exact False.elim h1
      · exact h.elim
    rcases ho with rfl | rfl
    · exact key (fun i j => i + j) (ipI fun i j => i + j) (fun x y S => by cases x <;> cases y <;> rfl) ip_add
    · exact key (fun i j => i - j) (ipI fun i j => i - j) (fun x y S => by cases x <;> cases y <;> rfl) ip_sub
  · cases ht
theorem os_asgLc (F : Fits A G Γ X W) {x : Str} {q : Pos} {t' : Tg} {elt tg iter : Expr} {ifs : List Expr} {scope : Scope} {pos p : Pos} {it : Itn} {t : Tg} {c : Option Ex} {m : Ex} (hx : cTg Γ (.Name x q) = some t')
    (hi : PI X tg iter (uI X.K A W (evi G it))) (ok : BlkOk X.N X.env.scope scope (ownOf Γ.N scope))
    (hg : cTg (Γ.blk scope) tg = some t) (hti : ∀ i ∈ t.ixs, i ∈ (ownOf Γ.N scope).map (·.2))
    (ht : ∀ (s : Shared) (H : Hp) (C : Addr) (cl : List (Str × Addr)) (fp : List Addr), PTs (X.blk s H scope (compEnvC scope cl C X.env) fp) ifs (uT X.K A W0 (evc G c)))
    (he : ∀ (s : Shared) (H : Hp) (C : Addr) (cl : List (Str × Addr)) (fp : List Addr), PE (X.blk s H scope (compEnvC scope cl C X.env) fp) elt (uE X.K A W0 (ev G m))) (hs : isSet iter = false) :
    OkS X A G W (.Assign [.Name x q] (.ListComp elt [⟨tg, iter, ifs, 0⟩] scope pos) p) (.asg t' (.lc it t ((ownOf Γ.N scope).map (·.2)) c m)) := by
  unfold cTg at hx
  simp only [Option.map_eq_some_iff] at hx
  obtain ⟨i, hxi, rfl⟩ := hx
  obtain ⟨x', q', e1, g⟩ := pg_one F hxi
  have sw : ∃ b, swapsWith (.ListComp elt [⟨tg, iter, ifs, 0⟩] scope pos) (some (.Name x q)) p.line X.env = pure b ∧ (b = true → X.env.kindOf x = some .local) := by
    refine ⟨X.env.blockKind == .function && X.env.kindOf x == some .local && q.line == pos.line && !(scope.names.any fun (n, k) => n == x && (k == .local || k == .cell)), rfl, fun h => ?_⟩
    simp only [Bool.and_eq_true] at h
    exact eq_of_beq h.1.1.2
  obtain ⟨b, hb, hl⟩ := sw
  cases b with
  | false => exact PS.imp (ps_asg (ok_lc F hi ok hg hti ht he hs) g hb rfl rfl) asg_sv
  | true =>
    have hi' : X.N[i]? = some x := by
      unfold cTg1 at hxi
      simp only at hxi
      split at hxi
      · rw [F.N]; exact ixOf_get hxi
      · cases hxi
    refine PS.imp (ps_setLc (g := gOf X.K t) F.calm (by rw [F.N]; exact F.nd) hi' (hl rfl) hb hi ok (fun s H C cl fp => pg_of (F.blk scope s H C cl fp) hg) ht he fun x => set_iter hs) ?_
    intro D σ H h
    have h2 := asg_sv (t := .v i) D σ H h
    obtain ⟨env, S, μ, hE, hS, hc⟩ := h2
    exact lc_of hti σ H _ ⟨env, S, μ, hE, hS, hc⟩

/-! ### loops -/
theorem os_while (hp : PassesOwn (model X.prog X.w) X.A X.env X.xe) {c : Expr} {b : List Stmt} {k : Ex} {m : List Sx} {p : Pos} (hc : PT X c (uT X.K A W (evT G k))) (hb : OkSs X A G W b m) : OkS X A G W (.While c b [] p) (.whl k m) := by
  refine PS.imp (ps_while hp hc hb) ?_
  rintro D σ H ⟨env, S, μ, hE, hS, h⟩
  refine ⟨fun n σ H => ∃ env S μ, ER X.K A μ H env σ ∧ Sto X.K A μ S H ∧ ContS X.K A W D μ H (whileF (evT G k) (fun env' S' => xss G m env' S') n env S), ⟨G.L, env, S, μ, hE, hS, h⟩, ?_⟩
  rintro n σ H ⟨env, S, μ, hE, hS, h⟩
  cases n with
  | zero => exact False.elim h
  | succ n =>
    refine ⟨env, S, μ, hE, hS, (ContS.bnd hE h).to ?_⟩
    rintro v H1 ⟨x, S1, μ1, n1, s1, r1, h1⟩
    subst r1
    cases x with
    | false =>
      rw [if_neg Bool.false_ne_true] at h1 ⊢
      exact h1 σ μ1 H1 Nx.refl s1 (hE.mono n1)
    | true =>
      rw [if_pos rfl] at h1 ⊢
      dsimp only at h1
      refine ⟨fun σ H => ∃ env S μ, ER X.K A μ H env σ ∧ Sto X.K A μ S H ∧ ContS X.K A W D μ H (whileF (evT G k) (fun env' S' => xss G m env' S') n env S), fun σ' H' h => ⟨n, Nat.lt_succ_self n, h⟩, env, S1, μ1, hE.mono n1, s1, ?_⟩
      cases e : xss G m env S1 with
      | no => rw [e] at h1; exact h1.elim
      | er x env' S' => rw [e] at h1; exact h1
      | go f env' S' =>
        rw [e] at h1
        cases f with
        | nx => exact fun σ' μ' H' n s e' => ⟨env', S', μ', e', s, h1.trans n⟩
        | ct => exact fun σ' μ' H' n s e' => ⟨env', S', μ', e', s, h1.trans n⟩
        | bk => exact h1
        | rt d => exact h1
theorem os_for (F : Fits A G Γ X W) (hp : PassesOwn (model X.prog X.w) X.A X.env X.xe) {t it : Expr} {b : List Stmt} {t' : Tg} {i' : Itn} {m : List Sx} {p : Pos} (ht : cTg Γ t = some t') (hi : PI X t it (uI X.K A W (evi G i'))) (hs : isSet it = false) (hb : OkSs X A G W b m) :
    OkS X A G W (.For t it b [] p) (.for_ t' i' m) := by
  refine PS.imp (ps_for hp F.calm hi (pg_of F ht) hb fun x => set_iter hs) ?_
  rintro D σ H ⟨env, S, μ, hE, hS, h⟩
  refine ⟨env, S, μ, hE, hS, (ContS.bnd hE h).to ?_⟩
  rintro J H1 ⟨s, S1, μ1, n1, s1, hJ, h1⟩
  refine ⟨fun i n σ H => ∃ env S μ, Nx μ1 H1 μ H ∧ ER X.K A μ H env σ ∧ Sto X.K A μ S H ∧ ContS X.K A W D μ H (forF s t' (fun env' S2 => xss G m env' S2) n i env S), ⟨G.L, env, S1, μ1, Nx.refl, hE.mono n1, s1, h1⟩, ?_⟩
  rintro i n σ H ⟨env, S, μ, nx, hE, hS, h⟩
  obtain ⟨c1, c2, c3⟩ := hJ μ S H i nx hS
  cases n with
  | zero => exact False.elim h
  | succ n =>
    have hm : ContS X.K A W D μ H (bndS (s.at i) env (fun o S1 => match o with
      | none => .go .nx env S1
      | some d => bndS (t'.bind d env) env (fun env1 S2 => match xss G m env1 S2 with
        | .go .nx env2 S2 => forF s t' (fun env' S2 => xss G m env' S2) n (i + 1) env2 S2
        | .go .ct env2 S2 => forF s t' (fun env' S2 => xss G m env' S2) n (i + 1) env2 S2
        | .go .bk env2 S2 => .go .nx env2 S2
        | r => r) S1) S) := h
    clear h
    revert hm
    intro h
    unfold bndS at h
    cases e0 : s.at i S with
    | no => rw [e0] at h; exact h.elim
    | er x S2 => exact absurd e0 (c3 x S2)
    | ok o S2 =>
      rw [e0] at h
      cases o with
      | none =>
        obtain ⟨rfl, st⟩ := c1 S2 e0
        exact .inl ⟨st, h σ μ H Nx.refl hS hE⟩
      | some d =>
        obtain ⟨rfl, go, step⟩ := c2 d S2 e0
        refine .inr ⟨go, fun σ H => ∃ env S μ, Nx μ1 H1 μ H ∧ ER X.K A μ H env σ ∧ Sto X.K A μ S H ∧ ContS X.K A W D μ H (forF s t' (fun env' S2 => xss G m env' S2) n (i + 1) env S), fun σ' H' h => ⟨n, Nat.lt_succ_self n, h⟩, fun x H2 hy => ?_⟩
        obtain ⟨n2, s2, r2⟩ := step x H2 hy
        simp only at h
        cases eb : t'.bind d env S2 with
        | no => rw [eb] at h; exact h.elim
        | er y S3 => exact absurd eb (bind_er y S3)
        | ok env1 S3 =>
          rw [eb] at h
          simp only at h
          have e2 : S3 = S2 := (tg_sv (Q := fun _ _ => True) s2 r2 (hE.mono n2) eb fun _ _ _ => True.intro).1
          subst e2
          refine (tg_sv s2 r2 (hE.mono n2) eb fun σ2 _ he => ?_).2
          refine ⟨env1, S3, μ, he, s2, ?_⟩
          cases e : xss G m env1 S3 with
          | no => rw [e] at h; exact h.elim
          | er x env' S' => rw [e] at h; exact h.trans n2
          | go f env' S' =>
            rw [e] at h
            cases f with
            | nx => exact fun σ' μ' H' n' s' e' => ⟨env', S', μ', nx.trans (n2.trans n'), e', s', (h.trans n2).trans n'⟩
            | ct => exact fun σ' μ' H' n' s' e' => ⟨env', S', μ', nx.trans (n2.trans n'), e', s', (h.trans n2).trans n'⟩
            | bk => exact h.trans n2
            | rt d => exact h.trans n2
end
end Mi

/-! Mi, part MA: fields written. -/
namespace Mi
open PySem PySem.Spec PyProof.Rows L2
section
variable {X : Cx} {A : Adr} {G : Gen} {Γ : Gam} {W : WX}
/-- a field is written -/
theorem put_sv {σ : L2.St} {x d : D} {v u : V} {f : Str} {μ : List Addr} {H : Hp} {S : Store} {Q : Unit → Hp → Prop} (s : Sto X.K A μ S H) (rx : RV X.K A μ H x v) (rd : RV X.K A μ H d u) (h : Cont X.K A W (fun _ _ (_ _ : Unit) => True) σ μ H (putF x f d S) Q) :
    ∃ a c dx gs, v = .ref a ∧ H a = some (.ins (A.ca c) dx gs) ∧ gs.length < 1000 ∧ Q () (upd H a (.ins (A.ca c) dx (L2.putF f u gs))) := by
  cases rx with
  | @ref n a e0 =>
    have h : Cont X.K A W (fun _ _ (_ _ : Unit) => True) σ μ H (match S[n]? with | some (.ins c fs) => if fs.length < 1000 then .ok () (S.set n (.ins c (setF fs f d))) else .no | _ => .no) Q := h
    cases e : S[n]? with
    | none => rw [e] at h; exact h.elim
    | some cc =>
      rw [e] at h
      cases cc with
      | ins c fs =>
        dsimp only at h
        split at h
        · rename_i hl
          obtain ⟨dx, gs, g1, g2⟩ := s.cell n _ a e e0
          have nx : Nx μ H μ (upd H a (.ins (A.ca c) dx (L2.putF f u gs))) := Nx.wr e0 g1 (fun _ z => nomatch z) (fun _ _ z => nomatch z)
          have s2 : Sto X.K A μ (S.set n (.ins c (setF fs f d))) (upd H a (.ins (A.ca c) dx (L2.putF f u gs))) := s.wr e e0 rfl nx ⟨dx, _, upd_same, (RF.put rd g2).mono nx⟩
          exact ⟨a, c, dx, gs, rfl, g1, by rw [← g2.length]; exact hl, h () μ _ nx s2 True.intro⟩
        · exact h.elim
      | _ => exact h.elim
  | _ => exact False.elim h
theorem os_asgF (F : Fits A G Γ X W) {a e : Expr} {f : Str} {a' e' : Ex} {p q : Pos} (ha : PE X a (uE X.K A W (ev G a'))) (he : PE X e (uE X.K A W (ev G e'))) (hf : f ∈ Γ.flds) : OkS X A G W (.Assign [.Attribute a f q] e p) (.asgF a' f e') := by
  refine PS.imp (ps_fld ha he (by cases e <;> rfl)) ?_
  rintro D σ H ⟨env, S, μ, hE, hS, h⟩
  have h : ContS X.K A W D μ H (bndS (ev G e' env >>= fun v => ev G a' env >>= fun x => putF x f v) env (fun _ S' => .go .nx env S') S) := h
  have h := ContS.bnd (R := fun _ _ (_ _ : Unit) => True) hE h
  refine ⟨env, S, μ, hE, hS, (Cont.bnd h).to ?_⟩
  rintro v H1 ⟨d, S1, μ1, n1, s1, r1, h1⟩
  refine ⟨env, S1, μ1, hE.mono n1, s1, (Cont.bnd h1).to ?_⟩
  rintro w H2 ⟨x, S2, μ2, n2, s2, r2, h2⟩
  obtain ⟨a0, c, dx, gs, rfl, g1, g2, _, S3, μ3, n3, s3, _, h3⟩ := put_sv s2 r2 (r1.mono n2) h2
  obtain ⟨k1, k2⟩ := F.fld f hf c
  exact ⟨a0, A.ca c, dx, gs, rfl, g1, k1, k2, g2, h3 σ μ3 _ Nx.refl s3 (hE.mono n3)⟩
theorem os_augF (F : Fits A G Γ X W) {a : Expr} {f : Str} {a' : Ex} {o : BOp} {k : Int} {kk : Nat} {p q q2 : Pos} (ha : PE X a (uE X.K A W (ev G a'))) (hf : f ∈ Γ.flds) (ho : o = .add ∨ o = .sub) :
    OkS X A G W (.AugAssign (.Attribute a f q) (opAst o) (.Constant (.int k) kk q2) p) (.augF a' f o (.int k)) := by
  have key : ∀ (g : Int → Int → Int) (rd : V → V → Hp → VK → Prop), (∀ x y S, augM o x y S = match x, y with | .int i, .int j => .ok (.int (g i j)) S | _, _ => .no) → InOp X (opAst o) rd → (∀ i j H Q, Q (.int (g i j)) H → rd (.int i) (.int j) H Q) →
      OkS X A G W (.AugAssign (.Attribute a f q) (opAst o) (.Constant (.int k) kk q2) p) (.augF a' f o (.int k)) := fun g rd hg hop hrd => by
    refine PS.imp (ps_fldaug ha pe_int hop) ?_
    rintro D σ H ⟨env, S, μ, hE, hS, h⟩
    have h : ContS X.K A W D μ H (bndS (ev G a' env >>= fun x => fldM x f >>= fun v => augM o v (.int k) >>= fun z => putF x f z) env (fun _ S' => .go .nx env S') S) := h
    have h := ContS.bnd (R := fun _ _ (_ _ : Unit) => True) hE h
    refine ⟨env, S, μ, hE, hS, (Cont.bnd h).to ?_⟩
    rintro v H1 ⟨x, S1, μ1, n1, s1, r1, h1⟩
    cases r1 with
    | @ref n a0 e0 =>
      have h1 : Cont X.K A W (fun _ _ (_ _ : Unit) => True) σ μ1 H1 (((Mi.getI n >>= fun p => Mi.ofO (p.2.lookup f)) >>= fun v => augM o v (.int k) >>= fun z => putF (.ref n) f z) S1) _ := h1
      rw [bnd_assoc] at h1
      obtain ⟨c, fs, dx, gs, g1, g2, g3, h1⟩ := Cont.getI s1 h1 e0
      obtain ⟨d, hd, h5⟩ := Cont.ofO h1
      have hq := g3.get (f := f)
      have hd : fs.lookup f = some d := hd
      rw [hd] at hq
      obtain ⟨u, q1, q2⟩ := hq
      have h6 : Cont X.K A W (fun _ _ (_ _ : Unit) => True) σ μ1 H1 (M.bnd (augM o d (.int k)) (fun z => putF (.ref n) f z) S1) _ := h5
      unfold M.bnd at h6
      rw [hg] at h6
      cases q2 with
      | int i =>
        obtain ⟨a1, c1, dx1, gs1, e1, f1, f2, _, S3, μ3, n3, s3, _, h7⟩ := put_sv s1 (.ref e0) (.int (g i k)) h6
        cases e1
        rw [g2] at f1
        injection f1 with f1
        injection f1 with z1 z2 z3
        subst z2 z3
        obtain ⟨k1, k2⟩ := F.fld f hf c
        refine ⟨a0, A.ca c, dx, gs, .int i, rfl, g2, k1, k2, q1, hrd _ _ _ _ ⟨dx, gs, g2, f2, ?_⟩⟩
        have h8 := h7 σ μ3 _ Nx.refl s3 (hE.mono n3)
        rw [← z1] at h8
        exact h8
      | _ => exact h6.elim
    | _ => exact False.elim h1
  rcases ho with rfl | rfl
  · exact key (fun i j => i + j) rAdd (fun x y S => by cases x <;> cases y <;> rfl) in_add fun i j H Q h => ⟨i, j, rfl, rfl, h⟩
  · exact key (fun i j => i - j) rSub (fun x y S => by cases x <;> cases y <;> rfl) in_sub fun i j H Q h => ⟨i, j, rfl, rfl, h⟩
end
end Mi

/-! Mi, part W: raise; try. -/
namespace Mi
open PySem PySem.Spec PyProof.Rows L2
theorem cx_no {P : Program} {w : World} {st : List PySem.Env} {H : Hp} {s : Shared} {e : Value} {s' : Shared} (h : L2.CX P w st H s (fun _ _ _ => False) e s') : False := by
  obtain ⟨_, _, _, _, _, _, _, _, _, _, _, _, z⟩ := h
  exact z
section
variable {X : Cx} {A : Adr} {G : Gen} {Γ : Gam} {W : WX} {K : PySem.W.Frag} {μ μ1 : List Addr} {H H1 : Hp}
theorem dbg_of {x : Str} (h : plainNm x = true) : (x == ("__debug__" : Str)) = false := by
  unfold plainNm at h
  simp only [Bool.and_eq_true, Bool.not_eq_true'] at h
  exact h.1.1
/-- the fields of an error, as they lie -/
theorem gs_look {fs : List Str} {ds : List D} {vs : List V} (hf : fs.length = 1 ∨ fs.length = 2 ∧ fs.Nodup) (hd : ds.length = fs.length) (r : RVs K A μ H ds vs) : ∀ f x, (fs.zip ds).lookup f = some x → ∃ v, (gsOf fs vs).lookup f = some v ∧ RV K A μ H x v := by
  intro f x h
  rcases hf with hf | ⟨hf, nd⟩
  · match fs, ds, vs, hf, hd, r, h with
    | [g], [d], vs, _, _, r, h =>
      obtain ⟨v, rfl, r1⟩ := r.one
      show ∃ w, (match f == g with | true => some v | false => none) = some w ∧ _
      have h : (match f == g with | true => some d | false => none) = some x := h
      cases e1 : f == g with
      | true =>
        rw [e1] at h
        cases h
        exact ⟨v, rfl, r1⟩
      | false => rw [e1] at h; cases h
  · match fs, ds, vs, hf, hd, r, h with
    | [g, g'], [d, d'], vs, _, _, r, h =>
      obtain ⟨v, u, rfl, r1, r2⟩ := r.two
      have ne : g ≠ g' := by simpa using nd
      show ∃ w, (match f == g' with | true => some u | false => (match f == g with | true => some v | false => none)) = some w ∧ _
      have h : (match f == g with | true => some d | false => (match f == g' with | true => some d' | false => none)) = some x := h
      cases e1 : f == g with
      | true =>
        rw [e1] at h
        cases h
        have e2 : (f == g') = false := by rw [beq_iff_eq.mp e1]; exact beq_eq_false_iff_ne.mpr ne
        rw [e2]
        exact ⟨v, rfl, r1⟩
      | false =>
        rw [e1] at h
        cases e2 : f == g' with
        | true =>
          rw [e2] at h
          cases h
          exact ⟨u, rfl, r2⟩
        | false => rw [e2] at h; cases h
theorem os_raise (F : Fits A G Γ X W) {x : Str} {i : Nat} {fs : List Str} {es : List Expr} {ms : List Ex} {p pos pos' : Pos} (hg : isGl Γ.sc x = true) (hp : plainNm x = true) (hx : Γ.glob.lookup x = some (.xc i fs)) (h : Oks X A G W es ms) (hl : ms.length = fs.length) :
    OkS X A G W (.Raise (some (.Call (.Name x p) es [] pos)) none pos') (.raise i fs ms) := by
  have q := F.xcs x i fs hx
  have hlen := h.len
  cases es with
  | nil =>
    have e0 : ms = [] := List.length_eq_zero_iff.mp (by rw [← hlen]; rfl)
    subst e0
    have e1 : fs = [] := List.length_eq_zero_iff.mp (by rw [← hl]; rfl)
    subst e1
    obtain ⟨q1, q2⟩ := q.no rfl
    refine PS.imp (ps_raise F.calm F.tk (pmk_own0 PySem.F.excBase_ValueError q1 q.gm q2 q.rs (F.gl hg) (dbg_of hp))) ?_
    rintro D σ H ⟨env, S, μ, hE, hS, hh⟩
    exact hh _ none σ μ H Nx.refl hS hE ⟨rfl, fun ne => absurd rfl ne⟩
  | cons e es =>
    have ne : fs ≠ [] := by
      intro e0
      rw [e0] at hl
      rw [hl] at hlen
      cases hlen
    obtain ⟨T, _, _, hf, fI, fd, ps, iC, tI, hb, hr, F1⟩ := q.yes ne
    have hs := h.star e List.mem_cons_self
    refine PS.imp (ps_raise F.calm F.tk (pmk_oex (ds := []) (dvs := []) T iC tI F1 hr hb .nil (fun _ _ _ _ _ _ _ c => (cx_no c).elim) (F.gl hg) q.gm (pa_of h) (dbg_of hp) (star_cons hs) (star_none fun e' he => h.star e' (List.mem_cons_of_mem _ he)))) ?_
    rintro D σ H ⟨env, S, μ, hE, hS, hh⟩
    refine ⟨env, S, μ, hE, hS, (ContS.bnd (R := RVs X.K A) hE hh).to ?_⟩
    rintro vs H1 ⟨ds, S1, μ1, n1, s1, r1, h1⟩
    split at h1
    · rename_i hd
      have hv : vs.length = fs.length := by rw [← r1.length]; exact hd
      have hf2 : fs.length ≤ 1000 := by rcases hf with hf | ⟨hf, _⟩ <;> omega
      refine ini_read (Q := fun cls d H' => W cls d σ H') hv hf2 fun d nd => ?_
      refine h1 _ (some d) σ μ1 _ (Nx.newT nd) (s1.newT nd) ((hE.mono n1).mono (Nx.newT nd)) ⟨rfl, fun _ => ⟨d, gsOf fs vs, rfl, upd_same, ?_⟩⟩
      intro f x hx
      obtain ⟨v, e1, e2⟩ := gs_look hf hd r1 f x hx
      exact ⟨v, e1, e2.mono (Nx.newT nd)⟩
    · exact h1.elim
/-! ### try -/
theorem pe_litC {c : Const} {d : Mi.D} (h : litOf c = some d) : ∃ v, (∀ (X : Cx) (j : Nat) (p : Pos), PE X (.Constant c j p) (tC v)) ∧ ∀ K A μ H, RV K A μ H d v := by
  unfold litOf at h
  split at h
  · cases h; exact ⟨_, fun _ _ _ => pe_int, fun _ _ _ _ => .int _⟩
  · cases h; exact ⟨_, fun _ _ _ => pe_str, fun _ _ _ _ => .str _⟩
  · cases h; exact ⟨_, fun _ _ _ => pe_bl, fun _ _ _ _ => .bl _⟩
  · cases h; exact ⟨_, fun _ _ _ => ⟨fun _ _ _ H _ I h => Constant_none ⟨.non, H, I, rfl, h⟩⟩, fun _ _ _ _ => .non⟩
  · cases h
/-- a name whose slot is there -/
theorem pe_varL {X : Cx} {i : Nat} {x : Str} {pos : Pos} (hN : X.N[i]? = some x) (hv : Vis X.env.scope x) (hd : (x == ("__debug__" : Str)) = false) (hcd : (x == ("__classdict__" : Str)) = false) : PE X (.Name x pos) (fun σ H Q => σ.length = X.N.length → tVar i σ H Q) :=
  ⟨fun pins s σ H Q I q => (pe_var hN hv hd hcd).run pins s σ H Q I (q I.len)⟩
/-- what a clause does with the ends -/
def endsOf (nm : Option Nat) (E : Ends) : Ends := match nm with
  | none => E
  | some i => { nx := fun σ' H' => E.nx (σ'.set i none) H', rt := E.rt, bk := fun σ' H' => E.bk (σ'.set i none) H', ct := fun σ' H' => E.ct (σ'.set i none) H' }
def namIn (nm : Option Nat) (a : Addr) (σ : L2.St) : L2.St := match nm with
  | none => σ
  | some i => σ.set i (some (.ref a))
theorem wMix_cons {E : Ends} {c : Value} {nm : Option Nat} {ts : Addr → Value → Option Addr → TS} {l : List (Value × Option Nat × (Addr → Value → Option Addr → TS))} {cls : Value} {d : Option Addr} {σ : L2.St} {b : Bool} (hb : PySem.W.exmOne K cls c = some b) (h1 : b = true → ∀ a, H a = none → ts a cls d (endsOf nm E) (namIn nm a σ) H) (h2 : b = false → wMix K W E l cls d σ H) :
    wMix K W E ((c, nm, ts) :: l) cls d σ H := by
  cases nm with
  | none => exact ⟨b, hb, h1, h2⟩
  | some i => exact ⟨b, hb, h1, h2⟩
theorem ER.setN {env : Env} {σ : L2.St} (h : ER K A μ H env σ) (i : Nat) : ER K A μ H (env.set i none) (σ.set i none) := by
  refine ⟨by rw [List.length_set, List.length_set]; exact h.len, fun j d e => ?_⟩
  by_cases hj : i = j
  · subst hj
    rw [List.getElem?_set] at e
    split at e
    · split at e <;> cases e
    · exact absurd rfl ‹_›
  · rw [List.getElem?_set_ne hj] at e ⊢
    exact h.at_ j d e
/-- the reading of a clause -/
def HdSays (X : Cx) (A : Adr) (hd : Hdl) (ts : Addr → Value → Option Addr → TS) : Prop :=
  ∀ (W : WX) (E : Ends) (e : Exn) (env : Env) (S : Store) (σ : L2.St) (μ : List Addr) (H : Hp) (a : Addr) (cls : Value) (dd : Option Addr), ER X.K A μ H env σ → Sto X.K A μ S H → RX X.K A μ H e cls dd → ContS X.K A W E μ H (runR hd e env S) → ts a cls dd (endsOf hd.nm E) (namIn hd.nm a σ) H
theorem hd_ok (F : Fits A G Γ X W) {h : ExceptHandler} {hd : Hdl} (q : cH Γ h = some hd) : Γ.sub[hd.c]? = some hd.ms ∧ ∃ ts, HdSays X A hd ts ∧ ∀ {hds l}, HdsM X hds l → HdsM X (h :: hds) ((.ref (A.xa hd.c), hd.nm, ts) :: l) := by
  unfold cH at q
  split at q
  · rename_i x np nm st pos'
    split at q
    · rename_i hc
      rw [Bool.and_eq_true] at hc
      split at q
      · rename_i c fs hx
        split at q
        · rename_i ms r e1 e2
          have xh := F.xcs x c fs hx
          have nmx : Names X x (.ref (A.xa c)) := ⟨F.gl hc.2, dbg_of hc.1, .inl xh.gm⟩
          have key : ∀ (hd : Hdl), hd.c = c → hd.ms = ms → hd.r = r → (nm = none → hd.nm = none) → (∀ n, nm = some n → ∃ i, hd.nm = some i ∧ ixOf n Γ.N = some i ∧ Γ.sc.names.lookup n = some .local) →
              Γ.sub[hd.c]? = some hd.ms ∧ ∃ ts, HdSays X A hd ts ∧ ∀ {hds l}, HdsM X hds l → HdsM X (.ExceptHandler (some (.Name x np)) nm [st] pos' :: hds) ((.ref (A.xa hd.c), hd.nm, ts) :: l) := by
            intro hd h1 h2 h3 h4 h5
            refine ⟨by rw [h1, h2]; exact e1, ?_⟩
            have mk : ∀ {ts : Addr → Value → Option Addr → TS}, (∀ (a : Addr) (oe : Obj) (cls : Value) (d : Option Addr) (pn : List (Addr × Obj)), Zc cls d oe → (∃ vs, oe.data = .fields vs) → PSs (X.suite a ((a, oe) :: pn)) [st] (ts a cls d)) → ∀ {hds l}, HdsM X hds l → HdsM X (.ExceptHandler (some (.Name x np)) nm [st] pos' :: hds) ((.ref (A.xa hd.c), hd.nm, ts) :: l) := by
              intro ts hsu hds l r
              rw [h1]
              cases nm with
              | none => rw [h4 rfl]; exact .one nmx hsu r
              | some n =>
                obtain ⟨i, hi1, hi2, hi3⟩ := h5 n rfl
                rw [hi1]
                exact .nam nmx (by rw [F.N]; exact ixOf_get hi2) (by show X.env.scope.names.lookup n = _; rw [F.sc]; exact hi3) hsu r
            have rt : ∀ (nm : Option Nat) (E : Ends), (endsOf nm E).rt = E.rt := fun nm E => by cases nm <;> rfl
            unfold cHR at e2
            split at e2
            · rename_i c0 j0 p0 p1
              rw [Option.map_eq_some_iff] at e2
              obtain ⟨d, e2, e3⟩ := e2
              obtain ⟨v, pe, rv⟩ := pe_litC e2
              refine ⟨fun _ _ _ => tRet (tC v), ?_, mk fun a oe cls d pn hz hf => pss_one (ps_ret (pe _ _ _))⟩
              intro W E e env S σ μ H a cls dd hE hS hX hh
              unfold runR at hh
              rw [h3, ← e3] at hh
              show (endsOf hd.nm E).rt v H
              rw [rt]
              exact hh v μ H Nx.refl hS (rv _ _ _ _)
            · rename_i y p0 f p1 p2
              split at e2
              · rename_i hy
                simp only [Bool.and_eq_true, decide_eq_true_eq] at hy
                cases e2
                obtain ⟨i, hi1, hi2, hi3⟩ := h5 y hy.1
                have hy2 := hy.2.1
                obtain ⟨T, xf, hno, _⟩ := xh.yes (fun z => by rw [z] at hy; exact absurd hy.2.2 (by simp))
                have cd : (y == ("__classdict__" : Str)) = false := by
                  unfold plainNm at hy2
                  simp only [Bool.and_eq_true, Bool.not_eq_true'] at hy2
                  exact hy2.1.2
                refine ⟨fun a cls d => tRet (tXf a cls d (A.xa c) f (fun σ H Q => σ.length = X.N.length → tVar i σ H Q)), ?_, mk fun a oe cls d pn hz hf => pss_one (ps_ret (pe_xf xf (hno f hy.2.2) hz hf (pe_varL (by show X.N[i]? = _; rw [F.N]; exact ixOf_get hi2) (.inl (by show X.env.scope.names.lookup y = _; rw [F.sc]; exact hi3)) (dbg_of hy2) cd)))⟩
                intro W E e env S σ μ H a cls dd hE hS hX hh
                unfold runR at hh
                rw [h3] at hh
                dsimp only at hh
                split at hh
                · rename_i hc2
                  split at hh
                  · rename_i d hd2
                    have hne : e.fs ≠ [] := fun z => by rw [z] at hd2; cases hd2
                    obtain ⟨da, gs, rfl, hda, hgs⟩ := hX.fld hne
                    obtain ⟨v, hv1, hv2⟩ := hgs f d hd2
                    rw [hi1]
                    intro hlen
                    have hil : i < σ.length := by
                      have h6 : (σ.set i (some (.ref a))).length = X.N.length := hlen
                      rw [List.length_set] at h6
                      rw [h6, F.N]
                      exact (List.getElem?_eq_some_iff.mp (ixOf_get hi2)).1
                    refine ⟨.ref a, List.getElem?_set_self hil, rfl, ?_, da, gs, v, rfl, hda, hv1, ?_⟩
                    · rw [hX.cls, hc2, h1]
                    · exact hh v μ H Nx.refl hS hv2
                  · exact hh.elim
                · exact hh.elim
              · cases e2
            · cases e2
              refine ⟨fun _ _ _ => tNext, ?_, mk fun a oe cls d pn hz hf => pss_one ps_pass⟩
              intro W E e env S σ μ H a cls dd hE hS hX hh
              unfold runR Hdl.wipe at hh
              rw [h3] at hh
              show (endsOf hd.nm E).nx (namIn hd.nm a σ) H
              revert hh
              cases hd.nm with
              | none => exact fun hh => hh σ μ H Nx.refl hS hE
              | some i =>
                intro hh
                show E.nx ((σ.set i _).set i none) H
                rw [List.set_set]
                exact hh _ μ H Nx.refl hS (hE.setN i)
            · cases e2
              refine ⟨fun _ _ _ => tCont, ?_, mk fun a oe cls d pn hz hf => pss_one ps_continue⟩
              intro W E e env S σ μ H a cls dd hE hS hX hh
              unfold runR Hdl.wipe at hh
              rw [h3] at hh
              show (endsOf hd.nm E).ct (namIn hd.nm a σ) H
              revert hh
              cases hd.nm with
              | none => exact fun hh => hh σ μ H Nx.refl hS hE
              | some i =>
                intro hh
                show E.ct ((σ.set i _).set i none) H
                rw [List.set_set]
                exact hh _ μ H Nx.refl hS (hE.setN i)
            · cases e2
          cases nm with
          | none =>
            cases q
            exact key _ rfl rfl rfl (fun _ => rfl) fun n z => nomatch z
          | some n =>
            have q : (if decide (Γ.sc.names.lookup n = some .local) then (ixOf n Γ.N).map fun i => (⟨c, ms, some i, r⟩ : Hdl) else none) = some hd := q
            split at q
            · rename_i hn
              rw [Option.map_eq_some_iff] at q
              obtain ⟨i, q2, rfl⟩ := q
              exact key _ rfl rfl rfl (fun z => nomatch z) fun n' z => by cases z; exact ⟨i, rfl, q2, of_decide_eq_true hn⟩
            · cases q
        · cases q
      · cases q
    · cases q
  · cases q
theorem hds_ok (F : Fits A G Γ X W) : ∀ {hs : List ExceptHandler} {hds : List Hdl}, optAll (cH Γ) hs = some hds → ∃ l, HdsM X hs l ∧
    ∀ (W : WX) (E : Ends) (e : Exn) (env : Env) (S : Store) (σ : L2.St) (μ : List Addr) (H : Hp) (cls : Value) (dd : Option Addr), ER X.K A μ H env σ → Sto X.K A μ S H → RX X.K A μ H e cls dd → ContS X.K A W E μ H (runH hds e env S) → wMix X.K W E l cls dd σ H
  | [], hds, q => by
    cases q
    exact ⟨[], .nil, fun W E e env S σ μ H cls dd hE hS hX hh => hh cls dd σ μ H Nx.refl hS hE hX⟩
  | h :: hs, hds, q => by
    unfold optAll at q
    split at q
    · rename_i hd hds' e1 e2
      cases q
      obtain ⟨hs1, ts, r1, m1⟩ := hd_ok F e1
      obtain ⟨l, m2, r2⟩ := hds_ok F e2
      refine ⟨_, m1 m2, fun W E e env S σ μ H cls dd hE hS hX hh => ?_⟩
      unfold runH at hh
      cases hb : hd.ms[e.x]? with
      | none => rw [hb] at hh; exact hh.elim
      | some b =>
        rw [hb] at hh
        have hx := F.sub hd.c hd.ms hs1 e.x b hb
        rw [← hX.cls] at hx
        cases b with
        | true => exact wMix_cons hx (fun _ a _ => r1 W E e env S σ μ H a cls dd hE hS hX hh) nofun
        | false => exact wMix_cons hx nofun fun _ => r2 W E e env S σ μ H cls dd hE hS hX hh
    · cases q
theorem Fits.tr (F : Fits A G Γ X W) {W' : WX} (pn : List (Addr × Obj)) (xe : Value → Shared → Prop) (tk : Takes (X.tr pn xe) W') : Fits A G Γ (X.tr pn xe) W' where
  N := F.N
  nd := F.nd
  sc := F.sc
  w := F.w
  fn := F.fn
  calm := F.calm
  tk := tk
  units := F.units
  grd := F.grd
  blt := F.blt
  cst := F.cst
  fns := F.fns
  xcs := fun x i fs h => ⟨(F.xcs x i fs h).gm, (F.xcs x i fs h).rs, (F.xcs x i fs h).no, (F.xcs x i fs h).yes⟩
  cls := F.cls
  fld := F.fld
  mts := F.mts
  sub := F.sub
theorem os_try (F : Fits A G Γ X W) (hst : X.stack = X.env :: X.outer) (hfr : X.env.frame = some X.env.locals) {b : List Stmt} {b' : List Sx} {h : ExceptHandler} {hs : List ExceptHandler} {hds : List Hdl} {p : Pos}
    (hb : ∀ (W' : WX) (pn : List (Addr × Obj)) (xe : Value → Shared → Prop), Takes (X.tr pn xe) W' → PassesOwn (model X.prog X.w) X.A X.env xe → OkSs (X.tr pn xe) A G W' b b') (hh : optAll (cH Γ) (h :: hs) = some hds) : OkS X A G W (.Try b (h :: hs) [] [] p) (.try_ b' hds) := by
  obtain ⟨l, m, r⟩ := hds_ok F hh
  refine PS.imp (ps_try_mix (tb := fun W' => uS X.K A W' (xss G b')) hst hfr (by rw [F.N]; exact F.nd) F.tk hb m) ?_
  rintro D σ H ⟨env, S, μ, hE, hS, q⟩
  refine ⟨env, S, μ, hE, hS, ?_⟩
  have q : ContS X.K A W D μ H (match xss G b' env S with | .er e env' S' => runH hds e env' S' | r => r) := q
  cases e : xss G b' env S with
  | no => rw [e] at q; exact q
  | er x env' S' => rw [e] at q; exact fun cls dd σ' μ' H' n s he rx => r W D x env' S' σ' μ' H' cls dd he s rx (q.trans n)
  | go f env' S' => rw [e] at q; cases f <;> exact q
end
end Mi

/-! Mi, part N: all statements; the rubbish behind a call; defs. -/
namespace Mi
open PySem PySem.Spec PyProof.Rows L2
section
variable {X : Cx} {A : Adr} {G : Gen} {Γ : Gam} {W : WX}

theorem lc_inv {n : Nat} {e : Expr} {m : Ex} (hl : isLc e = true) (hdc : isDc e = false) (h : cE Γ n e = some m) : ∃ k elt tg iter ifs scope pos it t c x, n = k + 1 ∧ e = .ListComp elt [⟨tg, iter, ifs, 0⟩] scope pos ∧ m = .lc it t ((ownOf Γ.N scope).map (·.2)) c x ∧
    blkC Γ.N Γ.sc scope (ownOf Γ.N scope) = true ∧ cI Γ k tg iter = some it ∧ cTg (Γ.blk scope) tg = some t ∧ cC (Γ.blk scope) k ifs = some c ∧ cE (Γ.blk scope) k elt = some x ∧ (t.ixs.all fun i => decide (i ∈ (ownOf Γ.N scope).map (·.2))) = true := by
  cases n with
  | zero => cases h
  | succ k =>
    cases e with
    | ListComp elt gens scope pos =>
      unfold cE at h
      split at h
      all_goals first
        | (rename_i heq; cases heq; done)
        | (cases h; done)
        | skip
      rename_i elt' tg iter ifs scope' pos' heq
      cases heq
      dsimp only at h
      split at h
      · rename_i hb
        split at h
        · rename_i it t c x e1 e2 e3 e4
          split at h
          · rename_i ha
            cases h
            exact ⟨k, elt, tg, iter, ifs, scope, pos, it, t, c, x, rfl, rfl, rfl, hb, e1, e2, e3, e4, ha⟩
          · cases h
        · cases h
      · cases h
    | SetComp elt gens scope pos => unfold cE at h; cases h
    | DictComp a b gens scope pos => cases hdc
    | _ => cases hl
/-- ALL STATEMENTS -/
theorem goodS (n : Nat) : ∀ {X : Cx} {W : WX}, Fits A G Γ X W → PassesOwn (model X.prog X.w) X.A X.env X.xe → X.stack = X.env :: X.outer → X.env.frame = some X.env.locals → (∀ (s : Stmt) (m : Sx), cS Γ n s = some m → OkS X A G W s m) ∧ ∀ (s : List Stmt) (m : List Sx), cSs Γ n s = some m → OkSs X A G W s m := by
  induction n with
  | zero => intro X W F hp hst hfr; exact ⟨fun s m h => (by cases h), fun s m h => (by cases h)⟩
  | succ n ih0 =>
    intro X W F hp hst hfr
    obtain ⟨ih1, ih2⟩ := ih0 F hp hst hfr
    have E : ∀ {e : Expr} {m : Ex}, cE Γ n e = some m → PE X e (uE X.K A W (ev G m)) := fun q => (good_all A G n X Γ W F _ _ q).1.1
    have T : ∀ {e : Expr} {m : Ex}, cE Γ n e = some m → PT X e (uT X.K A W (evT G m)) := fun q => (good_all A G n X Γ W F _ _ q).1.2
    have L : ∀ {e : Expr} {m : Ex}, cE Γ n e = some m → isSlc e = false := fun q => (good_all A G n X Γ W F _ _ q).2.2.2
    constructor
    · intro s m h
      unfold cS at h
      split at h
      · split at h
        · cases h
        · rename_i hl
          rw [Option.map_eq_some_iff] at h
          obtain ⟨m', q, rfl⟩ := h
          exact os_expr (E q) (by simpa using hl)
      · split at h
        · cases h
        · rename_i hl
          split at h
          · rename_i a' e' e1 e2
            cases h
            exact os_asgF F (E e1) (E e2) (by simpa using hl)
          · cases h
      · split at h
        · rename_i hf
          split at h
          · rename_i o' a' e1 e2
            split at h
            · rename_i ho
              cases h
              rw [← bop_ast e1]
              exact os_augF F (E e2) (of_decide_eq_true hf) (by simpa using ho)
            · cases h
          · cases h
        · cases h
      · split at h
        · cases h
        · rename_i hl
          split at h
          · rename_i a' i' e' e1 e2 e3
            cases h
            exact os_set F (E e1) (E e2) (E e3) (L e2) (by simpa using hl)
          · cases h
      · split at h
        · rename_i i j es' e1 e2 e3
          split at h
          · rename_i hp
            cases h
            exact os_par F e1 e2 (Good.row (good_all A G n) F e3) hp
          · cases h
        · cases h
      · rename_i t e p hns hns2 hns3
        split at h
        · rename_i hc
          rw [Bool.and_eq_true] at hc
          obtain ⟨hc0, hc⟩ := hc
          split at h
          · rename_i t' e' e1 e2
            cases h
            by_cases hn : isNm t = true
            · cases t with
              | Name x q =>
                by_cases hl : isLc e = true
                · obtain ⟨k, elt, tg, iter, ifs, scope, pos, it, t, c, x', rfl, rfl, rfl, hb, q1, q2, q3, q4, q5⟩ := lc_inv hl (by simpa using hc0) e2
                  have hi := Good.iter (n := k) (fun j _ => good_all A G j) F q1
                  exact os_asgLc F e1 hi.1 (by rw [F.N, F.sc]; exact blkOk_by hb) q2 (fun i hi => of_decide_eq_true (List.all_eq_true.mp q5 i hi)) (fun s H C cl fp => Good.tests (n := k) (fun j _ => good_all A G j) (F.blk _ s H C cl fp) q3)
                    (fun s H C cl fp => (good_all A G k _ _ _ (F.blk _ s H C cl fp) _ _ q4).1.1) hi.2
                · exact os_asgN F e1 (E e2) (by simpa using hl)
              | _ => cases hn
            · simp only [Bool.or_eq_true, Bool.and_eq_true, Bool.not_eq_true'] at hc
              rcases hc with hc | hc
              · exact absurd hc hn
              · exact os_asgT F e1 (E e2) hc.1 hc.2
          · cases h
        · cases h
      · split at h
        · rename_i i o' e' e1 e2 e3
          split at h
          · rename_i ho
            cases h
            rw [← bop_ast e2]
            rw [Bool.or_eq_true] at ho
            exact os_aug F e1 (E e3) (ho.imp (fun z => of_decide_eq_true z) (fun z => of_decide_eq_true z))
          · cases h
        · cases h
      · split at h
        · rename_i c' a' b' e1 e2 e3
          cases h
          exact os_if (T e1) (ih2 _ _ e2) (ih2 _ _ e3)
        · cases h
      · split at h
        · rename_i c' b' e1 e2
          cases h
          exact os_while hp (T e1) (ih2 _ _ e2)
        · cases h
      · split at h
        · rename_i t' i' b' e1 e2 e3
          cases h
          have hi := Good.iter (n := n) (fun k _ => good_all A G k) F e2
          exact os_for F hp e1 hi.1 hi.2 (ih2 _ _ e3)
        · cases h
      · rw [Option.map_eq_some_iff] at h
        obtain ⟨m', q, rfl⟩ := h
        exact os_ret (E q)
      · cases h; exact os_retN
      · cases h; exact os_brk
      · cases h; exact os_cnt
      · cases h; exact os_pass
      · split at h
        · rename_i hc
          rw [Bool.and_eq_true] at hc
          split at h
          · rename_i i fs es' e1 e2
            split at h
            · rename_i hl
              cases h
              exact os_raise F hc.2 hc.1 e1 (Good.row (good_all A G n) F e2) (of_decide_eq_true hl)
            · cases h
          · cases h
        · cases h
      · split at h
        · rename_i b' hs' e1 e2
          cases h
          exact os_try F hst hfr (fun W' pn xe tk hpo => (ih0 (F.tr pn xe tk) hpo hst hfr).2 _ _ e1) e2
        · cases h
      · cases h
    · intro s m h
      cases s with
      | nil =>
        have h : some [] = some m := h
        cases h
        exact os_nil
      | cons s ss =>
        have h : (match cS Γ n s, cSs Γ n ss with | some s', some ss' => some (s' :: ss') | _, _ => none) = some m := h
        split at h
        · rename_i s' ss' e1 e2
          cases h
          exact os_cons (ih1 _ _ e1) (ih2 _ _ e2)
        · cases h
end
end Mi

/-! Mi, part O: the rubbish behind a call; the defs of a text. -/
namespace Mi
open PySem PySem.Spec PyProof.Rows L2

/-! ### alike, without numbers of the store -/
def sameF : List (Str × D) → List (Str × D) → Bool
  | [], [] => true
  | (f, a) :: as, (g, b) :: bs => decide (f = g) && (D.same a b && sameF as bs)
  | _, _ => false
def pureF : List (Str × D) → Bool
  | [] => true
  | (_, a) :: as => D.pure a && pureF as
theorem sameF_eq : ∀ {a b : List (Str × D)}, sameF a b = true → a = b
  | [], b, h => by cases b <;> first | rfl | cases h
  | (f, a) :: as, b, h => by
    cases b with
    | nil => cases h
    | cons b bs =>
      obtain ⟨g, b⟩ := b
      have h : (decide (f = g) && (D.same a b && sameF as bs)) = true := h
      rw [Bool.and_eq_true, Bool.and_eq_true] at h
      rw [of_decide_eq_true h.1, same_eq h.2.1, sameF_eq h.2.2]
theorem sameF_refl : ∀ a : List (Str × D), sameF a a = true
  | [] => rfl
  | (f, a) :: as => by
    show (decide (f = f) && (D.same a a && sameF as as)) = true
    rw [decide_eq_true rfl, same_refl, sameF_refl as]
    rfl
def sameK : List (D × D) → List (D × D) → Bool
  | [], [] => true
  | (f, a) :: as, (g, b) :: bs => D.same f g && (D.same a b && sameK as bs)
  | _, _ => false
theorem sameK_eq : ∀ {a b : List (D × D)}, sameK a b = true → a = b
  | [], b, h => by cases b <;> first | rfl | cases h
  | (f, a) :: as, b, h => by
    cases b with
    | nil => cases h
    | cons b bs =>
      obtain ⟨g, b⟩ := b
      have h : (D.same f g && (D.same a b && sameK as bs)) = true := h
      rw [Bool.and_eq_true, Bool.and_eq_true] at h
      rw [same_eq h.1, same_eq h.2.1, sameK_eq h.2.2]
theorem sameK_refl : ∀ a : List (D × D), sameK a a = true
  | [] => rfl
  | (f, a) :: as => by
    show (D.same f f && (D.same a a && sameK as as)) = true
    rw [same_refl, same_refl, sameK_refl as]
    rfl
def Cell.same : Cell → Cell → Bool
  | .dic a, .dic b => sameK a b
  | .lst a, .lst b => sames a b
  | .frz a, .frz b => sames a b
  | .ins c a, .ins d b => decide (c = d) && sameF a b
  | _, _ => false
def Cell.pure : Cell → Bool
  | .lst a => pures a
  | .frz a => pures a
  | .ins _ a => pureF a
  | .dic _ => false
theorem Cell.same_eq : ∀ {a b : Cell}, Cell.same a b = true → a = b
  | .lst a, b, h => by
    cases b with
    | lst b => rw [sames_eq (show sames a b = true from h)]
    | _ => cases h
  | .frz a, b, h => by
    cases b with
    | frz b => rw [sames_eq (show sames a b = true from h)]
    | _ => cases h
  | .ins c a, b, h => by
    cases b with
    | ins d b =>
      have h : (decide (c = d) && sameF a b) = true := h
      rw [Bool.and_eq_true] at h
      rw [of_decide_eq_true h.1, sameF_eq h.2]
    | _ => cases h
  | .dic a, b, h => by
    cases b with
    | dic b => rw [sameK_eq (show sameK a b = true from h)]
    | _ => cases h
theorem Cell.same_refl : ∀ a : Cell, Cell.same a a = true
  | .lst a => sames_refl a
  | .frz a => sames_refl a
  | .ins k a => by show (decide (k = k) && sameF a a) = true; rw [sameF_refl, decide_eq_true rfl]; rfl
  | .dic a => sameK_refl a
mutual
/-- all numbers below n -/
def D.low (n : Nat) : D → Bool
  | .ref r => decide (r < n)
  | .tup ds => lows n ds
  | _ => true
def lows (n : Nat) : List D → Bool
  | [] => true
  | d :: ds => D.low n d && lows n ds
end
def lowF (n : Nat) : List (Str × D) → Bool
  | [] => true
  | (_, a) :: as => D.low n a && lowF n as
def lowV (n : Nat) : List (D × D) → Bool
  | [] => true
  | (_, a) :: as => D.low n a && lowV n as
theorem lowV_mem {n : Nat} : ∀ {l : List (D × D)}, lowV n l = true → ∀ p ∈ l, D.low n p.2 = true
  | [], _, p, h => nomatch h
  | (k, a) :: as, h, p, hp => by
    have h : (D.low n a && lowV n as) = true := h
    rw [Bool.and_eq_true] at h
    rcases List.mem_cons.mp hp with rfl | hp
    · exact h.1
    · exact lowV_mem h.2 p hp
theorem paired_to {α β : Type} {R R' : α → β → Prop} {xs : List α} {ys : List β} (h : Paired R xs ys) : (∀ x ∈ xs, ∀ y, R x y → R' x y) → Paired R' xs ys := by
  induction h with
  | nil => exact fun _ => .nil
  | cons z t ih => exact fun w => .cons (w _ List.mem_cons_self _ z) (ih fun x hx => w x (List.mem_cons_of_mem _ hx))
theorem paired_left {α β : Type} {R : α → β → Prop} {xs : List α} {ys : List β} (h : Paired R xs ys) : ∀ x ∈ xs, ∃ y, R x y := by
  induction h with
  | nil => exact fun x hx => nomatch hx
  | cons z t ih =>
    intro x hx
    rcases List.mem_cons.mp hx with rfl | hx
    · exact ⟨_, z⟩
    · exact ih x hx
def Cell.low (n : Nat) : Cell → Bool
  | .lst a => lows n a
  | .frz a => lows n a
  | .ins _ a => lowF n a
  | .dic kvs => lowV n kvs
mutual
theorem low_of_pure {n : Nat} : ∀ {d : D}, D.pure d = true → D.low n d = true
  | .non, _ => rfl
  | .bl _, _ => rfl
  | .int _, _ => rfl
  | .str _, _ => rfl
  | .fn _, _ => rfl
  | .ty _, _ => rfl
  | .tup ds, h => lows_of_pures h
theorem lows_of_pures {n : Nat} : ∀ {ds : List D}, pures ds = true → lows n ds = true
  | [], _ => rfl
  | d :: ds, h => by
    have h : (D.pure d && pures ds) = true := h
    rw [Bool.and_eq_true] at h
    show (D.low n d && lows n ds) = true
    rw [low_of_pure h.1, lows_of_pures h.2]
    rfl
end
theorem lowF_of_pureF {n : Nat} : ∀ {fs : List (Str × D)}, pureF fs = true → lowF n fs = true
  | [], _ => rfl
  | (f, d) :: ds, h => by
    have h : (D.pure d && pureF ds) = true := h
    rw [Bool.and_eq_true] at h
    show (D.low n d && lowF n ds) = true
    rw [low_of_pure h.1, lowF_of_pureF h.2]
    rfl
theorem Cell.low_of_pure {n : Nat} {c : Cell} (h : Cell.pure c = true) : Cell.low n c = true := by
  cases c with
  | lst a => exact lows_of_pures h
  | frz a => exact lows_of_pures h
  | ins k a => exact lowF_of_pureF h
  | dic a => cases h
/-- what stood is as it was, or names only what stood -/
def gcOkN (n : Nat) : Store → Store → Bool
  | [], _ => true
  | c :: S, c' :: S' => (Cell.same c' c || Cell.low n c') && gcOkN n S S'
  | _ :: _, [] => false
def gcOk (S S' : Store) : Bool := gcOkN S.length S S'
/-- what a call leaves behind without names goes -/
def gc (S : Store) : Out D → Out D
  | .ok d S' => if gcOk S S' then
      if D.low S.length d then .ok d (S'.take S.length)
      else match d with
        | .ref n => if decide (S.length ≤ n) then match S'[n]? with
            | some c => if Cell.low S.length c then .ok (.ref S.length) (S'.take S.length ++ [c]) else .ok d S'
            | none => .ok d S'
          else .ok d S'
        | _ => .ok d S'
    else .ok d S'
  | .er e S' => if gcOk S S' && lowF S.length e.fs then .er e (S'.take S.length) else .er e S'
  | .no => .no

section
variable {K : PySem.W.Frag} {A : Adr} {μ μ' μ1 : List Addr} {H H' H1 : Hp}
mutual
theorem RV.free {n : Nat} (hp : ∀ (i : Nat) (a : Addr), i < n → μ'[i]? = some a → μ[i]? = some a) : ∀ {d : D} {v : V}, D.low n d = true → RV K A μ' H' d v → RV K A μ H' d v
  | _, _, _, .non => .non
  | _, _, _, .bl b => .bl b
  | _, _, _, .int i => .int i
  | _, _, _, .str x => .str x
  | _, _, h, .tup q r => .tup q (RVs.free hp h r)
  | _, _, h, .ref e => .ref (hp _ _ (of_decide_eq_true h) e)
  | _, _, _, .fn f => .fn f
  | _, _, _, .ty t => .ty t
theorem RVs.free {n : Nat} (hp : ∀ (i : Nat) (a : Addr), i < n → μ'[i]? = some a → μ[i]? = some a) : ∀ {ds : List D} {vs : List V}, lows n ds = true → RVs K A μ' H' ds vs → RVs K A μ H' ds vs
  | _, _, _, .nil => .nil
  | _, _, h, .cons r q => by
    have h : (D.low n _ && lows n _) = true := h
    rw [Bool.and_eq_true] at h
    exact .cons (RV.free hp h.1 r) (RVs.free hp h.2 q)
end
theorem RF.free {n : Nat} (hp : ∀ (i : Nat) (a : Addr), i < n → μ'[i]? = some a → μ[i]? = some a) : ∀ {fs : List (Str × D)} {gs : List (Str × V)}, lowF n fs = true → RF K A μ' H' fs gs → RF K A μ H' fs gs
  | _, _, _, .nil => .nil
  | _, _, h, .cons r q => by
    have h : (D.low n _ && lowF n _) = true := h
    rw [Bool.and_eq_true] at h
    exact .cons (RV.free hp h.1 r) (RF.free hp h.2 q)
mutual
theorem RV.grow (hp : ∀ (i : Nat) (a : Addr), μ[i]? = some a → μ'[i]? = some a) : ∀ {d : D} {v : V}, RV K A μ H d v → RV K A μ' H d v
  | _, _, .non => .non
  | _, _, .bl b => .bl b
  | _, _, .int i => .int i
  | _, _, .str x => .str x
  | _, _, .tup h r => .tup h (RVs.grow hp r)
  | _, _, .ref h => .ref (hp _ _ h)
  | _, _, .fn f => .fn f
  | _, _, .ty t => .ty t
theorem RVs.grow (hp : ∀ (i : Nat) (a : Addr), μ[i]? = some a → μ'[i]? = some a) : ∀ {ds : List D} {vs : List V}, RVs K A μ H ds vs → RVs K A μ' H ds vs
  | _, _, .nil => .nil
  | _, _, .cons h r => .cons (RV.grow hp h) (RVs.grow hp r)
end
theorem RF.grow (hp : ∀ (i : Nat) (a : Addr), μ[i]? = some a → μ'[i]? = some a) : ∀ {fs : List (Str × D)} {gs : List (Str × V)}, RF K A μ H fs gs → RF K A μ' H fs gs
  | _, _, .nil => .nil
  | _, _, .cons h r => .cons (h.grow hp) (RF.grow hp r)
theorem CR.grow (hp : ∀ (i : Nat) (a : Addr), μ[i]? = some a → μ'[i]? = some a) {c : Cell} {a : Addr} (r : CR K A μ H c a) : CR K A μ' H c a := by
  cases c with
  | lst ds => obtain ⟨vs, e, q⟩ := r; exact ⟨vs, e, q.grow hp⟩
  | frz ds => obtain ⟨vs, e, q⟩ := r; exact ⟨vs, e, q.grow hp⟩
  | dic ds =>
    rcases r with ⟨kv, e, q⟩ | ⟨kv, e, q⟩
    · exact .inl ⟨kv, e, paired_to q fun _ _ _ z => ⟨z.1, z.2.grow hp⟩⟩
    · exact .inr ⟨kv, e, paired_to q fun _ _ _ z => ⟨z.1, z.2.grow hp⟩⟩
  | ins c fs => obtain ⟨dx, gs, e, q⟩ := r; exact ⟨dx, gs, e, q.grow hp⟩
/-! the numbers of d stood already -/
mutual
theorem RV.narrow (hp : ∀ (i : Nat) (a : Addr), μ[i]? = some a → μ'[i]? = some a) : ∀ {d : D} {v v0 : V}, RV K A μ H d v0 → RV K A μ' H' d v → RV K A μ H' d v
  | _, _, _, _, .non => .non
  | _, _, _, _, .bl b => .bl b
  | _, _, _, _, .int i => .int i
  | _, _, _, _, .str x => .str x
  | _, _, _, .tup _ r0, .tup q r => .tup q (RVs.narrow hp r0 r)
  | _, _, _, .ref e0, .ref e => .ref (by
      have z := hp _ _ e0
      rw [e] at z
      cases z
      exact e0)
  | _, _, _, _, .fn f => .fn f
  | _, _, _, _, .ty t => .ty t
theorem RVs.narrow (hp : ∀ (i : Nat) (a : Addr), μ[i]? = some a → μ'[i]? = some a) : ∀ {ds : List D} {vs v0 : List V}, RVs K A μ H ds v0 → RVs K A μ' H' ds vs → RVs K A μ H' ds vs
  | _, _, _, _, .nil => .nil
  | _, _, _, .cons r0 q0, .cons r q => .cons (RV.narrow hp r0 r) (RVs.narrow hp q0 q)
end
theorem RF.narrow (hp : ∀ (i : Nat) (a : Addr), μ[i]? = some a → μ'[i]? = some a) : ∀ {fs : List (Str × D)} {gs g0 : List (Str × V)}, RF K A μ H fs g0 → RF K A μ' H' fs gs → RF K A μ H' fs gs
  | _, _, _, _, .nil => .nil
  | _, _, _, .cons r0 q0, .cons r q => .cons (RV.narrow hp r0 r) (RF.narrow hp q0 q)
theorem CR.free {n : Nat} (hp : ∀ (i : Nat) (a : Addr), i < n → μ'[i]? = some a → μ[i]? = some a) {c : Cell} {a : Addr} (h : Cell.low n c = true) (r : CR K A μ' H' c a) : CR K A μ H' c a := by
  cases c with
  | lst ds => obtain ⟨vs, e, q⟩ := r; exact ⟨vs, e, q.free hp h⟩
  | frz ds => obtain ⟨vs, e, q⟩ := r; exact ⟨vs, e, q.free hp h⟩
  | dic ds =>
    have h := lowV_mem (show lowV n ds = true from h)
    rcases r with ⟨kv, e, q⟩ | ⟨kv, e, q⟩
    · exact .inl ⟨kv, e, paired_to q fun p hm _ z => ⟨z.1, z.2.free hp (h p hm)⟩⟩
    · exact .inr ⟨kv, e, paired_to q fun p hm _ z => ⟨z.1, z.2.free hp (h p hm)⟩⟩
  | ins c fs => obtain ⟨dx, gs, e, q⟩ := r; exact ⟨dx, gs, e, q.free hp h⟩
theorem CR.narrow (hp : ∀ (i : Nat) (a : Addr), μ[i]? = some a → μ'[i]? = some a) {c : Cell} {a a0 : Addr} (r0 : CR K A μ H c a0) (r : CR K A μ' H' c a) : CR K A μ H' c a := by
  cases c with
  | lst ds => obtain ⟨vs, e, q⟩ := r; obtain ⟨_, _, q0⟩ := r0; exact ⟨vs, e, q0.narrow hp q⟩
  | frz ds => obtain ⟨vs, e, q⟩ := r; obtain ⟨_, _, q0⟩ := r0; exact ⟨vs, e, q0.narrow hp q⟩
  | dic ds =>
    have w : ∀ p ∈ ds, ∃ v0, RV K A μ H p.2 v0 := fun p hm => by
      rcases r0 with ⟨kv, _, q⟩ | ⟨kv, _, q⟩
      · obtain ⟨y, z⟩ := paired_left q p hm; exact ⟨_, z.2⟩
      · obtain ⟨y, z⟩ := paired_left q p hm; exact ⟨_, z.2⟩
    rcases r with ⟨kv, e, q⟩ | ⟨kv, e, q⟩
    · refine .inl ⟨kv, e, paired_to q fun p hm _ z => ⟨z.1, ?_⟩⟩
      obtain ⟨v0, r0⟩ := w p hm
      exact r0.narrow hp z.2
    · refine .inr ⟨kv, e, paired_to q fun p hm _ z => ⟨z.1, ?_⟩⟩
      obtain ⟨v0, r0⟩ := w p hm
      exact r0.narrow hp z.2
  | ins c fs => obtain ⟨dx, gs, e, q⟩ := r; obtain ⟨_, _, _, q0⟩ := r0; exact ⟨dx, gs, e, q0.narrow hp q⟩
theorem gcOkN_at {n : Nat} : ∀ {S S' : Store} {i : Nat} {c : Cell}, gcOkN n S S' = true → S[i]? = some c → ∃ c', S'[i]? = some c' ∧ (c' = c ∨ Cell.low n c' = true)
  | [], _, _, _, _, h => by simp at h
  | c :: S, [], _, _, h, _ => by cases h
  | c :: S, c' :: S', 0, d, h, e => by
    have h : ((Cell.same c' c || Cell.low n c') && gcOkN n S S') = true := h
    rw [Bool.and_eq_true, Bool.or_eq_true] at h
    simp at e
    subst e
    exact ⟨c', rfl, h.1.imp Cell.same_eq id⟩
  | c :: S, c' :: S', i + 1, d, h, e => by
    have h : ((Cell.same c' c || Cell.low n c') && gcOkN n S S') = true := h
    rw [Bool.and_eq_true] at h
    exact gcOkN_at (i := i) h.2 (by simpa using e)
theorem gcOk_at {S S' : Store} {i : Nat} {c : Cell} (h : gcOk S S' = true) (e : S[i]? = some c) : ∃ c', S'[i]? = some c' ∧ (c' = c ∨ Cell.low S.length c' = true) := gcOkN_at h e
theorem gcOkN_len {n : Nat} : ∀ {S S' : Store}, gcOkN n S S' = true → S.length ≤ S'.length
  | [], _, _ => Nat.zero_le _
  | c :: S, [], h => by cases h
  | c :: S, c' :: S', h => by
    have h : ((Cell.same c' c || Cell.low n c') && gcOkN n S S') = true := h
    rw [Bool.and_eq_true] at h
    exact Nat.succ_le_succ (gcOkN_len h.2)
theorem gcOk_len {S S' : Store} (h : gcOk S S' = true) : S.length ≤ S'.length := gcOkN_len h
theorem Nx.back (n : Nx μ H μ' H') : ∀ (i : Nat) (a : Addr), i < μ.length → μ'[i]? = some a → μ[i]? = some a := fun i a hi h => by
  obtain ⟨l, e, _⟩ := n.pre
  rw [e, List.getElem?_append_left hi] at h
  exact h
theorem Nx.drop (n : Nx μ H μ' H') : Nx μ H μ H' := ⟨⟨[], by simp, by simp⟩, n.tup, n.frz, n.out, n.stay⟩
theorem Nx.pre' (n : Nx μ H μ' H') : ∀ (i : Nat) (a : Addr), μ[i]? = some a → μ'[i]? = some a := fun _ _ h => n.at h
theorem Nx.one (n : Nx μ H μ' H') {k : Nat} {a : Addr} (hk : μ.length ≤ k) (ha : μ'[k]? = some a) : Nx μ H (μ ++ [a]) H' := by
  refine ⟨⟨[a], rfl, fun b hb => ?_⟩, n.tup, n.frz, n.out, n.stay⟩
  rw [List.mem_singleton.mp hb]
  obtain ⟨l, e, hl⟩ := n.pre
  rw [e, List.getElem?_append_right hk] at ha
  exact hl a (List.mem_of_getElem? ha)
theorem Sto.drop {S S' : Store} (s : Sto K A μ S H) (s' : Sto K A μ' S' H') (n : Nx μ H μ' H') (g : gcOk S S' = true) : Sto K A μ (S'.take S.length) H' := by
  have hl := gcOk_len g
  have tk : ∀ {i : Nat} {c : Cell}, (S'.take S.length)[i]? = some c → i < S.length ∧ S'[i]? = some c := fun {i c} h => by
    rw [List.getElem?_take] at h
    split at h
    · exact ⟨by assumption, h⟩
    · cases h
  refine ⟨by rw [List.length_take, s.len]; omega, fun i j a c d h1 h2 h3 h4 f1 f2 => ?_, fun i c a h1 h2 => ?_⟩
  · exact s'.nd i j a c d (n.at h1) (n.at h2) (tk h3).2 (tk h4).2 f1 f2
  · obtain ⟨hi, hc⟩ := tk h1
    have r := s'.cell i c a hc (n.at h2)
    obtain ⟨c', e1, e2⟩ := gcOk_at g (List.getElem?_eq_getElem hi)
    rw [hc] at e1
    cases e1
    rcases e2 with e2 | e2
    · have r0 := s.cell i c a (by rw [e2]; exact List.getElem?_eq_getElem hi) h2
      exact r0.narrow n.pre' r
    · exact r.free (n := S.length) (fun i a hi h => n.back i a (by rw [s.len]; exact hi) h) e2
theorem Sto.one {S S' : Store} {k : Nat} {a : Addr} {c : Cell} (s : Sto K A μ S H) (s' : Sto K A μ' S' H') (n : Nx μ H μ' H') (g : gcOk S S' = true) (hk : S.length ≤ k) (hc : S'[k]? = some c) (ha : μ'[k]? = some a) (hp : Cell.low S.length c = true) :
    Sto K A (μ ++ [a]) (S'.take S.length ++ [c]) H' := by
  have sd := s.drop s' n g
  have hl := gcOk_len g
  have hlen : (S'.take S.length).length = S.length := by rw [List.length_take]; omega
  have look : ∀ {i : Nat} {d : Cell} {b : Addr}, (S'.take S.length ++ [c])[i]? = some d → (μ ++ [a])[i]? = some b → (i < S.length ∧ (S'.take S.length)[i]? = some d ∧ μ[i]? = some b ∧ S'[i]? = some d ∧ μ'[i]? = some b) ∨ (i = S.length ∧ d = c ∧ b = a) := fun {i d b} h1 h2 => by
    by_cases hi : i < S.length
    · rw [List.getElem?_append_left (by rw [hlen]; exact hi)] at h1
      rw [List.getElem?_append_left (by rw [s.len]; exact hi)] at h2
      have h3 := h1
      rw [List.getElem?_take, if_pos hi] at h3
      exact .inl ⟨hi, h1, h2, h3, n.at h2⟩
    · have hi2 : i = S.length := by
        have := (List.getElem?_eq_some_iff.mp h1).1
        rw [List.length_append, hlen, List.length_singleton] at this
        omega
      subst hi2
      rw [List.getElem?_append_right (by rw [hlen]; exact Nat.le_refl _), hlen, Nat.sub_self] at h1
      rw [List.getElem?_append_right (by rw [s.len]; exact Nat.le_refl _), s.len, Nat.sub_self] at h2
      exact .inr ⟨rfl, (Option.some.inj h1).symm, (Option.some.inj h2).symm⟩
  refine ⟨by rw [List.length_append, List.length_append, hlen, s.len]; rfl, fun i j b d1 d2 h1 h2 h3 h4 f1 f2 => ?_, fun i d b h1 h2 => ?_⟩
  · rcases look h3 h1 with ⟨a1, a2, a3, a4, a5⟩ | ⟨a1, a2, a3⟩
    · rcases look h4 h2 with ⟨b1, b2, b3, b4, b5⟩ | ⟨b1, b2, b3⟩
      · exact s'.nd i j b d1 d2 a5 b5 a4 b4 f1 f2
      · rw [b3] at a5
        rw [b2] at f2
        have := s'.nd i k a d1 c a5 ha a4 hc f1 f2
        omega
    · rcases look h4 h2 with ⟨b1, b2, b3, b4, b5⟩ | ⟨b1, b2, b3⟩
      · rw [a3] at b5
        rw [a2] at f1
        have := s'.nd k j a c d2 ha b5 hc b4 f1 f2
        omega
      · rw [a1, b1]
  · rcases look h1 h2 with ⟨a1, a2, a3, a4, a5⟩ | ⟨a1, a2, a3⟩
    · have r := sd.cell i d b a2 a3
      exact r.grow fun i x h => by
        rw [List.getElem?_append_left (List.getElem?_eq_some_iff.mp h).1]
        exact h
    · rw [a2, a3]
      refine ((s'.cell k c a hc ha).free (n := S.length) (fun i a hi h => n.back i a (by rw [s.len]; exact hi) h) hp).grow fun i x h => ?_
      rw [List.getElem?_append_left (List.getElem?_eq_some_iff.mp h).1]
      exact h

/-- what is wanted behind the call with its rubbish gone is wanted of the call -/
theorem Cont.gc {W : WX} {σ : L2.St} {S : Store} {o : Out D} {Q : VK} (s : Sto K A μ S H) (h : Cont K A W (RV K A) σ μ H (Mi.gc S o) Q) : Cont K A W (RV K A) σ μ H o Q := by
  cases o with
  | no => exact h
  | er e S' =>
    unfold Mi.gc at h
    dsimp only at h
    by_cases g : (gcOk S S' && lowF S.length e.fs) = true
    · rw [if_pos g] at h
      rw [Bool.and_eq_true] at g
      intro cls dd μ' H' n s' r
      refine h cls dd μ H' n.drop (s.drop s' n g.1) ⟨r.cls, fun hf => ?_⟩
      obtain ⟨d, gs, e1, e2, e3⟩ := r.fld hf
      refine ⟨d, gs, e1, e2, fun f x hx => ?_⟩
      obtain ⟨v, h1, h2⟩ := e3 f x hx
      refine ⟨v, h1, h2.free (n := S.length) (fun i a hi h => n.back i a (by rw [s.len]; exact hi) h) ?_⟩
      have all : ∀ (fs : List (Str × D)), lowF S.length fs = true → fs.lookup f = some x → D.low S.length x = true := by
        intro fs
        induction fs with
        | nil => intro _ h; cases h
        | cons p fs ih =>
          obtain ⟨g', y⟩ := p
          intro hp hl
          have hp : (D.low S.length y && lowF S.length fs) = true := hp
          rw [Bool.and_eq_true] at hp
          rw [List.lookup_cons] at hl
          split at hl
          · cases hl; exact hp.1
          · exact ih hp.2 hl
      exact all _ g.2 hx
    · rw [if_neg g] at h
      exact h
  | ok d S' =>
    unfold Mi.gc at h
    dsimp only at h
    by_cases g : gcOk S S' = true
    · rw [if_pos g] at h
      by_cases hp : D.low S.length d = true
      · rw [if_pos hp] at h
        intro v μ' H' n s' r
        exact h v μ H' n.drop (s.drop s' n g) (r.free (n := S.length) (fun i a hi h => n.back i a (by rw [s.len]; exact hi) h) hp)
      · rw [if_neg hp] at h
        cases d with
        | ref k =>
          simp only at h
          by_cases hk : S.length ≤ k
          · rw [decide_eq_true hk] at h
            simp only [if_true] at h
            cases e : S'[k]? with
            | none => rw [e] at h; exact h
            | some c =>
              rw [e] at h
              simp only at h
              by_cases hc : Cell.low S.length c = true
              · rw [if_pos hc] at h
                intro v μ' H' n s' r
                cases r with
                | @ref _ a ha =>
                  refine h (.ref a) (μ ++ [a]) H' (n.one (by rw [s.len]; exact hk) ha) (s.one s' n g hk e ha hc) (.ref ?_)
                  rw [← s.len, List.getElem?_append_right (Nat.le_refl _), Nat.sub_self]
                  rfl
              · rw [if_neg hc] at h
                exact h
          · rw [decide_eq_false hk] at h
            exact h
        | _ => exact h
    · rw [if_neg g] at h
      exact h
end
end Mi

/-! Mi, part P: a text's defs, level by level; the end. -/
namespace Mi
open PySem PySem.Spec PyProof.Rows L2

structure FnD where
  cl : Option Str
  nm : Str
  qual : Str
  st : Stmt
  ps : List Str
  N : List Str
  body : List Sx
/-- an own error class: its fields, its __init__ -/
structure XcD where
  nm : Str
  fs : List Str
  qual : Str
  st : Stmt
structure Prg where
  fs : List FnD
  glob : List (Str × GV)
  blts : List Str
  L : Nat
  xs : List XcD
  sub : List (List Bool)
  cs : List Str
  flds : List Str
  mts : List (Str × (Nat × Nat × Nat))
def Prg.gam (p : Prg) (f : FnD) : Gam := ⟨f.N, defScope f.st, fun _ => true, p.glob, p.blts, p.sub, p.flds, p.mts⟩
def env0 (f : FnD) (ds : List D) : Env := ds.map some ++ List.replicate (f.N.length - ds.length) none
def endOf : SR → Out D
  | .go .nx _ S' => .ok .non S'
  | .go (.rt d) _ S' => .ok d S'
  | .er e _ S' => .er e S'
  | _ => .no
def callN (p : Prg) : Nat → Nat → List D → M D
  | 0, _, _ => M.fail
  | k + 1, i, ds => fun S => match p.fs[i]? with
    | some f => if ds.length = f.ps.length then gc S (endOf (xss ⟨callN p k, p.L⟩ f.body (env0 f ds) S)) else .no
    | none => .no

section
variable {P : Program} {w : World} {K : PySem.W.Frag} {mg : Str → Option Value} {base : Heap} {A : Adr} {p : Prg}
/-- what the top has left of a text -/
structure Facts (K : PySem.W.Frag) (mg : Str → Option Value) (A : Adr) (p : Prg) : Prop where
  fn : ∀ (i : Nat) (f : FnD), p.fs[i]? = some f → ∃ fd, Fun K f.nm f.qual f.st (A.fa i) fd ∧ Binds K fd f.ps []
  ok : ∀ (i : Nat) (f : FnD), p.fs[i]? = some f → (∃ n, cSs (p.gam f) n (defBody f.st) = some f.body) ∧ FnScope f.N f.ps (defScope f.st)
  nm : ∀ (x : Str) (i np : Nat), p.glob.lookup x = some (.fn i np) → ∃ f, p.fs[i]? = some f ∧ f.ps.length = np ∧ mg x = some (.ref (A.fa i))
  cst : ∀ (x : Str) (d : D), p.glob.lookup x = some (.cst d) → ∃ u v, mg x = some u ∧ RelV v u ∧ ∀ μ H, RV K A μ H d v
  blt : ∀ x, x ∈ p.blts → mg x = none
  xc : ∀ (x : Str) (i : Nat) (fs : List Str), p.glob.lookup x = some (.xc i fs) → mg x = some (.ref (A.xa i)) ∧ PySem.W.subIn K (.ref (A.xa i)) (.type "BaseException") = some true ∧ PySem.W.typeIn K (.ref (A.xa i)) = some (.type "type") ∧
    (fs = [] → PySem.W.excIn K (A.xa i) He.veBase "ValueError.__new__" = true ∧ PySem.W.keepIn K (.ref (A.xa i)) = true) ∧
    (fs ≠ [] → OexC K (A.xa i) ∧ XfC K (A.xa i) ∧ (∀ f ∈ fs, PySem.W.findIn K (.ref (A.xa i)) f = some none) ∧ (fs.length = 1 ∨ fs.length = 2 ∧ fs.Nodup) ∧
      ∃ fI fd ps, PySem.W.findIn K (.ref (A.xa i)) "__init__" = some (some (.ref fI)) ∧ PySem.W.typeIn K (.ref fI) = some (.type "function") ∧ Binds K fd ps [] ∧ ∀ (P : Program) (w : World) (base : Heap), FnOk P w K mg base (L2.CX P w) 1 fI fd ps (spIni (A.xa i) fs))
  cls : ∀ (x : Str) (c i np : Nat), p.glob.lookup x = some (.cl c i np) → mg x = some (.ref (A.ca c)) ∧ Mk K (A.ca c) (A.fa i) ∧ ∃ f, p.fs[i]? = some f ∧ f.ps.length = np + 1
  fld : ∀ (f : Str), f ∈ p.flds → ∀ c, Cls K (A.ca c) ∧ NoAttr K (A.ca c) f
  mts : ∀ (m : Str) (c i np : Nat), p.mts.lookup m = some (c, i, np) → Cls K (A.ca c) ∧ Meth K (A.ca c) m (A.fa i) ∧ ∃ f, p.fs[i]? = some f ∧ f.ps.length = np + 1
  sub : ∀ (c : Nat) (ms : List Bool), p.sub[c]? = some ms → ∀ (x : Nat) (b : Bool), ms[x]? = some b → PySem.W.exmOne K (.ref (A.xa x)) (.ref (A.xa c)) = some b

theorem er_start {N ps : List Str} {ds : List D} {vs : List V} {μ : List Addr} {H : Hp} (r : RVs K A μ H ds vs) : ER K A μ H (ds.map some ++ List.replicate (N.length - ds.length) none) (L2.start N vs) := by
  unfold L2.start
  have e := r.length
  refine ⟨by rw [List.length_append, List.length_append, List.length_map, List.length_map, List.length_replicate, List.length_replicate, e], fun i d h => ?_⟩
  by_cases hi : i < ds.length
  · rw [List.getElem?_append_left (by rw [List.length_map]; exact hi), List.getElem?_map, Option.map_eq_some_iff] at h
    obtain ⟨d', h1, h2⟩ := h
    cases h2
    obtain ⟨v, h3, h4⟩ := r.get h1
    refine ⟨v, ?_, h4⟩
    rw [List.getElem?_append_left (by rw [List.length_map, ← e]; exact hi), List.getElem?_map, h3]
    rfl
  · rw [List.getElem?_append_right (by rw [List.length_map]; omega), List.getElem?_replicate] at h
    split at h <;> cases h
/-- THE LEVELS: each def keeps the evaluator's word, as deep as calls go -/
theorem levels (F : Facts K mg A p) (hw : A.w = w) : ∀ (k i : Nat) (f : FnD), p.fs[i]? = some f → ∃ fd, Fun K f.nm f.qual f.st (A.fa i) fd ∧ Binds K fd f.ps [] ∧ FnG P w K mg base (2 * k + 2) (A.fa i) fd f.ps (uSp K A f.ps.length (callN p k i))
  | 0, i, f, hf => by
    obtain ⟨fd, h1, h2⟩ := F.fn i f hf
    refine ⟨fd, h1, h2, fun vs H Q E h => ?_, fun A' outer s H args us vs Q E gd hr he hb hv h => ?_⟩
    · obtain ⟨ds, S, μ, hl, r, s, h⟩ := h
      exact False.elim h
    · obtain ⟨ds, S, μ, hl, r, s, h⟩ := h
      exact False.elim h
  | k + 1, i, f, hf => by
    obtain ⟨fd, h1, h2⟩ := F.fn i f hf
    obtain ⟨⟨n, hc⟩, hS⟩ := F.ok i f hf
    refine ⟨fd, h1, h2, fun_g h1 hS (fun vs H Q E h => ?_) fun cdv A' outer s H vs Q E gd hr h => ?_⟩
    · obtain ⟨ds, S, μ, hl, r, s, h⟩ := h
      rw [← r.length, hl]
    · obtain ⟨ds, S, μ, hl, r, s', h⟩ := h
      have fits : Fits A ⟨callN p k, p.L⟩ (p.gam f) (cxOf (L2.CX P w) P w K mg base f.N f.qual (defScope f.st) (A.fa i) cdv A' outer s H E) (fun cls d _ H => E cls d H) :=
        { N := rfl, nd := hS.nd, sc := rfl, w := hw, fn := fun _ _ => rfl, calm := rfl, tk := takes_of rfl rfl rfl rfl
          units := by
            have := hr.un
            show (A'.deeper _).units + 65 < cLine
            omega
          grd := gd
          blt := F.blt
          cst := F.cst
          fns := fun x j np hx => by
            obtain ⟨g, g1, g2, g3⟩ := F.nm x j np hx
            obtain ⟨fd', _, b', ok'⟩ := levels F hw k j g g1
            obtain ⟨_, fun', _⟩ := F.fn j g g1
            refine ⟨2 * k + 2, fd', g.ps, g3, fun'.kp, hr.mono (by omega), b', g2, ?_⟩
            rw [← g2]
            exact ok'
          xcs := fun x j fs hx => by
            obtain ⟨q1, q2, q3, q4, q5⟩ := F.xc x j fs hx
            refine ⟨q1, raises_own q2 q3, q4, fun ne => ?_⟩
            obtain ⟨r1, r2, r3, r4, fI, fd', ps, r5, r6, r7, r8⟩ := q5 ne
            exact ⟨r1, r2, r3, r4, fI, fd', ps, r5, r6, r7, hr.mono (by omega), r8 P w base⟩
          cls := fun x c j np hx => by
            obtain ⟨q1, q2, g, g1, g2⟩ := F.cls x c j np hx
            obtain ⟨fd', _, b', ok'⟩ := levels F hw k j g g1
            refine ⟨q1, q2, 2 * k + 2, fd', g.ps, hr, b', g2, ?_⟩
            rw [← g2]
            exact ok'
          fld := F.fld
          mts := fun m c j np hx => by
            obtain ⟨q1, q2, g, g1, g2⟩ := F.mts m c j np hx
            obtain ⟨fd', _, b', ok'⟩ := levels F hw k j g g1
            refine ⟨q1, q2, 2 * k + 2, fd', g.ps, hr.mono (by omega), b', g2, ?_⟩
            rw [← g2]
            exact ok'
          sub := F.sub }
      refine ⟨uS K A (fun cls d _ H => E cls d H) (xss ⟨callN p k, p.L⟩ f.body), (goodS n fits (passes_of rfl) rfl rfl).2 _ _ hc, env0 f ds, S, μ, er_start (ps := f.ps) r, s', ?_⟩
      have h : Cont K A (fun cls dd _ H' => E cls dd H') (RV K A) [] μ H (match p.fs[i]? with | some f => if ds.length = f.ps.length then gc S (endOf (xss ⟨callN p k, p.L⟩ f.body (env0 f ds) S)) else .no | none => .no) Q := h
      rw [hf] at h
      dsimp only at h
      rw [if_pos hl] at h
      have h := Cont.gc s' h
      cases e : xss ⟨callN p k, p.L⟩ f.body (env0 f ds) S with
      | no => rw [e] at h; exact h
      | er x env' S' => rw [e] at h; exact fun cls dd σ' μ' H' n s _ r => h cls dd μ' H' n s r
      | go fl env' S' =>
        rw [e] at h
        cases fl with
        | nx => exact fun σ' μ' H' n s _ => h .non μ' H' n s .non
        | rt d => exact fun v μ' H' n s r => h v μ' H' n s r
        | bk => exact h.elim
        | ct => exact h.elim

/-! ### the end -/
/-- the law's promise -/
def spLaw (K : PySem.W.Frag) : Sp := fun vs H Q _ => ∃ (a : Addr) (ns : List Int), vs = [.ref a] ∧ FrzL K H a (ns.map V.int) ∧ ns.length ≤ 63 ∧ ∀ H', Q (.bl true) H'
theorem frz_of {H : Hp} {a : Addr} {xs : List V} (hO : Only H) (h : SqL K H a xs) : FrzL K H a xs := by
  rcases h with (h | ⟨o, h⟩) | h
  · rcases hO a with z | ⟨o, ys, z⟩
    · rw [h] at z; cases z
    · rw [h] at z; cases z
  · exact .inl ⟨o, h⟩
  · exact .inr h
theorem rvs_ints {μ : List Addr} {H : Hp} : ∀ ns : List Int, RVs K A μ H (ns.map D.int) (ns.map V.int)
  | [] => .nil
  | n :: ns => .cons (.int n) (rvs_ints ns)
theorem law_of (F : Facts K mg A p) (hw : A.w = w) {k i : Nat} {f : FnD} (hf : p.fs[i]? = some f) (hps : f.ps = (["script"] : List Str)) (hlaw : ∀ ns : List Int, ns.length ≤ 63 → ∃ S', callN p k i [.ref 0] [.frz (ns.map D.int)] = .ok (.bl true) S') :
    ∃ fd, Fun K f.nm f.qual f.st (A.fa i) fd ∧ Binds K fd (["script"] : List Str) [] ∧ FnG P w K mg base (2 * k + 2) (A.fa i) fd ["script"] (spLaw K) := by
  obtain ⟨fd, h0, h1, h2⟩ := levels (P := P) (w := w) (base := base) F hw k i f hf
  rw [hps] at h1 h2
  refine ⟨fd, h0, h1, h2.imp fun vs H Q E h => ?_⟩
  obtain ⟨a, ns, rfl, hz, hl, q⟩ := h
  obtain ⟨S', e⟩ := hlaw ns hl
  refine ⟨[.ref 0], [.frz (ns.map D.int)], [a], rfl, .cons (.ref rfl) .nil, ⟨rfl, fun i j b c d h1 h2 h3 h4 f1 f2 => ?_, fun i c b h1 h2 => ?_⟩, ?_⟩
  · match i, h3 with
    | 0, h3 => cases h3; cases f1
    | i + 1, h3 => cases h3
  · match i, h1, h2 with
    | 0, h1, h2 =>
      cases h1
      cases h2
      exact ⟨_, hz, rvs_ints ns⟩
    | i + 1, h1, h2 => cases h1
  · rw [e]
    intro v μ' H' n s r
    cases r
    exact q H'
theorem fun_one {x q : Str} {st : Stmt} {a : Addr} {fd fd' : FuncData} (h : Fun K x q st a fd) (h' : Fun K x q st a fd') : fd = fd' := by
  obtain ⟨_, _, _, _, _, _, _, _, _, _, l, _⟩ := h.ex
  obtain ⟨_, _, _, _, _, _, _, _, _, _, l', _⟩ := h'.ex
  rw [l] at l'
  cases l'
  rfl
theorem cx_none {H : Hp} {s : Shared} {e : Value} {s' : Shared} (h : L2.CX P w [] H s (fun _ _ _ => False) e s') : False := by
  obtain ⟨_, _, _, _, _, _, _, _, _, _, _, _, z⟩ := h
  exact z
end
end Mi

/-! Mi, part Q: what the top has written, by one look. -/
namespace Mi
open PySem PySem.Spec PyProof.Rows L2

def FnD.at_ (f : FnD) : Str × Option Str := match f.cl with
  | none => (f.nm, none)
  | some c => (c, some f.nm)
def hFn (f : FnD) : He.FnD := ⟨f.at_, f.nm, f.qual, defArgs f.st, defBody f.st, defScope f.st⟩
def hXn (x : XcD) : List He.FnD := if x.fs.isEmpty then [] else [⟨(x.nm, some "__init__"), "__init__", x.qual, defArgs x.st, defBody x.st, defScope x.st⟩]
def hFns (p : Prg) : List He.FnD := p.fs.map hFn ++ p.xs.flatMap hXn
def fnFa (f : FnD) : List He.Fa := match f.cl with
  | none => [.glo f.nm, .keep f.nm]
  | some c => [.meth c f.nm]
def clFa (p : Prg) (x : Str) : List He.Fa := [.glo x, .cls x, .mkr x] ++ p.flds.map (.noat x)
def hFa (p : Prg) : List He.Fa := p.fs.flatMap fnFa ++ p.blts.map .free ++ (p.xs.map (fun x => .glo x.nm) ++ p.cs.flatMap (clFa p))
/-- an own error class, looked at -/
def xcB1 (K : PySem.W.Frag) (x : XcD) : Bool :=
  decide (PySem.W.subIn K (.ref (He.ga K x.nm)) (.type "BaseException") = some true) && (decide (PySem.W.typeIn K (.ref (He.ga K x.nm)) = some (.type "type")) && (if x.fs.isEmpty then PySem.W.excIn K (He.ga K x.nm) He.veBase "ValueError.__new__" && PySem.W.keepIn K (.ref (He.ga K x.nm))
    else oexB K (He.ga K x.nm) && (xfB K (He.ga K x.nm) && ((x.fs.all fun f => decide (PySem.W.findIn K (.ref (He.ga K x.nm)) f = some none)) && (decide (PySem.W.findIn K (.ref (He.ga K x.nm)) "__init__" = some (some (.ref (He.ma K (He.ga K x.nm) "__init__")))) &&
      (decide (PySem.W.typeIn K (.ref (He.ma K (He.ga K x.nm) "__init__")) = some (.type "function")) && PySem.W.keepIn K (.ref (He.ma K (He.ga K x.nm) "__init__"))))))))
def subB (K : PySem.W.Frag) (p : Prg) : Bool := (List.range p.sub.length).all fun c => match p.sub[c]?, p.xs[c]? with
  | some ms, some xc => (List.range ms.length).all fun x => match ms[x]?, p.xs[x]? with
    | some b, some xx => decide (PySem.W.exmOne K (.ref (He.ga K xx.nm)) (.ref (He.ga K xc.nm)) = some b)
    | _, _ => false
  | _, _ => false
def xcB (K : PySem.W.Frag) (p : Prg) : Bool := p.xs.all (xcB1 K) && subB K p
/-- what is shown of an own error class without the top -/
inductive XcOk : XcD → Prop where
  | none (nm qual : Str) (st : Stmt) : XcOk ⟨nm, [], qual, st⟩
  | one {nm f qual : Str} {st : Stmt} {p1 p2 p3 p4 : Pos} (hS : FnScope ["self", f] ["self", f] (defScope st)) (hb : defBody st = [.Assign [.Attribute (.Name "self" p1) f p2] (.Name f p3) p4]) (hs : (defScope st).names.lookup ("self" : Str) = some NameKind.local) (hl : (defScope st).names.lookup f = some NameKind.local)
      (h1 : (f == ("__debug__" : Str)) = false) (h2 : (f == ("__classdict__" : Str)) = false)
      (b : ∀ (kV doc pm : Value) (an : Option Addr) (cdv ct : Value) (us : List Value), us.length = 2 → bindArgs (PySem.W.fnOf "__init__" qual (defArgs st) (defBody st) (defScope st) .none kV doc pm an cdv ct) ⟨us, []⟩ = pure ((["self", f] : List Str).zip us)) : XcOk ⟨nm, [f], qual, st⟩
  | two {nm f g qual : Str} {st : Stmt} {p1 p2 p3 p4 q1 q2 q3 q4 : Pos} (hS : FnScope ["self", f, g] ["self", f, g] (defScope st))
      (hb : defBody st = [.Assign [.Attribute (.Name "self" p1) f p2] (.Name f p3) p4, .Assign [.Attribute (.Name "self" q1) g q2] (.Name g q3) q4])
      (hs : (defScope st).names.lookup ("self" : Str) = some NameKind.local) (hl : (defScope st).names.lookup f = some NameKind.local) (hl' : (defScope st).names.lookup g = some NameKind.local)
      (h1 : (f == ("__debug__" : Str)) = false) (h2 : (f == ("__classdict__" : Str)) = false) (h3 : (g == ("__debug__" : Str)) = false) (h4 : (g == ("__classdict__" : Str)) = false) (nd : f ≠ g)
      (b : ∀ (kV doc pm : Value) (an : Option Addr) (cdv ct : Value) (us : List Value), us.length = 3 → bindArgs (PySem.W.fnOf "__init__" qual (defArgs st) (defBody st) (defScope st) .none kV doc pm an cdv ct) ⟨us, []⟩ = pure ((["self", f, g] : List Str).zip us)) : XcOk ⟨nm, [f, g], qual, st⟩
mutual
/-- a constant of the written part -/
def cV (K : PySem.W.Frag) : D → Value → Option V
  | .non, .none => some .non
  | .bl b, .bool c => if b = c then some (.bl b) else none
  | .int i, .int j _ => if i = j then some (.int i) else none
  | .str x, .str y _ => if x = y then some (.str x) else none
  | .tup ds, .ref a => match K.lookup a with
    | some ⟨cls, _, .seq its _, _⟩ => if cls = .type "tuple" ∧ its.size ≤ sizeLine then (cVs K ds its.toList).map fun _ => .ref a else none
    | _ => none
  | _, _ => none
def cVs (K : PySem.W.Frag) : List D → List Value → Option (List V)
  | [], [] => some []
  | d :: ds, u :: us => match cV K d u, cVs K ds us with
    | some v, some vs => some (v :: vs)
    | _, _ => none
  | _, _ => none
end
mutual
theorem cV_ok {K : PySem.W.Frag} {A : Adr} {μ : List Addr} {H : Hp} : ∀ {d : D} {u : Value} {v : V}, cV K d u = some v → RelV v u ∧ RV K A μ H d v
  | .non, u, v, h => by
    cases u <;> simp [cV] at h
    subst h
    exact ⟨rfl, .non⟩
  | .bl b, u, v, h => by
    cases u <;> simp [cV] at h
    obtain ⟨rfl, rfl⟩ := h
    exact ⟨rfl, .bl _⟩
  | .int b, u, v, h => by
    cases u <;> simp [cV] at h
    obtain ⟨rfl, rfl⟩ := h
    exact ⟨⟨_, rfl⟩, .int _⟩
  | .str b, u, v, h => by
    cases u <;> simp [cV] at h
    obtain ⟨rfl, rfl⟩ := h
    exact ⟨⟨_, rfl⟩, .str _⟩
  | .tup ds, u, v, h => by
    cases u with
    | ref a =>
      unfold cV at h
      cases q : K.lookup a with
      | none => rw [q] at h; cases h
      | some o =>
        rw [q] at h
        obtain ⟨cls, dc, dt, sl⟩ := o
        cases dt with
        | seq its n =>
          dsimp only at h
          split at h
          · rename_i h0
            rw [Option.map_eq_some_iff] at h
            obtain ⟨vs, e, rfl⟩ := h
            obtain ⟨h1, h2⟩ := cVs_ok (A := A) (μ := μ) (H := H) e
            exact ⟨rfl, .tup (.inr ⟨_, its, n, q, h0.1, rfl, h0.2, h1⟩) h2⟩
          · cases h
        | _ => cases h
    | _ => unfold cV at h; cases h
  | .ref _, u, v, h => by cases u <;> simp [cV] at h
  | .fn _, u, v, h => by cases u <;> simp [cV] at h
  | .ty _, u, v, h => by cases u <;> simp [cV] at h
theorem cVs_ok {K : PySem.W.Frag} {A : Adr} {μ : List Addr} {H : Hp} : ∀ {ds : List D} {us : List Value} {vs : List V}, cVs K ds us = some vs → Vals vs us ∧ RVs K A μ H ds vs
  | [], us, vs, h => by
    cases us with
    | nil => simp [cVs] at h; subst h; exact ⟨.nil, .nil⟩
    | cons u us => simp [cVs] at h
  | d :: ds, us, vs, h => by
    cases us with
    | nil => simp [cVs] at h
    | cons u us =>
      unfold cVs at h
      cases q : cV K d u with
      | none => rw [q] at h; cases h
      | some v0 =>
        cases q2 : cVs K ds us with
        | none => rw [q, q2] at h; cases h
        | some vs0 =>
          rw [q, q2] at h
          cases h
          obtain ⟨h1, h2⟩ := cV_ok (A := A) (μ := μ) (H := H) q
          obtain ⟨h3, h4⟩ := cVs_ok (A := A) (μ := μ) (H := H) q2
          exact ⟨.cons h1 h3, .cons h2 h4⟩
end
def mtsB (p : Prg) : Bool := (p.flds.isEmpty || !p.cs.isEmpty) && p.mts.all fun (m, c, i, np) => match p.cs[c]?, p.fs[i]? with
  | some y, some f => decide (f.cl = some y) && (decide (f.nm = m) && decide (f.ps.length = np + 1))
  | _, _ => false
def globB (K : PySem.W.Frag) (p : Prg) : Bool := mtsB p && p.glob.all fun (x, g) => match g with
  | .fn i np => match p.fs[i]? with
    | some f => decide (f.nm = x) && (decide (f.ps.length = np) && f.cl.isNone)
    | none => false
  | .cl c i np => match p.cs[c]?, p.fs[i]? with
    | some y, some f => decide (y = x) && (decide (f.cl = some x) && (decide (f.nm = "__init__") && decide (f.ps.length = np + 1)))
    | _, _ => false
  | .xc i fs => match p.xs[i]? with
    | some c => decide (c.nm = x) && decide (c.fs = fs)
    | none => false
  | .cst d => match PySem.W.nsIn K mainGlobals x with
    | some (some u) => (cV K d u).isSome
    | _ => false
def adrOf (K : PySem.W.Frag) (p : Prg) (w : World) : Adr := ⟨fun i => match p.fs[i]? with
  | some f => He.fAd K f.at_
  | none => 0, fun c => match p.cs[c]? with
  | some x => He.ga K x
  | none => match p.cs[0]? with
    | some x => He.ga K x
    | none => 0, fun i => match p.xs[i]? with
  | some c => He.ga K c.nm
  | none => 0, w⟩
/-- what is shown of each def without the top -/
structure DefOk (p : Prg) (f : FnD) : Prop where
  c : ∃ n, cSs (p.gam f) n (defBody f.st) = some f.body
  s : FnScope f.N f.ps (defScope f.st)
  b : ∀ (kV doc pm : Value) (an : Option Addr) (cdv ct : Value) (us : List Value), us.length = f.ps.length → bindArgs (PySem.W.fnOf f.nm f.qual (defArgs f.st) (defBody f.st) (defScope f.st) .none kV doc pm an cdv ct) ⟨us, []⟩ = pure (f.ps.zip us)
theorem lookup_mem {α : Type} {x : Str} {g : α} : ∀ {l : List (Str × α)}, l.lookup x = some g → (x, g) ∈ l
  | [], h => nomatch h
  | (y, k) :: r, h => by
    unfold List.lookup at h
    split at h
    · rename_i h0
      cases h
      rw [beq_iff_eq.mp h0]
      exact List.mem_cons_self
    · exact List.mem_cons_of_mem _ (lookup_mem h)
section
variable {P : Program} {w : World} {K : PySem.W.Frag} {mg : Str → Option Value} {base h : Heap} {p : Prg}
theorem facts_of (X : K.In h) (G : h.Ns mainGlobals mg) (hS : He.obsE (hFa p) (hFns p) K = He.valE (hFns p)) (hG : globB K p = true) (hXB : xcB K p = true) (hX : ∀ (i : Nat) (c : XcD), p.xs[i]? = some c → XcOk c) (hD : ∀ (i : Nat) (f : FnD), p.fs[i]? = some f → DefOk p f) : Facts K mg (adrOf K p w) p := by
  have hS : He.SaysE (hFa p) (hFns p) K := hS
  have c1 := (He.ba (show (((hFa p).all fun f => f.ok K) && (hFns p).all fun d => (He.Fa.code d.at_ d.qual).ok K) = true from congrArg (fun z : He.Al => z.1) hS)).1
  have fc : ∀ f ∈ hFa p, f.ok K = true := fun f hf => List.all_eq_true.mp c1 f hf
  have gl := List.all_eq_true.mp (He.ba hG).2
  have mB : mtsB p = true := (He.ba hG).1
  have memF : ∀ {i : Nat} {f : FnD}, p.fs[i]? = some f → f ∈ p.fs := fun h => List.mem_of_getElem? h
  have inF : ∀ {i : Nat} {f : FnD} {a : He.Fa}, p.fs[i]? = some f → a ∈ fnFa f → a.ok K = true := fun hf ha => fc _ (List.mem_append_left _ (List.mem_append_left _ (List.mem_flatMap.mpr ⟨_, memF hf, ha⟩)))
  have inC : ∀ {c : Nat} {x : Str} {a : He.Fa}, p.cs[c]? = some x → a ∈ clFa p x → a.ok K = true := fun hc ha => fc _ (List.mem_append_right _ (List.mem_append_right _ (List.mem_flatMap.mpr ⟨_, List.mem_of_getElem? hc, ha⟩)))
  have faE : ∀ {i : Nat} {f : FnD}, p.fs[i]? = some f → (adrOf K p w).fa i = He.fAd K f.at_ := fun {i f} hf => by
    unfold adrOf
    dsimp only
    rw [hf]
  have caE : ∀ {c : Nat} {x : Str}, p.cs[c]? = some x → (adrOf K p w).ca c = He.ga K x := fun {c x} hc => by
    unfold adrOf
    dsimp only
    rw [hc]
  have atN : ∀ {f : FnD}, f.cl = none → f.at_ = (f.nm, none) := fun {f} h => by
    unfold FnD.at_
    rw [h]
  have atS : ∀ {f : FnD} {c : Str}, f.cl = some c → f.at_ = (c, some f.nm) := fun {f c} h => by
    unfold FnD.at_
    rw [h]
  have glo : ∀ {i : Nat} {f : FnD}, p.fs[i]? = some f → f.cl = none → mg f.nm = some (.ref ((adrOf K p w).fa i)) := fun {i f} hf hn => by
    rw [faE hf, atN hn]
    refine He.glo_ok X G (inF hf ?_)
    unfold fnFa
    rw [hn]
    exact List.mem_cons_self
  have mthF : ∀ {i : Nat} {f : FnD} {c : Str}, p.fs[i]? = some f → f.cl = some c → Meth K (He.ga K c) f.nm (He.ma K (He.ga K c) f.nm) := fun {i f c} hf hc => by
    refine He.meth_ok (inF hf ?_)
    unfold fnFa
    rw [hc]
    exact List.mem_singleton.mpr rfl
  refine ⟨fun i f hf => ?_, fun i f hf => ⟨(hD i f hf).c, (hD i f hf).s⟩, fun x i np hx => ?_, fun x d hx => ?_, fun x hx => He.free_ok X G (fc _ (List.mem_append_left _ (List.mem_append_right _ (List.mem_map.mpr ⟨x, hx, rfl⟩)))), fun x i fs hx => ?_, fun x c i np hx => ?_, fun f hf c => ?_, fun m c i np hx => ?_, fun c ms hc x b hb => ?_⟩
  · obtain ⟨oc, od, osl, kV, doc, pm, an, cdv, ct, l, c⟩ := hS.def_ i (d := hFn f) (by unfold hFns; rw [List.getElem?_append_left (by rw [List.length_map]; exact (List.getElem?_eq_some_iff.mp hf).1), List.getElem?_map, hf]; rfl)
    have kp : PySem.W.keepIn K (.ref (He.fAd K f.at_)) = true := by
      cases hc : f.cl with
      | none =>
        rw [atN hc]
        refine He.keep_ok (inF hf ?_)
        unfold fnFa
        rw [hc]
        exact List.mem_cons_of_mem _ List.mem_cons_self
      | some c =>
        rw [atS hc]
        exact (mthF hf hc).kp
    rw [faE hf]
    have F := fun_mk (st := f.st) (x := f.nm) (qual := f.qual) l c kp
    exact ⟨_, F, F.binds (hD i f hf).b⟩
  · have g := gl _ (lookup_mem hx)
    dsimp only at g
    cases q : p.fs[i]? with
    | none => rw [q] at g; cases g
    | some f =>
      rw [q] at g
      obtain ⟨g1, g2⟩ := He.ba g
      obtain ⟨g2, g3⟩ := He.ba g2
      have e1 := of_decide_eq_true g1
      subst e1
      exact ⟨f, rfl, of_decide_eq_true g2, glo q (Option.isNone_iff_eq_none.mp g3)⟩
  · have g := gl _ (lookup_mem hx)
    dsimp only at g
    cases q : PySem.W.nsIn K mainGlobals x with
    | none => rw [q] at g; cases g
    | some o =>
      cases o with
      | none => rw [q] at g; cases g
      | some u =>
        rw [q] at g
        obtain ⟨v, e⟩ := Option.isSome_iff_exists.mp g
        exact ⟨u, v, PySem.W.mg_of X G q, (cV_ok (A := adrOf K p w) (μ := []) (H := fun _ => none) e).1, fun μ H => (cV_ok e).2⟩
  · have g := gl _ (lookup_mem hx)
    dsimp only at g
    cases q : p.xs[i]? with
    | none => rw [q] at g; cases g
    | some c =>
      rw [q] at g
      obtain ⟨g1, g2⟩ := He.ba g
      have e1 := of_decide_eq_true g1
      have e2 := of_decide_eq_true g2
      subst e1
      subst e2
      have ea : (adrOf K p w).xa i = He.ga K c.nm := by
        unfold adrOf
        dsimp only
        rw [q]
      have gm := He.glo_ok X G (fc (.glo c.nm) (List.mem_append_right _ (List.mem_append_left _ (List.mem_map.mpr ⟨c, List.mem_of_getElem? q, rfl⟩))))
      have hb1 := List.all_eq_true.mp (He.ba hXB).1 c (List.mem_of_getElem? q)
      unfold xcB1 at hb1
      obtain ⟨b1, hb1⟩ := He.ba hb1
      obtain ⟨b2, hb1⟩ := He.ba hb1
      have hx' := hX i c q
      rw [ea]
      refine ⟨gm, of_decide_eq_true b1, of_decide_eq_true b2, fun e0 => ?_, fun ne => ?_⟩
      · rw [e0] at hb1
        exact He.ba hb1
      · have hne : c.fs.isEmpty = false := by cases hc : c.fs with | nil => exact absurd hc ne | cons _ _ => rfl
        rw [if_neg (by rw [hne]; exact Bool.false_ne_true)] at hb1
        obtain ⟨b3, hb1⟩ := He.ba hb1
        obtain ⟨b4, hb1⟩ := He.ba hb1
        obtain ⟨b5, hb1⟩ := He.ba hb1
        obtain ⟨b6, hb1⟩ := He.ba hb1
        obtain ⟨b7, b8⟩ := He.ba hb1
        have T := oexB_ok b3
        have hno : ∀ f ∈ c.fs, PySem.W.findIn K (.ref (He.ga K c.nm)) f = some none := fun f hf => of_decide_eq_true (List.all_eq_true.mp b5 f hf)
        obtain ⟨j, hj⟩ : ∃ j : Nat, (hFns p)[j]? = some (⟨(c.nm, some "__init__"), "__init__", c.qual, defArgs c.st, defBody c.st, defScope c.st⟩ : He.FnD) := by
          have hm : (⟨(c.nm, some "__init__"), "__init__", c.qual, defArgs c.st, defBody c.st, defScope c.st⟩ : He.FnD) ∈ hFns p := by
            refine List.mem_append_right _ (List.mem_flatMap.mpr ⟨c, List.mem_of_getElem? q, ?_⟩)
            unfold hXn
            rw [if_neg (by rw [hne]; exact Bool.false_ne_true)]
            exact List.mem_singleton.mpr rfl
          exact List.mem_iff_getElem?.mp hm
        obtain ⟨oc, od, osl, kV, doc, pm, an, cdv, ct, l, cc⟩ := hS.def_ j (d := ⟨(c.nm, some "__init__"), "__init__", c.qual, defArgs c.st, defBody c.st, defScope c.st⟩) hj
        have F := fun_mk (st := c.st) (x := "__init__") (qual := c.qual) l cc b8
        cases hx' with
        | none nm qual st => exact absurd rfl ne
        | one hS' hb hs hl h1 h2 b =>
          exact ⟨T, xfB_ok b4, hno, .inl rfl, _, _, ["self", _], of_decide_eq_true b6, of_decide_eq_true b7, F.binds b, fun P w base => ini1 F hS' hb T (hno _ (List.mem_singleton.mpr rfl)) hs hl h1 h2 0⟩
        | two hS' hb hs hl hl' h1 h2 h3 h4 nd b =>
          exact ⟨T, xfB_ok b4, hno, .inr ⟨rfl, by simpa using nd⟩, _, _, ["self", _, _], of_decide_eq_true b6, of_decide_eq_true b7, F.binds b, fun P w base => ini2 F hS' hb T (hno _ (by simp)) (hno _ (by simp)) hs hl hl' h1 h2 h3 h4 0⟩
  · have g := gl _ (lookup_mem hx)
    dsimp only at g
    cases q : p.cs[c]? with
    | none => rw [q] at g; cases g
    | some y =>
      cases q2 : p.fs[i]? with
      | none => rw [q, q2] at g; cases g
      | some f =>
        rw [q, q2] at g
        obtain ⟨g1, g2⟩ := He.ba g
        obtain ⟨g2, g3⟩ := He.ba g2
        obtain ⟨g3, g4⟩ := He.ba g3
        have e1 := of_decide_eq_true g1
        subst e1
        have m := He.mkr_ok (inC q (List.mem_append_left _ (by simp : He.Fa.mkr y ∈ [He.Fa.glo y, .cls y, .mkr y])))
        rw [caE q, faE q2, atS (of_decide_eq_true g2), of_decide_eq_true g3]
        exact ⟨He.glo_ok X G (inC q (List.mem_append_left _ List.mem_cons_self)), m, f, rfl, of_decide_eq_true g4⟩
  · have key : ∀ {c : Nat} {x : Str}, p.cs[c]? = some x → Cls K (He.ga K x) ∧ NoAttr K (He.ga K x) f := fun {c x} hc =>
      ⟨He.cls_ok (inC hc (List.mem_append_left _ (by simp))), He.noat_ok (inC hc (List.mem_append_right _ (List.mem_map.mpr ⟨f, hf, rfl⟩)))⟩
    cases q : p.cs[c]? with
    | some x =>
      rw [caE q]
      exact key q
    | none =>
      cases q0 : p.cs[0]? with
      | some x =>
        have e : (adrOf K p w).ca c = He.ga K x := by
          unfold adrOf
          dsimp only
          rw [q]
          dsimp only
          rw [q0]
        rw [e]
        exact key q0
      | none =>
        have h1 : p.cs = [] := by
          cases hcs : p.cs with
          | nil => rfl
          | cons a b => rw [hcs] at q0; cases q0
        have h2 := (He.ba mB).1
        rw [h1] at h2
        cases hfl : p.flds with
        | nil => rw [hfl] at hf; cases hf
        | cons a b => rw [hfl] at h2; cases h2
  · have g := List.all_eq_true.mp (He.ba mB).2 _ (lookup_mem hx)
    dsimp only at g
    cases q : p.cs[c]? with
    | none => rw [q] at g; cases g
    | some y =>
      cases q2 : p.fs[i]? with
      | none => rw [q, q2] at g; cases g
      | some f =>
        rw [q, q2] at g
        obtain ⟨g1, g2⟩ := He.ba g
        obtain ⟨g2, g3⟩ := He.ba g2
        have e1 := of_decide_eq_true g1
        have e2 := of_decide_eq_true g2
        subst e2
        rw [caE q, faE q2, atS e1]
        exact ⟨He.cls_ok (inC q (List.mem_append_left _ (by simp))), mthF q2 e1, f, rfl, of_decide_eq_true g3⟩
  · have hs := (He.ba hXB).2
    unfold subB at hs
    have hc2 := List.all_eq_true.mp hs c (List.mem_range.mpr (List.getElem?_eq_some_iff.mp hc).1)
    rw [hc] at hc2
    cases qc : p.xs[c]? with
    | none => rw [qc] at hc2; cases hc2
    | some xc =>
      rw [qc] at hc2
      dsimp only at hc2
      have hx2 := List.all_eq_true.mp hc2 x (List.mem_range.mpr (List.getElem?_eq_some_iff.mp hb).1)
      rw [hb] at hx2
      cases qx : p.xs[x]? with
      | none => rw [qx] at hx2; cases hx2
      | some xx =>
        rw [qx] at hx2
        have ec : (adrOf K p w).xa c = He.ga K xc.nm := by
          unfold adrOf
          dsimp only
          rw [qc]
        have ex : (adrOf K p w).xa x = He.ga K xx.nm := by
          unfold adrOf
          dsimp only
          rw [qx]
        rw [ec, ex]
        exact of_decide_eq_true hx2
/-- THE END: the law's walk from the plain word -/
theorem finish {l : PySem.W.OpenLaw} {fa : Addr} {d : DefRec} {k i : Nat} {f : FnD} (X : K.In h) (G : h.Ns mainGlobals mg) (hmg : mg d.name = some (.ref fa))
    (hS : He.obsE (hFa p) (hFns p) K = He.valE (hFns p)) (hG : globB K p = true) (hXB : xcB K p = true) (hX : ∀ (i : Nat) (c : XcD), p.xs[i]? = some c → XcOk c) (hD : ∀ (i : Nat) (f : FnD), p.fs[i]? = some f → DefOk p f)
    (hf : p.fs[i]? = some f) (hcl : f.cl = none) (hn : d.name = f.nm) (hps : f.ps = (["script"] : List Str)) (hlaw : ∀ ns : List Int, ns.length ≤ 63 → ∃ S', callN p k i [.ref 0] [.frz (ns.map D.int)] = .ok (.bl true) S') :
    ∃ fd : FuncData, (∀ (s : Shared) (u : Value), BindsTo s fd ⟨[u], []⟩ [("script", u)]) ∧ ∀ base : Heap, K.In base → base.Ns mainGlobals mg → FnG l.prog w K mg base (2 * k + 2) fa fd ["script"] (spLaw K) := by
  have F := facts_of (w := w) X G hS hG hXB hX hD
  obtain ⟨fd, hF, hB⟩ := F.fn i f hf
  rw [hps] at hB
  have e : fa = (adrOf K p w).fa i := by
    have e1 : (adrOf K p w).fa i = He.ga K f.nm := by
      unfold adrOf FnD.at_
      dsimp only
      rw [hf]
      dsimp only
      rw [hcl]
      rfl
    have c1 := (He.ba (show (((hFa p).all fun f => f.ok K) && (hFns p).all fun d => (He.Fa.code d.at_ d.qual).ok K) = true from congrArg (fun z : He.Al => z.1) hS)).1
    have hm : He.Fa.glo f.nm ∈ fnFa f := by
      unfold fnFa
      rw [hcl]
      exact List.mem_cons_self
    have g := He.glo_ok X G (List.all_eq_true.mp c1 (.glo f.nm) (List.mem_append_left _ (List.mem_append_left _ (List.mem_flatMap.mpr ⟨f, List.mem_of_getElem? hf, hm⟩))))
    rw [hn, g] at hmg
    cases hmg
    exact e1.symm
  rw [e]
  refine ⟨fd, fun s u => ?_, fun base _ _ => ?_⟩
  · obtain ⟨oc, od, kV, doc, pm, an, cdv, ct, osl, e1, l, c⟩ := hF.ex
    rw [e1]
    have b := (hD i f hf).b kV doc pm an cdv ct [u] (by rw [hps]; rfl)
    rw [hps] at b
    exact .of_eq b
  · obtain ⟨fd', hF', hB', hO⟩ := law_of (P := l.prog) (w := w) (base := base) F rfl hf hps hlaw
    rw [fun_one hF hF']
    exact hO
end
end Mi

/-! Mi, part R: the plain word: weakest preconditions of runs. -/
namespace Mi
open PySem PySem.Spec

def W {α : Type} (o : Out α) (Φ : α → Store → Prop) (Ψ : Exn → Store → Prop) : Prop := match o with
  | .ok a S => Φ a S
  | .er e S => Ψ e S
  | .no => False
def WS (r : SR) (Φ : Fl → Env → Store → Prop) (Ψ : Exn → Store → Prop) : Prop := match r with
  | .go f env S => Φ f env S
  | .er e _ S => Ψ e S
  | .no => False
abbrev NoEx : Exn → Store → Prop := fun _ _ => False
/-- a branch -/
def Wif (k : Bool) (a b : Prop) : Prop := (k = true → a) ∧ (k = false → b)
def Wopt (o : Option (Option D)) (a : D → Prop) : Prop := match o with
  | some (some d) => a d
  | _ => False
def nxt (K : Env → Store → Prop) (Φ : Fl → Env → Store → Prop) : Fl → Env → Store → Prop
  | .nx => K
  | f => Φ f

section
variable {α β : Type} {Φ : α → Store → Prop} {Ψ : Exn → Store → Prop} {G : Gen} {env : Env} {S : Store}
theorem W_bind {m : M β} {f : β → M α} : W ((m >>= f) S) Φ Ψ = W (m S) (fun a S' => W (f a S') Φ Ψ) Ψ := by
  show W (M.bnd m f S) Φ Ψ = _
  unfold M.bnd
  cases m S <;> rfl
theorem W_bnd {m : M β} {f : β → M α} : W (M.bnd m f S) Φ Ψ = W (m S) (fun a S' => W (f a S') Φ Ψ) Ψ := W_bind
theorem W_ret {a : α} : W (M.ret a S) Φ Ψ = Φ a S := rfl
theorem W_ok {a : α} : W (.ok a S) Φ Ψ = Φ a S := rfl
theorem W_er {e : Exn} : W (.er e S) Φ Ψ = Ψ e S := rfl
theorem W_pure {a : α} : W ((pure a : M α) S) Φ Ψ = Φ a S := rfl
theorem W_need {Φ : Unit → Store → Prop} {b : Bool} : W (M.need b S) Φ Ψ = (b = true ∧ Φ () S) := by
  cases b
  · exact propext ⟨fun h => h.elim, fun h => nomatch h.1⟩
  · exact propext ⟨fun h => ⟨rfl, h⟩, fun h => h.2⟩
theorem W_ofO {o : Option α} {a : α} (h : o = some a) : W (ofO o S) Φ Ψ = Φ a S := by
  subst h
  rfl
theorem W_ofS {a : α} : W (ofO (some a) S) Φ Ψ = Φ a S := rfl
theorem W_mono {o : Out α} {Φ' : α → Store → Prop} {Ψ' : Exn → Store → Prop} (h : W o Φ Ψ) (h1 : ∀ a S, Φ a S → Φ' a S) (h2 : ∀ e S, Ψ e S → Ψ' e S) : W o Φ' Ψ' := by
  cases o with
  | ok a S => exact h1 a S h
  | er e S => exact h2 e S h
  | no => exact h
theorem W_eq {o : Out α} {a : α} {S' : Store} : o = .ok a S' ↔ W o (fun b T => b = a ∧ T = S') NoEx := by
  constructor
  · intro h
    subst h
    exact ⟨rfl, rfl⟩
  · intro h
    cases o with
    | ok b T => obtain ⟨rfl, rfl⟩ := h; rfl
    | er e S => exact h.elim
    | no => exact h.elim
theorem WS_mono {o : SR} {Φ Φ' : Fl → Env → Store → Prop} {Ψ' : Exn → Store → Prop} (h : WS o Φ Ψ) (h1 : ∀ f a S, Φ f a S → Φ' f a S) (h2 : ∀ e S, Ψ e S → Ψ' e S) : WS o Φ' Ψ' := by
  cases o with
  | go f a S => exact h1 f a S h
  | er e _ S => exact h2 e S h
  | no => exact h
theorem W_ite {k : Bool} {m m' : M α} : W ((if k then m else m') S) Φ Ψ = Wif k (W (m S) Φ Ψ) (W (m' S) Φ Ψ) := by
  cases k
  · exact propext ⟨fun h => ⟨(fun e => nomatch e), fun _ => h⟩, fun h => h.2 rfl⟩
  · exact propext ⟨fun h => ⟨fun _ => h, fun e => nomatch e⟩, fun h => h.1 rfl⟩
theorem Wif_t {a b : Prop} : Wif true a b = a := propext ⟨fun h => h.1 rfl, fun h => ⟨fun _ => h, fun e => nomatch e⟩⟩
theorem Wif_f {a b : Prop} : Wif false a b = b := propext ⟨fun h => h.2 rfl, fun h => ⟨(fun e => nomatch e), fun _ => h⟩⟩
theorem Wif_pos {k : Bool} {a b : Prop} (h : k = true) : Wif k a b = a := by rw [h, Wif_t]
theorem Wif_neg {k : Bool} {a b : Prop} (h : k = false) : Wif k a b = b := by rw [h, Wif_f]
theorem Wopt_s {d : D} {a : D → Prop} : Wopt (some (some d)) a = a d := rfl
theorem nxt_nx {K : Env → Store → Prop} {Φ : Fl → Env → Store → Prop} : nxt K Φ .nx env S = K env S := rfl
theorem nxt_rt {K : Env → Store → Prop} {Φ : Fl → Env → Store → Prop} {d : D} : nxt K Φ (.rt d) env S = Φ (.rt d) env S := rfl
theorem nxt_bk {K : Env → Store → Prop} {Φ : Fl → Env → Store → Prop} : nxt K Φ .bk env S = Φ .bk env S := rfl
theorem nxt_ct {K : Env → Store → Prop} {Φ : Fl → Env → Store → Prop} : nxt K Φ .ct env S = Φ .ct env S := rfl
end
/-! ### what is done with a value: by names, so that rewriting does not go ahead of the run -/
section
variable (G : Gen) (Ψ : Exn → Store → Prop)
def cBin2 (o : BOp) (x : D) (Φ : D → Store → Prop) : D → Store → Prop := fun y S => W (binM o x y S) Φ Ψ
def cBin (o : BOp) (b : Ex) (env : Env) (Φ : D → Store → Prop) : D → Store → Prop := fun x S => W (ev G b env S) (cBin2 Ψ o x Φ) Ψ
def cBl (Φ : D → Store → Prop) : Bool → Store → Prop := fun k S => Φ (.bl k) S
def cCmp2 (o : COp) (x : D) (Φ : D → Store → Prop) : D → Store → Prop := fun y S => W (cmpM o x y S) (cBl Φ) Ψ
def cCmp (o : COp) (b : Ex) (env : Env) (Φ : D → Store → Prop) : D → Store → Prop := fun x S => W (ev G b env S) (cCmp2 Ψ o x Φ) Ψ
def cChn3 (o' : COp) (y : D) (c : Ex) (env : Env) (Φ : D → Store → Prop) : Bool → Store → Prop := fun k S => Wif k (W (ev G c env S) (cCmp2 Ψ o' y Φ) Ψ) (Φ (.bl false) S)
def cChn2 (o o' : COp) (x : D) (c : Ex) (env : Env) (Φ : D → Store → Prop) : D → Store → Prop := fun y S => W (cmpM o x y S) (cChn3 G Ψ o' y c env Φ) Ψ
def cChn (o o' : COp) (b c : Ex) (env : Env) (Φ : D → Store → Prop) : D → Store → Prop := fun x S => W (ev G b env S) (cChn2 G Ψ o o' x c env Φ) Ψ
def cNeg2 (Φ : D → Store → Prop) : Int → Store → Prop := fun i S => Φ (.int (-i)) S
def cNeg (Φ : D → Store → Prop) : D → Store → Prop := fun x S => W (asInt x S) (cNeg2 Φ) Ψ
def cNot2 (Φ : D → Store → Prop) : Bool → Store → Prop := fun k S => Φ (.bl (!k)) S
def cNot (Φ : D → Store → Prop) : D → Store → Prop := fun x S => W (truthM x S) (cNot2 Φ) Ψ
def cAnd2 (b : Ex) (env : Env) (x : D) (Φ : D → Store → Prop) : Bool → Store → Prop := fun k S => Wif k (W (ev G b env S) Φ Ψ) (Φ x S)
def cAnd (b : Ex) (env : Env) (Φ : D → Store → Prop) : D → Store → Prop := fun x S => W (truthM x S) (cAnd2 G Ψ b env x Φ) Ψ
def cOr2 (b : Ex) (env : Env) (x : D) (Φ : D → Store → Prop) : Bool → Store → Prop := fun k S => Wif k (Φ x S) (W (ev G b env S) Φ Ψ)
def cOr (b : Ex) (env : Env) (Φ : D → Store → Prop) : D → Store → Prop := fun x S => W (truthM x S) (cOr2 G Ψ b env x Φ) Ψ
def cIte2 (a b : Ex) (env : Env) (Φ : D → Store → Prop) : Bool → Store → Prop := fun k S => Wif k (W (ev G a env S) Φ Ψ) (W (ev G b env S) Φ Ψ)
def cIte (a b : Ex) (env : Env) (Φ : D → Store → Prop) : D → Store → Prop := fun x S => W (truthM x S) (cIte2 G Ψ a b env Φ) Ψ
def cTup (Φ : D → Store → Prop) : List D → Store → Prop := fun ds S => decide (ds.length ≤ lim) = true ∧ Φ (.tup ds) S
def cLst (Φ : D → Store → Prop) : List D → Store → Prop := fun ds S => decide (ds.length ≤ lim) = true ∧ Φ (.ref S.length) (S ++ [.lst ds])
def cIx2 (x : D) (Φ : D → Store → Prop) : D → Store → Prop := fun y S => W (ixM x y S) Φ Ψ
def cIx (i : Ex) (env : Env) (Φ : D → Store → Prop) : D → Store → Prop := fun x S => W (ev G i env S) (cIx2 Ψ x Φ) Ψ
def cSl3 (x : D) (l : Option Int) (Φ : D → Store → Prop) : Option Int → Store → Prop := fun h S => W (slM x l h S) Φ Ψ
def cSl2 (x : D) (hi : Option Ex) (env : Env) (Φ : D → Store → Prop) : Option Int → Store → Prop := fun l S => W (evo G hi env S) (cSl3 Ψ x l Φ) Ψ
def cSl (lo hi : Option Ex) (env : Env) (Φ : D → Store → Prop) : D → Store → Prop := fun x S => W (evo G lo env S) (cSl2 G Ψ x hi env Φ) Ψ
def cCall (f : Nat) (Φ : D → Store → Prop) : List D → Store → Prop := fun ds S => W (G.call f ds S) Φ Ψ
def cBlt (b : Blt) (Φ : D → Store → Prop) : List D → Store → Prop := fun ds S => W (bltM b ds S) Φ Ψ
def cMth3 (m : Mth) (x : D) (Φ : D → Store → Prop) : List D → Store → Prop := fun ds S => W (mthM m x ds S) Φ Ψ
def cMth2 (m : Mth) (x : D) (es : List Ex) (env : Env) (Φ : D → Store → Prop) : Unit → Store → Prop := fun _ S => W (evs G es env S) (cMth3 Ψ m x Φ) Ψ
def cMth (m : Mth) (es : List Ex) (env : Env) (Φ : D → Store → Prop) : D → Store → Prop := fun x S => W (mthPre m x S) (cMth2 G Ψ m x es env Φ) Ψ
def cFld (f : Str) (Φ : D → Store → Prop) : D → Store → Prop := fun x S => W (fldM x f S) Φ Ψ
def cMcl4 (x : D) (i : Nat) (Φ : D → Store → Prop) : List D → Store → Prop := fun ds S => W (G.call i (x :: ds) S) Φ Ψ
def cMcl3 (x : D) (es : List Ex) (env : Env) (Φ : D → Store → Prop) : Nat → Store → Prop := fun i S => W (evs G es env S) (cMcl4 G Ψ x i Φ) Ψ
def cMcl2 (cs : List (Nat × Nat)) (x : D) (es : List Ex) (env : Env) (Φ : D → Store → Prop) : Unit → Store → Prop := fun _ S => W (whose cs x S) (cMcl3 G Ψ x es env Φ) Ψ
def cMcl (cs : List (Nat × Nat)) (m : Str) (es : List Ex) (env : Env) (Φ : D → Store → Prop) : D → Store → Prop := fun x S => W (mthIs x m S) (cMcl2 G Ψ cs x es env Φ) Ψ
def cMk3 (x : D) (Φ : D → Store → Prop) : Unit → Store → Prop := fun _ S => Φ x S
def cMk2 (x : D) (Φ : D → Store → Prop) : D → Store → Prop := fun d S => W (isNon d S) (cMk3 x Φ) Ψ
def cMk (c f : Nat) (Φ : D → Store → Prop) : List D → Store → Prop := fun ds S => W (G.call f (.ref S.length :: ds) (S ++ [.ins c []])) (cMk2 Ψ (.ref S.length) Φ) Ψ
def cLc2 (r : Nat) (Φ : D → Store → Prop) : Unit → Store → Prop := fun _ S => Φ (.ref r) S
def cDc (tg : Tg) (c : Option Ex) (k v : Ex) (env : Env) (Φ : D → Store → Prop) : Src → Store → Prop := fun s S => W (dcLoop s tg (fun env' => evc G c env') (fun env' => ev G k env') (fun env' => ev G v env') env S.length G.L 0 (S ++ [.dic []])) (cLc2 S.length Φ) NoEx
def cLc (tg : Tg) (c : Option Ex) (e : Ex) (env : Env) (Φ : D → Store → Prop) : Src → Store → Prop := fun s S => W (lcLoop s tg (fun env' => evc G c env') (fun env' => ev G e env') env S.length G.L 0 (S ++ [.lst []])) (cLc2 S.length Φ) NoEx
def cCons2 (d : D) (Φ : List D → Store → Prop) : List D → Store → Prop := fun ds S => Φ (d :: ds) S
def cCons (es : List Ex) (env : Env) (Φ : List D → Store → Prop) : D → Store → Prop := fun d S => W (evs G es env S) (cCons2 d Φ) Ψ
def cOpt2 (Φ : Option Int → Store → Prop) : Int → Store → Prop := fun i S => Φ (some i) S
def cOpt (Φ : Option Int → Store → Prop) : D → Store → Prop := fun d S => W (asInt d S) (cOpt2 Φ) Ψ
def cTr (Φ : Bool → Store → Prop) : D → Store → Prop := fun d S => W (truthM d S) Φ Ψ
def cSrc (Φ : Src → Store → Prop) : D → Store → Prop := fun d S => W (srcOf d S) Φ Ψ
def cEnu (Φ : Src → Store → Prop) : D → Store → Prop := fun d S => W (enuOf d S) Φ Ψ
def cRng (Φ : Src → Store → Prop) : List D → Store → Prop := fun ds S => W (rngM ds S) Φ Ψ
def cVar (Φ : D → Store → Prop) (S : Store) : D → Prop := fun d => Φ d S
def cSeq (ss : List Sx) (Φ : Fl → Env → Store → Prop) : Fl → Env → Store → Prop := nxt (fun env' S' => WS (xss G ss env' S') Φ Ψ) Φ
def cNx (env : Env) (Φ : Fl → Env → Store → Prop) : D → Store → Prop := fun _ S => Φ .nx env S
def cNxE (Φ : Fl → Env → Store → Prop) : Env → Store → Prop := fun env S => Φ .nx env S
def cNxU (env : Env) (Φ : Fl → Env → Store → Prop) : Unit → Store → Prop := fun _ S => Φ .nx env S
def cAsg (t : Tg) (env : Env) (Φ : Fl → Env → Store → Prop) : D → Store → Prop := fun d S => W (t.bind d env S) (cNxE Φ) Ψ
def cSet3 (v x : D) (env : Env) (Φ : Fl → Env → Store → Prop) : D → Store → Prop := fun y S => W (setIx x y v S) (cNxU env Φ) Ψ
def cSet2 (i : Ex) (v : D) (env : Env) (Φ : Fl → Env → Store → Prop) : D → Store → Prop := fun x S => W (ev G i env S) (cSet3 Ψ v x env Φ) Ψ
def cSet (a i : Ex) (env : Env) (Φ : Fl → Env → Store → Prop) : D → Store → Prop := fun v S => W (ev G a env S) (cSet2 G Ψ i v env Φ) Ψ
def cAug3 (i : Nat) (env : Env) (Φ : Fl → Env → Store → Prop) : D → Store → Prop := fun d S => Φ .nx (env.set i (some d)) S
def cAug2 (i : Nat) (o : BOp) (x : D) (env : Env) (Φ : Fl → Env → Store → Prop) : D → Store → Prop := fun y S => W (augM o x y S) (cAug3 i env Φ) Ψ
def cAug (i : Nat) (o : BOp) (e : Ex) (env : Env) (Φ : Fl → Env → Store → Prop) (S : Store) : D → Prop := fun x => W (ev G e env S) (cAug2 Ψ i o x env Φ) Ψ
def cIf2 (a b : List Sx) (env : Env) (Φ : Fl → Env → Store → Prop) : Bool → Store → Prop := fun k S => Wif k (WS (xss G a env S) Φ Ψ) (WS (xss G b env S) Φ Ψ)
def cIf (a b : List Sx) (env : Env) (Φ : Fl → Env → Store → Prop) : D → Store → Prop := fun x S => W (truthM x S) (cIf2 G Ψ a b env Φ) Ψ
def cFor (t : Tg) (b : List Sx) (env : Env) (Φ : Fl → Env → Store → Prop) : Src → Store → Prop := fun s S => WS (forF s t (fun env' S2 => xss G b env' S2) G.L 0 env S) Φ Ψ
def cNxF (env : Env) (Φ : Fl → Env → Store → Prop) : Unit → Store → Prop := fun _ S => Φ .nx env S
def cAsF2 (f : Str) (v : D) (env : Env) (Φ : Fl → Env → Store → Prop) : D → Store → Prop := fun x S => W (putF x f v S) (cNxF env Φ) Ψ
def cAsF (a : Ex) (f : Str) (env : Env) (Φ : Fl → Env → Store → Prop) : D → Store → Prop := fun v S => W (ev G a env S) (cAsF2 Ψ f v env Φ) Ψ
def cAuF4 (x : D) (f : Str) (env : Env) (Φ : Fl → Env → Store → Prop) : D → Store → Prop := fun z S => W (putF x f z S) (cNxF env Φ) Ψ
def cAuF2 (x : D) (f : Str) (o : BOp) (d : D) (env : Env) (Φ : Fl → Env → Store → Prop) : D → Store → Prop := fun v S => W (augM o v d S) (cAuF4 Ψ x f env Φ) Ψ
def cAuF (f : Str) (o : BOp) (d : D) (env : Env) (Φ : Fl → Env → Store → Prop) : D → Store → Prop := fun x S => W (fldM x f S) (cAuF2 Ψ x f o d env Φ) Ψ
def cPar (is : List Nat) (env : Env) (Φ : Fl → Env → Store → Prop) : List D → Store → Prop := fun ds S => decide (ds.length = is.length) = true ∧ Φ .nx (setAll is ds env) S
def cRaise (x : Nat) (fs : List Str) : List D → Store → Prop := fun ds S => decide (ds.length = fs.length) = true ∧ Ψ ⟨x, fs.zip ds⟩ S
def cTry (hs : List Hdl) (Φ : Fl → Env → Store → Prop) : Exn → Store → Prop := fun e S => ∀ env', WS (runH hs e env' S) Φ Ψ
def cRet (env : Env) (Φ : Fl → Env → Store → Prop) : D → Store → Prop := fun d S => Φ (.rt d) env S
end
section
variable {Φ : D → Store → Prop} {Ψ : Exn → Store → Prop} {G : Gen} {env : Env} {S : Store}
theorem cBin2_ {o : BOp} {x y : D} : cBin2 Ψ o x Φ y S = W (binM o x y S) Φ Ψ := rfl
theorem cBin_ {o : BOp} {b : Ex} {x : D} : cBin G Ψ o b env Φ x S = W (ev G b env S) (cBin2 Ψ o x Φ) Ψ := rfl
theorem cBl_ {k : Bool} : cBl Φ k S = Φ (.bl k) S := rfl
theorem cCmp2_ {o : COp} {x y : D} : cCmp2 Ψ o x Φ y S = W (cmpM o x y S) (cBl Φ) Ψ := rfl
theorem cCmp_ {o : COp} {b : Ex} {x : D} : cCmp G Ψ o b env Φ x S = W (ev G b env S) (cCmp2 Ψ o x Φ) Ψ := rfl
theorem cChn3_t {o' : COp} {y : D} {c : Ex} : cChn3 G Ψ o' y c env Φ true S = W (ev G c env S) (cCmp2 Ψ o' y Φ) Ψ := Wif_t
theorem cChn3_f {o' : COp} {y : D} {c : Ex} : cChn3 G Ψ o' y c env Φ false S = Φ (.bl false) S := Wif_f
theorem cChn2_ {o o' : COp} {x y : D} {c : Ex} : cChn2 G Ψ o o' x c env Φ y S = W (cmpM o x y S) (cChn3 G Ψ o' y c env Φ) Ψ := rfl
theorem cChn_ {o o' : COp} {x : D} {b c : Ex} : cChn G Ψ o o' b c env Φ x S = W (ev G b env S) (cChn2 G Ψ o o' x c env Φ) Ψ := rfl
theorem cNeg2_ {i : Int} : cNeg2 Φ i S = Φ (.int (-i)) S := rfl
theorem cNeg_ {x : D} : cNeg Ψ Φ x S = W (asInt x S) (cNeg2 Φ) Ψ := rfl
theorem cNot2_ {k : Bool} : cNot2 Φ k S = Φ (.bl (!k)) S := rfl
theorem cNot_ {x : D} : cNot Ψ Φ x S = W (truthM x S) (cNot2 Φ) Ψ := rfl
theorem cAnd2_t {b : Ex} {x : D} : cAnd2 G Ψ b env x Φ true S = W (ev G b env S) Φ Ψ := Wif_t
theorem cAnd2_f {b : Ex} {x : D} : cAnd2 G Ψ b env x Φ false S = Φ x S := Wif_f
theorem cAnd_ {b : Ex} {x : D} : cAnd G Ψ b env Φ x S = W (truthM x S) (cAnd2 G Ψ b env x Φ) Ψ := rfl
theorem cOr2_t {b : Ex} {x : D} : cOr2 G Ψ b env x Φ true S = Φ x S := Wif_t
theorem cOr2_f {b : Ex} {x : D} : cOr2 G Ψ b env x Φ false S = W (ev G b env S) Φ Ψ := Wif_f
theorem cOr_ {b : Ex} {x : D} : cOr G Ψ b env Φ x S = W (truthM x S) (cOr2 G Ψ b env x Φ) Ψ := rfl
theorem cIte2_t {a b : Ex} : cIte2 G Ψ a b env Φ true S = W (ev G a env S) Φ Ψ := Wif_t
theorem cIte2_f {a b : Ex} : cIte2 G Ψ a b env Φ false S = W (ev G b env S) Φ Ψ := Wif_f
theorem cIte_ {a b : Ex} {x : D} : cIte G Ψ a b env Φ x S = W (truthM x S) (cIte2 G Ψ a b env Φ) Ψ := rfl
theorem cTup_ {ds : List D} : cTup Φ ds S = (decide (ds.length ≤ lim) = true ∧ Φ (.tup ds) S) := rfl
theorem cLst_ {ds : List D} : cLst Φ ds S = (decide (ds.length ≤ lim) = true ∧ Φ (.ref S.length) (S ++ [.lst ds])) := rfl
theorem cIx2_ {x y : D} : cIx2 Ψ x Φ y S = W (ixM x y S) Φ Ψ := rfl
theorem cIx_ {x : D} {i : Ex} : cIx G Ψ i env Φ x S = W (ev G i env S) (cIx2 Ψ x Φ) Ψ := rfl
theorem cSl3_ {x : D} {l h : Option Int} : cSl3 Ψ x l Φ h S = W (slM x l h S) Φ Ψ := rfl
theorem cSl2_ {x : D} {hi : Option Ex} {l : Option Int} : cSl2 G Ψ x hi env Φ l S = W (evo G hi env S) (cSl3 Ψ x l Φ) Ψ := rfl
theorem cSl_ {x : D} {lo hi : Option Ex} : cSl G Ψ lo hi env Φ x S = W (evo G lo env S) (cSl2 G Ψ x hi env Φ) Ψ := rfl
theorem cCall_ {f : Nat} {ds : List D} : cCall G Ψ f Φ ds S = W (G.call f ds S) Φ Ψ := rfl
theorem cBlt_ {b : Blt} {ds : List D} : cBlt Ψ b Φ ds S = W (bltM b ds S) Φ Ψ := rfl
theorem cMth3_ {m : Mth} {x : D} {ds : List D} : cMth3 Ψ m x Φ ds S = W (mthM m x ds S) Φ Ψ := rfl
theorem cMth2_ {m : Mth} {x : D} {es : List Ex} {u : Unit} : cMth2 G Ψ m x es env Φ u S = W (evs G es env S) (cMth3 Ψ m x Φ) Ψ := rfl
theorem cMth_ {m : Mth} {x : D} {es : List Ex} : cMth G Ψ m es env Φ x S = W (mthPre m x S) (cMth2 G Ψ m x es env Φ) Ψ := rfl
theorem cFld_ {x : D} {f : Str} : cFld Ψ f Φ x S = W (fldM x f S) Φ Ψ := rfl
theorem cMcl4_ {x : D} {ds : List D} {i : Nat} : cMcl4 G Ψ x i Φ ds S = W (G.call i (x :: ds) S) Φ Ψ := rfl
theorem cMcl3_ {x : D} {es : List Ex} {i : Nat} : cMcl3 G Ψ x es env Φ i S = W (evs G es env S) (cMcl4 G Ψ x i Φ) Ψ := rfl
theorem cMcl2_ {cs : List (Nat × Nat)} {x : D} {es : List Ex} {u : Unit} : cMcl2 G Ψ cs x es env Φ u S = W (whose cs x S) (cMcl3 G Ψ x es env Φ) Ψ := rfl
theorem cMcl_ {cs : List (Nat × Nat)} {m : Str} {x : D} {es : List Ex} : cMcl G Ψ cs m es env Φ x S = W (mthIs x m S) (cMcl2 G Ψ cs x es env Φ) Ψ := rfl
theorem cMk3_ {x : D} {u : Unit} : cMk3 x Φ u S = Φ x S := rfl
theorem cMk2_ {x : D} : cMk2 Ψ x Φ .non S = Φ x S := rfl
theorem cMk_ {c f : Nat} {ds : List D} : cMk G Ψ c f Φ ds S = W (G.call f (.ref S.length :: ds) (S ++ [.ins c []])) (cMk2 Ψ (.ref S.length) Φ) Ψ := rfl
theorem cLc2_ {r : Nat} {u : Unit} : cLc2 r Φ u S = Φ (.ref r) S := rfl
theorem cCons2_ {d : D} {ds : List D} {Φ : List D → Store → Prop} : cCons2 d Φ ds S = Φ (d :: ds) S := rfl
theorem cCons_ {d : D} {es : List Ex} {Φ : List D → Store → Prop} : cCons G Ψ es env Φ d S = W (evs G es env S) (cCons2 d Φ) Ψ := rfl
theorem cOpt2_ {i : Int} {Φ : Option Int → Store → Prop} : cOpt2 Φ i S = Φ (some i) S := rfl
theorem cOpt_ {d : D} {Φ : Option Int → Store → Prop} : cOpt Ψ Φ d S = W (asInt d S) (cOpt2 Φ) Ψ := rfl
theorem cTr_ {d : D} {Φ : Bool → Store → Prop} : cTr Ψ Φ d S = W (truthM d S) Φ Ψ := rfl
theorem cSrc_ {d : D} {Φ : Src → Store → Prop} : cSrc Ψ Φ d S = W (srcOf d S) Φ Ψ := rfl
theorem cEnu_ {d : D} {Φ : Src → Store → Prop} : cEnu Ψ Φ d S = W (enuOf d S) Φ Ψ := rfl
theorem cRng_ {ds : List D} {Φ : Src → Store → Prop} : cRng Ψ Φ ds S = W (rngM ds S) Φ Ψ := rfl
theorem cVar_ {d : D} : cVar Φ S d = Φ d S := rfl
theorem We_lit {d : D} : W (ev G (.lit d) env S) Φ Ψ = Φ d S := by simp only [ev, W_ret]
theorem We_var {i : Nat} : W (ev G (.var i) env S) Φ Ψ = Wopt env[i]? (cVar Φ S) := by
  simp only [ev]
  cases env[i]? with
  | none => rfl
  | some o => cases o <;> rfl
theorem We_bin {o : BOp} {a b : Ex} : W (ev G (.bin o a b) env S) Φ Ψ = W (ev G a env S) (cBin G Ψ o b env Φ) Ψ := by simp only [ev, W_bind]; rfl
theorem We_cmp {o : COp} {a b : Ex} : W (ev G (.cmp o a b) env S) Φ Ψ = W (ev G a env S) (cCmp G Ψ o b env Φ) Ψ := by simp only [ev, W_bind, W_ret]; rfl
theorem We_chn {o o' : COp} {a b c : Ex} : W (ev G (.chn o o' a b c) env S) Φ Ψ = W (ev G a env S) (cChn G Ψ o o' b c env Φ) Ψ := by simp only [ev, W_bind, W_ret, W_ite]; rfl
theorem We_neg {a : Ex} : W (ev G (.neg a) env S) Φ Ψ = W (ev G a env S) (cNeg Ψ Φ) Ψ := by simp only [ev, W_bind, W_ret]; rfl
theorem We_not {a : Ex} : W (ev G (.not a) env S) Φ Ψ = W (ev G a env S) (cNot Ψ Φ) Ψ := by simp only [ev, W_bind, W_ret]; rfl
theorem We_and {a b : Ex} : W (ev G (.and a b) env S) Φ Ψ = W (ev G a env S) (cAnd G Ψ b env Φ) Ψ := by simp only [ev, W_bind, W_ret, W_ite]; rfl
theorem We_or {a b : Ex} : W (ev G (.or a b) env S) Φ Ψ = W (ev G a env S) (cOr G Ψ b env Φ) Ψ := by simp only [ev, W_bind, W_ret, W_ite]; rfl
theorem We_ite {c a b : Ex} : W (ev G (.ite c a b) env S) Φ Ψ = W (ev G c env S) (cIte G Ψ a b env Φ) Ψ := by simp only [ev, W_bind, W_ret, W_ite]; rfl
theorem We_tup {es : List Ex} : W (ev G (.tup es) env S) Φ Ψ = W (evs G es env S) (cTup Φ) Ψ := by simp only [ev, W_bind, W_need, W_ret]; rfl
theorem We_lst {es : List Ex} : W (ev G (.lst es) env S) Φ Ψ = W (evs G es env S) (cLst Φ) Ψ := by
  simp only [ev, W_bind, W_need]
  rfl
theorem We_ix {a i : Ex} : W (ev G (.ix a i) env S) Φ Ψ = W (ev G a env S) (cIx G Ψ i env Φ) Ψ := by simp only [ev, W_bind]; rfl
theorem We_sl {a : Ex} {lo hi : Option Ex} : W (ev G (.sl a lo hi) env S) Φ Ψ = W (ev G a env S) (cSl G Ψ lo hi env Φ) Ψ := by simp only [ev, W_bind]; rfl
theorem We_call {f : Nat} {es : List Ex} : W (ev G (.call f es) env S) Φ Ψ = W (evs G es env S) (cCall G Ψ f Φ) Ψ := by simp only [ev, W_bind]; rfl
theorem We_blt {b : Blt} {es : List Ex} : W (ev G (.blt b es) env S) Φ Ψ = W (evs G es env S) (cBlt Ψ b Φ) Ψ := by simp only [ev, W_bind]; rfl
theorem We_dic : W (ev G .dic env S) Φ Ψ = Φ (.ref S.length) (S ++ [.dic []]) := by simp only [ev]; rfl
theorem We_fld {a : Ex} {f : Str} : W (ev G (.fld a f) env S) Φ Ψ = W (ev G a env S) (cFld Ψ f Φ) Ψ := by simp only [ev, W_bind]; rfl
theorem We_mcl {cs : List (Nat × Nat)} {m : Str} {a : Ex} {es : List Ex} : W (ev G (.mcl cs m a es) env S) Φ Ψ = W (ev G a env S) (cMcl G Ψ cs m es env Φ) Ψ := by simp only [ev, W_bind]; rfl
theorem We_mk {c f : Nat} {es : List Ex} : W (ev G (.mk c f es) env S) Φ Ψ = W (evs G es env S) (cMk G Ψ c f Φ) Ψ := by simp only [ev, W_bind]; rfl
theorem We_mth {m : Mth} {a : Ex} {es : List Ex} : W (ev G (.mth m a es) env S) Φ Ψ = W (ev G a env S) (cMth G Ψ m es env Φ) Ψ := by simp only [ev, W_bind]; rfl
theorem We_lc {it : Itn} {tg : Tg} {vs : List Nat} {c : Option Ex} {e : Ex} : W (ev G (.lc it tg vs c e) env S) Φ Ψ = W (evi G it env S) (cLc G tg c e (wipeE env vs) Φ) Ψ := by
  simp only [ev, W_bind]
  refine congrArg (fun F => W (evi G it env S) F Ψ) (funext fun s => funext fun S1 => ?_)
  show W (newC (.lst []) S1) _ Ψ = _
  unfold newC
  simp only [W_ok, W_bind, W_ret]
  unfold calmM cLc
  cases lcLoop s tg (fun env' => evc G c env') (fun env' => ev G e env') (wipeE env vs) S1.length G.L 0 (S1 ++ [.lst []]) <;> rfl
theorem We_dc {it : Itn} {tg : Tg} {vs : List Nat} {c : Option Ex} {k v : Ex} : W (ev G (.dc it tg vs c k v) env S) Φ Ψ = W (evi G it env S) (cDc G tg c k v (wipeE env vs) Φ) Ψ := by
  simp only [ev, W_bind]
  refine congrArg (fun F => W (evi G it env S) F Ψ) (funext fun s => funext fun S1 => ?_)
  show W (newC (.dic []) S1) _ Ψ = _
  unfold newC
  simp only [W_ok, W_bind, W_ret]
  unfold calmM cDc
  cases dcLoop s tg (fun env' => evc G c env') (fun env' => ev G k env') (fun env' => ev G v env') (wipeE env vs) S1.length G.L 0 (S1 ++ [.dic []]) <;> rfl
theorem Ws_nil {Φ : List D → Store → Prop} : W (evs G [] env S) Φ Ψ = Φ [] S := by simp only [evs, W_ret]
theorem Ws_cons {Φ : List D → Store → Prop} {e : Ex} {es : List Ex} : W (evs G (e :: es) env S) Φ Ψ = W (ev G e env S) (cCons G Ψ es env Φ) Ψ := by simp only [evs, W_bind, W_ret]; rfl
theorem Wo_none {Φ : Option Int → Store → Prop} : W (evo G none env S) Φ Ψ = Φ none S := by simp only [evo, W_ret]
theorem Wo_some {Φ : Option Int → Store → Prop} {e : Ex} : W (evo G (some e) env S) Φ Ψ = W (ev G e env S) (cOpt Ψ Φ) Ψ := by simp only [evo, W_bind, W_ret]; rfl
theorem Wc_none {Φ : Bool → Store → Prop} : W (evc G none env S) Φ Ψ = Φ true S := by simp only [evc, W_ret]
theorem Wc_some {Φ : Bool → Store → Prop} {e : Ex} : W (evc G (some e) env S) Φ Ψ = W (ev G e env S) (cTr Ψ Φ) Ψ := by simp only [evc, W_bind]; rfl
theorem Wi_seq {Φ : Src → Store → Prop} {e : Ex} : W (evi G (.seq e) env S) Φ Ψ = W (ev G e env S) (cSrc Ψ Φ) Ψ := by simp only [evi, W_bind]; rfl
theorem Wi_rng {Φ : Src → Store → Prop} {es : List Ex} : W (evi G (.rng es) env S) Φ Ψ = W (evs G es env S) (cRng Ψ Φ) Ψ := by simp only [evi, W_bind]; rfl
theorem Wi_enu {Φ : Src → Store → Prop} {e : Ex} : W (evi G (.enu e) env S) Φ Ψ = W (ev G e env S) (cEnu Ψ Φ) Ψ := by simp only [evi, W_bind]; rfl
theorem WT {Φ : Bool → Store → Prop} {e : Ex} : W (evT G e env S) Φ Ψ = W (ev G e env S) (cTr Ψ Φ) Ψ := by simp only [evT, W_bind]; rfl
end
/-- the end of a body -/
def Wend (Φ : D → Store → Prop) : Fl → Env → Store → Prop
  | .nx, _, S => Φ .non S
  | .rt d, _, S => Φ d S
  | _, _, _ => False
section
variable {α : Type} {Φ : Fl → Env → Store → Prop} {Ψ : Exn → Store → Prop} {G : Gen} {env : Env} {S : Store}
theorem cSeq_nx {ss : List Sx} : cSeq G Ψ ss Φ .nx env S = WS (xss G ss env S) Φ Ψ := rfl
theorem cSeq_rt {ss : List Sx} {d : D} : cSeq G Ψ ss Φ (.rt d) env S = Φ (.rt d) env S := rfl
theorem cSeq_bk {ss : List Sx} : cSeq G Ψ ss Φ .bk env S = Φ .bk env S := rfl
theorem cSeq_ct {ss : List Sx} : cSeq G Ψ ss Φ .ct env S = Φ .ct env S := rfl
theorem cNx_ {d : D} : cNx env Φ d S = Φ .nx env S := rfl
theorem cNxE_ : cNxE Φ env S = Φ .nx env S := rfl
theorem cNxU_ {u : Unit} : cNxU env Φ u S = Φ .nx env S := rfl
theorem cAsg_ {t : Tg} {d : D} : cAsg Ψ t env Φ d S = W (t.bind d env S) (cNxE Φ) Ψ := rfl
theorem cSet3_ {v x y : D} : cSet3 Ψ v x env Φ y S = W (setIx x y v S) (cNxU env Φ) Ψ := rfl
theorem cSet2_ {i : Ex} {v x : D} : cSet2 G Ψ i v env Φ x S = W (ev G i env S) (cSet3 Ψ v x env Φ) Ψ := rfl
theorem cSet_ {a i : Ex} {v : D} : cSet G Ψ a i env Φ v S = W (ev G a env S) (cSet2 G Ψ i v env Φ) Ψ := rfl
theorem cAug3_ {i : Nat} {d : D} : cAug3 i env Φ d S = Φ .nx (env.set i (some d)) S := rfl
theorem cAug2_ {i : Nat} {o : BOp} {x y : D} : cAug2 Ψ i o x env Φ y S = W (augM o x y S) (cAug3 i env Φ) Ψ := rfl
theorem cAug_ {i : Nat} {o : BOp} {e : Ex} {x : D} : cAug G Ψ i o e env Φ S x = W (ev G e env S) (cAug2 Ψ i o x env Φ) Ψ := rfl
theorem cIf2_t {a b : List Sx} : cIf2 G Ψ a b env Φ true S = WS (xss G a env S) Φ Ψ := Wif_t
theorem cIf2_f {a b : List Sx} : cIf2 G Ψ a b env Φ false S = WS (xss G b env S) Φ Ψ := Wif_f
theorem cIf_ {a b : List Sx} {x : D} : cIf G Ψ a b env Φ x S = W (truthM x S) (cIf2 G Ψ a b env Φ) Ψ := rfl
theorem cPar_ {is : List Nat} {ds : List D} : cPar is env Φ ds S = (decide (ds.length = is.length) = true ∧ Φ .nx (setAll is ds env) S) := rfl
theorem cRaise_ {x : Nat} {fs : List Str} {ds : List D} : cRaise Ψ x fs ds S = (decide (ds.length = fs.length) = true ∧ Ψ ⟨x, fs.zip ds⟩ S) := rfl
theorem cRet_ {d : D} : cRet env Φ d S = Φ (.rt d) env S := rfl
theorem WS_bndS {m : M α} {f : α → Store → SR} : WS (bndS m env f S) Φ Ψ = W (m S) (fun a S' => WS (f a S') Φ Ψ) Ψ := by
  unfold bndS
  cases m S <;> rfl
theorem WS_go {f : Fl} : WS (.go f env S) Φ Ψ = Φ f env S := rfl
theorem WS_ite {k : Bool} {a b : SR} : WS (if k then a else b) Φ Ψ = Wif k (WS a Φ Ψ) (WS b Φ Ψ) := by
  cases k
  · exact propext ⟨fun h => ⟨(fun e => nomatch e), fun _ => h⟩, fun h => h.2 rfl⟩
  · exact propext ⟨fun h => ⟨fun _ => h, fun e => nomatch e⟩, fun h => h.1 rfl⟩
theorem WS_nil : WS (xss G [] env S) Φ Ψ = Φ .nx env S := by simp only [xss, WS_go]
theorem WS_cons {s : Sx} {ss : List Sx} : WS (xss G (s :: ss) env S) Φ Ψ = WS (xs G s env S) (cSeq G Ψ ss Φ) Ψ := by
  simp only [xss]
  cases xs G s env S with
  | go f e T => cases f <;> rfl
  | er e _ T => rfl
  | no => rfl
theorem Wx_expr {e : Ex} : WS (xs G (.expr e) env S) Φ Ψ = W (ev G e env S) (cNx env Φ) Ψ := by simp only [xs, WS_bndS, WS_go]; rfl
theorem Wx_asg {t : Tg} {e : Ex} : WS (xs G (.asg t e) env S) Φ Ψ = W (ev G e env S) (cAsg Ψ t env Φ) Ψ := by simp only [xs, WS_bndS, WS_go]; rfl
theorem Wx_asgIx {a i e : Ex} : WS (xs G (.asgIx a i e) env S) Φ Ψ = W (ev G e env S) (cSet G Ψ a i env Φ) Ψ := by simp only [xs, WS_bndS, WS_go, W_bind]; rfl
theorem Wx_aug {i : Nat} {o : BOp} {e : Ex} : WS (xs G (.aug i o e) env S) Φ Ψ = Wopt env[i]? (cAug G Ψ i o e env Φ S) := by
  simp only [xs]
  cases env[i]? with
  | none => rfl
  | some q =>
    cases q with
    | none => rfl
    | some x => simp only [WS_bndS, WS_go, W_bind, Wopt]; rfl
theorem Wx_ite {c : Ex} {a b : List Sx} : WS (xs G (.ite c a b) env S) Φ Ψ = W (ev G c env S) (cIf G Ψ a b env Φ) Ψ := by simp only [xs, WS_bndS, WS_ite, evT, W_bind]; rfl
theorem Wx_whl {c : Ex} {b : List Sx} : WS (xs G (.whl c b) env S) Φ Ψ = WS (whileF (evT G c) (fun env' S' => xss G b env' S') G.L env S) Φ Ψ := by simp only [xs]
theorem Wx_for {t : Tg} {it : Itn} {b : List Sx} : WS (xs G (.for_ t it b) env S) Φ Ψ = W (evi G it env S) (cFor G Ψ t b env Φ) Ψ := by simp only [xs, WS_bndS]; rfl
theorem Wx_ret {e : Ex} : WS (xs G (.ret e) env S) Φ Ψ = W (ev G e env S) (cRet env Φ) Ψ := by simp only [xs, WS_bndS, WS_go]; rfl
theorem Wx_par {is : List Nat} {es : List Ex} : WS (xs G (.par is es) env S) Φ Ψ = W (evs G es env S) (cPar is env Φ) Ψ := by
  simp only [xs, WS_bndS]
  refine congrArg (fun F => W (evs G es env S) F Ψ) (funext fun ds => funext fun S1 => ?_)
  by_cases h : ds.length = is.length
  · rw [if_pos h, cPar_, decide_eq_true h]
    exact propext ⟨fun h => ⟨rfl, h⟩, fun h => h.2⟩
  · rw [if_neg h, cPar_, decide_eq_false h]
    exact propext ⟨fun h => h.elim, fun h => nomatch h.1⟩
theorem cNxF_ {u : Unit} : cNxF env Φ u S = Φ .nx env S := rfl
theorem cAsF2_ {f : Str} {v x : D} : cAsF2 Ψ f v env Φ x S = W (putF x f v S) (cNxF env Φ) Ψ := rfl
theorem cAsF_ {a : Ex} {f : Str} {v : D} : cAsF G Ψ a f env Φ v S = W (ev G a env S) (cAsF2 Ψ f v env Φ) Ψ := rfl
theorem cAuF4_ {f : Str} {x z : D} : cAuF4 Ψ x f env Φ z S = W (putF x f z S) (cNxF env Φ) Ψ := rfl
theorem cAuF2_ {f : Str} {o : BOp} {d x v : D} : cAuF2 Ψ x f o d env Φ v S = W (augM o v d S) (cAuF4 Ψ x f env Φ) Ψ := rfl
theorem cAuF_ {f : Str} {o : BOp} {d x : D} : cAuF Ψ f o d env Φ x S = W (fldM x f S) (cAuF2 Ψ x f o d env Φ) Ψ := rfl
theorem Wx_asgF {a : Ex} {f : Str} {e : Ex} : WS (xs G (.asgF a f e) env S) Φ Ψ = W (ev G e env S) (cAsF G Ψ a f env Φ) Ψ := by
  simp only [xs, WS_bndS, W_bind]
  rfl
theorem Wx_augF {a : Ex} {f : Str} {o : BOp} {d : D} : WS (xs G (.augF a f o d) env S) Φ Ψ = W (ev G a env S) (cAuF Ψ f o d env Φ) Ψ := by
  simp only [xs, WS_bndS, W_bind]
  rfl
theorem Wx_raise {x : Nat} {fs : List Str} {es : List Ex} : WS (xs G (.raise x fs es) env S) Φ Ψ = W (evs G es env S) (cRaise Ψ x fs) Ψ := by
  simp only [xs, WS_bndS]
  refine congrArg (fun F => W (evs G es env S) F Ψ) (funext fun ds => funext fun S1 => ?_)
  by_cases h : ds.length = fs.length
  · rw [if_pos h, cRaise_, decide_eq_true h]
    exact propext ⟨fun h => ⟨rfl, h⟩, fun h => h.2⟩
  · rw [if_neg h, cRaise_, decide_eq_false h]
    exact propext ⟨fun h => h.elim, fun h => nomatch h.1⟩
theorem WS_try {b : List Sx} {hs : List Hdl} (h : WS (xss G b env S) Φ (cTry Ψ hs Φ)) : WS (xs G (.try_ b hs) env S) Φ Ψ := by
  unfold xs
  revert h
  cases xss G b env S with
  | go f e T => cases f <;> exact fun h => h
  | er e env' T => exact fun h => h env'
  | no => exact fun h => h
theorem Wx_retN : WS (xs G .retN env S) Φ Ψ = Φ (.rt .non) env S := by simp only [xs, WS_go]
theorem Wx_brk : WS (xs G .brk env S) Φ Ψ = Φ .bk env S := by simp only [xs, WS_go]
theorem Wx_cnt : WS (xs G .cnt env S) Φ Ψ = Φ .ct env S := by simp only [xs, WS_go]
theorem Wx_pass : WS (xs G .pass env S) Φ Ψ = Φ .nx env S := by simp only [xs, WS_go]
theorem W_endOf {Φ : D → Store → Prop} {r : SR} : W (endOf r) Φ Ψ = WS r (Wend Φ) Ψ := by
  cases r with
  | go f e S => cases f <;> rfl
  | er e _ S => rfl
  | no => rfl
theorem Wend_nx {Φ : D → Store → Prop} : Wend Φ .nx env S = Φ .non S := rfl
theorem Wend_rt {Φ : D → Store → Prop} {d : D} : Wend Φ (.rt d) env S = Φ d S := rfl
end
/-! ### loops -/
def loopK (I : Env → Store → Prop) (Φ : Fl → Env → Store → Prop) : Fl → Env → Store → Prop
  | .nx => I
  | .ct => I
  | .bk => Φ .nx
  | .rt d => Φ (.rt d)
section
variable {Φ : Fl → Env → Store → Prop} {Ψ : Exn → Store → Prop}
theorem loopK_nx {I : Env → Store → Prop} {env : Env} {S : Store} : loopK I Φ .nx env S = I env S := rfl
theorem loopK_ct {I : Env → Store → Prop} {env : Env} {S : Store} : loopK I Φ .ct env S = I env S := rfl
theorem loopK_bk {I : Env → Store → Prop} {env : Env} {S : Store} : loopK I Φ .bk env S = Φ .nx env S := rfl
theorem loopK_rt {I : Env → Store → Prop} {d : D} {env : Env} {S : Store} : loopK I Φ (.rt d) env S = Φ (.rt d) env S := rfl
theorem forF_one {s : Src} {tg : Tg} {b : SM} {n i : Nat} {env : Env} {S : Store} : WS (forF s tg b (n + 1) i env S) Φ Ψ = W (s.at i S) (fun o S1 => match o with
    | none => Φ .nx env S1
    | some d => W (tg.bind d env S1) (fun env1 S2 => WS (b env1 S2) (loopK (fun env2 S3 => WS (forF s tg b n (i + 1) env2 S3) Φ Ψ) Φ) Ψ) Ψ) Ψ := by
  conv => lhs; unfold forF
  rw [WS_bndS]
  refine congrArg (fun F => W (s.at i S) F Ψ) (funext fun o => funext fun S1 => ?_)
  cases o with
  | none => rfl
  | some d =>
    dsimp only
    rw [WS_bndS]
    refine congrArg (fun F => W (tg.bind d env S1) F Ψ) (funext fun env1 => funext fun S2 => ?_)
    cases b env1 S2 with
    | go f e T => cases f <;> rfl
    | er e _ T => rfl
    | no => rfl
/-- a loop over items -/
theorem for_items {ds : List D} {tg : Tg} {b : SM} (I : Nat → Env → Store → Prop) (hs : ∀ j d env S, ds[j]? = some d → I j env S → W (tg.bind d env S) (fun env1 S2 => WS (b env1 S2) (loopK (I (j + 1)) Φ) Ψ) Ψ)
    (he : ∀ env S, I ds.length env S → Φ .nx env S) : ∀ (n i : Nat) (env : Env) (S : Store), i ≤ ds.length → ds.length < n + i → I i env S → WS (forF (.items ds) tg b n i env S) Φ Ψ
  | 0, i, env, S, h1, h2, h => by omega
  | n + 1, i, env, S, h1, h2, h => by
    rw [forF_one]
    show W (.ok ds[i]? S) _ Ψ
    rw [W_ok]
    cases e : ds[i]? with
    | none =>
      dsimp only
      have : ds.length ≤ i := List.getElem?_eq_none_iff.mp e
      have e1 : i = ds.length := by omega
      rw [e1] at h
      exact he _ _ h
    | some d =>
      dsimp only
      have hi : i < ds.length := (List.getElem?_eq_some_iff.mp e).1
      refine W_mono (hs i d env S e h) (fun env1 S2 h1 => WS_mono h1 (fun f env2 S3 h2 => ?_) fun _ _ h => h) fun _ _ h => h
      cases f with
      | nx => exact for_items I hs he n (i + 1) env2 S3 (by omega) (by omega) h2
      | ct => exact for_items I hs he n (i + 1) env2 S3 (by omega) (by omega) h2
      | bk => exact h2
      | rt d => exact h2
/-- a loop over a list that stays -/
theorem for_cell {ds : List D} {r : Nat} {tg : Tg} {b : SM} (I : Nat → Env → Store → Prop) (hr : ∀ j env S, I j env S → S[r]? = some (.lst ds) ∨ S[r]? = some (.frz ds))
    (hs : ∀ j d env S, ds[j]? = some d → I j env S → W (tg.bind d env S) (fun env1 S2 => WS (b env1 S2) (loopK (I (j + 1)) Φ) Ψ) Ψ)
    (he : ∀ env S, I ds.length env S → Φ .nx env S) : ∀ (n i : Nat) (env : Env) (S : Store), i ≤ ds.length → ds.length < n + i → I i env S → WS (forF (.cell r) tg b n i env S) Φ Ψ
  | 0, i, env, S, h1, h2, h => by omega
  | n + 1, i, env, S, h1, h2, h => by
    rw [forF_one]
    have e0 : Src.at (.cell r) i S = .ok ds[i]? S := by
      show M.bnd (getL r) _ S = _
      unfold M.bnd getL
      rcases hr i env S h with h | h <;> rw [h] <;> rfl
    rw [e0, W_ok]
    cases e : ds[i]? with
    | none =>
      dsimp only
      have : ds.length ≤ i := List.getElem?_eq_none_iff.mp e
      have e1 : i = ds.length := by omega
      rw [e1] at h
      exact he _ _ h
    | some d =>
      dsimp only
      have hi : i < ds.length := (List.getElem?_eq_some_iff.mp e).1
      refine W_mono (hs i d env S e h) (fun env1 S2 h1 => WS_mono h1 (fun f env2 S3 h2 => ?_) fun _ _ h => h) fun _ _ h => h
      cases f with
      | nx => exact for_cell I hr hs he n (i + 1) env2 S3 (by omega) (by omega) h2
      | ct => exact for_cell I hr hs he n (i + 1) env2 S3 (by omega) (by omega) h2
      | bk => exact h2
      | rt d => exact h2
theorem whileF_one {c : Env → M Bool} {b : SM} {n : Nat} {env : Env} {S : Store} : WS (whileF c b (n + 1) env S) Φ Ψ = W (c env S) (fun k S1 => Wif k (WS (b env S1) (loopK (fun env2 S2 => WS (whileF c b n env2 S2) Φ Ψ) Φ) Ψ) (Φ .nx env S1)) Ψ := by
  conv => lhs; unfold whileF
  rw [WS_bndS]
  refine congrArg (fun F => W (c env S) F Ψ) (funext fun k => funext fun S1 => ?_)
  rw [WS_ite]
  refine congrArg (fun a => Wif k a (Φ .nx env S1)) ?_
  cases b env S1 with
  | go f e T => cases f <;> rfl
  | er e _ T => rfl
  | no => rfl
/-- while: a measure goes down -/
theorem while_lt {c : Env → M Bool} {b : SM} (I : Nat → Env → Store → Prop) (hs : ∀ m env S, I m env S → W (c env S) (fun k S1 => Wif k (WS (b env S1) (loopK (fun env2 S2 => ∃ m', m' < m ∧ I m' env2 S2) Φ) Ψ) (Φ .nx env S1)) Ψ) :
    ∀ (n m : Nat) (env : Env) (S : Store), m < n → I m env S → WS (whileF c b n env S) Φ Ψ
  | 0, m, env, S, h1, h => by omega
  | n + 1, m, env, S, h1, h => by
    rw [whileF_one]
    refine W_mono (hs m env S h) (fun k S1 h2 => ⟨fun e => WS_mono (h2.1 e) (fun f env2 S2 h3 => ?_) fun _ _ h => h, h2.2⟩) fun _ _ h => h
    cases f with
    | nx => obtain ⟨m', l, h3⟩ := h3; exact while_lt I hs n m' env2 S2 (by omega) h3
    | ct => obtain ⟨m', l, h3⟩ := h3; exact while_lt I hs n m' env2 S2 (by omega) h3
    | bk => exact h3
    | rt d => exact h3
end
/-! ### comprehensions -/
section
variable {Φ : Unit → Store → Prop} {Ψ : Exn → Store → Prop}
theorem lc_one {s : Src} {tg : Tg} {c : Env → M Bool} {e : Env → M D} {env : Env} {r n i : Nat} {S : Store} : W (lcLoop s tg c e env r (n + 1) i S) Φ Ψ = W (s.at i S) (fun o S1 => match o with
    | none => Φ () S1
    | some d => W (tg.bind d env S1) (fun env1 S2 => W (c env1 S2) (fun k S3 => Wif k (W (e env1 S3) (fun x S4 => W (getW r S4) (fun ds S5 => decide (ds.length < lim) = true ∧ W (setL r (ds ++ [x]) S5) (fun _ S6 => W (lcLoop s tg c e env r n (i + 1) S6) Φ Ψ) Ψ) Ψ) Ψ)
      (W (lcLoop s tg c e env r n (i + 1) S3) Φ Ψ)) Ψ) Ψ) Ψ := by
  conv => lhs; unfold lcLoop
  rw [W_bind]
  refine congrArg (fun F => W (s.at i S) F Ψ) (funext fun o => funext fun S1 => ?_)
  cases o with
  | none => rfl
  | some d =>
    dsimp only
    rw [W_bind]
    refine congrArg (fun F => W (tg.bind d env S1) F Ψ) (funext fun env1 => funext fun S2 => ?_)
    rw [W_bind]
    refine congrArg (fun F => W (c env1 S2) F Ψ) (funext fun k => funext fun S3 => ?_)
    rw [W_ite]
    refine congrArg (fun a => Wif k a _) ?_
    simp only [W_bind, W_need]
/-- a comprehension over items: acc is what is gathered -/
theorem lc_items {ds : List D} {tg : Tg} {c : Env → M Bool} {e : Env → M D} {env : Env} {r : Nat} (I : Nat → List D → Store → Prop)
    (hs : ∀ j d acc S, ds[j]? = some d → I j acc S → S[r]? = some (.lst acc) → acc.length ≤ j → W (tg.bind d env S) (fun env1 S2 => W (c env1 S2) (fun k S3 => Wif k (W (e env1 S3) (fun x S4 => S4[r]? = some (.lst acc) ∧ I (j + 1) (acc ++ [x]) (S4.set r (.lst (acc ++ [x])))) Ψ)
      (S3[r]? = some (.lst acc) ∧ I (j + 1) acc S3)) Ψ) Ψ)
    (he : ∀ acc S, I ds.length acc S → S[r]? = some (.lst acc) → Φ () S) (hl : ds.length ≤ lim) : ∀ (n i : Nat) (acc : List D) (S : Store), i ≤ ds.length → ds.length < n + i → acc.length ≤ i → I i acc S → S[r]? = some (.lst acc) → W (lcLoop (.items ds) tg c e env r n i S) Φ Ψ
  | 0, i, acc, S, h1, h2, h3, h, g => by omega
  | n + 1, i, acc, S, h1, h2, h3, h, g => by
    rw [lc_one]
    show W (.ok ds[i]? S) _ Ψ
    rw [W_ok]
    cases q : ds[i]? with
    | none =>
      dsimp only
      have : ds.length ≤ i := List.getElem?_eq_none_iff.mp q
      have e1 : i = ds.length := by omega
      rw [e1] at h
      exact he _ _ h g
    | some d =>
      dsimp only
      have hi : i < ds.length := (List.getElem?_eq_some_iff.mp q).1
      refine W_mono (hs i d acc S q h g h3) (fun env1 S2 h4 => W_mono h4 (fun k S3 h5 => ⟨fun ek => W_mono (h5.1 ek) (fun x S4 h6 => ?_) fun _ _ h => h, fun ek => ?_⟩) fun _ _ h => h) fun _ _ h => h
      · obtain ⟨g4, i4⟩ := h6
        have e4 : getW r S4 = .ok acc S4 := by
          unfold getW
          rw [g4]
        rw [e4, W_ok]
        have e5 : setL r (acc ++ [x]) S4 = .ok () (S4.set r (.lst (acc ++ [x]))) := by
          unfold setL
          rw [g4]
        refine ⟨decide_eq_true (by omega), ?_⟩
        rw [e5, W_ok]
        have hr : r < S4.length := (List.getElem?_eq_some_iff.mp g4).1
        exact lc_items I hs he hl n (i + 1) _ _ (by omega) (by omega) (by rw [List.length_append]; simp only [List.length_cons, List.length_nil]; omega) i4 (List.getElem?_set_self hr)
      · obtain ⟨g4, i4⟩ := h5.2 ek
        exact lc_items I hs he hl n (i + 1) _ _ (by omega) (by omega) (by omega) i4 g4
end
end Mi

/-! Mi, part S: what is built in, by rewriting. -/
namespace Mi
open PySem PySem.Spec
def Wcl (o : Option Cell) (f : List D → Store → Prop) (S : Store) : Prop := match o with
  | some (.lst ds) => f ds S
  | some (.frz ds) => f ds S
  | _ => False
def Wcw (o : Option Cell) (f : List D → Store → Prop) (S : Store) : Prop := match o with
  | some (.lst ds) => f ds S
  | _ => False
/-- a list, or a dict -/
def Wcx (o : Option Cell) (f : List D → Store → Prop) (g : List (D × D) → Store → Prop) (S : Store) : Prop := match o with
  | some (.lst ds) => f ds S
  | some (.frz ds) => f ds S
  | some (.dic kvs) => g kvs S
  | _ => False
def Wcz (o : Option Cell) (f : List D → Store → Prop) (g : List (D × D) → Store → Prop) (S : Store) : Prop := match o with
  | some (.lst ds) => f ds S
  | some (.dic kvs) => g kvs S
  | _ => False
def Wcd (o : Option Cell) (g : List (D × D) → Store → Prop) (S : Store) : Prop := match o with
  | some (.dic kvs) => g kvs S
  | _ => False
def Wci (o : Option Cell) (g : Nat → List (Str × D) → Store → Prop) (S : Store) : Prop := match o with
  | some (.ins c fs) => g c fs S
  | _ => False
def Wop {α : Type} (o : Option α) (f : α → Store → Prop) (S : Store) : Prop := match o with
  | some a => f a S
  | none => False
def kIx (i : Int) (Φ : D → Store → Prop) : List D → Store → Prop := fun ds S => Wop (L2.atI ds i) Φ S
def kNo : List D → Store → Prop := fun _ _ => False
def kDx (y : D) (Φ : D → Store → Prop) : List (D × D) → Store → Prop := fun kvs S => kOk kvs y = true ∧ Wop (dval kvs y) Φ S
def kDs (r : Nat) (y d : D) (Φ : Unit → Store → Prop) : List (D × D) → Store → Prop := fun kvs S => kOk kvs y = true ∧ (decide (kvs.length < lim) = true ∧ Φ () (S.set r (.dic (dput kvs y d))))
def kDl (Φ : D → Store → Prop) : List (D × D) → Store → Prop := fun kvs S => Φ (.int kvs.length) S
def kDp (Φ : Unit → Store → Prop) : List (D × D) → Store → Prop := fun _ S => Φ () S
def kDg (y d : D) (Φ : D → Store → Prop) : List (D × D) → Store → Prop := fun kvs S => kOk kvs y = true ∧ Φ ((dval kvs y).getD d) S
def kDf2 (r : Nat) (y d : D) (kvs : List (D × D)) (Φ : D → Store → Prop) (S : Store) : Option D → Prop
  | some x => Φ x S
  | none => Φ d (S.set r (.dic (dput kvs y d)))
def kDf (r : Nat) (y d : D) (Φ : D → Store → Prop) : List (D × D) → Store → Prop := fun kvs S => kOk kvs y = true ∧ (decide (kvs.length < lim) = true ∧ kDf2 r y d kvs Φ S (dval kvs y))
def kFld (f : Str) (Φ : D → Store → Prop) : Nat → List (Str × D) → Store → Prop := fun _ fs S => Wop (fs.lookup f) Φ S
def kMis (m : Str) (Φ : Unit → Store → Prop) : Nat → List (Str × D) → Store → Prop := fun _ fs S => (fs.lookup m).isNone = true ∧ Φ () S
def kWho (cs : List (Nat × Nat)) (Φ : Nat → Store → Prop) : Nat → List (Str × D) → Store → Prop := fun c _ S => Wop (cs.lookup c) Φ S
def kPut (r : Nat) (f : Str) (d : D) (Φ : Unit → Store → Prop) : Nat → List (Str × D) → Store → Prop := fun c fs S => decide (fs.length < 1000) = true ∧ Φ () (S.set r (.ins c (setF fs f d)))
def kAdd2 (xs : List D) (Φ : D → Store → Prop) : List D → Store → Prop := fun ys S => decide (xs.length + ys.length ≤ lim) = true ∧ Φ (.ref S.length) (S ++ [.lst (xs ++ ys)])
def kAdd (q : Nat) (Φ : D → Store → Prop) : List D → Store → Prop := fun xs S => Wcw S[q]? (kAdd2 xs Φ) S
def cNg (Φ : Bool → Store → Prop) : Bool → Store → Prop := fun b S => Φ (!b) S
def kTr (Φ : Bool → Store → Prop) : List D → Store → Prop := fun ds S => Φ (!ds.isEmpty) S
def kSet2 (r : Nat) (d : D) (ds : List D) (Φ : Unit → Store → Prop) : Nat → Store → Prop := fun j S => Φ () (S.set r (.lst (ds.set j d)))
def kSet (r : Nat) (i : Int) (d : D) (Φ : Unit → Store → Prop) : List D → Store → Prop := fun ds S => Wop (L2.ixN ds.length i) (kSet2 r d ds Φ) S
def kSl (lo hi : Option Int) (Φ : D → Store → Prop) : List D → Store → Prop := fun ds S => Φ (.ref S.length) (S ++ [.lst (cutL ds lo hi)])
def kLen (Φ : D → Store → Prop) : List D → Store → Prop := fun ds S => Φ (.int ds.length) S
def kTp (Φ : D → Store → Prop) : List D → Store → Prop := fun ds S => Φ (.tup ds) S
def kLs (Φ : D → Store → Prop) : List D → Store → Prop := fun ds S => Φ (.ref S.length) (S ++ [.lst ds])
def kAll2 (Φ : D → Store → Prop) : List Bool → Store → Prop := fun bs S => Φ (.bl (bs.all id)) S
def kAll (Φ : D → Store → Prop) : List D → Store → Prop := fun ds S => Wop (asBls ds) (kAll2 Φ) S
def kAny2 (Φ : D → Store → Prop) : List Bool → Store → Prop := fun bs S => Φ (.bl (bs.any id)) S
def kAny (Φ : D → Store → Prop) : List D → Store → Prop := fun ds S => Wop (asBls ds) (kAny2 Φ) S
def kSum2 (Φ : D → Store → Prop) : List Int → Store → Prop := fun ns S => Φ (.int ns.sum) S
def kSum (Φ : D → Store → Prop) : List D → Store → Prop := fun ds S => Wop (asInts ds) (kSum2 Φ) S
def kIsi (t : Ty) (Φ : D → Store → Prop) : Ty → Store → Prop := fun s S => Φ (.bl (Ty.sub s t)) S
def kIsis2 (s : Ty) (Φ : D → Store → Prop) : List Ty → Store → Prop := fun us S => Φ (.bl (us.any (Ty.sub s))) S
def kIsis (ts : List D) (Φ : D → Store → Prop) : Ty → Store → Prop := fun s S => Wop (asTys ts) (kIsis2 s Φ) S
def kPre (Φ : Unit → Store → Prop) : List D → Store → Prop := fun _ S => Φ () S
def kApp (r : Nat) (d : D) (Φ : D → Store → Prop) : List D → Store → Prop := fun ds S => decide (ds.length < lim) = true ∧ Φ .non (S.set r (.lst (ds ++ [d])))
def kExt2 (r : Nat) (ds : List D) (Φ : D → Store → Prop) : List D → Store → Prop := fun es S => decide (ds.length + es.length ≤ lim) = true ∧ Φ .non (S.set r (.lst (ds ++ es)))
def kExt (r q : Nat) (Φ : D → Store → Prop) : List D → Store → Prop := fun ds S => Wcw S[q]? (kExt2 r ds Φ) S
def kPop2 (r : Nat) (ds : List D) (Φ : D → Store → Prop) : D → Store → Prop := fun d S => Φ d (S.set r (.lst ds.dropLast))
def kPop (r : Nat) (Φ : D → Store → Prop) : List D → Store → Prop := fun ds S => Wop ds[ds.length - 1]? (kPop2 r ds Φ) S
def kPopi2 (r : Nat) (ds : List D) (Φ : D → Store → Prop) : Nat → Store → Prop := fun k S => Wop ds[k]? (fun d S' => Φ d (S'.set r (.lst (ds.eraseIdx k)))) S
def kPopi (r : Nat) (i : Int) (Φ : D → Store → Prop) : List D → Store → Prop := fun ds S => Wop (L2.ixN ds.length i) (kPopi2 r ds Φ) S
def kBnd (is : List Nat) (env : Env) (Φ : Env → Store → Prop) : List D → Store → Prop := fun ds S => decide (ds.length = is.length) = true ∧ Φ (setAll is ds env) S
def kSrc (s : Src) (Φ : Src → Store → Prop) : List D → Store → Prop := fun _ S => Φ s S
section
variable {Φ : D → Store → Prop} {Ψ : Exn → Store → Prop} {ΦB : Bool → Store → Prop} {ΦU : Unit → Store → Prop} {ΦS : Src → Store → Prop} {S : Store} {i j : Int} {x y : Str} {ds es : List D} {r q : Nat} {d e : D} {b c : Bool}
theorem Wcl_l {f : List D → Store → Prop} : Wcl (some (.lst ds)) f S = f ds S := rfl
theorem Wcl_f {f : List D → Store → Prop} : Wcl (some (.frz ds)) f S = f ds S := rfl
theorem Wcw_l {f : List D → Store → Prop} : Wcw (some (.lst ds)) f S = f ds S := rfl
theorem Wop_s {α : Type} {a : α} {f : α → Store → Prop} : Wop (some a) f S = f a S := rfl
theorem kIx_ : kIx i Φ ds S = Wop (L2.atI ds i) Φ S := rfl
theorem Wcx_l {f : List D → Store → Prop} {g : List (D × D) → Store → Prop} : Wcx (some (.lst ds)) f g S = f ds S := rfl
theorem Wcx_f {f : List D → Store → Prop} {g : List (D × D) → Store → Prop} : Wcx (some (.frz ds)) f g S = f ds S := rfl
theorem Wcx_d {f : List D → Store → Prop} {g : List (D × D) → Store → Prop} {kvs : List (D × D)} : Wcx (some (.dic kvs)) f g S = g kvs S := rfl
theorem Wcz_l {f : List D → Store → Prop} {g : List (D × D) → Store → Prop} : Wcz (some (.lst ds)) f g S = f ds S := rfl
theorem Wcz_d {f : List D → Store → Prop} {g : List (D × D) → Store → Prop} {kvs : List (D × D)} : Wcz (some (.dic kvs)) f g S = g kvs S := rfl
theorem Wcd_d {g : List (D × D) → Store → Prop} {kvs : List (D × D)} : Wcd (some (.dic kvs)) g S = g kvs S := rfl
theorem Wci_i {g : Nat → List (Str × D) → Store → Prop} {c : Nat} {fs : List (Str × D)} : Wci (some (.ins c fs)) g S = g c fs S := rfl
theorem kDx_ {kvs : List (D × D)} : kDx d Φ kvs S = (kOk kvs d = true ∧ Wop (dval kvs d) Φ S) := rfl
theorem kDs_ {kvs : List (D × D)} : kDs r d e ΦU kvs S = (kOk kvs d = true ∧ (decide (kvs.length < lim) = true ∧ ΦU () (S.set r (.dic (dput kvs d e))))) := rfl
theorem kDl_ {kvs : List (D × D)} : kDl Φ kvs S = Φ (.int kvs.length) S := rfl
theorem kDp_ {kvs : List (D × D)} : kDp ΦU kvs S = ΦU () S := rfl
theorem kDg_ {kvs : List (D × D)} : kDg d e Φ kvs S = (kOk kvs d = true ∧ Φ ((dval kvs d).getD e) S) := rfl
theorem kDf_ {kvs : List (D × D)} : kDf r d e Φ kvs S = (kOk kvs d = true ∧ (decide (kvs.length < lim) = true ∧ kDf2 r d e kvs Φ S (dval kvs d))) := rfl
theorem kDf2_s {kvs : List (D × D)} {z : D} : kDf2 r d e kvs Φ S (some z) = Φ z S := rfl
theorem kDf2_n {kvs : List (D × D)} : kDf2 r d e kvs Φ S none = Φ e (S.set r (.dic (dput kvs d e))) := rfl
theorem kFld_ {c : Nat} {fs : List (Str × D)} : kFld x Φ c fs S = Wop (fs.lookup x) Φ S := rfl
theorem kMis_ {c : Nat} {fs : List (Str × D)} : kMis x ΦU c fs S = ((fs.lookup x).isNone = true ∧ ΦU () S) := rfl
theorem kWho_ {c : Nat} {fs : List (Str × D)} {cs : List (Nat × Nat)} {ΦN : Nat → Store → Prop} : kWho cs ΦN c fs S = Wop (cs.lookup c) ΦN S := rfl
theorem kPut_ {c : Nat} {fs : List (Str × D)} : kPut r x d ΦU c fs S = (decide (fs.length < 1000) = true ∧ ΦU () (S.set r (.ins c (setF fs x d)))) := rfl
theorem kAdd2_ : kAdd2 ds Φ es S = (decide (ds.length + es.length ≤ lim) = true ∧ Φ (.ref S.length) (S ++ [.lst (ds ++ es)])) := rfl
theorem kAdd_ : kAdd q Φ ds S = Wcw S[q]? (kAdd2 ds Φ) S := rfl
theorem cNg_ : cNg ΦB b S = ΦB (!b) S := rfl
theorem kTr_ : kTr ΦB ds S = ΦB (!ds.isEmpty) S := rfl
theorem kSet2_ {j : Nat} : kSet2 r d ds ΦU j S = ΦU () (S.set r (.lst (ds.set j d))) := rfl
theorem kSet_ : kSet r i d ΦU ds S = Wop (L2.ixN ds.length i) (kSet2 r d ds ΦU) S := rfl
theorem kSl_ {lo hi : Option Int} : kSl lo hi Φ ds S = Φ (.ref S.length) (S ++ [.lst (cutL ds lo hi)]) := rfl
theorem kLen_ : kLen Φ ds S = Φ (.int ds.length) S := rfl
theorem kTp_ : kTp Φ ds S = Φ (.tup ds) S := rfl
theorem kLs_ : kLs Φ ds S = Φ (.ref S.length) (S ++ [.lst ds]) := rfl
theorem kAll2_ {bs : List Bool} : kAll2 Φ bs S = Φ (.bl (bs.all id)) S := rfl
theorem kAll_ : kAll Φ ds S = Wop (asBls ds) (kAll2 Φ) S := rfl
theorem kAny2_ {bs : List Bool} : kAny2 Φ bs S = Φ (.bl (bs.any id)) S := rfl
theorem kAny_ : kAny Φ ds S = Wop (asBls ds) (kAny2 Φ) S := rfl
theorem kSum2_ {bs : List Int} : kSum2 Φ bs S = Φ (.int bs.sum) S := rfl
theorem kSum_ : kSum Φ ds S = Wop (asInts ds) (kSum2 Φ) S := rfl
theorem kIsi_ {s t : Ty} : kIsi t Φ s S = Φ (.bl (Ty.sub s t)) S := rfl
theorem kIsis2_ {s : Ty} {us : List Ty} : kIsis2 s Φ us S = Φ (.bl (us.any (Ty.sub s))) S := rfl
theorem kIsis_ {s : Ty} {ts : List D} : kIsis ts Φ s S = Wop (asTys ts) (kIsis2 s Φ) S := rfl
theorem kPre_ : kPre ΦU ds S = ΦU () S := rfl
theorem kApp_ : kApp r d Φ ds S = (decide (ds.length < lim) = true ∧ Φ .non (S.set r (.lst (ds ++ [d])))) := rfl
theorem kExt2_ : kExt2 r ds Φ es S = (decide (ds.length + es.length ≤ lim) = true ∧ Φ .non (S.set r (.lst (ds ++ es)))) := rfl
theorem kExt_ : kExt r q Φ ds S = Wcw S[q]? (kExt2 r ds Φ) S := rfl
theorem kPop2_ : kPop2 r ds Φ d S = Φ d (S.set r (.lst ds.dropLast)) := rfl
theorem kPop_ : kPop r Φ ds S = Wop ds[ds.length - 1]? (kPop2 r ds Φ) S := rfl
theorem kSrc_ {s : Src} : kSrc s ΦS ds S = ΦS s S := rfl
theorem W_getL {Φ : List D → Store → Prop} : W (getL r S) Φ Ψ = Wcl S[r]? Φ S := by
  unfold getL Wcl
  cases S[r]? with
  | none => rfl
  | some o => cases o <;> rfl
theorem W_getW {Φ : List D → Store → Prop} : W (getW r S) Φ Ψ = Wcw S[r]? Φ S := by
  unfold getW Wcw
  cases S[r]? with
  | none => rfl
  | some o => cases o <;> rfl
theorem W_newC {c : Cell} : W (newC c S) Φ Ψ = Φ (.ref S.length) (S ++ [c]) := rfl
theorem W_setL : W (setL r ds S) ΦU Ψ = Wcw S[r]? (fun _ S' => ΦU () (S'.set r (.lst ds))) S := by
  unfold setL Wcw
  cases S[r]? with
  | none => rfl
  | some o => cases o <;> rfl
theorem W_ofop {α : Type} {Φ : α → Store → Prop} {o : Option α} : W (ofO o S) Φ Ψ = Wop o Φ S := by cases o <;> rfl
theorem Wb_add : W (binM .add (.int i) (.int j) S) Φ Ψ = Φ (.int (i + j)) S := rfl
theorem Wb_sub : W (binM .sub (.int i) (.int j) S) Φ Ψ = Φ (.int (i - j)) S := rfl
theorem Wb_mul : W (binM .mul (.int i) (.int j) S) Φ Ψ = ((inW i || inW j) = true ∧ Φ (.int (i * j)) S) := by show W ((M.need (inW i || inW j) >>= fun _ => M.ret (D.int (i * j))) S) Φ Ψ = _; rw [W_bind, W_need]; rfl
theorem Wb_fdiv : W (binM .fdiv (.int i) (.int j) S) Φ Ψ = (decide (j ≠ 0 ∧ j.natAbs < 1073741824) = true ∧ Φ (.int (i.fdiv j)) S) := by show W ((M.need (decide (j ≠ 0 ∧ j.natAbs < 1073741824)) >>= fun _ => M.ret (D.int (i.fdiv j))) S) Φ Ψ = _; rw [W_bind, W_need]; rfl
theorem Wb_mod : W (binM .mod (.int i) (.int j) S) Φ Ψ = (decide (j ≠ 0) = true ∧ Φ (.int (i.fmod j)) S) := by show W ((M.need (decide (j ≠ 0)) >>= fun _ => M.ret (D.int (i.fmod j))) S) Φ Ψ = _; rw [W_bind, W_need]; rfl
theorem Wb_pow : W (binM .pow (.int i) (.int j) S) Φ Ψ = (decide (0 ≤ j ∧ j ≤ 1000000 ∧ i.natAbs < 2 ^ 64) = true ∧ Φ (.int (i ^ j.toNat)) S) := by show W ((M.need (decide (0 ≤ j ∧ j ≤ 1000000 ∧ i.natAbs < 2 ^ 64)) >>= fun _ => M.ret (D.int (i ^ j.toNat))) S) Φ Ψ = _; rw [W_bind, W_need]; rfl
theorem Wb_addt : W (binM .add (.tup ds) (.tup es) S) Φ Ψ = (decide (ds.length + es.length ≤ lim) = true ∧ Φ (.tup (ds ++ es)) S) := by show W ((M.need (decide (ds.length + es.length ≤ lim)) >>= fun _ => M.ret (D.tup (ds ++ es))) S) Φ Ψ = _; rw [W_bind, W_need]; rfl
theorem Wb_mult {k : Int} : W (binM .mul (.tup ds) (.int k) S) Φ Ψ = ((!ds.isEmpty && decide (2 ≤ k ∧ k ≤ 1000000 ∧ k.toNat * ds.length ≤ 1000000)) = true ∧ Φ (.tup (List.replicate k.toNat ds).flatten) S) := by show W ((M.need (!ds.isEmpty && decide (2 ≤ k ∧ k ≤ 1000000 ∧ k.toNat * ds.length ≤ 1000000)) >>= fun _ => M.ret (D.tup (List.replicate k.toNat ds).flatten)) S) Φ Ψ = _; rw [W_bind, W_need]; rfl
theorem Wb_adds : W (binM .add (.str x) (.str y) S) Φ Ψ = (decide (x.length + y.length ≤ lim) = true ∧ Φ (.str (x ++ y)) S) := by show W ((M.need (decide (x.length + y.length ≤ lim)) >>= fun _ => M.ret (D.str (x ++ y))) S) Φ Ψ = _; rw [W_bind, W_need]; rfl
theorem Wb_addl : W (binM .add (.ref r) (.ref q) S) Φ Ψ = Wcw S[r]? (kAdd q Φ) S := by
  show W ((getW r >>= fun xs => getW q >>= fun ys => M.need (decide (xs.length + ys.length ≤ lim)) >>= fun _ => newC (.lst (xs ++ ys))) S) Φ Ψ = _
  simp only [W_bind, W_getW, W_need, W_newC]
  rfl
theorem Wa_add : W (augM .add (.int i) (.int j) S) Φ Ψ = Φ (.int (i + j)) S := rfl
theorem Wa_sub : W (augM .sub (.int i) (.int j) S) Φ Ψ = Φ (.int (i - j)) S := rfl
theorem Wm_lt : W (cmpM .lt (.int i) (.int j) S) ΦB Ψ = ΦB (decide (i < j)) S := rfl
theorem Wm_le : W (cmpM .le (.int i) (.int j) S) ΦB Ψ = ΦB (decide (i ≤ j)) S := rfl
theorem Wm_gt : W (cmpM .gt (.int i) (.int j) S) ΦB Ψ = ΦB (decide (j < i)) S := rfl
theorem Wm_ge : W (cmpM .ge (.int i) (.int j) S) ΦB Ψ = ΦB (decide (j ≤ i)) S := rfl
theorem Wm_eq : W (cmpM .eq d e S) ΦB Ψ = W (eqM d e S) ΦB Ψ := rfl
theorem Wm_ne : W (cmpM .ne d e S) ΦB Ψ = W (eqM d e S) (cNg ΦB) Ψ := by show W ((eqM d e >>= fun b => M.ret (!b)) S) ΦB Ψ = _; rw [W_bind]; rfl
theorem Wm_is : W (cmpM .is_ d e S) ΦB Ψ = W (isM d e S) ΦB Ψ := rfl
theorem Wm_isnt : W (cmpM .isnt d e S) ΦB Ψ = W (isM d e S) (cNg ΦB) Ψ := by show W ((isM d e >>= fun b => M.ret (!b)) S) ΦB Ψ = _; rw [W_bind]; rfl
theorem Wm_in : W (cmpM .in_ d e S) ΦB Ψ = W (inM d e S) ΦB Ψ := rfl
theorem Wm_nin : W (cmpM .nin d e S) ΦB Ψ = W (inM d e S) (cNg ΦB) Ψ := by show W ((inM d e >>= fun b => M.ret (!b)) S) ΦB Ψ = _; rw [W_bind]; rfl
theorem Wq_int : W (eqM (.int i) (.int j) S) ΦB Ψ = ΦB (decide (i = j)) S := rfl
theorem Wq_str : W (eqM (.str x) (.str y) S) ΦB Ψ = ΦB (decide (x = y)) S := rfl
theorem Wq_bl : W (eqM (.bl b) (.bl c) S) ΦB Ψ = ΦB (decide (b = c)) S := rfl
theorem Wq_non : W (eqM .non .non S) ΦB Ψ = ΦB true S := rfl
theorem Wq_is : W (eqM (.int i) (.str x) S) ΦB Ψ = ΦB false S := rfl
theorem Wq_si : W (eqM (.str x) (.int i) S) ΦB Ψ = ΦB false S := rfl
theorem Wi_bl : W (isM (.bl b) (.bl c) S) ΦB Ψ = ΦB (decide (b = c)) S := rfl
theorem Wi_non : W (isM .non .non S) ΦB Ψ = ΦB true S := rfl
theorem Wi_int : W (isM (.int i) .non S) ΦB Ψ = ΦB false S := rfl
theorem Wi_tup : W (isM (.tup ds) .non S) ΦB Ψ = ΦB false S := rfl
theorem Wi_ref : W (isM (.ref r) .non S) ΦB Ψ = ΦB false S := rfl
theorem Wi_str : W (isM (.str x) .non S) ΦB Ψ = ΦB false S := rfl
theorem Wi_bln : W (isM (.bl b) .non S) ΦB Ψ = ΦB false S := rfl
theorem Wt_non : W (truthM .non S) ΦB Ψ = ΦB false S := rfl
theorem Wt_bl : W (truthM (.bl b) S) ΦB Ψ = ΦB b S := rfl
theorem Wt_int : W (truthM (.int i) S) ΦB Ψ = ΦB (i != 0) S := rfl
theorem Wt_tup : W (truthM (.tup ds) S) ΦB Ψ = ΦB (!ds.isEmpty) S := rfl
theorem Wt_ref : W (truthM (.ref r) S) ΦB Ψ = Wcl S[r]? (kTr ΦB) S := by show W ((getL r >>= fun ds => M.ret (!ds.isEmpty)) S) ΦB Ψ = _; rw [W_bind, W_getL]; rfl
theorem Wt_str : W (truthM (.str x) S) ΦB Ψ = (decide (x.length ≤ lim) = true ∧ ΦB ((x.length : Int) != 0) S) := by show W ((M.need (decide (x.length ≤ lim)) >>= fun _ => M.ret ((x.length : Int) != 0)) S) ΦB Ψ = _; rw [W_bind, W_need]; rfl
theorem Wx_tup : W (ixM (.tup ds) (.int i) S) Φ Ψ = Wop (L2.atI ds i) Φ S := W_ofop
theorem W_orD {α : Type} {ΦA : α → Store → Prop} {m m' : M α} : W (orD r m m' S) ΦA Ψ = if isDic S r = true then W (m S) ΦA Ψ else W (m' S) ΦA Ψ := by
  unfold orD
  split <;> rfl
theorem W_getK {Φk : List (D × D) → Store → Prop} {kvs : List (D × D)} (h : S[r]? = some (.dic kvs)) : W (getK r d S) Φk Ψ = (kOk kvs d = true ∧ Φk kvs S) := by
  unfold getK
  rw [h]
  dsimp only
  cases kOk kvs d with
  | true => exact propext ⟨fun z => ⟨rfl, z⟩, fun z => z.2⟩
  | false => exact propext ⟨fun z => z.elim, fun z => nomatch z.1⟩
def Cell.isD : Cell → Bool
  | .dic _ => true
  | _ => false
theorem isDic_is {c : Cell} (h : S[r]? = some c) : isDic S r = c.isD := by
  unfold isDic
  rw [h]
  cases c <;> rfl
theorem isDic_no (h : S[r]? = none) : isDic S r = false := by
  unfold isDic
  rw [h]
theorem Wx_any (y : D) (f : List D → Store → Prop) (hf : ∀ ds, W ((asInt y >>= fun i => ofO (L2.atI ds i)) S) Φ Ψ = f ds S) : W (ixM (.ref r) y S) Φ Ψ = Wcx S[r]? f (kDx y Φ) S := by
  show W (orD r (getK r y >>= fun kvs => ofO (dval kvs y)) (asInt y >>= fun i => getL r >>= fun ds => ofO (L2.atI ds i)) S) Φ Ψ = _
  rw [W_orD]
  have fin : ∀ ds, getL r S = .ok ds S → W ((asInt y >>= fun i => getL r >>= fun ds => ofO (L2.atI ds i)) S) Φ Ψ = f ds S := fun ds h => by
    rw [← hf ds]
    cases y <;> try rfl
    rename_i i
    show W (M.bnd (getL r) _ S) Φ Ψ = _
    unfold M.bnd
    rw [h]
    rfl
  have bad : getL r S = .no → W ((asInt y >>= fun i => getL r >>= fun ds => ofO (L2.atI ds i)) S) Φ Ψ = False := fun h => by
    cases y <;> try rfl
    rename_i i
    show W (M.bnd (getL r) _ S) Φ Ψ = _
    unfold M.bnd
    rw [h]
    rfl
  cases h : S[r]? with
  | none =>
    rw [isDic_no h, if_neg (by decide)]
    exact bad (by unfold getL; rw [h])
  | some c =>
    rw [isDic_is h]
    cases c with
    | dic kvs =>
      rw [if_pos (show Cell.isD (.dic kvs) = true from rfl), W_bind, W_getK h, Wcx_d, kDx_, W_ofop]
    | lst ds =>
      rw [if_neg (fun z => nomatch z)]
      exact fin ds (by unfold getL; rw [h])
    | frz ds =>
      rw [if_neg (fun z => nomatch z)]
      exact fin ds (by unfold getL; rw [h])
    | ins c fs =>
      rw [if_neg (fun z => nomatch z)]
      exact bad (by unfold getL; rw [h])
theorem Wx_ref : W (ixM (.ref r) (.int i) S) Φ Ψ = Wcx S[r]? (kIx i Φ) (kDx (.int i) Φ) S := Wx_any _ _ fun ds => W_ofop
theorem Wx_refs : W (ixM (.ref r) (.str x) S) Φ Ψ = Wcx S[r]? kNo (kDx (.str x) Φ) S := Wx_any _ _ fun ds => rfl
theorem Wx_reft : W (ixM (.ref r) (.tup ds) S) Φ Ψ = Wcx S[r]? kNo (kDx (.tup ds) Φ) S := Wx_any _ _ fun ds => rfl
theorem Wx_setAny (y : D) (f : List D → Store → Prop) (hf : ∀ ds, S[r]? = some (.lst ds) → W ((asInt y >>= fun i => ofO (L2.ixN ds.length i) >>= fun j => setL r (ds.set j d)) S) ΦU Ψ = f ds S) : W (setIx (.ref r) y d S) ΦU Ψ = Wcz S[r]? f (kDs r y d ΦU) S := by
  show W (orD r (putD r y d) (asInt y >>= fun i => getW r >>= fun ds => ofO (L2.ixN ds.length i) >>= fun j => setL r (ds.set j d)) S) ΦU Ψ = _
  rw [W_orD]
  have bad : getW r S = .no → W ((asInt y >>= fun i => getW r >>= fun ds => ofO (L2.ixN ds.length i) >>= fun j => setL r (ds.set j d)) S) ΦU Ψ = False := fun h => by
    cases y <;> try rfl
    rename_i i
    show W (M.bnd (getW r) _ S) ΦU Ψ = _
    unfold M.bnd
    rw [h]
    rfl
  cases h : S[r]? with
  | none =>
    rw [isDic_no h, if_neg (by decide)]
    exact bad (by unfold getW; rw [h])
  | some c =>
    rw [isDic_is h]
    cases c with
    | dic kvs =>
      rw [if_pos (show Cell.isD (.dic kvs) = true from rfl), Wcz_d, kDs_]
      unfold putD
      rw [h]
      dsimp only
      cases kOk kvs y <;> cases decide (kvs.length < lim) <;> first
        | exact propext ⟨fun z => ⟨rfl, rfl, z⟩, fun z => z.2.2⟩
        | exact propext ⟨fun z => z.elim, fun z => Bool.noConfusion z.1⟩
        | exact propext ⟨fun z => z.elim, fun z => Bool.noConfusion z.2.1⟩
    | lst ds =>
      rw [if_neg (fun z => nomatch z), Wcz_l, ← hf ds h]
      cases y <;> try rfl
      rename_i i
      show W (M.bnd (getW r) _ S) ΦU Ψ = _
      have e : getW r S = .ok ds S := by
        unfold getW
        rw [h]
      unfold M.bnd
      rw [e]
      rfl
    | frz ds =>
      rw [if_neg (fun z => nomatch z)]
      exact bad (by unfold getW; rw [h])
    | ins c fs =>
      rw [if_neg (fun z => nomatch z)]
      exact bad (by unfold getW; rw [h])
theorem Wx_set : W (setIx (.ref r) (.int i) d S) ΦU Ψ = Wcz S[r]? (kSet r i d ΦU) (kDs r (.int i) d ΦU) S := by
  refine Wx_setAny _ _ fun ds h => ?_
  show W ((ofO (L2.ixN ds.length i) >>= fun j => setL r (ds.set j d)) S) ΦU Ψ = _
  rw [kSet_, W_bind, W_ofop]
  cases L2.ixN ds.length i with
  | none => rfl
  | some j =>
    rw [Wop_s, Wop_s, W_setL, h]
    rfl
theorem Wx_sets : W (setIx (.ref r) (.str x) d S) ΦU Ψ = Wcz S[r]? kNo (kDs r (.str x) d ΦU) S := Wx_setAny _ _ fun _ _ => rfl
theorem Wx_sett : W (setIx (.ref r) (.tup ds) d S) ΦU Ψ = Wcz S[r]? kNo (kDs r (.tup ds) d ΦU) S := Wx_setAny _ _ fun _ _ => rfl
theorem Wx_fld : W (fldM (.ref r) x S) Φ Ψ = Wci S[r]? (kFld x Φ) S := by
  show W (M.bnd (getI r) (fun p => ofO (p.2.lookup x)) S) Φ Ψ = _
  unfold M.bnd getI
  cases S[r]? with
  | none => rfl
  | some c => cases c <;> first | rfl | exact W_ofop
theorem Wx_mis : W (mthIs (.ref r) x S) ΦU Ψ = Wci S[r]? (kMis x ΦU) S := by
  show W (M.bnd (getI r) (fun p => M.need (p.2.lookup x).isNone) S) ΦU Ψ = _
  unfold M.bnd getI
  cases S[r]? with
  | none => rfl
  | some c => cases c <;> first | rfl | exact W_need
theorem Wx_who {cs : List (Nat × Nat)} {ΦN : Nat → Store → Prop} : W (whose cs (.ref r) S) ΦN Ψ = Wci S[r]? (kWho cs ΦN) S := by
  show W (M.bnd (getI r) (fun p => ofO (cs.lookup p.1)) S) ΦN Ψ = _
  unfold M.bnd getI
  cases S[r]? with
  | none => rfl
  | some c => cases c <;> first | rfl | exact W_ofop
theorem Wx_put : W (putF (.ref r) x d S) ΦU Ψ = Wci S[r]? (kPut r x d ΦU) S := by
  show W (match S[r]? with | some (.ins c fs) => if fs.length < 1000 then .ok () (S.set r (.ins c (setF fs x d))) else .no | _ => .no) ΦU Ψ = _
  cases S[r]? with
  | none => rfl
  | some c =>
    cases c with
    | ins c fs =>
      rw [Wci_i, kPut_]
      dsimp only
      by_cases h : fs.length < 1000
      · rw [if_pos h, decide_eq_true h]
        exact propext ⟨fun z => ⟨rfl, z⟩, fun z => z.2⟩
      · rw [if_neg h, decide_eq_false h]
        exact propext ⟨fun z => z.elim, fun z => nomatch z.1⟩
    | _ => rfl
theorem Wl_tup {lo hi : Option Int} : W (slM (.tup ds) lo hi S) Φ Ψ = Φ (.tup (cutL ds lo hi)) S := rfl
theorem Wl_ref {lo hi : Option Int} : W (slM (.ref r) lo hi S) Φ Ψ = Wcl S[r]? (kSl lo hi Φ) S := by
  show W ((getL r >>= fun ds => newC (.lst (cutL ds lo hi))) S) Φ Ψ = _
  simp only [W_bind, W_getL, W_newC]
  rfl
theorem Wn_int {Φ : Int → Store → Prop} : W (asInt (.int i) S) Φ Ψ = Φ i S := rfl
theorem Wk_lent : W (bltM .len [.tup ds] S) Φ Ψ = Φ (.int ds.length) S := rfl
theorem Wk_lenr : W (bltM .len [.ref r] S) Φ Ψ = Wcx S[r]? (kLen Φ) (kDl Φ) S := by
  show W (orD r (getD r >>= fun kvs => M.ret (D.int kvs.length)) (getL r >>= fun ds => M.ret (D.int ds.length)) S) Φ Ψ = _
  rw [W_orD]
  cases h : S[r]? with
  | none =>
    rw [isDic_no h, if_neg (by decide), W_bind, W_getL, h]
    rfl
  | some c =>
    rw [isDic_is h]
    cases c with
    | dic kvs =>
      rw [if_pos (show Cell.isD (.dic kvs) = true from rfl), W_bind]
      unfold getD
      rw [h]
      rfl
    | lst ds => rw [if_neg (fun z => nomatch z), W_bind, W_getL, h]; rfl
    | frz ds => rw [if_neg (fun z => nomatch z), W_bind, W_getL, h]; rfl
    | ins c fs => rw [if_neg (fun z => nomatch z), W_bind, W_getL, h]; rfl
theorem Wk_lens : W (bltM .len [.str x] S) Φ Ψ = (decide (x.length ≤ lim) = true ∧ Φ (.int x.length) S) := by show W ((M.need (decide (x.length ≤ lim)) >>= fun _ => M.ret (D.int x.length)) S) Φ Ψ = _; rw [W_bind, W_need]; rfl
theorem Wk_int : W (bltM .int [.int i] S) Φ Ψ = Φ (.int i) S := rfl
theorem Wk_intb : W (bltM .int [.bl b] S) Φ Ψ = Φ (.int (if b then 1 else 0)) S := rfl
theorem Wk_tupt : W (bltM .tuple [.tup ds] S) Φ Ψ = Φ (.tup ds) S := rfl
theorem Wk_tupr : W (bltM .tuple [.ref r] S) Φ Ψ = Wcl S[r]? (kTp Φ) S := by show W ((getL r >>= fun ds => M.ret (D.tup ds)) S) Φ Ψ = _; rw [W_bind, W_getL]; rfl
theorem Wk_lstt : W (bltM .list [.tup ds] S) Φ Ψ = Φ (.ref S.length) (S ++ [.lst ds]) := rfl
theorem Wk_lstr : W (bltM .list [.ref r] S) Φ Ψ = Wcl S[r]? (kLs Φ) S := by show W ((getL r >>= fun ds => newC (.lst ds)) S) Φ Ψ = _; rw [W_bind, W_getL]; rfl
theorem Wk_max : W (bltM .max [.int i, .int j] S) Φ Ψ = Φ (.int (if j > i then j else i)) S := rfl
theorem Wk_min : W (bltM .min [.int i, .int j] S) Φ Ψ = Φ (.int (if j < i then j else i)) S := rfl
theorem Wk_abs : W (bltM .abs [.int i] S) Φ Ψ = Φ (.int (if i < 0 then -i else i)) S := rfl
theorem Wk_all : W (bltM .all [.ref r] S) Φ Ψ = Wcl S[r]? (kAll Φ) S := by
  show W ((getL r >>= fun ds => ofO (asBls ds) >>= fun bs => M.ret (D.bl (bs.all id))) S) Φ Ψ = _
  simp only [W_bind, W_getL, W_ofop, W_ret]
  rfl
theorem Wk_any : W (bltM .any [.ref r] S) Φ Ψ = Wcl S[r]? (kAny Φ) S := by
  show W ((getL r >>= fun ds => ofO (asBls ds) >>= fun bs => M.ret (D.bl (bs.any id))) S) Φ Ψ = _
  simp only [W_bind, W_getL, W_ofop, W_ret]
  rfl
theorem Wk_sum : W (bltM .sum [.ref r] S) Φ Ψ = Wcl S[r]? (kSum Φ) S := by
  show W ((getL r >>= fun ds => ofO (asInts ds) >>= fun bs => M.ret (D.int bs.sum)) S) Φ Ψ = _
  simp only [W_bind, W_getL, W_ofop, W_ret]
  rfl
theorem Wk_repr : W (bltM .repr [.bl b] S) Φ Ψ = Φ (.str (if b then "True" else "False")) S := rfl
/-- the kind of a datum, lists' by the store -/
def tyOf' (S : Store) : D → Option Ty
  | .non => some .non
  | .bl _ => some .bool
  | .int _ => some .int
  | .str _ => some .str
  | .tup _ => some .tup
  | .ref r => match S[r]? with
    | some (.lst _) => some .lst
    | some (.frz _) => some .lst
    | _ => none
  | _ => none
theorem ty_non : tyOf' S .non = some .non := rfl
theorem ty_bl : tyOf' S (.bl b) = some .bool := rfl
theorem ty_int : tyOf' S (.int i) = some .int := rfl
theorem ty_str : tyOf' S (.str x) = some .str := rfl
theorem ty_tup : tyOf' S (.tup ds) = some .tup := rfl
theorem ty_lst (h : S[r]? = some (.lst ds)) : tyOf' S (.ref r) = some .lst := by
  unfold tyOf'
  dsimp only
  rw [h]
theorem W_tyM {Φ : Ty → Store → Prop} : W (tyM d S) Φ Ψ = Wop (tyOf' S d) Φ S := by
  cases d with
  | ref r =>
    show W ((match S[r]? with | some (.lst _) => .ok .lst S | some (.frz _) => .ok .lst S | _ => .no : Out Ty)) Φ Ψ = _
    unfold tyOf'
    dsimp only
    cases S[r]? with
    | none => rfl
    | some o => cases o <;> rfl
  | _ => rfl
theorem Wk_isi {t : Ty} : W (bltM .isi [d, .ty t] S) Φ Ψ = Wop (tyOf' S d) (kIsi t Φ) S := by
  have e : bltM .isi [d, .ty t] S = (tyM d >>= fun s => M.ret (D.bl (Ty.sub s t))) S := by cases d <;> rfl
  rw [e]
  simp only [W_bind, W_tyM, W_ret]
  rfl
theorem Wk_isis {ts : List D} : W (bltM .isi [d, .tup ts] S) Φ Ψ = Wop (tyOf' S d) (kIsis ts Φ) S := by
  have e : bltM .isi [d, .tup ts] S = (tyM d >>= fun s => ofO (asTys ts) >>= fun us => M.ret (D.bl (us.any (Ty.sub s)))) S := by cases d <;> rfl
  rw [e]
  simp only [W_bind, W_tyM, W_ofop, W_ret]
  rfl
theorem Wp_preA : W (mthPre .append (.ref r) S) ΦU Ψ = Wcl S[r]? (kPre ΦU) S := by show W ((getL r >>= fun _ => M.ret ()) S) ΦU Ψ = _; rw [W_bind, W_getL]; rfl
theorem Wp_preE : W (mthPre .extend (.ref r) S) ΦU Ψ = Wcl S[r]? (kPre ΦU) S := by show W ((getL r >>= fun _ => M.ret ()) S) ΦU Ψ = _; rw [W_bind, W_getL]; rfl
theorem Wp_preP : W (mthPre .pop (.ref r) S) ΦU Ψ = Wcl S[r]? (kPre ΦU) S := by show W ((getL r >>= fun _ => M.ret ()) S) ΦU Ψ = _; rw [W_bind, W_getL]; rfl
theorem W_getD {Φk : List (D × D) → Store → Prop} : W (getD r S) Φk Ψ = Wcd S[r]? Φk S := by
  unfold getD
  cases S[r]? with
  | none => rfl
  | some c => cases c <;> rfl
theorem Wp_preG : W (mthPre .get (.ref r) S) ΦU Ψ = Wcd S[r]? (kDp ΦU) S := by show W ((getD r >>= fun _ => M.ret ()) S) ΦU Ψ = _; rw [W_bind, W_getD]; rfl
theorem Wp_preS : W (mthPre .setdefault (.ref r) S) ΦU Ψ = Wcd S[r]? (kDp ΦU) S := by show W ((getD r >>= fun _ => M.ret ()) S) ΦU Ψ = _; rw [W_bind, W_getD]; rfl
theorem Wp_get : W (mthM .get (.ref r) [d, e] S) Φ Ψ = Wcd S[r]? (kDg d e Φ) S := by
  show W ((getK r d >>= fun kvs => M.ret ((dval kvs d).getD e)) S) Φ Ψ = _
  cases h : S[r]? with
  | none => rw [W_bind]; unfold getK; rw [h]; rfl
  | some c =>
    cases c with
    | dic kvs => rw [W_bind, W_getK h, Wcd_d, kDg_]; rfl
    | _ => rw [W_bind]; unfold getK; rw [h]; rfl
theorem Wp_sdf : W (mthM .setdefault (.ref r) [d, e] S) Φ Ψ = Wcd S[r]? (kDf r d e Φ) S := by
  show W ((getK r d >>= fun kvs => M.need (decide (kvs.length < lim)) >>= fun _ => match dval kvs d with | some x => M.ret x | none => putD r d e >>= fun _ => M.ret e) S) Φ Ψ = _
  cases h : S[r]? with
  | none => rw [W_bind]; unfold getK; rw [h]; rfl
  | some c =>
    cases c with
    | dic kvs =>
      rw [W_bind, W_getK h, Wcd_d, kDf_]
      cases hk : kOk kvs d with
      | false => exact propext (Iff.intro (fun z => Bool.noConfusion z.1) fun z => Bool.noConfusion z.1)
      | true =>
        rw [W_bind, W_need]
        cases hl : decide (kvs.length < lim) with
        | false => exact propext (Iff.intro (fun z => Bool.noConfusion z.2.1) fun z => Bool.noConfusion z.2.1)
        | true =>
          cases dval kvs d with
          | some x => rfl
          | none =>
            rw [kDf2_n]
            dsimp only
            rw [W_bind]
            unfold putD
            rw [h]
            dsimp only
            rw [hk, hl]
            rfl
    | _ => rw [W_bind]; unfold getK; rw [h]; rfl
theorem Wp_app : W (mthM .append (.ref r) [d] S) Φ Ψ = Wcw S[r]? (kApp r d Φ) S := by
  show W ((getW r >>= fun ds => M.need (decide (ds.length < lim)) >>= fun _ => setL r (ds ++ [d]) >>= fun _ => M.ret D.non) S) Φ Ψ = _
  rw [W_bind, W_getW]
  cases h : S[r]? with
  | none => rfl
  | some o =>
    cases o with
    | lst ds =>
      rw [Wcw_l, Wcw_l, kApp_, W_bind, W_need, W_bind, W_setL, h]
      rfl
    | _ => rfl
theorem Wp_ext : W (mthM .extend (.ref r) [.ref q] S) Φ Ψ = Wcw S[r]? (kExt r q Φ) S := by
  show W ((getW r >>= fun ds => getW q >>= fun es => M.need (decide (ds.length + es.length ≤ lim)) >>= fun _ => setL r (ds ++ es) >>= fun _ => M.ret D.non) S) Φ Ψ = _
  rw [W_bind, W_getW]
  cases h : S[r]? with
  | none => rfl
  | some o =>
    cases o with
    | lst ds =>
      rw [Wcw_l, Wcw_l, kExt_, W_bind, W_getW]
      cases h2 : S[q]? with
      | none => rfl
      | some o2 =>
        cases o2 with
        | lst es =>
          rw [Wcw_l, Wcw_l, kExt2_, W_bind, W_need, W_bind, W_setL, h]
          rfl
        | _ => rfl
    | _ => rfl
theorem Wp_pop : W (mthM .pop (.ref r) [] S) Φ Ψ = Wcw S[r]? (kPop r Φ) S := by
  show W ((getW r >>= fun ds => ofO ds[ds.length - 1]? >>= fun x => setL r ds.dropLast >>= fun _ => M.ret x) S) Φ Ψ = _
  rw [W_bind, W_getW]
  cases h : S[r]? with
  | none => rfl
  | some o =>
    cases o with
    | lst ds =>
      rw [Wcw_l, Wcw_l, kPop_, W_bind, W_ofop]
      cases ds[ds.length - 1]? with
      | none => rfl
      | some d =>
        rw [Wop_s, Wop_s, W_bind, W_setL, h]
        rfl
    | _ => rfl
theorem kPopi_ : kPopi r i Φ ds S = Wop (L2.ixN ds.length i) (kPopi2 r ds Φ) S := rfl
theorem kPopi2_ {k : Nat} (h : ds[k]? = some d) : kPopi2 r ds Φ k S = Φ d (S.set r (.lst (ds.eraseIdx k))) := by
  unfold kPopi2
  rw [h]
  rfl
theorem Wp_popi : W (mthM .pop (.ref r) [.int i] S) Φ Ψ = (decide (-(2 ^ 63) ≤ i ∧ i < 2 ^ 63) = true ∧ Wcw S[r]? (kPopi r i Φ) S) := by
  show W ((M.need (decide (-(2 ^ 63) ≤ i ∧ i < 2 ^ 63)) >>= fun _ => getW r >>= fun ds => ofO (L2.ixN ds.length i) >>= fun k => ofO ds[k]? >>= fun x => setL r (ds.eraseIdx k) >>= fun _ => M.ret x) S) Φ Ψ = _
  rw [W_bind, W_need]
  refine congrArg (fun p => _ ∧ p) ?_
  rw [W_bind, W_getW]
  cases h : S[r]? with
  | none => rfl
  | some o =>
    cases o with
    | lst ds =>
      rw [Wcw_l, Wcw_l, kPopi_, W_bind, W_ofop]
      cases L2.ixN ds.length i with
      | none => rfl
      | some k =>
        rw [Wop_s, Wop_s]
        unfold kPopi2
        rw [W_bind, W_ofop]
        cases ds[k]? with
        | none => rfl
        | some d =>
          rw [Wop_s, Wop_s, W_bind, W_setL, h]
          rfl
    | _ => rfl
theorem Wr_tup : W (srcOf (.tup ds) S) ΦS Ψ = ΦS (.items ds) S := rfl
theorem Wr_ref : W (srcOf (.ref r) S) ΦS Ψ = Wcl S[r]? (kSrc (.cell r) ΦS) S := by show W ((getL r >>= fun _ => M.ret (Src.cell r)) S) ΦS Ψ = _; rw [W_bind, W_getL]; rfl
theorem Wr_enu : W (enuOf (.ref r) S) ΦS Ψ = Wcl S[r]? (kSrc (.enu (.cell r)) ΦS) S := by show W ((getL r >>= fun _ => M.ret (Src.enu (.cell r))) S) ΦS Ψ = _; rw [W_bind, W_getL]; rfl
theorem Wr_rng1 : W (rngM [.int i] S) ΦS Ψ = (in62 i = true ∧ ΦS (.items (rngD 0 i)) S) := by show W ((M.need (in62 i) >>= fun _ => M.ret (Src.items (rngD 0 i))) S) ΦS Ψ = _; rw [W_bind, W_need]; rfl
theorem Wr_rng2 : W (rngM [.int i, .int j] S) ΦS Ψ = ((in62 i && in62 j) = true ∧ ΦS (.items (rngD i j)) S) := by show W ((M.need (in62 i && in62 j) >>= fun _ => M.ret (Src.items (rngD i j))) S) ΦS Ψ = _; rw [W_bind, W_need]; rfl
theorem Wr_rng3 {c : Int} : W (rngM [.int i, .int j, .int c] S) ΦS Ψ = ((decide (c = -1) && (in62 i && in62 j)) = true ∧ ΦS (.items (rngDn i j)) S) := by show W ((M.need (decide (c = -1) && (in62 i && in62 j)) >>= fun _ => M.ret (Src.items (rngDn i j))) S) ΦS Ψ = _; rw [W_bind, W_need]; rfl
theorem Wg_v {Φ : Env → Store → Prop} {env : Env} {i : Nat} : W ((Tg.v i).bind d env S) Φ Ψ = Φ (env.set i (some d)) S := rfl
theorem Wg_t {Φ : Env → Store → Prop} {env : Env} {is : List Nat} : W ((Tg.t is).bind (.tup ds) env S) Φ Ψ = (decide (ds.length = is.length) = true ∧ Φ (setAll is ds env) S) := by show W ((M.need (decide (ds.length = is.length)) >>= fun _ => M.ret (setAll is ds env)) S) Φ Ψ = _; rw [W_bind, W_need]; rfl
theorem kBnd_ {Φ : Env → Store → Prop} {env : Env} {is : List Nat} : kBnd is env Φ ds S = (decide (ds.length = is.length) = true ∧ Φ (setAll is ds env) S) := rfl
theorem Wg_r {Φ : Env → Store → Prop} {env : Env} {is : List Nat} : W ((Tg.t is).bind (.ref r) env S) Φ Ψ = Wcl S[r]? (kBnd is env Φ) S := by
  show W ((getL r >>= fun ds => M.need (decide (ds.length = is.length)) >>= fun _ => M.ret (setAll is ds env)) S) Φ Ψ = _
  simp only [W_bind, W_getL, W_need, W_ret]
  rfl
theorem setAll_cons {i : Nat} {is : List Nat} {env : Env} : setAll (i :: is) (d :: ds) env = setAll is ds (env.set i (some d)) := rfl
theorem setAll_nil {env : Env} : setAll [] [] env = env := rfl
theorem wipe_nil {env : Env} : wipeE env [] = env := rfl
theorem wipe_cons {env : Env} {v : Nat} {vs : List Nat} : wipeE env (v :: vs) = (wipeE env vs).set v none := rfl
theorem get_set_self {c : Cell} (h : r < S.length) : (S.set r c)[r]? = some c := List.getElem?_set_self h
theorem get_set_ne {c : Cell} (h : r ≠ q) : (S.set r c)[q]? = S[q]? := List.getElem?_set_ne h
theorem get_app {l : List Cell} (h : r < S.length) : (S ++ l)[r]? = S[r]? := List.getElem?_append_left h
theorem get_new {c : Cell} : (S ++ [c])[S.length]? = some c := List.getElem?_concat_length
theorem set_set {c c' : Cell} : (S.set r c).set r c' = S.set r c' := List.set_set ..
theorem atI_pos (h : 0 ≤ i) : L2.atI ds i = ds[i.toNat]? := by
  unfold L2.atI L2.ixN
  rw [if_pos h]
  split
  · rfl
  · rename_i h1
    rw [List.getElem?_eq_none (by omega)]
    rfl
theorem atI_neg (h : i < 0) (h1 : -(ds.length : Int) ≤ i) : L2.atI ds i = ds[(i + ds.length).toNat]? := by
  unfold L2.atI L2.ixN
  rw [if_neg (by omega), if_pos h1]
  rfl
theorem ixN_pos {n : Nat} (h : 0 ≤ i) (h1 : i < n) : L2.ixN n i = some i.toNat := by
  unfold L2.ixN
  rw [if_pos h, if_pos h1]
theorem asBls_map {l : List Bool} : asBls (l.map D.bl) = some l := by
  induction l with
  | nil => rfl
  | cons b l ih =>
    show (asBls (l.map D.bl)).map (b :: ·) = _
    rw [ih]
    rfl
theorem asInts_map {l : List Int} : asInts (l.map D.int) = some l := by
  induction l with
  | nil => rfl
  | cons b l ih =>
    show (asInts (l.map D.int)).map (b :: ·) = _
    rw [ih]
    rfl
end
end Mi

/-! Mi, part T: the rules in one word. -/
namespace Mi
open PySem PySem.Spec
def miA0 := And.intro @W_bind (And.intro @W_bnd (And.intro @W_ret (And.intro @W_ok (And.intro @W_er (And.intro @W_pure (And.intro @W_need (And.intro @W_ofS (And.intro @W_ite (And.intro @Wif_t (And.intro @Wif_f (And.intro @We_lit (And.intro @We_var (And.intro @We_bin (And.intro @We_cmp (And.intro @We_chn (And.intro @We_neg (And.intro @We_not (And.intro @We_and (@We_or)))))))))))))))))))
def miA1 := And.intro @We_ite (And.intro @We_tup (And.intro @We_lst (And.intro @We_ix (And.intro @We_sl (And.intro @We_call (And.intro @We_blt (And.intro @We_dic (And.intro @We_fld (And.intro @We_mcl (And.intro @We_mk (And.intro @We_mth (And.intro @We_lc (And.intro @We_dc (And.intro @Ws_nil (And.intro @Ws_cons (And.intro @Wo_none (And.intro @Wo_some (And.intro @Wc_none (@Wc_some)))))))))))))))))))
def miA2 := And.intro @Wi_seq (And.intro @Wi_rng (And.intro @Wi_enu (And.intro @WT (And.intro @WS_go (And.intro @WS_nil (And.intro @WS_cons (And.intro @Wx_expr (And.intro @Wx_asg (And.intro @Wx_asgIx (And.intro @Wx_aug (And.intro @Wx_ite (And.intro @Wx_whl (And.intro @Wx_for (And.intro @Wx_ret (And.intro @Wx_par (And.intro @Wx_asgF (And.intro @Wx_augF (And.intro @Wx_raise (@Wx_retN)))))))))))))))))))
def miA3 := And.intro @Wx_brk (And.intro @Wx_cnt (And.intro @Wx_pass (And.intro @W_endOf (And.intro @Wend_nx (And.intro @Wend_rt (And.intro @loopK_nx (And.intro @loopK_ct (And.intro @loopK_bk (And.intro @loopK_rt (And.intro @kIx_ (And.intro @kDx_ (And.intro @kDs_ (And.intro @kDl_ (And.intro @kDp_ (And.intro @kDg_ (And.intro @kDf_ (And.intro @kFld_ (And.intro @kMis_ (@kWho_)))))))))))))))))))
def miA4 := And.intro @kPut_ (And.intro @kAdd2_ (And.intro @kAdd_ (And.intro @cNg_ (And.intro @kTr_ (And.intro @kSet2_ (And.intro @kSet_ (And.intro @kSl_ (And.intro @kLen_ (And.intro @kTp_ (And.intro @kLs_ (And.intro @kAll2_ (And.intro @kAll_ (And.intro @kAny2_ (And.intro @kAny_ (And.intro @kSum2_ (And.intro @kSum_ (And.intro @kIsi_ (And.intro @kIsis2_ (@kIsis_)))))))))))))))))))
def miA5 := And.intro @kPre_ (And.intro @kApp_ (And.intro @kExt2_ (And.intro @kExt_ (And.intro @kPop2_ (And.intro @kPop_ (And.intro @kSrc_ (And.intro @W_getL (And.intro @W_getW (And.intro @W_newC (And.intro @W_setL (And.intro @W_ofop (And.intro @Wb_add (And.intro @Wb_sub (And.intro @Wb_mul (And.intro @Wb_fdiv (And.intro @Wb_mod (And.intro @Wb_pow (And.intro @Wb_addt (@Wb_mult)))))))))))))))))))
def miA6 := And.intro @Wb_adds (And.intro @Wb_addl (And.intro @Wa_add (And.intro @Wa_sub (And.intro @Wm_lt (And.intro @Wm_le (And.intro @Wm_gt (And.intro @Wm_ge (And.intro @Wm_eq (And.intro @Wm_ne (And.intro @Wm_is (And.intro @Wm_isnt (And.intro @Wm_in (And.intro @Wm_nin (And.intro @Wq_int (And.intro @Wq_str (And.intro @Wq_bl (And.intro @Wq_non (And.intro @Wq_is (@Wq_si)))))))))))))))))))
def miA7 := And.intro @Wi_bl (And.intro @Wi_non (And.intro @Wi_int (And.intro @Wi_tup (And.intro @Wi_ref (And.intro @Wi_str (And.intro @Wi_bln (And.intro @Wt_non (And.intro @Wt_bl (And.intro @Wt_int (And.intro @Wt_tup (And.intro @Wt_ref (And.intro @Wt_str (And.intro @Wx_tup (And.intro @Wx_ref (And.intro @Wx_refs (And.intro @Wx_reft (And.intro @Wx_set (And.intro @Wx_sets (@Wx_sett)))))))))))))))))))
def miA8 := And.intro @Wx_fld (And.intro @Wx_mis (And.intro @Wx_who (And.intro @Wx_put (And.intro @Wl_tup (And.intro @Wl_ref (And.intro @Wn_int (And.intro @Wk_lent (And.intro @Wk_lenr (And.intro @Wk_lens (And.intro @Wk_int (And.intro @Wk_intb (And.intro @Wk_tupt (And.intro @Wk_tupr (And.intro @Wk_lstt (And.intro @Wk_lstr (And.intro @Wk_max (And.intro @Wk_min (And.intro @Wk_abs (@Wk_all)))))))))))))))))))
def miA9 := And.intro @Wk_any (And.intro @Wk_sum (And.intro @Wk_repr (And.intro @W_tyM (And.intro @Wk_isi (And.intro @Wk_isis (And.intro @Wp_preA (And.intro @Wp_preE (And.intro @Wp_preP (And.intro @Wp_preG (And.intro @Wp_preS (And.intro @Wp_get (And.intro @Wp_sdf (And.intro @Wp_app (And.intro @Wp_ext (And.intro @Wp_pop (And.intro @kPopi_ (And.intro @kPopi2_ (And.intro @Wp_popi (@Wr_tup)))))))))))))))))))
def miA10 := And.intro @Wr_ref (And.intro @Wr_enu (And.intro @Wr_rng1 (And.intro @Wr_rng2 (And.intro @Wr_rng3 (And.intro @Wg_v (And.intro @Wg_t (And.intro @kBnd_ (And.intro @Wg_r (And.intro @cBin2_ (And.intro @cBin_ (And.intro @cBl_ (And.intro @cCmp2_ (And.intro @cCmp_ (And.intro @cChn3_t (And.intro @cChn3_f (And.intro @cChn2_ (And.intro @cChn_ (And.intro @cNeg2_ (@cNeg_)))))))))))))))))))
def miA11 := And.intro @cNot2_ (And.intro @cNot_ (And.intro @cAnd2_t (And.intro @cAnd2_f (And.intro @cAnd_ (And.intro @cOr2_t (And.intro @cOr2_f (And.intro @cOr_ (And.intro @cIte2_t (And.intro @cIte2_f (And.intro @cIte_ (And.intro @cTup_ (And.intro @cLst_ (And.intro @cIx2_ (And.intro @cIx_ (And.intro @cSl3_ (And.intro @cSl2_ (And.intro @cSl_ (And.intro @cCall_ (@cBlt_)))))))))))))))))))
def miA12 := And.intro @cMth3_ (And.intro @cMth2_ (And.intro @cMth_ (And.intro @cFld_ (And.intro @cMcl4_ (And.intro @cMcl3_ (And.intro @cMcl2_ (And.intro @cMcl_ (And.intro @cMk3_ (And.intro @cMk2_ (And.intro @cMk_ (And.intro @cLc2_ (And.intro @cCons2_ (And.intro @cCons_ (And.intro @cOpt2_ (And.intro @cOpt_ (And.intro @cTr_ (And.intro @cSrc_ (And.intro @cEnu_ (@cRng_)))))))))))))))))))
def miA13 := And.intro @cVar_ (And.intro @cSeq_nx (And.intro @cSeq_rt (And.intro @cSeq_bk (And.intro @cSeq_ct (And.intro @cNx_ (And.intro @cNxE_ (And.intro @cNxU_ (And.intro @cAsg_ (And.intro @cSet3_ (And.intro @cSet2_ (And.intro @cSet_ (And.intro @cAug3_ (And.intro @cAug2_ (And.intro @cAug_ (And.intro @cIf2_t (And.intro @cIf2_f (And.intro @cIf_ (And.intro @cPar_ (@cRaise_)))))))))))))))))))
def miA14 := And.intro @cRet_ (And.intro @cNxF_ (And.intro @cAsF2_ (And.intro @cAsF_ (And.intro @cAuF4_ (And.intro @cAuF2_ (@cAuF_))))))
def miA := And.intro @miA0 (And.intro @miA1 (And.intro @miA2 (And.intro @miA3 (And.intro @miA4 (And.intro @miA5 (And.intro @miA6 (And.intro @miA7 (And.intro @miA8 (And.intro @miA9 (And.intro @miA10 (And.intro @miA11 (And.intro @miA12 (And.intro @miA13 (@miA14))))))))))))))
def miB := And.intro @Wopt_s (And.intro @Wcl_l (And.intro @Wcl_f (And.intro @Wcw_l (And.intro @Wcx_l (And.intro @Wcx_f (And.intro @Wcx_d (And.intro @Wcz_l (And.intro @Wcz_d (And.intro @Wcd_d (And.intro @Wci_i (And.intro @kDf2_s (And.intro @kDf2_n (And.intro @Wop_s (And.intro @setAll_cons (And.intro @setAll_nil (And.intro @wipe_nil (And.intro @wipe_cons (And.intro @get_set_self (And.intro @get_set_ne (And.intro @get_app (And.intro @get_new (And.intro @set_set (And.intro @atI_pos (And.intro @ixN_pos (And.intro @ty_non (And.intro @ty_bl (And.intro @ty_int (And.intro @ty_str (And.intro @ty_tup (@ty_lst))))))))))))))))))))))))))))))
theorem sub_non_non : Ty.sub .non .non = true := rfl
theorem sub_non_bool : Ty.sub .non .bool = false := rfl
theorem sub_non_int : Ty.sub .non .int = false := rfl
theorem sub_non_str : Ty.sub .non .str = false := rfl
theorem sub_non_tup : Ty.sub .non .tup = false := rfl
theorem sub_non_lst : Ty.sub .non .lst = false := rfl
theorem sub_non_dic : Ty.sub .non .dic = false := rfl
theorem sub_bool_non : Ty.sub .bool .non = false := rfl
theorem sub_bool_bool : Ty.sub .bool .bool = true := rfl
theorem sub_bool_int : Ty.sub .bool .int = true := rfl
theorem sub_bool_str : Ty.sub .bool .str = false := rfl
theorem sub_bool_tup : Ty.sub .bool .tup = false := rfl
theorem sub_bool_lst : Ty.sub .bool .lst = false := rfl
theorem sub_bool_dic : Ty.sub .bool .dic = false := rfl
theorem sub_int_non : Ty.sub .int .non = false := rfl
theorem sub_int_bool : Ty.sub .int .bool = false := rfl
theorem sub_int_int : Ty.sub .int .int = true := rfl
theorem sub_int_str : Ty.sub .int .str = false := rfl
theorem sub_int_tup : Ty.sub .int .tup = false := rfl
theorem sub_int_lst : Ty.sub .int .lst = false := rfl
theorem sub_int_dic : Ty.sub .int .dic = false := rfl
theorem sub_str_non : Ty.sub .str .non = false := rfl
theorem sub_str_bool : Ty.sub .str .bool = false := rfl
theorem sub_str_int : Ty.sub .str .int = false := rfl
theorem sub_str_str : Ty.sub .str .str = true := rfl
theorem sub_str_tup : Ty.sub .str .tup = false := rfl
theorem sub_str_lst : Ty.sub .str .lst = false := rfl
theorem sub_str_dic : Ty.sub .str .dic = false := rfl
theorem sub_tup_non : Ty.sub .tup .non = false := rfl
theorem sub_tup_bool : Ty.sub .tup .bool = false := rfl
theorem sub_tup_int : Ty.sub .tup .int = false := rfl
theorem sub_tup_str : Ty.sub .tup .str = false := rfl
theorem sub_tup_tup : Ty.sub .tup .tup = true := rfl
theorem sub_tup_lst : Ty.sub .tup .lst = false := rfl
theorem sub_tup_dic : Ty.sub .tup .dic = false := rfl
theorem sub_lst_non : Ty.sub .lst .non = false := rfl
theorem sub_lst_bool : Ty.sub .lst .bool = false := rfl
theorem sub_lst_int : Ty.sub .lst .int = false := rfl
theorem sub_lst_str : Ty.sub .lst .str = false := rfl
theorem sub_lst_tup : Ty.sub .lst .tup = false := rfl
theorem sub_lst_lst : Ty.sub .lst .lst = true := rfl
theorem sub_lst_dic : Ty.sub .lst .dic = false := rfl
theorem sub_dic_non : Ty.sub .dic .non = false := rfl
theorem sub_dic_bool : Ty.sub .dic .bool = false := rfl
theorem sub_dic_int : Ty.sub .dic .int = false := rfl
theorem sub_dic_str : Ty.sub .dic .str = false := rfl
theorem sub_dic_tup : Ty.sub .dic .tup = false := rfl
theorem sub_dic_lst : Ty.sub .dic .lst = false := rfl
theorem sub_dic_dic : Ty.sub .dic .dic = true := rfl
def miC := And.intro @sub_non_non (And.intro @sub_non_bool (And.intro @sub_non_int (And.intro @sub_non_str (And.intro @sub_non_tup (And.intro @sub_non_lst (And.intro @sub_non_dic (And.intro @sub_bool_non (And.intro @sub_bool_bool (And.intro @sub_bool_int (And.intro @sub_bool_str (And.intro @sub_bool_tup (And.intro @sub_bool_lst (And.intro @sub_bool_dic (And.intro @sub_int_non (And.intro @sub_int_bool (And.intro @sub_int_int (And.intro @sub_int_str (And.intro @sub_int_tup (And.intro @sub_int_lst (And.intro @sub_int_dic (And.intro @sub_str_non (And.intro @sub_str_bool (And.intro @sub_str_int (And.intro @sub_str_str (And.intro @sub_str_tup (And.intro @sub_str_lst (And.intro @sub_str_dic (And.intro @sub_tup_non (And.intro @sub_tup_bool (And.intro @sub_tup_int (And.intro @sub_tup_str (And.intro @sub_tup_tup (And.intro @sub_tup_lst (And.intro @sub_tup_dic (And.intro @sub_lst_non (And.intro @sub_lst_bool (And.intro @sub_lst_int (And.intro @sub_lst_str (And.intro @sub_lst_tup (And.intro @sub_lst_lst (And.intro @sub_lst_dic (And.intro @sub_dic_non (And.intro @sub_dic_bool (And.intro @sub_dic_int (And.intro @sub_dic_str (And.intro @sub_dic_tup (And.intro @sub_dic_lst (@sub_dic_dic))))))))))))))))))))))))))))))))))))))))))))))))
theorem ex_nil {S : Store} : (∃ l, S = S ++ l) = True := eq_true ⟨[], by rw [List.append_nil]⟩
theorem ex_app {S l : Store} : (∃ m, S ++ l = S ++ m) = True := eq_true ⟨l, rfl⟩
theorem ex_app2 {S l k : Store} : (∃ m, S ++ l ++ k = S ++ m) = True := eq_true ⟨l ++ k, by rw [List.append_assoc]⟩
theorem ex_app3 {S l k j : Store} : (∃ m, S ++ l ++ k ++ j = S ++ m) = True := eq_true ⟨l ++ k ++ j, by rw [List.append_assoc, List.append_assoc, List.append_assoc]⟩
theorem ex_app4 {S l k j i : Store} : (∃ m, S ++ l ++ k ++ j ++ i = S ++ m) = True := eq_true ⟨l ++ k ++ j ++ i, by simp only [List.append_assoc]⟩
theorem ex_app5 {S l k j i h : Store} : (∃ m, S ++ l ++ k ++ j ++ i ++ h = S ++ m) = True := eq_true ⟨l ++ k ++ j ++ i ++ h, by simp only [List.append_assoc]⟩
theorem ex_app6 {S l k j i h g : Store} : (∃ m, S ++ l ++ k ++ j ++ i ++ h ++ g = S ++ m) = True := eq_true ⟨l ++ k ++ j ++ i ++ h ++ g, by simp only [List.append_assoc]⟩
end Mi

/-! Mi, part U: what the texts share: rubbish, drawing, ranges. -/
namespace Mi
open PySem PySem.Spec
/-! ### rubbish -/
theorem gcOkN_set {n : Nat} : ∀ (S l : Store) (b : Nat) (c : Cell), Cell.low n c = true → gcOkN n S (S.set b c ++ l) = true
  | [], l, b, c, h => rfl
  | c0 :: S, l, 0, c, h => by
    show ((Cell.same c c0 || Cell.low n c) && gcOkN n S (S ++ l)) = true
    have : gcOkN n S (S ++ l) = true := by
      have := gcOkN_set S l S.length c h
      rwa [List.set_eq_of_length_le (Nat.le_refl _)] at this
    rw [this, h, Bool.or_true, Bool.and_true]
  | c0 :: S, l, b + 1, c, h => by
    show ((Cell.same c0 c0 || Cell.low n c0) && gcOkN n S (S.set b c ++ l)) = true
    rw [gcOkN_set S l b c h, Cell.same_refl, Bool.true_or, Bool.and_true]
theorem gcOk_set (S l : Store) (b : Nat) (c : Cell) (h : Cell.low S.length c = true) : gcOk S (S.set b c ++ l) = true := gcOkN_set S l b c h
theorem gcOk_app (S l : Store) : gcOk S (S ++ l) = true := by
  have := gcOk_set S l S.length (.lst []) rfl
  rwa [List.set_eq_of_length_le (Nat.le_refl _)] at this
section
variable {S : Store} {o : Out D} {Φ : D → Store → Prop} {Ψ : Exn → Store → Prop}
theorem gc_app {l : Store} {d : D} (h : D.pure d = true) : gc S (.ok d (S ++ l)) = .ok d S := by
  unfold gc
  dsimp only
  rw [gcOk_app, if_pos rfl, if_pos (low_of_pure h), List.take_left']
  rfl
theorem gc_set {l : Store} {d : D} {b : Nat} {c : Cell} (h : D.pure d = true) (hc : Cell.pure c = true) : gc S (.ok d (S.set b c ++ l)) = .ok d (S.set b c) := by
  unfold gc
  dsimp only
  rw [gcOk_set _ _ _ _ (Cell.low_of_pure hc), if_pos rfl, if_pos (low_of_pure h), List.take_left']
  rw [List.length_set]
theorem gc_set0 {d : D} {b : Nat} {c : Cell} (h : D.pure d = true) (hc : Cell.pure c = true) : gc S (.ok d (S.set b c)) = .ok d (S.set b c) := by
  have := gc_set (S := S) (l := []) (b := b) h hc
  rwa [List.append_nil] at this
theorem gc_self {d : D} : gc S (.ok d S) = .ok d S := by
  unfold gc
  dsimp only
  have h : gcOk S S = true := by
    have := gcOk_app S []
    rwa [List.append_nil] at this
  rw [if_pos h, List.take_length]
  split
  · rfl
  · cases d with
    | ref n =>
      dsimp only
      split
      · rename_i h1
        rw [List.getElem?_eq_none (of_decide_eq_true h1)]
      · rfl
    | _ => rfl
theorem gc_new {l : Store} {n : Nat} {c : Cell} (hn : S.length ≤ n) (hc : (S ++ l)[n]? = some c) (hp : Cell.pure c = true) : gc S (.ok (.ref n) (S ++ l)) = .ok (.ref S.length) (S ++ [c]) := by
  unfold gc
  dsimp only
  rw [gcOk_app, if_pos rfl, if_neg (show ¬(D.low S.length (.ref n) = true) from fun z => by have := of_decide_eq_true z; omega), if_pos (decide_eq_true hn), hc]
  dsimp only
  rw [if_pos (Cell.low_of_pure hp), List.take_left']
  rfl
/-- any end -/
theorem W_gc (h : W o (fun d S' => Φ d S' ∧ (D.low S.length d = true → gcOk S S' = true → Φ d (S'.take S.length)) ∧ (∀ n c, d = .ref n → S.length ≤ n → S'[n]? = some c → Cell.low S.length c = true → gcOk S S' = true → Φ (.ref S.length) (S'.take S.length ++ [c]))) NoEx) : W (gc S o) Φ Ψ := by
  cases o with
  | ok d S' =>
    obtain ⟨h1, h2, h3⟩ := h
    unfold gc
    dsimp only
    split
    · rename_i g
      split
      · rename_i hp
        exact h2 hp g
      · split
        · split
          · rename_i hn
            split
            · rename_i c hc
              split
              · rename_i hcp
                exact h3 _ c rfl (of_decide_eq_true hn) hc hcp g
              · exact h1
            · exact h1
          · exact h1
        · exact h1
    · exact h1
  | er e S' => exact h.elim
  | no => exact h.elim
/-- a plain answer, the store as it was -/
theorem gc_is {d : D} (h : W o (fun d' S' => d' = d ∧ ∃ l, S' = S ++ l) NoEx) (hd : D.pure d = true) : gc S o = .ok d S := by
  cases o with
  | ok d' S' =>
    obtain ⟨rfl, l, rfl⟩ := h
    exact gc_app hd
  | er e S' => exact h.elim
  | no => exact h.elim
end
theorem app_nil_ex {S : Store} : ∃ l, S = S ++ l := ⟨[], by rw [List.append_nil]⟩
theorem app_ex {S l : Store} : ∃ l', S ++ l = S ++ l' := ⟨l, rfl⟩
theorem app_ex2 {S l m : Store} : ∃ l', S ++ l ++ m = S ++ l' := ⟨l ++ m, by rw [List.append_assoc]⟩
/-! ### ranges -/
theorem rngD_len (lo n : Int) : (rngD lo n).length = (n - lo).toNat := by
  unfold rngD
  rw [List.length_map, List.length_range]
theorem rngD_at {lo n : Int} {j : Nat} {d : D} (h : (rngD lo n)[j]? = some d) : d = .int (lo + j) ∧ (j : Int) < n - lo := by
  unfold rngD at h
  rw [List.getElem?_map, Option.map_eq_some_iff] at h
  obtain ⟨k, h1, h2⟩ := h
  have h3 := List.getElem?_eq_some_iff.mp h1
  obtain ⟨h4, h5⟩ := h3
  rw [List.getElem_range] at h5
  rw [List.length_range] at h4
  subst h5
  exact ⟨h2.symm, by omega⟩
theorem in62_by {i : Int} (h : -1000000000 ≤ i) (h1 : i ≤ 1000000000) : in62 i = true := decide_eq_true ⟨by omega, by omega⟩
theorem inW_by {i : Int} (h : -1000000000000 ≤ i) (h1 : i ≤ 1000000000000) : inW i = true := decide_eq_true ⟨by omega, by omega⟩
theorem inWr {i j : Int} (h : -1000000000000 ≤ j ∧ j ≤ 1000000000000) : (inW i || inW j) = true := by rw [inW_by h.1 h.2, Bool.or_true]
theorem inWl {i j : Int} (h : -1000000000000 ≤ i ∧ i ≤ 1000000000000) : (inW i || inW j) = true := by rw [inW_by h.1 h.2, Bool.true_or]
theorem in62r {i : Int} (h : -1000000000 ≤ i ∧ i ≤ 1000000000) : in62 i = true := in62_by h.1 h.2
/-! ### drawing -/
abbrev bg (x0 x1 x2 x3 : Int) : Cell := .lst [.int x0, .int x1, .int x2, .int x3]
abbrev drawA : List Sx :=
  [.ite (.cmp .lt (.var 1) (.lit (.int 1))) [.ret (.lit (.int 0))] [], .ite (.cmp .eq (.ix (.var 0) (.lit (.int 0))) (.lit (.int 0))) [.asgIx (.var 0) (.lit (.int 2)) (.bin .add (.ix (.var 0) (.lit (.int 2))) (.lit (.int 1))), .asg (.v 3) (.bin .mod (.blt .int [.bin .add (.bin .add (.bin .add (.bin .mul (.ix (.var 0) (.lit (.int 1))) (.lit (.int 48271))) (.bin .mul (.ix (.var 0) (.lit (.int 3))) (.lit (.int 69621)))) (.bin .mul (.ix (.var 0) (.lit (.int 2))) (.lit (.int 16807)))) (.lit (.int 11))]) (.lit (.int 2147483647))), .asgIx (.var 0) (.lit (.int 0)) (.bin .add (.bin .mul (.var 3) (.lit (.int 2147483629))) (.bin .mod (.blt .int [.bin .add (.bin .mul (.var 3) (.var 3)) (.ix (.var 0) (.lit (.int 3)))]) (.lit (.int 2147483629)))), .ite (.and (.cmp .eq (.ix (.var 0) (.lit (.int 2))) (.lit (.int 1))) (.cmp .ge (.ix (.var 0) (.lit (.int 3))) (.bin .pow (.lit (.int 10)) (.lit (.int 18))))) [.asgIx (.var 0) (.lit (.int 0)) (.ix (.var 0) (.lit (.int 3)))] [], .asgIx (.var 0) (.lit (.int 1)) (.var 3)] [], .asg (.v 2) (.ix (.var 0) (.lit (.int 0))), .asgIx (.var 0) (.lit (.int 0)) (.bin .fdiv (.var 2) (.var 1)), .ret (.bin .mod (.blt .int [.var 2]) (.var 1))]
section
variable {G : Gen} {S : Store} {b : Nat} {x0 x1 x2 x3 m : Int}
theorem drawA_body (hb : S[b]? = some (bg x0 x1 x2 x3)) (h1 : 1 ≤ m) (h2 : m < 1000000000) : W (endOf (xss G drawA [some (.ref b), some (.int m), none, none] S)) (fun d S' => ∃ v y0 y1 y2, d = .int v ∧ 0 ≤ v ∧ v < m ∧ S' = S.set b (bg y0 y1 y2 x3)) NoEx := by
  have hlt : b < S.length := (List.getElem?_eq_some_iff.mp hb).1
  unfold drawA
  simp (disch := first | assumption | rfl | omega | (simp only [List.length_set, List.length_append, List.length_cons, List.length_nil, List.length_map]; omega) | decide +kernel) only [↓miA, miB, miC, ex_nil, ex_app, ex_app2, ex_app3, ex_app4, ex_app5, ex_app6, in62r, inWr, inWl, lim, List.length_set, List.length_cons, List.length_nil, List.getElem?_cons_zero, List.getElem?_cons_succ, List.set_cons_zero, List.set_cons_succ, Int.reduceToNat, eq_self, List.zip_nil_left, List.zip_nil_right, List.zip_cons_cons, decide_true, decide_eq_true, decide_eq_false, Bool.not_true, Bool.not_false, Bool.and_true, Bool.and_false, Bool.true_and, Bool.false_and, Bool.or_true, Bool.or_false, Bool.true_or, Bool.false_or, Bool.not_not, List.isEmpty_nil, List.isEmpty_cons, true_and, and_true, hb]
  by_cases h0 : x0 = 0
  · subst h0
    have s1 := Int.fmod_nonneg_of_pos (x1 * 48271 + x3 * 69621 + (x2 + 1) * 16807 + 11) (show (0 : Int) < 2147483647 by omega)
    have s2 := Int.fmod_lt_of_pos (x1 * 48271 + x3 * 69621 + (x2 + 1) * 16807 + 11) (show (0 : Int) < 2147483647 by omega)
    have i1 : inW ((x1 * 48271 + x3 * 69621 + (x2 + 1) * 16807 + 11).fmod 2147483647) = true := inW_by (by omega) (by omega)
    by_cases h3 : x2 + 1 = 1 <;> by_cases h4 : x3 ≥ 1000000000000000000 <;> simp (disch := first | assumption | rfl | omega | (simp only [List.length_set, List.length_append, List.length_cons, List.length_nil, List.length_map]; omega) | decide +kernel) only [↓miA, miB, miC, ex_nil, ex_app, ex_app2, ex_app3, ex_app4, ex_app5, ex_app6, in62r, inWr, inWl, lim, List.length_set, List.length_cons, List.length_nil, List.getElem?_cons_zero, List.getElem?_cons_succ, List.set_cons_zero, List.set_cons_succ, Int.reduceToNat, eq_self, List.zip_nil_left, List.zip_nil_right, List.zip_cons_cons, decide_true, decide_eq_true, decide_eq_false, Bool.not_true, Bool.not_false, Bool.and_true, Bool.and_false, Bool.true_and, Bool.false_and, Bool.or_true, Bool.or_false, Bool.true_or, Bool.false_or, Bool.not_not, List.isEmpty_nil, List.isEmpty_cons, true_and, and_true, hb, inWr, i1, Bool.true_or, show (10 : Int) ^ Int.toNat 18 = 1000000000000000000 from rfl] <;> exact ⟨_, _, _, _, rfl, Int.fmod_nonneg_of_pos _ (by omega), Int.fmod_lt_of_pos _ (by omega), rfl⟩
  · simp (disch := first | assumption | rfl | omega | (simp only [List.length_set, List.length_append, List.length_cons, List.length_nil, List.length_map]; omega) | decide +kernel) only [↓miA, miB, miC, ex_nil, ex_app, ex_app2, ex_app3, ex_app4, ex_app5, ex_app6, in62r, inWr, inWl, lim, List.length_set, List.length_cons, List.length_nil, List.getElem?_cons_zero, List.getElem?_cons_succ, List.set_cons_zero, List.set_cons_succ, Int.reduceToNat, eq_self, List.zip_nil_left, List.zip_nil_right, List.zip_cons_cons, decide_true, decide_eq_true, decide_eq_false, Bool.not_true, Bool.not_false, Bool.and_true, Bool.and_false, Bool.true_and, Bool.false_and, Bool.or_true, Bool.or_false, Bool.true_or, Bool.false_or, Bool.not_not, List.isEmpty_nil, List.isEmpty_cons, true_and, and_true, hb]
    exact ⟨_, _, _, _, rfl, Int.fmod_nonneg_of_pos _ (by omega), Int.fmod_lt_of_pos _ (by omega), rfl⟩
end
section
variable {p : Prg} {i : Nat} (hc : ∀ (k : Nat) (a b : D) (S : Store), callN p (k + 1) i [a, b] S = gc S (endOf (xss ⟨callN p k, 1000000⟩ drawA [some a, some b, none, none] S)))
include hc
theorem drawA_at {k : Nat} {S : Store} {b : Nat} {x0 x1 x2 x3 m : Int} (hk : 1 ≤ k) (hb : S[b]? = some (bg x0 x1 x2 x3)) (h1 : 1 ≤ m) (h2 : m < 1000000000) :
    ∃ v y0 y1 y2, callN p k i [.ref b, .int m] S = .ok (.int v) (S.set b (bg y0 y1 y2 x3)) ∧ 0 ≤ v ∧ v < m := by
  obtain ⟨k, rfl⟩ : ∃ j, k = j + 1 := ⟨k - 1, by omega⟩
  rw [hc]
  have h := drawA_body (G := ⟨callN p k, 1000000⟩) hb h1 h2
  cases e : endOf (xss ⟨callN p k, 1000000⟩ drawA [some (.ref b), some (.int m), none, none] S) with
  | ok d S' =>
    rw [e] at h
    obtain ⟨v, y0, y1, y2, rfl, v0, v1, rfl⟩ := h
    exact ⟨v, y0, y1, y2, gc_set0 rfl rfl, v0, v1⟩
  | er e S' => rw [e] at h; exact h.elim
  | no => rw [e] at h; exact h.elim
theorem drawA_on {k : Nat} {S : Store} {b : Nat} {x0 x1 x2 x3 m : Int} (hk : 1 ≤ k) (hlt : b < S.length) (h1 : 1 ≤ m) (h2 : m < 1000000000) :
    ∃ v y0 y1 y2, callN p k i [.ref b, .int m] (S.set b (bg x0 x1 x2 x3)) = .ok (.int v) (S.set b (bg y0 y1 y2 x3)) ∧ 0 ≤ v ∧ v < m := by
  obtain ⟨v, y0, y1, y2, e, v0, v1⟩ := drawA_at hc (S := S.set b (bg x0 x1 x2 x3)) hk (List.getElem?_set_self hlt) h1 h2
  rw [set_set] at e
  exact ⟨v, y0, y1, y2, e, v0, v1⟩
end
end Mi

/-! Mi, part V: plain values of any form. -/
namespace Mi
open PySem PySem.Spec
/-- all but the bag stays -/
def Ext (b : Nat) (S S' : Store) : Prop := ∀ r c, b < r → S[r]? = some c → S'[r]? = some c
theorem Ext.refl {b : Nat} {S : Store} : Ext b S S := fun _ _ _ h => h
theorem Ext.trans {b : Nat} {S S' S2 : Store} (h : Ext b S S') (h' : Ext b S' S2) : Ext b S S2 := fun r c n e => h' r c n (h r c n e)
theorem Ext.app {b : Nat} {S l : Store} : Ext b S (S ++ l) := fun r c _ e => by
  rw [List.getElem?_append_left (List.getElem?_eq_some_iff.mp e).1]
  exact e
theorem Ext.set {b : Nat} {S : Store} {c : Cell} : Ext b S (S.set b c) := fun r c' n e => by
  rw [List.getElem?_set_ne (by omega)]
  exact e
theorem Ext.take {b : Nat} {S S' : Store} (h : Ext b S S') : Ext b S (S'.take S.length) := fun r c n e => by
  rw [List.getElem?_take, if_pos (List.getElem?_eq_some_iff.mp e).1]
  exact h r c n e
theorem Ext.len {b : Nat} {S S' : Store} (h : Ext b S S') {c : Cell} (hb : S'[b]? = some c) : S.length ≤ S'.length := by
  by_cases h0 : S.length = 0
  · omega
  · by_cases h1 : S.length - 1 ≤ b
    · have := (List.getElem?_eq_some_iff.mp hb).1
      omega
    · have e : S[S.length - 1]? = some S[S.length - 1] := List.getElem?_eq_getElem (by omega)
      have := (List.getElem?_eq_some_iff.mp (h _ _ (by omega) e)).1
      omega
def Pl (S : Store) (b L : Nat) : Nat → D → Prop
  | 0, _ => False
  | _ + 1, .non => True
  | _ + 1, .bl _ => True
  | _ + 1, .int _ => True
  | _ + 1, .str x => PyData.strOk x = true
  | n + 1, .tup ds => ds.length ≤ L ∧ ∀ e ∈ ds, Pl S b L n e
  | n + 1, .ref r => b < r ∧ ∃ ds, S[r]? = some (.lst ds) ∧ ds.length ≤ L ∧ ∀ e ∈ ds, Pl S b L n e
  | _, _ => False
section
variable {S S' : Store} {b L : Nat}
theorem Pl.up : ∀ {n : Nat} {d : D}, Pl S b L n d → Pl S b L (n + 1) d
  | 0, _, h => h.elim
  | n + 1, .non, h => trivial
  | n + 1, .bl _, h => trivial
  | n + 1, .int _, h => trivial
  | n + 1, .str _, h => h
  | n + 1, .tup ds, h => ⟨h.1, fun e he => Pl.up (h.2 e he)⟩
  | n + 1, .ref r, h => by
    obtain ⟨h1, ds, h2, h3, h4⟩ := h
    exact ⟨h1, ds, h2, h3, fun e he => Pl.up (h4 e he)⟩
theorem Pl.mono {n m : Nat} {d : D} (h : Pl S b L n d) (hm : n ≤ m) : Pl S b L m d := by
  obtain ⟨k, rfl⟩ : ∃ k, m = n + k := ⟨m - n, by omega⟩
  clear hm
  induction k with
  | zero => exact h
  | succ k ih => exact ih.up
theorem Pl.wide {L' : Nat} (hL : L ≤ L') : ∀ {n : Nat} {d : D}, Pl S b L n d → Pl S b L' n d
  | 0, _, h => h.elim
  | n + 1, .non, h => trivial
  | n + 1, .bl _, h => trivial
  | n + 1, .int _, h => trivial
  | n + 1, .str _, h => h
  | n + 1, .tup ds, h => ⟨Nat.le_trans h.1 hL, fun e he => Pl.wide hL (h.2 e he)⟩
  | n + 1, .ref r, h => by
    obtain ⟨h1, ds, h2, h3, h4⟩ := h
    exact ⟨h1, ds, h2, Nat.le_trans h3 hL, fun e he => Pl.wide hL (h4 e he)⟩
theorem Pl.ext (x : Ext b S S') : ∀ {n : Nat} {d : D}, Pl S b L n d → Pl S' b L n d
  | 0, _, h => h.elim
  | n + 1, .non, h => trivial
  | n + 1, .bl _, h => trivial
  | n + 1, .int _, h => trivial
  | n + 1, .str _, h => h
  | n + 1, .tup ds, h => ⟨h.1, fun e he => Pl.ext x (h.2 e he)⟩
  | n + 1, .ref r, h => by
    obtain ⟨h1, ds, h2, h3, h4⟩ := h
    exact ⟨h1, ds, x r _ h1 h2, h3, fun e he => Pl.ext x (h4 e he)⟩
theorem pures_mem : ∀ {ds : List D} {e : D}, pures ds = true → e ∈ ds → D.pure e = true
  | d :: ds, e, h, he => by
    have h : (D.pure d && pures ds) = true := h
    rw [Bool.and_eq_true] at h
    rcases List.mem_cons.mp he with rfl | he
    · exact h.1
    · exact pures_mem h.2 he
theorem Pl.pur : ∀ {n : Nat} {d : D}, D.pure d = true → Pl S b L n d → Pl S' b L n d
  | 0, _, _, h => h.elim
  | n + 1, .non, _, h => trivial
  | n + 1, .bl _, _, h => trivial
  | n + 1, .int _, _, h => trivial
  | n + 1, .str _, _, h => h
  | n + 1, .tup ds, p, h => ⟨h.1, fun e he => Pl.pur (pures_mem p he) (h.2 e he)⟩
  | n + 1, .ref r, p, h => nomatch p
theorem mapM_ex {α β : Type} {f : α → Option β} : ∀ {l : List α}, (∀ a ∈ l, ∃ p, f a = some p) → ∃ ps, l.mapM f = some ps
  | [], _ => ⟨[], rfl⟩
  | a :: l, h => by
    obtain ⟨p, hp⟩ := h a List.mem_cons_self
    obtain ⟨ps, hps⟩ := mapM_ex (l := l) fun a ha => h a (List.mem_cons_of_mem _ ha)
    exact ⟨p :: ps, by rw [List.mapM_cons, hp, hps]; rfl⟩
theorem Pl.py : ∀ {n : Nat} {d : D}, Pl S b L n d → ∃ p, toPy S n d = some p
  | 0, _, h => h.elim
  | n + 1, .non, h => ⟨_, rfl⟩
  | n + 1, .bl _, h => ⟨_, rfl⟩
  | n + 1, .int _, h => ⟨_, rfl⟩
  | n + 1, .str x, h => ⟨.str x, by unfold toPy; exact if_pos h⟩
  | n + 1, .tup ds, h => by
    obtain ⟨ps, e⟩ := mapM_ex (f := toPy S n) fun a ha => Pl.py (h.2 a ha)
    exact ⟨.tuple ps, by show (ds.mapM (toPy S n)).map PyData.tuple = _; rw [e]; rfl⟩
  | n + 1, .ref r, h => by
    obtain ⟨h1, ds, h2, h3, h4⟩ := h
    obtain ⟨ps, e⟩ := mapM_ex (f := toPy S n) fun a ha => Pl.py (h4 a ha)
    exact ⟨.list ps, by unfold toPy; dsimp only; rw [h2]; dsimp only; rw [e]; rfl⟩
theorem Pl.ty {n : Nat} {d : D} (h : Pl S b L n d) : ∃ t, tyOf' S d = some t := by
  cases n with
  | zero => exact h.elim
  | succ n =>
    cases d with
    | ref r =>
      obtain ⟨h1, ds, h2, h3, h4⟩ := h
      exact ⟨.lst, ty_lst h2⟩
    | fn => exact h.elim
    | ty => exact h.elim
    | _ => exact ⟨_, rfl⟩
def isStr (x : Str) : D → Bool
  | .str y => decide (y = x)
  | _ => false
theorem eqM_str {n : Nat} {d : D} {x : Str} (h : Pl S b L n d) (hn : n ≤ 60) (hx : PyData.strOk x = true) : eqM d (.str x) S = .ok (isStr x d) S := by
  have hq : toPy S 60 (.str x) = some (.str x) := if_pos hx
  obtain ⟨p, hp⟩ := (h.mono hn).py
  cases d with
  | str y => rfl
  | int i => rfl
  | non => show (match toPy S 60 _, toPy S 60 (.str x) with | some p, some q => .ok (PyData.eqv p q) S | _, _ => .no : Out Bool) = _; rw [hp, hq]; cases hp; rfl
  | bl c => show (match toPy S 60 _, toPy S 60 (.str x) with | some p, some q => .ok (PyData.eqv p q) S | _, _ => .no : Out Bool) = _; rw [hp, hq]; cases hp; rfl
  | tup ds =>
    show (match toPy S 60 _, toPy S 60 (.str x) with | some p, some q => .ok (PyData.eqv p q) S | _, _ => .no : Out Bool) = _
    rw [hp, hq]
    unfold toPy at hp
    rw [Option.map_eq_some_iff] at hp
    obtain ⟨ps, _, rfl⟩ := hp
    rfl
  | ref r =>
    show (match toPy S 60 _, toPy S 60 (.str x) with | some p, some q => .ok (PyData.eqv p q) S | _, _ => .no : Out Bool) = _
    rw [hp, hq]
    have h' := h.mono hn
    obtain ⟨h1, ds, h2, h3, h4⟩ := h'
    unfold toPy at hp
    dsimp only at hp
    rw [h2] at hp
    dsimp only at hp
    rw [Option.map_eq_some_iff] at hp
    obtain ⟨ps, _, rfl⟩ := hp
    rfl
  | fn f => exact (h.mono hn).elim
  | ty f => exact (h.mono hn).elim
end
theorem eqM_nil {S : Store} {b L n : Nat} {cs : List D} (h : Pl S b L n (.tup cs)) (hn : n ≤ 60) : eqM (.tup cs) (.tup []) S = .ok cs.isEmpty S := by
  obtain ⟨p, hp⟩ := (h.mono hn).py
  have hq : toPy S 60 (.tup []) = some (.tuple []) := rfl
  show (match toPy S 60 _, toPy S 60 (.tup []) with | some p, some q => .ok (PyData.eqv p q) S | _, _ => .no : Out Bool) = _
  rw [hp, hq]
  have hp : (cs.mapM (toPy S 59)).map PyData.tuple = some p := hp
  cases cs with
  | nil => cases hp; rfl
  | cons c cs =>
    rw [List.mapM_cons] at hp
    cases h1 : toPy S 59 c with
    | none => rw [h1] at hp; cases hp
    | some p1 =>
      cases h2 : cs.mapM (toPy S 59) with
      | none => rw [h1, h2] at hp; cases hp
      | some ps => rw [h1, h2] at hp; cases hp; rfl
/-! ### loops over any source -/
section
variable {Φ : Unit → Store → Prop} {Ψ : Exn → Store → Prop}
theorem lc_src {s : Src} {ds : List D} {tg : Tg} {c : Env → M Bool} {e : Env → M D} {env : Env} {r : Nat} (I : Nat → List D → Store → Prop)
    (ha : ∀ j acc T, I j acc T → s.at j T = .ok ds[j]? T)
    (hs : ∀ j d acc S, ds[j]? = some d → I j acc S → S[r]? = some (.lst acc) → acc.length ≤ j → W (tg.bind d env S) (fun env1 S2 => W (c env1 S2) (fun k S3 => Wif k (W (e env1 S3) (fun x S4 => S4[r]? = some (.lst acc) ∧ I (j + 1) (acc ++ [x]) (S4.set r (.lst (acc ++ [x])))) Ψ)
      (S3[r]? = some (.lst acc) ∧ I (j + 1) acc S3)) Ψ) Ψ)
    (he : ∀ acc S, I ds.length acc S → S[r]? = some (.lst acc) → Φ () S) (hl : ds.length ≤ lim) : ∀ (n i : Nat) (acc : List D) (S : Store), i ≤ ds.length → ds.length < n + i → acc.length ≤ i → I i acc S → S[r]? = some (.lst acc) → W (lcLoop s tg c e env r n i S) Φ Ψ
  | 0, i, acc, S, h1, h2, h3, h, g => by omega
  | n + 1, i, acc, S, h1, h2, h3, h, g => by
    rw [lc_one, ha i acc S h, W_ok]
    cases q : ds[i]? with
    | none =>
      dsimp only
      have : ds.length ≤ i := List.getElem?_eq_none_iff.mp q
      have e1 : i = ds.length := by omega
      rw [e1] at h
      exact he _ _ h g
    | some d =>
      dsimp only
      have hi : i < ds.length := (List.getElem?_eq_some_iff.mp q).1
      refine W_mono (hs i d acc S q h g h3) (fun env1 S2 h4 => W_mono h4 (fun k S3 h5 => ⟨fun ek => W_mono (h5.1 ek) (fun x S4 h6 => ?_) fun _ _ h => h, fun ek => ?_⟩) fun _ _ h => h) fun _ _ h => h
      · obtain ⟨g4, i4⟩ := h6
        have e4 : getW r S4 = .ok acc S4 := by
          unfold getW
          rw [g4]
        rw [e4, W_ok]
        have e5 : setL r (acc ++ [x]) S4 = .ok () (S4.set r (.lst (acc ++ [x]))) := by
          unfold setL
          rw [g4]
        refine ⟨decide_eq_true (by omega), ?_⟩
        rw [e5, W_ok]
        have hr : r < S4.length := (List.getElem?_eq_some_iff.mp g4).1
        exact lc_src I ha hs he hl n (i + 1) _ _ (by omega) (by omega) (by rw [List.length_append]; simp only [List.length_cons, List.length_nil]; omega) i4 (List.getElem?_set_self hr)
      · obtain ⟨g4, i4⟩ := h5.2 ek
        exact lc_src I ha hs he hl n (i + 1) _ _ (by omega) (by omega) (by omega) i4 g4
end
section
variable {Φ : D → Store → Prop} {G : Gen} {tg : Tg} {e : Ex} {env : Env} {S : Store} {ds : List D} {s : Src}
/-- a comprehension without a test, by an invariant -/
theorem lcI (I : Nat → List D → Store → Prop) (ha : ∀ j acc T, I j acc T → s.at j T = .ok ds[j]? T) (hL : ds.length < G.L) (hl : ds.length ≤ 1000000) (h0 : I 0 [] (S ++ [.lst []]))
    (hs : ∀ j d acc T, ds[j]? = some d → I j acc T → T[S.length]? = some (.lst acc) → W (tg.bind d env T) (fun env1 T1 => W (ev G e env1 T1) (fun x T2 => T2[S.length]? = some (.lst acc) ∧ I (j + 1) (acc ++ [x]) (T2.set S.length (.lst (acc ++ [x])))) NoEx) NoEx)
    (he : ∀ acc T, I ds.length acc T → T[S.length]? = some (.lst acc) → Φ (.ref S.length) T) : cLc G tg none e env Φ s S := by
  unfold cLc
  refine lc_src (ds := ds) I ha (fun j d acc T h1 h2 h3 h4 => ?_) (fun acc T h1 h2 => he acc T h1 h2) hl _ 0 [] _ (Nat.zero_le _) (by omega) (Nat.zero_le _) h0 get_new
  refine W_mono (hs j d acc T h1 h2 h3) (fun env1 T1 h5 => ?_) fun _ _ h => h
  rw [Wc_none]
  exact ⟨fun _ => h5, nofun⟩
theorem at_items {j : Nat} {T : Store} : Src.at (.items ds) j T = .ok ds[j]? T := rfl
theorem at_cell {r j : Nat} {T : Store} (h : T[r]? = some (.lst ds) ∨ T[r]? = some (.frz ds)) : Src.at (.cell r) j T = .ok ds[j]? T := by
  show M.bnd (getL r) _ T = _
  unfold M.bnd getL
  rcases h with h | h <;> rw [h] <;> rfl
/-- a comprehension that leaves nothing behind -/
theorem lcM (f : D → D) (ha : ∀ j l, s.at j (S ++ l) = .ok ds[j]? (S ++ l)) (hL : ds.length < G.L) (hl : ds.length ≤ 1000000)
    (h : ∀ d acc, d ∈ ds → W (tg.bind d env (S ++ [.lst acc])) (fun env1 T1 => W (ev G e env1 T1) (fun x T2 => x = f d ∧ T2 = S ++ [.lst acc]) NoEx) NoEx) (hΦ : Φ (.ref S.length) (S ++ [.lst (ds.map f)])) : cLc G tg none e env Φ s S := by
  refine lcI (ds := ds) (fun j acc T => acc = (ds.take j).map f ∧ T = S ++ [.lst acc]) (fun j acc T h => ?_) hL hl ⟨rfl, rfl⟩ (fun j d acc T h1 h2 h3 => ?_) (fun acc T h1 h2 => ?_)
  · obtain ⟨rfl, rfl⟩ := h
    exact ha _ _
  · obtain ⟨h4, rfl⟩ := h2
    refine W_mono (h d acc (List.mem_of_getElem? h1)) (fun env1 T1 h5 => W_mono h5 (fun x T2 h6 => ?_) fun _ _ h => h) fun _ _ h => h
    obtain ⟨rfl, rfl⟩ := h6
    refine ⟨get_new, ?_, ?_⟩
    · rw [List.take_add_one, h1, List.map_append, h4]
      rfl
    · rw [List.set_append_right _ _ (Nat.le_refl _), Nat.sub_self]
      rfl
  · obtain ⟨rfl, rfl⟩ := h1
    rw [List.take_length]
    exact hΦ
end
/-! ### a dict comprehension -/
theorem dc_one {Φ : Unit → Store → Prop} {Ψ : Exn → Store → Prop} {s : Src} {tg : Tg} {c : Env → M Bool} {ke ve : Env → M D} {env : Env} {r n i : Nat} {S : Store} : W (dcLoop s tg c ke ve env r (n + 1) i S) Φ Ψ = W (s.at i S) (fun o S1 => match o with
    | none => Φ () S1
    | some d => W (tg.bind d env S1) (fun env1 S2 => W (c env1 S2) (fun k S3 => Wif k (W (ke env1 S3) (fun x S4 => W (ve env1 S4) (fun y S5 => W (putD r x y S5) (fun _ S6 => W (dcLoop s tg c ke ve env r n (i + 1) S6) Φ Ψ) Ψ) Ψ) Ψ)
      (W (dcLoop s tg c ke ve env r n (i + 1) S3) Φ Ψ)) Ψ) Ψ) Ψ := by
  conv => lhs; unfold dcLoop
  rw [W_bind]
  refine congrArg (fun F => W (s.at i S) F Ψ) (funext fun o => funext fun S1 => ?_)
  cases o with
  | none => rfl
  | some d =>
    dsimp only
    rw [W_bind]
    refine congrArg (fun F => W (tg.bind d env S1) F Ψ) (funext fun env1 => funext fun S2 => ?_)
    rw [W_bind]
    refine congrArg (fun F => W (c env1 S2) F Ψ) (funext fun k => funext fun S3 => ?_)
    rw [W_ite, W_bind]
    refine congrArg (fun F => Wif k (W (ke env1 S3) F Ψ) _) (funext fun x => funext fun S4 => ?_)
    rw [W_bind]
    refine congrArg (fun F => W (ve env1 S4) F Ψ) (funext fun y => funext fun S5 => ?_)
    rw [W_bind]
section
variable {Φ : D → Store → Prop} {G : Gen} {tg : Tg} {k v : Ex} {env : Env} {S : Store} {ds : List D} {s : Src}
theorem dcI (I : Nat → List (D × D) → Store → Prop) (ha : ∀ (j : Nat) (kvs : List (D × D)) (T : Store), I j kvs T → s.at j T = .ok ds[j]? T) (hL : ds.length < G.L) (h0 : I 0 [] (S ++ [.dic []]))
    (hs : ∀ (j : Nat) (d : D) (kvs : List (D × D)) (T : Store), ds[j]? = some d → I j kvs T → T[S.length]? = some (.dic kvs) → W (tg.bind d env T) (fun env1 T1 => W (ev G k env1 T1) (fun x T2 => W (ev G v env1 T2) (fun y T3 => T3[S.length]? = some (.dic kvs) ∧ kOk kvs x = true ∧ kvs.length < lim ∧ I (j + 1) (dput kvs x y) (T3.set S.length (.dic (dput kvs x y)))) NoEx) NoEx) NoEx)
    (he : ∀ (kvs : List (D × D)) (T : Store), I ds.length kvs T → T[S.length]? = some (.dic kvs) → Φ (.ref S.length) T) : cDc G tg none k v env Φ s S := by
  have main : ∀ (n i : Nat) (kvs : List (D × D)) (T : Store), i ≤ ds.length → ds.length < n + i → I i kvs T → T[S.length]? = some (.dic kvs) → W (dcLoop s tg (fun env' => evc G none env') (fun env' => ev G k env') (fun env' => ev G v env') env S.length n i T) (cLc2 S.length Φ) NoEx := by
    intro n
    induction n with
    | zero => intro i kvs T h1 h2; omega
    | succ n ih =>
      intro i kvs T h1 h2 hI hg
      rw [dc_one, ha i kvs T hI, W_ok]
      cases q : ds[i]? with
      | none =>
        have : ds.length ≤ i := List.getElem?_eq_none_iff.mp q
        have e1 : i = ds.length := by omega
        rw [e1] at hI
        exact he kvs T hI hg
      | some d =>
        have hi : i < ds.length := (List.getElem?_eq_some_iff.mp q).1
        refine W_mono (hs i d kvs T q hI hg) (fun env1 T1 h => ?_) fun _ _ h => h
        rw [Wc_none, Wif_t]
        refine W_mono h (fun x T2 h => W_mono h (fun y T3 h => ?_) fun _ _ h => h) fun _ _ h => h
        obtain ⟨g3, hk, hl, i3⟩ := h
        have hr : S.length < T3.length := (List.getElem?_eq_some_iff.mp g3).1
        have ep : putD S.length x y T3 = .ok () (T3.set S.length (.dic (dput kvs x y))) := by
          unfold putD
          rw [g3]
          dsimp only
          rw [hk, decide_eq_true hl]
          rfl
        rw [ep, W_ok]
        exact ih (i + 1) _ _ (by omega) (by omega) i3 (List.getElem?_set_self hr)
  exact main G.L 0 [] _ (Nat.zero_le _) (by omega) h0 get_new
end
/-- pairs of places and items -/
def enuD (ds : List D) : List D := ds.mapIdx fun i d => .tup [.int i, d]
theorem enuD_len (ds : List D) : (enuD ds).length = ds.length := List.length_mapIdx
theorem enuD_at {ds : List D} {j : Nat} {x : D} (h : (enuD ds)[j]? = some x) : ∃ d, ds[j]? = some d ∧ x = .tup [.int j, d] := by
  unfold enuD at h
  rw [List.getElem?_mapIdx, Option.map_eq_some_iff] at h
  obtain ⟨d, h1, h2⟩ := h
  exact ⟨d, h1, h2.symm⟩
theorem at_enu {ds : List D} {r j : Nat} {T : Store} (h : T[r]? = some (.lst ds)) : Src.at (.enu (.cell r)) j T = .ok (enuD ds)[j]? T := by
  show M.bnd (Src.at (.cell r) j) _ T = _
  unfold M.bnd
  rw [at_cell (.inl h)]
  dsimp only
  unfold enuD
  rw [List.getElem?_mapIdx]
  cases ds[j]? <;> rfl
/-! ### False among bools -/
theorem toPy_bls {S : Store} {n : Nat} : ∀ bs : List Bool, (bs.map D.bl).mapM (toPy S (n + 1)) = some (bs.map PyData.bool)
  | [] => rfl
  | b :: bs => by
    rw [List.map_cons, List.mapM_cons, toPy_bls bs]
    rfl
theorem inM_ref {S : Store} {r : Nat} {x : D} {ds : List D} (h : S[r]? = some (.lst ds)) : inM x (.ref r) S = anyEq x ds S := by
  have e : inM x (.ref r) S = orD r (getK r x >>= fun kvs => M.ret (dval kvs x).isSome) (getL r >>= fun ds => anyEq x ds) S := by cases x <;> rfl
  rw [e]
  unfold orD
  rw [isDic_is h, if_neg (fun z => nomatch z)]
  show M.bnd (getL r) (anyEq x) S = _
  unfold M.bnd getL
  rw [h]
theorem inM_dic {S : Store} {r : Nat} {x : D} {kvs : List (D × D)} (h : S[r]? = some (.dic kvs)) (hk : kOk kvs x = true) : inM x (.ref r) S = .ok (dval kvs x).isSome S := by
  have e : inM x (.ref r) S = orD r (getK r x >>= fun kvs => M.ret (dval kvs x).isSome) (getL r >>= fun ds => anyEq x ds) S := by cases x <;> rfl
  rw [e]
  unfold orD
  rw [isDic_is h, if_pos (show Cell.isD (.dic kvs) = true from rfl)]
  show M.bnd (getK r x) _ S = _
  unfold M.bnd getK
  rw [h]
  dsimp only
  rw [hk, if_pos rfl]
  rfl
theorem inM_bls {S : Store} {r : Nat} {b : Bool} {bs : List Bool} (h : S[r]? = some (.lst (bs.map D.bl))) : inM (.bl b) (.ref r) S = .ok (bs.contains b) S := by
  rw [inM_ref h]
  show (match toPy S 60 (.bl b), (bs.map D.bl).mapM (toPy S 59) with | some p, some qs => .ok (qs.any fun z => PyData.eqv z p) S | _, _ => .no : Out Bool) = _
  rw [toPy_bls bs]
  show Out.ok ((bs.map PyData.bool).any fun z => PyData.eqv z (.bool b)) S = _
  congr 1
  rw [List.any_map]
  induction bs with
  | nil => rfl
  | cons c cs ih =>
    clear h
    rw [List.any_cons, List.contains_cons]
    congr 1
    · cases b <;> cases c <;> rfl
    · clear ih
      induction cs with
      | nil => rfl
      | cons e es ih => rw [List.any_cons, List.contains_cons, ih]; congr 1; cases b <;> cases e <;> rfl
theorem contains_false (bs : List Bool) : (!bs.contains false) = bs.all id := by
  induction bs with
  | nil => rfl
  | cons c cs ih =>
    rw [List.contains_cons, List.all_cons, ← ih]
    cases c <;> rfl
/-! ### a plain value behind a call -/
def BagAt (S : Store) (b : Nat) : Prop := ∃ x0 x1 x2 x3, S[b]? = some (bg x0 x1 x2 x3)
def Mad (S : Store) (b L n : Nat) (d : D) (S' : Store) : Prop := Ext b S S' ∧ BagAt S' b ∧ Pl S' b L n d
theorem cutL_none {α : Type} (xs : List α) (hi : Option Int) : cutL xs none hi = xs.take (HT.sIx xs.length xs.length hi) := by
  unfold cutL
  rw [HT.sIx_none]
  rfl
theorem cutL_sub {α : Type} {xs : List α} {lo hi : Option Int} {x : α} (h : x ∈ cutL xs lo hi) : x ∈ xs := by
  unfold cutL at h
  exact List.mem_of_mem_drop (List.mem_of_mem_take h)
theorem sIx_of {n d : Nat} {i : Int} (h : 0 ≤ i) : HT.sIx n d (some i) = min i.toNat n := if_neg (by omega)
theorem cutL_l {α : Type} {xs : List α} {i : Int} (h : 0 ≤ i) : (cutL xs none (some i)).length = min i.toNat xs.length := by
  rw [cutL_none, List.length_take, sIx_of h]
  omega
theorem cutL_r {α : Type} {xs : List α} {i : Int} (h : 0 ≤ i) : (cutL xs (some i) none).length = xs.length - i.toNat := by
  unfold cutL
  rw [List.length_take, List.length_drop, sIx_of h, HT.sIx_none]
  omega
theorem cutL_m {α : Type} {xs : List α} {i j : Int} (h : 0 ≤ i) (h1 : 0 ≤ j) : (cutL xs (some i) (some j)).length = min j.toNat xs.length - i.toNat := by
  unfold cutL
  rw [List.length_take, List.length_drop, sIx_of h, sIx_of h1]
  omega
/-! ### many draws -/
theorem set_app {T l : Store} {b : Nat} {c : Cell} (h : b < T.length) : T.set b c ++ l = (T ++ l).set b c := (List.set_append_left _ _ h).symm
theorem set_new {T : Store} {b : Nat} {c c0 c1 : Cell} (h : b < T.length) : ((T ++ [c0]).set b c).set T.length c1 = (T ++ [c1]).set b c := by
  rw [List.set_comm _ _ (by omega), List.set_append_right _ _ (Nat.le_refl _), Nat.sub_self]
  rfl
theorem bag_new {S : Store} {c : Cell} : S ++ [c] = (S ++ [c]).set S.length c := by
  rw [List.set_append_right _ _ (Nat.le_refl _), Nat.sub_self]
  rfl
section
variable {p : Prg} {i : Nat} (hc : ∀ (k : Nat) (a b : D) (S : Store), callN p (k + 1) i [a, b] S = gc S (endOf (xss ⟨callN p k, 1000000⟩ drawA [some a, some b, none, none] S)))
include hc
theorem lc_draws {k b vb vm j : Nat} {T : Store} {env : Env} {Φ : D → Store → Prop} {x0 x1 x2 x3 m r : Int} (hk : 1 ≤ k) (hb : b < T.length) (h1 : 1 ≤ m) (h2 : m < 1000000000) (hr : r ≤ 100000) (eb : env[vb]? = some (some (.ref b))) (em : env[vm]? = some (some (.int m))) (jb : j ≠ vb) (jm : j ≠ vm)
    (hΦ : ∀ (vs : List Int) (y0 y1 y2 : Int), vs.length = r.toNat → (∀ v ∈ vs, 0 ≤ v ∧ v < m) → Φ (.ref T.length) ((T ++ [Cell.lst (vs.map D.int)]).set b (bg y0 y1 y2 x3))) :
    cLc ⟨callN p k, 1000000⟩ (.v j) none (.call i [.var vb, .var vm]) env Φ (.items (rngD 0 r)) (T.set b (bg x0 x1 x2 x3)) := by
  have hl : (rngD 0 r).length = r.toNat := by rw [rngD_len]; omega
  refine lcI (ds := rngD 0 r) (fun n acc U => ∃ (vs : List Int) (y0 y1 y2 : Int), acc = vs.map D.int ∧ vs.length = n ∧ (∀ v ∈ vs, 0 ≤ v ∧ v < m) ∧ U = (T ++ [Cell.lst acc]).set b (bg y0 y1 y2 x3)) (fun _ _ _ _ => rfl) (by rw [hl]; show r.toNat < 1000000; omega) (by omega) ?_ (fun n d acc U e h g => ?_) (fun acc U h g => ?_)
  · exact ⟨[], x0, x1, x2, rfl, rfl, by simp, by rw [set_app hb]⟩
  · obtain ⟨vs, y0, y1, y2, rfl, rfl, hv, rfl⟩ := h
    have hb' : b < (T ++ [Cell.lst (vs.map D.int)]).length := by rw [List.length_append]; omega
    obtain ⟨v, z0, z1, z2, e1, v0, v1⟩ := drawA_on hc (k := k) (S := T ++ [Cell.lst (vs.map D.int)]) (x0 := y0) (x1 := y1) (x2 := y2) (x3 := x3) hk hb' h1 h2
    rw [List.length_set] at g ⊢
    simp (disch := first | assumption | rfl | omega | (simp only [List.length_set, List.length_append, List.length_cons, List.length_nil, List.length_map]; omega) | decide +kernel) only [↓miA, miB, miC, ex_nil, ex_app, ex_app2, ex_app3, ex_app4, ex_app5, ex_app6, in62r, inWr, inWl, lim, List.length_set, List.length_cons, List.length_nil, List.getElem?_cons_zero, List.getElem?_cons_succ, List.set_cons_zero, List.set_cons_succ, Int.reduceToNat, eq_self, List.zip_nil_left, List.zip_nil_right, List.zip_cons_cons, decide_true, decide_eq_true, decide_eq_false, Bool.not_true, Bool.not_false, Bool.and_true, Bool.and_false, Bool.true_and, Bool.false_and, Bool.or_true, Bool.or_false, Bool.true_or, Bool.false_or, Bool.not_not, List.isEmpty_nil, List.isEmpty_cons, true_and, and_true, List.getElem?_set_ne jb, List.getElem?_set_ne jm, eb, em, e1]
    refine ⟨vs ++ [v], z0, z1, z2, ?_, ?_, ?_, ?_⟩
    · rw [List.map_append]; rfl
    · rw [List.length_append]; rfl
    · intro w hw
      rcases List.mem_append.mp hw with hw | hw
      · exact hv w hw
      · rw [List.mem_singleton.mp hw]; exact ⟨v0, v1⟩
    · rw [set_new hb]
  · obtain ⟨vs, y0, y1, y2, rfl, hn, hv, rfl⟩ := h
    rw [List.length_set]
    exact hΦ vs y0 y1 y2 (by omega) hv
end
theorem set_self {S : Store} {b : Nat} {c : Cell} (h : S[b]? = some c) : S = S.set b c := by
  apply List.ext_getElem?
  intro i
  by_cases hi : b = i
  · subst hi
    rw [List.getElem?_set_self (List.getElem?_eq_some_iff.mp h).1, h]
  · rw [List.getElem?_set_ne hi]
theorem Pl_ints {S : Store} {b L n : Nat} {ns : List Int} (h : ns.length ≤ L) : Pl S b L (n + 2) (.tup (ns.map D.int)) := by
  refine ⟨by rw [List.length_map]; exact h, fun e he => ?_⟩
  obtain ⟨i, _, rfl⟩ := List.mem_map.mp he
  trivial
end Mi

/-! Mi, part X: trees of tuples, whole numbers and texts; their equality. -/
namespace Mi
open PySem PySem.Spec
/-- a tree of at most this depth -/
def Tr : Nat → D → Prop
  | 0, _ => False
  | _ + 1, .non => True
  | _ + 1, .int _ => True
  | _ + 1, .str x => PyData.strOk x = true
  | n + 1, .tup ds => ∀ e ∈ ds, Tr n e
  | _, _ => False
mutual
def pyT : D → PyData
  | .int i => .int i
  | .str x => .str x
  | .tup ds => .tuple (pyTs ds)
  | _ => .none
def pyTs : List D → List PyData
  | [] => []
  | d :: ds => pyT d :: pyTs ds
end
theorem Tr.up : ∀ {n : Nat} {d : D}, Tr n d → Tr (n + 1) d
  | 0, _, h => h.elim
  | n + 1, .non, h => trivial
  | n + 1, .int _, h => trivial
  | n + 1, .str _, h => h
  | n + 1, .tup ds, h => fun e he => Tr.up (h e he)
theorem Tr.mono {n m : Nat} {d : D} (h : Tr n d) (hm : n ≤ m) : Tr m d := by
  obtain ⟨k, rfl⟩ : ∃ k, m = n + k := ⟨m - n, by omega⟩
  clear hm
  induction k with
  | zero => exact h
  | succ k ih => exact ih.up
mutual
theorem Tr.py {S : Store} : ∀ {n : Nat} {d : D}, Tr n d → toPy S n d = some (pyT d)
  | 0, _, h => h.elim
  | n + 1, .non, h => rfl
  | n + 1, .int _, h => rfl
  | n + 1, .str x, h => by unfold toPy; exact if_pos h
  | n + 1, .tup ds, h => by
    show (ds.mapM (toPy S n)).map PyData.tuple = _
    rw [Tr.pys h]
    rfl
theorem Tr.pys {S : Store} : ∀ {n : Nat} {ds : List D}, (∀ e ∈ ds, Tr n e) → ds.mapM (toPy S n) = some (pyTs ds)
  | n, [], h => rfl
  | n, d :: ds, h => by
    rw [List.mapM_cons, Tr.py (h d List.mem_cons_self), Tr.pys fun e he => h e (List.mem_cons_of_mem _ he)]
    rfl
end
mutual
theorem eqv_T : ∀ {n m : Nat} {x y : D}, Tr n x → Tr m y → PyData.eqv (pyT x) (pyT y) = D.same x y
  | 0, _, _, _, h, _ => h.elim
  | _ + 1, 0, _, _, _, h => h.elim
  | n + 1, m + 1, x, y, hx, hy => by
    cases x with
    | tup xs =>
      cases y with
      | tup ys =>
        show PyData.eqvAll (pyTs xs) (pyTs ys) = sames xs ys
        exact eqvs_T hx hy
      | fn => exact hy.elim
      | ty => exact hy.elim
      | bl => exact hy.elim
      | ref => exact hy.elim
      | _ => rfl
    | int i =>
      cases y with
      | int j => show (i == j) = decide (i = j); by_cases h : i = j <;> simp [h]
      | fn => exact hy.elim
      | ty => exact hy.elim
      | bl => exact hy.elim
      | ref => exact hy.elim
      | _ => rfl
    | str i =>
      cases y with
      | str j => show (i == j) = decide (i = j); by_cases h : i = j <;> simp [h]
      | fn => exact hy.elim
      | ty => exact hy.elim
      | bl => exact hy.elim
      | ref => exact hy.elim
      | _ => rfl
    | non =>
      cases y with
      | fn => exact hy.elim
      | ty => exact hy.elim
      | bl => exact hy.elim
      | ref => exact hy.elim
      | _ => rfl
    | fn => exact hx.elim
    | ty => exact hx.elim
    | bl => exact hx.elim
    | ref => exact hx.elim
theorem eqvs_T : ∀ {n m : Nat} {xs ys : List D}, (∀ e ∈ xs, Tr n e) → (∀ e ∈ ys, Tr m e) → PyData.eqvAll (pyTs xs) (pyTs ys) = sames xs ys
  | n, m, [], [], _, _ => rfl
  | n, m, [], y :: ys, _, _ => rfl
  | n, m, x :: xs, [], _, _ => rfl
  | n, m, x :: xs, y :: ys, hx, hy => by
    show (PyData.eqv (pyT x) (pyT y) && PyData.eqvAll (pyTs xs) (pyTs ys)) = (D.same x y && sames xs ys)
    rw [eqv_T (hx x List.mem_cons_self) (hy y List.mem_cons_self), eqvs_T (fun e he => hx e (List.mem_cons_of_mem _ he)) fun e he => hy e (List.mem_cons_of_mem _ he)]
end
theorem eqM_T {S : Store} {n m : Nat} {x y : D} (hx : Tr n x) (hy : Tr m y) (hn : n ≤ 60) (hm : m ≤ 60) : eqM x y S = .ok (D.same x y) S := by
  have h : (match toPy S 60 x, toPy S 60 y with | some p, some q => .ok (PyData.eqv p q) S | _, _ => .no : Out Bool) = .ok (D.same x y) S := by
    rw [(hx.mono hn).py, (hy.mono hm).py]
    show Out.ok (PyData.eqv (pyT x) (pyT y)) S = _
    rw [eqv_T hx hy]
  have h0 := hx.mono hn
  have h1 := hy.mono hm
  cases x <;> cases y <;> first | exact h | exact h0.elim | exact h1.elim | rfl
theorem anyEq_T {S : Store} {n m : Nat} {x : D} {ds : List D} (hx : Tr n x) (hy : ∀ e ∈ ds, Tr m e) (hn : n ≤ 60) (hm : m ≤ 59) : anyEq x ds S = .ok (ds.any fun z => D.same z x) S := by
  show (match toPy S 60 x, ds.mapM (toPy S 59) with | some p, some qs => .ok (qs.any fun z => PyData.eqv z p) S | _, _ => .no : Out Bool) = _
  rw [(hx.mono hn).py, Tr.pys fun e he => (hy e he).mono hm]
  show Out.ok ((pyTs ds).any fun z => PyData.eqv z (pyT x)) S = _
  congr 1
  clear hm
  induction ds with
  | nil => rfl
  | cons d ds ih =>
    show (PyData.eqv (pyT d) (pyT x) || (pyTs ds).any fun z => PyData.eqv z (pyT x)) = (D.same d x || ds.any fun z => D.same z x)
    rw [eqv_T (hy d List.mem_cons_self) hx, ih fun e he => hy e (List.mem_cons_of_mem _ he)]
theorem inM_tup {S : Store} {n m : Nat} {x : D} {ds : List D} (hx : Tr n x) (hy : ∀ e ∈ ds, Tr m e) (hn : n ≤ 60) (hm : m ≤ 59) : inM x (.tup ds) S = .ok (ds.any fun z => D.same z x) S := by
  rw [← anyEq_T hx hy hn hm]
  cases x <;> rfl
theorem inM_lst {S : Store} {n m r : Nat} {x : D} {ds : List D} (hr : S[r]? = some (.lst ds)) (hx : Tr n x) (hy : ∀ e ∈ ds, Tr m e) (hn : n ≤ 60) (hm : m ≤ 59) : inM x (.ref r) S = .ok (ds.any fun z => D.same z x) S := by
  rw [← anyEq_T hx hy hn hm]
  exact inM_ref hr
theorem same_str {x y : Str} : D.same (.str x) (.str y) = decide (x = y) := rfl
theorem same_int {x y : Int} : D.same (.int x) (.int y) = decide (x = y) := rfl
theorem same_tup {x y : List D} : D.same (.tup x) (.tup y) = sames x y := rfl
theorem same_tnil : sames [] [] = true := rfl
theorem same_tc {a b : D} {x y : List D} : sames (a :: x) (b :: y) = (D.same a b && sames x y) := rfl
theorem same_iff {a b : D} : D.same a b = decide (D.same a b = true) := by cases D.same a b <;> rfl
/-! ### a text among texts -/
def allS : List D → Bool
  | [] => true
  | .str x :: r => PyData.strOk x && allS r
  | _ => false
def inLs (x : Str) (ds : List D) : Option Bool := if PyData.strOk x && allS ds then some (ds.any fun z => D.same z (.str x)) else none
theorem allS_tr : ∀ {ds : List D}, allS ds = true → ∀ e ∈ ds, Tr 1 e
  | [], _, e, he => nomatch he
  | .str x :: r, h, e, he => by
    have h : (PyData.strOk x && allS r) = true := h
    rw [Bool.and_eq_true] at h
    rcases List.mem_cons.mp he with rfl | he
    · exact h.1
    · exact allS_tr h.2 e he
theorem inLs_b {x : Str} {ds : List D} {b : Bool} (h : inLs x ds = some b) : PyData.strOk x = true ∧ allS ds = true ∧ (ds.any fun z => D.same z (.str x)) = b := by
  unfold inLs at h
  split at h
  · rename_i h0
    rw [Bool.and_eq_true] at h0
    exact ⟨h0.1, h0.2, Option.some.inj h⟩
  · cases h
section
variable {S : Store} {x : Str} {ds : List D}
theorem inT_ {b : Bool} (h : inLs x ds = some b) : inM (.str x) (.tup ds) S = .ok b S := by
  obtain ⟨h1, h2, h3⟩ := inLs_b h
  rw [inM_tup (n := 1) (m := 1) (show Tr 1 (.str x) from h1) (allS_tr h2) (by omega) (by omega), h3]
theorem inR_ {b : Bool} {r : Nat} (hr : S[r]? = some (.lst ds)) (h : inLs x ds = some b) : inM (.str x) (.ref r) S = .ok b S := by
  obtain ⟨h1, h2, h3⟩ := inLs_b h
  rw [inM_lst hr (n := 1) (m := 1) (show Tr 1 (.str x) from h1) (allS_tr h2) (by omega) (by omega), h3]
theorem inT_t (h : inLs x ds = some true) : inM (.str x) (.tup ds) S = .ok true S := inT_ h
theorem inT_f (h : inLs x ds = some false) : inM (.str x) (.tup ds) S = .ok false S := inT_ h
theorem inN_t (h : inLs x ds = some true) : inM (.str x) (.ref S.length) (S ++ [.lst ds]) = .ok true (S ++ [.lst ds]) := inR_ get_new h
theorem inN_f (h : inLs x ds = some false) : inM (.str x) (.ref S.length) (S ++ [.lst ds]) = .ok false (S ++ [.lst ds]) := inR_ get_new h
end
def miX := And.intro @inT_t (And.intro @inT_f (And.intro @inN_t @inN_f))
end Mi

/-! Mi, part Y: drawing from a tape of two lists. -/
namespace Mi
open PySem PySem.Spec
abbrev drawB : List Sx :=
  [.asg (.v 2) (.ix (.var 0) (.lit (.int 0))), .whl (.and (.cmp .gt (.blt .len [.var 2]) (.lit (.int 0))) (.cmp .eq (.ix (.var 2) (.lit (.int 0))) (.lit (.int 0)))) [.expr (.mth .pop (.var 2) [.lit (.int 0)])], .ite (.cmp .gt (.blt .len [.var 2]) (.lit (.int 0))) [.asg (.v 3) (.ix (.var 2) (.lit (.int 0))), .asgIx (.var 2) (.lit (.int 0)) (.bin .fdiv (.var 3) (.var 1)), .ret (.bin .mod (.blt .int [.var 3]) (.var 1))] [], .asgIx (.var 0) (.lit (.int 1)) (.bin .mod (.blt .int [.bin .add (.bin .mul (.ix (.var 0) (.lit (.int 1))) (.lit (.int 48271))) (.lit (.int 12345))]) (.lit (.int 2147483647))), .ret (.bin .mod (.blt .int [.bin .fdiv (.ix (.var 0) (.lit (.int 1))) (.lit (.int 64))]) (.var 1))]
abbrev tp (c : Nat) (s : Int) : Cell := .lst [.ref c, .int s]
abbrev cl (ns : List Int) : Cell := .lst (ns.map D.int)
/-- a tape: its two lists -/
structure Tape (S : Store) (t c : Nat) (s : Int) (ns : List Int) : Prop where
  ht : S[t]? = some (tp c s)
  hc : S[c]? = some (cl ns)
  ct : c < t
  lt : t < S.length
  lc : c < S.length
  nn : ∀ n ∈ ns, 0 ≤ n
theorem Tape.ne {S : Store} {t c : Nat} {s : Int} {ns : List Int} (h : Tape S t c s ns) : c ≠ t := by have := h.ct; omega
theorem set_set3 {S : Store} {c t : Nat} {a b d : Cell} (h : c ≠ t) : ((S.set c a).set t b).set c d = (S.set c d).set t b := by
  rw [List.set_comm _ _ (Ne.symm h), List.set_set]
theorem drawB_body {G : Gen} {S : Store} {t c : Nat} {s m : Int} {ns : List Int} (h : Tape S t c s ns) (h1 : 1 ≤ m) (h2 : m < 1000000000) (hl : ns.length ≤ 1000) (hG : 1000000 ≤ G.L) :
    W (endOf (xss G drawB [some (.ref t), some (.int m), none, none] S)) (fun d S' => ∃ v s' ns', d = .int v ∧ 0 ≤ v ∧ v < m ∧ S' = (S.set c (cl ns')).set t (tp c s') ∧ ns'.length ≤ ns.length ∧ ∀ n ∈ ns', 0 ≤ n) NoEx := by
  have ne := h.ne
  obtain ⟨ht, hc, _, lt, lc, nn⟩ := h
  unfold drawB
  simp (disch := first | assumption | rfl | omega | (simp only [List.length_set, List.length_append, List.length_cons, List.length_nil, List.length_map]; omega) | decide +kernel) only [↓miA, miB, miC, ex_nil, ex_app, ex_app2, ex_app3, ex_app4, ex_app5, ex_app6, in62r, inWr, inWl, lim, List.length_set, List.length_cons, List.length_nil, List.getElem?_cons_zero, List.getElem?_cons_succ, List.set_cons_zero, List.set_cons_succ, Int.reduceToNat, eq_self, List.zip_nil_left, List.zip_nil_right, List.zip_cons_cons, decide_true, decide_eq_true, decide_eq_false, Bool.not_true, Bool.not_false, Bool.and_true, Bool.and_false, Bool.true_and, Bool.false_and, Bool.or_true, Bool.or_false, Bool.true_or, Bool.false_or, Bool.not_not, List.isEmpty_nil, List.isEmpty_cons, true_and, and_true, ht]
  refine while_lt (fun k env S' => ∃ ns', k = ns'.length ∧ env = [some (.ref t), some (.int m), some (.ref c), none] ∧ S' = S.set c (cl ns') ∧ ns'.length ≤ ns.length ∧ ∀ n ∈ ns', 0 ≤ n) ?_ G.L ns.length _ _ (by omega) ⟨ns, rfl, rfl, set_self hc, Nat.le_refl _, nn⟩
  rintro k env S' ⟨ns', rfl, rfl, rfl, hle, hnn⟩
  have hc' : (S.set c (cl ns'))[c]? = some (cl ns') := get_set_self lc
  have ht' : (S.set c (cl ns'))[t]? = some (tp c s) := by rw [get_set_ne ne]; exact ht
  have st : S.set c (cl ns') = (S.set c (cl ns')).set t (tp c s) := set_self ht'
  cases ns' with
  | nil =>
    have r1 : ∀ x : Int, 0 ≤ x.fmod m ∧ x.fmod m < m := fun x => ⟨Int.fmod_nonneg_of_pos _ (by omega), Int.fmod_lt_of_pos _ (by omega)⟩
    simp (disch := first | assumption | rfl | omega | (simp only [List.length_set, List.length_append, List.length_cons, List.length_nil, List.length_map]; omega) | decide +kernel) only [↓miA, miB, miC, ex_nil, ex_app, ex_app2, ex_app3, ex_app4, ex_app5, ex_app6, in62r, inWr, inWl, lim, List.length_set, List.length_cons, List.length_nil, List.getElem?_cons_zero, List.getElem?_cons_succ, List.set_cons_zero, List.set_cons_succ, Int.reduceToNat, eq_self, List.zip_nil_left, List.zip_nil_right, List.zip_cons_cons, decide_true, decide_eq_true, decide_eq_false, Bool.not_true, Bool.not_false, Bool.and_true, Bool.and_false, Bool.true_and, Bool.false_and, Bool.or_true, Bool.or_false, Bool.true_or, Bool.false_or, Bool.not_not, List.isEmpty_nil, List.isEmpty_cons, true_and, and_true, hc', ht', Wif_f, List.map_nil]
    exact ⟨_, _, [], rfl, (r1 _).1, (r1 _).2, rfl, by omega, by simp⟩
  | cons x r =>
    by_cases hx : x = 0
    · subst hx
      have hk : ((D.int 0 :: r.map D.int) : List D)[0]? = some (.int 0) := rfl
      simp (disch := first | assumption | rfl | omega | (simp only [List.length_set, List.length_append, List.length_cons, List.length_nil, List.length_map]; omega) | decide +kernel) only [↓miA, miB, miC, ex_nil, ex_app, ex_app2, ex_app3, ex_app4, ex_app5, ex_app6, in62r, inWr, inWl, lim, List.length_set, List.length_cons, List.length_nil, List.getElem?_cons_zero, List.getElem?_cons_succ, List.set_cons_zero, List.set_cons_succ, Int.reduceToNat, eq_self, List.zip_nil_left, List.zip_nil_right, List.zip_cons_cons, decide_true, decide_eq_true, decide_eq_false, Bool.not_true, Bool.not_false, Bool.and_true, Bool.and_false, Bool.true_and, Bool.false_and, Bool.or_true, Bool.or_false, Bool.true_or, Bool.false_or, Bool.not_not, List.isEmpty_nil, List.isEmpty_cons, true_and, and_true, hc', ht', Wif_t, List.map_cons, kPopi2_ hk, List.eraseIdx_cons_zero]
      exact ⟨r.length, by omega, r, rfl, rfl, by simp only [List.length_cons] at hle; omega, fun n hn => hnn n (List.mem_cons_of_mem _ hn)⟩
    · have x0 : 0 ≤ x := hnn x List.mem_cons_self
      simp (disch := first | assumption | rfl | omega | (simp only [List.length_set, List.length_append, List.length_cons, List.length_nil, List.length_map]; omega) | decide +kernel) only [↓miA, miB, miC, ex_nil, ex_app, ex_app2, ex_app3, ex_app4, ex_app5, ex_app6, in62r, inWr, inWl, lim, List.length_set, List.length_cons, List.length_nil, List.getElem?_cons_zero, List.getElem?_cons_succ, List.set_cons_zero, List.set_cons_succ, Int.reduceToNat, eq_self, List.zip_nil_left, List.zip_nil_right, List.zip_cons_cons, decide_true, decide_eq_true, decide_eq_false, Bool.not_true, Bool.not_false, Bool.and_true, Bool.and_false, Bool.true_and, Bool.false_and, Bool.or_true, Bool.or_false, Bool.true_or, Bool.false_or, Bool.not_not, List.isEmpty_nil, List.isEmpty_cons, true_and, and_true, hc', ht', Wif_f, List.map_cons]
      refine ⟨_, s, x.fdiv m :: r, rfl, Int.fmod_nonneg_of_pos _ (by omega), Int.fmod_lt_of_pos _ (by omega), ?_, hle, fun n hn => ?_⟩
      · exact set_self (by rw [get_set_ne ne]; exact ht)
      · rcases List.mem_cons.mp hn with rfl | hn
        · exact Int.fdiv_nonneg x0 (by omega)
        · exact hnn n (List.mem_cons_of_mem _ hn)
theorem gc_len {S S' : Store} {d : D} (hl : S'.length = S.length) : gc S (.ok d S') = .ok d S' := by
  unfold gc
  dsimp only
  split
  · rw [← hl, List.take_length]
    split
    · rfl
    · cases d with
      | ref n =>
        dsimp only
        split
        · rename_i h1
          rw [List.getElem?_eq_none (of_decide_eq_true h1)]
        · rfl
      | _ => rfl
  · rfl
theorem Tape.next {S : Store} {t c : Nat} {s s' : Int} {ns ns' : List Int} (h : Tape S t c s ns) (hn : ∀ n ∈ ns', 0 ≤ n) : Tape ((S.set c (cl ns')).set t (tp c s')) t c s' ns' := by
  refine ⟨get_set_self (by rw [List.length_set]; exact h.lt), ?_, h.ct, by rw [List.length_set, List.length_set]; exact h.lt, by rw [List.length_set, List.length_set]; exact h.lc, hn⟩
  rw [get_set_ne h.ne.symm]
  exact get_set_self h.lc
section
variable {p : Prg} {i : Nat} (hc : ∀ (k : Nat) (a b : D) (S : Store), callN p (k + 1) i [a, b] S = gc S (endOf (xss ⟨callN p k, 1000000⟩ drawB [some a, some b, none, none] S)))
include hc
theorem drawB_at {k : Nat} {S : Store} {t c : Nat} {s m : Int} {ns : List Int} (hk : 1 ≤ k) (h : Tape S t c s ns) (h1 : 1 ≤ m) (h2 : m < 1000000000) (hl : ns.length ≤ 1000) :
    ∃ v s' ns', callN p k i [.ref t, .int m] S = .ok (.int v) ((S.set c (cl ns')).set t (tp c s')) ∧ 0 ≤ v ∧ v < m ∧ Tape ((S.set c (cl ns')).set t (tp c s')) t c s' ns' ∧ ns'.length ≤ ns.length := by
  obtain ⟨k, rfl⟩ : ∃ j, k = j + 1 := ⟨k - 1, by omega⟩
  rw [hc]
  have q := drawB_body (G := ⟨callN p k, 1000000⟩) h h1 h2 hl (Nat.le_refl _)
  cases e : endOf (xss ⟨callN p k, 1000000⟩ drawB [some (.ref t), some (.int m), none, none] S) with
  | ok d S' =>
    rw [e] at q
    obtain ⟨v, s', ns', rfl, v0, v1, rfl, hle, hn⟩ := q
    exact ⟨v, s', ns', gc_len (by rw [List.length_set, List.length_set]), v0, v1, h.next hn, hle⟩
  | er e S' => rw [e] at q; exact q.elim
  | no => rw [e] at q; exact q.elim
end
/-! ### what is drawn from a tape -/
theorem W_ex {α : Type} {o : Out α} {Φ : α → Store → Prop} (h : W o Φ NoEx) : ∃ a S', o = .ok a S' ∧ Φ a S' := by
  cases o with
  | ok a S => exact ⟨a, S, rfl, h⟩
  | er e S => exact h.elim
  | no => exact h.elim
def Tp (S : Store) (t c : Nat) : Prop := ∃ s ns, Tape S t c s ns ∧ ns.length ≤ 1000
structure Dn (t c : Nat) (S S' : Store) : Prop where
  tp : Tp S' t c
  ex : Ext t S S'
  le : S.length ≤ S'.length
section
variable {S S' S2 l : Store} {t c r n : Nat} {x : Cell}
theorem Tp.lt (h : Tp S t c) : t < S.length := by
  obtain ⟨s, ns, h, _⟩ := h
  exact h.lt
theorem Tp.app (h : Tp S t c) : Tp (S ++ l) t c := by
  obtain ⟨s, ns, ⟨h1, h2, h3, h4, h5, h6⟩, hl⟩ := h
  exact ⟨s, ns, ⟨by rw [get_app h4]; exact h1, by rw [get_app h5]; exact h2, h3, by rw [List.length_append]; omega, by rw [List.length_append]; omega, h6⟩, hl⟩
theorem Tp.set (h : Tp S t c) (hr : t < r) : Tp (S.set r x) t c := by
  obtain ⟨s, ns, ⟨h1, h2, h3, h4, h5, h6⟩, hl⟩ := h
  exact ⟨s, ns, ⟨by rw [get_set_ne (by omega)]; exact h1, by rw [get_set_ne (by omega)]; exact h2, h3, by rw [List.length_set]; omega, by rw [List.length_set]; omega, h6⟩, hl⟩
theorem Tp.take (h : Tp S t c) (hr : t < n) : Tp (S.take n) t c := by
  obtain ⟨s, ns, ⟨h1, h2, h3, h4, h5, h6⟩, hl⟩ := h
  exact ⟨s, ns, ⟨by rw [List.getElem?_take, if_pos hr]; exact h1, by rw [List.getElem?_take, if_pos (by omega)]; exact h2, h3, by rw [List.length_take]; omega, by rw [List.length_take]; omega, h6⟩, hl⟩
theorem Dn.refl (h : Tp S t c) : Dn t c S S := ⟨h, Ext.refl, Nat.le_refl _⟩
theorem Dn.trans (h : Dn t c S S') (h' : Dn t c S' S2) : Dn t c S S2 := ⟨h'.tp, h.ex.trans h'.ex, Nat.le_trans h.le h'.le⟩
theorem Dn.app (h : Dn t c S S') : Dn t c S (S' ++ l) := ⟨h.tp.app, h.ex.trans Ext.app, by rw [List.length_append]; have := h.le; omega⟩
theorem Dn.take (h : Dn t c S S') (hb : t < S.length) : Dn t c S (S'.take S.length) := ⟨h.tp.take hb, h.ex.take, by rw [List.length_take]; have := h.le; omega⟩
theorem Dn.set (h : Dn t c S S') (hr : S.length ≤ r) (hb : t < S.length) : Dn t c S (S'.set r x) := by
  refine ⟨h.tp.set (by omega), fun q y hq e => ?_, by rw [List.length_set]; exact h.le⟩
  have : q < S.length := (List.getElem?_eq_some_iff.mp e).1
  rw [List.getElem?_set_ne (by omega)]
  exact h.ex q y hq e
theorem Dn.get (h : Dn t c S S') (hr : t < r) (e : S[r]? = some x) : S'[r]? = some x := h.ex _ _ hr e
end
/-- a plain answer, drawn -/
theorem gc_dn {S : Store} {o : Out D} {P : D → Prop} {t c : Nat} (h : W o (fun d S' => D.pure d = true ∧ P d ∧ Dn t c S S') NoEx) (hb : t < S.length) : ∃ d S', gc S o = .ok d S' ∧ P d ∧ Dn t c S S' := by
  obtain ⟨d, S', rfl, h1, h2, h3⟩ := W_ex h
  unfold gc
  dsimp only
  split
  · rw [if_pos (low_of_pure h1)]
    exact ⟨_, _, rfl, h2, h3.take hb⟩
  · exact ⟨_, _, rfl, h2, h3⟩
theorem pures_of {n m : Nat} {S : Store} {b L : Nat} (ih : ∀ e, Pl S b L n e → D.low m e = true → D.pure e = true) : ∀ ds : List D, (∀ e ∈ ds, Pl S b L n e) → lows m ds = true → pures ds = true
  | [], _, _ => rfl
  | d :: ds, h, l => by
    have l : (D.low m d && lows m ds) = true := l
    rw [Bool.and_eq_true] at l
    show (D.pure d && pures ds) = true
    rw [ih d (h d List.mem_cons_self) l.1, pures_of ih ds (fun e he => h e (List.mem_cons_of_mem _ he)) l.2]
    rfl
theorem Pl.low {S : Store} {b L m : Nat} (hm : m ≤ b + 1) : ∀ {n : Nat} {d : D}, Pl S b L n d → D.low m d = true → D.pure d = true
  | 0, _, h, _ => h.elim
  | n + 1, .non, _, _ => rfl
  | n + 1, .bl _, _, _ => rfl
  | n + 1, .int _, _, _ => rfl
  | n + 1, .str _, _, _ => rfl
  | n + 1, .tup ds, h, l => pures_of (fun e => Pl.low hm) ds h.2 l
  | n + 1, .ref r, h, l => by
    obtain ⟨h1, _⟩ := h
    have := of_decide_eq_true (show decide (r < m) = true from l)
    omega
/-- an answer with new lists, drawn -/
theorem gc_fr {S : Store} {o : Out D} {P : D → Prop} {t c L n : Nat} (h : W o (fun d S' => P d ∧ Pl S' (S.length - 1) L n d ∧ Dn t c S S') NoEx) (hr : ∀ r q, P (.ref r) → P (.ref q)) (hb : t < S.length) :
    ∃ d S', gc S o = .ok d S' ∧ P d ∧ Pl S' (S.length - 1) L n d ∧ Dn t c S S' := by
  obtain ⟨d, S', rfl, h1, h2, h3⟩ := W_ex h
  unfold gc
  dsimp only
  split
  · split
    · rename_i hl
      have hp := h2.low (m := S.length) (by omega) hl
      exact ⟨_, _, rfl, h1, h2.pur hp, h3.take hb⟩
    · split
      · rename_i r hl
        split
        · rename_i hn
          split
          · rename_i x hx
            split
            · rename_i hxl
              refine ⟨_, _, rfl, hr _ _ h1, ?_, (h3.take hb).app⟩
              cases n with
              | zero => exact h2.elim
              | succ n =>
                obtain ⟨_, ds, e, hL, hd⟩ := h2
                rw [hx] at e
                cases e
                have hlen : (S'.take S.length).length = S.length := by rw [List.length_take]; have := h3.le; omega
                refine ⟨by omega, ds, ?_, hL, fun e he => (hd e he).pur ?_⟩
                · rw [List.getElem?_append_right (by omega), hlen, Nat.sub_self]
                  rfl
                · have : lows S.length ds = true := hxl
                  have : pures ds = true := pures_of (fun e => Pl.low (by omega)) ds hd this
                  exact pures_mem this he
            · exact ⟨_, _, rfl, h1, h2, h3⟩
          · exact ⟨_, _, rfl, h1, h2, h3⟩
        · exact ⟨_, _, rfl, h1, h2, h3⟩
      · exact ⟨_, _, rfl, h1, h2, h3⟩
  · exact ⟨_, _, rfl, h1, h2, h3⟩
section
variable {Φ : D → Store → Prop} {G : Gen} {tg : Tg} {e : Ex} {env : Env} {S : Store} {ds : List D} {s : Src} {t c : Nat}
/-- a comprehension that draws -/
theorem lcN (P : D → Prop) (hT : Tp S t c) (ha : ∀ (j : Nat) (T : Store), Dn t c S T → s.at j T = .ok ds[j]? T) (hL : ds.length < G.L) (hl : ds.length ≤ 1000000)
    (hs : ∀ (j : Nat) (d : D) (T : Store), ds[j]? = some d → Dn t c S T → S.length < T.length → W (tg.bind d env T) (fun env1 T1 => W (ev G e env1 T1) (fun x T2 => P x ∧ Dn t c T T2) NoEx) NoEx)
    (hΦ : ∀ (xs : List D) (T : Store), xs.length = ds.length → (∀ x ∈ xs, P x) → Dn t c S T → T[S.length]? = some (.lst xs) → Φ (.ref S.length) T) : cLc G tg none e env Φ s S := by
  have hb := hT.lt
  refine lcI (ds := ds) (fun j acc T => Dn t c S T ∧ acc.length = j ∧ ∀ x ∈ acc, P x) (fun j acc T h => ha j T h.1) hL hl ⟨(Dn.refl hT).app, rfl, fun _ h => nomatch h⟩ (fun j d acc T h1 h2 h3 => ?_) (fun acc T h1 h2 => hΦ acc T h1.2.1 h1.2.2 h1.1 h2)
  obtain ⟨hd, ha, hp⟩ := h2
  have hlT : S.length < T.length := (List.getElem?_eq_some_iff.mp h3).1
  refine W_mono (hs j d T h1 hd hlT) (fun env1 T1 h5 => W_mono h5 (fun x T2 h6 => ?_) fun _ _ h => h) fun _ _ h => h
  obtain ⟨hx, hn⟩ := h6
  refine ⟨hn.get hb h3, (hd.trans hn).set (Nat.le_refl _) hb, by rw [List.length_append, ha]; rfl, fun y hy => ?_⟩
  rcases List.mem_append.mp hy with hy | hy
  · exact hp y hy
  · rw [List.mem_singleton.mp hy]
    exact hx
end
section
variable {p : Prg} {i : Nat} (hc : ∀ (k : Nat) (a b : D) (S : Store), callN p (k + 1) i [a, b] S = gc S (endOf (xss ⟨callN p k, 1000000⟩ drawB [some a, some b, none, none] S)))
include hc
theorem drawN {k : Nat} {S : Store} {t c : Nat} {m : Int} (hk : 1 ≤ k) (h : Tp S t c) (h1 : 1 ≤ m) (h2 : m < 1000000000) :
    ∃ v S', callN p k i [.ref t, .int m] S = .ok (.int v) S' ∧ 0 ≤ v ∧ v < m ∧ S'.length = S.length ∧ Dn t c S S' := by
  obtain ⟨s, ns, hT, hl⟩ := h
  obtain ⟨v, s', ns', e, v0, v1, hT', hl'⟩ := drawB_at hc hk hT h1 h2 hl
  refine ⟨v, _, e, v0, v1, by rw [List.length_set, List.length_set], ⟨s', ns', hT', by omega⟩, fun r x hr ex => ?_, by rw [List.length_set, List.length_set]; omega⟩
  have := hT.ct
  rw [get_set_ne (by omega), get_set_ne (by omega)]
  exact ex
abbrev pickB (i : Nat) : List Sx := [.ret (.ix (.var 1) (.call i [.var 0, .blt .len [.var 1]]))]
theorem pickN {j : Nat} (hc' : ∀ (k : Nat) (a b : D) (S : Store), callN p (k + 1) j [a, b] S = gc S (endOf (xss ⟨callN p k, 1000000⟩ (pickB i) [some a, some b] S))) {k : Nat} {S : Store} {t c r : Nat} {ds : List D} (hk : 2 ≤ k) (h : Tp S t c) (hr : S[r]? = some (.lst ds)) (hrt : t < r) (h1 : 1 ≤ ds.length) (h2 : ds.length < 1000000000) :
    ∃ (v : Nat) (d : D) (S' : Store), callN p k j [.ref t, .ref r] S = .ok d S' ∧ ds[v]? = some d ∧ S'.length = S.length ∧ Dn t c S S' := by
  obtain ⟨k, rfl⟩ : ∃ j, k = j + 1 := ⟨k - 1, by omega⟩
  rw [hc']
  obtain ⟨v, S', e, v0, v1, hl, hn⟩ := drawN hc (k := k) (S := S) (m := ds.length) (by omega) h (by omega) (by omega)
  have hr' := hn.get hrt hr
  have hv : ds[v.toNat]? = some ds[v.toNat] := List.getElem?_eq_getElem (by omega)
  have q : W (endOf (xss ⟨callN p k, 1000000⟩ (pickB i) [some (.ref t), some (.ref r)] S)) (fun d T => d = ds[v.toNat] ∧ T = S') NoEx := by
    unfold pickB
    simp (disch := first | assumption | rfl | omega | (simp only [List.length_set, List.length_append, List.length_cons, List.length_nil, List.length_map]; omega) | decide +kernel) only [↓miA, miB, miC, ex_nil, ex_app, ex_app2, ex_app3, ex_app4, ex_app5, ex_app6, in62r, inWr, inWl, lim, List.length_set, List.length_cons, List.length_nil, List.getElem?_cons_zero, List.getElem?_cons_succ, List.set_cons_zero, List.set_cons_succ, Int.reduceToNat, eq_self, List.zip_nil_left, List.zip_nil_right, List.zip_cons_cons, decide_true, decide_eq_true, decide_eq_false, Bool.not_true, Bool.not_false, Bool.and_true, Bool.and_false, Bool.true_and, Bool.false_and, Bool.or_true, Bool.or_false, Bool.true_or, Bool.false_or, Bool.not_not, List.isEmpty_nil, List.isEmpty_cons, true_and, and_true, hr, e, hr', hv]
  obtain ⟨d, T, e2, rfl, rfl⟩ := W_ex q
  exact ⟨v.toNat, _, _, by rw [e2, gc_len hl], hv, hl, hn⟩
end
end Mi

namespace K12
open PySem PySem.Spec PyProof.Rows L2 Mi
def clsI : Stmt → Stmt
  | .ClassDef _ _ _ b .. => b.getD 0 (.Pass ⟨0, 0, 0, 0⟩)
  | s => s
def clsM (j : Nat) : Stmt → Stmt
  | .ClassDef _ _ _ b .. => b.getD j (.Pass ⟨0, 0, 0, 0⟩)
  | s => s
def topS (i : Nat) : Stmt := PySem.Challenge.pw_wordplays_k12_past_formulas.main.body.getD i (.Pass ⟨0, 0, 0, 0⟩)
abbrev c_MOST_DEPTH : D := .int 20
abbrev c_MOST_ATOMS : D := .int 40
abbrev c_POWERS : D := .tup [.int 1, .int 2, .int 4, .int 8, .int 16]
abbrev c_PAST_ONE : D := .tup [.str "not", .str "before", .str "once", .str "sofar"]
abbrev c_PAST_TWO : D := .tup [.str "and", .str "or", .str "since"]
abbrev b_is_integer : List Sx :=
  [.ret (.and (.blt .isi [.var 0, .lit (.ty .int)]) (.and (.not (.blt .isi [.var 0, .lit (.ty .bool)])) (.chn .le .le (.var 1) (.var 0) (.var 2))))]
abbrev f_is_integer : FnD := ⟨none, "is_integer", "is_integer", topS 8, ["value", "low", "high"], ["value", "low", "high"], b_is_integer⟩
abbrev b_is_word : List Sx :=
  [.ret (.and (.blt .isi [.var 1, .lit (.ty .tup)]) (.blt .all [.lc (.seq (.var 1)) (.v 2) [2] none (.call 0 [.var 2, .lit (.int 0), .bin .sub (.ix (.lit c_POWERS) (.var 0)) (.lit (.int 1))])]))]
abbrev f_is_word : FnD := ⟨none, "is_word", "is_word", topS 9, ["n", "value"], ["n", "value", "letter"], b_is_word⟩
abbrev b_is_on : List Sx :=
  [.ret (.cmp .eq (.bin .mod (.bin .fdiv (.var 0) (.ix (.lit c_POWERS) (.var 1))) (.lit (.int 2))) (.lit (.int 1)))]
abbrev f_is_on : FnD := ⟨none, "is_on", "is_on", topS 10, ["letter", "i"], ["letter", "i"], b_is_on⟩
abbrev b_form_of : List Sx :=
  [.ite (.or (.not (.blt .isi [.var 0, .lit (.ty .tup)])) (.or (.cmp .eq (.var 0) (.tup [])) (.not (.blt .isi [.ix (.var 0) (.lit (.int 0)), .lit (.ty .str)])))) [.ret (.tup [.lit (.str ""), .lit (.int 0)])] [], .ret (.tup [.ix (.var 0) (.lit (.int 0)), .blt .len [.var 0]])]
abbrev f_form_of : FnD := ⟨none, "form_of", "form_of", topS 14, ["value"], ["value"], b_form_of⟩
abbrev b_Past___init__ : List Sx :=
  [.asgF (.var 0) "_n" (.var 1), .asgF (.var 0) "many" (.lit (.int 0))]
abbrev f_Past___init__ : FnD := ⟨some "Past", "__init__", "Past.__init__", clsM 0 (topS 16), ["self", "n"], ["self", "n"], b_Past___init__⟩
abbrev b_Past_is_good : List Sx :=
  [.asg (.v 3) (.call 3 [.var 1]), .ite (.cmp .eq (.var 2) (.lit (.int 0))) [.ret (.lit (.bl false))] [], .ite (.cmp .in_ (.var 3) (.tup [.tup [.lit (.str "true"), .lit (.int 1)], .tup [.lit (.str "false"), .lit (.int 1)]])) [.ret (.lit (.bl true))] [], .ite (.cmp .eq (.var 3) (.tup [.lit (.str "now"), .lit (.int 2)])) [.augF (.var 0) "many" .add (.int 1), .ret (.call 0 [.ix (.var 1) (.lit (.int 1)), .lit (.int 0), .bin .sub (.fld (.var 0) "_n") (.lit (.int 1))])] [], .ite (.and (.cmp .eq (.ix (.var 3) (.lit (.int 1))) (.lit (.int 2))) (.cmp .in_ (.ix (.var 3) (.lit (.int 0))) (.lit c_PAST_ONE))) [.ret (.mcl [(0, 5)] "is_good" (.var 0) [.ix (.var 1) (.lit (.int 1)), .bin .sub (.var 2) (.lit (.int 1))])] [], .ite (.or (.cmp .ne (.ix (.var 3) (.lit (.int 1))) (.lit (.int 3))) (.cmp .nin (.ix (.var 3) (.lit (.int 0))) (.lit c_PAST_TWO))) [.ret (.lit (.bl false))] [], .ret (.and (.mcl [(0, 5)] "is_good" (.var 0) [.ix (.var 1) (.lit (.int 1)), .bin .sub (.var 2) (.lit (.int 1))]) (.mcl [(0, 5)] "is_good" (.var 0) [.ix (.var 1) (.lit (.int 2)), .bin .sub (.var 2) (.lit (.int 1))]))]
abbrev f_Past_is_good : FnD := ⟨some "Past", "is_good", "Past.is_good", clsM 1 (topS 16), ["self", "value", "left"], ["self", "value", "left", "form"], b_Past_is_good⟩
abbrev b_is_past_over : List Sx :=
  [.asg (.v 2) (.mk 0 4 [.var 0]), .ret (.and (.mcl [(0, 5)] "is_good" (.var 2) [.var 1, .lit c_MOST_DEPTH]) (.cmp .le (.fld (.var 2) "many") (.lit c_MOST_ATOMS)))]
abbrev f_is_past_over : FnD := ⟨none, "is_past_over", "is_past_over", topS 17, ["n", "value"], ["n", "value", "past"], b_is_past_over⟩
abbrev b_parts_of : List Sx :=
  [.asg (.v 1) (.lst []), .ite (.or (.cmp .in_ (.ix (.var 0) (.lit (.int 0))) (.lit c_PAST_ONE)) (.cmp .in_ (.ix (.var 0) (.lit (.int 0))) (.lit c_PAST_TWO))) [.for_ (.v 2) (.seq (.sl (.var 0) (some (.lit (.int 1))) none)) [.expr (.mth .extend (.var 1) [.lc (.seq (.call 7 [.var 2])) (.v 3) [3] (some (.cmp .nin (.var 3) (.var 1))) (.var 3)])]] [], .ite (.cmp .nin (.var 0) (.var 1)) [.expr (.mth .append (.var 1) [.var 0])] [], .ret (.var 1)]
abbrev f_parts_of : FnD := ⟨none, "parts_of", "parts_of", topS 19, ["f"], ["f", "found", "one", "part"], b_parts_of⟩
abbrev b_Steps___init__ : List Sx :=
  [.asgF (.var 0) "_parts" (.call 7 [.var 1]), .asgF (.var 0) "_places" (.dc (.enu (.fld (.var 0) "_parts")) (.t [2, 3]) [2, 3] none (.var 3) (.var 2))]
abbrev f_Steps___init__ : FnD := ⟨some "Steps", "__init__", "Steps.__init__", clsM 0 (topS 20), ["self", "f"], ["self", "f", "place", "part"], b_Steps___init__⟩
abbrev b_Steps_next : List Sx :=
  [.asg (.v 3) (.lst []), .for_ (.t [4, 5]) (.enu (.fld (.var 0) "_parts")) [.expr (.mth .append (.var 3) [.mcl [(1, 10)] "_truth" (.var 0) [.var 5, .var 4, .var 1, .var 2, .var 3]])], .ret (.blt .tuple [.var 3])]
abbrev f_Steps_next : FnD := ⟨some "Steps", "next", "Steps.next", clsM 1 (topS 20), ["self", "state", "letter"], ["self", "state", "letter", "found", "place", "part"], b_Steps_next⟩
abbrev b_Steps__truth : List Sx :=
  [.asg (.v 6) (.ix (.var 1) (.lit (.int 0))), .ite (.cmp .eq (.var 6) (.lit (.str "now"))) [.ret (.call 2 [.var 4, .ix (.var 1) (.lit (.int 1))])] [], .ite (.cmp .in_ (.var 6) (.tup [.lit (.str "true"), .lit (.str "false")])) [.ret (.cmp .eq (.var 6) (.lit (.str "true")))] [], .asg (.v 7) (.ix (.var 5) (.ix (.fld (.var 0) "_places") (.ix (.var 1) (.lit (.int 1))))), .ite (.cmp .eq (.var 6) (.lit (.str "not"))) [.ret (.not (.var 7))] [], .ite (.cmp .eq (.var 6) (.lit (.str "before"))) [.ret (.and (.cmp .isnt (.var 3) (.lit (.non))) (.ix (.var 3) (.ix (.fld (.var 0) "_places") (.ix (.var 1) (.lit (.int 1))))))] [], .ite (.cmp .eq (.var 6) (.lit (.str "once"))) [.ret (.or (.var 7) (.and (.cmp .isnt (.var 3) (.lit (.non))) (.ix (.var 3) (.var 2))))] [], .ite (.cmp .eq (.var 6) (.lit (.str "sofar"))) [.ret (.and (.var 7) (.or (.cmp .is_ (.var 3) (.lit (.non))) (.ix (.var 3) (.var 2))))] [], .asg (.v 8) (.ix (.var 5) (.ix (.fld (.var 0) "_places") (.ix (.var 1) (.lit (.int 2))))), .ite (.cmp .eq (.var 6) (.lit (.str "and"))) [.ret (.and (.var 7) (.var 8))] [], .ite (.cmp .eq (.var 6) (.lit (.str "or"))) [.ret (.or (.var 7) (.var 8))] [], .ret (.or (.var 8) (.and (.var 7) (.and (.cmp .isnt (.var 3) (.lit (.non))) (.ix (.var 3) (.var 2)))))]
abbrev f_Steps__truth : FnD := ⟨some "Steps", "_truth", "Steps._truth", clsM 2 (topS 20), ["self", "part", "place", "state", "letter", "found"], ["self", "part", "place", "state", "letter", "found", "kind", "one", "other"], b_Steps__truth⟩
abbrev b_check_past_over : List Sx :=
  [.ite (.not (.call 6 [.var 0, .var 1])) [.raise 1 ["kind", "name"] [.lit (.str "past"), .lit (.str "")]] []]
abbrev f_check_past_over : FnD := ⟨none, "check_past_over", "check_past_over", topS 21, ["n", "f"], ["n", "f"], b_check_past_over⟩
abbrev b_past_at : List Sx :=
  [.expr (.call 11 [.var 0, .var 1]), .ite (.not (.call 1 [.var 0, .var 2])) [.raise 2 [] []] [], .asg (.v 3) (.mk 1 8 [.var 1]), .asg (.v 4) (.lit (.non)), .asg (.v 5) (.lst []), .for_ (.v 6) (.seq (.var 2)) [.asg (.v 4) (.mcl [(1, 9)] "next" (.var 3) [.var 4, .var 6]), .expr (.mth .append (.var 5) [.ix (.var 4) (.neg (.lit (.int 1)))])], .ret (.blt .tuple [.var 5])]
abbrev f_past_at : FnD := ⟨none, "past_at", "past_at", topS 22, ["n", "f", "word"], ["n", "f", "word", "steps", "state", "found", "letter"], b_past_at⟩
abbrev b__law_bag : List Sx :=
  [.asg (.v 2) (.lit (.int 0)), .ite (.cmp .lt (.var 1) (.blt .len [.var 0])) [.asg (.v 2) (.blt .int [.ix (.var 0) (.var 1)])] [], .ret (.lst [.lit (.int 0), .bin .add (.lit (.int 977)) (.bin .mul (.lit (.int 48611)) (.var 1)), .lit (.int 0), .var 2])]
abbrev f__law_bag : FnD := ⟨none, "_law_bag", "_law_bag", topS 24, ["script", "k"], ["script", "k", "cell"], b__law_bag⟩
abbrev b__law_draw : List Sx :=
  [.ite (.cmp .lt (.var 1) (.lit (.int 1))) [.ret (.lit (.int 0))] [], .ite (.cmp .eq (.ix (.var 0) (.lit (.int 0))) (.lit (.int 0))) [.asgIx (.var 0) (.lit (.int 2)) (.bin .add (.ix (.var 0) (.lit (.int 2))) (.lit (.int 1))), .asg (.v 3) (.bin .mod (.blt .int [.bin .add (.bin .add (.bin .add (.bin .mul (.ix (.var 0) (.lit (.int 1))) (.lit (.int 48271))) (.bin .mul (.ix (.var 0) (.lit (.int 3))) (.lit (.int 69621)))) (.bin .mul (.ix (.var 0) (.lit (.int 2))) (.lit (.int 16807)))) (.lit (.int 11))]) (.lit (.int 2147483647))), .asgIx (.var 0) (.lit (.int 0)) (.bin .add (.bin .mul (.var 3) (.lit (.int 2147483629))) (.bin .mod (.blt .int [.bin .add (.bin .mul (.var 3) (.var 3)) (.ix (.var 0) (.lit (.int 3)))]) (.lit (.int 2147483629)))), .ite (.and (.cmp .eq (.ix (.var 0) (.lit (.int 2))) (.lit (.int 1))) (.cmp .ge (.ix (.var 0) (.lit (.int 3))) (.bin .pow (.lit (.int 10)) (.lit (.int 18))))) [.asgIx (.var 0) (.lit (.int 0)) (.ix (.var 0) (.lit (.int 3)))] [], .asgIx (.var 0) (.lit (.int 1)) (.var 3)] [], .asg (.v 2) (.ix (.var 0) (.lit (.int 0))), .asgIx (.var 0) (.lit (.int 0)) (.bin .fdiv (.var 2) (.var 1)), .ret (.bin .mod (.blt .int [.var 2]) (.var 1))]
abbrev f__law_draw : FnD := ⟨none, "_law_draw", "_law_draw", topS 25, ["bag", "many"], ["bag", "many", "rest", "seed"], b__law_draw⟩
abbrev b__law_p : List Sx :=
  [.ite (.or (.cmp .lt (.var 2) (.lit (.int 2))) (.cmp .eq (.call 14 [.var 0, .lit (.int 6)]) (.lit (.int 0)))) [.ret (.ix (.lst [.tup [.lit (.str "now"), .call 14 [.var 0, .var 1]], .tup [.lit (.str "now"), .call 14 [.var 0, .var 1]], .tup [.lit (.str "true")], .tup [.lit (.str "false")], .tup [.lit (.str "now"), .lit (.int 0)]]) (.call 14 [.var 0, .lit (.int 5)]))] [], .asg (.v 3) (.call 14 [.var 0, .lit (.int 8)]), .asg (.v 4) (.call 15 [.var 0, .var 1, .bin .sub (.var 2) (.lit (.int 1))]), .ite (.cmp .lt (.var 3) (.lit (.int 4))) [.ret (.tup [.ix (.lst [.lit (.str "not"), .lit (.str "before"), .lit (.str "once"), .lit (.str "sofar")]) (.var 3), .var 4])] [], .ret (.tup [.ix (.lst [.lit (.str "and"), .lit (.str "or"), .lit (.str "since"), .lit (.str "since")]) (.bin .sub (.var 3) (.lit (.int 4))), .var 4, .call 15 [.var 0, .var 1, .bin .add (.lit (.int 1)) (.call 14 [.var 0, .bin .sub (.var 2) (.lit (.int 1))])]])]
abbrev f__law_p : FnD := ⟨none, "_law_p", "_law_p", topS 27, ["bag", "n", "depth"], ["bag", "n", "depth", "pick", "f"], b__law_p⟩
abbrev b__law_p_at : List Sx :=
  [.asg (.v 3) (.ix (.var 0) (.lit (.int 0))), .ite (.cmp .eq (.var 3) (.lit (.str "now"))) [.ret (.cmp .eq (.bin .mod (.blt .int [.bin .fdiv (.ix (.var 1) (.var 2)) (.ix (.lst [.lit (.int 1), .lit (.int 2), .lit (.int 4), .lit (.int 8)]) (.ix (.var 0) (.lit (.int 1))))]) (.lit (.int 2))) (.lit (.int 1)))] [], .ite (.cmp .in_ (.var 3) (.lst [.lit (.str "true"), .lit (.str "false")])) [.ret (.cmp .eq (.var 3) (.lit (.str "true")))] [], .ite (.cmp .eq (.var 3) (.lit (.str "not"))) [.ret (.not (.call 16 [.ix (.var 0) (.lit (.int 1)), .var 1, .var 2]))] [], .ite (.cmp .eq (.var 3) (.lit (.str "and"))) [.ret (.and (.call 16 [.ix (.var 0) (.lit (.int 1)), .var 1, .var 2]) (.call 16 [.ix (.var 0) (.lit (.int 2)), .var 1, .var 2]))] [], .ite (.cmp .eq (.var 3) (.lit (.str "or"))) [.ret (.or (.call 16 [.ix (.var 0) (.lit (.int 1)), .var 1, .var 2]) (.call 16 [.ix (.var 0) (.lit (.int 2)), .var 1, .var 2]))] [], .ite (.cmp .eq (.var 3) (.lit (.str "before"))) [.ret (.and (.cmp .gt (.var 2) (.lit (.int 0))) (.call 16 [.ix (.var 0) (.lit (.int 1)), .var 1, .bin .sub (.var 2) (.lit (.int 1))]))] [], .ite (.cmp .eq (.var 3) (.lit (.str "once"))) [.ret (.cmp .in_ (.lit (.bl true)) (.lc (.rng [.bin .add (.var 2) (.lit (.int 1))]) (.v 4) [4] none (.call 16 [.ix (.var 0) (.lit (.int 1)), .var 1, .var 4])))] [], .ite (.cmp .eq (.var 3) (.lit (.str "sofar"))) [.ret (.cmp .nin (.lit (.bl false)) (.lc (.rng [.bin .add (.var 2) (.lit (.int 1))]) (.v 4) [4] none (.call 16 [.ix (.var 0) (.lit (.int 1)), .var 1, .var 4])))] [], .for_ (.v 4) (.rng [.var 2, .neg (.lit (.int 1)), .neg (.lit (.int 1))]) [.ite (.call 16 [.ix (.var 0) (.lit (.int 2)), .var 1, .var 4]) [.ret (.lit (.bl true))] [], .ite (.not (.call 16 [.ix (.var 0) (.lit (.int 1)), .var 1, .var 4])) [.ret (.lit (.bl false))] []], .ret (.lit (.bl false))]
abbrev f__law_p_at : FnD := ⟨none, "_law_p_at", "_law_p_at", topS 28, ["f", "word", "p"], ["f", "word", "p", "kind", "q"], b__law_p_at⟩
abbrev b__law_word : List Sx :=
  [.ret (.blt .tuple [.lc (.rng [.call 14 [.var 0, .bin .add (.var 2) (.lit (.int 1))]]) (.v 3) [3] none (.call 14 [.var 0, .ix (.lst [.lit (.int 1), .lit (.int 2), .lit (.int 4), .lit (.int 8), .lit (.int 16)]) (.var 1)])])]
abbrev f__law_word : FnD := ⟨none, "_law_word", "_law_word", topS 29, ["bag", "n", "most"], ["bag", "n", "most", "k"], b__law_word⟩
abbrev b__law_told : List Sx :=
  [.try_ [.ret (.call 12 [.var 0, .var 1, .var 2])] [⟨1, [false, true, false], some 3, .fld "kind"⟩, ⟨2, [false, false, true], none, .ret (.str "word")⟩]]
abbrev f__law_told : FnD := ⟨none, "_law_told", "_law_told", topS 30, ["n", "f", "word"], ["n", "f", "word", "e"], b__law_told⟩
abbrev b_law : List Sx :=
  [.for_ (.v 1) (.rng [.blt .max [.lit (.int 1), .blt .min [.lit (.int 8), .blt .len [.var 0]]]]) [.asg (.v 2) (.call 13 [.var 0, .var 1]), .asg (.v 3) (.bin .add (.lit (.int 1)) (.call 14 [.var 2, .lit (.int 4)])), .asg (.v 4) (.call 15 [.var 2, .var 3, .bin .add (.lit (.int 1)) (.call 14 [.var 2, .lit (.int 6)])]), .for_ (.v 5) (.rng [.lit (.int 4)]) [.asg (.v 8) (.call 17 [.var 2, .var 3, .lit (.int 6)]), .asg (.v 9) (.blt .tuple [.lc (.rng [.blt .len [.var 8]]) (.v 10) [10] none (.call 16 [.var 4, .var 8, .var 10])]), .ite (.cmp .ne (.blt .repr [.call 12 [.var 3, .var 4, .var 8]]) (.blt .repr [.var 9])) [.ret (.lit (.bl false))] []], .for_ (.v 6) (.seq (.lst [.tup [.lit (.int 16)], .lst [.lit (.int 0)], .lit (.non), .tup [.lit (.bl true)], .tup [.lit (.str "x")]])) [.ite (.cmp .ne (.call 18 [.var 3, .var 4, .var 6]) (.lit (.str "word"))) [.ret (.lit (.bl false))] []], .asg (.v 7) (.var 4), .for_ (.v 5) (.rng [.lit (.int 21)]) [.asg (.v 7) (.tup [.lit (.str "once"), .var 7])], .for_ (.v 6) (.seq (.lst [.tup [.lit (.str "now"), .var 3], .tup [.lit (.str "track"), .lit (.int 0), .lit (.int 0)], .lit (.non), .var 7, .tup [.lit (.str "since"), .var 4], .tup [.lit (.str "now"), .lit (.bl true)]])) [.ite (.cmp .ne (.call 18 [.var 3, .var 6, .lit (.non)]) (.lit (.str "past"))) [.ret (.lit (.bl false))] []]], .ret (.lit (.bl true))]
abbrev f_law : FnD := ⟨none, "law", "law", topS 31, ["script"], ["script", "k", "bag", "n", "f", "turn", "odd", "deep", "word", "due", "p"], b_law⟩
abbrev x_PlayError : XcD := ⟨"PlayError", [], "PlayError.__init__", clsI (topS 1)⟩
abbrev x_BadFormula : XcD := ⟨"BadFormula", ["kind", "name"], "BadFormula.__init__", clsI (topS 2)⟩
abbrev x_BadWord : XcD := ⟨"BadWord", [], "BadWord.__init__", clsI (topS 3)⟩
def prg : Prg := ⟨[f_is_integer, f_is_word, f_is_on, f_form_of, f_Past___init__, f_Past_is_good, f_is_past_over, f_parts_of, f_Steps___init__, f_Steps_next, f_Steps__truth, f_check_past_over, f_past_at, f__law_bag, f__law_draw, f__law_p, f__law_p_at, f__law_word, f__law_told, f_law], [("is_integer", .fn 0 3), ("is_word", .fn 1 2), ("is_on", .fn 2 2), ("form_of", .fn 3 1), ("is_past_over", .fn 6 2), ("parts_of", .fn 7 1), ("check_past_over", .fn 11 2), ("past_at", .fn 12 3), ("_law_bag", .fn 13 2), ("_law_draw", .fn 14 2), ("_law_p", .fn 15 3), ("_law_p_at", .fn 16 3), ("_law_word", .fn 17 3), ("_law_told", .fn 18 3), ("law", .fn 19 1), ("MOST_DEPTH", .cst c_MOST_DEPTH), ("MOST_ATOMS", .cst c_MOST_ATOMS), ("POWERS", .cst c_POWERS), ("PAST_ONE", .cst c_PAST_ONE), ("PAST_TWO", .cst c_PAST_TWO), ("PlayError", .xc 0 []), ("BadFormula", .xc 1 ["kind", "name"]), ("BadWord", .xc 2 []), ("Past", .cl 0 4 1), ("Steps", .cl 1 8 1)], ["all", "bool", "enumerate", "int", "isinstance", "len", "max", "min", "range", "repr", "str", "tuple"], 1000000, [x_PlayError, x_BadFormula, x_BadWord], [[true, true, true], [false, true, false], [false, false, true]], ["Past", "Steps"], ["_n", "many", "_parts", "_places"], [("is_good", (0, 5, 2)), ("next", (1, 9, 2)), ("_truth", (1, 10, 5))]⟩
theorem ok_is_integer : DefOk prg f_is_integer := ⟨⟨60, by kernel_rfl⟩, ⟨rfl, rfl, rfl, by decide +kernel, rfl, by decide +kernel, by decide +kernel⟩, fun _ _ _ _ _ _ us hl => match us, hl with | [_, _, _], _ => rfl⟩
theorem ok_is_word : DefOk prg f_is_word := ⟨⟨60, by kernel_rfl⟩, ⟨rfl, rfl, rfl, by decide +kernel, rfl, by decide +kernel, by decide +kernel⟩, fun _ _ _ _ _ _ us hl => match us, hl with | [_, _], _ => rfl⟩
theorem ok_is_on : DefOk prg f_is_on := ⟨⟨60, by kernel_rfl⟩, ⟨rfl, rfl, rfl, by decide +kernel, rfl, by decide +kernel, by decide +kernel⟩, fun _ _ _ _ _ _ us hl => match us, hl with | [_, _], _ => rfl⟩
theorem ok_form_of : DefOk prg f_form_of := ⟨⟨60, by kernel_rfl⟩, ⟨rfl, rfl, rfl, by decide +kernel, rfl, by decide +kernel, by decide +kernel⟩, fun _ _ _ _ _ _ us hl => match us, hl with | [_], _ => rfl⟩
theorem ok_Past___init__ : DefOk prg f_Past___init__ := ⟨⟨60, by kernel_rfl⟩, ⟨rfl, rfl, rfl, by decide +kernel, rfl, by decide +kernel, by decide +kernel⟩, fun _ _ _ _ _ _ us hl => match us, hl with | [_, _], _ => rfl⟩
theorem ok_Past_is_good : DefOk prg f_Past_is_good := ⟨⟨60, by kernel_rfl⟩, ⟨rfl, rfl, rfl, by decide +kernel, rfl, by decide +kernel, by decide +kernel⟩, fun _ _ _ _ _ _ us hl => match us, hl with | [_, _, _], _ => rfl⟩
theorem ok_is_past_over : DefOk prg f_is_past_over := ⟨⟨60, by kernel_rfl⟩, ⟨rfl, rfl, rfl, by decide +kernel, rfl, by decide +kernel, by decide +kernel⟩, fun _ _ _ _ _ _ us hl => match us, hl with | [_, _], _ => rfl⟩
theorem ok_parts_of : DefOk prg f_parts_of := ⟨⟨60, by kernel_rfl⟩, ⟨rfl, rfl, rfl, by decide +kernel, rfl, by decide +kernel, by decide +kernel⟩, fun _ _ _ _ _ _ us hl => match us, hl with | [_], _ => rfl⟩
theorem ok_Steps___init__ : DefOk prg f_Steps___init__ := ⟨⟨60, by kernel_rfl⟩, ⟨rfl, rfl, rfl, by decide +kernel, rfl, by decide +kernel, by decide +kernel⟩, fun _ _ _ _ _ _ us hl => match us, hl with | [_, _], _ => rfl⟩
theorem ok_Steps_next : DefOk prg f_Steps_next := ⟨⟨60, by kernel_rfl⟩, ⟨rfl, rfl, rfl, by decide +kernel, rfl, by decide +kernel, by decide +kernel⟩, fun _ _ _ _ _ _ us hl => match us, hl with | [_, _, _], _ => rfl⟩
theorem ok_Steps__truth : DefOk prg f_Steps__truth := ⟨⟨60, by kernel_rfl⟩, ⟨rfl, rfl, rfl, by decide +kernel, rfl, by decide +kernel, by decide +kernel⟩, fun _ _ _ _ _ _ us hl => match us, hl with | [_, _, _, _, _, _], _ => rfl⟩
theorem ok_check_past_over : DefOk prg f_check_past_over := ⟨⟨60, by kernel_rfl⟩, ⟨rfl, rfl, rfl, by decide +kernel, rfl, by decide +kernel, by decide +kernel⟩, fun _ _ _ _ _ _ us hl => match us, hl with | [_, _], _ => rfl⟩
theorem ok_past_at : DefOk prg f_past_at := ⟨⟨60, by kernel_rfl⟩, ⟨rfl, rfl, rfl, by decide +kernel, rfl, by decide +kernel, by decide +kernel⟩, fun _ _ _ _ _ _ us hl => match us, hl with | [_, _, _], _ => rfl⟩
theorem ok__law_bag : DefOk prg f__law_bag := ⟨⟨60, by kernel_rfl⟩, ⟨rfl, rfl, rfl, by decide +kernel, rfl, by decide +kernel, by decide +kernel⟩, fun _ _ _ _ _ _ us hl => match us, hl with | [_, _], _ => rfl⟩
theorem ok__law_draw : DefOk prg f__law_draw := ⟨⟨60, by kernel_rfl⟩, ⟨rfl, rfl, rfl, by decide +kernel, rfl, by decide +kernel, by decide +kernel⟩, fun _ _ _ _ _ _ us hl => match us, hl with | [_, _], _ => rfl⟩
theorem ok__law_p : DefOk prg f__law_p := ⟨⟨60, by kernel_rfl⟩, ⟨rfl, rfl, rfl, by decide +kernel, rfl, by decide +kernel, by decide +kernel⟩, fun _ _ _ _ _ _ us hl => match us, hl with | [_, _, _], _ => rfl⟩
theorem ok__law_p_at : DefOk prg f__law_p_at := ⟨⟨60, by kernel_rfl⟩, ⟨rfl, rfl, rfl, by decide +kernel, rfl, by decide +kernel, by decide +kernel⟩, fun _ _ _ _ _ _ us hl => match us, hl with | [_, _, _], _ => rfl⟩
theorem ok__law_word : DefOk prg f__law_word := ⟨⟨60, by kernel_rfl⟩, ⟨rfl, rfl, rfl, by decide +kernel, rfl, by decide +kernel, by decide +kernel⟩, fun _ _ _ _ _ _ us hl => match us, hl with | [_, _, _], _ => rfl⟩
theorem ok__law_told : DefOk prg f__law_told := ⟨⟨60, by kernel_rfl⟩, ⟨rfl, rfl, rfl, by decide +kernel, rfl, by decide +kernel, by decide +kernel⟩, fun _ _ _ _ _ _ us hl => match us, hl with | [_, _, _], _ => rfl⟩
theorem ok_law : DefOk prg f_law := ⟨⟨60, by kernel_rfl⟩, ⟨rfl, rfl, rfl, by decide +kernel, rfl, by decide +kernel, by decide +kernel⟩, fun _ _ _ _ _ _ us hl => match us, hl with | [_], _ => rfl⟩
theorem call_is_integer (k : Nat) (x0 x1 x2 : D) (S : Store) : callN prg (k + 1) 0 [x0, x1, x2] S = gc S (endOf (xss ⟨callN prg k, 1000000⟩ b_is_integer [some x0, some x1, some x2] S)) := Eq.trans rfl rfl
theorem call_is_word (k : Nat) (x0 x1 : D) (S : Store) : callN prg (k + 1) 1 [x0, x1] S = gc S (endOf (xss ⟨callN prg k, 1000000⟩ b_is_word [some x0, some x1, none] S)) := Eq.trans rfl rfl
theorem call_is_on (k : Nat) (x0 x1 : D) (S : Store) : callN prg (k + 1) 2 [x0, x1] S = gc S (endOf (xss ⟨callN prg k, 1000000⟩ b_is_on [some x0, some x1] S)) := Eq.trans rfl rfl
theorem call_form_of (k : Nat) (x0 : D) (S : Store) : callN prg (k + 1) 3 [x0] S = gc S (endOf (xss ⟨callN prg k, 1000000⟩ b_form_of [some x0] S)) := Eq.trans rfl rfl
theorem call_Past___init__ (k : Nat) (x0 x1 : D) (S : Store) : callN prg (k + 1) 4 [x0, x1] S = gc S (endOf (xss ⟨callN prg k, 1000000⟩ b_Past___init__ [some x0, some x1] S)) := Eq.trans rfl rfl
theorem call_Past_is_good (k : Nat) (x0 x1 x2 : D) (S : Store) : callN prg (k + 1) 5 [x0, x1, x2] S = gc S (endOf (xss ⟨callN prg k, 1000000⟩ b_Past_is_good [some x0, some x1, some x2, none] S)) := Eq.trans rfl rfl
theorem call_is_past_over (k : Nat) (x0 x1 : D) (S : Store) : callN prg (k + 1) 6 [x0, x1] S = gc S (endOf (xss ⟨callN prg k, 1000000⟩ b_is_past_over [some x0, some x1, none] S)) := Eq.trans rfl rfl
theorem call_parts_of (k : Nat) (x0 : D) (S : Store) : callN prg (k + 1) 7 [x0] S = gc S (endOf (xss ⟨callN prg k, 1000000⟩ b_parts_of [some x0, none, none, none] S)) := Eq.trans rfl rfl
theorem call_Steps___init__ (k : Nat) (x0 x1 : D) (S : Store) : callN prg (k + 1) 8 [x0, x1] S = gc S (endOf (xss ⟨callN prg k, 1000000⟩ b_Steps___init__ [some x0, some x1, none, none] S)) := Eq.trans rfl rfl
theorem call_Steps_next (k : Nat) (x0 x1 x2 : D) (S : Store) : callN prg (k + 1) 9 [x0, x1, x2] S = gc S (endOf (xss ⟨callN prg k, 1000000⟩ b_Steps_next [some x0, some x1, some x2, none, none, none] S)) := Eq.trans rfl rfl
theorem call_Steps__truth (k : Nat) (x0 x1 x2 x3 x4 x5 : D) (S : Store) : callN prg (k + 1) 10 [x0, x1, x2, x3, x4, x5] S = gc S (endOf (xss ⟨callN prg k, 1000000⟩ b_Steps__truth [some x0, some x1, some x2, some x3, some x4, some x5, none, none, none] S)) := Eq.trans rfl rfl
theorem call_check_past_over (k : Nat) (x0 x1 : D) (S : Store) : callN prg (k + 1) 11 [x0, x1] S = gc S (endOf (xss ⟨callN prg k, 1000000⟩ b_check_past_over [some x0, some x1] S)) := Eq.trans rfl rfl
theorem call_past_at (k : Nat) (x0 x1 x2 : D) (S : Store) : callN prg (k + 1) 12 [x0, x1, x2] S = gc S (endOf (xss ⟨callN prg k, 1000000⟩ b_past_at [some x0, some x1, some x2, none, none, none, none] S)) := Eq.trans rfl rfl
theorem call__law_bag (k : Nat) (x0 x1 : D) (S : Store) : callN prg (k + 1) 13 [x0, x1] S = gc S (endOf (xss ⟨callN prg k, 1000000⟩ b__law_bag [some x0, some x1, none] S)) := Eq.trans rfl rfl
theorem call__law_draw (k : Nat) (x0 x1 : D) (S : Store) : callN prg (k + 1) 14 [x0, x1] S = gc S (endOf (xss ⟨callN prg k, 1000000⟩ b__law_draw [some x0, some x1, none, none] S)) := Eq.trans rfl rfl
theorem call__law_p (k : Nat) (x0 x1 x2 : D) (S : Store) : callN prg (k + 1) 15 [x0, x1, x2] S = gc S (endOf (xss ⟨callN prg k, 1000000⟩ b__law_p [some x0, some x1, some x2, none, none] S)) := Eq.trans rfl rfl
theorem call__law_p_at (k : Nat) (x0 x1 x2 : D) (S : Store) : callN prg (k + 1) 16 [x0, x1, x2] S = gc S (endOf (xss ⟨callN prg k, 1000000⟩ b__law_p_at [some x0, some x1, some x2, none, none] S)) := Eq.trans rfl rfl
theorem call__law_word (k : Nat) (x0 x1 x2 : D) (S : Store) : callN prg (k + 1) 17 [x0, x1, x2] S = gc S (endOf (xss ⟨callN prg k, 1000000⟩ b__law_word [some x0, some x1, some x2, none] S)) := Eq.trans rfl rfl
theorem call__law_told (k : Nat) (x0 x1 x2 : D) (S : Store) : callN prg (k + 1) 18 [x0, x1, x2] S = gc S (endOf (xss ⟨callN prg k, 1000000⟩ b__law_told [some x0, some x1, some x2, none] S)) := Eq.trans rfl rfl
theorem call_law (k : Nat) (x0 : D) (S : Store) : callN prg (k + 1) 19 [x0] S = gc S (endOf (xss ⟨callN prg k, 1000000⟩ b_law [some x0, none, none, none, none, none, none, none, none, none, none] S)) := Eq.trans rfl rfl
theorem hD : ∀ (i : Nat) (f : FnD), prg.fs[i]? = some f → DefOk prg f
  | 0, _, rfl => ok_is_integer
  | 1, _, rfl => ok_is_word
  | 2, _, rfl => ok_is_on
  | 3, _, rfl => ok_form_of
  | 4, _, rfl => ok_Past___init__
  | 5, _, rfl => ok_Past_is_good
  | 6, _, rfl => ok_is_past_over
  | 7, _, rfl => ok_parts_of
  | 8, _, rfl => ok_Steps___init__
  | 9, _, rfl => ok_Steps_next
  | 10, _, rfl => ok_Steps__truth
  | 11, _, rfl => ok_check_past_over
  | 12, _, rfl => ok_past_at
  | 13, _, rfl => ok__law_bag
  | 14, _, rfl => ok__law_draw
  | 15, _, rfl => ok__law_p
  | 16, _, rfl => ok__law_p_at
  | 17, _, rfl => ok__law_word
  | 18, _, rfl => ok__law_told
  | 19, _, rfl => ok_law
  | _ + 20, _, h => nomatch (show (none : Option FnD) = some _ from h)
theorem xok_PlayError : XcOk x_PlayError := .none _ _ _
theorem xok_BadFormula : XcOk x_BadFormula := .two ⟨rfl, rfl, rfl, by decide +kernel, rfl, by decide +kernel, by decide +kernel⟩ rfl rfl rfl rfl (by decide +kernel) (by decide +kernel) (by decide +kernel) (by decide +kernel) (by decide +kernel) fun _ _ _ _ _ _ us hl => match us, hl with | [_, _, _], _ => rfl
theorem xok_BadWord : XcOk x_BadWord := .none _ _ _
theorem hX : ∀ (i : Nat) (c : XcD), prg.xs[i]? = some c → XcOk c
  | 0, _, rfl => xok_PlayError
  | 1, _, rfl => xok_BadFormula
  | 2, _, rfl => xok_BadWord
  | _ + 3, _, h => nomatch (show (none : Option XcD) = some _ from h)
end K12

/-! Formulas about the past: trees, meaning, parts. -/
namespace Pf
open PySem PySem.Spec Mi
inductive F where
  | now (i : Int) | tru | fls | nt (f : F) | bf (f : F) | on (f : F) | sf (f : F) | an (f g : F) | or (f g : F) | si (f g : F)
  deriving DecidableEq
def enc : F → D
  | .now i => .tup [.str "now", .int i]
  | .tru => .tup [.str "true"]
  | .fls => .tup [.str "false"]
  | .nt f => .tup [.str "not", enc f]
  | .bf f => .tup [.str "before", enc f]
  | .on f => .tup [.str "once", enc f]
  | .sf f => .tup [.str "sofar", enc f]
  | .an f g => .tup [.str "and", enc f, enc g]
  | .or f g => .tup [.str "or", enc f, enc g]
  | .si f g => .tup [.str "since", enc f, enc g]
def fdep : F → Nat
  | .now _ => 2
  | .tru => 2
  | .fls => 2
  | .nt f => fdep f + 1
  | .bf f => fdep f + 1
  | .on f => fdep f + 1
  | .sf f => fdep f + 1
  | .an f g => max (fdep f) (fdep g) + 1
  | .or f g => max (fdep f) (fdep g) + 1
  | .si f g => max (fdep f) (fdep g) + 1
theorem enc_tr : ∀ {n : Nat} {f : F}, fdep f ≤ n → Tr n (enc f)
  | 0, f, h => by cases f <;> simp [fdep] at h
  | n + 1, f, h => by
    have one : ∀ {x : Str} {f : F}, PyData.strOk x = true → fdep f ≤ n → Tr (n + 1) (.tup [.str x, enc f]) := fun {x f} hx hf e he => by
      simp only [List.mem_cons, List.not_mem_nil, or_false] at he
      have := enc_tr hf
      cases n with
      | zero => exact this.elim
      | succ n => rcases he with rfl | rfl; exact hx; exact this
    have two : ∀ {x : Str} {f g : F}, PyData.strOk x = true → fdep f ≤ n → fdep g ≤ n → Tr (n + 1) (.tup [.str x, enc f, enc g]) := fun {x f g} hx hf hg e he => by
      simp only [List.mem_cons, List.not_mem_nil, or_false] at he
      have a := enc_tr hf
      have b := enc_tr hg
      cases n with
      | zero => exact a.elim
      | succ n => rcases he with rfl | rfl | rfl; exact hx; exact a; exact b
    cases f with
    | now i =>
      intro e he
      simp only [List.mem_cons, List.not_mem_nil, or_false] at he
      simp only [fdep] at h
      cases n with
      | zero => omega
      | succ n => rcases he with rfl | rfl; show PyData.strOk _ = true; decide +kernel; trivial
    | tru =>
      intro e he
      simp only [List.mem_cons, List.not_mem_nil, or_false] at he
      simp only [fdep] at h
      cases n with
      | zero => omega
      | succ n => subst he; show PyData.strOk _ = true; decide +kernel
    | fls =>
      intro e he
      simp only [List.mem_cons, List.not_mem_nil, or_false] at he
      simp only [fdep] at h
      cases n with
      | zero => omega
      | succ n => subst he; show PyData.strOk _ = true; decide +kernel
    | nt f => exact one (by decide +kernel) (by simp only [fdep] at h; omega)
    | bf f => exact one (by decide +kernel) (by simp only [fdep] at h; omega)
    | on f => exact one (by decide +kernel) (by simp only [fdep] at h; omega)
    | sf f => exact one (by decide +kernel) (by simp only [fdep] at h; omega)
    | an f g => exact two (by decide +kernel) (by simp only [fdep] at h; omega) (by simp only [fdep] at h; omega)
    | or f g => exact two (by decide +kernel) (by simp only [fdep] at h; omega) (by simp only [fdep] at h; omega)
    | si f g => exact two (by decide +kernel) (by simp only [fdep] at h; omega) (by simp only [fdep] at h; omega)
theorem enc_inj : ∀ {f g : F}, enc f = enc g → f = g := by
  intro f
  induction f with
  | now i => intro g h; cases g <;> simp [enc] at h ⊢ <;> first | exact h | exact absurd h.1 (by decide +kernel) | exact absurd h (by decide +kernel)
  | tru => intro g h; cases g <;> simp [enc] at h ⊢ <;> first | exact absurd h.1 (by decide +kernel) | exact absurd h (by decide +kernel)
  | fls => intro g h; cases g <;> simp [enc] at h ⊢ <;> first | exact absurd h.1 (by decide +kernel) | exact absurd h (by decide +kernel)
  | nt f ih => intro g h; cases g <;> simp [enc] at h ⊢ <;> first | exact ih h | exact absurd h.1 (by decide +kernel)
  | bf f ih => intro g h; cases g <;> simp [enc] at h ⊢ <;> first | exact ih h | exact absurd h.1 (by decide +kernel)
  | on f ih => intro g h; cases g <;> simp [enc] at h ⊢ <;> first | exact ih h | exact absurd h.1 (by decide +kernel)
  | sf f ih => intro g h; cases g <;> simp [enc] at h ⊢ <;> first | exact ih h | exact absurd h.1 (by decide +kernel)
  | an f f' ih ih' => intro g h; cases g <;> simp [enc] at h ⊢ <;> first | exact ⟨ih h.1, ih' h.2⟩ | exact absurd h.1 (by decide +kernel)
  | or f f' ih ih' => intro g h; cases g <;> simp [enc] at h ⊢ <;> first | exact ⟨ih h.1, ih' h.2⟩ | exact absurd h.1 (by decide +kernel)
  | si f f' ih ih' => intro g h; cases g <;> simp [enc] at h ⊢ <;> first | exact ⟨ih h.1, ih' h.2⟩ | exact absurd h.1 (by decide +kernel)
theorem same_enc {f g : F} : D.same (enc f) (enc g) = decide (f = g) := by
  by_cases h : f = g
  · rw [h, same_refl, decide_eq_true rfl]
  · rw [decide_eq_false h, Bool.eq_false_iff]
    exact fun e => h (enc_inj (same_eq e))
theorem enc_pure : ∀ f : F, D.pure (enc f) = true
  | .now _ => rfl
  | .tru => rfl
  | .fls => rfl
  | .nt f => by show (true && (D.pure (enc f) && true)) = true; rw [enc_pure f]; rfl
  | .bf f => by show (true && (D.pure (enc f) && true)) = true; rw [enc_pure f]; rfl
  | .on f => by show (true && (D.pure (enc f) && true)) = true; rw [enc_pure f]; rfl
  | .sf f => by show (true && (D.pure (enc f) && true)) = true; rw [enc_pure f]; rfl
  | .an f g => by show (true && (D.pure (enc f) && (D.pure (enc g) && true))) = true; rw [enc_pure f, enc_pure g]; rfl
  | .or f g => by show (true && (D.pure (enc f) && (D.pure (enc g) && true))) = true; rw [enc_pure f, enc_pure g]; rfl
  | .si f g => by show (true && (D.pure (enc f) && (D.pure (enc g) && true))) = true; rw [enc_pure f, enc_pure g]; rfl
theorem eqE {S : Store} {f g : F} (hf : fdep f ≤ 50) (hg : fdep g ≤ 50) : eqM (enc f) (enc g) S = .ok (decide (f = g)) S := by rw [eqM_T (enc_tr hf) (enc_tr hg) (by omega) (by omega), same_enc]
theorem eq_t {S : Store} {f : F} (hf : fdep f ≤ 50) : eqM (enc f) (.tup [.str "true"]) S = .ok (decide (f = .tru)) S := eqE (g := .tru) hf (by decide)
theorem eq_f {S : Store} {f : F} (hf : fdep f ≤ 50) : eqM (enc f) (.tup [.str "false"]) S = .ok (decide (f = .fls)) S := eqE (g := .fls) hf (by decide)
theorem in2 {S : Store} {f g h : F} (hf : fdep f ≤ 50) (hg : fdep g ≤ 50) (hh : fdep h ≤ 50) : inM (enc f) (.tup [enc g, enc h]) S = .ok (decide (g = f ∨ h = f)) S := by
  rw [inM_tup (n := 50) (m := 50) (enc_tr hf) (fun e he => ?_) (by omega) (by omega)]
  · simp only [List.any_cons, List.any_nil, same_enc, Bool.or_false]
    congr 1
    by_cases h1 : g = f <;> by_cases h2 : h = f <;> simp [h1, h2]
  · simp only [List.mem_cons, List.not_mem_nil, or_false] at he
    rcases he with rfl | rfl
    · exact enc_tr hg
    · exact enc_tr hh
theorem fdep_pos : ∀ f : F, 2 ≤ fdep f
  | .now _ => by simp [fdep]
  | .tru => by simp [fdep]
  | .fls => by simp [fdep]
  | .nt f => by have := fdep_pos f; simp only [fdep]; omega
  | .bf f => by have := fdep_pos f; simp only [fdep]; omega
  | .on f => by have := fdep_pos f; simp only [fdep]; omega
  | .sf f => by have := fdep_pos f; simp only [fdep]; omega
  | .an f g => by have := fdep_pos f; simp only [fdep]; omega
  | .or f g => by have := fdep_pos f; simp only [fdep]; omega
  | .si f g => by have := fdep_pos f; simp only [fdep]; omega
theorem inS {S : Store} {x : Str} {ys : List Str} (hx : PyData.strOk x = true) (hy : ∀ y ∈ ys, PyData.strOk y = true) : inM (.str x) (.tup (ys.map D.str)) S = .ok (ys.any fun y => decide (y = x)) S := by
  rw [inM_tup (n := 1) (m := 1) (show Tr 1 (.str x) from hx) (fun e he => ?_) (by omega) (by omega), List.any_map]
  · rfl
  · obtain ⟨y, h, rfl⟩ := List.mem_map.mp he
    exact hy y h
theorem inSl {S : Store} {r : Nat} {x : Str} {ys : List Str} {b : Bool} (hr : S[r]? = some (.lst (ys.map D.str))) (hx : PyData.strOk x = true) (hy : ∀ y ∈ ys, PyData.strOk y = true) (hb : (ys.any fun y => decide (y = x)) = b) : inM (.str x) (.ref r) S = .ok b S := by
  rw [inM_lst hr (n := 1) (m := 1) (show Tr 1 (.str x) from hx) (fun e he => ?_) (by omega) (by omega), List.any_map, ← hb]
  · rfl
  · obtain ⟨y, h, rfl⟩ := List.mem_map.mp he
    exact hy y h
theorem po {S : Store} {x : Str} {b : Bool} (hx : PyData.strOk x = true) (hb : (["not", "before", "once", "sofar"].any fun y => decide (y = x)) = b) : inM (.str x) (.tup [.str "not", .str "before", .str "once", .str "sofar"]) S = .ok b S := by rw [← hb]; exact inS (ys := ["not", "before", "once", "sofar"]) hx (by decide +kernel)
theorem pt {S : Store} {x : Str} {b : Bool} (hx : PyData.strOk x = true) (hb : (["and", "or", "since"].any fun y => decide (y = x)) = b) : inM (.str x) (.tup [.str "and", .str "or", .str "since"]) S = .ok b S := by rw [← hb]; exact inS (ys := ["and", "or", "since"]) hx (by decide +kernel)
def pw (n : Int) : Int := 2 ^ n.toNat
theorem pw_at {n : Int} (h : 0 ≤ n ∧ n ≤ 4) : ([.int 1, .int 2, .int 4, .int 8, .int 16] : List D)[n.toNat]? = some (.int (pw n)) := by
  obtain ⟨h1, h2⟩ := h
  have : n = 0 ∨ n = 1 ∨ n = 2 ∨ n = 3 ∨ n = 4 := by omega
  rcases this with rfl | rfl | rfl | rfl | rfl <;> rfl
theorem pw_at3 {n : Int} (h : 0 ≤ n ∧ n ≤ 3) : ([.int 1, .int 2, .int 4, .int 8] : List D)[n.toNat]? = some (.int (pw n)) := by
  obtain ⟨h1, h2⟩ := h
  have : n = 0 ∨ n = 1 ∨ n = 2 ∨ n = 3 := by omega
  rcases this with rfl | rfl | rfl | rfl <;> rfl
theorem pw_r {n : Int} (h : 0 ≤ n ∧ n ≤ 4) : 1 ≤ pw n ∧ pw n ≤ 16 := by
  obtain ⟨h1, h2⟩ := h
  have : n = 0 ∨ n = 1 ∨ n = 2 ∨ n = 3 ∨ n = 4 := by omega
  rcases this with rfl | rfl | rfl | rfl | rfl <;> decide
def siS (a b : Nat → Bool) : Nat → Bool
  | 0 => b 0
  | p + 1 => b (p + 1) || (a (p + 1) && siS a b p)
def sem (w : List Int) : F → Nat → Bool
  | .now i, p => decide (((w[p]?.getD 0).fdiv (pw i)).fmod 2 = 1)
  | .tru, _ => true
  | .fls, _ => false
  | .nt f, p => !sem w f p
  | .bf f, p => decide (0 < p) && sem w f (p - 1)
  | .on f, p => (List.range (p + 1)).any (sem w f)
  | .sf f, p => (List.range (p + 1)).all (sem w f)
  | .an f g, p => sem w f p && sem w g p
  | .or f g, p => sem w f p || sem w g p
  | .si f g, p => siS (sem w f) (sem w g) p
def trk : F → Prop
  | .now i => 0 ≤ i ∧ i ≤ 3
  | .nt f => trk f
  | .bf f => trk f
  | .on f => trk f
  | .sf f => trk f
  | .an f g => trk f ∧ trk g
  | .or f g => trk f ∧ trk g
  | .si f g => trk f ∧ trk g
  | _ => True
def at_ (h : Nat → Bool) : D → D
  | .int q => .bl (h q.toNat)
  | _ => .non
theorem map_at (h : Nat → Bool) (p : Nat) : (rngD 0 ((p : Int) + 1)).map (at_ h) = ((List.range (p + 1)).map h).map D.bl := by
  unfold rngD
  rw [List.map_map, List.map_map, show ((p : Int) + 1 - 0).toNat = p + 1 by omega]
  refine List.map_congr_left fun q hq => ?_
  show D.bl (h (0 + (q : Int)).toNat) = D.bl (h q)
  rw [show (0 + (q : Int)).toNat = q by omega]
theorem rngDn_at {i n : Int} {j : Nat} {d : D} (h : (rngDn i n)[j]? = some d) : d = .int (i - j) ∧ (j : Int) < i - n := by
  unfold rngDn at h
  rw [List.getElem?_map, Option.map_eq_some_iff] at h
  obtain ⟨k, h1, h2⟩ := h
  obtain ⟨h4, h5⟩ := List.getElem?_eq_some_iff.mp h1
  rw [List.getElem_range] at h5
  rw [List.length_range] at h4
  subst h5
  exact ⟨h2.symm, by omega⟩
theorem rngDn_len {i n : Int} : (rngDn i n).length = (i - n).toNat := by
  unfold rngDn
  rw [List.length_map, List.length_range]
theorem contains_any (h : Nat → Bool) (l : List Nat) : (l.map h).contains true = l.any h := by
  induction l with
  | nil => rfl
  | cons a l ih => rw [List.map_cons, List.contains_cons, List.any_cons, ih]; cases h a <;> rfl
theorem contains_all (h : Nat → Bool) (l : List Nat) : (!(l.map h).contains false) = l.all h := by
  induction l with
  | nil => rfl
  | cons a l ih =>
    rw [List.map_cons, List.contains_cons, List.all_cons, ← ih]
    cases h a <;> simp
/-! ### parts -/
def kids : F → List F
  | .nt f => [f]
  | .bf f => [f]
  | .on f => [f]
  | .sf f => [f]
  | .an f g => [f, g]
  | .or f g => [f, g]
  | .si f g => [f, g]
  | _ => []
def size : F → Nat
  | .nt f => size f + 1
  | .bf f => size f + 1
  | .on f => size f + 1
  | .sf f => size f + 1
  | .an f g => size f + size g + 1
  | .or f g => size f + size g + 1
  | .si f g => size f + size g + 1
  | _ => 1
def mrg (acc l : List F) : List F := acc ++ l.filter fun x => !decide (x ∈ acc)
def parts : F → List F
  | .nt f => mrg [] (parts f) ++ [.nt f]
  | .bf f => mrg [] (parts f) ++ [.bf f]
  | .on f => mrg [] (parts f) ++ [.on f]
  | .sf f => mrg [] (parts f) ++ [.sf f]
  | .an f g => mrg (mrg [] (parts f)) (parts g) ++ [.an f g]
  | .or f g => mrg (mrg [] (parts f)) (parts g) ++ [.or f g]
  | .si f g => mrg (mrg [] (parts f)) (parts g) ++ [.si f g]
  | f => [f]
/-- each has its own parts ahead of it, and none comes twice -/
def good : List F → List F → Prop
  | _, [] => True
  | pre, h :: t => h ∉ pre ∧ (∀ g ∈ kids h, g ∈ pre) ∧ good (pre ++ [h]) t
theorem good_app : ∀ {l1 l2 p : List F}, good p l1 → good (p ++ l1) l2 → good p (l1 ++ l2)
  | [], l2, p, _, h => by rwa [List.append_nil] at h
  | h :: t, l2, p, ⟨h1, h2, h3⟩, q => ⟨h1, h2, good_app h3 (by rwa [List.append_assoc])⟩
theorem good_mrg {acc : List F} : ∀ {l pre : List F}, good pre l → good (acc ++ pre.filter fun x => !decide (x ∈ acc)) (l.filter fun x => !decide (x ∈ acc))
  | [], _, _ => trivial
  | h :: t, pre, ⟨h1, h2, h3⟩ => by
    have ih := good_mrg (acc := acc) h3
    rw [List.filter_append] at ih
    by_cases c : h ∈ acc
    · have e : (!decide (h ∈ acc)) = false := by rw [decide_eq_true c]; rfl
      rw [List.filter_cons_of_neg (p := fun x => !decide (x ∈ acc)) (by rw [e]; exact Bool.false_ne_true)]
      rw [List.filter_cons_of_neg (p := fun x => !decide (x ∈ acc)) (by rw [e]; exact Bool.false_ne_true), List.filter_nil, List.append_nil] at ih
      exact ih
    · have e : (!decide (h ∈ acc)) = true := by rw [decide_eq_false c]; rfl
      rw [List.filter_cons_of_pos (p := fun x => !decide (x ∈ acc)) e]
      rw [List.filter_cons_of_pos (p := fun x => !decide (x ∈ acc)) e, List.filter_nil, ← List.append_assoc] at ih
      refine ⟨fun z => ?_, fun g hg => ?_, ih⟩
      · rcases List.mem_append.mp z with z | z
        · exact c z
        · exact h1 (List.mem_filter.mp z).1
      · by_cases cg : g ∈ acc
        · exact List.mem_append_left _ cg
        · exact List.mem_append_right _ (List.mem_filter.mpr ⟨h2 g hg, by rw [decide_eq_false cg]; rfl⟩)
theorem good_join {acc l : List F} (h1 : good [] acc) (h2 : good [] l) : good [] (mrg acc l) := by
  refine good_app h1 ?_
  have := good_mrg (acc := acc) h2
  rwa [List.filter_nil, List.append_nil] at this
theorem mem_mrg {acc l : List F} {x : F} : x ∈ mrg acc l ↔ x ∈ acc ∨ x ∈ l := by
  unfold mrg
  rw [List.mem_append, List.mem_filter]
  by_cases c : x ∈ acc <;> simp [c]
theorem size_pos : ∀ f : F, 1 ≤ size f := fun f => by cases f <;> simp only [size] <;> omega
theorem part_size : ∀ {f x : F}, x ∈ parts f → size x ≤ size f
  | .now _, x, h => by rw [show x = _ from List.mem_singleton.mp h]; exact Nat.le_refl _
  | .tru, x, h => by rw [show x = _ from List.mem_singleton.mp h]; exact Nat.le_refl _
  | .fls, x, h => by rw [show x = _ from List.mem_singleton.mp h]; exact Nat.le_refl _
  | .nt f, x, h => by
    rcases List.mem_append.mp h with h | h
    · have := part_size (((mem_mrg.mp h).resolve_left List.not_mem_nil)); simp only [size]; omega
    · rw [List.mem_singleton.mp h]; exact Nat.le_refl _
  | .bf f, x, h => by
    rcases List.mem_append.mp h with h | h
    · have := part_size (((mem_mrg.mp h).resolve_left List.not_mem_nil)); simp only [size]; omega
    · rw [List.mem_singleton.mp h]; exact Nat.le_refl _
  | .on f, x, h => by
    rcases List.mem_append.mp h with h | h
    · have := part_size (((mem_mrg.mp h).resolve_left List.not_mem_nil)); simp only [size]; omega
    · rw [List.mem_singleton.mp h]; exact Nat.le_refl _
  | .sf f, x, h => by
    rcases List.mem_append.mp h with h | h
    · have := part_size (((mem_mrg.mp h).resolve_left List.not_mem_nil)); simp only [size]; omega
    · rw [List.mem_singleton.mp h]; exact Nat.le_refl _
  | .an f g, x, h => by
    rcases List.mem_append.mp h with h | h
    · rcases mem_mrg.mp h with h | h
      · have := part_size (((mem_mrg.mp h).resolve_left List.not_mem_nil)); simp only [size]; omega
      · have := part_size h; simp only [size]; omega
    · rw [List.mem_singleton.mp h]; exact Nat.le_refl _
  | .or f g, x, h => by
    rcases List.mem_append.mp h with h | h
    · rcases mem_mrg.mp h with h | h
      · have := part_size (((mem_mrg.mp h).resolve_left List.not_mem_nil)); simp only [size]; omega
      · have := part_size h; simp only [size]; omega
    · rw [List.mem_singleton.mp h]; exact Nat.le_refl _
  | .si f g, x, h => by
    rcases List.mem_append.mp h with h | h
    · rcases mem_mrg.mp h with h | h
      · have := part_size (((mem_mrg.mp h).resolve_left List.not_mem_nil)); simp only [size]; omega
      · have := part_size h; simp only [size]; omega
    · rw [List.mem_singleton.mp h]; exact Nat.le_refl _
/-- what stands ahead of the whole -/
def ahead : F → List F
  | .nt f => mrg [] (parts f)
  | .bf f => mrg [] (parts f)
  | .on f => mrg [] (parts f)
  | .sf f => mrg [] (parts f)
  | .an f g => mrg (mrg [] (parts f)) (parts g)
  | .or f g => mrg (mrg [] (parts f)) (parts g)
  | .si f g => mrg (mrg [] (parts f)) (parts g)
  | _ => []
theorem parts_eq (f : F) : parts f = ahead f ++ [f] := by cases f <;> rfl
theorem mem_ahead {f x : F} : x ∈ ahead f ↔ ∃ g ∈ kids f, x ∈ parts g := by
  cases f <;> simp [ahead, kids, mem_mrg]
theorem kid_size {f g : F} (h : g ∈ kids f) : size g < size f := by
  cases f <;> simp only [kids, List.mem_cons, List.not_mem_nil, or_false] at h
  all_goals first
    | (subst h; simp only [size]; omega)
    | (rcases h with h | h <;> subst h <;> simp only [size] <;> omega)
theorem not_ahead (f : F) : f ∉ ahead f := fun h => by
  obtain ⟨g, h1, h2⟩ := mem_ahead.mp h
  have := part_size h2
  have := kid_size h1
  omega
theorem self_part (f : F) : f ∈ parts f := by rw [parts_eq]; exact List.mem_append_right _ List.mem_cons_self
theorem good_parts : ∀ f : F, good [] (parts f) := by
  have key : ∀ f : F, good [] (ahead f) → good [] (parts f) := fun f h => by
    rw [parts_eq]
    refine good_app h ⟨not_ahead f, fun g hg => ?_, trivial⟩
    exact mem_ahead.mpr ⟨g, hg, self_part g⟩
  intro f
  induction f with
  | now i => exact key _ trivial
  | tru => exact key _ trivial
  | fls => exact key _ trivial
  | nt f ih => exact key _ (good_join trivial ih)
  | bf f ih => exact key _ (good_join trivial ih)
  | on f ih => exact key _ (good_join trivial ih)
  | sf f ih => exact key _ (good_join trivial ih)
  | an f g ih ih2 => exact key _ (good_join (good_join trivial ih) ih2)
  | or f g ih ih2 => exact key _ (good_join (good_join trivial ih) ih2)
  | si f g ih ih2 => exact key _ (good_join (good_join trivial ih) ih2)
theorem good_kid : ∀ {l pre : List F} {j : Nat} {h g : F}, good pre l → l[j]? = some h → g ∈ kids h → g ∈ pre ++ l.take j
  | x :: t, pre, 0, h, g, ⟨_, h2, _⟩, e, hg => by
    cases e
    rw [List.take_zero, List.append_nil]
    exact h2 g hg
  | x :: t, pre, j + 1, h, g, ⟨_, _, h3⟩, e, hg => by
    have := good_kid h3 e hg
    rw [List.take_succ_cons]
    rwa [List.append_assoc] at this
theorem good_nodup : ∀ {l pre : List F}, good pre l → l.Nodup ∧ ∀ x ∈ l, x ∉ pre
  | [], _, _ => ⟨List.nodup_nil, fun _ h => (List.not_mem_nil h).elim⟩
  | h :: t, pre, ⟨h1, _, h3⟩ => by
    obtain ⟨n1, n2⟩ := good_nodup h3
    refine ⟨List.nodup_cons.mpr ⟨fun z => n2 h z (List.mem_append_right _ List.mem_cons_self), n1⟩, fun x hx => ?_⟩
    rcases List.mem_cons.mp hx with rfl | hx
    · exact h1
    · exact fun z => n2 x hx (List.mem_append_left _ z)
/-- the place of a part of a part -/
theorem kid_at {f h g : F} {j : Nat} (e : (parts f)[j]? = some h) (hg : g ∈ kids h) : ∃ i, i < j ∧ (parts f)[i]? = some g := by
  have := good_kid (good_parts f) e hg
  rw [List.nil_append] at this
  obtain ⟨i, hi⟩ := List.mem_iff_getElem?.mp this
  have h1 : i < j := by
    have := (List.getElem?_eq_some_iff.mp hi).1
    rw [List.length_take] at this
    omega
  rw [List.getElem?_take_of_lt h1] at hi
  exact ⟨i, h1, hi⟩
theorem parts_nodup (f : F) : (parts f).Nodup := (good_nodup (good_parts f)).1
theorem parts_last (f : F) : (parts f).getLast? = some f := by rw [parts_eq, List.getLast?_concat]
theorem mrg_len (acc l : List F) : (mrg acc l).length ≤ acc.length + l.length := by
  unfold mrg
  rw [List.length_append]
  have := List.length_filter_le (fun x => !decide (x ∈ acc)) l
  omega
theorem parts_len : ∀ f : F, (parts f).length ≤ size f := by
  have one : ∀ f g : F, (parts f).length ≤ size f → (mrg [] (parts f) ++ [g]).length ≤ size f + 1 := fun f g h => by
    rw [List.length_append]
    have := mrg_len [] (parts f)
    simp only [List.length_nil, List.length_cons] at *
    omega
  have two : ∀ f g x : F, (parts f).length ≤ size f → (parts g).length ≤ size g → (mrg (mrg [] (parts f)) (parts g) ++ [x]).length ≤ size f + size g + 1 := fun f g x h h' => by
    rw [List.length_append]
    have := mrg_len [] (parts f)
    have := mrg_len (mrg [] (parts f)) (parts g)
    simp only [List.length_nil, List.length_cons] at *
    omega
  intro f
  induction f with
  | now i => exact Nat.le_refl _
  | tru => exact Nat.le_refl _
  | fls => exact Nat.le_refl _
  | nt f ih => exact one _ _ ih
  | bf f ih => exact one _ _ ih
  | on f ih => exact one _ _ ih
  | sf f ih => exact one _ _ ih
  | an f g ih ih2 => exact two _ _ _ ih ih2
  | or f g ih ih2 => exact two _ _ _ ih ih2
  | si f g ih ih2 => exact two _ _ _ ih ih2
theorem size_dep : ∀ f : F, size f + 1 ≤ 2 ^ (fdep f - 1) := by
  have one : ∀ {a n : Nat}, 2 ≤ n → a + 1 ≤ 2 ^ (n - 1) → a + 1 + 1 ≤ 2 ^ (n + 1 - 1) := fun {a n} h2 h => by
    obtain ⟨m, rfl⟩ : ∃ m, n = m + 2 := ⟨n - 2, by omega⟩
    have e : 2 ^ (m + 2 + 1 - 1) = 2 ^ (m + 2 - 1) * 2 := by rw [show m + 2 + 1 - 1 = (m + 2 - 1) + 1 by omega, Nat.pow_succ]
    have : 2 ≤ 2 ^ (m + 2 - 1) := by
      have : 2 ^ 1 ≤ 2 ^ (m + 2 - 1) := Nat.pow_le_pow_right (by decide) (by omega)
      omega
    omega
  have two : ∀ {a b n m : Nat}, 2 ≤ n → 2 ≤ m → a + 1 ≤ 2 ^ (n - 1) → b + 1 ≤ 2 ^ (m - 1) → a + b + 1 + 1 ≤ 2 ^ (max n m + 1 - 1) := fun {a b n m} h2 h3 h h' => by
    obtain ⟨q, hq⟩ : ∃ q, max n m = q + 1 := ⟨max n m - 1, by omega⟩
    have e : 2 ^ (q + 1 + 1 - 1) = 2 ^ q * 2 := by rw [show q + 1 + 1 - 1 = q + 1 by omega, Nat.pow_succ]
    have l1 : 2 ^ (n - 1) ≤ 2 ^ q := Nat.pow_le_pow_right (by decide) (by omega)
    have l2 : 2 ^ (m - 1) ≤ 2 ^ q := Nat.pow_le_pow_right (by decide) (by omega)
    rw [hq]
    omega
  intro f
  induction f with
  | now i => show 1 + 1 ≤ 2 ^ (2 - 1); decide
  | tru => decide
  | fls => decide
  | nt f ih => exact one (fdep_pos f) ih
  | bf f ih => exact one (fdep_pos f) ih
  | on f ih => exact one (fdep_pos f) ih
  | sf f ih => exact one (fdep_pos f) ih
  | an f g ih ih2 => exact two (fdep_pos f) (fdep_pos g) ih ih2
  | or f g ih ih2 => exact two (fdep_pos f) (fdep_pos g) ih ih2
  | si f g ih ih2 => exact two (fdep_pos f) (fdep_pos g) ih ih2
theorem parts_lt {f : F} {n : Nat} (h : fdep f ≤ n + 1) : (parts f).length < 2 ^ n := by
  have h1 := parts_len f
  have h2 := size_dep f
  have h3 : 2 ^ (fdep f - 1) ≤ 2 ^ n := Nat.pow_le_pow_right (by decide) (by omega)
  omega
theorem part_dep : ∀ {f x : F}, x ∈ parts f → fdep x ≤ fdep f := by
  have key : ∀ {f x : F}, (∀ g ∈ kids f, ∀ x ∈ parts g, fdep x ≤ fdep g) → (∀ g ∈ kids f, fdep g ≤ fdep f) → x ∈ parts f → fdep x ≤ fdep f := fun {f x} h1 h2 h => by
    rw [parts_eq] at h
    rcases List.mem_append.mp h with h | h
    · obtain ⟨g, g1, g2⟩ := mem_ahead.mp h
      exact Nat.le_trans (h1 g g1 x g2) (h2 g g1)
    · rw [List.mem_singleton.mp h]; exact Nat.le_refl _
  have k0 : ∀ {f g : F}, g ∈ kids f → fdep g ≤ fdep f := fun {f g} h => by
    cases f <;> simp only [kids, List.mem_cons, List.not_mem_nil, or_false] at h
    all_goals first
      | (subst h; simp only [fdep]; omega)
      | (rcases h with h | h <;> subst h <;> simp only [fdep] <;> omega)
  intro f
  induction f with
  | now i => exact key (fun g h => (List.not_mem_nil (show g ∈ [] from h)).elim) fun _ => k0
  | tru => exact key (fun g h => (List.not_mem_nil (show g ∈ [] from h)).elim) fun _ => k0
  | fls => exact key (fun g h => (List.not_mem_nil (show g ∈ [] from h)).elim) fun _ => k0
  | nt f ih => exact key (fun g h => by rw [List.mem_singleton.mp (show g ∈ [f] from h)]; exact fun _ => ih) fun _ => k0
  | bf f ih => exact key (fun g h => by rw [List.mem_singleton.mp (show g ∈ [f] from h)]; exact fun _ => ih) fun _ => k0
  | on f ih => exact key (fun g h => by rw [List.mem_singleton.mp (show g ∈ [f] from h)]; exact fun _ => ih) fun _ => k0
  | sf f ih => exact key (fun g h => by rw [List.mem_singleton.mp (show g ∈ [f] from h)]; exact fun _ => ih) fun _ => k0
  | an f g ih ih2 => exact key (fun x h => by rcases List.mem_cons.mp (show x ∈ [f, g] from h) with rfl | h; exact fun _ => ih; rw [List.mem_singleton.mp h]; exact fun _ => ih2) fun _ => k0
  | or f g ih ih2 => exact key (fun x h => by rcases List.mem_cons.mp (show x ∈ [f, g] from h) with rfl | h; exact fun _ => ih; rw [List.mem_singleton.mp h]; exact fun _ => ih2) fun _ => k0
  | si f g ih ih2 => exact key (fun x h => by rcases List.mem_cons.mp (show x ∈ [f, g] from h) with rfl | h; exact fun _ => ih; rw [List.mem_singleton.mp h]; exact fun _ => ih2) fun _ => k0
/-- tracks below n -/
def trn (n : Int) : F → Prop
  | .now i => 0 ≤ i ∧ i < n
  | .nt f => trn n f
  | .bf f => trn n f
  | .on f => trn n f
  | .sf f => trn n f
  | .an f g => trn n f ∧ trn n g
  | .or f g => trn n f ∧ trn n g
  | .si f g => trn n f ∧ trn n g
  | _ => True
theorem kid_trn {n : Int} {f g : F} (h : trn n f) (hg : g ∈ kids f) : trn n g := by
  cases f <;> simp only [kids, List.mem_cons, List.not_mem_nil, or_false] at hg
  all_goals first
    | (subst hg; exact h)
    | (rcases hg with hg | hg <;> subst hg <;> first | exact h.1 | exact h.2)
theorem part_trn {n : Int} : ∀ {f x : F}, trn n f → x ∈ parts f → trn n x := by
  have key : ∀ {f x : F}, (∀ g ∈ kids f, ∀ x, trn n g → x ∈ parts g → trn n x) → trn n f → x ∈ parts f → trn n x := fun {f x} h1 h2 h => by
    rw [parts_eq] at h
    rcases List.mem_append.mp h with h | h
    · obtain ⟨g, g1, g2⟩ := mem_ahead.mp h
      exact h1 g g1 x (kid_trn h2 g1) g2
    · rw [List.mem_singleton.mp h]; exact h2
  intro f
  induction f with
  | now i => exact key (fun g h => (List.not_mem_nil (show g ∈ [] from h)).elim)
  | tru => exact key (fun g h => (List.not_mem_nil (show g ∈ [] from h)).elim)
  | fls => exact key (fun g h => (List.not_mem_nil (show g ∈ [] from h)).elim)
  | nt f ih => exact key (fun g h => by rw [List.mem_singleton.mp (show g ∈ [f] from h)]; exact fun _ => ih)
  | bf f ih => exact key (fun g h => by rw [List.mem_singleton.mp (show g ∈ [f] from h)]; exact fun _ => ih)
  | on f ih => exact key (fun g h => by rw [List.mem_singleton.mp (show g ∈ [f] from h)]; exact fun _ => ih)
  | sf f ih => exact key (fun g h => by rw [List.mem_singleton.mp (show g ∈ [f] from h)]; exact fun _ => ih)
  | an f g ih ih2 => exact key (fun x h => by rcases List.mem_cons.mp (show x ∈ [f, g] from h) with rfl | h; exact fun _ => ih; rw [List.mem_singleton.mp h]; exact fun _ => ih2)
  | or f g ih ih2 => exact key (fun x h => by rcases List.mem_cons.mp (show x ∈ [f, g] from h) with rfl | h; exact fun _ => ih; rw [List.mem_singleton.mp h]; exact fun _ => ih2)
  | si f g ih ih2 => exact key (fun x h => by rcases List.mem_cons.mp (show x ∈ [f, g] from h) with rfl | h; exact fun _ => ih; rw [List.mem_singleton.mp h]; exact fun _ => ih2)
theorem five {n a1 a2 : Int} (hn : 1 ≤ n ∧ n ≤ 4) (h1 : 0 ≤ a1 ∧ a1 < n) (h2 : 0 ≤ a2 ∧ a2 < n) {v : Int} (hv : 0 ≤ v ∧ v < 5) :
    ∃ f, ([.tup [.str "now", .int a1], .tup [.str "now", .int a2], .tup [.str "true"], .tup [.str "false"], .tup [.str "now", .int 0]] : List D)[v.toNat]? = some (enc f) ∧ trn n f ∧ fdep f ≤ 2 := by
  have : v = 0 ∨ v = 1 ∨ v = 2 ∨ v = 3 ∨ v = 4 := by omega
  rcases this with rfl | rfl | rfl | rfl | rfl
  · exact ⟨.now a1, rfl, h1, Nat.le_refl _⟩
  · exact ⟨.now a2, rfl, h2, Nat.le_refl _⟩
  · exact ⟨.tru, rfl, trivial, by decide⟩
  · exact ⟨.fls, rfl, trivial, by decide⟩
  · exact ⟨.now 0, rfl, ⟨by omega, by omega⟩, by decide⟩
theorem four {n v : Int} (hv : 0 ≤ v ∧ v < 4) (f : F) : ∃ x, ([.str "not", .str "before", .str "once", .str "sofar"] : List D)[v.toNat]? = some (.str x) ∧ ∃ g, D.tup [.str x, enc f] = enc g ∧ (trn n f → trn n g) ∧ fdep g = fdep f + 1 := by
  have : v = 0 ∨ v = 1 ∨ v = 2 ∨ v = 3 := by omega
  rcases this with rfl | rfl | rfl | rfl
  · exact ⟨_, rfl, .nt f, rfl, id, rfl⟩
  · exact ⟨_, rfl, .bf f, rfl, id, rfl⟩
  · exact ⟨_, rfl, .on f, rfl, id, rfl⟩
  · exact ⟨_, rfl, .sf f, rfl, id, rfl⟩
theorem four2 {n v : Int} (hv : 0 ≤ v ∧ v < 4) (f g : F) : ∃ x, ([.str "and", .str "or", .str "since", .str "since"] : List D)[v.toNat]? = some (.str x) ∧ ∃ h, D.tup [.str x, enc f, enc g] = enc h ∧ (trn n f → trn n g → trn n h) ∧ fdep h = max (fdep f) (fdep g) + 1 := by
  have : v = 0 ∨ v = 1 ∨ v = 2 ∨ v = 3 := by omega
  rcases this with rfl | rfl | rfl | rfl
  · exact ⟨_, rfl, .an f g, rfl, fun a b => ⟨a, b⟩, rfl⟩
  · exact ⟨_, rfl, .or f g, rfl, fun a b => ⟨a, b⟩, rfl⟩
  · exact ⟨_, rfl, .si f g, rfl, fun a b => ⟨a, b⟩, rfl⟩
  · exact ⟨_, rfl, .si f g, rfl, fun a b => ⟨a, b⟩, rfl⟩
def PF (n : Int) (d : Nat) (v : D) : Prop := ∃ f, v = enc f ∧ trn n f ∧ fdep f ≤ max d 1 + 1
/-! ### the meaning, position by position -/
theorem sem_bf (w : List Int) (f : F) (p : Nat) : sem w (.bf f) (p + 1) = sem w f p := by simp [sem]
theorem sem_on (w : List Int) (f : F) (p : Nat) : sem w (.on f) (p + 1) = (sem w f (p + 1) || sem w (.on f) p) := by
  show (List.range (p + 1 + 1)).any (sem w f) = (sem w f (p + 1) || (List.range (p + 1)).any (sem w f))
  rw [List.range_succ (n := p + 1), List.any_append, Bool.or_comm]
  simp
theorem sem_sf (w : List Int) (f : F) (p : Nat) : sem w (.sf f) (p + 1) = (sem w f (p + 1) && sem w (.sf f) p) := by
  show (List.range (p + 1 + 1)).all (sem w f) = (sem w f (p + 1) && (List.range (p + 1)).all (sem w f))
  rw [List.range_succ (n := p + 1), List.all_append, Bool.and_comm]
  simp
theorem sem_si (w : List Int) (f g : F) (p : Nat) : sem w (.si f g) (p + 1) = (sem w g (p + 1) || (sem w f (p + 1) && sem w (.si f g) p)) := rfl
theorem sem_nt (w : List Int) (f : F) (p : Nat) : sem w (.nt f) p = !sem w f p := rfl
theorem sem_an (w : List Int) (f g : F) (p : Nat) : sem w (.an f g) p = (sem w f p && sem w g p) := rfl
theorem sem_or (w : List Int) (f g : F) (p : Nat) : sem w (.or f g) p = (sem w f p || sem w g p) := rfl
theorem sem_si0 (w : List Int) (f g : F) : sem w (.si f g) 0 = sem w g 0 := rfl
theorem sem_bf0 (w : List Int) (f : F) : sem w (.bf f) 0 = false := rfl
theorem sem_on0 (w : List Int) (f : F) : sem w (.on f) 0 = sem w f 0 := by simp [sem]
theorem sem_sf0 (w : List Int) (f : F) : sem w (.sf f) 0 = sem w f 0 := by simp [sem]
end Pf

/-! Formulas about the past: small words. -/
namespace Pf
open PySem PySem.Spec Mi
def isInt (lo hi : Int) : D → Bool
  | .int i => decide (lo ≤ i) && decide (i ≤ hi)
  | _ => false
theorem ty_ref {S : Store} {r : Nat} {t : Ty} (h : tyOf' S (.ref r) = some t) : t = .lst ∨ t = .dic := by
  unfold tyOf' at h
  dsimp only at h
  split at h <;> first | (cases h; exact .inl rfl) | (cases h; exact .inr rfl) | cases h
theorem eq_unit {S : Store} {d : D} {ds : List D} (h : (toPy S 60 (.tup (d :: ds))).isSome = true) : eqM (.tup (d :: ds)) (.tup []) S = .ok false S := by
  show (match toPy S 60 (.tup (d :: ds)), toPy S 60 (.tup []) with | some p, some q => .ok (PyData.eqv p q) S | _, _ => .no : Out Bool) = _
  cases e : toPy S 60 (.tup (d :: ds)) with
  | none => rw [e] at h; cases h
  | some p =>
    have e2 : toPy S 60 (.tup []) = some (.tuple []) := rfl
    rw [e2]
    have e : ((d :: ds).mapM (toPy S 59)).map PyData.tuple = some p := e
    rw [List.mapM_cons] at e
    cases e3 : toPy S 59 d with
    | none => rw [e3] at e; cases e
    | some q =>
      rw [e3] at e
      cases e4 : ds.mapM (toPy S 59) with
      | none => rw [e4] at e; cases e
      | some qs =>
        rw [e4] at e
        cases e
        rfl
theorem some_tr {S : Store} {n : Nat} {d : D} (h : Tr n d) (hn : n ≤ 60) : (toPy S 60 d).isSome = true := by rw [(h.mono hn).py]; rfl
theorem tr_si {x : Str} {m : Int} (hx : PyData.strOk x = true) : Tr 3 (.tup [.str x, .int m]) := by
  intro e he
  simp only [List.mem_cons, List.not_mem_nil, or_false] at he
  rcases he with rfl | rfl
  · exact hx
  · trivial
theorem in_tf' {S : Store} {x : Str} {m : Int} {b : Bool} (hx : PyData.strOk x = true) (hb : ((decide ("true" = x) && decide (1 = m)) || (decide ("false" = x) && decide (1 = m))) = b) : inM (.tup [.str x, .int m]) (.tup [.tup [.str "true", .int 1], .tup [.str "false", .int 1]]) S = .ok b S := by
  rw [inM_tup (n := 3) (m := 3) (tr_si hx) (fun e he => ?_) (by omega) (by omega), ← hb]
  · simp only [List.any_cons, List.any_nil, same_tup, same_tc, same_tnil, same_str, same_int, Bool.or_false, Bool.and_true]
  · simp only [List.mem_cons, List.not_mem_nil, or_false] at he
    rcases he with rfl | rfl <;> exact tr_si (by decide +kernel)
theorem eq_now {S : Store} {x : Str} {m : Int} {b : Bool} (hx : PyData.strOk x = true) (hb : (decide (x = "now") && decide (m = 2)) = b) : eqM (.tup [.str x, .int m]) (.tup [.str "now", .int 2]) S = .ok b S := by
  rw [eqM_T (n := 3) (m := 3) (tr_si hx) (tr_si (by decide +kernel)) (by omega) (by omega), ← hb]
  simp only [same_tup, same_tc, same_tnil, same_str, same_int, Bool.and_true]
def atoms : F → Int
  | .now _ => 1
  | .nt f => atoms f
  | .bf f => atoms f
  | .on f => atoms f
  | .sf f => atoms f
  | .an f g => atoms f + atoms g
  | .or f g => atoms f + atoms g
  | .si f g => atoms f + atoms g
  | _ => 0
theorem pow_up {n m : Nat} (h : n ≤ m) : (2 : Int) ^ n ≤ 2 ^ m := by
  have h1 : 2 ^ n ≤ 2 ^ m := Nat.pow_le_pow_right (by decide) h
  have h2 : ((2 ^ n : Nat) : Int) ≤ ((2 ^ m : Nat) : Int) := Int.ofNat_le.mpr h1
  rw [Int.natCast_pow, Int.natCast_pow] at h2
  exact h2
theorem atoms_two {a b : Int} {n m : Nat} (h : a * 4 ≤ 2 ^ n) (h' : b * 4 ≤ 2 ^ m) : (a + b) * 4 ≤ 2 ^ (max n m + 1) := by
  have h1 := pow_up (Nat.le_max_left n m)
  have h2 := pow_up (Nat.le_max_right n m)
  rw [Int.pow_succ]
  omega
theorem trk_of {n : Int} (hn : n ≤ 4) : ∀ {f : F}, trn n f → trk f
  | .now i, h => ⟨h.1, by have := h.2; omega⟩
  | .tru, _ => trivial
  | .fls, _ => trivial
  | .nt f, h => trk_of hn (f := f) h
  | .bf f, h => trk_of hn (f := f) h
  | .on f, h => trk_of hn (f := f) h
  | .sf f, h => trk_of hn (f := f) h
  | .an f g, h => ⟨trk_of hn h.1, trk_of hn h.2⟩
  | .or f g, h => ⟨trk_of hn h.1, trk_of hn h.2⟩
  | .si f g, h => ⟨trk_of hn h.1, trk_of hn h.2⟩
theorem pst_n {n m : Int} : List.lookup (α := Str) (β := D) "_n" [("_n", .int n), ("many", .int m)] = some (.int n) := rfl
theorem pst_m {n m : Int} : List.lookup (α := Str) (β := D) "many" [("_n", .int n), ("many", .int m)] = some (.int m) := rfl
theorem pst_s {n m m' : Int} : setF [(("_n" : Str), D.int n), (("many" : Str), D.int m)] "many" (.int m') = [(("_n" : Str), D.int n), (("many" : Str), D.int m')] := rfl
theorem pst_no {n m : Int} : (List.lookup (α := Str) (β := D) "is_good" [("_n", .int n), ("many", .int m)]).isNone = true := rfl
theorem pst_0 {x : D} : setF [] "_n" x = [(("_n" : Str), x)] := rfl
theorem pst_1 {n : Int} {x : D} : setF [(("_n" : Str), D.int n)] "many" x = [(("_n" : Str), D.int n), (("many" : Str), x)] := rfl
def isWord (m : Int) : D → Bool
  | .tup ds => ds.all (isInt 0 (m - 1))
  | _ => false
theorem gc_er {S l : Store} {e : Exn} (h : lowF S.length e.fs = true) : gc S (.er e (S ++ l)) = .er e S := by
  unfold gc
  dsimp only
  rw [gcOk_app, h, List.take_left']
  · rfl
  · rfl
theorem all_map (f : D → Bool) (ds : List D) : (ds.map fun d => D.bl (f d)) = (ds.map f).map D.bl := by rw [List.map_map]; rfl
theorem er_ex {o : Out D} {S : Store} {e : Exn} (h : W o (fun _ _ => False) (fun x S' => x = e ∧ ∃ l, S' = S ++ l)) (he : lowF S.length e.fs = true) : gc S o = .er e S := by
  cases o with
  | ok a S' => exact h.elim
  | er x S' => obtain ⟨rfl, l, rfl⟩ := h; exact gc_er he
  | no => exact h.elim
theorem py_true {S : Store} : (toPy S 60 (.tup [.str "now", .bl true])).isSome = true := by
  have h : PyData.strOk "now" = true := by decide +kernel
  show ((([.str "now", .bl true] : List D).mapM (toPy S 59)).map PyData.tuple).isSome = true
  have e1 : toPy S 59 (.str "now") = some (.str "now") := by
    show (if PyData.strOk "now" then some (PyData.str "now") else none) = _
    rw [if_pos h]
  rw [List.mapM_cons, e1, List.mapM_cons]
  rfl
theorem py_track {S : Store} : (toPy S 60 (.tup [.str "track", .int 0, .int 0])).isSome = true := some_tr (n := 3) (fun e he => by
  simp only [List.mem_cons, List.not_mem_nil, or_false] at he
  rcases he with rfl | rfl | rfl
  · show PyData.strOk _ = true
    decide +kernel
  · trivial
  · trivial) (by omega)
/-- a comprehension with a test -/
theorem lcF {Φ : D → Store → Prop} {G : Gen} {tg : Tg} {c e : Ex} {env : Mi.Env} {S : Store} {ds : List D} {s : Src} (p : D → Bool) (f : D → D) (ha : ∀ j l, s.at j (S ++ l) = .ok ds[j]? (S ++ l)) (hL : ds.length < G.L) (hl : ds.length ≤ 1000000)
    (h : ∀ d acc, d ∈ ds → W (tg.bind d env (S ++ [.lst acc])) (fun env1 T1 => W (ev G c env1 T1) (cTr NoEx fun k T2 => k = p d ∧ T2 = S ++ [.lst acc] ∧ (p d = true → W (ev G e env1 T2) (fun x T3 => x = f d ∧ T3 = S ++ [.lst acc]) NoEx)) NoEx) NoEx)
    (hΦ : Φ (.ref S.length) (S ++ [.lst ((ds.filter p).map f)])) : cLc G tg (some c) e env Φ s S := by
  unfold cLc
  refine lc_src (ds := ds) (fun j acc T => acc = ((ds.take j).filter p).map f ∧ T = S ++ [.lst acc]) (fun j acc T h => ?_) (fun j d acc T h1 h2 h3 h4 => ?_) (fun acc T h1 h2 => ?_) hl _ 0 [] _ (Nat.zero_le _) (by omega) (Nat.zero_le _) ⟨rfl, rfl⟩ get_new
  · obtain ⟨rfl, rfl⟩ := h
    exact ha _ _
  · obtain ⟨h5, rfl⟩ := h2
    have e1 : (ds.take (j + 1)).filter p = (ds.take j).filter p ++ [d].filter p := by rw [List.take_add_one, h1, List.filter_append]; rfl
    refine W_mono (h d acc (List.mem_of_getElem? h1)) (fun env1 T1 h6 => ?_) fun _ _ h => h
    rw [Wc_some]
    refine W_mono h6 (fun x T2 h7 => ?_) fun _ _ h => h
    unfold cTr at h7 ⊢
    refine W_mono h7 (fun k T3 h8 => ?_) fun _ _ h => h
    obtain ⟨rfl, rfl, h9⟩ := h8
    refine ⟨fun ek => W_mono (h9 ek) (fun x T4 h10 => ?_) fun _ _ h => h, fun ek => ⟨h3, ?_, rfl⟩⟩
    · obtain ⟨rfl, rfl⟩ := h10
      refine ⟨get_new, ?_, ?_⟩
      · rw [e1, List.filter_cons_of_pos ek, List.filter_nil, List.map_append, h5]
        rfl
      · rw [List.set_append_right _ _ (Nat.le_refl _), Nat.sub_self]
        rfl
    · rw [e1, List.filter_cons_of_neg (by rw [ek]; exact Bool.false_ne_true), List.filter_nil, List.append_nil, h5]
  · obtain ⟨rfl, rfl⟩ := h1
    rw [List.take_length]
    exact hΦ
theorem gc_bag {T l : Store} {b : Nat} {d : D} {c c' : Cell} (hb : b < T.length) (hd : D.pure d = true) (hc : Cell.pure c' = true) : gc (T.set b c) (.ok d ((T ++ l).set b c')) = .ok d (T.set b c') := by
  have e : (T ++ l).set b c' = (T.set b c).set b c' ++ l := by rw [set_set, List.set_append_left _ _ hb]
  rw [e, gc_set hd hc, set_set]
/-- a plain answer, the bag drawn from -/
theorem gc_drawn {T : Store} {b : Nat} {c : Cell} {o : Out D} {x3 : Int} {P : D → Prop} (hb : b < T.length) (h : W o (fun d S' => D.pure d = true ∧ P d ∧ ∃ l y0 y1 y2, S' = (T ++ l).set b (bg y0 y1 y2 x3)) NoEx) :
    ∃ d y0 y1 y2, gc (T.set b c) o = .ok d (T.set b (bg y0 y1 y2 x3)) ∧ P d := by
  cases o with
  | ok d S' =>
    obtain ⟨h1, h2, l, y0, y1, y2, rfl⟩ := h
    exact ⟨d, y0, y1, y2, gc_bag hb h1 rfl, h2⟩
  | er e S' => exact h.elim
  | no => exact h.elim
theorem set_mid {T l : Store} {b : Nat} {c c0 c1 : Cell} (h : b < T.length) : ((T ++ [c0] ++ l).set b c).set T.length c1 = (T ++ [c1] ++ l).set b c := by
  rw [List.set_comm _ _ (by omega), List.append_assoc, List.set_append_right _ _ (Nat.le_refl _), Nat.sub_self, List.append_assoc]
  rfl
/-- a loop over what does not change -/
theorem for_src {Φ : Fl → Mi.Env → Store → Prop} {Ψ : Exn → Store → Prop} {ds : List D} {s : Src} {tg : Tg} {b : SM} (I : Nat → Mi.Env → Store → Prop) (ha : ∀ j env S, I j env S → s.at j S = .ok ds[j]? S)
    (hs : ∀ j d env S, ds[j]? = some d → I j env S → W (tg.bind d env S) (fun env1 S2 => WS (b env1 S2) (loopK (I (j + 1)) Φ) Ψ) Ψ)
    (he : ∀ env S, I ds.length env S → Φ .nx env S) : ∀ (n i : Nat) (env : Mi.Env) (S : Store), i ≤ ds.length → ds.length < n + i → I i env S → WS (forF s tg b n i env S) Φ Ψ
  | 0, i, env, S, h1, h2, h => by omega
  | n + 1, i, env, S, h1, h2, h => by
    rw [forF_one, ha i env S h, W_ok]
    cases e : ds[i]? with
    | none =>
      have e1 : i = ds.length := by
        have := List.getElem?_eq_none_iff.mp e
        omega
      rw [e1] at h
      exact he _ _ h
    | some d =>
      have hi : i < ds.length := (List.getElem?_eq_some_iff.mp e).1
      refine W_mono (hs i d env S e h) (fun env1 S2 h1 => WS_mono h1 (fun f env2 S3 h2 => ?_) fun _ _ h => h) fun _ _ h => h
      have go := for_src I ha hs he n (i + 1) env2 S3 (by omega) (by omega)
      cases f with
      | nx => exact go h2
      | ct => exact go h2
      | bk => exact h2
      | rt d => exact h2
/-! ### places of parts -/
def places : Nat → List F → List (D × D)
  | _, [] => []
  | o, f :: t => (enc f, .int o) :: places (o + 1) t
theorem places_app : ∀ (l : List F) (o : Nat) (x : F), places o (l ++ [x]) = places o l ++ [(enc x, .int ((o + l.length : Nat) : Int))]
  | [], o, x => rfl
  | f :: t, o, x => by
    show (enc f, .int o) :: places (o + 1) (t ++ [x]) = (enc f, .int o) :: (places (o + 1) t ++ _)
    rw [places_app t (o + 1) x, List.length_cons, show o + 1 + t.length = o + (t.length + 1) by omega]
theorem places_no {g : F} : ∀ {l : List F} {o : Nat}, g ∉ l → ((places o l).any fun p => decide (p.1 = enc g)) = false
  | [], _, _ => rfl
  | f :: t, o, h => by
    show (decide (enc f = enc g) || (places (o + 1) t).any fun p => decide (p.1 = enc g)) = false
    rw [decide_eq_false fun e => h (by rw [← enc_inj e]; exact List.mem_cons_self), places_no fun z => h (List.mem_cons_of_mem _ z)]
    rfl
theorem places_at {g : F} : ∀ {l : List F} {o i : Nat}, l.Nodup → l[i]? = some g → dval (places o l) (enc g) = some (.int ((o + i : Nat) : Int))
  | f :: t, o, 0, _, h => by
    have e : f = g := Option.some.inj h
    subst e
    show (List.find? _ ((enc f, D.int o) :: places (o + 1) t)).map (·.2) = _
    rw [List.find?_cons_of_pos (by exact decide_eq_true rfl)]
    rfl
  | f :: t, o, i + 1, n, h => by
    rw [List.nodup_cons] at n
    have e : ¬(enc f = enc g) := fun e => n.1 (by rw [enc_inj e]; exact List.mem_of_getElem? h)
    have ih := places_at (g := g) (o := o + 1) n.2 h
    show (List.find? _ ((enc f, D.int o) :: places (o + 1) t)).map (·.2) = _
    rw [List.find?_cons_of_neg (by show ¬(decide (enc f = enc g) = true); rw [decide_eq_false e]; exact Bool.false_ne_true)]
    rw [show o + (i + 1) = o + 1 + i by omega]
    exact ih
theorem places_len : ∀ (l : List F) (o : Nat), (places o l).length = l.length
  | [], _ => rfl
  | f :: t, o => by show (places (o + 1) t).length + 1 = _; rw [places_len]; rfl
theorem enc_dep : ∀ f : F, Mi.dep (enc f) ≤ fdep f
  | .now _ => by show Mi.dep (.tup [.str "now", .int _]) ≤ 2; simp only [Mi.dep, Mi.deps]; omega
  | .tru => by decide +kernel
  | .fls => by decide +kernel
  | .nt f => by have := enc_dep f; have := fdep_pos f; simp only [enc, Mi.dep, Mi.deps, fdep]; omega
  | .bf f => by have := enc_dep f; have := fdep_pos f; simp only [enc, Mi.dep, Mi.deps, fdep]; omega
  | .on f => by have := enc_dep f; have := fdep_pos f; simp only [enc, Mi.dep, Mi.deps, fdep]; omega
  | .sf f => by have := enc_dep f; have := fdep_pos f; simp only [enc, Mi.dep, Mi.deps, fdep]; omega
  | .an f g => by have := enc_dep f; have := enc_dep g; have := fdep_pos f; simp only [enc, Mi.dep, Mi.deps, fdep]; omega
  | .or f g => by have := enc_dep f; have := enc_dep g; have := fdep_pos f; simp only [enc, Mi.dep, Mi.deps, fdep]; omega
  | .si f g => by have := enc_dep f; have := enc_dep g; have := fdep_pos f; simp only [enc, Mi.dep, Mi.deps, fdep]; omega
theorem enc_keyB : ∀ f : F, keyB (enc f) = true
  | .now _ => by show (PyData.strOk "now" && (true && true)) = true; decide +kernel
  | .tru => by decide +kernel
  | .fls => by decide +kernel
  | .nt f => by show (PyData.strOk "not" && (keyB (enc f) && true)) = true; rw [enc_keyB f]; decide +kernel
  | .bf f => by show (PyData.strOk "before" && (keyB (enc f) && true)) = true; rw [enc_keyB f]; decide +kernel
  | .on f => by show (PyData.strOk "once" && (keyB (enc f) && true)) = true; rw [enc_keyB f]; decide +kernel
  | .sf f => by show (PyData.strOk "sofar" && (keyB (enc f) && true)) = true; rw [enc_keyB f]; decide +kernel
  | .an f g => by show (PyData.strOk "and" && (keyB (enc f) && (keyB (enc g) && true))) = true; rw [enc_keyB f, enc_keyB g]; decide +kernel
  | .or f g => by show (PyData.strOk "or" && (keyB (enc f) && (keyB (enc g) && true))) = true; rw [enc_keyB f, enc_keyB g]; decide +kernel
  | .si f g => by show (PyData.strOk "since" && (keyB (enc f) && (keyB (enc g) && true))) = true; rw [enc_keyB f, enc_keyB g]; decide +kernel
theorem enc_isT {f : F} (h : fdep f ≤ 8) : isT (enc f) = true := by
  have h1 := Nat.le_trans (enc_dep f) h
  have h2 := enc_keyB f
  cases f <;> (show (keysB _ && decide _) = true; rw [Bool.and_eq_true]; exact ⟨h2, decide_eq_true h1⟩)
theorem places_k : ∀ {l : List F} {o : Nat}, (∀ f ∈ l, fdep f ≤ 8) → ((places o l).all fun p => isT p.1) = true
  | [], _, _ => rfl
  | f :: t, o, h => by
    show (isT (enc f) && (places (o + 1) t).all fun p => isT p.1) = true
    rw [enc_isT (h f List.mem_cons_self), places_k fun g hg => h g (List.mem_cons_of_mem _ hg)]
    rfl
theorem places_ok {l : List F} {o : Nat} {g : F} (h : ∀ f ∈ l, fdep f ≤ 8) (hg : fdep g ≤ 8) : kOk (places o l) (enc g) = true := by
  unfold kOk
  rw [enc_isT hg, places_k h, Bool.and_self, Bool.or_true]
theorem ix_place {S : Store} {b : Nat} {l : List F} {g : F} {i : Nat} (hb : S[b]? = some (.dic (places 0 l))) (h : ∀ f ∈ l, fdep f ≤ 8) (hn : l.Nodup) (hi : l[i]? = some g) : ixM (.ref b) (enc g) S = .ok (.int (i : Int)) S := by
  have h1 := places_ok (o := 0) h (h g (List.mem_of_getElem? hi))
  have h2 := places_at (o := 0) hn hi
  rw [Nat.zero_add] at h2
  obtain ⟨ds, e⟩ : ∃ ds, enc g = .tup ds := by cases g <;> exact ⟨_, rfl⟩
  rw [e] at h1 h2 ⊢
  rw [W_eq, Wx_reft, hb, Wcx_d, kDx_, h2, Wop_s]
  exact ⟨h1, rfl, rfl⟩
theorem atoms_dep : ∀ f : F, atoms f * 4 ≤ 2 ^ fdep f
  | .now _ => by show (1 : Int) * 4 ≤ 2 ^ 2; decide
  | .tru => by show (0 : Int) * 4 ≤ 2 ^ 2; decide
  | .fls => by show (0 : Int) * 4 ≤ 2 ^ 2; decide
  | .nt f => by have := atoms_dep f; have : (0 : Int) < 2 ^ fdep f := Int.pow_pos (by decide); simp only [atoms, fdep, Int.pow_succ]; omega
  | .bf f => by have := atoms_dep f; have : (0 : Int) < 2 ^ fdep f := Int.pow_pos (by decide); simp only [atoms, fdep, Int.pow_succ]; omega
  | .on f => by have := atoms_dep f; have : (0 : Int) < 2 ^ fdep f := Int.pow_pos (by decide); simp only [atoms, fdep, Int.pow_succ]; omega
  | .sf f => by have := atoms_dep f; have : (0 : Int) < 2 ^ fdep f := Int.pow_pos (by decide); simp only [atoms, fdep, Int.pow_succ]; omega
  | .an f g => atoms_two (atoms_dep f) (atoms_dep g)
  | .or f g => atoms_two (atoms_dep f) (atoms_dep g)
  | .si f g => atoms_two (atoms_dep f) (atoms_dep g)
theorem atoms_le {f : F} (h : fdep f ≤ 7) : atoms f ≤ 40 := by
  have h1 := atoms_dep f
  have h2 := pow_up h
  have e : (2 : Int) ^ 7 = 128 := by decide
  omega
abbrev stf (a b : Nat) : List (Str × D) := [("_parts", .ref a), ("_places", .ref b)]
theorem stf_a {a b : Nat} : List.lookup (α := Str) (β := D) "_parts" [("_parts", .ref a), ("_places", .ref b)] = some (.ref a) := rfl
theorem stf_b {a b : Nat} : List.lookup (α := Str) (β := D) "_places" [("_parts", .ref a), ("_places", .ref b)] = some (.ref b) := rfl
theorem stf_1 {a : Nat} : List.lookup (α := Str) (β := D) "_parts" [("_parts", .ref a)] = some (.ref a) := rfl
theorem stf_n {a b : Nat} : (List.lookup (α := Str) (β := D) "next" [("_parts", .ref a), ("_places", .ref b)]).isNone = true := rfl
theorem stf_t {a b : Nat} : (List.lookup (α := Str) (β := D) "_truth" [("_parts", .ref a), ("_places", .ref b)]).isNone = true := rfl
theorem stf_s0 {x : D} : setF [] "_parts" x = [(("_parts" : Str), x)] := rfl
theorem stf_s1 {x y : D} : setF [(("_parts" : Str), x)] "_places" y = [(("_parts" : Str), x), (("_places" : Str), y)] := rfl
theorem cut2 {x y : D} : cutL [x, y] (some 1) none = [y] := rfl
theorem cut3 {x y z : D} : cutL [x, y, z] (some 1) none = [y, z] := rfl
/-- the truths of rows of formulas -/
def row (w : List Int) (ps : List F) (p : Nat) : List D := ps.map fun h => D.bl (sem w h p)
theorem row_at {w : List Int} {ps : List F} {p i : Nat} {g : F} (h : ps[i]? = some g) : (row w ps p)[i]? = some (.bl (sem w g p)) := by
  unfold row
  rw [List.getElem?_map, h]
  rfl
theorem row_len {w : List Int} {ps : List F} {p : Nat} : (row w ps p).length = ps.length := List.length_map ..
theorem row_pure {w : List Int} {p : Nat} : ∀ ps : List F, pures (row w ps p) = true
  | [] => rfl
  | _ :: ps => row_pure ps
/-- the state behind p letters -/
def stt (w : List Int) (ps : List F) : Nat → D
  | 0 => .non
  | p + 1 => .tup (row w ps p)
theorem stt_pure {w : List Int} {ps : List F} : ∀ {p : Nat}, D.pure (stt w ps p) = true
  | 0 => rfl
  | p + 1 => row_pure ps
theorem gcOkN_bad {n : Nat} {c c' : Cell} (h : (Cell.same c' c || Cell.low n c') = false) : ∀ (S l : Store), gcOkN n (S ++ [c]) (S ++ c' :: l) = false
  | [], l => by
    show ((Cell.same c' c || Cell.low n c') && gcOkN n [] l) = false
    rw [h]
    rfl
  | d :: S, l => by
    show ((Cell.same d d || Cell.low n d) && gcOkN n (S ++ [c]) (S ++ c' :: l)) = false
    rw [gcOkN_bad h S l, Bool.and_false]
/-- the text of a row of truths -/
def txt (bs : List Bool) : Str := (PyData.tuple (bs.map .bool)).shown
theorem shown_bls : ∀ bs : List Bool, piled (PyData.shownAll (bs.map .bool)) ≤ 7 * bs.length
  | [] => Nat.le_refl _
  | b :: bs => by
    have ih := shown_bls bs
    show piled ((PyData.bool b).shown :: PyData.shownAll (bs.map .bool)) ≤ _
    have e : (PyData.bool b).shown.length ≤ 5 := by cases b <;> decide
    rw [piled_cons, List.length_cons]
    omega
theorem txt_len (bs : List Bool) : (txt bs).length ≤ 7 * bs.length + 10 := by
  have h := shown_bls bs
  show (tupleText (PyData.shownAll (bs.map .bool))).length ≤ _
  unfold tupleText
  rw [PySem.strLen_append, PySem.strLen_append]
  have e1 : ((("(" : String) : Str)).length = 1 := rfl
  have e3 : (((if (PyData.shownAll (bs.map .bool)).length == 1 then ",)" else ")" : String) : Str)).length ≤ 2 := by split <;> decide
  rw [e1]
  by_cases h0 : PyData.shownAll (bs.map .bool) = []
  · rw [h0] at e3 ⊢
    have e4 : (Str.join ", " []).length = 0 := rfl
    omega
  · have := PySem.join_length_add _ h0
    omega
theorem show_bls : ∀ bs : List Bool, PyData.showableAll (bs.map .bool) = true
  | [] => rfl
  | _ :: bs => show_bls bs
theorem nodict_bls : ∀ bs : List Bool, PyData.hasDictAll (bs.map .bool) = false
  | [] => rfl
  | _ :: bs => nodict_bls bs
theorem repr_bls {S : Store} {bs : List Bool} (h : bs.length ≤ 100000) : bltM .repr [.tup (bs.map D.bl)] S = .ok (.str (txt bs)) S := by
  show (match toPy S 20 (.tup (bs.map D.bl)) with | some p => (M.need (p.showable && (!p.hasDict && decide (p.shown.length ≤ lim))) >>= fun _ => M.ret (D.str p.shown)) S | none => .no) = _
  have e : toPy S 20 (.tup (bs.map D.bl)) = some (.tuple (bs.map .bool)) := by
    show ((bs.map D.bl).mapM (toPy S 19)).map PyData.tuple = _
    rw [toPy_bls]
    rfl
  rw [e]
  have l := txt_len bs
  have e1 : (PyData.tuple (bs.map .bool)).showable = true := show_bls bs
  have e2 : (PyData.tuple (bs.map .bool)).hasDict = false := nodict_bls bs
  dsimp only
  rw [e1, e2, decide_eq_true (show (PyData.tuple (bs.map .bool)).shown.length ≤ lim from by show (txt bs).length ≤ 1000000; omega)]
  rfl
end Pf

namespace K12
open PySem PySem.Spec Mi Pf
abbrev pst (n m : Int) : Cell := .ins 0 [("_n", .int n), ("many", .int m)]
theorem is_integer {k : Nat} {S : Store} {d : D} {lo hi : Int} {t : Ty} (h : tyOf' S d = some t) (hk : 1 ≤ k) : callN prg k 0 [d, .int lo, .int hi] S = .ok (.bl (isInt lo hi d)) S := by
  obtain ⟨k, rfl⟩ : ∃ j, k = j + 1 := ⟨k - 1, by omega⟩
  rw [call_is_integer]
  refine gc_is ?_ rfl
  unfold b_is_integer
  cases d with
  | int i =>
    clear h
    by_cases h1 : lo ≤ i <;> by_cases h2 : i ≤ hi <;> simp (disch := first | assumption | rfl | omega | (simp only [List.length_set, List.length_append, List.length_cons, List.length_nil, List.length_map]; omega) | decide +kernel) only [↓miA, miB, miC, ex_nil, ex_app, ex_app2, ex_app3, ex_app4, ex_app5, ex_app6, in62r, inWr, inWl, lim, List.length_set, List.length_cons, List.length_nil, List.getElem?_cons_zero, List.getElem?_cons_succ, List.set_cons_zero, List.set_cons_succ, Int.reduceToNat, eq_self, List.zip_nil_left, List.zip_nil_right, List.zip_cons_cons, decide_true, decide_eq_true, decide_eq_false, Bool.not_true, Bool.not_false, Bool.and_true, Bool.and_false, Bool.true_and, Bool.false_and, Bool.or_true, Bool.or_false, Bool.true_or, Bool.false_or, Bool.not_not, List.isEmpty_nil, List.isEmpty_cons, true_and, and_true, isInt]
  | ref r => rcases ty_ref h with rfl | rfl <;> simp (disch := first | assumption | rfl | omega | (simp only [List.length_set, List.length_append, List.length_cons, List.length_nil, List.length_map]; omega) | decide +kernel) only [↓miA, miB, miC, ex_nil, ex_app, ex_app2, ex_app3, ex_app4, ex_app5, ex_app6, in62r, inWr, inWl, lim, List.length_set, List.length_cons, List.length_nil, List.getElem?_cons_zero, List.getElem?_cons_succ, List.set_cons_zero, List.set_cons_succ, Int.reduceToNat, eq_self, List.zip_nil_left, List.zip_nil_right, List.zip_cons_cons, decide_true, decide_eq_true, decide_eq_false, Bool.not_true, Bool.not_false, Bool.and_true, Bool.and_false, Bool.true_and, Bool.false_and, Bool.or_true, Bool.or_false, Bool.true_or, Bool.false_or, Bool.not_not, List.isEmpty_nil, List.isEmpty_cons, true_and, and_true, h, isInt]
  | fn => cases h
  | ty => cases h
  | _ => clear h; simp (disch := first | assumption | rfl | omega | (simp only [List.length_set, List.length_append, List.length_cons, List.length_nil, List.length_map]; omega) | decide +kernel) only [↓miA, miB, miC, ex_nil, ex_app, ex_app2, ex_app3, ex_app4, ex_app5, ex_app6, in62r, inWr, inWl, lim, List.length_set, List.length_cons, List.length_nil, List.getElem?_cons_zero, List.getElem?_cons_succ, List.set_cons_zero, List.set_cons_succ, Int.reduceToNat, eq_self, List.zip_nil_left, List.zip_nil_right, List.zip_cons_cons, decide_true, decide_eq_true, decide_eq_false, Bool.not_true, Bool.not_false, Bool.and_true, Bool.and_false, Bool.true_and, Bool.false_and, Bool.or_true, Bool.or_false, Bool.true_or, Bool.false_or, Bool.not_not, List.isEmpty_nil, List.isEmpty_cons, true_and, and_true, isInt]
theorem is_int_i {k : Nat} {S : Store} {i lo hi : Int} (hk : 1 ≤ k) : callN prg k 0 [.int i, .int lo, .int hi] S = .ok (.bl (decide (lo ≤ i) && decide (i ≤ hi))) S := is_integer (d := .int i) rfl hk
theorem is_int_b {k : Nat} {S : Store} {b : Bool} {lo hi : Int} (hk : 1 ≤ k) : callN prg k 0 [.bl b, .int lo, .int hi] S = .ok (.bl false) S := is_integer (d := .bl b) rfl hk
theorem is_int_s {k : Nat} {S : Store} {b : Str} {lo hi : Int} (hk : 1 ≤ k) : callN prg k 0 [.str b, .int lo, .int hi] S = .ok (.bl false) S := is_integer (d := .str b) rfl hk
theorem form_of {k : Nat} {S : Store} {x : Str} {ds : List D} {m : Int} (h : (toPy S 60 (.tup (.str x :: ds))).isSome = true) (hm : ((ds.length + 1 : Nat) : Int) = m) (hk : 1 ≤ k) : callN prg k 3 [.tup (.str x :: ds)] S = .ok (.tup [.str x, .int m]) S := by
  obtain ⟨k, rfl⟩ : ∃ j, k = j + 1 := ⟨k - 1, by omega⟩
  subst hm
  rw [call_form_of]
  refine gc_is ?_ rfl
  unfold b_form_of
  simp (disch := first | assumption | rfl | omega | (simp only [List.length_set, List.length_append, List.length_cons, List.length_nil, List.length_map]; omega) | decide +kernel) only [↓miA, miB, miC, ex_nil, ex_app, ex_app2, ex_app3, ex_app4, ex_app5, ex_app6, in62r, inWr, inWl, lim, List.length_set, List.length_cons, List.length_nil, List.getElem?_cons_zero, List.getElem?_cons_succ, List.set_cons_zero, List.set_cons_succ, Int.reduceToNat, eq_self, List.zip_nil_left, List.zip_nil_right, List.zip_cons_cons, decide_true, decide_eq_true, decide_eq_false, Bool.not_true, Bool.not_false, Bool.and_true, Bool.and_false, Bool.true_and, Bool.false_and, Bool.or_true, Bool.or_false, Bool.true_or, Bool.false_or, Bool.not_not, List.isEmpty_nil, List.isEmpty_cons, true_and, and_true, eq_unit h]
theorem form_f {k : Nat} {S : Store} {f : F} {x : Str} {ds : List D} {m : Int} (h : fdep f ≤ 50) (e : enc f = .tup (.str x :: ds)) (hm : ((ds.length + 1 : Nat) : Int) = m) (hk : 1 ≤ k) : callN prg k 3 [.tup (.str x :: ds)] S = .ok (.tup [.str x, .int m]) S := by
  refine form_of ?_ hm hk
  rw [← e]
  exact some_tr (enc_tr h) (by omega)
theorem form_non {k : Nat} {S : Store} (hk : 1 ≤ k) : callN prg k 3 [.non] S = .ok (.tup [.str "", .int 0]) S := by
  obtain ⟨k, rfl⟩ : ∃ j, k = j + 1 := ⟨k - 1, by omega⟩
  rw [call_form_of]
  refine gc_is ?_ rfl
  unfold b_form_of
  simp (disch := first | assumption | rfl | omega | (simp only [List.length_set, List.length_append, List.length_cons, List.length_nil, List.length_map]; omega) | decide +kernel) only [↓miA, miB, miC, ex_nil, ex_app, ex_app2, ex_app3, ex_app4, ex_app5, ex_app6, in62r, inWr, inWl, lim, List.length_set, List.length_cons, List.length_nil, List.getElem?_cons_zero, List.getElem?_cons_succ, List.set_cons_zero, List.set_cons_succ, Int.reduceToNat, eq_self, List.zip_nil_left, List.zip_nil_right, List.zip_cons_cons, decide_true, decide_eq_true, decide_eq_false, Bool.not_true, Bool.not_false, Bool.and_true, Bool.and_false, Bool.true_and, Bool.false_and, Bool.or_true, Bool.or_false, Bool.true_or, Bool.false_or, Bool.not_not, List.isEmpty_nil, List.isEmpty_cons, true_and, and_true]
/-- the counter goes on by the atoms -/
theorem is_good {n : Int} {f : F} : ∀ {k : Nat} {S : Store} {r : Nat} {m left : Int}, S[r]? = some (pst n m) → trn n f → (fdep f : Int) ≤ left → fdep f + 2 ≤ k → fdep f ≤ 50 → callN prg k 5 [.ref r, enc f, .int left] S = .ok (.bl true) (S.set r (pst n (m + atoms f))) := by
  have fin : ∀ {k : Nat} {S : Store} {r : Nat} {m left : Int} {f : F} {S' : Store}, S[r]? = some (pst n m) → S' = S.set r (pst n (m + atoms f)) → W (endOf (xss ⟨callN prg k, 1000000⟩ b_Past_is_good [some (.ref r), some (enc f), some (.int left), none] S)) (fun d T => d = .bl true ∧ T = S') NoEx → callN prg (k + 1) 5 [.ref r, enc f, .int left] S = .ok (.bl true) (S.set r (pst n (m + atoms f))) := by
    intro k S r m left f S' hr e h
    rw [call_Past_is_good, W_eq.mpr h, e]
    exact gc_set0 rfl rfl
  induction f with
  | now i =>
    intro k S r m left hr ht hl hk h5
    obtain ⟨k, rfl⟩ : ∃ j, k = j + 1 := ⟨k - 1, by omega⟩
    have hlt : r < S.length := (List.getElem?_eq_some_iff.mp hr).1
    refine fin (f := .now i) hr rfl ?_
    unfold b_Past_is_good
    simp only [fdep] at hl hk h5
    have h1 : 0 ≤ i := ht.1
    have h2 : i ≤ n - 1 := by have := ht.2; omega
    simp only [enc]
    simp (disch := first | assumption | rfl | omega | (simp only [List.length_set, List.length_append, List.length_cons, List.length_nil, List.length_map]; omega) | decide +kernel) only [↓miA, miB, miC, ex_nil, ex_app, ex_app2, ex_app3, ex_app4, ex_app5, ex_app6, in62r, inWr, inWl, lim, List.length_set, List.length_cons, List.length_nil, List.getElem?_cons_zero, List.getElem?_cons_succ, List.set_cons_zero, List.set_cons_succ, Int.reduceToNat, eq_self, List.zip_nil_left, List.zip_nil_right, List.zip_cons_cons, decide_true, decide_eq_true, decide_eq_false, Bool.not_true, Bool.not_false, Bool.and_true, Bool.and_false, Bool.true_and, Bool.false_and, Bool.or_true, Bool.or_false, Bool.true_or, Bool.false_or, Bool.not_not, List.isEmpty_nil, List.isEmpty_cons, true_and, and_true, form_f (f := .now i) (S := S) (x := "now") (ds := [.int i]) (m := 2) (k := k) h5 rfl rfl (by omega), hr, in_tf' (x := "now") (m := 2) (b := false) (by decide +kernel) (by decide +kernel), eq_now (x := "now") (m := 2) (b := true) (by decide +kernel) (by decide +kernel), pst_m, pst_s, pst_n, is_int_i (k := k), atoms]
  | tru =>
    intro k S r m left hr ht hl hk h5
    obtain ⟨k, rfl⟩ : ∃ j, k = j + 1 := ⟨k - 1, by omega⟩
    refine fin (f := .tru) (S' := S) hr (by rw [show m + atoms .tru = m from Int.add_zero m]; exact set_self hr) ?_
    unfold b_Past_is_good
    simp only [fdep] at hl hk h5
    simp only [enc]
    simp (disch := first | assumption | rfl | omega | (simp only [List.length_set, List.length_append, List.length_cons, List.length_nil, List.length_map]; omega) | decide +kernel) only [↓miA, miB, miC, ex_nil, ex_app, ex_app2, ex_app3, ex_app4, ex_app5, ex_app6, in62r, inWr, inWl, lim, List.length_set, List.length_cons, List.length_nil, List.getElem?_cons_zero, List.getElem?_cons_succ, List.set_cons_zero, List.set_cons_succ, Int.reduceToNat, eq_self, List.zip_nil_left, List.zip_nil_right, List.zip_cons_cons, decide_true, decide_eq_true, decide_eq_false, Bool.not_true, Bool.not_false, Bool.and_true, Bool.and_false, Bool.true_and, Bool.false_and, Bool.or_true, Bool.or_false, Bool.true_or, Bool.false_or, Bool.not_not, List.isEmpty_nil, List.isEmpty_cons, true_and, and_true, form_f (f := .tru) (S := S) (x := "true") (ds := []) (m := 1) (k := k) h5 rfl rfl (by omega), hr, in_tf' (x := "true") (m := 1) (b := true) (by decide +kernel) (by decide +kernel)]
  | fls =>
    intro k S r m left hr ht hl hk h5
    obtain ⟨k, rfl⟩ : ∃ j, k = j + 1 := ⟨k - 1, by omega⟩
    refine fin (f := .fls) (S' := S) hr (by rw [show m + atoms .fls = m from Int.add_zero m]; exact set_self hr) ?_
    unfold b_Past_is_good
    simp only [fdep] at hl hk h5
    simp only [enc]
    simp (disch := first | assumption | rfl | omega | (simp only [List.length_set, List.length_append, List.length_cons, List.length_nil, List.length_map]; omega) | decide +kernel) only [↓miA, miB, miC, ex_nil, ex_app, ex_app2, ex_app3, ex_app4, ex_app5, ex_app6, in62r, inWr, inWl, lim, List.length_set, List.length_cons, List.length_nil, List.getElem?_cons_zero, List.getElem?_cons_succ, List.set_cons_zero, List.set_cons_succ, Int.reduceToNat, eq_self, List.zip_nil_left, List.zip_nil_right, List.zip_cons_cons, decide_true, decide_eq_true, decide_eq_false, Bool.not_true, Bool.not_false, Bool.and_true, Bool.and_false, Bool.true_and, Bool.false_and, Bool.or_true, Bool.or_false, Bool.true_or, Bool.false_or, Bool.not_not, List.isEmpty_nil, List.isEmpty_cons, true_and, and_true, form_f (f := .fls) (S := S) (x := "false") (ds := []) (m := 1) (k := k) h5 rfl rfl (by omega), hr, in_tf' (x := "false") (m := 1) (b := true) (by decide +kernel) (by decide +kernel)]
  | nt f ih =>
    intro k S r m left hr ht hl hk h5
    obtain ⟨k, rfl⟩ : ∃ j, k = j + 1 := ⟨k - 1, by omega⟩
    refine fin (f := .nt f) hr rfl ?_
    unfold b_Past_is_good
    have h5' := h5
    simp only [fdep] at hl hk h5
    have h0 := fdep_pos f
    simp only [enc]
    simp (disch := first | assumption | rfl | omega | (simp only [List.length_set, List.length_append, List.length_cons, List.length_nil, List.length_map]; omega) | decide +kernel) only [↓miA, miB, miC, ex_nil, ex_app, ex_app2, ex_app3, ex_app4, ex_app5, ex_app6, in62r, inWr, inWl, lim, List.length_set, List.length_cons, List.length_nil, List.getElem?_cons_zero, List.getElem?_cons_succ, List.set_cons_zero, List.set_cons_succ, Int.reduceToNat, eq_self, List.zip_nil_left, List.zip_nil_right, List.zip_cons_cons, decide_true, decide_eq_true, decide_eq_false, Bool.not_true, Bool.not_false, Bool.and_true, Bool.and_false, Bool.true_and, Bool.false_and, Bool.or_true, Bool.or_false, Bool.true_or, Bool.false_or, Bool.not_not, List.isEmpty_nil, List.isEmpty_cons, true_and, and_true, form_f (f := .nt f) (S := S) (x := "not") (ds := [enc f]) (m := 2) (k := k) h5' rfl rfl (by omega), hr, in_tf' (x := "not") (m := 2) (b := false) (by decide +kernel) (by decide +kernel), eq_now (x := "not") (m := 2) (b := false) (by decide +kernel) (by decide +kernel), po (x := "not") (b := true) (by decide +kernel) (by decide +kernel), pst_no, List.lookup_cons_self, ih (k := k) (S := S) (r := r) (m := m) (left := left - 1) hr ht (by omega) (by omega) (by omega), atoms]
  | bf f ih =>
    intro k S r m left hr ht hl hk h5
    obtain ⟨k, rfl⟩ : ∃ j, k = j + 1 := ⟨k - 1, by omega⟩
    refine fin (f := .bf f) hr rfl ?_
    unfold b_Past_is_good
    have h5' := h5
    simp only [fdep] at hl hk h5
    have h0 := fdep_pos f
    simp only [enc]
    simp (disch := first | assumption | rfl | omega | (simp only [List.length_set, List.length_append, List.length_cons, List.length_nil, List.length_map]; omega) | decide +kernel) only [↓miA, miB, miC, ex_nil, ex_app, ex_app2, ex_app3, ex_app4, ex_app5, ex_app6, in62r, inWr, inWl, lim, List.length_set, List.length_cons, List.length_nil, List.getElem?_cons_zero, List.getElem?_cons_succ, List.set_cons_zero, List.set_cons_succ, Int.reduceToNat, eq_self, List.zip_nil_left, List.zip_nil_right, List.zip_cons_cons, decide_true, decide_eq_true, decide_eq_false, Bool.not_true, Bool.not_false, Bool.and_true, Bool.and_false, Bool.true_and, Bool.false_and, Bool.or_true, Bool.or_false, Bool.true_or, Bool.false_or, Bool.not_not, List.isEmpty_nil, List.isEmpty_cons, true_and, and_true, form_f (f := .bf f) (S := S) (x := "before") (ds := [enc f]) (m := 2) (k := k) h5' rfl rfl (by omega), hr, in_tf' (x := "before") (m := 2) (b := false) (by decide +kernel) (by decide +kernel), eq_now (x := "before") (m := 2) (b := false) (by decide +kernel) (by decide +kernel), po (x := "before") (b := true) (by decide +kernel) (by decide +kernel), pst_no, List.lookup_cons_self, ih (k := k) (S := S) (r := r) (m := m) (left := left - 1) hr ht (by omega) (by omega) (by omega), atoms]
  | on f ih =>
    intro k S r m left hr ht hl hk h5
    obtain ⟨k, rfl⟩ : ∃ j, k = j + 1 := ⟨k - 1, by omega⟩
    refine fin (f := .on f) hr rfl ?_
    unfold b_Past_is_good
    have h5' := h5
    simp only [fdep] at hl hk h5
    have h0 := fdep_pos f
    simp only [enc]
    simp (disch := first | assumption | rfl | omega | (simp only [List.length_set, List.length_append, List.length_cons, List.length_nil, List.length_map]; omega) | decide +kernel) only [↓miA, miB, miC, ex_nil, ex_app, ex_app2, ex_app3, ex_app4, ex_app5, ex_app6, in62r, inWr, inWl, lim, List.length_set, List.length_cons, List.length_nil, List.getElem?_cons_zero, List.getElem?_cons_succ, List.set_cons_zero, List.set_cons_succ, Int.reduceToNat, eq_self, List.zip_nil_left, List.zip_nil_right, List.zip_cons_cons, decide_true, decide_eq_true, decide_eq_false, Bool.not_true, Bool.not_false, Bool.and_true, Bool.and_false, Bool.true_and, Bool.false_and, Bool.or_true, Bool.or_false, Bool.true_or, Bool.false_or, Bool.not_not, List.isEmpty_nil, List.isEmpty_cons, true_and, and_true, form_f (f := .on f) (S := S) (x := "once") (ds := [enc f]) (m := 2) (k := k) h5' rfl rfl (by omega), hr, in_tf' (x := "once") (m := 2) (b := false) (by decide +kernel) (by decide +kernel), eq_now (x := "once") (m := 2) (b := false) (by decide +kernel) (by decide +kernel), po (x := "once") (b := true) (by decide +kernel) (by decide +kernel), pst_no, List.lookup_cons_self, ih (k := k) (S := S) (r := r) (m := m) (left := left - 1) hr ht (by omega) (by omega) (by omega), atoms]
  | sf f ih =>
    intro k S r m left hr ht hl hk h5
    obtain ⟨k, rfl⟩ : ∃ j, k = j + 1 := ⟨k - 1, by omega⟩
    refine fin (f := .sf f) hr rfl ?_
    unfold b_Past_is_good
    have h5' := h5
    simp only [fdep] at hl hk h5
    have h0 := fdep_pos f
    simp only [enc]
    simp (disch := first | assumption | rfl | omega | (simp only [List.length_set, List.length_append, List.length_cons, List.length_nil, List.length_map]; omega) | decide +kernel) only [↓miA, miB, miC, ex_nil, ex_app, ex_app2, ex_app3, ex_app4, ex_app5, ex_app6, in62r, inWr, inWl, lim, List.length_set, List.length_cons, List.length_nil, List.getElem?_cons_zero, List.getElem?_cons_succ, List.set_cons_zero, List.set_cons_succ, Int.reduceToNat, eq_self, List.zip_nil_left, List.zip_nil_right, List.zip_cons_cons, decide_true, decide_eq_true, decide_eq_false, Bool.not_true, Bool.not_false, Bool.and_true, Bool.and_false, Bool.true_and, Bool.false_and, Bool.or_true, Bool.or_false, Bool.true_or, Bool.false_or, Bool.not_not, List.isEmpty_nil, List.isEmpty_cons, true_and, and_true, form_f (f := .sf f) (S := S) (x := "sofar") (ds := [enc f]) (m := 2) (k := k) h5' rfl rfl (by omega), hr, in_tf' (x := "sofar") (m := 2) (b := false) (by decide +kernel) (by decide +kernel), eq_now (x := "sofar") (m := 2) (b := false) (by decide +kernel) (by decide +kernel), po (x := "sofar") (b := true) (by decide +kernel) (by decide +kernel), pst_no, List.lookup_cons_self, ih (k := k) (S := S) (r := r) (m := m) (left := left - 1) hr ht (by omega) (by omega) (by omega), atoms]
  | an f g ih ih2 =>
    intro k S r m left hr ht hl hk h5
    obtain ⟨k, rfl⟩ : ∃ j, k = j + 1 := ⟨k - 1, by omega⟩
    have hlt : r < S.length := (List.getElem?_eq_some_iff.mp hr).1
    refine fin (f := .an f g) hr rfl ?_
    unfold b_Past_is_good
    have h5' := h5
    simp only [fdep] at hl hk h5
    have h0 := fdep_pos f
    have h2 := fdep_pos g
    have hr2 : (S.set r (pst n (m + atoms f)))[r]? = some (pst n (m + atoms f)) := get_set_self hlt
    have e2 := ih2 (k := k) (S := S.set r (pst n (m + atoms f))) (r := r) (m := m + atoms f) (left := left - 1) hr2 ht.2 (by omega) (by omega) (by omega)
    rw [set_set, Int.add_assoc] at e2
    simp only [enc]
    simp (disch := first | assumption | rfl | omega | (simp only [List.length_set, List.length_append, List.length_cons, List.length_nil, List.length_map]; omega) | decide +kernel) only [↓miA, miB, miC, ex_nil, ex_app, ex_app2, ex_app3, ex_app4, ex_app5, ex_app6, in62r, inWr, inWl, lim, List.length_set, List.length_cons, List.length_nil, List.getElem?_cons_zero, List.getElem?_cons_succ, List.set_cons_zero, List.set_cons_succ, Int.reduceToNat, eq_self, List.zip_nil_left, List.zip_nil_right, List.zip_cons_cons, decide_true, decide_eq_true, decide_eq_false, Bool.not_true, Bool.not_false, Bool.and_true, Bool.and_false, Bool.true_and, Bool.false_and, Bool.or_true, Bool.or_false, Bool.true_or, Bool.false_or, Bool.not_not, List.isEmpty_nil, List.isEmpty_cons, true_and, and_true, form_f (f := .an f g) (S := S) (x := "and") (ds := [enc f, enc g]) (m := 3) (k := k) h5' rfl rfl (by omega), hr, in_tf' (x := "and") (m := 3) (b := false) (by decide +kernel) (by decide +kernel), eq_now (x := "and") (m := 3) (b := false) (by decide +kernel) (by decide +kernel), pt (x := "and") (b := true) (by decide +kernel) (by decide +kernel), pst_no, List.lookup_cons_self, ih (k := k) (S := S) (r := r) (m := m) (left := left - 1) hr ht.1 (by omega) (by omega) (by omega), e2, hr2, atoms]
  | or f g ih ih2 =>
    intro k S r m left hr ht hl hk h5
    obtain ⟨k, rfl⟩ : ∃ j, k = j + 1 := ⟨k - 1, by omega⟩
    have hlt : r < S.length := (List.getElem?_eq_some_iff.mp hr).1
    refine fin (f := .or f g) hr rfl ?_
    unfold b_Past_is_good
    have h5' := h5
    simp only [fdep] at hl hk h5
    have h0 := fdep_pos f
    have h2 := fdep_pos g
    have hr2 : (S.set r (pst n (m + atoms f)))[r]? = some (pst n (m + atoms f)) := get_set_self hlt
    have e2 := ih2 (k := k) (S := S.set r (pst n (m + atoms f))) (r := r) (m := m + atoms f) (left := left - 1) hr2 ht.2 (by omega) (by omega) (by omega)
    rw [set_set, Int.add_assoc] at e2
    simp only [enc]
    simp (disch := first | assumption | rfl | omega | (simp only [List.length_set, List.length_append, List.length_cons, List.length_nil, List.length_map]; omega) | decide +kernel) only [↓miA, miB, miC, ex_nil, ex_app, ex_app2, ex_app3, ex_app4, ex_app5, ex_app6, in62r, inWr, inWl, lim, List.length_set, List.length_cons, List.length_nil, List.getElem?_cons_zero, List.getElem?_cons_succ, List.set_cons_zero, List.set_cons_succ, Int.reduceToNat, eq_self, List.zip_nil_left, List.zip_nil_right, List.zip_cons_cons, decide_true, decide_eq_true, decide_eq_false, Bool.not_true, Bool.not_false, Bool.and_true, Bool.and_false, Bool.true_and, Bool.false_and, Bool.or_true, Bool.or_false, Bool.true_or, Bool.false_or, Bool.not_not, List.isEmpty_nil, List.isEmpty_cons, true_and, and_true, form_f (f := .or f g) (S := S) (x := "or") (ds := [enc f, enc g]) (m := 3) (k := k) h5' rfl rfl (by omega), hr, in_tf' (x := "or") (m := 3) (b := false) (by decide +kernel) (by decide +kernel), eq_now (x := "or") (m := 3) (b := false) (by decide +kernel) (by decide +kernel), pt (x := "or") (b := true) (by decide +kernel) (by decide +kernel), pst_no, List.lookup_cons_self, ih (k := k) (S := S) (r := r) (m := m) (left := left - 1) hr ht.1 (by omega) (by omega) (by omega), e2, hr2, atoms]
  | si f g ih ih2 =>
    intro k S r m left hr ht hl hk h5
    obtain ⟨k, rfl⟩ : ∃ j, k = j + 1 := ⟨k - 1, by omega⟩
    have hlt : r < S.length := (List.getElem?_eq_some_iff.mp hr).1
    refine fin (f := .si f g) hr rfl ?_
    unfold b_Past_is_good
    have h5' := h5
    simp only [fdep] at hl hk h5
    have h0 := fdep_pos f
    have h2 := fdep_pos g
    have hr2 : (S.set r (pst n (m + atoms f)))[r]? = some (pst n (m + atoms f)) := get_set_self hlt
    have e2 := ih2 (k := k) (S := S.set r (pst n (m + atoms f))) (r := r) (m := m + atoms f) (left := left - 1) hr2 ht.2 (by omega) (by omega) (by omega)
    rw [set_set, Int.add_assoc] at e2
    simp only [enc]
    simp (disch := first | assumption | rfl | omega | (simp only [List.length_set, List.length_append, List.length_cons, List.length_nil, List.length_map]; omega) | decide +kernel) only [↓miA, miB, miC, ex_nil, ex_app, ex_app2, ex_app3, ex_app4, ex_app5, ex_app6, in62r, inWr, inWl, lim, List.length_set, List.length_cons, List.length_nil, List.getElem?_cons_zero, List.getElem?_cons_succ, List.set_cons_zero, List.set_cons_succ, Int.reduceToNat, eq_self, List.zip_nil_left, List.zip_nil_right, List.zip_cons_cons, decide_true, decide_eq_true, decide_eq_false, Bool.not_true, Bool.not_false, Bool.and_true, Bool.and_false, Bool.true_and, Bool.false_and, Bool.or_true, Bool.or_false, Bool.true_or, Bool.false_or, Bool.not_not, List.isEmpty_nil, List.isEmpty_cons, true_and, and_true, form_f (f := .si f g) (S := S) (x := "since") (ds := [enc f, enc g]) (m := 3) (k := k) h5' rfl rfl (by omega), hr, in_tf' (x := "since") (m := 3) (b := false) (by decide +kernel) (by decide +kernel), eq_now (x := "since") (m := 3) (b := false) (by decide +kernel) (by decide +kernel), pt (x := "since") (b := true) (by decide +kernel) (by decide +kernel), pst_no, List.lookup_cons_self, ih (k := k) (S := S) (r := r) (m := m) (left := left - 1) hr ht.1 (by omega) (by omega) (by omega), e2, hr2, atoms]
end K12

namespace K12
open PySem PySem.Spec Mi Pf
theorem is_word {k : Nat} {S : Store} {b n' : Nat} {d : D} {n : Int} (h : Pl S b 3000 n' d) (hn : 0 ≤ n ∧ n ≤ 4) (hk : 2 ≤ k) : callN prg k 1 [.int n, d] S = .ok (.bl (isWord (pw n) d)) S := by
  obtain ⟨k, rfl⟩ : ∃ j, k = j + 1 := ⟨k - 1, by omega⟩
  rw [call_is_word]
  obtain ⟨t, ht⟩ := h.ty
  refine gc_is ?_ rfl
  unfold b_is_word
  cases d with
  | tup ds =>
    simp (disch := first | assumption | rfl | omega | (simp only [List.length_set, List.length_append, List.length_cons, List.length_nil, List.length_map]; omega) | decide +kernel) only [↓miA, miB, miC, ex_nil, ex_app, ex_app2, ex_app3, ex_app4, ex_app5, ex_app6, in62r, inWr, inWl, lim, List.length_set, List.length_cons, List.length_nil, List.getElem?_cons_zero, List.getElem?_cons_succ, List.set_cons_zero, List.set_cons_succ, Int.reduceToNat, eq_self, List.zip_nil_left, List.zip_nil_right, List.zip_cons_cons, decide_true, decide_eq_true, decide_eq_false, Bool.not_true, Bool.not_false, Bool.and_true, Bool.and_false, Bool.true_and, Bool.false_and, Bool.or_true, Bool.or_false, Bool.true_or, Bool.false_or, Bool.not_not, List.isEmpty_nil, List.isEmpty_cons, true_and, and_true]
    refine lcM (ds := ds) (fun d => .bl (isInt 0 (pw n - 1) d)) (fun _ _ => rfl) ?_ ?_ (fun d acc hd => ?_) ?_
    · cases n' with
      | zero => exact h.elim
      | succ n' => show ds.length < 1000000; have := h.1; omega
    · cases n' with
      | zero => exact h.elim
      | succ n' => have := h.1; omega
    · cases n' with
      | zero => exact h.elim
      | succ n' =>
        obtain ⟨t', ht'⟩ := ((h.2 d hd).ext (Ext.app (l := [.lst acc]))).ty
        simp (disch := first | assumption | rfl | omega | (simp only [List.length_set, List.length_append, List.length_cons, List.length_nil, List.length_map]; omega) | decide +kernel) only [↓miA, miB, miC, ex_nil, ex_app, ex_app2, ex_app3, ex_app4, ex_app5, ex_app6, in62r, inWr, inWl, lim, List.length_set, List.length_cons, List.length_nil, List.getElem?_cons_zero, List.getElem?_cons_succ, List.set_cons_zero, List.set_cons_succ, Int.reduceToNat, eq_self, List.zip_nil_left, List.zip_nil_right, List.zip_cons_cons, decide_true, decide_eq_true, decide_eq_false, Bool.not_true, Bool.not_false, Bool.and_true, Bool.and_false, Bool.true_and, Bool.false_and, Bool.or_true, Bool.or_false, Bool.true_or, Bool.false_or, Bool.not_not, List.isEmpty_nil, List.isEmpty_cons, true_and, and_true, pw_at, is_integer ht']
    · simp (disch := first | assumption | rfl | omega | (simp only [List.length_set, List.length_append, List.length_cons, List.length_nil, List.length_map]; omega) | decide +kernel) only [↓miA, miB, miC, ex_nil, ex_app, ex_app2, ex_app3, ex_app4, ex_app5, ex_app6, in62r, inWr, inWl, lim, List.length_set, List.length_cons, List.length_nil, List.getElem?_cons_zero, List.getElem?_cons_succ, List.set_cons_zero, List.set_cons_succ, Int.reduceToNat, eq_self, List.zip_nil_left, List.zip_nil_right, List.zip_cons_cons, decide_true, decide_eq_true, decide_eq_false, Bool.not_true, Bool.not_false, Bool.and_true, Bool.and_false, Bool.true_and, Bool.false_and, Bool.or_true, Bool.or_false, Bool.true_or, Bool.false_or, Bool.not_not, List.isEmpty_nil, List.isEmpty_cons, true_and, and_true, all_map, asBls_map, List.all_map, Function.comp_def, id]
      rfl
  | ref r => rcases ty_ref ht with rfl | rfl <;> simp (disch := first | assumption | rfl | omega | (simp only [List.length_set, List.length_append, List.length_cons, List.length_nil, List.length_map]; omega) | decide +kernel) only [↓miA, miB, miC, ex_nil, ex_app, ex_app2, ex_app3, ex_app4, ex_app5, ex_app6, in62r, inWr, inWl, lim, List.length_set, List.length_cons, List.length_nil, List.getElem?_cons_zero, List.getElem?_cons_succ, List.set_cons_zero, List.set_cons_succ, Int.reduceToNat, eq_self, List.zip_nil_left, List.zip_nil_right, List.zip_cons_cons, decide_true, decide_eq_true, decide_eq_false, Bool.not_true, Bool.not_false, Bool.and_true, Bool.and_false, Bool.true_and, Bool.false_and, Bool.or_true, Bool.or_false, Bool.true_or, Bool.false_or, Bool.not_not, List.isEmpty_nil, List.isEmpty_cons, true_and, and_true, ht, isWord]
  | fn => cases ht
  | ty => cases ht
  | _ => simp (disch := first | assumption | rfl | omega | (simp only [List.length_set, List.length_append, List.length_cons, List.length_nil, List.length_map]; omega) | decide +kernel) only [↓miA, miB, miC, ex_nil, ex_app, ex_app2, ex_app3, ex_app4, ex_app5, ex_app6, in62r, inWr, inWl, lim, List.length_set, List.length_cons, List.length_nil, List.getElem?_cons_zero, List.getElem?_cons_succ, List.set_cons_zero, List.set_cons_succ, Int.reduceToNat, eq_self, List.zip_nil_left, List.zip_nil_right, List.zip_cons_cons, decide_true, decide_eq_true, decide_eq_false, Bool.not_true, Bool.not_false, Bool.and_true, Bool.and_false, Bool.true_and, Bool.false_and, Bool.or_true, Bool.or_false, Bool.true_or, Bool.false_or, Bool.not_not, List.isEmpty_nil, List.isEmpty_cons, true_and, and_true, isWord]
theorem is_on {k : Nat} {S : Store} {l i : Int} (hi : 0 ≤ i ∧ i ≤ 4) (hk : 1 ≤ k) : callN prg k 2 [.int l, .int i] S = .ok (.bl (decide ((l.fdiv (pw i)).fmod 2 = 1))) S := by
  obtain ⟨k, rfl⟩ : ∃ j, k = j + 1 := ⟨k - 1, by omega⟩
  rw [call_is_on]
  refine gc_is ?_ rfl
  have := pw_r hi
  unfold b_is_on
  simp (disch := first | assumption | rfl | omega | (simp only [List.length_set, List.length_append, List.length_cons, List.length_nil, List.length_map]; omega) | decide +kernel) only [↓miA, miB, miC, ex_nil, ex_app, ex_app2, ex_app3, ex_app4, ex_app5, ex_app6, in62r, inWr, inWl, lim, List.length_set, List.length_cons, List.length_nil, List.getElem?_cons_zero, List.getElem?_cons_succ, List.set_cons_zero, List.set_cons_succ, Int.reduceToNat, eq_self, List.zip_nil_left, List.zip_nil_right, List.zip_cons_cons, decide_true, decide_eq_true, decide_eq_false, Bool.not_true, Bool.not_false, Bool.and_true, Bool.and_false, Bool.true_and, Bool.false_and, Bool.or_true, Bool.or_false, Bool.true_or, Bool.false_or, Bool.not_not, List.isEmpty_nil, List.isEmpty_cons, true_and, and_true, pw_at]
/-! ### what is a past formula -/
theorem past_init {k : Nat} {S : Store} {n : Int} (hk : 1 ≤ k) : callN prg k 4 [.ref S.length, .int n] (S ++ [.ins 0 []]) = .ok .non (S ++ [pst n 0]) := by
  obtain ⟨k, rfl⟩ : ∃ j, k = j + 1 := ⟨k - 1, by omega⟩
  rw [call_Past___init__]
  have e0 : (S ++ [Cell.ins 0 []])[S.length]? = some (.ins 0 []) := get_new
  have e1 : ∀ c : Cell, (S ++ [Cell.ins 0 []]).set S.length c = S ++ [c] := fun c => by rw [List.set_append_right _ _ (Nat.le_refl _), Nat.sub_self]; rfl
  have e : endOf (xss ⟨callN prg k, 1000000⟩ b_Past___init__ [some (.ref S.length), some (.int n)] (S ++ [.ins 0 []])) = .ok .non (S ++ [pst n 0]) := by
    rw [W_eq]
    unfold b_Past___init__
    simp (disch := first | assumption | rfl | omega | (simp only [List.length_set, List.length_append, List.length_cons, List.length_nil, List.length_map]; omega) | decide +kernel) only [↓miA, miB, miC, ex_nil, ex_app, ex_app2, ex_app3, ex_app4, ex_app5, ex_app6, in62r, inWr, inWl, lim, List.length_set, List.length_cons, List.length_nil, List.getElem?_cons_zero, List.getElem?_cons_succ, List.set_cons_zero, List.set_cons_succ, Int.reduceToNat, eq_self, List.zip_nil_left, List.zip_nil_right, List.zip_cons_cons, decide_true, decide_eq_true, decide_eq_false, Bool.not_true, Bool.not_false, Bool.and_true, Bool.and_false, Bool.true_and, Bool.false_and, Bool.or_true, Bool.or_false, Bool.true_or, Bool.false_or, Bool.not_not, List.isEmpty_nil, List.isEmpty_cons, true_and, and_true, e0, e1, pst_0, pst_1, List.set_append_right, Nat.sub_self]
  rw [e]
  exact gc_len (by rw [List.length_append, List.length_append]; rfl)
/-- what is refused -/
def bad (n : Int) (d : D) (left : Nat) : Prop := ∀ (k : Nat) (S : Store) (r : Nat) (m l : Int), S[r]? = some (pst n m) → l = left → left + 3 ≤ k → ∃ m', callN prg k 5 [.ref r, d, .int l] S = .ok (.bl false) (S.set r (pst n m'))
theorem bad_by {n : Int} {d : D} {left : Nat} (h : ∀ (k : Nat) (S : Store) (r : Nat) (m l : Int), S[r]? = some (pst n m) → l = left → left + 2 ≤ k → ∃ m', W (endOf (xss ⟨callN prg k, 1000000⟩ b_Past_is_good [some (.ref r), some d, some (.int l), none] S)) (fun x T => x = .bl false ∧ T = S.set r (pst n m')) NoEx) : bad n d left := fun k S r m l hr hl hk => by
  obtain ⟨k, rfl⟩ : ∃ j, k = j + 1 := ⟨k - 1, by omega⟩
  obtain ⟨m', q⟩ := h k S r m l hr hl (by omega)
  refine ⟨m', ?_⟩
  rw [call_Past_is_good, W_eq.mpr q]
  exact gc_set0 rfl rfl
theorem bad_now {n i : Int} (h : ¬(0 ≤ i ∧ i < n)) : bad n (.tup [.str "now", .int i]) 20 := bad_by fun k S r m l hr he hk => by
  refine ⟨m + 1, ?_⟩
  have hlt : r < S.length := (List.getElem?_eq_some_iff.mp hr).1
  have e : (decide (0 ≤ i) && decide (i ≤ n - 1)) = false := by
    rw [Bool.and_eq_false_iff, decide_eq_false_iff_not, decide_eq_false_iff_not]
    omega
  unfold b_Past_is_good
  simp (disch := first | assumption | rfl | omega | (simp only [List.length_set, List.length_append, List.length_cons, List.length_nil, List.length_map]; omega) | decide +kernel) only [↓miA, miB, miC, ex_nil, ex_app, ex_app2, ex_app3, ex_app4, ex_app5, ex_app6, in62r, inWr, inWl, lim, List.length_set, List.length_cons, List.length_nil, List.getElem?_cons_zero, List.getElem?_cons_succ, List.set_cons_zero, List.set_cons_succ, Int.reduceToNat, eq_self, List.zip_nil_left, List.zip_nil_right, List.zip_cons_cons, decide_true, decide_eq_true, decide_eq_false, Bool.not_true, Bool.not_false, Bool.and_true, Bool.and_false, Bool.true_and, Bool.false_and, Bool.or_true, Bool.or_false, Bool.true_or, Bool.false_or, Bool.not_not, List.isEmpty_nil, List.isEmpty_cons, true_and, and_true, form_f (f := .now i) (S := S) (x := "now") (ds := [.int i]) (m := 2) (k := k) (by simp only [fdep]; omega) rfl rfl (by omega), hr, in_tf' (x := "now") (m := 2) (b := false) (by decide +kernel) (by decide +kernel), eq_now (x := "now") (m := 2) (b := true) (by decide +kernel) (by decide +kernel), pst_m, pst_s, pst_n, is_int_i (k := k), e]
theorem bad_true {n : Int} : bad n (.tup [.str "now", .bl true]) 20 := bad_by fun k S r m l hr he hk => by
  refine ⟨m + 1, ?_⟩
  have hlt : r < S.length := (List.getElem?_eq_some_iff.mp hr).1
  unfold b_Past_is_good
  simp (disch := first | assumption | rfl | omega | (simp only [List.length_set, List.length_append, List.length_cons, List.length_nil, List.length_map]; omega) | decide +kernel) only [↓miA, miB, miC, ex_nil, ex_app, ex_app2, ex_app3, ex_app4, ex_app5, ex_app6, in62r, inWr, inWl, lim, List.length_set, List.length_cons, List.length_nil, List.getElem?_cons_zero, List.getElem?_cons_succ, List.set_cons_zero, List.set_cons_succ, Int.reduceToNat, eq_self, List.zip_nil_left, List.zip_nil_right, List.zip_cons_cons, decide_true, decide_eq_true, decide_eq_false, Bool.not_true, Bool.not_false, Bool.and_true, Bool.and_false, Bool.true_and, Bool.false_and, Bool.or_true, Bool.or_false, Bool.true_or, Bool.false_or, Bool.not_not, List.isEmpty_nil, List.isEmpty_cons, true_and, and_true, form_of (S := S) (x := "now") (ds := [.bl true]) (m := 2) (k := k) py_true rfl (by omega), hr, in_tf' (x := "now") (m := 2) (b := false) (by decide +kernel) (by decide +kernel), eq_now (x := "now") (m := 2) (b := true) (by decide +kernel) (by decide +kernel), pst_m, pst_s, pst_n, is_int_b (k := k)]
theorem bad_track {n : Int} : bad n (.tup [.str "track", .int 0, .int 0]) 20 := bad_by fun k S r m l hr he hk => by
  refine ⟨m, ?_⟩
  unfold b_Past_is_good
  simp (disch := first | assumption | rfl | omega | (simp only [List.length_set, List.length_append, List.length_cons, List.length_nil, List.length_map]; omega) | decide +kernel) only [↓miA, miB, miC, ex_nil, ex_app, ex_app2, ex_app3, ex_app4, ex_app5, ex_app6, in62r, inWr, inWl, lim, List.length_set, List.length_cons, List.length_nil, List.getElem?_cons_zero, List.getElem?_cons_succ, List.set_cons_zero, List.set_cons_succ, Int.reduceToNat, eq_self, List.zip_nil_left, List.zip_nil_right, List.zip_cons_cons, decide_true, decide_eq_true, decide_eq_false, Bool.not_true, Bool.not_false, Bool.and_true, Bool.and_false, Bool.true_and, Bool.false_and, Bool.or_true, Bool.or_false, Bool.true_or, Bool.false_or, Bool.not_not, List.isEmpty_nil, List.isEmpty_cons, true_and, and_true, form_of (S := S) (x := "track") (ds := [.int 0, .int 0]) (m := 3) (k := k) py_track rfl (by omega), hr, in_tf' (x := "track") (m := 3) (b := false) (by decide +kernel) (by decide +kernel), eq_now (x := "track") (m := 3) (b := false) (by decide +kernel) (by decide +kernel), pt (x := "track") (b := false) (by decide +kernel) (by decide +kernel)]
  exact set_self hr
theorem bad_non {n : Int} : bad n .non 20 := bad_by fun k S r m l hr he hk => by
  refine ⟨m, ?_⟩
  unfold b_Past_is_good
  simp (disch := first | assumption | rfl | omega | (simp only [List.length_set, List.length_append, List.length_cons, List.length_nil, List.length_map]; omega) | decide +kernel) only [↓miA, miB, miC, ex_nil, ex_app, ex_app2, ex_app3, ex_app4, ex_app5, ex_app6, in62r, inWr, inWl, lim, List.length_set, List.length_cons, List.length_nil, List.getElem?_cons_zero, List.getElem?_cons_succ, List.set_cons_zero, List.set_cons_succ, Int.reduceToNat, eq_self, List.zip_nil_left, List.zip_nil_right, List.zip_cons_cons, decide_true, decide_eq_true, decide_eq_false, Bool.not_true, Bool.not_false, Bool.and_true, Bool.and_false, Bool.true_and, Bool.false_and, Bool.or_true, Bool.or_false, Bool.true_or, Bool.false_or, Bool.not_not, List.isEmpty_nil, List.isEmpty_cons, true_and, and_true, form_non (S := S) (k := k) (by omega), hr, in_tf' (x := "") (m := 0) (b := false) (by decide +kernel) (by decide +kernel), eq_now (x := "") (m := 0) (b := false) (by decide +kernel) (by decide +kernel)]
  exact set_self hr
theorem bad_since {n : Int} {f : F} (hf : fdep f ≤ 40) : bad n (.tup [.str "since", enc f]) 20 := bad_by fun k S r m l hr he hk => by
  refine ⟨m, ?_⟩
  have ht : Tr 41 (.tup [.str "since", enc f]) := fun e he => by
    simp only [List.mem_cons, List.not_mem_nil, or_false] at he
    rcases he with rfl | rfl
    · show PyData.strOk _ = true
      decide +kernel
    · exact enc_tr hf
  unfold b_Past_is_good
  simp (disch := first | assumption | rfl | omega | (simp only [List.length_set, List.length_append, List.length_cons, List.length_nil, List.length_map]; omega) | decide +kernel) only [↓miA, miB, miC, ex_nil, ex_app, ex_app2, ex_app3, ex_app4, ex_app5, ex_app6, in62r, inWr, inWl, lim, List.length_set, List.length_cons, List.length_nil, List.getElem?_cons_zero, List.getElem?_cons_succ, List.set_cons_zero, List.set_cons_succ, Int.reduceToNat, eq_self, List.zip_nil_left, List.zip_nil_right, List.zip_cons_cons, decide_true, decide_eq_true, decide_eq_false, Bool.not_true, Bool.not_false, Bool.and_true, Bool.and_false, Bool.true_and, Bool.false_and, Bool.or_true, Bool.or_false, Bool.true_or, Bool.false_or, Bool.not_not, List.isEmpty_nil, List.isEmpty_cons, true_and, and_true, form_of (S := S) (x := "since") (ds := [enc f]) (m := 2) (k := k) (some_tr ht (by omega)) rfl (by omega), hr, in_tf' (x := "since") (m := 2) (b := false) (by decide +kernel) (by decide +kernel), eq_now (x := "since") (m := 2) (b := false) (by decide +kernel) (by decide +kernel), po (x := "since") (b := false) (by decide +kernel) (by decide +kernel)]
  exact set_self hr
def deepF : Nat → F → F
  | 0, f => f
  | j + 1, f => .on (deepF j f)
theorem deep_dep (f : F) : ∀ j, fdep (deepF j f) = fdep f + j
  | 0 => rfl
  | j + 1 => by show fdep (deepF j f) + 1 = _; rw [deep_dep f j]; omega
theorem bad_deep {n : Int} {f : F} : ∀ (left j : Nat), left < j → fdep f + j ≤ 50 → bad n (enc (deepF j f)) left
  | 0, j + 1, _, hd => bad_by fun k S r m l hr he hk => by
    refine ⟨m, ?_⟩
    have h := deep_dep f (j + 1)
    unfold b_Past_is_good
    show W (endOf (xss ⟨callN prg k, 1000000⟩ _ [some (.ref r), some (.tup [.str "once", enc (deepF j f)]), some (.int l), none] S)) _ _
    simp (disch := first | assumption | rfl | omega | (simp only [List.length_set, List.length_append, List.length_cons, List.length_nil, List.length_map]; omega) | decide +kernel) only [↓miA, miB, miC, ex_nil, ex_app, ex_app2, ex_app3, ex_app4, ex_app5, ex_app6, in62r, inWr, inWl, lim, List.length_set, List.length_cons, List.length_nil, List.getElem?_cons_zero, List.getElem?_cons_succ, List.set_cons_zero, List.set_cons_succ, Int.reduceToNat, eq_self, List.zip_nil_left, List.zip_nil_right, List.zip_cons_cons, decide_true, decide_eq_true, decide_eq_false, Bool.not_true, Bool.not_false, Bool.and_true, Bool.and_false, Bool.true_and, Bool.false_and, Bool.or_true, Bool.or_false, Bool.true_or, Bool.false_or, Bool.not_not, List.isEmpty_nil, List.isEmpty_cons, true_and, and_true, form_f (f := deepF (j + 1) f) (S := S) (x := "once") (ds := [enc (deepF j f)]) (m := 2) (k := k) (by omega) rfl rfl (by omega), hr]
    exact set_self hr
  | left + 1, j + 1, hl, hd => bad_by fun k S r m l hr he hk => by
    have h := deep_dep f (j + 1)
    obtain ⟨m', e⟩ := bad_deep (n := n) (f := f) left j (by omega) (by omega) k S r m (l - 1) hr (by omega) (by omega)
    refine ⟨m', ?_⟩
    unfold b_Past_is_good
    show W (endOf (xss ⟨callN prg k, 1000000⟩ _ [some (.ref r), some (.tup [.str "once", enc (deepF j f)]), some (.int l), none] S)) _ _
    simp (disch := first | assumption | rfl | omega | (simp only [List.length_set, List.length_append, List.length_cons, List.length_nil, List.length_map]; omega) | decide +kernel) only [↓miA, miB, miC, ex_nil, ex_app, ex_app2, ex_app3, ex_app4, ex_app5, ex_app6, in62r, inWr, inWl, lim, List.length_set, List.length_cons, List.length_nil, List.getElem?_cons_zero, List.getElem?_cons_succ, List.set_cons_zero, List.set_cons_succ, Int.reduceToNat, eq_self, List.zip_nil_left, List.zip_nil_right, List.zip_cons_cons, decide_true, decide_eq_true, decide_eq_false, Bool.not_true, Bool.not_false, Bool.and_true, Bool.and_false, Bool.true_and, Bool.false_and, Bool.or_true, Bool.or_false, Bool.true_or, Bool.false_or, Bool.not_not, List.isEmpty_nil, List.isEmpty_cons, true_and, and_true, form_f (f := deepF (j + 1) f) (S := S) (x := "once") (ds := [enc (deepF j f)]) (m := 2) (k := k) (by omega) rfl rfl (by omega), hr, in_tf' (x := "once") (m := 2) (b := false) (by decide +kernel) (by decide +kernel), eq_now (x := "once") (m := 2) (b := false) (by decide +kernel) (by decide +kernel), po (x := "once") (b := true) (by decide +kernel) (by decide +kernel), pst_no, List.lookup_cons_self, e]
theorem is_past_over {k : Nat} {S : Store} {n : Int} {f : F} (ht : trn n f) (hd : fdep f ≤ 20) (ha : atoms f ≤ 40) (hk : fdep f + 3 ≤ k) : callN prg k 6 [.int n, enc f] S = .ok (.bl true) S := by
  obtain ⟨k, rfl⟩ : ∃ j, k = j + 1 := ⟨k - 1, by omega⟩
  rw [call_is_past_over]
  refine gc_is ?_ rfl
  have h0 := fdep_pos f
  have e1 := is_good (f := f) (k := k) (S := S ++ [pst n 0]) (r := S.length) (m := 0) (left := 20) get_new ht (by omega) (by omega) (by omega)
  have e2 : (S ++ [pst n 0]).set S.length (pst n (0 + atoms f)) = S ++ [pst n (atoms f)] := by rw [List.set_append_right _ _ (Nat.le_refl _), Nat.sub_self, Int.zero_add]; rfl
  rw [e2] at e1
  unfold b_is_past_over
  simp (disch := first | assumption | rfl | omega | (simp only [List.length_set, List.length_append, List.length_cons, List.length_nil, List.length_map]; omega) | decide +kernel) only [↓miA, miB, miC, ex_nil, ex_app, ex_app2, ex_app3, ex_app4, ex_app5, ex_app6, in62r, inWr, inWl, lim, List.length_set, List.length_cons, List.length_nil, List.getElem?_cons_zero, List.getElem?_cons_succ, List.set_cons_zero, List.set_cons_succ, Int.reduceToNat, eq_self, List.zip_nil_left, List.zip_nil_right, List.zip_cons_cons, decide_true, decide_eq_true, decide_eq_false, Bool.not_true, Bool.not_false, Bool.and_true, Bool.and_false, Bool.true_and, Bool.false_and, Bool.or_true, Bool.or_false, Bool.true_or, Bool.false_or, Bool.not_not, List.isEmpty_nil, List.isEmpty_cons, true_and, and_true, past_init (k := k) (S := S) (n := n) (by omega), pst_no, List.lookup_cons_self, e1, pst_m]
theorem is_past_bad {k : Nat} {S : Store} {n : Int} {d : D} (h : bad n d 20) (hk : 24 ≤ k) : callN prg k 6 [.int n, d] S = .ok (.bl false) S := by
  obtain ⟨k, rfl⟩ : ∃ j, k = j + 1 := ⟨k - 1, by omega⟩
  rw [call_is_past_over]
  refine gc_is ?_ rfl
  obtain ⟨m', e1⟩ := h k (S ++ [pst n 0]) S.length 0 20 get_new rfl (by omega)
  have e2 : (S ++ [pst n 0]).set S.length (pst n m') = S ++ [pst n m'] := by rw [List.set_append_right _ _ (Nat.le_refl _), Nat.sub_self]; rfl
  rw [e2] at e1
  have e1 : callN prg k 5 [.ref S.length, d, .int 20] (S ++ [pst n 0]) = _ := e1
  unfold b_is_past_over
  simp (disch := first | assumption | rfl | omega | (simp only [List.length_set, List.length_append, List.length_cons, List.length_nil, List.length_map]; omega) | decide +kernel) only [↓miA, miB, miC, ex_nil, ex_app, ex_app2, ex_app3, ex_app4, ex_app5, ex_app6, in62r, inWr, inWl, lim, List.length_set, List.length_cons, List.length_nil, List.getElem?_cons_zero, List.getElem?_cons_succ, List.set_cons_zero, List.set_cons_succ, Int.reduceToNat, eq_self, List.zip_nil_left, List.zip_nil_right, List.zip_cons_cons, decide_true, decide_eq_true, decide_eq_false, Bool.not_true, Bool.not_false, Bool.and_true, Bool.and_false, Bool.true_and, Bool.false_and, Bool.or_true, Bool.or_false, Bool.true_or, Bool.false_or, Bool.not_not, List.isEmpty_nil, List.isEmpty_cons, true_and, and_true, past_init (k := k) (S := S) (n := n) (by omega), pst_no, List.lookup_cons_self, e1, pst_m]
theorem check_past {k : Nat} {S : Store} {n : Int} {f : F} (ht : trn n f) (hd : fdep f ≤ 20) (ha : atoms f ≤ 40) (hk : fdep f + 4 ≤ k) : callN prg k 11 [.int n, enc f] S = .ok .non S := by
  obtain ⟨k, rfl⟩ : ∃ j, k = j + 1 := ⟨k - 1, by omega⟩
  rw [call_check_past_over]
  refine gc_is ?_ rfl
  unfold b_check_past_over
  simp (disch := first | assumption | rfl | omega | (simp only [List.length_set, List.length_append, List.length_cons, List.length_nil, List.length_map]; omega) | decide +kernel) only [↓miA, miB, miC, ex_nil, ex_app, ex_app2, ex_app3, ex_app4, ex_app5, ex_app6, in62r, inWr, inWl, lim, List.length_set, List.length_cons, List.length_nil, List.getElem?_cons_zero, List.getElem?_cons_succ, List.set_cons_zero, List.set_cons_succ, Int.reduceToNat, eq_self, List.zip_nil_left, List.zip_nil_right, List.zip_cons_cons, decide_true, decide_eq_true, decide_eq_false, Bool.not_true, Bool.not_false, Bool.and_true, Bool.and_false, Bool.true_and, Bool.false_and, Bool.or_true, Bool.or_false, Bool.true_or, Bool.false_or, Bool.not_not, List.isEmpty_nil, List.isEmpty_cons, true_and, and_true, is_past_over (k := k) (S := S) ht hd ha (by omega)]
abbrev noPast : Exn := ⟨1, [("kind", .str "past"), ("name", .str "")]⟩
theorem check_bad {k : Nat} {S : Store} {n : Int} {d : D} (h : bad n d 20) (hk : 25 ≤ k) : callN prg k 11 [.int n, d] S = .er noPast S := by
  obtain ⟨k, rfl⟩ : ∃ j, k = j + 1 := ⟨k - 1, by omega⟩
  rw [call_check_past_over]
  refine er_ex ?_ rfl
  unfold b_check_past_over
  simp (disch := first | assumption | rfl | omega | (simp only [List.length_set, List.length_append, List.length_cons, List.length_nil, List.length_map]; omega) | decide +kernel) only [↓miA, miB, miC, ex_nil, ex_app, ex_app2, ex_app3, ex_app4, ex_app5, ex_app6, in62r, inWr, inWl, lim, List.length_set, List.length_cons, List.length_nil, List.getElem?_cons_zero, List.getElem?_cons_succ, List.set_cons_zero, List.set_cons_succ, Int.reduceToNat, eq_self, List.zip_nil_left, List.zip_nil_right, List.zip_cons_cons, decide_true, decide_eq_true, decide_eq_false, Bool.not_true, Bool.not_false, Bool.and_true, Bool.and_false, Bool.true_and, Bool.false_and, Bool.or_true, Bool.or_false, Bool.true_or, Bool.false_or, Bool.not_not, List.isEmpty_nil, List.isEmpty_cons, true_and, and_true, is_past_bad (k := k) (S := S) h (by omega), Wx_raise, cRaise_]
end K12

namespace K12
open PySem PySem.Spec Mi Pf
theorem po_f {S : Store} {f : F} {x : Str} {ds : List D} (e : enc f = .tup (.str x :: ds)) : ∃ b c, inM (.str x) c_PAST_ONE S = .ok b S ∧ inM (.str x) c_PAST_TWO S = .ok c S ∧ (b || c) = !(kids f).isEmpty := by
  cases f <;> cases e
  · exact ⟨_, _, po (b := false) (by decide +kernel) (by decide +kernel), pt (b := false) (by decide +kernel) (by decide +kernel), rfl⟩
  · exact ⟨_, _, po (b := false) (by decide +kernel) (by decide +kernel), pt (b := false) (by decide +kernel) (by decide +kernel), rfl⟩
  · exact ⟨_, _, po (b := false) (by decide +kernel) (by decide +kernel), pt (b := false) (by decide +kernel) (by decide +kernel), rfl⟩
  · exact ⟨_, _, po (b := true) (by decide +kernel) (by decide +kernel), pt (b := false) (by decide +kernel) (by decide +kernel), rfl⟩
  · exact ⟨_, _, po (b := true) (by decide +kernel) (by decide +kernel), pt (b := false) (by decide +kernel) (by decide +kernel), rfl⟩
  · exact ⟨_, _, po (b := true) (by decide +kernel) (by decide +kernel), pt (b := false) (by decide +kernel) (by decide +kernel), rfl⟩
  · exact ⟨_, _, po (b := true) (by decide +kernel) (by decide +kernel), pt (b := false) (by decide +kernel) (by decide +kernel), rfl⟩
  · exact ⟨_, _, po (b := false) (by decide +kernel) (by decide +kernel), pt (b := true) (by decide +kernel) (by decide +kernel), rfl⟩
  · exact ⟨_, _, po (b := false) (by decide +kernel) (by decide +kernel), pt (b := true) (by decide +kernel) (by decide +kernel), rfl⟩
  · exact ⟨_, _, po (b := false) (by decide +kernel) (by decide +kernel), pt (b := true) (by decide +kernel) (by decide +kernel), rfl⟩
theorem any_enc (g : F) (l : List F) : ((l.map enc).any fun e => D.same e (enc g)) = decide (g ∈ l) := by
  induction l with
  | nil => rfl
  | cons a l ih =>
    rw [List.map_cons, List.any_cons, same_enc, ih]
    by_cases h : a = g <;> by_cases h2 : g ∈ l <;> simp [h, h2, eq_comm]
    exact fun e => h e.symm
theorem in_list {S : Store} {r : Nat} {l : List F} {g : F} (hr : S[r]? = some (.lst (l.map enc))) (hl : ∀ x ∈ l, fdep x ≤ 50) (hg : fdep g ≤ 50) : inM (enc g) (.ref r) S = .ok (decide (g ∈ l)) S := by
  rw [inM_lst hr (n := 50) (m := 50) (enc_tr hg) (fun e he => ?_) (by omega) (by omega)]
  · rw [any_enc]
  · obtain ⟨x, hx, rfl⟩ := List.mem_map.mp he
    exact enc_tr (hl x hx)
/-- the parts of what stands in a formula, one after the other -/
def accOf (l : List F) : List F := l.foldl (fun a g => mrg a (parts g)) []
theorem accOf_kids (f : F) : accOf (kids f) = ahead f := by cases f <;> rfl
theorem filter_enc (acc l : List F) : ((l.map enc).filter fun d => !((acc.map enc).any fun e => D.same e d)) = (l.filter fun x => !decide (x ∈ acc)).map enc := by
  rw [List.filter_map]
  congr 1
  refine List.filter_congr fun x _ => ?_
  show (!((acc.map enc).any fun e => D.same e (enc x))) = !decide (x ∈ acc)
  rw [any_enc]
theorem in_enc {S : Store} {r : Nat} {l : List F} {g : F} (hr : S[r]? = some (.lst (l.map enc))) (hl : ∀ x ∈ l, fdep x ≤ 50) (hg : fdep g ≤ 50) : inM (enc g) (.ref r) S = .ok ((l.map enc).any fun e => D.same e (enc g)) S :=
  inM_lst hr (n := 50) (m := 50) (enc_tr hg) (fun e he => by obtain ⟨x, hx, rfl⟩ := List.mem_map.mp he; exact enc_tr (hl x hx)) (by omega) (by omega)
theorem lows_enc (n : Nat) (l : List F) : Cell.pure (.lst (l.map enc)) = true := by
  show pures (l.map enc) = true
  induction l with
  | nil => rfl
  | cons a l ih => show (D.pure (enc a) && pures (l.map enc)) = true; rw [enc_pure, ih]; rfl
theorem acc_dep {l : List F} {n : Nat} (h : ∀ g ∈ l, fdep g ≤ n) : ∀ x ∈ accOf l, fdep x ≤ n := by
  have key : ∀ (l a : List F), (∀ x ∈ a, fdep x ≤ n) → (∀ g ∈ l, fdep g ≤ n) → ∀ x ∈ l.foldl (fun a g => mrg a (parts g)) a, fdep x ≤ n := by
    intro l
    induction l with
    | nil => exact fun a ha _ => ha
    | cons g l ih =>
      intro a ha hl
      refine ih _ (fun x hx => ?_) fun g hg => hl g (List.mem_cons_of_mem _ hg)
      rcases mem_mrg.mp hx with hx | hx
      · exact ha x hx
      · exact Nat.le_trans (part_dep hx) (hl g List.mem_cons_self)
  exact key l [] (fun _ h => (List.not_mem_nil h).elim) h
theorem kid_dep {f g : F} (h : g ∈ kids f) : fdep g + 1 ≤ fdep f := by
  cases f <;> simp only [kids, List.mem_cons, List.not_mem_nil, or_false] at h
  all_goals first
    | (subst h; simp only [fdep]; omega)
    | (rcases h with h | h <;> subst h <;> simp only [fdep] <;> omega)
theorem enc_shape (f : F) : ∃ x, enc f = .tup (.str x :: (if (kids f).isEmpty then (match f with | .now i => [.int i] | _ => []) else (kids f).map enc)) := by
  cases f <;> exact ⟨_, rfl⟩
theorem cut_cons {x : D} {l : List D} : cutL (x :: l) (some 1) none = l := by
  unfold cutL
  rw [HT.sIx_none, sIx_of (i := 1) (by omega)]
  have e : min (Int.toNat 1) (x :: l).length = 1 := by
    rw [List.length_cons]
    show min 1 (l.length + 1) = 1
    omega
  rw [e, List.drop_succ_cons, List.drop_zero, List.take_of_length_le]
  rw [List.length_cons]
  omega
theorem acc_len {M : Nat} : ∀ {l : List F}, (∀ g ∈ l, (parts g).length ≤ M) → (accOf l).length ≤ l.length * M := by
  have key : ∀ (l a : List F), (∀ g ∈ l, (parts g).length ≤ M) → (l.foldl (fun a g => mrg a (parts g)) a).length ≤ a.length + l.length * M := by
    intro l
    induction l with
    | nil => intro a _; show a.length ≤ a.length + 0 * M; omega
    | cons g l ih =>
      intro a h
      have h1 := ih (mrg a (parts g)) fun x hx => h x (List.mem_cons_of_mem _ hx)
      have h2 := mrg_len a (parts g)
      have h3 := h g List.mem_cons_self
      have e : (g :: l).length * M = l.length * M + M := by rw [List.length_cons, Nat.succ_mul]
      show (l.foldl (fun a g => mrg a (parts g)) (mrg a (parts g))).length ≤ _
      omega
  intro l h
  have := key l [] h
  rw [List.length_nil, Nat.zero_add] at this
  exact this
theorem parts_of {n : Nat} : ∀ {f : F} {k : Nat} {S : Store}, fdep f ≤ n → n ≤ 20 → n ≤ k → callN prg k 7 [enc f] S = .ok (.ref S.length) (S ++ [.lst ((parts f).map enc)]) := by
  induction n with
  | zero => intro f k S h; have := fdep_pos f; omega
  | succ n ih =>
    intro f k S hd hn hk
    obtain ⟨k, rfl⟩ : ∃ j, k = j + 1 := ⟨k - 1, by omega⟩
    rw [call_parts_of]
    have fin : W (endOf (xss ⟨callN prg k, 1000000⟩ b_parts_of [some (enc f), none, none, none] S)) (fun d T => d = .ref S.length ∧ ∃ l, T = S ++ [.lst ((parts f).map enc)] ++ l) NoEx := by
      obtain ⟨x, hx⟩ := enc_shape f
      obtain ⟨b, c, e1, e2, e3⟩ := po_f (S := S ++ [.lst []]) (f := f) hx
      have hr : ∀ l, (S ++ [Cell.lst ((ahead f).map enc)] ++ l)[S.length]? = some (.lst ((ahead f).map enc)) := fun l => by rw [get_app (by rw [List.length_append]; show S.length < S.length + 1; omega)]; exact get_new
      have hi : ∀ l, inM (enc f) (.ref S.length) (S ++ [Cell.lst ((ahead f).map enc)] ++ l) = .ok false (S ++ [Cell.lst ((ahead f).map enc)] ++ l) := fun l => by
        rw [in_list (g := f) (hr l) (fun x hx => ?_) (by omega), decide_eq_false (not_ahead f)]
        obtain ⟨g, hg, hm⟩ := mem_ahead.mp hx
        have := part_dep hm
        have := kid_dep hg
        omega
      have hlen : (ahead f).length < 1000000 := by
        have := parts_lt (f := f) (n := 19) (by omega)
        rw [parts_eq, List.length_append] at this
        have e : 2 ^ 19 < 1000000 := by decide
        omega
      have hset : ∀ l, (S ++ [Cell.lst ((ahead f).map enc)] ++ l).set S.length (.lst ((ahead f).map enc ++ [enc f])) = S ++ [.lst ((parts f).map enc)] ++ l := fun l => by
        rw [List.append_assoc, List.set_append_right _ _ (Nat.le_refl _), Nat.sub_self, parts_eq, List.map_append, List.append_assoc]
        rfl
      by_cases hk0 : (kids f).isEmpty = true
      · have ha : ahead f = [] := by rw [← accOf_kids, List.isEmpty_iff.mp hk0]; rfl
        rw [hk0] at e3
        have h1 := hr []
        have h2 := hi []
        have h3 := hset []
        rw [List.append_nil, ha, List.map_nil] at h1 h2
        rw [List.append_nil, List.append_nil, ha, List.map_nil, List.nil_append] at h3
        rw [if_pos hk0] at hx
        unfold b_parts_of
        rw [hx] at h2 h3 ⊢
        cases b <;> cases c <;> first | (cases e3; done) | skip
        simp (disch := first | assumption | rfl | omega | (simp only [List.length_set, List.length_append, List.length_cons, List.length_nil, List.length_map]; omega) | decide +kernel) only [↓miA, miB, miC, ex_nil, ex_app, ex_app2, ex_app3, ex_app4, ex_app5, ex_app6, in62r, inWr, inWl, lim, List.length_set, List.length_cons, List.length_nil, List.getElem?_cons_zero, List.getElem?_cons_succ, List.set_cons_zero, List.set_cons_succ, Int.reduceToNat, eq_self, List.zip_nil_left, List.zip_nil_right, List.zip_cons_cons, decide_true, decide_eq_true, decide_eq_false, Bool.not_true, Bool.not_false, Bool.and_true, Bool.and_false, Bool.true_and, Bool.false_and, Bool.or_true, Bool.or_false, Bool.true_or, Bool.false_or, Bool.not_not, List.isEmpty_nil, List.isEmpty_cons, true_and, and_true, e1, e2, h1, h2, h3, List.nil_append]
      · rw [Bool.not_eq_true] at hk0
        rw [hk0] at e3
        rw [hk0, if_neg Bool.false_ne_true] at hx
        have hx1 : (kids f).length ≤ 2 := by cases f <;> simp [kids]
        have bc : (b || c) = true := e3
        have go : W (endOf (xss ⟨callN prg k, 1000000⟩ b_parts_of [some (.tup (.str x :: (kids f).map enc)), none, none, none] S)) (fun d T => d = .ref S.length ∧ ∃ l, T = S ++ [.lst ((parts f).map enc)] ++ l) NoEx := by
          have hi2 := hi
          rw [hx] at hi2 hset
          unfold b_parts_of
          cases b <;> cases c <;> first | (cases bc; done) | skip
          all_goals
            simp (disch := first | assumption | rfl | omega | (simp only [List.length_set, List.length_append, List.length_cons, List.length_nil, List.length_map]; omega) | decide +kernel) only [↓miA, miB, miC, ex_nil, ex_app, ex_app2, ex_app3, ex_app4, ex_app5, ex_app6, in62r, inWr, inWl, lim, List.length_set, List.length_cons, List.length_nil, List.getElem?_cons_zero, List.getElem?_cons_succ, List.set_cons_zero, List.set_cons_succ, Int.reduceToNat, eq_self, List.zip_nil_left, List.zip_nil_right, List.zip_cons_cons, decide_true, decide_eq_true, decide_eq_false, Bool.not_true, Bool.not_false, Bool.and_true, Bool.and_false, Bool.true_and, Bool.false_and, Bool.or_true, Bool.or_false, Bool.true_or, Bool.false_or, Bool.not_not, List.isEmpty_nil, List.isEmpty_cons, true_and, and_true, e1, e2, cut_cons]
            unfold cFor
            refine for_items (ds := (kids f).map enc) (fun j env T => ∃ e2 e3 l, env = [some (.tup (.str x :: (kids f).map enc)), some (.ref S.length), e2, e3] ∧ T = S ++ [.lst ((accOf ((kids f).take j)).map enc)] ++ l) ?_ ?_ 1000000 0 _ _ (Nat.zero_le _) ?_ ⟨_, _, [], rfl, by rw [List.append_nil]; rfl⟩
            · rintro j d env T ed ⟨e2, e3, l, rfl, rfl⟩
              rw [List.getElem?_map, Option.map_eq_some_iff] at ed
              obtain ⟨g, hg, rfl⟩ := ed
              have gk := List.mem_of_getElem? hg
              have gd := kid_dep gk
              obtain ⟨acc, hacc⟩ : ∃ acc, acc = accOf ((kids f).take j) := ⟨_, rfl⟩
              have accd : ∀ x ∈ acc, fdep x ≤ 20 := by
                rw [hacc]
                refine acc_dep fun g hg => ?_
                have := kid_dep (List.mem_of_mem_take hg)
                omega
              have h18 : ∀ g ∈ kids f, (parts g).length ≤ 262144 := fun g hg => by
                have := kid_dep hg
                have := parts_lt (f := g) (n := 18) (by omega)
                have e : 2 ^ 18 = 262144 := by decide
                omega
              have accl : acc.length ≤ 524288 := by
                have h1 := acc_len (l := (kids f).take j) fun g hg => h18 g (List.mem_of_mem_take hg)
                have h2 : ((kids f).take j).length ≤ 2 := Nat.le_trans (List.length_take_le' ..) hx1
                have h3 : ((kids f).take j).length * 262144 ≤ 2 * 262144 := Nat.mul_le_mul_right _ h2
                rw [hacc]
                omega
              have e4 : accOf ((kids f).take (j + 1)) = mrg acc (parts g) := by
                rw [hacc, List.take_add_one, hg]
                unfold accOf
                rw [List.foldl_append]
                rfl
              rw [← hacc, e4]
              obtain ⟨T, hT⟩ : ∃ T, T = S ++ [Cell.lst (acc.map enc)] ++ l := ⟨_, rfl⟩
              rw [← hT]
              have hrT : T[S.length]? = some (.lst (acc.map enc)) := by
                rw [hT, get_app (by rw [List.length_append]; show S.length < S.length + 1; omega)]
                exact get_new
              have hlt : S.length < T.length := (List.getElem?_eq_some_iff.mp hrT).1
              have hrA : ∀ l, (T ++ l)[S.length]? = some (.lst (acc.map enc)) := fun l => by
                rw [get_app hlt]
                exact hrT
              have e5 := ih (f := g) (k := k) (S := T) (by omega) (by omega) (by omega)
              have hpl : ((parts g).map enc).length ≤ 262144 := by rw [List.length_map]; exact h18 g gk
              simp (disch := first | assumption | rfl | omega | (simp only [List.length_set, List.length_append, List.length_cons, List.length_nil, List.length_map]; omega) | decide +kernel) only [↓miA, miB, miC, ex_nil, ex_app, ex_app2, ex_app3, ex_app4, ex_app5, ex_app6, in62r, inWr, inWl, lim, List.length_set, List.length_cons, List.length_nil, List.getElem?_cons_zero, List.getElem?_cons_succ, List.set_cons_zero, List.set_cons_succ, Int.reduceToNat, eq_self, List.zip_nil_left, List.zip_nil_right, List.zip_cons_cons, decide_true, decide_eq_true, decide_eq_false, Bool.not_true, Bool.not_false, Bool.and_true, Bool.and_false, Bool.true_and, Bool.false_and, Bool.or_true, Bool.or_false, Bool.true_or, Bool.false_or, Bool.not_not, List.isEmpty_nil, List.isEmpty_cons, true_and, and_true, hrT, e5, get_new]
              refine lcF (ds := (parts g).map enc) (fun d => !((acc.map enc).any fun e => D.same e d)) id (fun j l' => ?_) (by show _ < 1000000; omega) (by omega) (fun d acc' hd => ?_) ?_
              · refine at_cell (.inl ?_)
                rw [get_app (by rw [List.length_append]; show T.length < T.length + 1; omega)]
                exact get_new
              · obtain ⟨y, hy, rfl⟩ := List.mem_map.mp hd
                have yd := part_dep hy
                have hr2 : (T ++ [Cell.lst ((parts g).map enc)] ++ [Cell.lst acc'])[S.length]? = some (.lst (acc.map enc)) := by rw [List.append_assoc]; exact hrA _
                simp (disch := first | assumption | rfl | omega | (simp only [List.length_set, List.length_append, List.length_cons, List.length_nil, List.length_map]; omega) | decide +kernel) only [↓miA, miB, miC, ex_nil, ex_app, ex_app2, ex_app3, ex_app4, ex_app5, ex_app6, in62r, inWr, inWl, lim, List.length_set, List.length_cons, List.length_nil, List.getElem?_cons_zero, List.getElem?_cons_succ, List.set_cons_zero, List.set_cons_succ, Int.reduceToNat, eq_self, List.zip_nil_left, List.zip_nil_right, List.zip_cons_cons, decide_true, decide_eq_true, decide_eq_false, Bool.not_true, Bool.not_false, Bool.and_true, Bool.and_false, Bool.true_and, Bool.false_and, Bool.or_true, Bool.or_false, Bool.true_or, Bool.false_or, Bool.not_not, List.isEmpty_nil, List.isEmpty_cons, true_and, and_true, in_enc hr2 (fun x hx => Nat.le_trans (accd x hx) (by omega)) (g := y) (by omega), id]
                exact fun _ => trivial
              · rw [List.map_id, filter_enc]
                have hr3 : ∀ c, (T ++ [Cell.lst ((parts g).map enc)] ++ [c])[S.length]? = some (.lst (acc.map enc)) := fun c => by rw [List.append_assoc]; exact hrA _
                have hr4 : ∀ c, (T ++ [Cell.lst ((parts g).map enc)] ++ [c])[(T ++ [Cell.lst ((parts g).map enc)]).length]? = some c := fun c => get_new
                have hfl : ((parts g).filter fun x => !decide (x ∈ acc)).length ≤ 262144 := by
                  have := List.length_filter_le (fun x => !decide (x ∈ acc)) (parts g)
                  have := h18 g gk
                  omega
                simp (disch := first | assumption | rfl | omega | (simp only [List.length_set, List.length_append, List.length_cons, List.length_nil, List.length_map]; omega) | decide +kernel) only [↓miA, miB, miC, ex_nil, ex_app, ex_app2, ex_app3, ex_app4, ex_app5, ex_app6, in62r, inWr, inWl, lim, List.length_set, List.length_cons, List.length_nil, List.getElem?_cons_zero, List.getElem?_cons_succ, List.set_cons_zero, List.set_cons_succ, Int.reduceToNat, eq_self, List.zip_nil_left, List.zip_nil_right, List.zip_cons_cons, decide_true, decide_eq_true, decide_eq_false, Bool.not_true, Bool.not_false, Bool.and_true, Bool.and_false, Bool.true_and, Bool.false_and, Bool.or_true, Bool.or_false, Bool.true_or, Bool.false_or, Bool.not_not, List.isEmpty_nil, List.isEmpty_cons, true_and, and_true, hr3, hr4, List.length_map]
                refine ⟨_, _, l ++ [Cell.lst ((parts g).map enc)] ++ [Cell.lst (((parts g).filter fun x => !decide (x ∈ acc)).map enc)], rfl, ?_⟩
                rw [hT, ← List.map_append, List.append_assoc S, List.append_assoc S, List.append_assoc S, List.set_append_right _ _ (Nat.le_refl _), Nat.sub_self]
                simp only [List.cons_append, List.nil_append, List.set_cons_zero, List.append_assoc]
                rfl
            · rintro env T ⟨e2, e3, l, rfl, rfl⟩
              rw [List.length_map, List.take_length, accOf_kids]
              simp (disch := first | assumption | rfl | omega | (simp only [List.length_set, List.length_append, List.length_cons, List.length_nil, List.length_map]; omega) | decide +kernel) only [↓miA, miB, miC, ex_nil, ex_app, ex_app2, ex_app3, ex_app4, ex_app5, ex_app6, in62r, inWr, inWl, lim, List.length_set, List.length_cons, List.length_nil, List.getElem?_cons_zero, List.getElem?_cons_succ, List.set_cons_zero, List.set_cons_succ, Int.reduceToNat, eq_self, List.zip_nil_left, List.zip_nil_right, List.zip_cons_cons, decide_true, decide_eq_true, decide_eq_false, Bool.not_true, Bool.not_false, Bool.and_true, Bool.and_false, Bool.true_and, Bool.false_and, Bool.or_true, Bool.or_false, Bool.true_or, Bool.false_or, Bool.not_not, List.isEmpty_nil, List.isEmpty_cons, true_and, and_true, hi2, hr, hset, List.length_map]
            · rw [List.length_map]
              omega
        rw [hx]
        exact go
    obtain ⟨d, T, e, rfl, l, rfl⟩ := W_ex fin
    rw [e, List.append_assoc]
    exact gc_new (Nat.le_refl _) (by rw [← List.append_assoc, get_app (by rw [List.length_append]; show S.length < S.length + 1; omega)]; exact get_new) (lows_enc 0 _)
end K12

namespace K12
open PySem PySem.Spec Mi Pf
abbrev stp (a b : Nat) : Cell := .ins 1 (stf a b)
/-- the cells of a reader -/
abbrev stc (n : Nat) (f : F) : List Cell := [stp (n + 1) (n + 2), .lst ((parts f).map enc), .dic (places 0 (parts f))]
theorem steps_init {f : F} {k : Nat} {S : Store} (hd : fdep f ≤ 8) (hk : 10 ≤ k) : callN prg k 8 [.ref S.length, enc f] (S ++ [.ins 1 []]) = .ok .non (S ++ stc S.length f) := by
  obtain ⟨k, rfl⟩ : ∃ j, k = j + 1 := ⟨k - 1, by omega⟩
  rw [call_Steps___init__]
  have hw : W (endOf (xss ⟨callN prg k, 1000000⟩ b_Steps___init__ [some (.ref S.length), some (enc f), none, none] (S ++ [.ins 1 []]))) (fun d T => d = .non ∧ T = S ++ stc S.length f) NoEx := by
    have l1 : (S ++ [Cell.ins 1 []]).length = S.length + 1 := List.length_append
    have e1 := parts_of (n := 8) (f := f) (k := k) (S := S ++ [.ins 1 []]) hd (by omega) (by omega)
    rw [l1] at e1
    have g1 : ∀ l, (S ++ [Cell.ins 1 []] ++ l)[S.length]? = some (.ins 1 []) := fun l => by
      rw [get_app (by rw [l1]; omega)]
      exact get_new
    have s1 : ∀ c l, (S ++ [Cell.ins 1 []] ++ [l]).set S.length c = S ++ [c, l] := fun c l => by
      rw [List.append_assoc, List.set_append_right _ _ (Nat.le_refl _), Nat.sub_self]
      rfl
    have g2 : ∀ c l, (S ++ [c, l])[S.length + 1]? = some l := fun c l => by
      rw [List.getElem?_append_right (by omega), Nat.add_sub_cancel_left]
      rfl
    have g3 : ∀ c l, (S ++ [c, l])[S.length]? = some c := fun c l => by
      rw [List.getElem?_append_right (by omega), Nat.sub_self]
      rfl
    have pd : ∀ g ∈ parts f, fdep g ≤ 8 := fun g hg => Nat.le_trans (part_dep hg) hd
    have pl : (parts f).length < 128 := parts_lt (n := 7) (by omega)
    obtain ⟨c0, hc0⟩ : ∃ c0, c0 = Cell.ins 1 [("_parts", .ref (S.length + 1))] := ⟨_, rfl⟩
    unfold b_Steps___init__
    simp (disch := first | assumption | rfl | omega | (simp only [List.length_set, List.length_append, List.length_cons, List.length_nil, List.length_map]; omega) | decide +kernel) only [↓miA, miB, miC, ex_nil, ex_app, ex_app2, ex_app3, ex_app4, ex_app5, ex_app6, in62r, inWr, inWl, lim, List.length_set, List.length_cons, List.length_nil, List.getElem?_cons_zero, List.getElem?_cons_succ, List.set_cons_zero, List.set_cons_succ, Int.reduceToNat, eq_self, List.zip_nil_left, List.zip_nil_right, List.zip_cons_cons, decide_true, decide_eq_true, decide_eq_false, Bool.not_true, Bool.not_false, Bool.and_true, Bool.and_false, Bool.true_and, Bool.false_and, Bool.or_true, Bool.or_false, Bool.true_or, Bool.false_or, Bool.not_not, List.isEmpty_nil, List.isEmpty_cons, true_and, and_true, e1, g1, stf_s0, s1]
    rw [← hc0]
    simp (disch := first | assumption | rfl | omega | (simp only [List.length_set, List.length_append, List.length_cons, List.length_nil, List.length_map]; omega) | decide +kernel) only [↓miA, miB, miC, ex_nil, ex_app, ex_app2, ex_app3, ex_app4, ex_app5, ex_app6, in62r, inWr, inWl, lim, List.length_set, List.length_cons, List.length_nil, List.getElem?_cons_zero, List.getElem?_cons_succ, List.set_cons_zero, List.set_cons_succ, Int.reduceToNat, eq_self, List.zip_nil_left, List.zip_nil_right, List.zip_cons_cons, decide_true, decide_eq_true, decide_eq_false, Bool.not_true, Bool.not_false, Bool.and_true, Bool.and_false, Bool.true_and, Bool.false_and, Bool.or_true, Bool.or_false, Bool.true_or, Bool.false_or, Bool.not_not, List.isEmpty_nil, List.isEmpty_cons, true_and, and_true, g3, hc0, stf_1]
    rw [← hc0]
    simp (disch := first | assumption | rfl | omega | (simp only [List.length_set, List.length_append, List.length_cons, List.length_nil, List.length_map]; omega) | decide +kernel) only [↓miA, miB, miC, ex_nil, ex_app, ex_app2, ex_app3, ex_app4, ex_app5, ex_app6, in62r, inWr, inWl, lim, List.length_set, List.length_cons, List.length_nil, List.getElem?_cons_zero, List.getElem?_cons_succ, List.set_cons_zero, List.set_cons_succ, Int.reduceToNat, eq_self, List.zip_nil_left, List.zip_nil_right, List.zip_cons_cons, decide_true, decide_eq_true, decide_eq_false, Bool.not_true, Bool.not_false, Bool.and_true, Bool.and_false, Bool.true_and, Bool.false_and, Bool.or_true, Bool.or_false, Bool.true_or, Bool.false_or, Bool.not_not, List.isEmpty_nil, List.isEmpty_cons, true_and, and_true, g2]
    have l2 : (S ++ [c0, Cell.lst ((parts f).map enc)]).length = S.length + 2 := List.length_append
    refine dcI (ds := enuD ((parts f).map enc)) (fun j kvs T => kvs = places 0 ((parts f).take j) ∧ T = S ++ [c0, .lst ((parts f).map enc)] ++ [.dic kvs]) (fun j kvs T h => ?_) ?_ ⟨rfl, rfl⟩ (fun j d kvs T h1 h2 h3 => ?_) (fun kvs T h1 h2 => ?_)
    · obtain ⟨rfl, rfl⟩ := h
      refine at_enu ?_
      rw [get_app (by rw [l2]; omega)]
      exact g2 _ _
    · rw [enuD_len, List.length_map]
      show _ < 1000000
      omega
    · obtain ⟨rfl, rfl⟩ := h2
      obtain ⟨d', hd', rfl⟩ := enuD_at h1
      rw [List.getElem?_map, Option.map_eq_some_iff] at hd'
      obtain ⟨g, hg, rfl⟩ := hd'
      have tk : ∀ x ∈ (parts f).take j, fdep x ≤ 8 := fun x hx => pd x (List.mem_of_mem_take hx)
      have hj : j < (parts f).length := (List.getElem?_eq_some_iff.mp hg).1
      have no : g ∉ (parts f).take j := fun hm => by
        obtain ⟨i, hi⟩ := List.mem_iff_getElem?.mp hm
        have hij : i < j := by
          have := (List.getElem?_eq_some_iff.mp hi).1
          rw [List.length_take] at this
          omega
        rw [List.getElem?_take_of_lt hij] at hi
        have := (List.getElem?_inj (by omega) (parts_nodup f)).mp (hi.trans hg.symm)
        omega
      have put : dput (places 0 ((parts f).take j)) (enc g) (.int j) = places 0 ((parts f).take (j + 1)) := by
        unfold dput
        rw [places_no no, if_neg Bool.false_ne_true, List.take_add_one, hg]
        show _ = places 0 ((parts f).take j ++ [g])
        rw [places_app, Nat.zero_add, List.length_take, Nat.min_eq_left (by omega)]
      simp (disch := first | assumption | rfl | omega | (simp only [List.length_set, List.length_append, List.length_cons, List.length_nil, List.length_map]; omega) | decide +kernel) only [↓miA, miB, miC, ex_nil, ex_app, ex_app2, ex_app3, ex_app4, ex_app5, ex_app6, in62r, inWr, inWl, lim, List.length_set, List.length_cons, List.length_nil, List.getElem?_cons_zero, List.getElem?_cons_succ, List.set_cons_zero, List.set_cons_succ, Int.reduceToNat, eq_self, List.zip_nil_left, List.zip_nil_right, List.zip_cons_cons, decide_true, decide_eq_true, decide_eq_false, Bool.not_true, Bool.not_false, Bool.and_true, Bool.and_false, Bool.true_and, Bool.false_and, Bool.or_true, Bool.or_false, Bool.true_or, Bool.false_or, Bool.not_not, List.isEmpty_nil, List.isEmpty_cons, true_and, and_true]
      exact ⟨places_ok tk (pd g (List.mem_of_getElem? hg)), by rw [places_len, List.length_take]; omega, put, by rw [List.set_append_right _ _ (Nat.le_refl _), Nat.sub_self]; rfl⟩
    · obtain ⟨rfl, rfl⟩ := h1
      rw [enuD_len, List.length_map, List.take_length, l2]
      have g4 : ∀ c, (S ++ [c0, Cell.lst ((parts f).map enc)] ++ [c])[S.length]? = some c0 := fun c => by
        rw [get_app (by rw [l2]; omega)]
        exact g3 _ _
      have s2 : ∀ c d, (S ++ [c0, Cell.lst ((parts f).map enc)] ++ [d]).set S.length c = S ++ [c, .lst ((parts f).map enc), d] := fun c d => by
        rw [List.append_assoc, List.set_append_right _ _ (Nat.le_refl _), Nat.sub_self]
        rfl
      simp (disch := first | assumption | rfl | omega | (simp only [List.length_set, List.length_append, List.length_cons, List.length_nil, List.length_map]; omega) | decide +kernel) only [↓miA, miB, miC, ex_nil, ex_app, ex_app2, ex_app3, ex_app4, ex_app5, ex_app6, in62r, inWr, inWl, lim, List.length_set, List.length_cons, List.length_nil, List.getElem?_cons_zero, List.getElem?_cons_succ, List.set_cons_zero, List.set_cons_succ, Int.reduceToNat, eq_self, List.zip_nil_left, List.zip_nil_right, List.zip_cons_cons, decide_true, decide_eq_true, decide_eq_false, Bool.not_true, Bool.not_false, Bool.and_true, Bool.and_false, Bool.true_and, Bool.false_and, Bool.or_true, Bool.or_false, Bool.true_or, Bool.false_or, Bool.not_not, List.isEmpty_nil, List.isEmpty_cons, true_and, and_true, g4]
      simp (disch := first | assumption | rfl | omega | (simp only [List.length_set, List.length_append, List.length_cons, List.length_nil, List.length_map]; omega) | decide +kernel) only [↓miA, miB, miC, ex_nil, ex_app, ex_app2, ex_app3, ex_app4, ex_app5, ex_app6, in62r, inWr, inWl, lim, List.length_set, List.length_cons, List.length_nil, List.getElem?_cons_zero, List.getElem?_cons_succ, List.set_cons_zero, List.set_cons_succ, Int.reduceToNat, eq_self, List.zip_nil_left, List.zip_nil_right, List.zip_cons_cons, decide_true, decide_eq_true, decide_eq_false, Bool.not_true, Bool.not_false, Bool.and_true, Bool.and_false, Bool.true_and, Bool.false_and, Bool.or_true, Bool.or_false, Bool.true_or, Bool.false_or, Bool.not_not, List.isEmpty_nil, List.isEmpty_cons, true_and, and_true, hc0, stf_s1]
      rw [← hc0, s2]
  rw [W_eq.mpr hw]
  unfold gc
  dsimp only
  have e : gcOk (S ++ [Cell.ins 1 []]) (S ++ stc S.length f) = false := by
    refine gcOkN_bad ?_ S _
    have e2 : Cell.low (S ++ [Cell.ins 1 []]).length (stp (S.length + 1) (S.length + 2)) = false := by
      show (decide (S.length + 1 < (S ++ [Cell.ins 1 []]).length) && _) = false
      rw [decide_eq_false (by rw [List.length_append]; show ¬(S.length + 1 < S.length + 1); omega)]
      rfl
    rw [e2]
    rfl
  rw [e, if_neg Bool.false_ne_true]
/-! ### one step -/
/-- where a reader stands -/
structure At (S : Store) (r a b : Nat) (ps : List F) : Prop where
  r : S[r]? = some (stp a b)
  a : S[a]? = some (.lst (ps.map enc))
  b : S[b]? = some (.dic (places 0 ps))
/-- what is known ahead of a part -/
structure Sees (w : List Int) (f h : F) (j p : Nat) : Prop where
  d : fdep f ≤ 8
  tt : trk h
  p : p < w.length
  at_ : (parts f)[j]? = some h
theorem truth_nt0 {w : List Int} {f f1 : F} {j k : Nat} {S : Store} {r a b c : Nat} {l : Int} (A : At S r a b (parts f)) (Z : Sees w f (.nt f1) j 0) (hc : S[c]? = some (.lst (row w ((parts f).take j) 0))) (hk : 2 ≤ k) : callN prg k 10 [.ref r, enc (.nt f1), .int j, .non, .int l, .ref c] S = .ok (.bl (sem w (.nt f1) 0)) S := by
  obtain ⟨k, rfl⟩ : ∃ j, k = j + 1 := ⟨k - 1, by omega⟩
  rw [call_Steps__truth]
  refine gc_is ?_ rfl
  unfold b_Steps__truth
  have pd : ∀ g ∈ parts f, fdep g ≤ 8 := fun g hg => Nat.le_trans (part_dep hg) Z.d
  have ar := A.r
  obtain ⟨i0, hi0, hp0⟩ := kid_at Z.at_ (show f1 ∈ kids (.nt f1) from by simp [kids])
  have x0 := ix_place A.b pd (parts_nodup f) hp0
  have v0 : (row w ((parts f).take j) 0)[i0]? = some (.bl (sem w f1 0)) := row_at (by rw [List.getElem?_take_of_lt hi0]; exact hp0)
  simp only [enc]
  simp (disch := first | assumption | rfl | omega | (simp only [List.length_set, List.length_append, List.length_cons, List.length_nil, List.length_map]; omega) | decide +kernel) only [↓miA, miB, miC, ex_nil, ex_app, ex_app2, ex_app3, ex_app4, ex_app5, ex_app6, in62r, inWr, inWl, lim, List.length_set, List.length_cons, List.length_nil, List.getElem?_cons_zero, List.getElem?_cons_succ, List.set_cons_zero, List.set_cons_succ, Int.reduceToNat, eq_self, List.zip_nil_left, List.zip_nil_right, List.zip_cons_cons, decide_true, decide_eq_true, decide_eq_false, Bool.not_true, Bool.not_false, Bool.and_true, Bool.and_false, Bool.true_and, Bool.false_and, Bool.or_true, Bool.or_false, Bool.true_or, Bool.false_or, Bool.not_not, List.isEmpty_nil, List.isEmpty_cons, true_and, and_true, ar, stf_b, x0, v0, hc, Int.toNat_natCast, miX, sem_nt]
  try first | done | rfl
theorem truth_nt1 {w : List Int} {f f1 : F} {q : Nat} {j k : Nat} {S : Store} {r a b c : Nat} {l : Int} (A : At S r a b (parts f)) (Z : Sees w f (.nt f1) j (q + 1)) (hc : S[c]? = some (.lst (row w ((parts f).take j) (q + 1)))) (hk : 2 ≤ k) : callN prg k 10 [.ref r, enc (.nt f1), .int j, .tup (row w (parts f) q), .int l, .ref c] S = .ok (.bl (sem w (.nt f1) (q + 1))) S := by
  obtain ⟨k, rfl⟩ : ∃ j, k = j + 1 := ⟨k - 1, by omega⟩
  rw [call_Steps__truth]
  refine gc_is ?_ rfl
  unfold b_Steps__truth
  have pd : ∀ g ∈ parts f, fdep g ≤ 8 := fun g hg => Nat.le_trans (part_dep hg) Z.d
  have ar := A.r
  obtain ⟨i0, hi0, hp0⟩ := kid_at Z.at_ (show f1 ∈ kids (.nt f1) from by simp [kids])
  have x0 := ix_place A.b pd (parts_nodup f) hp0
  have v0 : (row w ((parts f).take j) (q + 1))[i0]? = some (.bl (sem w f1 (q + 1))) := row_at (by rw [List.getElem?_take_of_lt hi0]; exact hp0)
  have u0 : (row w (parts f) q)[i0]? = some (.bl (sem w f1 q)) := row_at hp0
  have uj : (row w (parts f) q)[j]? = some (.bl (sem w (.nt f1) q)) := row_at Z.at_
  simp only [enc]
  simp (disch := first | assumption | rfl | omega | (simp only [List.length_set, List.length_append, List.length_cons, List.length_nil, List.length_map]; omega) | decide +kernel) only [↓miA, miB, miC, ex_nil, ex_app, ex_app2, ex_app3, ex_app4, ex_app5, ex_app6, in62r, inWr, inWl, lim, List.length_set, List.length_cons, List.length_nil, List.getElem?_cons_zero, List.getElem?_cons_succ, List.set_cons_zero, List.set_cons_succ, Int.reduceToNat, eq_self, List.zip_nil_left, List.zip_nil_right, List.zip_cons_cons, decide_true, decide_eq_true, decide_eq_false, Bool.not_true, Bool.not_false, Bool.and_true, Bool.and_false, Bool.true_and, Bool.false_and, Bool.or_true, Bool.or_false, Bool.true_or, Bool.false_or, Bool.not_not, List.isEmpty_nil, List.isEmpty_cons, true_and, and_true, ar, stf_b, x0, v0, u0, uj, hc, Int.toNat_natCast, miX, sem_nt]
  try first | done | rfl
theorem truth_bf0 {w : List Int} {f f1 : F} {j k : Nat} {S : Store} {r a b c : Nat} {l : Int} (A : At S r a b (parts f)) (Z : Sees w f (.bf f1) j 0) (hc : S[c]? = some (.lst (row w ((parts f).take j) 0))) (hk : 2 ≤ k) : callN prg k 10 [.ref r, enc (.bf f1), .int j, .non, .int l, .ref c] S = .ok (.bl (sem w (.bf f1) 0)) S := by
  obtain ⟨k, rfl⟩ : ∃ j, k = j + 1 := ⟨k - 1, by omega⟩
  rw [call_Steps__truth]
  refine gc_is ?_ rfl
  unfold b_Steps__truth
  have pd : ∀ g ∈ parts f, fdep g ≤ 8 := fun g hg => Nat.le_trans (part_dep hg) Z.d
  have ar := A.r
  obtain ⟨i0, hi0, hp0⟩ := kid_at Z.at_ (show f1 ∈ kids (.bf f1) from by simp [kids])
  have x0 := ix_place A.b pd (parts_nodup f) hp0
  have v0 : (row w ((parts f).take j) 0)[i0]? = some (.bl (sem w f1 0)) := row_at (by rw [List.getElem?_take_of_lt hi0]; exact hp0)
  simp only [enc]
  simp (disch := first | assumption | rfl | omega | (simp only [List.length_set, List.length_append, List.length_cons, List.length_nil, List.length_map]; omega) | decide +kernel) only [↓miA, miB, miC, ex_nil, ex_app, ex_app2, ex_app3, ex_app4, ex_app5, ex_app6, in62r, inWr, inWl, lim, List.length_set, List.length_cons, List.length_nil, List.getElem?_cons_zero, List.getElem?_cons_succ, List.set_cons_zero, List.set_cons_succ, Int.reduceToNat, eq_self, List.zip_nil_left, List.zip_nil_right, List.zip_cons_cons, decide_true, decide_eq_true, decide_eq_false, Bool.not_true, Bool.not_false, Bool.and_true, Bool.and_false, Bool.true_and, Bool.false_and, Bool.or_true, Bool.or_false, Bool.true_or, Bool.false_or, Bool.not_not, List.isEmpty_nil, List.isEmpty_cons, true_and, and_true, ar, stf_b, x0, v0, hc, Int.toNat_natCast, miX, sem_bf0]
  try first | done | rfl
theorem truth_bf1 {w : List Int} {f f1 : F} {q : Nat} {j k : Nat} {S : Store} {r a b c : Nat} {l : Int} (A : At S r a b (parts f)) (Z : Sees w f (.bf f1) j (q + 1)) (hc : S[c]? = some (.lst (row w ((parts f).take j) (q + 1)))) (hk : 2 ≤ k) : callN prg k 10 [.ref r, enc (.bf f1), .int j, .tup (row w (parts f) q), .int l, .ref c] S = .ok (.bl (sem w (.bf f1) (q + 1))) S := by
  obtain ⟨k, rfl⟩ : ∃ j, k = j + 1 := ⟨k - 1, by omega⟩
  rw [call_Steps__truth]
  refine gc_is ?_ rfl
  unfold b_Steps__truth
  have pd : ∀ g ∈ parts f, fdep g ≤ 8 := fun g hg => Nat.le_trans (part_dep hg) Z.d
  have ar := A.r
  obtain ⟨i0, hi0, hp0⟩ := kid_at Z.at_ (show f1 ∈ kids (.bf f1) from by simp [kids])
  have x0 := ix_place A.b pd (parts_nodup f) hp0
  have v0 : (row w ((parts f).take j) (q + 1))[i0]? = some (.bl (sem w f1 (q + 1))) := row_at (by rw [List.getElem?_take_of_lt hi0]; exact hp0)
  have u0 : (row w (parts f) q)[i0]? = some (.bl (sem w f1 q)) := row_at hp0
  have uj : (row w (parts f) q)[j]? = some (.bl (sem w (.bf f1) q)) := row_at Z.at_
  simp only [enc]
  simp (disch := first | assumption | rfl | omega | (simp only [List.length_set, List.length_append, List.length_cons, List.length_nil, List.length_map]; omega) | decide +kernel) only [↓miA, miB, miC, ex_nil, ex_app, ex_app2, ex_app3, ex_app4, ex_app5, ex_app6, in62r, inWr, inWl, lim, List.length_set, List.length_cons, List.length_nil, List.getElem?_cons_zero, List.getElem?_cons_succ, List.set_cons_zero, List.set_cons_succ, Int.reduceToNat, eq_self, List.zip_nil_left, List.zip_nil_right, List.zip_cons_cons, decide_true, decide_eq_true, decide_eq_false, Bool.not_true, Bool.not_false, Bool.and_true, Bool.and_false, Bool.true_and, Bool.false_and, Bool.or_true, Bool.or_false, Bool.true_or, Bool.false_or, Bool.not_not, List.isEmpty_nil, List.isEmpty_cons, true_and, and_true, ar, stf_b, x0, v0, u0, uj, hc, Int.toNat_natCast, miX, sem_bf]
  try first | done | rfl
theorem truth_on0 {w : List Int} {f f1 : F} {j k : Nat} {S : Store} {r a b c : Nat} {l : Int} (A : At S r a b (parts f)) (Z : Sees w f (.on f1) j 0) (hc : S[c]? = some (.lst (row w ((parts f).take j) 0))) (hk : 2 ≤ k) : callN prg k 10 [.ref r, enc (.on f1), .int j, .non, .int l, .ref c] S = .ok (.bl (sem w (.on f1) 0)) S := by
  obtain ⟨k, rfl⟩ : ∃ j, k = j + 1 := ⟨k - 1, by omega⟩
  rw [call_Steps__truth]
  refine gc_is ?_ rfl
  unfold b_Steps__truth
  have pd : ∀ g ∈ parts f, fdep g ≤ 8 := fun g hg => Nat.le_trans (part_dep hg) Z.d
  have ar := A.r
  obtain ⟨i0, hi0, hp0⟩ := kid_at Z.at_ (show f1 ∈ kids (.on f1) from by simp [kids])
  have x0 := ix_place A.b pd (parts_nodup f) hp0
  have v0 : (row w ((parts f).take j) 0)[i0]? = some (.bl (sem w f1 0)) := row_at (by rw [List.getElem?_take_of_lt hi0]; exact hp0)
  simp only [enc]
  cases z0 : sem w f1 0
  all_goals
    simp (disch := first | assumption | rfl | omega | (simp only [List.length_set, List.length_append, List.length_cons, List.length_nil, List.length_map]; omega) | decide +kernel) only [↓miA, miB, miC, ex_nil, ex_app, ex_app2, ex_app3, ex_app4, ex_app5, ex_app6, in62r, inWr, inWl, lim, List.length_set, List.length_cons, List.length_nil, List.getElem?_cons_zero, List.getElem?_cons_succ, List.set_cons_zero, List.set_cons_succ, Int.reduceToNat, eq_self, List.zip_nil_left, List.zip_nil_right, List.zip_cons_cons, decide_true, decide_eq_true, decide_eq_false, Bool.not_true, Bool.not_false, Bool.and_true, Bool.and_false, Bool.true_and, Bool.false_and, Bool.or_true, Bool.or_false, Bool.true_or, Bool.false_or, Bool.not_not, List.isEmpty_nil, List.isEmpty_cons, true_and, and_true, ar, stf_b, x0, v0, hc, Int.toNat_natCast, miX, sem_on0, z0]
    try first | done | rfl
theorem truth_on1 {w : List Int} {f f1 : F} {q : Nat} {j k : Nat} {S : Store} {r a b c : Nat} {l : Int} (A : At S r a b (parts f)) (Z : Sees w f (.on f1) j (q + 1)) (hc : S[c]? = some (.lst (row w ((parts f).take j) (q + 1)))) (hk : 2 ≤ k) : callN prg k 10 [.ref r, enc (.on f1), .int j, .tup (row w (parts f) q), .int l, .ref c] S = .ok (.bl (sem w (.on f1) (q + 1))) S := by
  obtain ⟨k, rfl⟩ : ∃ j, k = j + 1 := ⟨k - 1, by omega⟩
  rw [call_Steps__truth]
  refine gc_is ?_ rfl
  unfold b_Steps__truth
  have pd : ∀ g ∈ parts f, fdep g ≤ 8 := fun g hg => Nat.le_trans (part_dep hg) Z.d
  have ar := A.r
  obtain ⟨i0, hi0, hp0⟩ := kid_at Z.at_ (show f1 ∈ kids (.on f1) from by simp [kids])
  have x0 := ix_place A.b pd (parts_nodup f) hp0
  have v0 : (row w ((parts f).take j) (q + 1))[i0]? = some (.bl (sem w f1 (q + 1))) := row_at (by rw [List.getElem?_take_of_lt hi0]; exact hp0)
  have u0 : (row w (parts f) q)[i0]? = some (.bl (sem w f1 q)) := row_at hp0
  have uj : (row w (parts f) q)[j]? = some (.bl (sem w (.on f1) q)) := row_at Z.at_
  simp only [enc]
  cases z0 : sem w f1 (q + 1) <;> cases z2 : sem w (.on f1) q
  all_goals
    simp (disch := first | assumption | rfl | omega | (simp only [List.length_set, List.length_append, List.length_cons, List.length_nil, List.length_map]; omega) | decide +kernel) only [↓miA, miB, miC, ex_nil, ex_app, ex_app2, ex_app3, ex_app4, ex_app5, ex_app6, in62r, inWr, inWl, lim, List.length_set, List.length_cons, List.length_nil, List.getElem?_cons_zero, List.getElem?_cons_succ, List.set_cons_zero, List.set_cons_succ, Int.reduceToNat, eq_self, List.zip_nil_left, List.zip_nil_right, List.zip_cons_cons, decide_true, decide_eq_true, decide_eq_false, Bool.not_true, Bool.not_false, Bool.and_true, Bool.and_false, Bool.true_and, Bool.false_and, Bool.or_true, Bool.or_false, Bool.true_or, Bool.false_or, Bool.not_not, List.isEmpty_nil, List.isEmpty_cons, true_and, and_true, ar, stf_b, x0, v0, u0, uj, hc, Int.toNat_natCast, miX, sem_on, z0, z2]
    try first | done | rfl
theorem truth_sf0 {w : List Int} {f f1 : F} {j k : Nat} {S : Store} {r a b c : Nat} {l : Int} (A : At S r a b (parts f)) (Z : Sees w f (.sf f1) j 0) (hc : S[c]? = some (.lst (row w ((parts f).take j) 0))) (hk : 2 ≤ k) : callN prg k 10 [.ref r, enc (.sf f1), .int j, .non, .int l, .ref c] S = .ok (.bl (sem w (.sf f1) 0)) S := by
  obtain ⟨k, rfl⟩ : ∃ j, k = j + 1 := ⟨k - 1, by omega⟩
  rw [call_Steps__truth]
  refine gc_is ?_ rfl
  unfold b_Steps__truth
  have pd : ∀ g ∈ parts f, fdep g ≤ 8 := fun g hg => Nat.le_trans (part_dep hg) Z.d
  have ar := A.r
  obtain ⟨i0, hi0, hp0⟩ := kid_at Z.at_ (show f1 ∈ kids (.sf f1) from by simp [kids])
  have x0 := ix_place A.b pd (parts_nodup f) hp0
  have v0 : (row w ((parts f).take j) 0)[i0]? = some (.bl (sem w f1 0)) := row_at (by rw [List.getElem?_take_of_lt hi0]; exact hp0)
  simp only [enc]
  cases z0 : sem w f1 0
  all_goals
    simp (disch := first | assumption | rfl | omega | (simp only [List.length_set, List.length_append, List.length_cons, List.length_nil, List.length_map]; omega) | decide +kernel) only [↓miA, miB, miC, ex_nil, ex_app, ex_app2, ex_app3, ex_app4, ex_app5, ex_app6, in62r, inWr, inWl, lim, List.length_set, List.length_cons, List.length_nil, List.getElem?_cons_zero, List.getElem?_cons_succ, List.set_cons_zero, List.set_cons_succ, Int.reduceToNat, eq_self, List.zip_nil_left, List.zip_nil_right, List.zip_cons_cons, decide_true, decide_eq_true, decide_eq_false, Bool.not_true, Bool.not_false, Bool.and_true, Bool.and_false, Bool.true_and, Bool.false_and, Bool.or_true, Bool.or_false, Bool.true_or, Bool.false_or, Bool.not_not, List.isEmpty_nil, List.isEmpty_cons, true_and, and_true, ar, stf_b, x0, v0, hc, Int.toNat_natCast, miX, sem_sf0, z0]
    try first | done | rfl
theorem truth_sf1 {w : List Int} {f f1 : F} {q : Nat} {j k : Nat} {S : Store} {r a b c : Nat} {l : Int} (A : At S r a b (parts f)) (Z : Sees w f (.sf f1) j (q + 1)) (hc : S[c]? = some (.lst (row w ((parts f).take j) (q + 1)))) (hk : 2 ≤ k) : callN prg k 10 [.ref r, enc (.sf f1), .int j, .tup (row w (parts f) q), .int l, .ref c] S = .ok (.bl (sem w (.sf f1) (q + 1))) S := by
  obtain ⟨k, rfl⟩ : ∃ j, k = j + 1 := ⟨k - 1, by omega⟩
  rw [call_Steps__truth]
  refine gc_is ?_ rfl
  unfold b_Steps__truth
  have pd : ∀ g ∈ parts f, fdep g ≤ 8 := fun g hg => Nat.le_trans (part_dep hg) Z.d
  have ar := A.r
  obtain ⟨i0, hi0, hp0⟩ := kid_at Z.at_ (show f1 ∈ kids (.sf f1) from by simp [kids])
  have x0 := ix_place A.b pd (parts_nodup f) hp0
  have v0 : (row w ((parts f).take j) (q + 1))[i0]? = some (.bl (sem w f1 (q + 1))) := row_at (by rw [List.getElem?_take_of_lt hi0]; exact hp0)
  have u0 : (row w (parts f) q)[i0]? = some (.bl (sem w f1 q)) := row_at hp0
  have uj : (row w (parts f) q)[j]? = some (.bl (sem w (.sf f1) q)) := row_at Z.at_
  simp only [enc]
  cases z0 : sem w f1 (q + 1) <;> cases z2 : sem w (.sf f1) q
  all_goals
    simp (disch := first | assumption | rfl | omega | (simp only [List.length_set, List.length_append, List.length_cons, List.length_nil, List.length_map]; omega) | decide +kernel) only [↓miA, miB, miC, ex_nil, ex_app, ex_app2, ex_app3, ex_app4, ex_app5, ex_app6, in62r, inWr, inWl, lim, List.length_set, List.length_cons, List.length_nil, List.getElem?_cons_zero, List.getElem?_cons_succ, List.set_cons_zero, List.set_cons_succ, Int.reduceToNat, eq_self, List.zip_nil_left, List.zip_nil_right, List.zip_cons_cons, decide_true, decide_eq_true, decide_eq_false, Bool.not_true, Bool.not_false, Bool.and_true, Bool.and_false, Bool.true_and, Bool.false_and, Bool.or_true, Bool.or_false, Bool.true_or, Bool.false_or, Bool.not_not, List.isEmpty_nil, List.isEmpty_cons, true_and, and_true, ar, stf_b, x0, v0, u0, uj, hc, Int.toNat_natCast, miX, sem_sf, z0, z2]
    try first | done | rfl
theorem truth_an0 {w : List Int} {f f1 f2 : F} {j k : Nat} {S : Store} {r a b c : Nat} {l : Int} (A : At S r a b (parts f)) (Z : Sees w f (.an f1 f2) j 0) (hc : S[c]? = some (.lst (row w ((parts f).take j) 0))) (hk : 2 ≤ k) : callN prg k 10 [.ref r, enc (.an f1 f2), .int j, .non, .int l, .ref c] S = .ok (.bl (sem w (.an f1 f2) 0)) S := by
  obtain ⟨k, rfl⟩ : ∃ j, k = j + 1 := ⟨k - 1, by omega⟩
  rw [call_Steps__truth]
  refine gc_is ?_ rfl
  unfold b_Steps__truth
  have pd : ∀ g ∈ parts f, fdep g ≤ 8 := fun g hg => Nat.le_trans (part_dep hg) Z.d
  have ar := A.r
  obtain ⟨i0, hi0, hp0⟩ := kid_at Z.at_ (show f1 ∈ kids (.an f1 f2) from by simp [kids])
  have x0 := ix_place A.b pd (parts_nodup f) hp0
  have v0 : (row w ((parts f).take j) 0)[i0]? = some (.bl (sem w f1 0)) := row_at (by rw [List.getElem?_take_of_lt hi0]; exact hp0)
  obtain ⟨i1, hi1, hp1⟩ := kid_at Z.at_ (show f2 ∈ kids (.an f1 f2) from by simp [kids])
  have x1 := ix_place A.b pd (parts_nodup f) hp1
  have v1 : (row w ((parts f).take j) 0)[i1]? = some (.bl (sem w f2 0)) := row_at (by rw [List.getElem?_take_of_lt hi1]; exact hp1)
  simp only [enc]
  cases z0 : sem w f1 0 <;> cases z1 : sem w f2 0
  all_goals
    simp (disch := first | assumption | rfl | omega | (simp only [List.length_set, List.length_append, List.length_cons, List.length_nil, List.length_map]; omega) | decide +kernel) only [↓miA, miB, miC, ex_nil, ex_app, ex_app2, ex_app3, ex_app4, ex_app5, ex_app6, in62r, inWr, inWl, lim, List.length_set, List.length_cons, List.length_nil, List.getElem?_cons_zero, List.getElem?_cons_succ, List.set_cons_zero, List.set_cons_succ, Int.reduceToNat, eq_self, List.zip_nil_left, List.zip_nil_right, List.zip_cons_cons, decide_true, decide_eq_true, decide_eq_false, Bool.not_true, Bool.not_false, Bool.and_true, Bool.and_false, Bool.true_and, Bool.false_and, Bool.or_true, Bool.or_false, Bool.true_or, Bool.false_or, Bool.not_not, List.isEmpty_nil, List.isEmpty_cons, true_and, and_true, ar, stf_b, x0, v0, x1, v1, hc, Int.toNat_natCast, miX, sem_an, z0, z1]
    try first | done | rfl
theorem truth_an1 {w : List Int} {f f1 f2 : F} {q : Nat} {j k : Nat} {S : Store} {r a b c : Nat} {l : Int} (A : At S r a b (parts f)) (Z : Sees w f (.an f1 f2) j (q + 1)) (hc : S[c]? = some (.lst (row w ((parts f).take j) (q + 1)))) (hk : 2 ≤ k) : callN prg k 10 [.ref r, enc (.an f1 f2), .int j, .tup (row w (parts f) q), .int l, .ref c] S = .ok (.bl (sem w (.an f1 f2) (q + 1))) S := by
  obtain ⟨k, rfl⟩ : ∃ j, k = j + 1 := ⟨k - 1, by omega⟩
  rw [call_Steps__truth]
  refine gc_is ?_ rfl
  unfold b_Steps__truth
  have pd : ∀ g ∈ parts f, fdep g ≤ 8 := fun g hg => Nat.le_trans (part_dep hg) Z.d
  have ar := A.r
  obtain ⟨i0, hi0, hp0⟩ := kid_at Z.at_ (show f1 ∈ kids (.an f1 f2) from by simp [kids])
  have x0 := ix_place A.b pd (parts_nodup f) hp0
  have v0 : (row w ((parts f).take j) (q + 1))[i0]? = some (.bl (sem w f1 (q + 1))) := row_at (by rw [List.getElem?_take_of_lt hi0]; exact hp0)
  have u0 : (row w (parts f) q)[i0]? = some (.bl (sem w f1 q)) := row_at hp0
  obtain ⟨i1, hi1, hp1⟩ := kid_at Z.at_ (show f2 ∈ kids (.an f1 f2) from by simp [kids])
  have x1 := ix_place A.b pd (parts_nodup f) hp1
  have v1 : (row w ((parts f).take j) (q + 1))[i1]? = some (.bl (sem w f2 (q + 1))) := row_at (by rw [List.getElem?_take_of_lt hi1]; exact hp1)
  have u1 : (row w (parts f) q)[i1]? = some (.bl (sem w f2 q)) := row_at hp1
  have uj : (row w (parts f) q)[j]? = some (.bl (sem w (.an f1 f2) q)) := row_at Z.at_
  simp only [enc]
  cases z0 : sem w f1 (q + 1) <;> cases z1 : sem w f2 (q + 1)
  all_goals
    simp (disch := first | assumption | rfl | omega | (simp only [List.length_set, List.length_append, List.length_cons, List.length_nil, List.length_map]; omega) | decide +kernel) only [↓miA, miB, miC, ex_nil, ex_app, ex_app2, ex_app3, ex_app4, ex_app5, ex_app6, in62r, inWr, inWl, lim, List.length_set, List.length_cons, List.length_nil, List.getElem?_cons_zero, List.getElem?_cons_succ, List.set_cons_zero, List.set_cons_succ, Int.reduceToNat, eq_self, List.zip_nil_left, List.zip_nil_right, List.zip_cons_cons, decide_true, decide_eq_true, decide_eq_false, Bool.not_true, Bool.not_false, Bool.and_true, Bool.and_false, Bool.true_and, Bool.false_and, Bool.or_true, Bool.or_false, Bool.true_or, Bool.false_or, Bool.not_not, List.isEmpty_nil, List.isEmpty_cons, true_and, and_true, ar, stf_b, x0, v0, u0, x1, v1, u1, uj, hc, Int.toNat_natCast, miX, sem_an, z0, z1]
    try first | done | rfl
theorem truth_or0 {w : List Int} {f f1 f2 : F} {j k : Nat} {S : Store} {r a b c : Nat} {l : Int} (A : At S r a b (parts f)) (Z : Sees w f (.or f1 f2) j 0) (hc : S[c]? = some (.lst (row w ((parts f).take j) 0))) (hk : 2 ≤ k) : callN prg k 10 [.ref r, enc (.or f1 f2), .int j, .non, .int l, .ref c] S = .ok (.bl (sem w (.or f1 f2) 0)) S := by
  obtain ⟨k, rfl⟩ : ∃ j, k = j + 1 := ⟨k - 1, by omega⟩
  rw [call_Steps__truth]
  refine gc_is ?_ rfl
  unfold b_Steps__truth
  have pd : ∀ g ∈ parts f, fdep g ≤ 8 := fun g hg => Nat.le_trans (part_dep hg) Z.d
  have ar := A.r
  obtain ⟨i0, hi0, hp0⟩ := kid_at Z.at_ (show f1 ∈ kids (.or f1 f2) from by simp [kids])
  have x0 := ix_place A.b pd (parts_nodup f) hp0
  have v0 : (row w ((parts f).take j) 0)[i0]? = some (.bl (sem w f1 0)) := row_at (by rw [List.getElem?_take_of_lt hi0]; exact hp0)
  obtain ⟨i1, hi1, hp1⟩ := kid_at Z.at_ (show f2 ∈ kids (.or f1 f2) from by simp [kids])
  have x1 := ix_place A.b pd (parts_nodup f) hp1
  have v1 : (row w ((parts f).take j) 0)[i1]? = some (.bl (sem w f2 0)) := row_at (by rw [List.getElem?_take_of_lt hi1]; exact hp1)
  simp only [enc]
  cases z0 : sem w f1 0 <;> cases z1 : sem w f2 0
  all_goals
    simp (disch := first | assumption | rfl | omega | (simp only [List.length_set, List.length_append, List.length_cons, List.length_nil, List.length_map]; omega) | decide +kernel) only [↓miA, miB, miC, ex_nil, ex_app, ex_app2, ex_app3, ex_app4, ex_app5, ex_app6, in62r, inWr, inWl, lim, List.length_set, List.length_cons, List.length_nil, List.getElem?_cons_zero, List.getElem?_cons_succ, List.set_cons_zero, List.set_cons_succ, Int.reduceToNat, eq_self, List.zip_nil_left, List.zip_nil_right, List.zip_cons_cons, decide_true, decide_eq_true, decide_eq_false, Bool.not_true, Bool.not_false, Bool.and_true, Bool.and_false, Bool.true_and, Bool.false_and, Bool.or_true, Bool.or_false, Bool.true_or, Bool.false_or, Bool.not_not, List.isEmpty_nil, List.isEmpty_cons, true_and, and_true, ar, stf_b, x0, v0, x1, v1, hc, Int.toNat_natCast, miX, sem_or, z0, z1]
    try first | done | rfl
theorem truth_or1 {w : List Int} {f f1 f2 : F} {q : Nat} {j k : Nat} {S : Store} {r a b c : Nat} {l : Int} (A : At S r a b (parts f)) (Z : Sees w f (.or f1 f2) j (q + 1)) (hc : S[c]? = some (.lst (row w ((parts f).take j) (q + 1)))) (hk : 2 ≤ k) : callN prg k 10 [.ref r, enc (.or f1 f2), .int j, .tup (row w (parts f) q), .int l, .ref c] S = .ok (.bl (sem w (.or f1 f2) (q + 1))) S := by
  obtain ⟨k, rfl⟩ : ∃ j, k = j + 1 := ⟨k - 1, by omega⟩
  rw [call_Steps__truth]
  refine gc_is ?_ rfl
  unfold b_Steps__truth
  have pd : ∀ g ∈ parts f, fdep g ≤ 8 := fun g hg => Nat.le_trans (part_dep hg) Z.d
  have ar := A.r
  obtain ⟨i0, hi0, hp0⟩ := kid_at Z.at_ (show f1 ∈ kids (.or f1 f2) from by simp [kids])
  have x0 := ix_place A.b pd (parts_nodup f) hp0
  have v0 : (row w ((parts f).take j) (q + 1))[i0]? = some (.bl (sem w f1 (q + 1))) := row_at (by rw [List.getElem?_take_of_lt hi0]; exact hp0)
  have u0 : (row w (parts f) q)[i0]? = some (.bl (sem w f1 q)) := row_at hp0
  obtain ⟨i1, hi1, hp1⟩ := kid_at Z.at_ (show f2 ∈ kids (.or f1 f2) from by simp [kids])
  have x1 := ix_place A.b pd (parts_nodup f) hp1
  have v1 : (row w ((parts f).take j) (q + 1))[i1]? = some (.bl (sem w f2 (q + 1))) := row_at (by rw [List.getElem?_take_of_lt hi1]; exact hp1)
  have u1 : (row w (parts f) q)[i1]? = some (.bl (sem w f2 q)) := row_at hp1
  have uj : (row w (parts f) q)[j]? = some (.bl (sem w (.or f1 f2) q)) := row_at Z.at_
  simp only [enc]
  cases z0 : sem w f1 (q + 1) <;> cases z1 : sem w f2 (q + 1)
  all_goals
    simp (disch := first | assumption | rfl | omega | (simp only [List.length_set, List.length_append, List.length_cons, List.length_nil, List.length_map]; omega) | decide +kernel) only [↓miA, miB, miC, ex_nil, ex_app, ex_app2, ex_app3, ex_app4, ex_app5, ex_app6, in62r, inWr, inWl, lim, List.length_set, List.length_cons, List.length_nil, List.getElem?_cons_zero, List.getElem?_cons_succ, List.set_cons_zero, List.set_cons_succ, Int.reduceToNat, eq_self, List.zip_nil_left, List.zip_nil_right, List.zip_cons_cons, decide_true, decide_eq_true, decide_eq_false, Bool.not_true, Bool.not_false, Bool.and_true, Bool.and_false, Bool.true_and, Bool.false_and, Bool.or_true, Bool.or_false, Bool.true_or, Bool.false_or, Bool.not_not, List.isEmpty_nil, List.isEmpty_cons, true_and, and_true, ar, stf_b, x0, v0, u0, x1, v1, u1, uj, hc, Int.toNat_natCast, miX, sem_or, z0, z1]
    try first | done | rfl
theorem truth_si0 {w : List Int} {f f1 f2 : F} {j k : Nat} {S : Store} {r a b c : Nat} {l : Int} (A : At S r a b (parts f)) (Z : Sees w f (.si f1 f2) j 0) (hc : S[c]? = some (.lst (row w ((parts f).take j) 0))) (hk : 2 ≤ k) : callN prg k 10 [.ref r, enc (.si f1 f2), .int j, .non, .int l, .ref c] S = .ok (.bl (sem w (.si f1 f2) 0)) S := by
  obtain ⟨k, rfl⟩ : ∃ j, k = j + 1 := ⟨k - 1, by omega⟩
  rw [call_Steps__truth]
  refine gc_is ?_ rfl
  unfold b_Steps__truth
  have pd : ∀ g ∈ parts f, fdep g ≤ 8 := fun g hg => Nat.le_trans (part_dep hg) Z.d
  have ar := A.r
  obtain ⟨i0, hi0, hp0⟩ := kid_at Z.at_ (show f1 ∈ kids (.si f1 f2) from by simp [kids])
  have x0 := ix_place A.b pd (parts_nodup f) hp0
  have v0 : (row w ((parts f).take j) 0)[i0]? = some (.bl (sem w f1 0)) := row_at (by rw [List.getElem?_take_of_lt hi0]; exact hp0)
  obtain ⟨i1, hi1, hp1⟩ := kid_at Z.at_ (show f2 ∈ kids (.si f1 f2) from by simp [kids])
  have x1 := ix_place A.b pd (parts_nodup f) hp1
  have v1 : (row w ((parts f).take j) 0)[i1]? = some (.bl (sem w f2 0)) := row_at (by rw [List.getElem?_take_of_lt hi1]; exact hp1)
  simp only [enc]
  cases z0 : sem w f1 0 <;> cases z1 : sem w f2 0
  all_goals
    simp (disch := first | assumption | rfl | omega | (simp only [List.length_set, List.length_append, List.length_cons, List.length_nil, List.length_map]; omega) | decide +kernel) only [↓miA, miB, miC, ex_nil, ex_app, ex_app2, ex_app3, ex_app4, ex_app5, ex_app6, in62r, inWr, inWl, lim, List.length_set, List.length_cons, List.length_nil, List.getElem?_cons_zero, List.getElem?_cons_succ, List.set_cons_zero, List.set_cons_succ, Int.reduceToNat, eq_self, List.zip_nil_left, List.zip_nil_right, List.zip_cons_cons, decide_true, decide_eq_true, decide_eq_false, Bool.not_true, Bool.not_false, Bool.and_true, Bool.and_false, Bool.true_and, Bool.false_and, Bool.or_true, Bool.or_false, Bool.true_or, Bool.false_or, Bool.not_not, List.isEmpty_nil, List.isEmpty_cons, true_and, and_true, ar, stf_b, x0, v0, x1, v1, hc, Int.toNat_natCast, miX, sem_si0, z0, z1]
    try first | done | rfl
theorem truth_si1 {w : List Int} {f f1 f2 : F} {q : Nat} {j k : Nat} {S : Store} {r a b c : Nat} {l : Int} (A : At S r a b (parts f)) (Z : Sees w f (.si f1 f2) j (q + 1)) (hc : S[c]? = some (.lst (row w ((parts f).take j) (q + 1)))) (hk : 2 ≤ k) : callN prg k 10 [.ref r, enc (.si f1 f2), .int j, .tup (row w (parts f) q), .int l, .ref c] S = .ok (.bl (sem w (.si f1 f2) (q + 1))) S := by
  obtain ⟨k, rfl⟩ : ∃ j, k = j + 1 := ⟨k - 1, by omega⟩
  rw [call_Steps__truth]
  refine gc_is ?_ rfl
  unfold b_Steps__truth
  have pd : ∀ g ∈ parts f, fdep g ≤ 8 := fun g hg => Nat.le_trans (part_dep hg) Z.d
  have ar := A.r
  obtain ⟨i0, hi0, hp0⟩ := kid_at Z.at_ (show f1 ∈ kids (.si f1 f2) from by simp [kids])
  have x0 := ix_place A.b pd (parts_nodup f) hp0
  have v0 : (row w ((parts f).take j) (q + 1))[i0]? = some (.bl (sem w f1 (q + 1))) := row_at (by rw [List.getElem?_take_of_lt hi0]; exact hp0)
  have u0 : (row w (parts f) q)[i0]? = some (.bl (sem w f1 q)) := row_at hp0
  obtain ⟨i1, hi1, hp1⟩ := kid_at Z.at_ (show f2 ∈ kids (.si f1 f2) from by simp [kids])
  have x1 := ix_place A.b pd (parts_nodup f) hp1
  have v1 : (row w ((parts f).take j) (q + 1))[i1]? = some (.bl (sem w f2 (q + 1))) := row_at (by rw [List.getElem?_take_of_lt hi1]; exact hp1)
  have u1 : (row w (parts f) q)[i1]? = some (.bl (sem w f2 q)) := row_at hp1
  have uj : (row w (parts f) q)[j]? = some (.bl (sem w (.si f1 f2) q)) := row_at Z.at_
  simp only [enc]
  cases z0 : sem w f1 (q + 1) <;> cases z1 : sem w f2 (q + 1) <;> cases z2 : sem w (.si f1 f2) q
  all_goals
    simp (disch := first | assumption | rfl | omega | (simp only [List.length_set, List.length_append, List.length_cons, List.length_nil, List.length_map]; omega) | decide +kernel) only [↓miA, miB, miC, ex_nil, ex_app, ex_app2, ex_app3, ex_app4, ex_app5, ex_app6, in62r, inWr, inWl, lim, List.length_set, List.length_cons, List.length_nil, List.getElem?_cons_zero, List.getElem?_cons_succ, List.set_cons_zero, List.set_cons_succ, Int.reduceToNat, eq_self, List.zip_nil_left, List.zip_nil_right, List.zip_cons_cons, decide_true, decide_eq_true, decide_eq_false, Bool.not_true, Bool.not_false, Bool.and_true, Bool.and_false, Bool.true_and, Bool.false_and, Bool.or_true, Bool.or_false, Bool.true_or, Bool.false_or, Bool.not_not, List.isEmpty_nil, List.isEmpty_cons, true_and, and_true, ar, stf_b, x0, v0, u0, x1, v1, u1, uj, hc, Int.toNat_natCast, miX, sem_si, z0, z1, z2]
    try first | done | rfl
theorem truth_now {w : List Int} {f : F} {i : Int} {p j k : Nat} {S : Store} {r c : Nat} {x : D} (Z : Sees w f (.now i) j p) (hk : 2 ≤ k) : callN prg k 10 [.ref r, enc (.now i), .int j, x, .int (w[p]?.getD 0), .ref c] S = .ok (.bl (sem w (.now i) p)) S := by
  obtain ⟨k, rfl⟩ : ∃ j, k = j + 1 := ⟨k - 1, by omega⟩
  rw [call_Steps__truth]
  refine gc_is ?_ rfl
  unfold b_Steps__truth
  simp only [enc]
  have ht : trk (.now i) := Z.tt
  have ht : 0 ≤ i ∧ i ≤ 3 := ht
  simp (disch := first | assumption | rfl | omega | (simp only [List.length_set, List.length_append, List.length_cons, List.length_nil, List.length_map]; omega) | decide +kernel) only [↓miA, miB, miC, ex_nil, ex_app, ex_app2, ex_app3, ex_app4, ex_app5, ex_app6, in62r, inWr, inWl, lim, List.length_set, List.length_cons, List.length_nil, List.getElem?_cons_zero, List.getElem?_cons_succ, List.set_cons_zero, List.set_cons_succ, Int.reduceToNat, eq_self, List.zip_nil_left, List.zip_nil_right, List.zip_cons_cons, decide_true, decide_eq_true, decide_eq_false, Bool.not_true, Bool.not_false, Bool.and_true, Bool.and_false, Bool.true_and, Bool.false_and, Bool.or_true, Bool.or_false, Bool.true_or, Bool.false_or, Bool.not_not, List.isEmpty_nil, List.isEmpty_cons, true_and, and_true, is_on (k := k) (l := w[p]?.getD 0) (i := i) (by omega) (by omega)]
  rfl
theorem truth_tru {w : List Int} {p j k : Nat} {S : Store} {r c : Nat} {x : D} {l : Int} (hk : 2 ≤ k) : callN prg k 10 [.ref r, enc .tru, .int j, x, .int l, .ref c] S = .ok (.bl (sem w .tru p)) S := by
  obtain ⟨k, rfl⟩ : ∃ j, k = j + 1 := ⟨k - 1, by omega⟩
  rw [call_Steps__truth]
  refine gc_is ?_ rfl
  unfold b_Steps__truth
  simp only [enc]
  simp (disch := first | assumption | rfl | omega | (simp only [List.length_set, List.length_append, List.length_cons, List.length_nil, List.length_map]; omega) | decide +kernel) only [↓miA, miB, miC, ex_nil, ex_app, ex_app2, ex_app3, ex_app4, ex_app5, ex_app6, in62r, inWr, inWl, lim, List.length_set, List.length_cons, List.length_nil, List.getElem?_cons_zero, List.getElem?_cons_succ, List.set_cons_zero, List.set_cons_succ, Int.reduceToNat, eq_self, List.zip_nil_left, List.zip_nil_right, List.zip_cons_cons, decide_true, decide_eq_true, decide_eq_false, Bool.not_true, Bool.not_false, Bool.and_true, Bool.and_false, Bool.true_and, Bool.false_and, Bool.or_true, Bool.or_false, Bool.true_or, Bool.false_or, Bool.not_not, List.isEmpty_nil, List.isEmpty_cons, true_and, and_true, miX, sem]
theorem truth_fls {w : List Int} {p j k : Nat} {S : Store} {r c : Nat} {x : D} {l : Int} (hk : 2 ≤ k) : callN prg k 10 [.ref r, enc .fls, .int j, x, .int l, .ref c] S = .ok (.bl (sem w .fls p)) S := by
  obtain ⟨k, rfl⟩ : ∃ j, k = j + 1 := ⟨k - 1, by omega⟩
  rw [call_Steps__truth]
  refine gc_is ?_ rfl
  unfold b_Steps__truth
  simp only [enc]
  simp (disch := first | assumption | rfl | omega | (simp only [List.length_set, List.length_append, List.length_cons, List.length_nil, List.length_map]; omega) | decide +kernel) only [↓miA, miB, miC, ex_nil, ex_app, ex_app2, ex_app3, ex_app4, ex_app5, ex_app6, in62r, inWr, inWl, lim, List.length_set, List.length_cons, List.length_nil, List.getElem?_cons_zero, List.getElem?_cons_succ, List.set_cons_zero, List.set_cons_succ, Int.reduceToNat, eq_self, List.zip_nil_left, List.zip_nil_right, List.zip_cons_cons, decide_true, decide_eq_true, decide_eq_false, Bool.not_true, Bool.not_false, Bool.and_true, Bool.and_false, Bool.true_and, Bool.false_and, Bool.or_true, Bool.or_false, Bool.true_or, Bool.false_or, Bool.not_not, List.isEmpty_nil, List.isEmpty_cons, true_and, and_true, miX, sem]
theorem truth {w : List Int} {f h : F} {p j k : Nat} {S : Store} {r a b c : Nat} (A : At S r a b (parts f)) (Z : Sees w f h j p) (hc : S[c]? = some (.lst (row w ((parts f).take j) p))) (hk : 2 ≤ k) :
    callN prg k 10 [.ref r, enc h, .int j, stt w (parts f) p, .int (w[p]?.getD 0), .ref c] S = .ok (.bl (sem w h p)) S := by
  cases h with
  | now i => exact truth_now Z hk
  | tru => exact truth_tru hk
  | fls => exact truth_fls hk
  | nt f1 => cases p with | zero => exact truth_nt0 A Z hc hk | succ q => exact truth_nt1 A Z hc hk
  | bf f1 => cases p with | zero => exact truth_bf0 A Z hc hk | succ q => exact truth_bf1 A Z hc hk
  | on f1 => cases p with | zero => exact truth_on0 A Z hc hk | succ q => exact truth_on1 A Z hc hk
  | sf f1 => cases p with | zero => exact truth_sf0 A Z hc hk | succ q => exact truth_sf1 A Z hc hk
  | an f1 f2 => cases p with | zero => exact truth_an0 A Z hc hk | succ q => exact truth_an1 A Z hc hk
  | or f1 f2 => cases p with | zero => exact truth_or0 A Z hc hk | succ q => exact truth_or1 A Z hc hk
  | si f1 f2 => cases p with | zero => exact truth_si0 A Z hc hk | succ q => exact truth_si1 A Z hc hk
theorem next {w : List Int} {f : F} {p k : Nat} {S : Store} {r a b : Nat} (A : At S r a b (parts f)) (hd : fdep f ≤ 8) (ht : ∀ x ∈ parts f, trk x) (hp : p < w.length) (hk : 3 ≤ k) :
    callN prg k 9 [.ref r, stt w (parts f) p, .int (w[p]?.getD 0)] S = .ok (.tup (row w (parts f) p)) S := by
  obtain ⟨k, rfl⟩ : ∃ j, k = j + 1 := ⟨k - 1, by omega⟩
  rw [call_Steps_next]
  refine gc_is ?_ (row_pure _)
  unfold b_Steps_next
  have ar := A.r
  have aa := A.a
  have ltr : r < S.length := (List.getElem?_eq_some_iff.mp A.r).1
  have lta : a < S.length := (List.getElem?_eq_some_iff.mp A.a).1
  have ltb : b < S.length := (List.getElem?_eq_some_iff.mp A.b).1
  have br : ∀ l, (S ++ l)[r]? = some (stp a b) := fun l => by rw [get_app ltr]; exact A.r
  have ba : ∀ l, (S ++ l)[a]? = some (.lst ((parts f).map enc)) := fun l => by rw [get_app lta]; exact A.a
  have bb : ∀ l, (S ++ l)[b]? = some (.dic (places 0 (parts f))) := fun l => by rw [get_app ltb]; exact A.b
  have pl : (parts f).length < 128 := parts_lt (n := 7) (by omega)
  simp (disch := first | assumption | rfl | omega | (simp only [List.length_set, List.length_append, List.length_cons, List.length_nil, List.length_map]; omega) | decide +kernel) only [↓miA, miB, miC, ex_nil, ex_app, ex_app2, ex_app3, ex_app4, ex_app5, ex_app6, in62r, inWr, inWl, lim, List.length_set, List.length_cons, List.length_nil, List.getElem?_cons_zero, List.getElem?_cons_succ, List.set_cons_zero, List.set_cons_succ, Int.reduceToNat, eq_self, List.zip_nil_left, List.zip_nil_right, List.zip_cons_cons, decide_true, decide_eq_true, decide_eq_false, Bool.not_true, Bool.not_false, Bool.and_true, Bool.and_false, Bool.true_and, Bool.false_and, Bool.or_true, Bool.or_false, Bool.true_or, Bool.false_or, Bool.not_not, List.isEmpty_nil, List.isEmpty_cons, true_and, and_true, br, ba, stf_a]
  unfold cFor
  refine for_src (ds := enuD ((parts f).map enc)) (fun j env T => (∃ e4 e5, env = [some (.ref r), some (stt w (parts f) p), some (.int (w[p]?.getD 0)), some (.ref S.length), e4, e5]) ∧ T = S ++ [.lst (row w ((parts f).take j) p)]) ?_ ?_ ?_ 1000000 0 _ _ (Nat.zero_le _) ?_ ⟨⟨_, _, rfl⟩, rfl⟩
  · rintro j env T ⟨_, rfl⟩
    exact at_enu (ba _)
  · rintro j d env T ed ⟨⟨e4, e5, rfl⟩, rfl⟩
    obtain ⟨d', hd', rfl⟩ := enuD_at ed
    rw [List.getElem?_map, Option.map_eq_some_iff] at hd'
    obtain ⟨g, hg, rfl⟩ := hd'
    have hgt := ht g (List.mem_of_getElem? hg)
    have e := truth (k := k) (S := S ++ [.lst (row w ((parts f).take j) p)]) (r := r) (a := a) (b := b) (c := S.length) (h := g) (j := j) ⟨br _, ba _, bb _⟩ ⟨hd, hgt, hp, hg⟩ get_new (by omega)
    have e1 : (S ++ [Cell.lst (row w ((parts f).take j) p)]).set S.length (.lst (row w ((parts f).take j) p ++ [.bl (sem w g p)])) = S ++ [.lst (row w ((parts f).take (j + 1)) p)] := by
      rw [List.set_append_right _ _ (Nat.le_refl _), Nat.sub_self, List.take_add_one, hg]
      unfold row
      rw [List.map_append]
      rfl
    have e2 : (row w ((parts f).take j) p).length < 1000000 := by
      rw [row_len, List.length_take]
      omega
    simp (disch := first | assumption | rfl | omega | (simp only [List.length_set, List.length_append, List.length_cons, List.length_nil, List.length_map]; omega) | decide +kernel) only [↓miA, miB, miC, ex_nil, ex_app, ex_app2, ex_app3, ex_app4, ex_app5, ex_app6, in62r, inWr, inWl, lim, List.length_set, List.length_cons, List.length_nil, List.getElem?_cons_zero, List.getElem?_cons_succ, List.set_cons_zero, List.set_cons_succ, Int.reduceToNat, eq_self, List.zip_nil_left, List.zip_nil_right, List.zip_cons_cons, decide_true, decide_eq_true, decide_eq_false, Bool.not_true, Bool.not_false, Bool.and_true, Bool.and_false, Bool.true_and, Bool.false_and, Bool.or_true, Bool.or_false, Bool.true_or, Bool.false_or, Bool.not_not, List.isEmpty_nil, List.isEmpty_cons, true_and, and_true, get_new, br, stf_t, List.lookup_cons_self, e, e1]
    exact ⟨_, _, rfl⟩
  · rintro env T ⟨⟨e4, e5, rfl⟩, rfl⟩
    rw [enuD_len, List.length_map, List.take_length]
    simp (disch := first | assumption | rfl | omega | (simp only [List.length_set, List.length_append, List.length_cons, List.length_nil, List.length_map]; omega) | decide +kernel) only [↓miA, miB, miC, ex_nil, ex_app, ex_app2, ex_app3, ex_app4, ex_app5, ex_app6, in62r, inWr, inWl, lim, List.length_set, List.length_cons, List.length_nil, List.getElem?_cons_zero, List.getElem?_cons_succ, List.set_cons_zero, List.set_cons_succ, Int.reduceToNat, eq_self, List.zip_nil_left, List.zip_nil_right, List.zip_cons_cons, decide_true, decide_eq_true, decide_eq_false, Bool.not_true, Bool.not_false, Bool.and_true, Bool.and_false, Bool.true_and, Bool.false_and, Bool.or_true, Bool.or_false, Bool.true_or, Bool.false_or, Bool.not_not, List.isEmpty_nil, List.isEmpty_cons, true_and, and_true, get_new]
  · rw [enuD_len, List.length_map]
    omega
end K12

namespace K12
open PySem PySem.Spec Mi Pf
theorem row_last {w : List Int} {f : F} {p : Nat} : L2.atI (row w (parts f) p) (-1) = some (.bl (sem w f p)) := by
  have h1 : 1 ≤ (parts f).length := by rw [parts_eq, List.length_append]; exact Nat.le_add_left _ _
  have h2 : (parts f)[(parts f).length - 1]? = some f := by rw [← List.getLast?_eq_getElem?]; exact parts_last f
  have h3 := row_at (w := w) (p := p) h2
  rw [atI_neg (by omega) (by rw [row_len]; omega), row_len, show (-1 + ((parts f).length : Int)).toNat = (parts f).length - 1 by omega]
  exact h3
/-- the truths at the positions of a word -/
def truths (w : List Int) (f : F) (n : Nat) : List Bool := (List.range n).map (sem w f)
theorem truths_succ {w : List Int} {f : F} {n : Nat} : truths w f (n + 1) = truths w f n ++ [sem w f n] := by
  unfold truths
  rw [List.range_succ, List.map_append]
  rfl
theorem bls_pure : ∀ l : List Bool, pures (l.map D.bl) = true
  | [] => rfl
  | _ :: l => bls_pure l
theorem w_is {n : Int} {w : List Int} (h : ∀ l ∈ w, 0 ≤ l ∧ l < pw n) : isWord (pw n) (.tup (w.map D.int)) = true := by
  show (w.map D.int).all (isInt 0 (pw n - 1)) = true
  rw [List.all_eq_true]
  intro d hd
  obtain ⟨l, hl, rfl⟩ := List.mem_map.mp hd
  have := h l hl
  show (decide (0 ≤ l) && decide (l ≤ pw n - 1)) = true
  rw [decide_eq_true this.1, decide_eq_true (by omega)]
  rfl
theorem trk_all {n : Int} {f : F} (hn : n ≤ 4) (ht : trn n f) : ∀ x ∈ parts f, trk x := fun x hx => trk_of hn (part_trn ht hx)
theorem past_at {n : Int} {f : F} {w : List Int} {k : Nat} {S : Store} (hn : 1 ≤ n ∧ n ≤ 4) (ht : trn n f) (hd : fdep f ≤ 8) (ha : atoms f ≤ 40) (hw : ∀ l ∈ w, 0 ≤ l ∧ l < pw n) (hl : w.length ≤ 1000) (hk : 15 ≤ k) :
    callN prg k 12 [.int n, enc f, .tup (w.map D.int)] S = .ok (.tup ((truths w f w.length).map D.bl)) S := by
  obtain ⟨k, rfl⟩ : ∃ j, k = j + 1 := ⟨k - 1, by omega⟩
  rw [call_past_at]
  refine gc_is ?_ (bls_pure _)
  unfold b_past_at
  have c1 := check_past (k := k) (S := S) ht (by omega) ha (by omega)
  have c2 := is_word (k := k) (S := S) (b := 0) (n := n) (Pl_ints (n := 1) (ns := w) (by omega)) ⟨by omega, by omega⟩ (by omega)
  rw [w_is hw] at c2
  have c3 := steps_init (f := f) (k := k) (S := S) hd (by omega)
  have g1 : ∀ l, (S ++ stc S.length f ++ l)[S.length]? = some (stp (S.length + 1) (S.length + 2)) := fun l => by
    rw [List.append_assoc, List.getElem?_append_right (Nat.le_refl _), Nat.sub_self]
    rfl
  have g2 : ∀ l, (S ++ stc S.length f ++ l)[S.length + 1]? = some (.lst ((parts f).map enc)) := fun l => by
    rw [List.append_assoc, List.getElem?_append_right (by omega), Nat.add_sub_cancel_left]
    rfl
  have g3 : ∀ l, (S ++ stc S.length f ++ l)[S.length + 2]? = some (.dic (places 0 (parts f))) := fun l => by
    rw [List.append_assoc, List.getElem?_append_right (by omega), Nat.add_sub_cancel_left]
    rfl
  obtain ⟨T, hT⟩ : ∃ T, T = S ++ stc S.length f := ⟨_, rfl⟩
  rw [← hT] at c3 g1 g2 g3
  simp (disch := first | assumption | rfl | omega | (simp only [List.length_set, List.length_append, List.length_cons, List.length_nil, List.length_map]; omega) | decide +kernel) only [↓miA, miB, miC, ex_nil, ex_app, ex_app2, ex_app3, ex_app4, ex_app5, ex_app6, in62r, inWr, inWl, lim, List.length_set, List.length_cons, List.length_nil, List.getElem?_cons_zero, List.getElem?_cons_succ, List.set_cons_zero, List.set_cons_succ, Int.reduceToNat, eq_self, List.zip_nil_left, List.zip_nil_right, List.zip_cons_cons, decide_true, decide_eq_true, decide_eq_false, Bool.not_true, Bool.not_false, Bool.and_true, Bool.and_false, Bool.true_and, Bool.false_and, Bool.or_true, Bool.or_false, Bool.true_or, Bool.false_or, Bool.not_not, List.isEmpty_nil, List.isEmpty_cons, true_and, and_true, c1, c2, c3]
  unfold cFor
  refine for_items (ds := w.map D.int) (fun j env U => (∃ e6, env = [some (.int n), some (enc f), some (.tup (w.map D.int)), some (.ref S.length), some (stt w (parts f) j), some (.ref T.length), e6]) ∧ U = T ++ [.lst ((truths w f j).map D.bl)]) ?_ ?_ 1000000 0 _ _ (Nat.zero_le _) (by rw [List.length_map]; omega) ⟨⟨_, rfl⟩, rfl⟩
  · rintro j d env U ed ⟨⟨e6, rfl⟩, rfl⟩
    rw [List.getElem?_map, Option.map_eq_some_iff] at ed
    obtain ⟨l, hl', rfl⟩ := ed
    have hj : j < w.length := (List.getElem?_eq_some_iff.mp hl').1
    have el : l = w[j]?.getD 0 := by rw [hl']; rfl
    have e := next (k := k) (S := T ++ [.lst ((truths w f j).map D.bl)]) (r := S.length) (a := S.length + 1) (b := S.length + 2) (f := f) (p := j) (w := w) ⟨g1 _, g2 _, g3 _⟩ hd (trk_all hn.2 ht) hj (by omega)
    rw [← el] at e
    have e1 : (T ++ [Cell.lst ((truths w f j).map D.bl)]).set T.length (.lst ((truths w f j).map D.bl ++ [.bl (sem w f j)])) = T ++ [.lst ((truths w f (j + 1)).map D.bl)] := by
      rw [List.set_append_right _ _ (Nat.le_refl _), Nat.sub_self, truths_succ, List.map_append]
      rfl
    have e2 : ((truths w f j).map D.bl).length < 1000000 := by
      unfold truths
      rw [List.length_map, List.length_map, List.length_range]
      omega
    simp (disch := first | assumption | rfl | omega | (simp only [List.length_set, List.length_append, List.length_cons, List.length_nil, List.length_map]; omega) | decide +kernel) only [↓miA, miB, miC, ex_nil, ex_app, ex_app2, ex_app3, ex_app4, ex_app5, ex_app6, in62r, inWr, inWl, lim, List.length_set, List.length_cons, List.length_nil, List.getElem?_cons_zero, List.getElem?_cons_succ, List.set_cons_zero, List.set_cons_succ, Int.reduceToNat, eq_self, List.zip_nil_left, List.zip_nil_right, List.zip_cons_cons, decide_true, decide_eq_true, decide_eq_false, Bool.not_true, Bool.not_false, Bool.and_true, Bool.and_false, Bool.true_and, Bool.false_and, Bool.or_true, Bool.or_false, Bool.true_or, Bool.false_or, Bool.not_not, List.isEmpty_nil, List.isEmpty_cons, true_and, and_true, g1, stf_n, List.lookup_cons_self, e, row_last, get_new, e1]
    exact ⟨_, rfl⟩
  · rintro env U ⟨⟨e6, rfl⟩, rfl⟩
    rw [List.length_map]
    simp (disch := first | assumption | rfl | omega | (simp only [List.length_set, List.length_append, List.length_cons, List.length_nil, List.length_map]; omega) | decide +kernel) only [↓miA, miB, miC, ex_nil, ex_app, ex_app2, ex_app3, ex_app4, ex_app5, ex_app6, in62r, inWr, inWl, lim, List.length_set, List.length_cons, List.length_nil, List.getElem?_cons_zero, List.getElem?_cons_succ, List.set_cons_zero, List.set_cons_succ, Int.reduceToNat, eq_self, List.zip_nil_left, List.zip_nil_right, List.zip_cons_cons, decide_true, decide_eq_true, decide_eq_false, Bool.not_true, Bool.not_false, Bool.and_true, Bool.and_false, Bool.true_and, Bool.false_and, Bool.or_true, Bool.or_false, Bool.true_or, Bool.false_or, Bool.not_not, List.isEmpty_nil, List.isEmpty_cons, true_and, and_true, get_new]
    exact ⟨_, by rw [hT, List.append_assoc]⟩
theorem past_bad {n : Int} {d x : D} {k : Nat} {S : Store} (h : bad n d 20) (hk : 26 ≤ k) : callN prg k 12 [.int n, d, x] S = .er noPast S := by
  obtain ⟨k, rfl⟩ : ∃ j, k = j + 1 := ⟨k - 1, by omega⟩
  rw [call_past_at]
  refine er_ex ?_ rfl
  unfold b_past_at
  simp (disch := first | assumption | rfl | omega | (simp only [List.length_set, List.length_append, List.length_cons, List.length_nil, List.length_map]; omega) | decide +kernel) only [↓miA, miB, miC, ex_nil, ex_app, ex_app2, ex_app3, ex_app4, ex_app5, ex_app6, in62r, inWr, inWl, lim, List.length_set, List.length_cons, List.length_nil, List.getElem?_cons_zero, List.getElem?_cons_succ, List.set_cons_zero, List.set_cons_succ, Int.reduceToNat, eq_self, List.zip_nil_left, List.zip_nil_right, List.zip_cons_cons, decide_true, decide_eq_true, decide_eq_false, Bool.not_true, Bool.not_false, Bool.and_true, Bool.and_false, Bool.true_and, Bool.false_and, Bool.or_true, Bool.or_false, Bool.true_or, Bool.false_or, Bool.not_not, List.isEmpty_nil, List.isEmpty_cons, true_and, and_true, check_bad (k := k) (S := S) h (by omega)]
abbrev noWord : Exn := ⟨2, []⟩
theorem past_odd {n : Int} {f : F} {x : D} {k b m : Nat} {S : Store} (hn : 1 ≤ n ∧ n ≤ 4) (ht : trn n f) (hd : fdep f ≤ 8) (ha : atoms f ≤ 40) (hp : Pl S b 3000 m x) (hx : isWord (pw n) x = false) (hk : 15 ≤ k) : callN prg k 12 [.int n, enc f, x] S = .er noWord S := by
  obtain ⟨k, rfl⟩ : ∃ j, k = j + 1 := ⟨k - 1, by omega⟩
  rw [call_past_at]
  refine er_ex ?_ rfl
  unfold b_past_at
  have c1 := check_past (k := k) (S := S) ht (by omega) ha (by omega)
  have c2 := is_word (k := k) (n := n) hp ⟨by omega, by omega⟩ (by omega)
  rw [hx] at c2
  simp (disch := first | assumption | rfl | omega | (simp only [List.length_set, List.length_append, List.length_cons, List.length_nil, List.length_map]; omega) | decide +kernel) only [↓miA, miB, miC, ex_nil, ex_app, ex_app2, ex_app3, ex_app4, ex_app5, ex_app6, in62r, inWr, inWl, lim, List.length_set, List.length_cons, List.length_nil, List.getElem?_cons_zero, List.getElem?_cons_succ, List.set_cons_zero, List.set_cons_succ, Int.reduceToNat, eq_self, List.zip_nil_left, List.zip_nil_right, List.zip_cons_cons, decide_true, decide_eq_true, decide_eq_false, Bool.not_true, Bool.not_false, Bool.and_true, Bool.and_false, Bool.true_and, Bool.false_and, Bool.or_true, Bool.or_false, Bool.true_or, Bool.false_or, Bool.not_not, List.isEmpty_nil, List.isEmpty_cons, true_and, and_true, c1, c2, Wx_raise, cRaise_]
end K12

namespace K12
open PySem PySem.Spec Mi Pf
theorem draw2 {k : Nat} {S : Store} {b : Nat} {x0 x1 x2 x3 m : Int} (hk : 1 ≤ k) (hlt : b < S.length) (h1 : 1 ≤ m) (h2 : m < 1000000000) :
    ∃ v y0 y1 y2, callN prg k 14 [.ref b, .int m] (S.set b (bg x0 x1 x2 x3)) = .ok (.int v) (S.set b (bg y0 y1 y2 x3)) ∧ 0 ≤ v ∧ v < m := drawA_on call__law_draw hk hlt h1 h2
theorem law_p0 {b : Nat} {n x3 : Int} (hn : 1 ≤ n ∧ n ≤ 4) {d k : Nat} {m : Int} {T : Store} {x0 x1 x2 : Int} (hm : m < 2) (hb : b < T.length) (hk : 2 ≤ k) :
    ∃ v y0 y1 y2, callN prg k 15 [.ref b, .int n, .int m] (T.set b (bg x0 x1 x2 x3)) = .ok v (T.set b (bg y0 y1 y2 x3)) ∧ PF n d v := by
  obtain ⟨k, rfl⟩ : ∃ j, k = j + 1 := ⟨k - 1, by omega⟩
  rw [call__law_p]
  refine gc_drawn hb ?_
  unfold b__law_p
  obtain ⟨a1, y0, y1, y2, e1, a10, a11⟩ := draw2 (k := k) (S := T) (b := b) (m := n) (x0 := x0) (x1 := x1) (x2 := x2) (x3 := x3) (by omega) hb (by omega) (by omega)
  obtain ⟨a2, z0, z1, z2, e2, a20, a21⟩ := draw2 (k := k) (S := T) (b := b) (m := n) (x0 := y0) (x1 := y1) (x2 := y2) (x3 := x3) (by omega) hb (by omega) (by omega)
  obtain ⟨a3, w0, w1, w2, e3, a30, a31⟩ := draw2 (k := k) (S := T ++ [Cell.lst [.tup [.str "now", .int a1], .tup [.str "now", .int a2], .tup [.str "true"], .tup [.str "false"], .tup [.str "now", .int 0]]]) (b := b) (m := 5) (x0 := z0) (x1 := z1) (x2 := z2) (x3 := x3) (by omega) (by rw [List.length_append]; omega) (by omega) (by omega)
  obtain ⟨f, hf, ht, hd⟩ := five hn ⟨a10, a11⟩ ⟨a20, a21⟩ ⟨a30, a31⟩
  simp (disch := first | assumption | rfl | omega | (simp only [List.length_set, List.length_append, List.length_cons, List.length_nil, List.length_map]; omega) | decide +kernel) only [↓miA, miB, miC, ex_nil, ex_app, ex_app2, ex_app3, ex_app4, ex_app5, ex_app6, in62r, inWr, inWl, lim, List.length_set, List.length_cons, List.length_nil, List.getElem?_cons_zero, List.getElem?_cons_succ, List.set_cons_zero, List.set_cons_succ, Int.reduceToNat, eq_self, List.zip_nil_left, List.zip_nil_right, List.zip_cons_cons, decide_true, decide_eq_true, decide_eq_false, Bool.not_true, Bool.not_false, Bool.and_true, Bool.and_false, Bool.true_and, Bool.false_and, Bool.or_true, Bool.or_false, Bool.true_or, Bool.false_or, Bool.not_not, List.isEmpty_nil, List.isEmpty_cons, true_and, and_true, e1, e2, set_app, e3, hf]
  exact ⟨enc_pure f, ⟨f, rfl, ht, by omega⟩, _, _, _, _, rfl⟩
theorem law_p {b : Nat} {n x3 : Int} (hn : 1 ≤ n ∧ n ≤ 4) : ∀ (d k : Nat) (m : Int) (T : Store) (x0 x1 x2 : Int), m ≤ d → m ≤ 100 → b < T.length → d + 2 ≤ k →
    ∃ v y0 y1 y2, callN prg k 15 [.ref b, .int n, .int m] (T.set b (bg x0 x1 x2 x3)) = .ok v (T.set b (bg y0 y1 y2 x3)) ∧ PF n d v := by
  intro d
  induction d with
  | zero => intro k m T x0 x1 x2 hd hm hb hk; exact law_p0 hn (by omega) hb (by omega)
  | succ d ih =>
    intro k m T x0 x1 x2 hd hm hb hk
    by_cases h2 : m < 2
    · exact law_p0 hn h2 hb (by omega)
    obtain ⟨k, rfl⟩ : ∃ j, k = j + 1 := ⟨k - 1, by omega⟩
    rw [call__law_p]
    refine gc_drawn hb ?_
    unfold b__law_p
    obtain ⟨c, u0, u1, u2, e0, c0, c1⟩ := draw2 (k := k) (S := T) (b := b) (m := 6) (x0 := x0) (x1 := x1) (x2 := x2) (x3 := x3) (by omega) hb (by omega) (by omega)
    by_cases hc : c = 0
    · obtain ⟨a1, y0, y1, y2, e1, a10, a11⟩ := draw2 (k := k) (S := T) (b := b) (m := n) (x0 := u0) (x1 := u1) (x2 := u2) (x3 := x3) (by omega) hb (by omega) (by omega)
      obtain ⟨a2, z0, z1, z2, e2, a20, a21⟩ := draw2 (k := k) (S := T) (b := b) (m := n) (x0 := y0) (x1 := y1) (x2 := y2) (x3 := x3) (by omega) hb (by omega) (by omega)
      obtain ⟨a3, w0, w1, w2, e3, a30, a31⟩ := draw2 (k := k) (S := T ++ [Cell.lst [.tup [.str "now", .int a1], .tup [.str "now", .int a2], .tup [.str "true"], .tup [.str "false"], .tup [.str "now", .int 0]]]) (b := b) (m := 5) (x0 := z0) (x1 := z1) (x2 := z2) (x3 := x3) (by omega) (by rw [List.length_append]; omega) (by omega) (by omega)
      obtain ⟨f, hf, ht, hd⟩ := five hn ⟨a10, a11⟩ ⟨a20, a21⟩ ⟨a30, a31⟩
      simp (disch := first | assumption | rfl | omega | (simp only [List.length_set, List.length_append, List.length_cons, List.length_nil, List.length_map]; omega) | decide +kernel) only [↓miA, miB, miC, ex_nil, ex_app, ex_app2, ex_app3, ex_app4, ex_app5, ex_app6, in62r, inWr, inWl, lim, List.length_set, List.length_cons, List.length_nil, List.getElem?_cons_zero, List.getElem?_cons_succ, List.set_cons_zero, List.set_cons_succ, Int.reduceToNat, eq_self, List.zip_nil_left, List.zip_nil_right, List.zip_cons_cons, decide_true, decide_eq_true, decide_eq_false, Bool.not_true, Bool.not_false, Bool.and_true, Bool.and_false, Bool.true_and, Bool.false_and, Bool.or_true, Bool.or_false, Bool.true_or, Bool.false_or, Bool.not_not, List.isEmpty_nil, List.isEmpty_cons, true_and, and_true, e0, e1, e2, set_app, e3, hf]
      exact ⟨enc_pure f, ⟨f, rfl, ht, by omega⟩, _, _, _, _, rfl⟩
    · obtain ⟨q, y0, y1, y2, e1, q0, q1⟩ := draw2 (k := k) (S := T) (b := b) (m := 8) (x0 := u0) (x1 := u1) (x2 := u2) (x3 := x3) (by omega) hb (by omega) (by omega)
      obtain ⟨v, z0, z1, z2, e2, f, rfl, tf, df⟩ := ih k (m - 1) T y0 y1 y2 (by omega) (by omega) hb (by omega)
      by_cases hq : q < 4
      · obtain ⟨x, ex, g, eg, tg, dg⟩ := four (n := n) ⟨q0, hq⟩ f
        simp (disch := first | assumption | rfl | omega | (simp only [List.length_set, List.length_append, List.length_cons, List.length_nil, List.length_map]; omega) | decide +kernel) only [↓miA, miB, miC, ex_nil, ex_app, ex_app2, ex_app3, ex_app4, ex_app5, ex_app6, in62r, inWr, inWl, lim, List.length_set, List.length_cons, List.length_nil, List.getElem?_cons_zero, List.getElem?_cons_succ, List.set_cons_zero, List.set_cons_succ, Int.reduceToNat, eq_self, List.zip_nil_left, List.zip_nil_right, List.zip_cons_cons, decide_true, decide_eq_true, decide_eq_false, Bool.not_true, Bool.not_false, Bool.and_true, Bool.and_false, Bool.true_and, Bool.false_and, Bool.or_true, Bool.or_false, Bool.true_or, Bool.false_or, Bool.not_not, List.isEmpty_nil, List.isEmpty_cons, true_and, and_true, e0, e1, e2, set_app, ex]
        rw [eg]
        exact ⟨enc_pure g, ⟨g, rfl, tg tf, by omega⟩, _, _, _, _, rfl⟩
      · obtain ⟨a, w0, w1, w2, e3, a0, a1⟩ := draw2 (k := k) (S := T ++ [Cell.lst [.str "and", .str "or", .str "since", .str "since"]]) (b := b) (m := m - 1) (x0 := z0) (x1 := z1) (x2 := z2) (x3 := x3) (by omega) (by rw [List.length_append]; omega) (by omega) (by omega)
        obtain ⟨v2, r0, r1, r2, e4, f2, rfl, tf2, df2⟩ := ih k (1 + a) (T ++ [Cell.lst [.str "and", .str "or", .str "since", .str "since"]]) w0 w1 w2 (by omega) (by omega) (by rw [List.length_append]; omega) (by omega)
        obtain ⟨x, ex, g, eg, tg, dg⟩ := four2 (n := n) (v := q - 4) ⟨by omega, by omega⟩ f f2
        simp (disch := first | assumption | rfl | omega | (simp only [List.length_set, List.length_append, List.length_cons, List.length_nil, List.length_map]; omega) | decide +kernel) only [↓miA, miB, miC, ex_nil, ex_app, ex_app2, ex_app3, ex_app4, ex_app5, ex_app6, in62r, inWr, inWl, lim, List.length_set, List.length_cons, List.length_nil, List.getElem?_cons_zero, List.getElem?_cons_succ, List.set_cons_zero, List.set_cons_succ, Int.reduceToNat, eq_self, List.zip_nil_left, List.zip_nil_right, List.zip_cons_cons, decide_true, decide_eq_true, decide_eq_false, Bool.not_true, Bool.not_false, Bool.and_true, Bool.and_false, Bool.true_and, Bool.false_and, Bool.or_true, Bool.or_false, Bool.true_or, Bool.false_or, Bool.not_not, List.isEmpty_nil, List.isEmpty_cons, true_and, and_true, e0, e1, e2, set_app, e3, e4, ex]
        rw [eg]
        exact ⟨enc_pure g, ⟨g, rfl, tg tf tf2, by omega⟩, _, _, _, _, rfl⟩
theorem law_word {b : Nat} {n x3 most : Int} (hn : 1 ≤ n ∧ n ≤ 4) (hm : 0 ≤ most ∧ most ≤ 100) {k : Nat} {T : Store} {x0 x1 x2 : Int} (hb : b < T.length) (hk : 2 ≤ k) :
    ∃ v y0 y1 y2, callN prg k 17 [.ref b, .int n, .int most] (T.set b (bg x0 x1 x2 x3)) = .ok v (T.set b (bg y0 y1 y2 x3)) ∧ ∃ w : List Int, v = .tup (w.map D.int) ∧ w.length ≤ most.toNat ∧ ∀ l ∈ w, 0 ≤ l ∧ l < pw n := by
  obtain ⟨k, rfl⟩ : ∃ j, k = j + 1 := ⟨k - 1, by omega⟩
  rw [call__law_word]
  refine gc_drawn (P := fun v => ∃ w : List Int, v = .tup (w.map D.int) ∧ w.length ≤ most.toNat ∧ ∀ l ∈ w, 0 ≤ l ∧ l < pw n) hb ?_
  unfold b__law_word
  obtain ⟨r, y0, y1, y2, e1, r0, r1⟩ := draw2 (k := k) (S := T) (b := b) (m := most + 1) (x0 := x0) (x1 := x1) (x2 := x2) (x3 := x3) (by omega) hb (by omega) (by omega)
  have hl : (rngD 0 r).length = r.toNat := by rw [rngD_len]; omega
  simp (disch := first | assumption | rfl | omega | (simp only [List.length_set, List.length_append, List.length_cons, List.length_nil, List.length_map]; omega) | decide +kernel) only [↓miA, miB, miC, ex_nil, ex_app, ex_app2, ex_app3, ex_app4, ex_app5, ex_app6, in62r, inWr, inWl, lim, List.length_set, List.length_cons, List.length_nil, List.getElem?_cons_zero, List.getElem?_cons_succ, List.set_cons_zero, List.set_cons_succ, Int.reduceToNat, eq_self, List.zip_nil_left, List.zip_nil_right, List.zip_cons_cons, decide_true, decide_eq_true, decide_eq_false, Bool.not_true, Bool.not_false, Bool.and_true, Bool.and_false, Bool.true_and, Bool.false_and, Bool.or_true, Bool.or_false, Bool.true_or, Bool.false_or, Bool.not_not, List.isEmpty_nil, List.isEmpty_cons, true_and, and_true, e1]
  refine lcI (ds := rngD 0 r) (fun j acc U => ∃ (vs : List Int) (z0 z1 z2 : Int) (l : Store), acc = vs.map D.int ∧ vs.length = j ∧ (∀ l ∈ vs, 0 ≤ l ∧ l < pw n) ∧ U = (T ++ [Cell.lst acc] ++ l).set b (bg z0 z1 z2 x3)) (fun _ _ _ _ => rfl) (by rw [hl]; show r.toNat < 1000000; omega) (by omega) ?_ (fun j d acc U e h g => ?_) (fun acc U h g => ?_)
  · exact ⟨[], y0, y1, y2, [], rfl, rfl, by simp, by rw [set_app hb, List.append_nil]⟩
  · obtain ⟨vs, z0, z1, z2, l, rfl, rfl, hvs, rfl⟩ := h
    have hp := pw_r (n := n) (by omega)
    have hb' : b < (T ++ [Cell.lst (vs.map D.int)] ++ l ++ [Cell.lst [.int 1, .int 2, .int 4, .int 8, .int 16]]).length := by simp only [List.length_append]; omega
    have hb2 : b < (T ++ [Cell.lst (vs.map D.int)] ++ l).length := by simp only [List.length_append]; omega
    obtain ⟨v, w0, w1, w2, e2, v0, v1⟩ := draw2 (k := k) (S := T ++ [Cell.lst (vs.map D.int)] ++ l ++ [Cell.lst [.int 1, .int 2, .int 4, .int 8, .int 16]]) (b := b) (m := pw n) (x0 := z0) (x1 := z1) (x2 := z2) (x3 := x3) (by omega) hb' (by omega) (by omega)
    have hT : (T ++ [Cell.lst (vs.map D.int)] ++ l)[T.length]? = some (.lst (vs.map D.int)) := by rw [get_app (by simp only [List.length_append]; show T.length < T.length + 1; omega)]; exact get_new
    rw [List.length_set] at g ⊢
    simp (disch := first | assumption | rfl | omega | (simp only [List.length_set, List.length_append, List.length_cons, List.length_nil, List.length_map]; omega) | decide +kernel) only [↓miA, miB, miC, ex_nil, ex_app, ex_app2, ex_app3, ex_app4, ex_app5, ex_app6, in62r, inWr, inWl, lim, List.length_set, List.length_cons, List.length_nil, List.getElem?_cons_zero, List.getElem?_cons_succ, List.set_cons_zero, List.set_cons_succ, Int.reduceToNat, eq_self, List.zip_nil_left, List.zip_nil_right, List.zip_cons_cons, decide_true, decide_eq_true, decide_eq_false, Bool.not_true, Bool.not_false, Bool.and_true, Bool.and_false, Bool.true_and, Bool.false_and, Bool.or_true, Bool.or_false, Bool.true_or, Bool.false_or, Bool.not_not, List.isEmpty_nil, List.isEmpty_cons, true_and, and_true, pw_at, set_app hb2, e2]
    refine ⟨vs ++ [v], w0, w1, w2, l ++ [Cell.lst [.int 1, .int 2, .int 4, .int 8, .int 16]], ?_, ?_, ?_, ?_⟩
    · rw [List.map_append]; rfl
    · rw [List.length_append]; rfl
    · intro x hx
      rcases List.mem_append.mp hx with hx | hx
      · exact hvs x hx
      · rw [List.mem_singleton.mp hx]
        exact ⟨v0, v1⟩
    · rw [List.append_assoc (T ++ _) l, set_mid hb]
  · obtain ⟨vs, z0, z1, z2, l, rfl, hn, hvs, rfl⟩ := h
    rw [List.length_set] at g ⊢
    simp (disch := first | assumption | rfl | omega | (simp only [List.length_set, List.length_append, List.length_cons, List.length_nil, List.length_map]; omega) | decide +kernel) only [↓miA, miB, miC, ex_nil, ex_app, ex_app2, ex_app3, ex_app4, ex_app5, ex_app6, in62r, inWr, inWl, lim, List.length_set, List.length_cons, List.length_nil, List.getElem?_cons_zero, List.getElem?_cons_succ, List.set_cons_zero, List.set_cons_succ, Int.reduceToNat, eq_self, List.zip_nil_left, List.zip_nil_right, List.zip_cons_cons, decide_true, decide_eq_true, decide_eq_false, Bool.not_true, Bool.not_false, Bool.and_true, Bool.and_false, Bool.true_and, Bool.false_and, Bool.or_true, Bool.or_false, Bool.true_or, Bool.false_or, Bool.not_not, List.isEmpty_nil, List.isEmpty_cons, true_and, and_true, g]
    exact ⟨by show D.pure (.tup (vs.map D.int)) = true; show pures (vs.map D.int) = true; clear hn g hvs; induction vs with | nil => rfl | cons a as ih => exact ih, ⟨vs, rfl, by omega, hvs⟩, [Cell.lst (vs.map D.int)] ++ l, z0, z1, z2, by rw [List.append_assoc]⟩
theorem p_at {w : List Int} (hw : w.length ≤ 1000) {f : F} : ∀ {k : Nat} {S : Store} {p : Nat}, fdep f + 1 ≤ k → fdep f ≤ 50 → trk f → p < w.length → callN prg k 16 [enc f, .tup (w.map .int), .int p] S = .ok (.bl (sem w f p)) S := by
  induction f with
  | now i =>
    intro k S p hk h5 ht hp
    obtain ⟨k, rfl⟩ : ∃ j, k = j + 1 := ⟨k - 1, by omega⟩
    rw [call__law_p_at]
    refine gc_is ?_ rfl
    unfold b__law_p_at
    simp only [enc]
    have e : (w.map D.int)[(p : Int).toNat]? = some (.int (w[p]?.getD 0)) := by
      rw [List.getElem?_map, Int.toNat_natCast, List.getElem?_eq_getElem hp]; rfl
    have hi : 0 ≤ i ∧ i ≤ 3 := ht
    have := pw_r (n := i) (by omega)
    simp (disch := first | assumption | rfl | omega | (simp only [List.length_set, List.length_append, List.length_cons, List.length_nil, List.length_map]; omega) | decide +kernel) only [↓miA, miB, miC, ex_nil, ex_app, ex_app2, ex_app3, ex_app4, ex_app5, ex_app6, in62r, inWr, inWl, lim, List.length_set, List.length_cons, List.length_nil, List.getElem?_cons_zero, List.getElem?_cons_succ, List.set_cons_zero, List.set_cons_succ, Int.reduceToNat, eq_self, List.zip_nil_left, List.zip_nil_right, List.zip_cons_cons, decide_true, decide_eq_true, decide_eq_false, Bool.not_true, Bool.not_false, Bool.and_true, Bool.and_false, Bool.true_and, Bool.false_and, Bool.or_true, Bool.or_false, Bool.true_or, Bool.false_or, Bool.not_not, List.isEmpty_nil, List.isEmpty_cons, true_and, and_true, e, pw_at3]
    rfl
  | tru =>
    intro k S p hk h5 ht hp
    obtain ⟨k, rfl⟩ : ∃ j, k = j + 1 := ⟨k - 1, by omega⟩
    rw [call__law_p_at]
    refine gc_is ?_ rfl
    unfold b__law_p_at
    simp only [enc]
    simp (disch := first | assumption | rfl | omega | (simp only [List.length_set, List.length_append, List.length_cons, List.length_nil, List.length_map]; omega) | decide +kernel) only [↓miA, miB, miC, ex_nil, ex_app, ex_app2, ex_app3, ex_app4, ex_app5, ex_app6, in62r, inWr, inWl, lim, List.length_set, List.length_cons, List.length_nil, List.getElem?_cons_zero, List.getElem?_cons_succ, List.set_cons_zero, List.set_cons_succ, Int.reduceToNat, eq_self, List.zip_nil_left, List.zip_nil_right, List.zip_cons_cons, decide_true, decide_eq_true, decide_eq_false, Bool.not_true, Bool.not_false, Bool.and_true, Bool.and_false, Bool.true_and, Bool.false_and, Bool.or_true, Bool.or_false, Bool.true_or, Bool.false_or, Bool.not_not, List.isEmpty_nil, List.isEmpty_cons, true_and, and_true, miX, sem]
  | fls =>
    intro k S p hk h5 ht hp
    obtain ⟨k, rfl⟩ : ∃ j, k = j + 1 := ⟨k - 1, by omega⟩
    rw [call__law_p_at]
    refine gc_is ?_ rfl
    unfold b__law_p_at
    simp only [enc]
    simp (disch := first | assumption | rfl | omega | (simp only [List.length_set, List.length_append, List.length_cons, List.length_nil, List.length_map]; omega) | decide +kernel) only [↓miA, miB, miC, ex_nil, ex_app, ex_app2, ex_app3, ex_app4, ex_app5, ex_app6, in62r, inWr, inWl, lim, List.length_set, List.length_cons, List.length_nil, List.getElem?_cons_zero, List.getElem?_cons_succ, List.set_cons_zero, List.set_cons_succ, Int.reduceToNat, eq_self, List.zip_nil_left, List.zip_nil_right, List.zip_cons_cons, decide_true, decide_eq_true, decide_eq_false, Bool.not_true, Bool.not_false, Bool.and_true, Bool.and_false, Bool.true_and, Bool.false_and, Bool.or_true, Bool.or_false, Bool.true_or, Bool.false_or, Bool.not_not, List.isEmpty_nil, List.isEmpty_cons, true_and, and_true, miX, sem]
  | nt f ih =>
    intro k S p hk h5 ht hp
    obtain ⟨k, rfl⟩ : ∃ j, k = j + 1 := ⟨k - 1, by omega⟩
    simp only [fdep] at hk h5
    rw [call__law_p_at]
    refine gc_is ?_ rfl
    unfold b__law_p_at
    simp only [enc]
    simp (disch := first | assumption | rfl | omega | (simp only [List.length_set, List.length_append, List.length_cons, List.length_nil, List.length_map]; omega) | decide +kernel) only [↓miA, miB, miC, ex_nil, ex_app, ex_app2, ex_app3, ex_app4, ex_app5, ex_app6, in62r, inWr, inWl, lim, List.length_set, List.length_cons, List.length_nil, List.getElem?_cons_zero, List.getElem?_cons_succ, List.set_cons_zero, List.set_cons_succ, Int.reduceToNat, eq_self, List.zip_nil_left, List.zip_nil_right, List.zip_cons_cons, decide_true, decide_eq_true, decide_eq_false, Bool.not_true, Bool.not_false, Bool.and_true, Bool.and_false, Bool.true_and, Bool.false_and, Bool.or_true, Bool.or_false, Bool.true_or, Bool.false_or, Bool.not_not, List.isEmpty_nil, List.isEmpty_cons, true_and, and_true, miX, sem, ih (k := k) (by omega) (by omega) ht hp]
  | an f g ih ih2 =>
    intro k S p hk h5 ht hp
    obtain ⟨k, rfl⟩ : ∃ j, k = j + 1 := ⟨k - 1, by omega⟩
    simp only [fdep] at hk h5
    rw [call__law_p_at]
    refine gc_is ?_ rfl
    unfold b__law_p_at
    simp only [enc]
    cases e : sem w f p <;> simp (disch := first | assumption | rfl | omega | (simp only [List.length_set, List.length_append, List.length_cons, List.length_nil, List.length_map]; omega) | decide +kernel) only [↓miA, miB, miC, ex_nil, ex_app, ex_app2, ex_app3, ex_app4, ex_app5, ex_app6, in62r, inWr, inWl, lim, List.length_set, List.length_cons, List.length_nil, List.getElem?_cons_zero, List.getElem?_cons_succ, List.set_cons_zero, List.set_cons_succ, Int.reduceToNat, eq_self, List.zip_nil_left, List.zip_nil_right, List.zip_cons_cons, decide_true, decide_eq_true, decide_eq_false, Bool.not_true, Bool.not_false, Bool.and_true, Bool.and_false, Bool.true_and, Bool.false_and, Bool.or_true, Bool.or_false, Bool.true_or, Bool.false_or, Bool.not_not, List.isEmpty_nil, List.isEmpty_cons, true_and, and_true, miX, sem, e, ih (k := k) (by omega) (by omega) ht.1 hp, ih2 (k := k) (by omega) (by omega) ht.2 hp]
  | or f g ih ih2 =>
    intro k S p hk h5 ht hp
    obtain ⟨k, rfl⟩ : ∃ j, k = j + 1 := ⟨k - 1, by omega⟩
    simp only [fdep] at hk h5
    rw [call__law_p_at]
    refine gc_is ?_ rfl
    unfold b__law_p_at
    simp only [enc]
    cases e : sem w f p <;> simp (disch := first | assumption | rfl | omega | (simp only [List.length_set, List.length_append, List.length_cons, List.length_nil, List.length_map]; omega) | decide +kernel) only [↓miA, miB, miC, ex_nil, ex_app, ex_app2, ex_app3, ex_app4, ex_app5, ex_app6, in62r, inWr, inWl, lim, List.length_set, List.length_cons, List.length_nil, List.getElem?_cons_zero, List.getElem?_cons_succ, List.set_cons_zero, List.set_cons_succ, Int.reduceToNat, eq_self, List.zip_nil_left, List.zip_nil_right, List.zip_cons_cons, decide_true, decide_eq_true, decide_eq_false, Bool.not_true, Bool.not_false, Bool.and_true, Bool.and_false, Bool.true_and, Bool.false_and, Bool.or_true, Bool.or_false, Bool.true_or, Bool.false_or, Bool.not_not, List.isEmpty_nil, List.isEmpty_cons, true_and, and_true, miX, sem, e, ih (k := k) (by omega) (by omega) ht.1 hp, ih2 (k := k) (by omega) (by omega) ht.2 hp]
  | bf f ih =>
    intro k S p hk h5 ht hp
    obtain ⟨k, rfl⟩ : ∃ j, k = j + 1 := ⟨k - 1, by omega⟩
    simp only [fdep] at hk h5
    rw [call__law_p_at]
    refine gc_is ?_ rfl
    unfold b__law_p_at
    simp only [enc]
    by_cases h0 : 0 < p
    · have e := fun T => ih (k := k) (S := T) (p := p - 1) (by omega) (by omega) ht (by omega)
      rw [show ((p - 1 : Nat) : Int) = (p : Int) - 1 by omega] at e
      simp (disch := first | assumption | rfl | omega | (simp only [List.length_set, List.length_append, List.length_cons, List.length_nil, List.length_map]; omega) | decide +kernel) only [↓miA, miB, miC, ex_nil, ex_app, ex_app2, ex_app3, ex_app4, ex_app5, ex_app6, in62r, inWr, inWl, lim, List.length_set, List.length_cons, List.length_nil, List.getElem?_cons_zero, List.getElem?_cons_succ, List.set_cons_zero, List.set_cons_succ, Int.reduceToNat, eq_self, List.zip_nil_left, List.zip_nil_right, List.zip_cons_cons, decide_true, decide_eq_true, decide_eq_false, Bool.not_true, Bool.not_false, Bool.and_true, Bool.and_false, Bool.true_and, Bool.false_and, Bool.or_true, Bool.or_false, Bool.true_or, Bool.false_or, Bool.not_not, List.isEmpty_nil, List.isEmpty_cons, true_and, and_true, miX, sem, e]
    · simp (disch := first | assumption | rfl | omega | (simp only [List.length_set, List.length_append, List.length_cons, List.length_nil, List.length_map]; omega) | decide +kernel) only [↓miA, miB, miC, ex_nil, ex_app, ex_app2, ex_app3, ex_app4, ex_app5, ex_app6, in62r, inWr, inWl, lim, List.length_set, List.length_cons, List.length_nil, List.getElem?_cons_zero, List.getElem?_cons_succ, List.set_cons_zero, List.set_cons_succ, Int.reduceToNat, eq_self, List.zip_nil_left, List.zip_nil_right, List.zip_cons_cons, decide_true, decide_eq_true, decide_eq_false, Bool.not_true, Bool.not_false, Bool.and_true, Bool.and_false, Bool.true_and, Bool.false_and, Bool.or_true, Bool.or_false, Bool.true_or, Bool.false_or, Bool.not_not, List.isEmpty_nil, List.isEmpty_cons, true_and, and_true, miX, sem]
  | on f ih =>
    intro k S p hk h5 ht hp
    obtain ⟨k, rfl⟩ : ∃ j, k = j + 1 := ⟨k - 1, by omega⟩
    simp only [fdep] at hk h5
    rw [call__law_p_at]
    refine gc_is ?_ rfl
    unfold b__law_p_at
    simp only [enc]
    have hlen : (rngD 0 ((p : Int) + 1)).length = p + 1 := by rw [rngD_len]; omega
    simp (disch := first | assumption | rfl | omega | (simp only [List.length_set, List.length_append, List.length_cons, List.length_nil, List.length_map]; omega) | decide +kernel) only [↓miA, miB, miC, ex_nil, ex_app, ex_app2, ex_app3, ex_app4, ex_app5, ex_app6, in62r, inWr, inWl, lim, List.length_set, List.length_cons, List.length_nil, List.getElem?_cons_zero, List.getElem?_cons_succ, List.set_cons_zero, List.set_cons_succ, Int.reduceToNat, eq_self, List.zip_nil_left, List.zip_nil_right, List.zip_cons_cons, decide_true, decide_eq_true, decide_eq_false, Bool.not_true, Bool.not_false, Bool.and_true, Bool.and_false, Bool.true_and, Bool.false_and, Bool.or_true, Bool.or_false, Bool.true_or, Bool.false_or, Bool.not_not, List.isEmpty_nil, List.isEmpty_cons, true_and, and_true, miX]
    refine lcM (ds := rngD 0 ((p : Int) + 1)) (at_ (sem w f)) (fun _ _ => rfl) (by rw [hlen]; show p + 1 < 1000000; omega) (by omega) (fun d acc hd => ?_) ?_
    · obtain ⟨j, hj⟩ := List.mem_iff_getElem?.mp hd
      obtain ⟨rfl, hj2⟩ := rngD_at hj
      rw [Int.zero_add]
      simp (disch := first | assumption | rfl | omega | (simp only [List.length_set, List.length_append, List.length_cons, List.length_nil, List.length_map]; omega) | decide +kernel) only [↓miA, miB, miC, ex_nil, ex_app, ex_app2, ex_app3, ex_app4, ex_app5, ex_app6, in62r, inWr, inWl, lim, List.length_set, List.length_cons, List.length_nil, List.getElem?_cons_zero, List.getElem?_cons_succ, List.set_cons_zero, List.set_cons_succ, Int.reduceToNat, eq_self, List.zip_nil_left, List.zip_nil_right, List.zip_cons_cons, decide_true, decide_eq_true, decide_eq_false, Bool.not_true, Bool.not_false, Bool.and_true, Bool.and_false, Bool.true_and, Bool.false_and, Bool.or_true, Bool.or_false, Bool.true_or, Bool.false_or, Bool.not_not, List.isEmpty_nil, List.isEmpty_cons, true_and, and_true, ih (k := k) (p := j) (by omega) (by omega) ht (by omega)]
      rfl
    · rw [map_at]
      simp (disch := first | assumption | rfl | omega | (simp only [List.length_set, List.length_append, List.length_cons, List.length_nil, List.length_map]; omega) | decide +kernel) only [↓miA, miB, miC, ex_nil, ex_app, ex_app2, ex_app3, ex_app4, ex_app5, ex_app6, in62r, inWr, inWl, lim, List.length_set, List.length_cons, List.length_nil, List.getElem?_cons_zero, List.getElem?_cons_succ, List.set_cons_zero, List.set_cons_succ, Int.reduceToNat, eq_self, List.zip_nil_left, List.zip_nil_right, List.zip_cons_cons, decide_true, decide_eq_true, decide_eq_false, Bool.not_true, Bool.not_false, Bool.and_true, Bool.and_false, Bool.true_and, Bool.false_and, Bool.or_true, Bool.or_false, Bool.true_or, Bool.false_or, Bool.not_not, List.isEmpty_nil, List.isEmpty_cons, true_and, and_true, inM_bls get_new, contains_any, sem]
  | sf f ih =>
    intro k S p hk h5 ht hp
    obtain ⟨k, rfl⟩ : ∃ j, k = j + 1 := ⟨k - 1, by omega⟩
    simp only [fdep] at hk h5
    rw [call__law_p_at]
    refine gc_is ?_ rfl
    unfold b__law_p_at
    simp only [enc]
    have hlen : (rngD 0 ((p : Int) + 1)).length = p + 1 := by rw [rngD_len]; omega
    simp (disch := first | assumption | rfl | omega | (simp only [List.length_set, List.length_append, List.length_cons, List.length_nil, List.length_map]; omega) | decide +kernel) only [↓miA, miB, miC, ex_nil, ex_app, ex_app2, ex_app3, ex_app4, ex_app5, ex_app6, in62r, inWr, inWl, lim, List.length_set, List.length_cons, List.length_nil, List.getElem?_cons_zero, List.getElem?_cons_succ, List.set_cons_zero, List.set_cons_succ, Int.reduceToNat, eq_self, List.zip_nil_left, List.zip_nil_right, List.zip_cons_cons, decide_true, decide_eq_true, decide_eq_false, Bool.not_true, Bool.not_false, Bool.and_true, Bool.and_false, Bool.true_and, Bool.false_and, Bool.or_true, Bool.or_false, Bool.true_or, Bool.false_or, Bool.not_not, List.isEmpty_nil, List.isEmpty_cons, true_and, and_true, miX]
    refine lcM (ds := rngD 0 ((p : Int) + 1)) (at_ (sem w f)) (fun _ _ => rfl) (by rw [hlen]; show p + 1 < 1000000; omega) (by omega) (fun d acc hd => ?_) ?_
    · obtain ⟨j, hj⟩ := List.mem_iff_getElem?.mp hd
      obtain ⟨rfl, hj2⟩ := rngD_at hj
      rw [Int.zero_add]
      simp (disch := first | assumption | rfl | omega | (simp only [List.length_set, List.length_append, List.length_cons, List.length_nil, List.length_map]; omega) | decide +kernel) only [↓miA, miB, miC, ex_nil, ex_app, ex_app2, ex_app3, ex_app4, ex_app5, ex_app6, in62r, inWr, inWl, lim, List.length_set, List.length_cons, List.length_nil, List.getElem?_cons_zero, List.getElem?_cons_succ, List.set_cons_zero, List.set_cons_succ, Int.reduceToNat, eq_self, List.zip_nil_left, List.zip_nil_right, List.zip_cons_cons, decide_true, decide_eq_true, decide_eq_false, Bool.not_true, Bool.not_false, Bool.and_true, Bool.and_false, Bool.true_and, Bool.false_and, Bool.or_true, Bool.or_false, Bool.true_or, Bool.false_or, Bool.not_not, List.isEmpty_nil, List.isEmpty_cons, true_and, and_true, ih (k := k) (p := j) (by omega) (by omega) ht (by omega)]
      rfl
    · rw [map_at]
      simp (disch := first | assumption | rfl | omega | (simp only [List.length_set, List.length_append, List.length_cons, List.length_nil, List.length_map]; omega) | decide +kernel) only [↓miA, miB, miC, ex_nil, ex_app, ex_app2, ex_app3, ex_app4, ex_app5, ex_app6, in62r, inWr, inWl, lim, List.length_set, List.length_cons, List.length_nil, List.getElem?_cons_zero, List.getElem?_cons_succ, List.set_cons_zero, List.set_cons_succ, Int.reduceToNat, eq_self, List.zip_nil_left, List.zip_nil_right, List.zip_cons_cons, decide_true, decide_eq_true, decide_eq_false, Bool.not_true, Bool.not_false, Bool.and_true, Bool.and_false, Bool.true_and, Bool.false_and, Bool.or_true, Bool.or_false, Bool.true_or, Bool.false_or, Bool.not_not, List.isEmpty_nil, List.isEmpty_cons, true_and, and_true, inM_bls get_new, contains_all, sem]
  | si f g ih ih2 =>
    intro k S p hk h5 ht hp
    obtain ⟨k, rfl⟩ : ∃ j, k = j + 1 := ⟨k - 1, by omega⟩
    simp only [fdep] at hk h5
    rw [call__law_p_at]
    refine gc_is ?_ rfl
    unfold b__law_p_at
    simp only [enc]
    have hlen : (rngDn (p : Int) (-1)).length = p + 1 := by rw [rngDn_len]; omega
    simp (disch := first | assumption | rfl | omega | (simp only [List.length_set, List.length_append, List.length_cons, List.length_nil, List.length_map]; omega) | decide +kernel) only [↓miA, miB, miC, ex_nil, ex_app, ex_app2, ex_app3, ex_app4, ex_app5, ex_app6, in62r, inWr, inWl, lim, List.length_set, List.length_cons, List.length_nil, List.getElem?_cons_zero, List.getElem?_cons_succ, List.set_cons_zero, List.set_cons_succ, Int.reduceToNat, eq_self, List.zip_nil_left, List.zip_nil_right, List.zip_cons_cons, decide_true, decide_eq_true, decide_eq_false, Bool.not_true, Bool.not_false, Bool.and_true, Bool.and_false, Bool.true_and, Bool.false_and, Bool.or_true, Bool.or_false, Bool.true_or, Bool.false_or, Bool.not_not, List.isEmpty_nil, List.isEmpty_cons, true_and, and_true, miX]
    unfold cFor
    refine for_items (ds := rngDn (p : Int) (-1)) (fun t env S' => (∃ q, env = [some (.tup [.str "since", enc f, enc g]), some (.tup (w.map .int)), some (.int p), some (.str "since"), q]) ∧ (∃ l, S' = S ++ l) ∧ siS (sem w f) (sem w g) p = (if t ≤ p then siS (sem w f) (sem w g) (p - t) else false)) ?_ ?_ 1000000 0 _ _ (Nat.zero_le _) (by omega) ⟨⟨_, rfl⟩, ⟨_, rfl⟩, by rw [if_pos (Nat.zero_le _), Nat.sub_zero]⟩
    · rintro t d env S' ed ⟨⟨q, rfl⟩, ⟨l, rfl⟩, he⟩
      obtain ⟨rfl, hj2⟩ := rngDn_at ed
      have htp : t ≤ p := by omega
      rw [if_pos htp] at he
      rw [show (p : Int) - (t : Int) = ((p - t : Nat) : Int) by omega]
      cases e1 : sem w g (p - t) with
      | true =>
        simp (disch := first | assumption | rfl | omega | (simp only [List.length_set, List.length_append, List.length_cons, List.length_nil, List.length_map]; omega) | decide +kernel) only [↓miA, miB, miC, ex_nil, ex_app, ex_app2, ex_app3, ex_app4, ex_app5, ex_app6, in62r, inWr, inWl, lim, List.length_set, List.length_cons, List.length_nil, List.getElem?_cons_zero, List.getElem?_cons_succ, List.set_cons_zero, List.set_cons_succ, Int.reduceToNat, eq_self, List.zip_nil_left, List.zip_nil_right, List.zip_cons_cons, decide_true, decide_eq_true, decide_eq_false, Bool.not_true, Bool.not_false, Bool.and_true, Bool.and_false, Bool.true_and, Bool.false_and, Bool.or_true, Bool.or_false, Bool.true_or, Bool.false_or, Bool.not_not, List.isEmpty_nil, List.isEmpty_cons, true_and, and_true, ih2 (k := k) (p := p - t) (by omega) (by omega) ht.2 (by omega), e1]
        show D.bl true = D.bl (siS (sem w f) (sem w g) p)
        rw [he]
        cases e : p - t with
        | zero => rw [e] at e1; exact (congrArg D.bl (show siS (sem w f) (sem w g) 0 = true from e1)).symm
        | succ m => rw [e] at e1; refine (congrArg D.bl (show siS (sem w f) (sem w g) (m + 1) = true from ?_)).symm; show (sem w g (m + 1) || _) = true; rw [e1]; rfl
      | false =>
        cases e2 : sem w f (p - t) with
        | false =>
          simp (disch := first | assumption | rfl | omega | (simp only [List.length_set, List.length_append, List.length_cons, List.length_nil, List.length_map]; omega) | decide +kernel) only [↓miA, miB, miC, ex_nil, ex_app, ex_app2, ex_app3, ex_app4, ex_app5, ex_app6, in62r, inWr, inWl, lim, List.length_set, List.length_cons, List.length_nil, List.getElem?_cons_zero, List.getElem?_cons_succ, List.set_cons_zero, List.set_cons_succ, Int.reduceToNat, eq_self, List.zip_nil_left, List.zip_nil_right, List.zip_cons_cons, decide_true, decide_eq_true, decide_eq_false, Bool.not_true, Bool.not_false, Bool.and_true, Bool.and_false, Bool.true_and, Bool.false_and, Bool.or_true, Bool.or_false, Bool.true_or, Bool.false_or, Bool.not_not, List.isEmpty_nil, List.isEmpty_cons, true_and, and_true, ih2 (k := k) (p := p - t) (by omega) (by omega) ht.2 (by omega), ih (k := k) (p := p - t) (by omega) (by omega) ht.1 (by omega), e1, e2]
          show D.bl false = D.bl (siS (sem w f) (sem w g) p)
          rw [he]
          cases e : p - t with
          | zero => rw [e] at e1; exact (congrArg D.bl (show siS (sem w f) (sem w g) 0 = false from e1)).symm
          | succ m => rw [e] at e1 e2; refine (congrArg D.bl (show siS (sem w f) (sem w g) (m + 1) = false from ?_)).symm; show (sem w g (m + 1) || (sem w f (m + 1) && _)) = false; rw [e1, e2]; rfl
        | true =>
          simp (disch := first | assumption | rfl | omega | (simp only [List.length_set, List.length_append, List.length_cons, List.length_nil, List.length_map]; omega) | decide +kernel) only [↓miA, miB, miC, ex_nil, ex_app, ex_app2, ex_app3, ex_app4, ex_app5, ex_app6, in62r, inWr, inWl, lim, List.length_set, List.length_cons, List.length_nil, List.getElem?_cons_zero, List.getElem?_cons_succ, List.set_cons_zero, List.set_cons_succ, Int.reduceToNat, eq_self, List.zip_nil_left, List.zip_nil_right, List.zip_cons_cons, decide_true, decide_eq_true, decide_eq_false, Bool.not_true, Bool.not_false, Bool.and_true, Bool.and_false, Bool.true_and, Bool.false_and, Bool.or_true, Bool.or_false, Bool.true_or, Bool.false_or, Bool.not_not, List.isEmpty_nil, List.isEmpty_cons, true_and, and_true, ih2 (k := k) (p := p - t) (by omega) (by omega) ht.2 (by omega), ih (k := k) (p := p - t) (by omega) (by omega) ht.1 (by omega), e1, e2]
          refine ⟨⟨_, rfl⟩, ?_⟩
          rw [he]
          cases e : p - t with
          | zero => rw [e] at e1; rw [if_neg (by omega)]; exact e1
          | succ m =>
            rw [e] at e1 e2
            rw [if_pos (by omega), show p - (t + 1) = m by omega]
            show (sem w g (m + 1) || (sem w f (m + 1) && siS (sem w f) (sem w g) m)) = _
            rw [e1, e2]
            rfl
    · rintro env S' ⟨⟨q, rfl⟩, ⟨l, rfl⟩, he⟩
      rw [hlen, if_neg (by omega)] at he
      simp (disch := first | assumption | rfl | omega | (simp only [List.length_set, List.length_append, List.length_cons, List.length_nil, List.length_map]; omega) | decide +kernel) only [↓miA, miB, miC, ex_nil, ex_app, ex_app2, ex_app3, ex_app4, ex_app5, ex_app6, in62r, inWr, inWl, lim, List.length_set, List.length_cons, List.length_nil, List.getElem?_cons_zero, List.getElem?_cons_succ, List.set_cons_zero, List.set_cons_succ, Int.reduceToNat, eq_self, List.zip_nil_left, List.zip_nil_right, List.zip_cons_cons, decide_true, decide_eq_true, decide_eq_false, Bool.not_true, Bool.not_false, Bool.and_true, Bool.and_false, Bool.true_and, Bool.false_and, Bool.or_true, Bool.or_false, Bool.true_or, Bool.false_or, Bool.not_not, List.isEmpty_nil, List.isEmpty_cons, true_and, and_true]
      show D.bl false = D.bl (siS (sem w f) (sem w g) p)
      rw [he]
theorem bagOf {k : Nat} {S : Store} {r : Nat} {ns : List Int} {j : Int} (hr : S[r]? = some (.frz (ns.map D.int))) (hj : 0 ≤ j ∧ j < 1000) (hk : 1 ≤ k) : ∃ x, callN prg k 13 [.ref r, .int j] S = .ok (.ref S.length) (S ++ [bg 0 (977 + 48611 * j) 0 x]) := by
  obtain ⟨k, rfl⟩ : ∃ j, k = j + 1 := ⟨k - 1, by omega⟩
  refine ⟨if j < ns.length then ns[j.toNat]! else 0, ?_⟩
  rw [call__law_bag]
  have hl : ((ns.map D.int).length : Int) = ns.length := by rw [List.length_map]
  have e : endOf (xss ⟨callN prg k, 1000000⟩ b__law_bag [some (.ref r), some (.int j), none] S) = .ok (.ref S.length) (S ++ [bg 0 (977 + 48611 * j) 0 (if j < ns.length then ns[j.toNat]! else 0)]) := by
    rw [W_eq]
    unfold b__law_bag
    by_cases h : j < ns.length
    · have h2 : (ns.map D.int)[j.toNat]? = some (.int ns[j.toNat]!) := by
        rw [List.getElem?_map, List.getElem!_eq_getElem?_getD]
        rw [List.getElem?_eq_getElem (by omega)]
        rfl
      rw [if_pos h]
      simp (disch := first | assumption | rfl | omega | (simp only [List.length_set, List.length_append, List.length_cons, List.length_nil, List.length_map]; omega) | decide +kernel) only [↓miA, miB, miC, ex_nil, ex_app, ex_app2, ex_app3, ex_app4, ex_app5, ex_app6, in62r, inWr, inWl, lim, List.length_set, List.length_cons, List.length_nil, List.getElem?_cons_zero, List.getElem?_cons_succ, List.set_cons_zero, List.set_cons_succ, Int.reduceToNat, eq_self, List.zip_nil_left, List.zip_nil_right, List.zip_cons_cons, decide_true, decide_eq_true, decide_eq_false, Bool.not_true, Bool.not_false, Bool.and_true, Bool.and_false, Bool.true_and, Bool.false_and, Bool.or_true, Bool.or_false, Bool.true_or, Bool.false_or, Bool.not_not, List.isEmpty_nil, List.isEmpty_cons, true_and, and_true, hr, hl, h2, inWl]
    · rw [if_neg h]
      simp (disch := first | assumption | rfl | omega | (simp only [List.length_set, List.length_append, List.length_cons, List.length_nil, List.length_map]; omega) | decide +kernel) only [↓miA, miB, miC, ex_nil, ex_app, ex_app2, ex_app3, ex_app4, ex_app5, ex_app6, in62r, inWr, inWl, lim, List.length_set, List.length_cons, List.length_nil, List.getElem?_cons_zero, List.getElem?_cons_succ, List.set_cons_zero, List.set_cons_succ, Int.reduceToNat, eq_self, List.zip_nil_left, List.zip_nil_right, List.zip_cons_cons, decide_true, decide_eq_true, decide_eq_false, Bool.not_true, Bool.not_false, Bool.and_true, Bool.and_false, Bool.true_and, Bool.false_and, Bool.or_true, Bool.or_false, Bool.true_or, Bool.false_or, Bool.not_not, List.isEmpty_nil, List.isEmpty_cons, true_and, and_true, hr, hl, inWl]
  rw [e]
  exact gc_new (Nat.le_refl _) get_new rfl
end K12

namespace K12
open PySem PySem.Spec Mi Pf
theorem told_bad {n : Int} {d x : D} {k : Nat} {S : Store} (h : bad n d 20) (hk : 27 ≤ k) : callN prg k 18 [.int n, d, x] S = .ok (.str "past") S := by
  obtain ⟨k, rfl⟩ : ∃ j, k = j + 1 := ⟨k - 1, by omega⟩
  rw [call__law_told]
  refine gc_is ?_ rfl
  have c := past_bad (k := k) (S := S) (x := x) h (by omega)
  have e : List.lookup (α := Str) (β := D) "kind" [("kind", .str "past"), ("name", .str "")] = some (.str "past") := rfl
  unfold b__law_told
  simp (disch := first | assumption | rfl | omega | (simp only [List.length_set, List.length_append, List.length_cons, List.length_nil, List.length_map]; omega) | decide +kernel) only [↓miA, miB, miC, ex_nil, ex_app, ex_app2, ex_app3, ex_app4, ex_app5, ex_app6, in62r, inWr, inWl, lim, List.length_set, List.length_cons, List.length_nil, List.getElem?_cons_zero, List.getElem?_cons_succ, List.set_cons_zero, List.set_cons_succ, Int.reduceToNat, eq_self, List.zip_nil_left, List.zip_nil_right, List.zip_cons_cons, decide_true, decide_eq_true, decide_eq_false, Bool.not_true, Bool.not_false, Bool.and_true, Bool.and_false, Bool.true_and, Bool.false_and, Bool.or_true, Bool.or_false, Bool.true_or, Bool.false_or, Bool.not_not, List.isEmpty_nil, List.isEmpty_cons, true_and, and_true]
  refine WS_try ?_
  simp (disch := first | assumption | rfl | omega | (simp only [List.length_set, List.length_append, List.length_cons, List.length_nil, List.length_map]; omega) | decide +kernel) only [↓miA, miB, miC, ex_nil, ex_app, ex_app2, ex_app3, ex_app4, ex_app5, ex_app6, in62r, inWr, inWl, lim, List.length_set, List.length_cons, List.length_nil, List.getElem?_cons_zero, List.getElem?_cons_succ, List.set_cons_zero, List.set_cons_succ, Int.reduceToNat, eq_self, List.zip_nil_left, List.zip_nil_right, List.zip_cons_cons, decide_true, decide_eq_true, decide_eq_false, Bool.not_true, Bool.not_false, Bool.and_true, Bool.and_false, Bool.true_and, Bool.false_and, Bool.or_true, Bool.or_false, Bool.true_or, Bool.false_or, Bool.not_not, List.isEmpty_nil, List.isEmpty_cons, true_and, and_true, c, e]
  try (intro env'; exact ⟨rfl, [], by rw [List.append_nil]⟩)
theorem told_odd {n : Int} {f : F} {x : D} {k b m : Nat} {S : Store} (hn : 1 ≤ n ∧ n ≤ 4) (ht : trn n f) (hd : fdep f ≤ 8) (ha : atoms f ≤ 40) (hp : Pl S b 3000 m x) (hx : isWord (pw n) x = false) (hk : 16 ≤ k) : callN prg k 18 [.int n, enc f, x] S = .ok (.str "word") S := by
  obtain ⟨k, rfl⟩ : ∃ j, k = j + 1 := ⟨k - 1, by omega⟩
  rw [call__law_told]
  refine gc_is ?_ rfl
  have c := past_odd (k := k) hn ht hd ha hp hx (by omega)
  unfold b__law_told
  simp (disch := first | assumption | rfl | omega | (simp only [List.length_set, List.length_append, List.length_cons, List.length_nil, List.length_map]; omega) | decide +kernel) only [↓miA, miB, miC, ex_nil, ex_app, ex_app2, ex_app3, ex_app4, ex_app5, ex_app6, in62r, inWr, inWl, lim, List.length_set, List.length_cons, List.length_nil, List.getElem?_cons_zero, List.getElem?_cons_succ, List.set_cons_zero, List.set_cons_succ, Int.reduceToNat, eq_self, List.zip_nil_left, List.zip_nil_right, List.zip_cons_cons, decide_true, decide_eq_true, decide_eq_false, Bool.not_true, Bool.not_false, Bool.and_true, Bool.and_false, Bool.true_and, Bool.false_and, Bool.or_true, Bool.or_false, Bool.true_or, Bool.false_or, Bool.not_not, List.isEmpty_nil, List.isEmpty_cons, true_and, and_true]
  refine WS_try ?_
  simp (disch := first | assumption | rfl | omega | (simp only [List.length_set, List.length_append, List.length_cons, List.length_nil, List.length_map]; omega) | decide +kernel) only [↓miA, miB, miC, ex_nil, ex_app, ex_app2, ex_app3, ex_app4, ex_app5, ex_app6, in62r, inWr, inWl, lim, List.length_set, List.length_cons, List.length_nil, List.getElem?_cons_zero, List.getElem?_cons_succ, List.set_cons_zero, List.set_cons_succ, Int.reduceToNat, eq_self, List.zip_nil_left, List.zip_nil_right, List.zip_cons_cons, decide_true, decide_eq_true, decide_eq_false, Bool.not_true, Bool.not_false, Bool.and_true, Bool.and_false, Bool.true_and, Bool.false_and, Bool.or_true, Bool.or_false, Bool.true_or, Bool.false_or, Bool.not_not, List.isEmpty_nil, List.isEmpty_cons, true_and, and_true, c]
  try (intro env'; exact ⟨rfl, [], by rw [List.append_nil]⟩)
theorem map_at' (h : Nat → Bool) (n : Nat) : (rngD 0 (n : Int)).map (at_ h) = ((List.range n).map h).map D.bl := by
  unfold rngD
  rw [List.map_map, List.map_map, show ((n : Int) - 0).toNat = n by omega]
  refine List.map_congr_left fun q hq => ?_
  show D.bl (h (0 + (q : Int)).toNat) = D.bl (h q)
  rw [show (0 + (q : Int)).toNat = q by omega]
abbrev lawBody (N : Int) : List Sx :=
  [.asg (.v 2) (.call 13 [.var 0, .var 1]), .asg (.v 3) (.bin .add (.lit (.int 1)) (.call 14 [.var 2, .lit (.int 4)])), .asg (.v 4) (.call 15 [.var 2, .var 3, .bin .add (.lit (.int 1)) (.call 14 [.var 2, .lit (.int 6)])]), .for_ (.v 5) (.rng [.lit (.int 4)]) [.asg (.v 8) (.call 17 [.var 2, .var 3, .lit (.int 6)]), .asg (.v 9) (.blt .tuple [.lc (.rng [.blt .len [.var 8]]) (.v 10) [10] none (.call 16 [.var 4, .var 8, .var 10])]), .ite (.cmp .ne (.blt .repr [.call 12 [.var 3, .var 4, .var 8]]) (.blt .repr [.var 9])) [.ret (.lit (.bl false))] []], .for_ (.v 6) (.seq (.lst [.tup [.lit (.int 16)], .lst [.lit (.int 0)], .lit (.non), .tup [.lit (.bl true)], .tup [.lit (.str "x")]])) [.ite (.cmp .ne (.call 18 [.var 3, .var 4, .var 6]) (.lit (.str "word"))) [.ret (.lit (.bl false))] []], .asg (.v 7) (.var 4), .for_ (.v 5) (.rng [.lit (.int N)]) [.asg (.v 7) (.tup [.lit (.str "once"), .var 7])], .for_ (.v 6) (.seq (.lst [.tup [.lit (.str "now"), .var 3], .tup [.lit (.str "track"), .lit (.int 0), .lit (.int 0)], .lit (.non), .var 7, .tup [.lit (.str "since"), .var 4], .tup [.lit (.str "now"), .lit (.bl true)]])) [.ite (.cmp .ne (.call 18 [.var 3, .var 6, .lit (.non)]) (.lit (.str "past"))) [.ret (.lit (.bl false))] []]]
theorem list10 {α : Type} {l : List α} (h : l.length = 10) : ∃ a1 a2 a3 a4 a5 a6 a7 a8 a9 a10, l = [a1, a2, a3, a4, a5, a6, a7, a8, a9, a10] := by
  match l, h with
  | [a1, a2, a3, a4, a5, a6, a7, a8, a9, a10], _ => exact ⟨_, _, _, _, _, _, _, _, _, _, rfl⟩
theorem odd_w {n : Int} {S : Store} {q : Nat} {d : D} (hn : 1 ≤ n ∧ n ≤ 4) (hq : 0 < q) (hS : S[q]? = some (.lst [.int 0])) (h : d ∈ [D.tup [.int 16], .ref q, .non, .tup [.bl true], .tup [.str "x"]]) : Pl S 0 3000 3 d ∧ isWord (pw n) d = false := by
  have h1 := pw_r (n := n) (by omega)
  simp only [List.mem_cons, List.not_mem_nil, or_false] at h
  have one : ∀ x : D, Pl S 0 3000 2 x → Pl S 0 3000 3 (.tup [x]) := fun x hx => ⟨by show 1 ≤ 3000; omega, fun e he => by rw [List.mem_singleton.mp he]; exact hx⟩
  rcases h with rfl | rfl | rfl | rfl | rfl
  · refine ⟨one _ trivial, ?_⟩
    show ((decide (0 ≤ 16) && decide ((16 : Int) ≤ pw n - 1)) && true) = false
    rw [decide_eq_false (show ¬((16 : Int) ≤ pw n - 1) by omega)]
    rfl
  · exact ⟨⟨hq, _, hS, by show 1 ≤ 3000; omega, fun e he => by rw [List.mem_singleton.mp he]; trivial⟩, rfl⟩
  · exact ⟨trivial, rfl⟩
  · exact ⟨one _ trivial, rfl⟩
  · exact ⟨one _ (by show PyData.strOk "x" = true; decide +kernel), rfl⟩
theorem odd_p {n : Int} {f g : F} {d : D} (hd : fdep f ≤ 8) (hg : g = deepF 21 f) (h : d ∈ [D.tup [.str "now", .int n], .tup [.str "track", .int 0, .int 0], .non, enc g, .tup [.str "since", enc f], .tup [.str "now", .bl true]]) : bad n d 20 := by
  simp only [List.mem_cons, List.not_mem_nil, or_false] at h
  rcases h with rfl | rfl | rfl | rfl | rfl | rfl
  · exact bad_now (by omega)
  · exact bad_track
  · exact bad_non
  · rw [hg]
    exact bad_deep 20 21 (by omega) (by omega)
  · exact bad_since (by omega)
  · exact bad_true
theorem body_ok {N : Int} (hN : N = 21) {k : Nat} {ns : List Int} {j : Nat} {S : Store} {es : List (Option D)} (hj : j < 20) (h0 : S[0]? = some (.frz (ns.map D.int))) (he : es.length = 10) (hk : 30 ≤ k) :
    WS (xss ⟨callN prg k, 1000000⟩ (lawBody N) (some (.ref 0) :: es.set 0 (some (.int j))) S) (loopK (fun env S' => ∃ es', es'.length = 10 ∧ env = some (.ref 0) :: es' ∧ S'[0]? = some (.frz (ns.map D.int))) fun _ _ _ => False) NoEx := by
  obtain ⟨a1, a2, a3, a4, a5, a6, a7, a8, a9, a10, rfl⟩ := list10 he
  have hlt : 0 < S.length := (List.getElem?_eq_some_iff.mp h0).1
  obtain ⟨x, eb⟩ := bagOf (k := k) h0 (show 0 ≤ (j : Int) ∧ (j : Int) < 1000 by omega) (by omega)
  unfold lawBody
  obtain ⟨T, hT⟩ : ∃ T, T = S ++ [bg 0 (977 + 48611 * (j : Int)) 0 x] := ⟨_, rfl⟩
  have hTl : T.length = S.length + 1 := by rw [hT, List.length_append]; rfl
  have hT0 : T[0]? = some (.frz (ns.map D.int)) := by rw [hT, get_app hlt, h0]
  have hTb : S ++ [bg 0 (977 + 48611 * (j : Int)) 0 x] = T.set S.length (bg 0 (977 + 48611 * (j : Int)) 0 x) := by rw [hT]; exact bag_new
  rw [hTb] at eb
  obtain ⟨b, hb⟩ : ∃ b, b = S.length := ⟨_, rfl⟩
  rw [← hb] at eb
  have hbT : b < T.length := by omega
  have hb0 : 0 < b := by omega
  clear hTb hT
  obtain ⟨n', y0, y1, y2, e1, n0, n1⟩ := draw2 (k := k) (m := 4) (x0 := 0) (x1 := 977 + 48611 * (j : Int)) (x2 := 0) (x3 := x) (by omega) hbT (by omega) (by omega)
  obtain ⟨n, hne⟩ : ∃ n, n = 1 + n' := ⟨_, rfl⟩
  have hn : 1 ≤ n ∧ n ≤ 4 := by omega
  obtain ⟨dp, z0, z1, z2, e2, d0, d1⟩ := draw2 (k := k) (S := T) (b := b) (m := 6) (x0 := y0) (x1 := y1) (x2 := y2) (x3 := x) (by omega) hbT (by omega) (by omega)
  obtain ⟨v, w0, w1, w2, e3, f, rfl, tf, df⟩ := law_p (b := b) (x3 := x) hn 6 k (1 + dp) T z0 z1 z2 (by omega) (by omega) hbT (by omega)
  have hd7 : fdep f ≤ 7 := by omega
  have hat := atoms_le hd7
  simp (disch := first | assumption | rfl | omega | (simp only [List.length_set, List.length_append, List.length_cons, List.length_nil, List.length_map]; omega) | decide +kernel) only [↓miA, miB, miC, ex_nil, ex_app, ex_app2, ex_app3, ex_app4, ex_app5, ex_app6, in62r, inWr, inWl, lim, List.length_set, List.length_cons, List.length_nil, List.getElem?_cons_zero, List.getElem?_cons_succ, List.set_cons_zero, List.set_cons_succ, Int.reduceToNat, eq_self, List.zip_nil_left, List.zip_nil_right, List.zip_cons_cons, decide_true, decide_eq_true, decide_eq_false, Bool.not_true, Bool.not_false, Bool.and_true, Bool.and_false, Bool.true_and, Bool.false_and, Bool.or_true, Bool.or_false, Bool.true_or, Bool.false_or, Bool.not_not, List.isEmpty_nil, List.isEmpty_cons, true_and, and_true, eb, e1, e2, ← hne, e3]
  unfold cFor
  refine for_items (ds := rngD 0 4) (fun t env S' => ∃ e5 e8 e9 u0 u1 u2 l, env = [some (.ref 0), some (.int j), some (.ref b), some (.int n), some (enc f), e5, a6, a7, e8, e9, a10] ∧ S' = (T ++ l).set b (bg u0 u1 u2 x)) ?_ ?_ 1000000 0 _ _ (Nat.zero_le _) (by show 4 < 1000000 + 0; omega) ⟨_, _, _, _, _, _, [], rfl, by rw [List.append_nil]⟩
  · rintro t d env S' ed ⟨e5, e8, e9, u0, u1, u2, l, rfl, rfl⟩
    have hbl : b < (T ++ l).length := by rw [List.length_append]; omega
    obtain ⟨vw, v0, v1, v2, e4, w, rfl, hw, hwr⟩ := law_word (b := b) (n := n) (x3 := x) (most := 6) hn (by omega) (k := k) (T := T ++ l) (x0 := u0) (x1 := u1) (x2 := u2) hbl (by omega)
    have hw6 : w.length ≤ 6 := hw
    have hl : ((w.map D.int).length : Int) = w.length := by rw [List.length_map]
    have hrl : (rngD 0 (w.length : Int)).length = w.length := by rw [rngD_len]; omega
    have q1 := fun U => past_at (k := k) (S := U) hn tf (by omega) hat hwr (by omega) (by omega)
    have q2 : (truths w f w.length).length ≤ 100000 := by
      unfold truths
      rw [List.length_map, List.length_range]
      omega
    simp (disch := first | assumption | rfl | omega | (simp only [List.length_set, List.length_append, List.length_cons, List.length_nil, List.length_map]; omega) | decide +kernel) only [↓miA, miB, miC, ex_nil, ex_app, ex_app2, ex_app3, ex_app4, ex_app5, ex_app6, in62r, inWr, inWl, lim, List.length_set, List.length_cons, List.length_nil, List.getElem?_cons_zero, List.getElem?_cons_succ, List.set_cons_zero, List.set_cons_succ, Int.reduceToNat, eq_self, List.zip_nil_left, List.zip_nil_right, List.zip_cons_cons, decide_true, decide_eq_true, decide_eq_false, Bool.not_true, Bool.not_false, Bool.and_true, Bool.and_false, Bool.true_and, Bool.false_and, Bool.or_true, Bool.or_false, Bool.true_or, Bool.false_or, Bool.not_not, List.isEmpty_nil, List.isEmpty_cons, true_and, and_true, e4, hl]
    refine lcM (ds := rngD 0 (w.length : Int)) (at_ (sem w f)) (fun _ _ => rfl) (by rw [hrl]; show w.length < 1000000; omega) (by omega) (fun d2 acc hd2 => ?_) ?_
    · obtain ⟨q, hq⟩ := List.mem_iff_getElem?.mp hd2
      obtain ⟨rfl, hq2⟩ := rngD_at hq
      rw [Int.zero_add]
      simp (disch := first | assumption | rfl | omega | (simp only [List.length_set, List.length_append, List.length_cons, List.length_nil, List.length_map]; omega) | decide +kernel) only [↓miA, miB, miC, ex_nil, ex_app, ex_app2, ex_app3, ex_app4, ex_app5, ex_app6, in62r, inWr, inWl, lim, List.length_set, List.length_cons, List.length_nil, List.getElem?_cons_zero, List.getElem?_cons_succ, List.set_cons_zero, List.set_cons_succ, Int.reduceToNat, eq_self, List.zip_nil_left, List.zip_nil_right, List.zip_cons_cons, decide_true, decide_eq_true, decide_eq_false, Bool.not_true, Bool.not_false, Bool.and_true, Bool.and_false, Bool.true_and, Bool.false_and, Bool.or_true, Bool.or_false, Bool.true_or, Bool.false_or, Bool.not_not, List.isEmpty_nil, List.isEmpty_cons, true_and, and_true, p_at (w := w) (by omega) (f := f) (k := k) (p := q) (by omega) (by omega) (trk_of hn.2 tf) (by omega)]
      rfl
    · rw [map_at']
      have e7 : ((List.range w.length).map (sem w f)).map D.bl = (truths w f w.length).map D.bl := rfl
      rw [e7]
      have gn : ((T ++ l).set b (bg v0 v1 v2 x) ++ [Cell.lst ((truths w f w.length).map D.bl)])[(T ++ l).length]? = some (.lst ((truths w f w.length).map D.bl)) := by
        have e : ((T ++ l).set b (bg v0 v1 v2 x)).length = (T ++ l).length := List.length_set
        rw [← e]
        exact get_new
      simp (disch := first | assumption | rfl | omega | (simp only [List.length_set, List.length_append, List.length_cons, List.length_nil, List.length_map]; omega) | decide +kernel) only [↓miA, miB, miC, ex_nil, ex_app, ex_app2, ex_app3, ex_app4, ex_app5, ex_app6, in62r, inWr, inWl, lim, List.length_set, List.length_cons, List.length_nil, List.getElem?_cons_zero, List.getElem?_cons_succ, List.set_cons_zero, List.set_cons_succ, Int.reduceToNat, eq_self, List.zip_nil_left, List.zip_nil_right, List.zip_cons_cons, decide_true, decide_eq_true, decide_eq_false, Bool.not_true, Bool.not_false, Bool.and_true, Bool.and_false, Bool.true_and, Bool.false_and, Bool.or_true, Bool.or_false, Bool.true_or, Bool.false_or, Bool.not_not, List.isEmpty_nil, List.isEmpty_cons, true_and, and_true, gn, q1, repr_bls]
      exact ⟨_, _, _, _, _, _, l ++ [Cell.lst ((truths w f w.length).map D.bl)], rfl, by rw [set_app hbl, List.append_assoc]⟩
  · rintro env S' ⟨e5, e8, e9, u0, u1, u2, l, rfl, rfl⟩
    simp (disch := first | assumption | rfl | omega | (simp only [List.length_set, List.length_append, List.length_cons, List.length_nil, List.length_map]; omega) | decide +kernel) only [↓miA, miB, miC, ex_nil, ex_app, ex_app2, ex_app3, ex_app4, ex_app5, ex_app6, in62r, inWr, inWl, lim, List.length_set, List.length_cons, List.length_nil, List.getElem?_cons_zero, List.getElem?_cons_succ, List.set_cons_zero, List.set_cons_succ, Int.reduceToNat, eq_self, List.zip_nil_left, List.zip_nil_right, List.zip_cons_cons, decide_true, decide_eq_true, decide_eq_false, Bool.not_true, Bool.not_false, Bool.and_true, Bool.and_false, Bool.true_and, Bool.false_and, Bool.or_true, Bool.or_false, Bool.true_or, Bool.false_or, Bool.not_not, List.isEmpty_nil, List.isEmpty_cons, true_and, and_true]
    obtain ⟨U, hU⟩ : ∃ U, U = (T ++ l).set b (bg u0 u1 u2 x) := ⟨_, rfl⟩
    have hUl : (T ++ l).length = U.length := by rw [hU, List.length_set]
    have hU0 : U[0]? = some (.frz (ns.map D.int)) := by
      rw [hU, List.getElem?_set_ne (by omega), get_app (by omega), hT0]
    have hUp : 0 < U.length := (List.getElem?_eq_some_iff.mp hU0).1
    rw [← hU, hUl]
    obtain ⟨V, hV⟩ : ∃ V, V = U ++ [Cell.lst [.int 0]] ++ [Cell.lst [.tup [.int 16], .ref U.length, .non, .tup [.bl true], .tup [.str "x"]]] := ⟨_, rfl⟩
    have hVr : V[(U ++ [Cell.lst [.int 0]]).length]? = some (.lst [.tup [.int 16], .ref U.length, .non, .tup [.bl true], .tup [.str "x"]]) := by
      rw [hV]
      exact get_new
    have hVq : V[U.length]? = some (.lst [.int 0]) := by
      rw [hV, get_app (by rw [List.length_append]; show U.length < U.length + 1; omega)]
      exact get_new
    have hV0 : V[0]? = some (.frz (ns.map D.int)) := by
      rw [hV, List.append_assoc, get_app hUp]
      exact hU0
    have hVp : 0 < V.length := (List.getElem?_eq_some_iff.mp hV0).1
    obtain ⟨r, hr⟩ : ∃ r, r = (U ++ [Cell.lst [.int 0]]).length := ⟨_, rfl⟩
    rw [← hr] at hVr
    rw [← hV, ← hr]
    clear hV hr
    unfold cFor
    refine for_cell (ds := [.tup [.int 16], .ref U.length, .non, .tup [.bl true], .tup [.str "x"]]) (fun t env S' => (∃ e6, env = [some (.ref 0), some (.int j), some (.ref b), some (.int n), some (enc f), e5, e6, a7, e8, e9, a10]) ∧ S' = V) ?_ ?_ ?_ 1000000 0 _ _ (Nat.zero_le _) (by show 5 < 1000000 + 0; omega) ⟨⟨_, rfl⟩, rfl⟩
    · rintro t env S' ⟨_, rfl⟩
      exact .inl hVr
    · rintro t d env S' ed ⟨⟨e6, rfl⟩, rfl⟩
      obtain ⟨o1, o2⟩ := odd_w hn hUp hVq (List.mem_of_getElem? ed)
      simp (disch := first | assumption | rfl | omega | (simp only [List.length_set, List.length_append, List.length_cons, List.length_nil, List.length_map]; omega) | decide +kernel) only [↓miA, miB, miC, ex_nil, ex_app, ex_app2, ex_app3, ex_app4, ex_app5, ex_app6, in62r, inWr, inWl, lim, List.length_set, List.length_cons, List.length_nil, List.getElem?_cons_zero, List.getElem?_cons_succ, List.set_cons_zero, List.set_cons_succ, Int.reduceToNat, eq_self, List.zip_nil_left, List.zip_nil_right, List.zip_cons_cons, decide_true, decide_eq_true, decide_eq_false, Bool.not_true, Bool.not_false, Bool.and_true, Bool.and_false, Bool.true_and, Bool.false_and, Bool.or_true, Bool.or_false, Bool.true_or, Bool.false_or, Bool.not_not, List.isEmpty_nil, List.isEmpty_cons, true_and, and_true, told_odd (k := k) hn tf (by omega) hat o1 o2 (by omega)]
      exact ⟨_, rfl⟩
    · rintro env S' ⟨⟨e6, rfl⟩, rfl⟩
      have hl21 : (rngD 0 N).length = 21 := by rw [rngD_len]; omega
      have i62 : in62 N = true := by rw [hN]; rfl
      simp (disch := first | assumption | rfl | omega | (simp only [List.length_set, List.length_append, List.length_cons, List.length_nil, List.length_map]; omega) | decide +kernel) only [↓miA, miB, miC, ex_nil, ex_app, ex_app2, ex_app3, ex_app4, ex_app5, ex_app6, in62r, inWr, inWl, lim, List.length_set, List.length_cons, List.length_nil, List.getElem?_cons_zero, List.getElem?_cons_succ, List.set_cons_zero, List.set_cons_succ, Int.reduceToNat, eq_self, List.zip_nil_left, List.zip_nil_right, List.zip_cons_cons, decide_true, decide_eq_true, decide_eq_false, Bool.not_true, Bool.not_false, Bool.and_true, Bool.and_false, Bool.true_and, Bool.false_and, Bool.or_true, Bool.or_false, Bool.true_or, Bool.false_or, Bool.not_not, List.isEmpty_nil, List.isEmpty_cons, true_and, and_true, i62]
      unfold cFor
      refine for_items (ds := rngD 0 N) (fun t env S2 => (∃ e5 g, g = deepF t f ∧ env = [some (.ref 0), some (.int j), some (.ref b), some (.int n), some (enc f), e5, e6, some (enc g), e8, e9, a10]) ∧ S2 = S') ?_ ?_ 1000000 0 _ _ (Nat.zero_le _) (by omega) ⟨⟨_, f, rfl, rfl⟩, rfl⟩
      · rintro t d env S2 ed ⟨⟨e5, g, hg, rfl⟩, rfl⟩
        simp (disch := first | assumption | rfl | omega | (simp only [List.length_set, List.length_append, List.length_cons, List.length_nil, List.length_map]; omega) | decide +kernel) only [↓miA, miB, miC, ex_nil, ex_app, ex_app2, ex_app3, ex_app4, ex_app5, ex_app6, in62r, inWr, inWl, lim, List.length_set, List.length_cons, List.length_nil, List.getElem?_cons_zero, List.getElem?_cons_succ, List.set_cons_zero, List.set_cons_succ, Int.reduceToNat, eq_self, List.zip_nil_left, List.zip_nil_right, List.zip_cons_cons, decide_true, decide_eq_true, decide_eq_false, Bool.not_true, Bool.not_false, Bool.and_true, Bool.and_false, Bool.true_and, Bool.false_and, Bool.or_true, Bool.or_false, Bool.true_or, Bool.false_or, Bool.not_not, List.isEmpty_nil, List.isEmpty_cons, true_and, and_true]
        exact ⟨_, .on g, by rw [hg]; rfl, rfl⟩
      · rintro env S2 ⟨⟨e5, g, hg, rfl⟩, rfl⟩
        rw [hl21] at hg
        simp (disch := first | assumption | rfl | omega | (simp only [List.length_set, List.length_append, List.length_cons, List.length_nil, List.length_map]; omega) | decide +kernel) only [↓miA, miB, miC, ex_nil, ex_app, ex_app2, ex_app3, ex_app4, ex_app5, ex_app6, in62r, inWr, inWl, lim, List.length_set, List.length_cons, List.length_nil, List.getElem?_cons_zero, List.getElem?_cons_succ, List.set_cons_zero, List.set_cons_succ, Int.reduceToNat, eq_self, List.zip_nil_left, List.zip_nil_right, List.zip_cons_cons, decide_true, decide_eq_true, decide_eq_false, Bool.not_true, Bool.not_false, Bool.and_true, Bool.and_false, Bool.true_and, Bool.false_and, Bool.or_true, Bool.or_false, Bool.true_or, Bool.false_or, Bool.not_not, List.isEmpty_nil, List.isEmpty_cons, true_and, and_true]
        unfold cFor
        refine for_cell (ds := [.tup [.str "now", .int n], .tup [.str "track", .int 0, .int 0], .non, enc g, .tup [.str "since", enc f], .tup [.str "now", .bl true]]) (fun t env S'' => (∃ e6, env = [some (.ref 0), some (.int j), some (.ref b), some (.int n), some (enc f), e5, e6, some (enc g), e8, e9, a10]) ∧ S'' = S2 ++ [Cell.lst [.tup [.str "now", .int n], .tup [.str "track", .int 0, .int 0], .non, enc g, .tup [.str "since", enc f], .tup [.str "now", .bl true]]]) ?_ ?_ ?_ 1000000 0 _ _ (Nat.zero_le _) (by show 6 < 1000000 + 0; omega) ⟨⟨_, rfl⟩, rfl⟩
        · rintro t env S'' ⟨_, rfl⟩
          exact .inl get_new
        · rintro t d env S'' ed ⟨⟨e6, rfl⟩, rfl⟩
          simp (disch := first | assumption | rfl | omega | (simp only [List.length_set, List.length_append, List.length_cons, List.length_nil, List.length_map]; omega) | decide +kernel) only [↓miA, miB, miC, ex_nil, ex_app, ex_app2, ex_app3, ex_app4, ex_app5, ex_app6, in62r, inWr, inWl, lim, List.length_set, List.length_cons, List.length_nil, List.getElem?_cons_zero, List.getElem?_cons_succ, List.set_cons_zero, List.set_cons_succ, Int.reduceToNat, eq_self, List.zip_nil_left, List.zip_nil_right, List.zip_cons_cons, decide_true, decide_eq_true, decide_eq_false, Bool.not_true, Bool.not_false, Bool.and_true, Bool.and_false, Bool.true_and, Bool.false_and, Bool.or_true, Bool.or_false, Bool.true_or, Bool.false_or, Bool.not_not, List.isEmpty_nil, List.isEmpty_cons, true_and, and_true, told_bad (k := k) (odd_p (n := n) (f := f) (g := g) (by omega) hg (List.mem_of_getElem? ed)) (by omega)]
          exact ⟨_, rfl⟩
        · rintro env S'' ⟨⟨e6, rfl⟩, rfl⟩
          simp (disch := first | assumption | rfl | omega | (simp only [List.length_set, List.length_append, List.length_cons, List.length_nil, List.length_map]; omega) | decide +kernel) only [↓miA, miB, miC, ex_nil, ex_app, ex_app2, ex_app3, ex_app4, ex_app5, ex_app6, in62r, inWr, inWl, lim, List.length_set, List.length_cons, List.length_nil, List.getElem?_cons_zero, List.getElem?_cons_succ, List.set_cons_zero, List.set_cons_succ, Int.reduceToNat, eq_self, List.zip_nil_left, List.zip_nil_right, List.zip_cons_cons, decide_true, decide_eq_true, decide_eq_false, Bool.not_true, Bool.not_false, Bool.and_true, Bool.and_false, Bool.true_and, Bool.false_and, Bool.or_true, Bool.or_false, Bool.true_or, Bool.false_or, Bool.not_not, List.isEmpty_nil, List.isEmpty_cons, true_and, and_true]
          exact ⟨_, rfl, rfl, hV0⟩
theorem law_true (ns : List Int) (hl : ns.length ≤ 63) : ∃ S', callN prg 40 19 [.ref 0] [.frz (ns.map D.int)] = .ok (.bl true) S' := by
  have h : W (callN prg 40 19 [.ref 0] [.frz (ns.map D.int)]) (fun d _ => d = .bl true) NoEx := by
    rw [call_law]
    refine W_gc (W_mono (Φ := fun d _ => d = .bl true) (Ψ := NoEx) ?_ (fun d S h => ⟨h, fun _ _ => h, fun n c e _ _ _ _ => by rw [h] at e; cases e⟩) fun _ _ h => h)
    unfold b_law
    have e0 : ([.frz (ns.map D.int)] : Store)[0]? = some (.frz (ns.map D.int)) := rfl
    obtain ⟨m, hm, m1, m2⟩ : ∃ m : Int, m = (if (if ((ns.map D.int).length : Int) < 8 then ((ns.map D.int).length : Int) else 8) > 1 then (if ((ns.map D.int).length : Int) < 8 then ((ns.map D.int).length : Int) else 8) else 1) ∧ 1 ≤ m ∧ m ≤ 20 := ⟨_, rfl, by split <;> split <;> omega, by split <;> split <;> omega⟩
    simp (disch := first | assumption | rfl | omega | (simp only [List.length_set, List.length_append, List.length_cons, List.length_nil, List.length_map]; omega) | decide +kernel) only [↓miA, miB, miC, ex_nil, ex_app, ex_app2, ex_app3, ex_app4, ex_app5, ex_app6, in62r, inWr, inWl, lim, List.length_set, List.length_cons, List.length_nil, List.getElem?_cons_zero, List.getElem?_cons_succ, List.set_cons_zero, List.set_cons_succ, Int.reduceToNat, eq_self, List.zip_nil_left, List.zip_nil_right, List.zip_cons_cons, decide_true, decide_eq_true, decide_eq_false, Bool.not_true, Bool.not_false, Bool.and_true, Bool.and_false, Bool.true_and, Bool.false_and, Bool.or_true, Bool.or_false, Bool.true_or, Bool.false_or, Bool.not_not, List.isEmpty_nil, List.isEmpty_cons, true_and, and_true, e0, ← hm]
    unfold cFor
    have hrl : (rngD 0 m).length = m.toNat := by rw [rngD_len]; omega
    refine for_items (fun j env S => ∃ es, es.length = 10 ∧ env = some (.ref 0) :: es ∧ S[0]? = some (.frz (ns.map D.int))) ?_ ?_ 1000000 0 _ _ (Nat.zero_le _) (by omega) ⟨_, rfl, rfl, rfl⟩
    · rintro j d env S ed ⟨es, he, rfl, h0⟩
      obtain ⟨rfl, hj⟩ := rngD_at ed
      rw [Int.zero_add, Wg_v]
      show WS (xss ⟨callN prg 39, 1000000⟩ (lawBody 21) (some (.ref 0) :: es.set 0 (some (.int j))) S) _ _
      refine WS_mono (body_ok rfl (k := 39) (j := j) (by omega) h0 he (by omega)) (fun f env S h => ?_) fun _ _ h => h
      cases f with
      | rt => exact h.elim
      | bk => exact h.elim
      | _ => exact h
    · rintro env S ⟨es, he, rfl, h0⟩
      simp (disch := first | assumption | rfl | omega | (simp only [List.length_set, List.length_append, List.length_cons, List.length_nil, List.length_map]; omega) | decide +kernel) only [↓miA, miB, miC, ex_nil, ex_app, ex_app2, ex_app3, ex_app4, ex_app5, ex_app6, in62r, inWr, inWl, lim, List.length_set, List.length_cons, List.length_nil, List.getElem?_cons_zero, List.getElem?_cons_succ, List.set_cons_zero, List.set_cons_succ, Int.reduceToNat, eq_self, List.zip_nil_left, List.zip_nil_right, List.zip_cons_cons, decide_true, decide_eq_true, decide_eq_false, Bool.not_true, Bool.not_false, Bool.and_true, Bool.and_false, Bool.true_and, Bool.false_and, Bool.or_true, Bool.or_false, Bool.true_or, Bool.false_or, Bool.not_not, List.isEmpty_nil, List.isEmpty_cons, true_and, and_true]
  cases e : callN prg 40 19 [.ref 0] [.frz (ns.map D.int)] with
  | ok d S => rw [e] at h; cases h; exact ⟨_, rfl⟩
  | er e S => rw [e] at h; exact h.elim
  | no => rw [e] at h; exact h.elim
end K12

open PySem PySem.W PyProof.Rows
set_option maxHeartbeats 0 in
theorem PySem.Challenge.cw_wordplays_k12_past_formulas_holds : PySem.Challenge.rw_wordplays_k12_past_formulas.Holds := by
  w_on; o_law; k_head; (case hw => w_witness2)
  k_fill
  refine Mi.walk_g (l := PySem.Challenge.rw_wordplays_k12_past_formulas) (n := 63) (k := 82) (x := "script") (sp := fun w => Mi.spLaw _) rfl (by decide) rfl ⟨rfl, by decide, by decide⟩ (fun w h Y => PySem.W.kIn_of Y) ?F fun _ _ a ns hl hO hS => ⟨a, ns, rfl, Mi.frz_of hO hS, hl, fun _ => rfl⟩
  case F =>
    intro w mg fa h KX G hmg
    exact Mi.finish (p := K12.prg) (i := 19) KX G hmg (by kernel_rfl) (by kernel_rfl) (by kernel_rfl) K12.hX K12.hD rfl rfl rfl rfl K12.law_true
