import PyProof.Rows.All
import PySem.Challenge.RW_wordplays_k30_automata_that_read
import HandS.ForMost
import HandS.ForExc
import HandS.Small
import HandS.TryMany
import HandS.ExcInit
import HandS.ExcField
import HandS.ExcOwn
import HandS.TupMul
import HandS.Flow
import HandS.TupAny
import HandS.Deep
import HandS.IsInst
import HandS.Style
import HandS.TryOnly
import PyProof.Rows.InDataRows
import HandS.HeadHook1
set_option Elab.async false
set_option linter.all false
set_option maxRecDepth 100000
set_option maxHeartbeats 8000000
/-! Mi, part Z: errors, at the hand layer: X() without arguments; except clauses with and without names. -/
namespace Mi
open PySem PySem.Spec PyProof.Rows L2
section
variable {X : Cx}
/-- X(), X an own exception class without own __init__ -/
theorem pmk_own0 {C : Addr} {bmB : List Value} {B newId initId : String} {x : Str} {p pos : Pos} (F : ExcBaseFacts B newId initId bmB) (q : PySem.W.excIn X.K C bmB newId = true) (gC : X.mg x = some (.ref C))
    (kC : PySem.W.keepIn X.K (.ref C) = true) (r : Raises X (.ref C)) (hg : Gl X x) (hdb : (x == ("__debug__" : Str)) = false) :
    PMk X (.Call (.Name x p) [] [] pos) (fun _ H Q => Q (.ref C) none H) := by
  intro pins s σ H Q I h
  refine wpAny_Call_Name_kw (ld_glob I hg gC ?_ hdb)
  refine PySem.W.callWith_K0 I.kIn kC ?_
  show wpAny _ _ (call (.ref C) []) _ _ _
  obtain ⟨bm, N, nm, qn, bs, hdct, sn, sub, ab, col, dd, k0, k1, k2, k3, k5, mN, hC, hN, hni, T⟩ := exc_obj I.kIn q
  refine wpAny_call_exc_subT F T hC hN hni (fun h' e hm => ?_) (Nat.zero_le _)
  exact mk_of I hm r h (I.hok.gone hm.new)
/-- what the clauses wish of an exception of the body, one after the other; a clause may name it (slot i) -/
def wMix (K : PySem.W.Frag) (Wout : WX) (D : Ends) : List (Value × Option Nat × (Addr → Value → Option Addr → TS)) → WX
  | [] => Wout
  | (c, none, ts) :: r => fun cls d σ H => ∃ b, PySem.W.exmOne K cls c = some b ∧ (b = true → ∀ a, H a = none → ts a cls d D σ H) ∧ (b = false → wMix K Wout D r cls d σ H)
  | (c, some i, ts) :: r => fun cls d σ H => ∃ b, PySem.W.exmOne K cls c = some b ∧ (b = true → ∀ a, H a = none → ts a cls d { nx := fun σ' H' => D.nx (σ'.set i none) H', rt := D.rt, bk := fun σ' H' => D.bk (σ'.set i none) H', ct := fun σ' H' => D.ct (σ'.set i none) H' } (σ.set i (some (.ref a))) H) ∧ (b = false → wMix K Wout D r cls d σ H)
inductive HdsM (X : Cx) : List ExceptHandler → List (Value × Option Nat × (Addr → Value → Option Addr → TS)) → Prop
  | nil : HdsM X [] []
  | one {x : Str} {c : Value} {ts : Addr → Value → Option Addr → TS} {b₀ : Stmt} {suite : List Stmt} {np pos' : Pos} {hds : List ExceptHandler} {l : List (Value × Option Nat × (Addr → Value → Option Addr → TS))} (hc : Names X x c)
      (hsu : ∀ (a : Addr) (oe : Obj) (cls : Value) (d : Option Addr) (pn : List (Addr × Obj)), Zc cls d oe → (∃ vs, oe.data = .fields vs) → PSs (X.suite a ((a, oe) :: pn)) (b₀ :: suite) (ts a cls d)) (r : HdsM X hds l) :
      HdsM X (.ExceptHandler (some (.Name x np)) none (b₀ :: suite) pos' :: hds) ((c, none, ts) :: l)
  | nam {x n : Str} {i : Nat} {c : Value} {ts : Addr → Value → Option Addr → TS} {b₀ : Stmt} {suite : List Stmt} {np pos' : Pos} {hds : List ExceptHandler} {l : List (Value × Option Nat × (Addr → Value → Option Addr → TS))} (hc : Names X x c) (hi : X.N[i]? = some n) (hln : X.env.kindOf n = some .local)
      (hsu : ∀ (a : Addr) (oe : Obj) (cls : Value) (d : Option Addr) (pn : List (Addr × Obj)), Zc cls d oe → (∃ vs, oe.data = .fields vs) → PSs (X.suite a ((a, oe) :: pn)) (b₀ :: suite) (ts a cls d)) (r : HdsM X hds l) :
      HdsM X (.ExceptHandler (some (.Name x np)) (some n) (b₀ :: suite) pos' :: hds) ((c, some i, ts) :: l)
end
section
variable {X : Cx} {body : List Stmt} {h₀ : ExceptHandler} {hds : List ExceptHandler} {l : List (Value × Option Nat × (Addr → Value → Option Addr → TS))} {pos : Pos} {tb : WX → TS} {Wout : WX}
theorem ps_try_mix (hs : X.stack = X.env :: X.outer) (hf : X.env.frame = some X.env.locals) (hN : X.N.Nodup) (tk : Takes X Wout)
    (hb : ∀ (W : WX) (pn : List (Addr × Obj)) (xe : Value → Shared → Prop), Takes (X.tr pn xe) W → PassesOwn (model X.prog X.w) X.A X.env xe → PSs (X.tr pn xe) body (tb W))
    (hh : HdsM X (h₀ :: hds) l) : PS X (.Try body (h₀ :: hds) [] [] pos) (fun D σ H => tb (wMix X.K Wout D l) D σ H) := by
  refine ⟨fun pins s σ H D I h => ?_⟩
  have ok := I.ok
  have hfr : X.A.frames = some (X.env :: X.outer) := by rw [ok.frames, hs]
  refine wpAny_Try_except ?_
  refine wpAny_mono ((hb (wMix X.K Wout D l) (X.pn ++ pins) (fun e s₁ => wpAny (model X.prog X.w) X.A (noteFrame e X.env) (fun _ s₂ => wpAny (model X.prog X.w) X.A (setFlight e none) (fun _ s₃ =>
    wpAny (model X.prog X.w) X.A (handleBy e X.env (h₀ :: hds)) (SP X pins D) X.xe s₃) X.xe s₂) X.xe s₁) (fun u s' xx => ?_) PassesOwn.looking).run [] s σ H D (I.toTry _) h) (fun f s1 hsp => ?_) (fun e s1 he => he)
  · -- the catch
    obtain ⟨a, B, sI, pins', σ', H', cls, d, rfl, J', nb, up, sky, na, os, ag, w⟩ := xx
    have J : Inv X pins σ' H' sI := J'.ofTry ok
    have sky' : Sky B (X.env :: X.outer) a (Zc cls d) X.env.locals s'.heap := by rw [← hs]; exact sky
    show wpAny (model X.prog X.w) X.A (noteFrame (.ref a) X.env) _ _ _
    refine Sky.land Zc.steady hfr hf sky' fun h3 fl3 up3 => ?_
    have J3 : Inv X pins σ' H' { s' with heap := h3 } := J.landed nb fl3.1 (up.trans up3) os ag
    obtain ⟨oe3, vs3, he3, hz3, hd3⟩ := fl3.there
    have notFr : ∀ {h : Heap} {o : Obj} {vs : Array Value}, h.FunFrames B (X.env :: X.outer) → h.get? a = some o → o.data = .fields vs → a ∉ frs (X.env :: X.outer) := fun {h o vs} ff e dd hm => by
      obtain ⟨_, o', e', hnf⟩ := ff.mem hm
      rw [e] at e'; cases e'
      exact hnf _ dd
    have nfr := notFr fl3.2.2.1 he3 hd3
    have nL : a ≠ X.env.locals := fun z => nfr (List.mem_filterMap.mpr ⟨X.env, List.mem_cons_self, by rw [hf, z]⟩)
    have nF : a ∉ X.fs := fun hm => by
      obtain ⟨e, he, q⟩ := List.mem_filterMap.mp hm
      exact nfr (List.mem_filterMap.mpr ⟨e, List.mem_cons_of_mem _ he, q⟩)
    have S3 := J3.suite he3 hd3 na nL nF
    have go : ∀ {hds' : List ExceptHandler} {l' : List (Value × Option Nat × (Addr → Value → Option Addr → TS))}, HdsM X hds' l' → wMix X.K Wout D l' cls d σ' H' →
        wpAny (model X.prog X.w) X.A (handleBy (.ref a) X.env hds') (SP X pins D) X.xe { s' with heap := h3 } := by
      intro hds' l' hk
      induction hk with
      | nil =>
        intro w
        refine wpAny_handleBy_nil ?_
        obtain ⟨k1, k2, k3, oe, vs, T, oT, ts', he, hz, hd, h1, hr⟩ := id fl3
        unfold PySem.passOn
        refine wpAny_bind (wpAny_field he hd h1 ?_)
        rw [if_neg (show ¬ ((Value.ref T == Value.none) = true) from by simp)]
        have fin : wpAny (model X.prog X.w) X.A (setFlight (.ref a) X.env.frame) (fun _ s4 => wpAny (model X.prog X.w) X.A (throw (.ref a) : Sem Flow) (SP X pins D) X.xe s4) X.xe { s' with heap := h3 } := by
          rw [hf]
          refine HandSPX.setFlight_upZ fl3 fun h4 hh4 up4 => wpAny_throw (tk _ _ ?_)
          exact ⟨a, B, sI, pins, σ', H', cls, d, rfl, J, nb, (up.trans up3).trans up4, .inr (.inr (by rw [hs]; exact hh4)), na, os, ag, w⟩
        first
          | exact wpAny_bind (wpAny_pure (wpAny_bind fin))
          | exact wpAny_bind fin
      | @one x c ts b₀ suite np pos' hds2 l2 hc hsu r ih =>
        intro w
        obtain ⟨b, hb1, hyes, hno⟩ := w
        refine wpAny_handleBy_cons (codeAny_handlers_test ?_) (by intro q; cases q)
        have LT : PySem.W.Looks (model X.prog X.w) h3 (typeOf (.ref a)) cls := fun A Q E s k q => wpAny_typeOf_ref (k _ _ he3) (by rw [hz3.1]; exact q)
        have LM := PySem.W.exm_one (M := model X.prog X.w) (J3.kIn) LT hb1
        have test : ∀ {Q : Value → Shared → Prop} {E : Value → Shared → Prop}, Q c { s' with heap := h3 } → wpAny (model X.prog X.w) (X.A.mark (some (.ref a))) (eval (.Name x np) X.env) Q E { s' with heap := h3 } := fun {Q E} q => by
          obtain ⟨hg, hdbg, hm | ⟨hm, hv, hnn⟩⟩ := hc
          · exact ld_glob (X := X.suite a ((a, oe3) :: (X.pn ++ pins))) S3 hg hm q hdbg
          · exact ld_blt (X := X.suite a ((a, oe3) :: (X.pn ++ pins))) S3 hg hm hv q hnn hdbg
        refine test (LM.here ?_)
        cases b with
        | true =>
          refine codeAny_handlers_suite ?_
          refine HandSPX.lands_againZ fl3 fun h4 fl4 up4 => ?_
          have J4 : Inv X pins σ' H' { s' with heap := h4 } := J.landed nb fl4.1 ((up.trans up3).trans up4) os ag
          obtain ⟨oe4, vs4, he4, hz4, hd4⟩ := fl4.there
          have S4 := J4.suite he4 hd4 na nL nF
          refine wpAny_mono ((hsu a oe4 cls d (X.pn ++ pins) hz4 ⟨_, hd4⟩).run [] _ _ H' _ S4 (hyes rfl a na)) (fun f s6 hsp => ?_) (fun _ _ z => False.elim z)
          cases f with
          | next =>
            obtain ⟨σ6, H6, S6, q6⟩ := hsp
            exact ⟨_, _, S6.unsuite ok, q6⟩
          | brk =>
            obtain ⟨σ6, H6, S6, q6⟩ := hsp
            exact ⟨_, _, S6.unsuite ok, q6⟩
          | cont =>
            obtain ⟨σ6, H6, S6, q6⟩ := hsp
            exact ⟨_, _, S6.unsuite ok, q6⟩
          | ret u =>
            obtain ⟨v6, σ6, H6, S6, r6, q6⟩ := hsp
            exact ⟨_, _, _, S6.unsuite ok, r6, q6⟩
        | false =>
          show wpAny _ X.A (handleBy (.ref a) X.env hds2) _ _ _
          exact ih (hno rfl)
      | @nam x n i c ts b₀ suite np pos' hds2 l2 hc hi hln hsu r ih =>
        intro w
        obtain ⟨b, hb1, hyes, hno⟩ := w
        have hloc : Loc X.env.scope n := .inl hln
        refine wpAny_handleBy_cons (codeAny_handlers_test ?_) (by intro q; cases q)
        have LT : PySem.W.Looks (model X.prog X.w) h3 (typeOf (.ref a)) cls := fun A Q E s k q => wpAny_typeOf_ref (k _ _ he3) (by rw [hz3.1]; exact q)
        have LM := PySem.W.exm_one (M := model X.prog X.w) (J3.kIn) LT hb1
        have test : ∀ {Q : Value → Shared → Prop} {E : Value → Shared → Prop}, Q c { s' with heap := h3 } → wpAny (model X.prog X.w) (X.A.mark (some (.ref a))) (eval (.Name x np) X.env) Q E { s' with heap := h3 } := fun {Q E} q => by
          obtain ⟨hg, hdbg, hm | ⟨hm, hv, hnn⟩⟩ := hc
          · exact ld_glob (X := X.suite a ((a, oe3) :: (X.pn ++ pins))) S3 hg hm q hdbg
          · exact ld_blt (X := X.suite a ((a, oe3) :: (X.pn ++ pins))) S3 hg hm hv q hnn hdbg
        refine test (LM.here ?_)
        cases b with
        | true =>
          refine codeAny_handlers_suite_as ?_
          refine HandSPX.lands_againZ fl3 fun h4 fl4 up4 => ?_
          have J4 : Inv X pins σ' H' { s' with heap := h4 } := J.landed nb fl4.1 ((up.trans up3).trans up4) os ag
          obtain ⟨oe4, vs4, he4, hz4, hd4⟩ := fl4.there
          have S4 := J4.suite he4 hd4 na nL nF
          refine store_ok (X := X.suite a ((a, oe4) :: (X.pn ++ pins))) (v := .ref a) S4 hN hi hloc rfl (fun s5 S5 => ?_) (.inr hln)
          refine wpAny_mono ((hsu a oe4 cls d (X.pn ++ pins) hz4 ⟨_, hd4⟩).run [] s5 _ H' _ S5 (hyes rfl a na)) (fun f s6 hsp => ?_) (fun _ _ z => False.elim z)
          have end_ : ∀ {σ6 : L2.St} {H6 : Hp} {Q : Shared → Prop}, Inv (X.suite a ((a, oe4) :: (X.pn ++ pins))) [] σ6 H6 s6 → (∀ s7, Inv X pins (σ6.set i none) H6 s7 → Q s7) →
              wpAny (model X.prog X.w) X.A (do bindName X.env n .none; unbindBehindTheSuite X.env n pos') (fun _ s7 => Q s7) X.xe s6 := fun {σ6 H6 Q} S6 hq => gone_ok (S6.unsuite ok) hN hi hln hq
          cases f with
          | next =>
            obtain ⟨σ6, H6, S6, q6⟩ := hsp
            exact end_ S6 fun s7 J7 => ⟨_, _, J7, q6⟩
          | brk =>
            obtain ⟨σ6, H6, S6, q6⟩ := hsp
            exact end_ S6 fun s7 J7 => ⟨_, _, J7, q6⟩
          | cont =>
            obtain ⟨σ6, H6, S6, q6⟩ := hsp
            exact end_ S6 fun s7 J7 => ⟨_, _, J7, q6⟩
          | ret u =>
            obtain ⟨v6, σ6, H6, S6, r6, q6⟩ := hsp
            exact end_ S6 fun s7 J7 => ⟨_, _, _, J7, r6, q6⟩
        | false =>
          show wpAny _ X.A (handleBy (.ref a) X.env hds2) _ _ _
          exact ih (hno rfl)
    exact go hh w
  · cases f with
    | next =>
      obtain ⟨σ', H', J', q⟩ := hsp
      exact wpAny_execs_nil ⟨σ', H', J'.ofTry ok, q⟩
    | brk =>
      obtain ⟨σ', H', J', q⟩ := hsp
      exact ⟨σ', H', J'.ofTry ok, q⟩
    | cont =>
      obtain ⟨σ', H', J', q⟩ := hsp
      exact ⟨σ', H', J'.ofTry ok, q⟩
    | ret u =>
      obtain ⟨v, σ', H', J', r, q⟩ := hsp
      exact ⟨v, σ', H', J'.ofTry ok, r, q⟩
end
end Mi

/-! ### own errors with their own __init__ -/
namespace Mi
open PySem PySem.Spec PyProof.Rows L2
def oexB (K : PySem.W.Frag) (C : Addr) : Bool := (match K.lookup C with
  | some ⟨.type "type", _, .cls cd, sl⟩ => (match cd.mro, sl.toList with
    | .ref C' :: bm, [_, _, _, _, some (.builtin n), _] => C' == C && n == "ValueError.__new__" && !cd.hasDel && cd.hasDict && PySem.HandSPX.refsVE bm
    | _, _ => false)
  | _ => false) && (decide (PySem.W.findIn K (.ref C) "__setattr__" = some (some (.builtin "object.__setattr__"))) && (decide (PySem.W.subIn K (.ref C) (.type "BaseException") = some true) && (decide (PySem.W.typeIn K (.ref C) = some (.type "type")) && PySem.W.keepIn K (.ref C))))
theorem oexB_ok {K : PySem.W.Frag} {C : Addr} (h : oexB K C = true) : OexC K C := by
  unfold oexB at h
  rw [Bool.and_eq_true, Bool.and_eq_true, Bool.and_eq_true, Bool.and_eq_true] at h
  obtain ⟨q, h1, h2, h3, h4⟩ := h
  refine ⟨?_, of_decide_eq_true h1, of_decide_eq_true h2, of_decide_eq_true h3, h4⟩
  split at q
  · rename_i dd cd sl ho
    split at q
    · rename_i C' bm k0 k1 k2 k3 n k5 hm hs
      simp only [Bool.and_eq_true, beq_iff_eq, Bool.not_eq_true'] at q
      obtain ⟨⟨⟨⟨rfl, rfl⟩, hdel⟩, hdict⟩, ht⟩ := q
      obtain ⟨nm, bs, mro, ns, qn, hd, sn, sub, ab, col, del⟩ := cd
      dsimp only at hm hdel hdict
      subst hm hdel hdict
      have hsl : sl = #[k0, k1, k2, k3, some (.builtin "ValueError.__new__"), k5] := by
        obtain ⟨l⟩ := sl
        simp only at hs
        rw [hs]
      subst hsl
      exact ⟨nm, qn, ns, bs, bm, sn, sub, ab, col, dd, k0, k1, k2, k3, k5, ho, ht⟩
    · cases q
  · cases q
/-- the fields as they lie: the last one first -/
def gsOf : List Str → List V → List (Str × V)
  | [f], [v] => [(f, v)]
  | [f, g], [v, u] => [(g, u), (f, v)]
  | _, _ => []
section
variable {P : Program} {w : World} {K : PySem.W.Frag} {mg : Str → Option Value} {base : Heap} {C : Addr}
/-- what __init__ promises -/
def spIni (C : Addr) (fs : List Str) : Sp := fun vs H Q _ => ∃ (a : Addr) (xs : List V), vs = .ref a :: xs ∧ xs.length = fs.length ∧ H a = some (exo a C none) ∧ ∀ dx, H dx = none → dx ≠ a → Q .non (upd (upd H dx (exd dx (gsOf fs xs))) a (exo a C (some dx)))
theorem ini1 {qual f : Str} {st : Stmt} {fI : Addr} {fd : FuncData} {p1 p2 p3 p4 : Pos} (F : Fun K "__init__" qual st fI fd) (hS : FnScope ["self", f] ["self", f] (defScope st)) (hb : defBody st = [.Assign [.Attribute (.Name "self" p1) f p2] (.Name f p3) p4])
    (T : OexC K C) (hno : PySem.W.findIn K (.ref C) f = some none) (hs : (defScope st).names.lookup ("self" : Str) = some NameKind.local) (hl : (defScope st).names.lookup f = some NameKind.local) (h1 : (f == ("__debug__" : Str)) = false) (h2 : (f == ("__classdict__" : Str)) = false) (k : Nat) :
    FnOk P w K mg base (L2.CX P w) (k + 1) fI fd ["self", f] (spIni C [f]) := by
  refine F.okX hS (fun vs H Q E h => ?_) (fun cdv A outer s H vs Q E hr h => ?_)
  · obtain ⟨a, xs, rfl, hx, _⟩ := h
    show xs.length + 1 = 2
    rw [hx]
    rfl
  · obtain ⟨a, xs, rfl, hx, ha, q⟩ := h
    match xs, hx, q with
    | [x], _, q =>
    rw [hb]
    refine ⟨_, pss_one (ps_ost (pv 0 (x := ("self" : Str)) rfl (.inl hs)) (pv 1 (x := f) rfl (.inl hl) h1 h2)), ?_⟩
    exact ⟨x, rfl, .ref a, rfl, a, C, rfl, T, hno, .inl ⟨ha, fun dx n ne => q dx n ne⟩⟩
theorem ini2 {qual f g : Str} {st : Stmt} {fI : Addr} {fd : FuncData} {p1 p2 p3 p4 q1 q2 q3 q4 : Pos} (F : Fun K "__init__" qual st fI fd) (hS : FnScope ["self", f, g] ["self", f, g] (defScope st))
    (hb : defBody st = [.Assign [.Attribute (.Name "self" p1) f p2] (.Name f p3) p4, .Assign [.Attribute (.Name "self" q1) g q2] (.Name g q3) q4])
    (T : OexC K C) (hno : PySem.W.findIn K (.ref C) f = some none) (hno' : PySem.W.findIn K (.ref C) g = some none) (hs : (defScope st).names.lookup ("self" : Str) = some NameKind.local) (hl : (defScope st).names.lookup f = some NameKind.local) (hl' : (defScope st).names.lookup g = some NameKind.local)
    (h1 : (f == ("__debug__" : Str)) = false) (h2 : (f == ("__classdict__" : Str)) = false) (h3 : (g == ("__debug__" : Str)) = false) (h4 : (g == ("__classdict__" : Str)) = false) (k : Nat) :
    FnOk P w K mg base (L2.CX P w) (k + 1) fI fd ["self", f, g] (spIni C [f, g]) := by
  refine F.okX hS (fun vs H Q E h => ?_) (fun cdv A outer s H vs Q E hr h => ?_)
  · obtain ⟨a, xs, rfl, hx, _⟩ := h
    show xs.length + 1 = 3
    rw [hx]
    rfl
  · obtain ⟨a, xs, rfl, hx, ha, q⟩ := h
    match xs, hx, q with
    | [x, y], _, q =>
    rw [hb]
    refine ⟨_, pss_cons (ps_ost (pv 0 (x := ("self" : Str)) rfl (.inl hs)) (pv 1 (x := f) rfl (.inl hl) h1 h2)) (pss_one (ps_ost (pv 0 (x := ("self" : Str)) rfl (.inl hs)) (pv 2 (x := g) rfl (.inl hl') h3 h4))), ?_⟩
    refine ⟨x, rfl, .ref a, rfl, a, C, rfl, T, hno, .inl ⟨ha, fun dx n ne => ?_⟩⟩
    refine ⟨y, rfl, .ref a, rfl, a, C, rfl, T, hno', .inr ⟨dx, [(f, x)], upd_same, ?_, ?_, ?_⟩⟩
    · rw [upd_ne ne, upd_same]
    · show 1 ≤ 900
      omega
    · have e : upd (upd (upd H dx (exd dx [(f, x)])) a (exo a C (some dx))) dx (exd dx [(g, y), (f, x)]) = upd (upd H dx (exd dx [(g, y), (f, x)])) a (exo a C (some dx)) := by
        funext b
        by_cases hba : b = a
        · rw [hba, upd_ne ne.symm, upd_same, upd_same]
        · by_cases hbd : b = dx
          · rw [hbd, upd_same, upd_ne ne, upd_same]
          · rw [upd_ne hbd, upd_ne hba, upd_ne hbd, upd_ne hba, upd_ne hbd]
      show Q .non (upd (upd (upd H dx (exd dx [(f, x)])) a (exo a C (some dx))) dx (exd dx [(g, y), (f, x)]))
      rw [e]
      exact q dx n ne
/-- what X(e, ..) with an own __init__ wishes, in plain words -/
theorem ini_read {fs : List Str} {vs : List V} {H1 : Hp} {Q : XK} (hl : vs.length = fs.length) (hfs : fs.length ≤ 1000) (h : ∀ d, H1 d = none → Q (.ref C) (some d) (upd H1 d (.xd (gsOf fs vs)))) :
    vs.length ≤ 1000 ∧ ∀ a, H1 a = none → spIni C fs (.ref a :: (vs ++ [])) (upd H1 a (exo a C none))
      (fun v H2 => v = .non ∧ ∃ (d : Addr) (gs : List (Str × V)), H2 a = some (exo a C (some d)) ∧ H2 d = some (exd d gs) ∧ H1 d = none ∧ Q (.ref C) (some d) (upd (del H2 a) d (.xd gs))) (fun _ _ _ => False) := by
  refine ⟨by omega, fun a na => ?_⟩
  rw [List.append_nil]
  refine ⟨a, vs, rfl, hl, upd_same, fun dx n ne => ⟨rfl, dx, gsOf fs vs, upd_same, ?_, ?_, ?_⟩⟩
  · rw [upd_ne ne, upd_same]
  · rw [upd_ne ne] at n
    exact n
  · rw [upd_ne ne] at n
    have e : upd (del (upd (upd (upd H1 a (exo a C none)) dx (exd dx (gsOf fs vs))) a (exo a C (some dx))) a) dx (.xd (gsOf fs vs)) = upd H1 dx (.xd (gsOf fs vs)) := by
      funext b
      by_cases hbd : b = dx
      · rw [hbd, upd_same, upd_same]
      · rw [upd_ne hbd, upd_ne hbd]
        by_cases hba : b = a
        · rw [hba, del_same, na]
        · rw [del_ne hba, upd_ne hba, upd_ne hbd, upd_ne hba]
    rw [e]
    exact h dx n
end
end Mi

/-! ### a tuple many times -/
namespace Mi
open PySem PySem.Spec PyProof.Rows L2
def rRep2 (K : PySem.W.Frag) : R2 := fun x y H Q => ∃ l k xs, x = .ref l ∧ y = .int k ∧ SqT K H l xs ∧ xs ≠ [] ∧ 2 ≤ k ∧ k ≤ 1000000 ∧ k.toNat * xs.length ≤ 1000000 ∧ ∀ p, H p = none → Q (.ref p) (upd H p (.tup (List.replicate k.toNat xs).flatten))
theorem op_rep2 {X : Cx} : OpR X (binaryOp .Mult) (rRep2 X.K) := by
  intro pins s σ H x y v u Q I rx ry h
  obtain ⟨l, k, xs, rfl, rfl, hT, hne, h1, h2, hz, q⟩ := h
  cases rx
  obtain ⟨t, rfl⟩ := ry
  obtain ⟨its, r, ⟨⟨cls, dd, data, sl⟩, ho, hc, n, hd⟩, hs⟩ := I.tuple hT
  simp only at hc hd
  subst hc hd
  have hle : its.length = xs.length := r.length.symm
  have hn : its ≠ [] := fun e => hne (List.eq_nil_of_length_eq_zero (by rw [← hle, e]; rfl))
  have hi : its.toArray.isEmpty = false := by cases its with | nil => exact absurd rfl hn | cons a b => rfl
  have hsz0 : its.toArray.size = xs.length := by rw [List.size_toArray, hle]
  have hm : ((its.toArray.size : Nat) : Int) * k ≤ 1000000 := by
    rw [hsz0]
    have e : ((xs.length : Nat) : Int) * k = ((k.toNat * xs.length : Nat) : Int) := by
      rw [Int.natCast_mul, Int.mul_comm, Int.toNat_of_nonneg (by omega)]
    rw [e]
    omega
  have fl : (List.replicate k.toNat its).flatten.length ≤ sizeLine := by
    rw [PyProof.Rows.lm_len_rep_flat, hle, sizeLine_eq]
    omega
  have c0 : (decide (k < -(2 ^ 63)) || decide (k ≥ 2 ^ 63)) = false := by
    rw [decide_eq_false (by omega), decide_eq_false (by omega)]
    rfl
  have c1 : (its.toArray.isEmpty || k == 1) = false := by
    rw [hi, Bool.false_or]
    exact beq_eq_false_iff_ne.mpr (by omega)
  have c2 : (decide (k ≤ 0) || its.toArray.isEmpty) = false := by
    rw [hi, Bool.or_false]
    exact decide_eq_false (by omega)
  have c4 : Builtin.Tuple.tupleTooMany (((its.toArray.size : Nat) : Int) * k) = false := by
    unfold Builtin.Tuple.tupleTooMany
    rw [sizeLine_eq]
    exact decide_eq_false (by omega)
  have fin := tuple_mulW l its.toArray n dd sl k t c0 c1 c2 (by omega) c4 (by rw [size_rep, List.size_toArray]; exact fl)
  refine wpAny_binaryOp_repeat_ref (T := "tuple") (U := "int") (by decide) ⟨_, ho, rfl⟩ (fun s' => typeIs_int s' k t) noFill_tuple_mul F.fills_int_mul F.slot_int_rmul repeat_tuple F.slot_int_index.lookup
    (call_meets F.slot_int_rmul (typeIs_int s k t) F.entry_int_rmul (F.args_int_rmul_2 _ _) (int_rmul_tuple k t l its.toArray n dd sl) ⟨ho, rfl, ⟨_, ho, rfl⟩, call_meets F.slot_tuple_mul ⟨_, ho, rfl⟩ F.entry_tuple_mul (F.args_tuple_mul_2 _ _) fin ⟨ho, ?_⟩⟩)
  rw [size_rep]
  refine ⟨.ref s.heap.objs.size, _, I.laid (t' := s.toks) (o := .tup (List.replicate k.toNat xs).flatten) (fun b ob q => Heap.get?_push_of_some _ q) (Nat.le_refl _) ?_, rfl, q _ (I.hok.fresh (Nat.le_refl _))⟩
  exact ⟨by rw [PyProof.Rows.lm_len_rep_flat, sizeLine_eq]; omega, _, r.rep k.toNat, IsTup.new _ _⟩
end Mi

/-! Mi, part A: a small evaluator for the part of Python in which the laws and the program are written. -/
namespace Mi
open PySem PySem.Spec

/-- the built-in types that are asked for -/
inductive Ty where
  | non | bool | int | str | tup | lst | dic
  deriving DecidableEq, Inhabited
def Ty.name : Ty → String
  | .non => "NoneType" | .bool => "bool" | .int => "int" | .str => "str" | .tup => "tuple" | .lst => "list" | .dic => "dict"
def Ty.sub (a b : Ty) : Bool := decide (a = b) || (decide (a = .bool) && decide (b = .int))

/-- a datum: tuples by value, what can change by its number in the store -/
inductive D where
  | non | bl (b : Bool) | int (i : Int) | str (x : Str) | tup (ds : List D) | ref (n : Nat) | fn (f : Nat) | ty (t : Ty)
  deriving Inhabited

/-- what stands at a number -/
inductive Cell where
  | lst (ds : List D)
  | frz (ds : List D)
  | dic (kvs : List (D × D))
  | ins (c : Nat) (fs : List (Str × D))
  deriving Inhabited

abbrev Store := List Cell
structure Exn where
  x : Nat
  fs : List (Str × D)

inductive Out (α : Type) where
  | ok (a : α) (S : Store)
  | er (e : Exn) (S : Store)
  | no
abbrev M (α : Type) := Store → Out α
def M.ret {α : Type} (a : α) : M α := fun S => .ok a S
def M.bnd {α β : Type} (m : M α) (f : α → M β) : M β := fun S => match m S with
  | .ok a S' => f a S'
  | .er e S' => .er e S'
  | .no => .no
def M.fail {α : Type} : M α := fun _ => .no
def M.need (b : Bool) : M Unit := if b then M.ret () else M.fail
instance : Monad M where
  pure := M.ret
  bind := M.bnd

abbrev Env := List (Option D)
abbrev lim : Nat := 1000000

/-! ### the store -/
def getL (r : Nat) : M (List D) := fun S => match S[r]? with
  | some (.lst ds) => .ok ds S
  | some (.frz ds) => .ok ds S
  | _ => .no
/-- a list that may be written -/
def getW (r : Nat) : M (List D) := fun S => match S[r]? with
  | some (.lst ds) => .ok ds S
  | _ => .no
def setL (r : Nat) (ds : List D) : M Unit := fun S => match S[r]? with
  | some (.lst _) => .ok () (S.set r (.lst ds))
  | _ => .no
def newC (c : Cell) : M D := fun S => .ok (.ref S.length) (S ++ [c])
def ofO {α : Type} : Option α → M α
  | some a => M.ret a
  | none => M.fail

/-! ### data as the library's own -/
def toPy (S : Store) : Nat → D → Option PyData
  | 0, _ => none
  | n + 1, d => match d with
    | .non => some .none
    | .bl b => some (.bool b)
    | .int i => some (.int i)
    | .str x => if PyData.strOk x then some (.str x) else none
    | .tup ds => (ds.mapM (toPy S n)).map .tuple
    | .ref r => match S[r]? with
      | some (.lst ds) => (ds.mapM (toPy S n)).map .list
      | some (.frz ds) => (ds.mapM (toPy S n)).map .list
      | _ => none
    | _ => none
/-- ==; of scalars of one kind at once -/
def eqM : D → D → M Bool
  | .int i, .int j => M.ret (decide (i = j))
  | .str x, .str y => M.ret (decide (x = y))
  | .bl x, .bl y => M.ret (decide (x = y))
  | .non, .non => M.ret true
  | .int _, .str _ => M.ret false
  | .str _, .int _ => M.ret false
  | a, b => fun S => match toPy S 60 a, toPy S 60 b with
    | some p, some q => .ok (PyData.eqv p q) S
    | _, _ => .no

/-! ### operators -/
inductive BOp where
  | add | sub | mul | fdiv | mod | pow | shl | shr | band
  deriving DecidableEq
inductive COp where
  | eq | ne | lt | le | gt | ge | is_ | isnt | in_ | nin
  deriving DecidableEq

def inW (i : Int) : Bool := decide (-(2 ^ 64) < i ∧ i < 2 ^ 64)
def binM : BOp → D → D → M D
  | .add, .int i, .int j => M.ret (.int (i + j))
  | .add, .str x, .str y => do M.need (decide (x.length + y.length ≤ lim)); M.ret (.str (x ++ y))
  | .add, .tup xs, .tup ys => do M.need (decide (xs.length + ys.length ≤ lim)); M.ret (.tup (xs ++ ys))
  | .add, .ref a, .ref b => do
    let xs ← getW a
    let ys ← getW b
    M.need (decide (xs.length + ys.length ≤ lim))
    newC (.lst (xs ++ ys))
  | .sub, .int i, .int j => M.ret (.int (i - j))
  | .mul, .int i, .int j => do M.need (inW i || inW j); M.ret (.int (i * j))
  | .mul, .tup ds, .int k => do M.need (!ds.isEmpty && decide (2 ≤ k ∧ k ≤ 1000000 ∧ k.toNat * ds.length ≤ 1000000)); M.ret (.tup (List.replicate k.toNat ds).flatten)
  | .fdiv, .int i, .int j => do M.need (decide (j ≠ 0 ∧ j.natAbs < 1073741824)); M.ret (.int (i.fdiv j))
  | .mod, .int i, .int j => do M.need (decide (j ≠ 0)); M.ret (.int (i.fmod j))
  | .pow, .int i, .int j => do M.need (decide (0 ≤ j ∧ j ≤ 1000000 ∧ i.natAbs < 2 ^ 64)); M.ret (.int (i ^ j.toNat))
  | _, _, _ => M.fail

/-- x op= y -/
def augM : BOp → D → D → M D
  | .add, .int i, .int j => M.ret (.int (i + j))
  | .sub, .int i, .int j => M.ret (.int (i - j))
  | _, _, _ => M.fail
def isM : D → D → M Bool
  | x, .non => M.ret (match x with | .non => true | _ => false)
  | .bl a, .bl b => M.ret (decide (a = b))
  | _, _ => M.fail
/-- whether some item of a list is == x -/
def anyEq (x : D) (ds : List D) : M Bool := fun S => match toPy S 60 x, ds.mapM (toPy S 59) with
  | some p, some qs => .ok (qs.any fun z => PyData.eqv z p) S
  | _, _ => .no
def inSg (y : Str) : List Nat → M Bool
  | [c] => M.ret (decide (c ∈ y.cps.toList))
  | _ => M.fail
def inM : D → D → M Bool
  | .str x, .str y => inSg y x.cps.toList
  | x, .tup ds => anyEq x ds
  | x, .ref r => do let ds ← getL r; anyEq x ds
  | _, _ => M.fail
def cmpM : COp → D → D → M Bool
  | .eq, x, y => eqM x y
  | .ne, x, y => do let b ← eqM x y; M.ret (!b)
  | .lt, .int i, .int j => M.ret (decide (i < j))
  | .le, .int i, .int j => M.ret (decide (i ≤ j))
  | .gt, .int i, .int j => M.ret (decide (j < i))
  | .ge, .int i, .int j => M.ret (decide (j ≤ i))
  | .is_, x, y => isM x y
  | .isnt, x, y => do let b ← isM x y; M.ret (!b)
  | .in_, x, y => inM x y
  | .nin, x, y => do let b ← inM x y; M.ret (!b)
  | _, _, _ => M.fail

def truthM : D → M Bool
  | .non => M.ret false
  | .bl b => M.ret b
  | .int i => M.ret (i != 0)
  | .str x => do M.need (decide (x.length ≤ lim)); M.ret ((x.length : Int) != 0)
  | .tup ds => M.ret (!ds.isEmpty)
  | .ref r => do let ds ← getL r; M.ret (!ds.isEmpty)
  | _ => M.fail

/-! ### items, parts -/
def ixM : D → D → M D
  | .tup ds, .int i => ofO (L2.atI ds i)
  | .ref r, .int i => do let ds ← getL r; ofO (L2.atI ds i)
  | .str x, .int i => do M.need (decide (x.length ≤ lim)); let c ← ofO (L2.atI x.cps.toList i); M.ret (.str ⟨#[c]⟩)
  | _, _ => M.fail
def setIx : D → D → D → M Unit
  | .ref r, .int i, v => do
    let ds ← getW r
    let j ← ofO (L2.ixN ds.length i)
    setL r (ds.set j v)
  | _, _, _ => M.fail
def cutL {α : Type} (xs : List α) (lo hi : Option Int) : List α := (xs.drop (HT.sIx xs.length 0 lo)).take (HT.sIx xs.length xs.length hi - HT.sIx xs.length 0 lo)
def slM : D → Option Int → Option Int → M D
  | .tup ds, lo, hi => M.ret (.tup (cutL ds lo hi))
  | .ref r, lo, hi => do let ds ← getL r; newC (.lst (cutL ds lo hi))
  | .str x, lo, hi => do M.need (decide (x.length ≤ lim)); M.ret (.str ⟨(cutL x.cps.toList lo hi).toArray⟩)
  | _, _, _ => M.fail
def asInt : D → M Int
  | .int i => M.ret i
  | _ => M.fail

/-! ### what is built in -/
inductive Blt where
  | len | int | tuple | list | max | min | abs | all | any | sum | isi | repr
  deriving DecidableEq
def tyM : D → M Ty
  | .non => M.ret .non
  | .bl _ => M.ret .bool
  | .int _ => M.ret .int
  | .str _ => M.ret .str
  | .tup _ => M.ret .tup
  | .ref r => fun S => match S[r]? with
    | some (.lst _) => .ok .lst S
    | some (.frz _) => .ok .lst S
    | some (.dic _) => .ok .dic S
    | _ => .no
  | _ => M.fail
def asTys : List D → Option (List Ty)
  | [] => some []
  | .ty t :: r => (asTys r).map (t :: ·)
  | _ => none
def asBls : List D → Option (List Bool)
  | [] => some []
  | .bl t :: r => (asBls r).map (t :: ·)
  | _ => none
def asInts : List D → Option (List Int)
  | [] => some []
  | .int t :: r => (asInts r).map (t :: ·)
  | _ => none
def bltM : Blt → List D → M D
  | .len, [.tup ds] => M.ret (.int ds.length)
  | .len, [.ref r] => do let ds ← getL r; M.ret (.int ds.length)
  | .len, [.str x] => do M.need (decide (x.length ≤ lim)); M.ret (.int x.length)
  | .int, [.int i] => M.ret (.int i)
  | .int, [.bl b] => M.ret (.int (if b then 1 else 0))
  | .tuple, [.tup ds] => M.ret (.tup ds)
  | .tuple, [.ref r] => do let ds ← getL r; M.ret (.tup ds)
  | .list, [.tup ds] => newC (.lst ds)
  | .list, [.ref r] => do let ds ← getL r; newC (.lst ds)
  | .max, [.int i, .int j] => M.ret (.int (if j > i then j else i))
  | .min, [.int i, .int j] => M.ret (.int (if j < i then j else i))
  | .abs, [.int i] => M.ret (.int (if i < 0 then -i else i))
  | .all, [.ref r] => do let ds ← getL r; let bs ← ofO (asBls ds); M.ret (.bl (bs.all id))
  | .any, [.ref r] => do let ds ← getL r; let bs ← ofO (asBls ds); M.ret (.bl (bs.any id))
  | .sum, [.ref r] => do let ds ← getL r; let ns ← ofO (asInts ds); M.ret (.int ns.sum)
  | .repr, [.bl b] => M.ret (.str (if b then "True" else "False"))
  | .isi, [x, .ty t] => do let s ← tyM x; M.ret (.bl (Ty.sub s t))
  | .isi, [x, .tup ts] => do let s ← tyM x; let us ← ofO (asTys ts); M.ret (.bl (us.any (Ty.sub s)))
  | _, _ => M.fail

/-- methods of what is built in -/
inductive Mth where
  | append | pop | extend
  deriving DecidableEq
def mthM : Mth → D → List D → M D
  | .append, .ref r, [x] => do
    let ds ← getW r
    M.need (decide (ds.length < lim))
    setL r (ds ++ [x])
    M.ret .non
  | .extend, .ref r, [.ref q] => do
    let ds ← getW r
    let es ← getW q
    M.need (decide (ds.length + es.length ≤ lim))
    setL r (ds ++ es)
    M.ret .non
  | .pop, .ref r, [] => do
    let ds ← getW r
    let x ← ofO ds[ds.length - 1]?
    setL r ds.dropLast
    M.ret x
  | .pop, .ref r, [.int i] => do
    M.need (decide (-(2 ^ 63) ≤ i ∧ i < 2 ^ 63))
    let ds ← getW r
    let k ← ofO (L2.ixN ds.length i)
    let x ← ofO ds[k]?
    setL r (ds.eraseIdx k)
    M.ret x
  | _, _, _ => M.fail

/-- the receiver is a list -/
def mthPre : D → M Unit
  | .ref r => do let _ ← getL r; M.ret ()
  | _ => M.fail

/-! ### the terms -/
inductive Tg where
  | v (i : Nat)
  | t (is : List Nat)
mutual
inductive Ex where
  | lit (d : D)
  | var (i : Nat)
  | bin (o : BOp) (a b : Ex)
  | cmp (o : COp) (a b : Ex)
  | chn (o o' : COp) (a b c : Ex)
  | neg (a : Ex)
  | not (a : Ex)
  | and (a b : Ex)
  | or (a b : Ex)
  | ite (c a b : Ex)
  | tup (es : List Ex)
  | lst (es : List Ex)
  | ix (a i : Ex)
  | sl (a : Ex) (lo hi : Option Ex)
  | call (f : Nat) (es : List Ex)
  | blt (b : Blt) (es : List Ex)
  | mth (m : Mth) (a : Ex) (es : List Ex)
  | lc (it : Itn) (tg : Tg) (vs : List Nat) (c : Option Ex) (e : Ex)
inductive Itn where
  | seq (e : Ex)
  | rng (es : List Ex)
  | enu (e : Ex)
  | zip (a b : Ex)
end
/-- what an except suite does -/
inductive HR where
  | ret (d : D) | fld (f : Str) | fld2 (f g : Str) | nx | ct
/-- an except clause: its class, which errors it takes, its name, its suite -/
structure Hdl where
  c : Nat
  ms : List Bool
  nm : Option Nat
  r : HR
inductive Sx where
  | expr (e : Ex)
  | asg (t : Tg) (e : Ex)
  | asgIx (a i e : Ex)
  | par (is : List Nat) (es : List Ex)
  | aug (i : Nat) (o : BOp) (e : Ex)
  | ite (c : Ex) (a b : List Sx)
  | whl (c : Ex) (b : List Sx)
  | for_ (t : Tg) (it : Itn) (b : List Sx)
  | ret (e : Ex)
  | retN
  | brk | cnt | pass
  | raise (x : Nat) (fs : List Str) (es : List Ex)
  | try_ (b : List Sx) (hs : List Hdl)

/-! ### sources of loops -/
inductive Src where
  | items (ds : List D)
  | cell (r : Nat)
  | enu (s : Src)
  | zip (s t : Src)
def Src.at : Src → Nat → M (Option D)
  | .items ds, i => M.ret ds[i]?
  | .cell r, i => do let ds ← getL r; M.ret ds[i]?
  | .enu s, i => do
    match ← s.at i with
    | some d => M.ret (some (.tup [.int i, d]))
    | none => M.ret none
  | .zip s t, i => do
    match ← s.at i with
    | some d => match ← t.at i with
      | some e => M.ret (some (.tup [d, e]))
      | none => M.ret none
    | none => M.ret none
def srcOf : D → M Src
  | .tup ds => M.ret (.items ds)
  | .ref r => do let _ ← getL r; M.ret (.cell r)
  | .str x => M.ret (.items (x.cps.toList.map fun c => .str ⟨#[c]⟩))
  | _ => M.fail
def enuOf : D → M Src
  | .ref r => do let _ ← getL r; M.ret (.enu (.cell r))
  | _ => M.fail
def rngD (lo n : Int) : List D := (List.range (n - lo).toNat).map fun k => D.int (lo + (k : Nat))
def rngDn (i j : Int) : List D := (List.range (i - j).toNat).map fun k => D.int (i - (k : Nat))
def in62 (i : Int) : Bool := decide (-(2 ^ 62) ≤ i ∧ i < 2 ^ 62)
def rngM : List D → M Src
  | [.int n] => do M.need (in62 n); M.ret (.items (rngD 0 n))
  | [.int a, .int n] => do M.need (in62 a && in62 n); M.ret (.items (rngD a n))
  | [.int a, .int n, .int c] => do M.need (decide (c = -1) && (in62 a && in62 n)); M.ret (.items (rngDn a n))
  | _ => M.fail
def setAll : List Nat → List D → Env → Env
  | i :: is, d :: ds, env => setAll is ds (env.set i (some d))
  | _, _, env => env
def Tg.bind : Tg → D → Env → M Env
  | .v i, d, env => M.ret (env.set i (some d))
  | .t is, .tup ds, env => do M.need (decide (ds.length = is.length)); M.ret (setAll is ds env)
  | .t is, .ref r, env => do let ds ← getL r; M.need (decide (ds.length = is.length)); M.ret (setAll is ds env)
  | _, _, _ => M.fail
def wipeE (env : Env) : List Nat → Env
  | [] => env
  | v :: vs => (wipeE env vs).set v none

/-! ### reading terms -/
structure Gen where
  call : Nat → List D → M D
  L : Nat
/-- an error may not leave a comprehension -/
def calmM {α : Type} (m : M α) : M α := fun S => match m S with
  | .ok a S' => .ok a S'
  | _ => .no
def lcLoop (s : Src) (tg : Tg) (c : Env → M Bool) (e : Env → M D) (env : Env) (r : Nat) : Nat → Nat → M Unit
  | 0, _ => M.fail
  | n + 1, i => do
    match ← s.at i with
    | none => M.ret ()
    | some d =>
      let env' ← tg.bind d env
      let k ← c env'
      if k then do
        let x ← e env'
        let ds ← getW r
        M.need (decide (ds.length < lim))
        setL r (ds ++ [x])
        lcLoop s tg c e env r n (i + 1)
      else lcLoop s tg c e env r n (i + 1)
mutual
def ev (G : Gen) : Ex → Env → M D
  | .lit d, _ => M.ret d
  | .var i, env => match env[i]? with
    | some (some d) => M.ret d
    | _ => M.fail
  | .bin o a b, env => do let x ← ev G a env; let y ← ev G b env; binM o x y
  | .cmp o a b, env => do let x ← ev G a env; let y ← ev G b env; let k ← cmpM o x y; M.ret (.bl k)
  | .chn o o' a b c, env => do
    let x ← ev G a env
    let y ← ev G b env
    let k ← cmpM o x y
    if k then do let z ← ev G c env; let k' ← cmpM o' y z; M.ret (.bl k') else M.ret (.bl false)
  | .neg a, env => do let x ← ev G a env; let i ← asInt x; M.ret (.int (-i))
  | .not a, env => do let x ← ev G a env; let k ← truthM x; M.ret (.bl (!k))
  | .and a b, env => do let x ← ev G a env; let k ← truthM x; if k then ev G b env else M.ret x
  | .or a b, env => do let x ← ev G a env; let k ← truthM x; if k then M.ret x else ev G b env
  | .ite c a b, env => do let x ← ev G c env; let k ← truthM x; if k then ev G a env else ev G b env
  | .tup es, env => do let ds ← evs G es env; M.need (decide (ds.length ≤ lim)); M.ret (.tup ds)
  | .lst es, env => do let ds ← evs G es env; M.need (decide (ds.length ≤ lim)); newC (.lst ds)
  | .ix a i, env => do let x ← ev G a env; let y ← ev G i env; ixM x y
  | .sl a lo hi, env => do let x ← ev G a env; let l ← evo G lo env; let h ← evo G hi env; slM x l h
  | .call f es, env => do let ds ← evs G es env; G.call f ds
  | .blt b es, env => do let ds ← evs G es env; bltM b ds
  | .mth m a es, env => do let x ← ev G a env; mthPre x; let ds ← evs G es env; mthM m x ds
  | .lc it tg vs c e, env => do
    let s ← evi G it env
    let d ← newC (.lst [])
    match d with
    | .ref r => do
      let _ ← calmM (lcLoop s tg (fun env' => evc G c env') (fun env' => ev G e env') (wipeE env vs) r G.L 0)
      M.ret d
    | _ => M.fail
def evs (G : Gen) : List Ex → Env → M (List D)
  | [], _ => M.ret []
  | e :: es, env => do let d ← ev G e env; let ds ← evs G es env; M.ret (d :: ds)
def evo (G : Gen) : Option Ex → Env → M (Option Int)
  | none, _ => M.ret none
  | some e, env => do let d ← ev G e env; let i ← asInt d; M.ret (some i)
def evc (G : Gen) : Option Ex → Env → M Bool
  | none, _ => M.ret true
  | some e, env => do let d ← ev G e env; truthM d
def evi (G : Gen) : Itn → Env → M Src
  | .seq e, env => do let d ← ev G e env; srcOf d
  | .rng es, env => do let ds ← evs G es env; rngM ds
  | .enu e, env => do let d ← ev G e env; enuOf d
  | .zip a b, env => M.fail
end
/-- a test -/
def evT (G : Gen) (e : Ex) (env : Env) : M Bool := do let d ← ev G e env; truthM d

/-! ### statements -/
inductive Fl where
  | nx | rt (d : D) | bk | ct
inductive SR where
  | go (f : Fl) (env : Env) (S : Store)
  | er (e : Exn) (env : Env) (S : Store)
  | no
abbrev SM := Env → Store → SR
def bndS {α : Type} (m : M α) (env : Env) (f : α → Store → SR) : Store → SR := fun S => match m S with
  | .ok a S' => f a S'
  | .er e S' => .er e env S'
  | .no => .no
def nxS : SM := fun env S => .go .nx env S
def whileF (c : Env → M Bool) (b : SM) : Nat → SM
  | 0, _, _ => .no
  | n + 1, env, S => bndS (c env) env (fun k S1 => if k then
      match b env S1 with
      | .go .nx env2 S2 => whileF c b n env2 S2
      | .go .ct env2 S2 => whileF c b n env2 S2
      | .go .bk env2 S2 => .go .nx env2 S2
      | r => r
    else .go .nx env S1) S
def forF (s : Src) (tg : Tg) (b : SM) : Nat → Nat → SM
  | 0, _, _, _ => .no
  | n + 1, i, env, S => bndS (s.at i) env (fun o S1 => match o with
    | none => .go .nx env S1
    | some d => bndS (tg.bind d env) env (fun env1 S2 => match b env1 S2 with
      | .go .nx env2 S2 => forF s tg b n (i + 1) env2 S2
      | .go .ct env2 S2 => forF s tg b n (i + 1) env2 S2
      | .go .bk env2 S2 => .go .nx env2 S2
      | r => r) S1) S
def Hdl.wipe (h : Hdl) (env : Env) : Env := match h.nm with
  | some i => env.set i none
  | none => env
def runR (h : Hdl) (e : Exn) (env : Env) (S : Store) : SR := match h.r with
  | .ret d => .go (.rt d) env S
  | .fld f => if e.x = h.c then (match e.fs.lookup f with | some d => .go (.rt d) env S | none => .no) else .no
  | .fld2 f g => if e.x = h.c then (match e.fs.lookup f, e.fs.lookup g with | some d, some d' => .go (.rt (.tup [d, d'])) env S | _, _ => .no) else .no
  | .nx => .go .nx (h.wipe env) S
  | .ct => .go .ct (h.wipe env) S
def runH : List Hdl → Exn → Env → Store → SR
  | [], e, env, S => .er e env S
  | h :: hs, e, env, S => match h.ms[e.x]? with
    | some true => runR h e env S
    | some false => runH hs e env S
    | none => .no
mutual
def xs (G : Gen) : Sx → SM
  | .raise x fs es, env, S => bndS (evs G es env) env (fun ds S' => if ds.length = fs.length then .er ⟨x, fs.zip ds⟩ env S' else .no) S
  | .try_ b hs, env, S => match xss G b env S with
    | .er e env' S' => runH hs e env' S'
    | r => r
  | .expr e, env, S => bndS (ev G e env) env (fun _ S' => .go .nx env S') S
  | .asg t e, env, S => bndS (ev G e env) env (fun d S' => bndS (t.bind d env) env (fun env' S2 => .go .nx env' S2) S') S
  | .asgIx a i e, env, S => bndS (do let v ← ev G e env; let x ← ev G a env; let y ← ev G i env; setIx x y v) env (fun _ S' => .go .nx env S') S
  | .par is es, env, S => bndS (evs G es env) env (fun ds S' => if ds.length = is.length then .go .nx (setAll is ds env) S' else .no) S
  | .aug i o e, env, S => match env[i]? with
    | some (some x) => bndS (do let y ← ev G e env; augM o x y) env (fun d S' => .go .nx (env.set i (some d)) S') S
    | _ => .no
  | .ite c a b, env, S => bndS (evT G c env) env (fun k S' => if k then xss G a env S' else xss G b env S') S
  | .whl c b, env, S => whileF (evT G c) (fun env' S' => xss G b env' S') G.L env S
  | .for_ t it b, env, S => bndS (evi G it env) env (fun s S' => forF s t (fun env' S2 => xss G b env' S2) G.L 0 env S') S
  | .ret e, env, S => bndS (ev G e env) env (fun d S' => .go (.rt d) env S') S
  | .retN, env, S => .go (.rt .non) env S
  | .brk, env, S => .go .bk env S
  | .cnt, env, S => .go .ct env S
  | .pass, env, S => .go .nx env S
def xss (G : Gen) : List Sx → SM
  | [], env, S => .go .nx env S
  | s :: ss, env, S => match xs G s env S with
    | .go .nx env' S' => xss G ss env' S'
    | r => r
end
end Mi

/-! Mi, part B: how data stand in the heap. -/
namespace Mi
open PySem PySem.Spec PyProof.Rows L2

/-- where defs, classes and errors stand -/
structure Adr where
  fa : Nat → Addr
  ca : Nat → Addr
  xa : Nat → Addr

/-- a tuple: tracked, or of the written part -/
def TupAt (K : PySem.W.Frag) (H : Hp) (a : Addr) (xs : List V) : Prop :=
  H a = some (.tup xs) ∨ ∃ (o : Obj) (its : Array Value) (n : Nat), K.lookup a = some o ∧ o.cls = .type "tuple" ∧ o.data = .seq its n ∧ its.size ≤ sizeLine ∧ Vals xs its.toList
theorem TupAt.sq {K : PySem.W.Frag} {H : Hp} {a : Addr} {xs : List V} (h : TupAt K H a xs) : SqT K H a xs := by
  rcases h with h | h
  · exact .inl (.inl h)
  · exact .inr h
mutual
inductive RV (K : PySem.W.Frag) (A : Adr) (μ : List Addr) (H : Hp) : D → V → Prop where
  | non : RV K A μ H .non .non
  | bl (b : Bool) : RV K A μ H (.bl b) (.bl b)
  | int (i : Int) : RV K A μ H (.int i) (.int i)
  | str (x : Str) : RV K A μ H (.str x) (.str x)
  | tup {ds : List D} {a : Addr} {vs : List V} : TupAt K H a vs → RVs K A μ H ds vs → RV K A μ H (.tup ds) (.ref a)
  | ref {n : Nat} {a : Addr} : μ[n]? = some a → RV K A μ H (.ref n) (.ref a)
  | fn (f : Nat) : RV K A μ H (.fn f) (.ref (A.fa f))
  | ty (t : Ty) : RV K A μ H (.ty t) (.ty t.name)
inductive RVs (K : PySem.W.Frag) (A : Adr) (μ : List Addr) (H : Hp) : List D → List V → Prop where
  | nil : RVs K A μ H [] []
  | cons {d : D} {v : V} {ds : List D} {vs : List V} : RV K A μ H d v → RVs K A μ H ds vs → RVs K A μ H (d :: ds) (v :: vs)
end

/-- what the further run leaves of the heap -/
structure Nx (μ : List Addr) (H : Hp) (μ' : List Addr) (H' : Hp) : Prop where
  pre : ∃ l, μ' = μ ++ l ∧ ∀ a ∈ l, H a = none
  tup : ∀ a xs, H a = some (.tup xs) → H' a = some (.tup xs)
  frz : ∀ a o u, H a = some (.frz o u) → H' a = some (.frz o u)
  out : ∀ a o, H a = some o → a ∉ μ → H' a = some o
  stay : ∀ a o, H a = some o → ∃ o', H' a = some o'

section
variable {K : PySem.W.Frag} {A : Adr} {μ μ' μ2 : List Addr} {H H' H2 : Hp}
theorem Nx.refl : Nx μ H μ H := ⟨⟨[], by simp, by simp⟩, fun _ _ h => h, fun _ _ _ h => h, fun _ _ h _ => h, fun _ o h => ⟨o, h⟩⟩
theorem Nx.trans (a : Nx μ H μ' H') (b : Nx μ' H' μ2 H2) : Nx μ H μ2 H2 := by
  obtain ⟨l, e, hl⟩ := a.pre
  obtain ⟨m, e', hm⟩ := b.pre
  refine ⟨⟨l ++ m, by rw [e', e, List.append_assoc], fun x hx => ?_⟩, fun x xs h => b.tup x xs (a.tup x xs h), fun x o u h => b.frz x o u (a.frz x o u h), fun x o h hn => ?_, fun x o h => ?_⟩
  · rcases List.mem_append.mp hx with hx | hx
    · exact hl x hx
    · cases q : H x with
      | none => rfl
      | some o =>
        obtain ⟨o', q'⟩ := a.stay x o q
        rw [hm x hx] at q'
        cases q'
  · refine b.out x o (a.out x o h hn) fun hx => ?_
    rw [e] at hx
    rcases List.mem_append.mp hx with hx | hx
    · exact hn hx
    · rw [hl x hx] at h
      cases h
  · obtain ⟨o', h'⟩ := a.stay x o h
    exact b.stay x o' h'
theorem Nx.sqT (n : Nx μ H μ' H') {a : Addr} {xs : List V} (h : TupAt K H a xs) : TupAt K H' a xs := by
  rcases h with h | h
  · exact .inl (n.tup _ _ h)
  · exact .inr h
theorem Nx.at (n : Nx μ H μ' H') {i : Nat} {a : Addr} (h : μ[i]? = some a) : μ'[i]? = some a := by
  obtain ⟨l, e, _⟩ := n.pre
  rw [e, List.getElem?_append_left (List.getElem?_eq_some_iff.mp h).1]
  exact h
mutual
theorem RV.mono (n : Nx μ H μ' H') : ∀ {d : D} {v : V}, RV K A μ H d v → RV K A μ' H' d v
  | _, _, .non => .non
  | _, _, .bl b => .bl b
  | _, _, .int i => .int i
  | _, _, .str x => .str x
  | _, _, .tup h r => .tup (n.sqT h) (RVs.mono n r)
  | _, _, .ref h => .ref (n.at h)
  | _, _, .fn f => .fn f
  | _, _, .ty t => .ty t
theorem RVs.mono (n : Nx μ H μ' H') : ∀ {ds : List D} {vs : List V}, RVs K A μ H ds vs → RVs K A μ' H' ds vs
  | _, _, .nil => .nil
  | _, _, .cons h r => .cons (RV.mono n h) (RVs.mono n r)
end
theorem RVs.length : ∀ {ds : List D} {vs : List V}, RVs K A μ H ds vs → ds.length = vs.length
  | _, _, .nil => rfl
  | _, _, .cons _ r => by rw [List.length_cons, List.length_cons, RVs.length r]
theorem RVs.get : ∀ {ds : List D} {vs : List V} {i : Nat} {d : D}, RVs K A μ H ds vs → ds[i]? = some d → ∃ v, vs[i]? = some v ∧ RV K A μ H d v
  | _, _, i, _, .nil, e => by simp at e
  | _, _, 0, _, .cons h _, e => by simp at e; subst e; exact ⟨_, rfl, h⟩
  | _, _, i + 1, _, .cons _ r, e => by
    obtain ⟨v, e', h⟩ := RVs.get (i := i) r (by simpa using e)
    exact ⟨v, by simpa using e', h⟩
theorem RVs.back : ∀ {ds : List D} {vs : List V} {i : Nat} {v : V}, RVs K A μ H ds vs → vs[i]? = some v → ∃ d, ds[i]? = some d ∧ RV K A μ H d v
  | _, _, i, _, .nil, e => by simp at e
  | _, _, 0, _, .cons h _, e => by simp at e; subst e; exact ⟨_, rfl, h⟩
  | _, _, i + 1, _, .cons _ r, e => by
    obtain ⟨v, e', h⟩ := RVs.back (i := i) r (by simpa using e)
    exact ⟨v, by simpa using e', h⟩
theorem RVs.append : ∀ {ds es : List D} {vs us : List V}, RVs K A μ H ds vs → RVs K A μ H es us → RVs K A μ H (ds ++ es) (vs ++ us)
  | _, _, _, _, .nil, s => s
  | _, _, _, _, .cons h r, s => .cons h (RVs.append r s)
theorem RVs.rep {ds : List D} {vs : List V} (r : RVs K A μ H ds vs) : ∀ n : Nat, RVs K A μ H (List.replicate n ds).flatten (List.replicate n vs).flatten
  | 0 => .nil
  | n + 1 => by
    rw [List.replicate_succ, List.replicate_succ, List.flatten_cons, List.flatten_cons]
    exact RVs.append r (RVs.rep r n)
theorem RVs.set : ∀ {ds : List D} {vs : List V} {d : D} {v : V} (i : Nat), RVs K A μ H ds vs → RV K A μ H d v → RVs K A μ H (ds.set i d) (vs.set i v)
  | _, _, _, _, _, .nil, _ => .nil
  | _, _, _, _, 0, .cons _ r, h => .cons h r
  | _, _, _, _, i + 1, .cons g r, h => .cons g (RVs.set i r h)
theorem RVs.take : ∀ {ds : List D} {vs : List V} (i : Nat), RVs K A μ H ds vs → RVs K A μ H (ds.take i) (vs.take i)
  | _, _, 0, _ => .nil
  | _, _, _ + 1, .nil => .nil
  | _, _, i + 1, .cons h r => .cons h (RVs.take i r)
theorem RVs.drop : ∀ {ds : List D} {vs : List V} (i : Nat), RVs K A μ H ds vs → RVs K A μ H (ds.drop i) (vs.drop i)
  | _, _, 0, r => r
  | _, _, _ + 1, .nil => .nil
  | _, _, i + 1, .cons _ r => RVs.drop i r
theorem RVs.eraseIdx : ∀ {ds : List D} {vs : List V} (i : Nat), RVs K A μ H ds vs → RVs K A μ H (ds.eraseIdx i) (vs.eraseIdx i)
  | _, _, _, .nil => .nil
  | _, _, 0, .cons _ r => r
  | _, _, i + 1, .cons h r => .cons h (RVs.eraseIdx i r)
theorem RVs.dropLast : ∀ {ds : List D} {vs : List V}, RVs K A μ H ds vs → RVs K A μ H ds.dropLast vs.dropLast
  | _, _, .nil => .nil
  | _, _, .cons _ .nil => .nil
  | _, _, .cons h (.cons g r) => .cons h (RVs.dropLast (.cons g r))
theorem RVs.cut {ds : List D} {vs : List V} (r : RVs K A μ H ds vs) (lo hi : Option Int) : RVs K A μ H (cutL ds lo hi) (cutV vs lo hi) := by
  have e := r.length
  unfold cutL cutV
  rw [e]
  exact (r.drop _).take _
theorem RVs.zero {vs : List V} (r : RVs K A μ H [] vs) : vs = [] := by cases r; rfl
theorem RVs.one {d : D} {vs : List V} (r : RVs K A μ H [d] vs) : ∃ v, vs = [v] ∧ RV K A μ H d v := by
  cases r with
  | cons h r => cases r; exact ⟨_, rfl, h⟩
theorem RVs.two {d e : D} {vs : List V} (r : RVs K A μ H [d, e] vs) : ∃ v u, vs = [v, u] ∧ RV K A μ H d v ∧ RV K A μ H e u := by
  cases r with
  | cons h r =>
    obtain ⟨u, rfl, g⟩ := r.one
    exact ⟨_, _, rfl, h, g⟩
theorem RVs.three {d e f : D} {vs : List V} (r : RVs K A μ H [d, e, f] vs) : ∃ v u w, vs = [v, u, w] ∧ RV K A μ H d v ∧ RV K A μ H e u ∧ RV K A μ H f w := by
  cases r with
  | cons h r =>
    obtain ⟨u, w, rfl, g, k⟩ := r.two
    exact ⟨_, _, _, rfl, h, g, k⟩

/-! ### the store -/
/-- named fields -/
inductive RF (K : PySem.W.Frag) (A : Adr) (μ : List Addr) (H : Hp) : List (Str × D) → List (Str × V) → Prop where
  | nil : RF K A μ H [] []
  | cons {f : Str} {d : D} {v : V} {fs : List (Str × D)} {gs : List (Str × V)} : RV K A μ H d v → RF K A μ H fs gs → RF K A μ H ((f, d) :: fs) ((f, v) :: gs)
theorem RF.mono (n : Nx μ H μ' H') : ∀ {fs : List (Str × D)} {gs : List (Str × V)}, RF K A μ H fs gs → RF K A μ' H' fs gs
  | _, _, .nil => .nil
  | _, _, .cons h r => .cons (h.mono n) (RF.mono n r)
/-- a list that is only read -/
def FrzL (K : PySem.W.Frag) (H : Hp) (a : Addr) (xs : List V) : Prop :=
  (∃ o, H a = some (.frz o (.lst xs))) ∨ ∃ (o : Obj) (its : Array Value) (n : Nat), K.lookup a = some o ∧ o.cls = .type "list" ∧ o.dict = none ∧ o.data = .seq its n ∧ its.size ≤ sizeLine ∧ Vals xs its.toList
theorem FrzL.sq {a : Addr} {xs : List V} (h : FrzL K H a xs) : SqL K H a xs := by
  rcases h with ⟨o, h⟩ | h
  · exact .inl (.inr ⟨o, h⟩)
  · exact .inr h
theorem FrzL.mono (n : Nx μ H μ' H') {a : Addr} {xs : List V} (h : FrzL K H a xs) : FrzL K H' a xs := by
  rcases h with ⟨o, h⟩ | h
  · exact .inl ⟨o, n.frz _ _ _ h⟩
  · exact .inr h
def CR (K : PySem.W.Frag) (A : Adr) (μ : List Addr) (H : Hp) : Cell → Addr → Prop
  | .lst ds, a => ∃ vs, H a = some (.lst vs) ∧ RVs K A μ H ds vs
  | .frz ds, a => ∃ vs, FrzL K H a vs ∧ RVs K A μ H ds vs
  | .dic _, _ => False
  | .ins c fs, a => ∃ dx gs, H a = some (.ins (A.ca c) dx gs) ∧ RF K A μ H fs gs
def Cell.isF : Cell → Bool
  | .frz _ => true
  | _ => false
structure Sto (K : PySem.W.Frag) (A : Adr) (μ : List Addr) (S : Store) (H : Hp) : Prop where
  len : μ.length = S.length
  nd : ∀ (i j : Nat) (a : Addr) (c d : Cell), μ[i]? = some a → μ[j]? = some a → S[i]? = some c → S[j]? = some d → c.isF = false → d.isF = false → i = j
  cell : ∀ (n : Nat) (c : Cell) (a : Addr), S[n]? = some c → μ[n]? = some a → CR K A μ H c a
theorem CR.move {c : Cell} {a : Addr} (n : Nx μ H μ' H') (h : CR K A μ H c a) (hs : c.isF = false → H' a = H a) : CR K A μ' H' c a := by
  cases c with
  | lst ds => obtain ⟨vs, e, r⟩ := h; exact ⟨vs, (hs rfl).trans e, r.mono n⟩
  | frz ds => obtain ⟨vs, e, r⟩ := h; exact ⟨vs, e.mono n, r.mono n⟩
  | dic kvs => exact h
  | ins c fs => obtain ⟨dx, gs, e, r⟩ := h; exact ⟨dx, gs, (hs rfl).trans e, r.mono n⟩
/-- a cell that may be written is tracked -/
theorem CR.there {c : Cell} {a : Addr} (h : CR K A μ H c a) (hf : c.isF = false) : ∃ o, H a = some o := by
  cases c with
  | lst ds => obtain ⟨vs, e, r⟩ := h; exact ⟨_, e⟩
  | frz ds => cases hf
  | dic kvs => exact h.elim
  | ins c fs => obtain ⟨dx, gs, e, r⟩ := h; exact ⟨_, e⟩
theorem Sto.adr {S : Store} (s : Sto K A μ S H) {n : Nat} {c : Cell} (h : S[n]? = some c) : ∃ a, μ[n]? = some a := by
  have hn : n < μ.length := by rw [s.len]; exact (List.getElem?_eq_some_iff.mp h).1
  exact ⟨μ[n], List.getElem?_eq_getElem hn⟩
/-- a new object that no number names: a tuple -/
theorem Nx.newT {p : Addr} {o : HO} (hp : H p = none) : Nx μ H μ (upd H p o) :=
  ⟨⟨[], by simp, by simp⟩, fun a xs h => by rw [upd_ne (ne_of_none h hp)]; exact h, fun a o u h => by rw [upd_ne (ne_of_none h hp)]; exact h, fun a o h _ => by rw [upd_ne (ne_of_none h hp)]; exact h, fun a o h => ⟨o, by rw [upd_ne (ne_of_none h hp)]; exact h⟩⟩
theorem Nx.newC {p : Addr} {o : HO} (hp : H p = none) : Nx μ H (μ ++ [p]) (upd H p o) :=
  ⟨⟨[p], rfl, fun a ha => by rw [List.mem_singleton.mp ha]; exact hp⟩, fun a xs h => by rw [upd_ne (ne_of_none h hp)]; exact h, fun a o u h => by rw [upd_ne (ne_of_none h hp)]; exact h, fun a o h _ => by rw [upd_ne (ne_of_none h hp)]; exact h, fun a o h => ⟨o, by rw [upd_ne (ne_of_none h hp)]; exact h⟩⟩
/-- the store behind a step that leaves the cells -/
theorem Sto.same {S : Store} (s : Sto K A μ S H) (n : Nx μ H μ H') (h : ∀ a, (∃ o, H a = some o) → a ∈ μ → H' a = H a) : Sto K A μ S H' :=
  ⟨s.len, s.nd, fun i c a e e' => (s.cell i c a e e').move n fun hf => h a ((s.cell i c a e e').there hf) (List.mem_of_getElem? e')⟩
theorem Sto.newT {S : Store} {p : Addr} {o : HO} (s : Sto K A μ S H) (hp : H p = none) : Sto K A μ S (upd H p o) :=
  s.same (Nx.newT hp) fun a ⟨u, e⟩ _ => upd_ne (ne_of_none e hp)
/-- a new cell -/
theorem Sto.newC {S : Store} {p : Addr} {o : HO} {c : Cell} (s : Sto K A μ S H) (hp : H p = none) (hc : CR K A (μ ++ [p]) (upd H p o) c p) : Sto K A (μ ++ [p]) (S ++ [c]) (upd H p o) := by
  have n : Nx μ H (μ ++ [p]) (upd H p o) := Nx.newC hp
  refine ⟨by rw [List.length_append, List.length_append, s.len]; rfl, fun i j a c1 d1 h1 h2 h3 h4 f1 f2 => ?_, fun i d a h1 h2 => ?_⟩
  · have key : ∀ {i a c1}, (μ ++ [p])[i]? = some a → (S ++ [c])[i]? = some c1 → c1.isF = false → (i < S.length ∧ S[i]? = some c1 ∧ μ[i]? = some a ∧ a ≠ p) ∨ (i = S.length ∧ a = p) := fun {i a c1} h1 h3 f => by
      by_cases hi : i < S.length
      · rw [List.getElem?_append_left hi] at h3
        rw [List.getElem?_append_left (by rw [s.len]; exact hi)] at h1
        obtain ⟨u, e⟩ := (s.cell i c1 a h3 h1).there f
        exact .inl ⟨hi, h3, h1, ne_of_none e hp⟩
      · have hi2 : i = S.length := by
          have := (List.getElem?_eq_some_iff.mp h3).1
          rw [List.length_append, List.length_singleton] at this
          omega
        subst hi2
        rw [List.getElem?_append_right (by rw [s.len]; exact Nat.le_refl _), s.len, Nat.sub_self] at h1
        exact .inr ⟨rfl, (Option.some.inj h1).symm⟩
    rcases key h1 h3 f1 with ⟨a1, a2, a3, a4⟩ | ⟨a1, a2⟩
    · rcases key h2 h4 f2 with ⟨b1, b2, b3, b4⟩ | ⟨b1, b2⟩
      · exact s.nd i j a c1 d1 a3 b3 a2 b2 f1 f2
      · exact absurd b2 a4
    · rcases key h2 h4 f2 with ⟨b1, b2, b3, b4⟩ | ⟨b1, b2⟩
      · exact absurd a2 b4
      · rw [a1, b1]
  · by_cases hi : i < S.length
    · rw [List.getElem?_append_left hi] at h1
      rw [List.getElem?_append_left (by rw [s.len]; exact hi)] at h2
      exact (s.cell i d a h1 h2).move n fun hf => by
        obtain ⟨u, e⟩ := (s.cell i d a h1 h2).there hf
        exact upd_ne (ne_of_none e hp)
    · have hi2 : i = S.length := by
        have := (List.getElem?_eq_some_iff.mp h1).1
        rw [List.length_append, List.length_singleton] at this
        omega
      subst hi2
      rw [List.getElem?_append_right (by rw [s.len]; exact Nat.le_refl _), s.len, Nat.sub_self] at h2
      rw [List.getElem?_append_right (Nat.le_refl _), Nat.sub_self] at h1
      have e1 : c = d := Option.some.inj h1
      have e2 : p = a := Option.some.inj h2
      rw [← e1, ← e2]
      exact hc
/-- a cell is written -/
theorem Nx.wr {n : Nat} {a : Addr} {o o' : HO} (ha : μ[n]? = some a) (h : H a = some o') (ht : ∀ xs, o' ≠ .tup xs) (hf : ∀ u v, o' ≠ .frz u v) : Nx μ H μ (upd H a o) := by
  refine ⟨⟨[], by simp, by simp⟩, fun b xs e => ?_, fun b u v e => ?_, fun b u e hn => ?_, fun b u e => ?_⟩
  · rw [upd_ne fun z => ?_]
    · exact e
    · subst z
      rw [h] at e
      exact ht _ (Option.some.inj e)
  · rw [upd_ne fun z => ?_]
    · exact e
    · subst z
      rw [h] at e
      exact hf _ _ (Option.some.inj e)
  · rw [upd_ne fun z => ?_]
    · exact e
    · subst z
      exact hn (List.mem_of_getElem? ha)
  · by_cases z : b = a
    · subst z
      exact ⟨o, upd_same⟩
    · exact ⟨u, by rw [upd_ne z]; exact e⟩
theorem Sto.wr {S : Store} {n : Nat} {a : Addr} {o : HO} {c c' : Cell} (s : Sto K A μ S H) (hc : S[n]? = some c) (ha : μ[n]? = some a) (hf : c.isF = false) (nx : Nx μ H μ (upd H a o)) (h : CR K A μ (upd H a o) c' a) : Sto K A μ (S.set n c') (upd H a o) := by
  have hn : n < S.length := (List.getElem?_eq_some_iff.mp hc).1
  have old : ∀ {i d}, (S.set n c')[i]? = some d → i ≠ n → S[i]? = some d := fun {i d} h hi => by
    rw [List.getElem?_set_ne (Ne.symm hi)] at h
    exact h
  have hd : ∀ {d}, (S.set n c')[n]? = some d → d = c' := fun {d} h => by
    rw [List.getElem?_set_self hn] at h
    exact (Option.some.inj h).symm
  refine ⟨by rw [List.length_set]; exact s.len, fun i j b c1 d1 h1 h2 h3 h4 f1 f2 => ?_, fun i d b h1 h2 => ?_⟩
  · by_cases hi : i = n
    · by_cases hj : j = n
      · rw [hi, hj]
      · have e : b = a := by rw [hi, ha] at h1; exact (Option.some.inj h1).symm
        subst e
        exact (hj (s.nd j n b d1 c h2 ha (old h4 hj) hc f2 hf)).elim
    · by_cases hj : j = n
      · have e : b = a := by rw [hj, ha] at h2; exact (Option.some.inj h2).symm
        subst e
        exact (hi (s.nd i n b c1 c h1 ha (old h3 hi) hc f1 hf)).elim
      · exact s.nd i j b c1 d1 h1 h2 (old h3 hi) (old h4 hj) f1 f2
  · by_cases hi : i = n
    · subst hi
      rw [ha] at h2
      rw [hd h1, ← Option.some.inj h2]
      exact h
    · refine (s.cell i d b (old h1 hi) h2).move nx fun f => upd_ne fun z => ?_
      subst z
      exact hi (s.nd i n b d c h2 ha (old h1 hi) hc f hf)
/-- the environment and the slots -/
structure ER (K : PySem.W.Frag) (A : Adr) (μ : List Addr) (H : Hp) (env : Env) (σ : L2.St) : Prop where
  len : env.length = σ.length
  at_ : ∀ (i : Nat) (d : D), env[i]? = some (some d) → ∃ v, σ[i]? = some (some v) ∧ RV K A μ H d v
theorem ER.mono {env : Env} {σ : L2.St} (n : Nx μ H μ' H') (e : ER K A μ H env σ) : ER K A μ' H' env σ :=
  ⟨e.len, fun i d h => let ⟨v, h1, h2⟩ := e.at_ i d h; ⟨v, h1, h2.mono n⟩⟩
theorem ER.set {env : Env} {σ : L2.St} {d : D} {v : V} (e : ER K A μ H env σ) (i : Nat) (r : RV K A μ H d v) : ER K A μ H (env.set i (some d)) (σ.set i (some v)) := by
  refine ⟨by rw [List.length_set, List.length_set]; exact e.len, fun j d' h => ?_⟩
  by_cases hj : i = j
  · subst hj
    by_cases hl : i < env.length
    · rw [List.getElem?_set_self hl] at h
      rw [List.getElem?_set_self (by rw [← e.len]; exact hl)]
      have h' := Option.some.inj (Option.some.inj h)
      exact ⟨v, rfl, h' ▸ r⟩
    · rw [List.getElem?_eq_none (by rw [List.length_set]; omega)] at h
      cases h
  · rw [List.getElem?_set_ne hj] at h ⊢
    exact e.at_ j d' h
theorem ER.wipe {env : Env} {σ : L2.St} (e : ER K A μ H env σ) : ∀ vs : List Nat, ER K A μ H (wipeE env vs) (wipe σ vs)
  | [] => e
  | v :: vs => by
    have ih := e.wipe vs
    unfold wipeE
    unfold L2.wipe
    refine ⟨by rw [List.length_set, List.length_set]; exact ih.len, fun j d h => ?_⟩
    by_cases hj : v = j
    · subst hj
      by_cases hl : v < (wipeE env vs).length
      · rw [List.getElem?_set_self hl] at h
        cases h
      · rw [List.getElem?_eq_none (by rw [List.length_set]; omega)] at h
        cases h
    · rw [List.getElem?_set_ne hj] at h ⊢
      exact ih.at_ j d h
end
end Mi

/-! Mi, part C: what the terms read. -/
namespace Mi
open PySem PySem.Spec PyProof.Rows L2

section
variable {K : PySem.W.Frag} {A : Adr} {μ μ' μ1 : List Addr} {H H' H1 : Hp} {α β γ δ : Type} {W : WX}

/-- an error as it lies -/
structure RX (K : PySem.W.Frag) (A : Adr) (μ : List Addr) (H : Hp) (e : Exn) (cls : Value) (dd : Option Addr) : Prop where
  cls : cls = .ref (A.xa e.x)
  fld : e.fs ≠ [] → ∃ d gs, dd = some d ∧ H d = some (.xd gs) ∧ ∀ f x, e.fs.lookup f = some x → ∃ v, gs.lookup f = some v ∧ RV K A μ H x v

/-- what an end of m must give -/
def Cont (K : PySem.W.Frag) (A : Adr) (W : WX) (R : List Addr → Hp → α → β → Prop) (σ : L2.St) (μ : List Addr) (H : Hp) (o : Out α) (Q : β → Hp → Prop) : Prop :=
  match o with
  | .ok d S' => ∀ v μ' H', Nx μ H μ' H' → Sto K A μ' S' H' → R μ' H' d v → Q v H'
  | .er e S' => ∀ cls dd μ' H', Nx μ H μ' H' → Sto K A μ' S' H' → RX K A μ' H' e cls dd → W cls dd σ H'
  | .no => False
theorem Cont.trans {R : List Addr → Hp → α → β → Prop} {σ : L2.St} {o : Out α} {Q : β → Hp → Prop} (n : Nx μ H μ1 H1) (h : Cont K A W R σ μ H o Q) : Cont K A W R σ μ1 H1 o Q := by
  cases o with
  | ok d S' => exact fun v μ' H' n' s r => h v μ' H' (n.trans n') s r
  | er e S' => exact fun cls dd μ' H' n' s r => h cls dd μ' H' (n.trans n') s r
  | no => exact h
theorem Cont.to {R : List Addr → Hp → α → β → Prop} {σ : L2.St} {o : Out α} {Q Q' : β → Hp → Prop} (h : Cont K A W R σ μ H o Q) (w : ∀ v H', Q v H' → Q' v H') : Cont K A W R σ μ H o Q' := by
  cases o with
  | ok d S' => exact fun v μ' H' n' s r => w _ _ (h v μ' H' n' s r)
  | er e S' => exact h
  | no => exact h
theorem Cont.bnd {R1 : List Addr → Hp → α → β → Prop} {R2 : List Addr → Hp → γ → δ → Prop} {σ : L2.St} {m : M α} {f : α → M γ} {S : Store} {Q : δ → Hp → Prop} (h : Cont K A W R2 σ μ H ((m >>= f) S) Q) :
    Cont K A W R1 σ μ H (m S) (fun v H1 => ∃ x S1 μ1, Nx μ H μ1 H1 ∧ Sto K A μ1 S1 H1 ∧ R1 μ1 H1 x v ∧ Cont K A W R2 σ μ1 H1 (f x S1) Q) := by
  have h : Cont K A W R2 σ μ H (M.bnd m f S) Q := h
  unfold M.bnd at h
  cases e : m S with
  | ok a S' =>
    rw [e] at h
    exact fun v μ' H' n s r => ⟨a, S', μ', n, s, r, Cont.trans n h⟩
  | er x S' =>
    rw [e] at h
    exact h
  | no =>
    rw [e] at h
    exact h
/-- a step that leaves the heap -/
theorem Cont.pure {R2 : List Addr → Hp → γ → δ → Prop} {σ : L2.St} {m : M α} {f : α → M γ} {S : Store} {Q : δ → Hp → Prop} (h : Cont K A W R2 σ μ H ((m >>= f) S) Q) (hm : ∀ e S', m S ≠ .er e S') : ∃ a S', m S = .ok a S' ∧ Cont K A W R2 σ μ H (f a S') Q := by
  have h : Cont K A W R2 σ μ H (M.bnd m f S) Q := h
  unfold M.bnd at h
  cases e : m S with
  | ok a S' =>
    rw [e] at h
    exact ⟨a, S', rfl, h⟩
  | er x S' => exact absurd e (hm x S')
  | no =>
    rw [e] at h
    exact h.elim
theorem Cont.need {R2 : List Addr → Hp → γ → δ → Prop} {σ : L2.St} {b : Bool} {f : Unit → M γ} {S : Store} {Q : δ → Hp → Prop} (h : Cont K A W R2 σ μ H ((M.need b >>= f) S) Q) : b = true ∧ Cont K A W R2 σ μ H (f () S) Q := by
  cases b with
  | true => exact ⟨rfl, h⟩
  | false => exact False.elim h
theorem Cont.ofO {R2 : List Addr → Hp → γ → δ → Prop} {σ : L2.St} {b : Option α} {f : α → M γ} {S : Store} {Q : δ → Hp → Prop} (h : Cont K A W R2 σ μ H ((Mi.ofO b >>= f) S) Q) : ∃ a, b = some a ∧ Cont K A W R2 σ μ H (f a S) Q := by
  cases b with
  | some a => exact ⟨a, rfl, h⟩
  | none => exact False.elim h
theorem Cont.getL {R2 : List Addr → Hp → γ → δ → Prop} {σ : L2.St} {r : Nat} {f : List D → M γ} {S : Store} {Q : δ → Hp → Prop} (s : Sto K A μ S H) (h : Cont K A W R2 σ μ H ((Mi.getL r >>= f) S) Q) {a : Addr} (ha : μ[r]? = some a) :
    ∃ ds vs, SqL K H a vs ∧ RVs K A μ H ds vs ∧ Cont K A W R2 σ μ H (f ds S) Q ∧ (S[r]? = some (.lst ds) ∨ S[r]? = some (.frz ds)) := by
  have h : Cont K A W R2 σ μ H (M.bnd (Mi.getL r) f S) Q := h
  unfold M.bnd Mi.getL at h
  cases e : S[r]? with
  | none => rw [e] at h; exact h.elim
  | some c =>
    rw [e] at h
    cases c with
    | lst ds =>
      obtain ⟨vs, h1, h2⟩ := s.cell r _ a e ha
      exact ⟨ds, vs, .inl (.inl h1), h2, h, .inl rfl⟩
    | frz ds =>
      obtain ⟨vs, h1, h2⟩ := s.cell r _ a e ha
      exact ⟨ds, vs, h1.sq, h2, h, .inr rfl⟩
    | dic kvs => exact h.elim
    | ins c fs => exact h.elim
theorem Cont.getW {R2 : List Addr → Hp → γ → δ → Prop} {σ : L2.St} {r : Nat} {f : List D → M γ} {S : Store} {Q : δ → Hp → Prop} (s : Sto K A μ S H) (h : Cont K A W R2 σ μ H ((Mi.getW r >>= f) S) Q) {a : Addr} (ha : μ[r]? = some a) :
    ∃ ds vs, H a = some (.lst vs) ∧ RVs K A μ H ds vs ∧ Cont K A W R2 σ μ H (f ds S) Q ∧ S[r]? = some (.lst ds) := by
  have h : Cont K A W R2 σ μ H (M.bnd (Mi.getW r) f S) Q := h
  unfold M.bnd Mi.getW at h
  cases e : S[r]? with
  | none => rw [e] at h; exact h.elim
  | some c =>
    rw [e] at h
    cases c with
    | lst ds =>
      obtain ⟨vs, h1, h2⟩ := s.cell r _ a e ha
      exact ⟨ds, vs, h1, h2, h, rfl⟩
    | frz ds => exact h.elim
    | dic kvs => exact h.elim
    | ins c fs => exact h.elim
/-- the list at a is written -/
theorem wrL {S : Store} {r : Nat} {a : Addr} {vs us : List V} {ds es : List D} (s : Sto K A μ S H) (ha : μ[r]? = some a) (hr : S[r]? = some (.lst ds)) (h : H a = some (.lst vs)) (q : RVs K A μ H es us) :
    Nx μ H μ (upd H a (.lst us)) ∧ Sto K A μ (S.set r (.lst es)) (upd H a (.lst us)) := by
  have n : Nx μ H μ (upd H a (.lst us)) := Nx.wr ha h (fun _ z => by cases z) (fun _ _ z => by cases z)
  exact ⟨n, s.wr hr ha rfl n ⟨us, upd_same, q.mono n⟩⟩
theorem Cont.setL {R2 : List Addr → Hp → γ → δ → Prop} {σ : L2.St} {r : Nat} {es : List D} {f : Unit → M γ} {S : Store} {Q : δ → Hp → Prop} (h : Cont K A W R2 σ μ H ((Mi.setL r es >>= f) S) Q) {ds : List D} (hr : S[r]? = some (.lst ds)) :
    Cont K A W R2 σ μ H (f () (S.set r (.lst es))) Q := by
  have h : Cont K A W R2 σ μ H (M.bnd (Mi.setL r es) f S) Q := h
  unfold M.bnd Mi.setL at h
  rw [hr] at h
  exact h
/-- a new list -/
theorem Cont.newL {σ : L2.St} {ds : List D} {vs : List V} {S : Store} {Q : V → Hp → Prop} (s : Sto K A μ S H) (h : Cont K A W (RV K A) σ μ H (newC (.lst ds) S) Q) (r : RVs K A μ H ds vs) {p : Addr} (hp : H p = none) : Q (.ref p) (upd H p (.lst vs)) := by
  have n : Nx μ H (μ ++ [p]) (upd H p (.lst vs)) := Nx.newC hp
  refine h (.ref p) (μ ++ [p]) _ n (s.newC hp ⟨vs, upd_same, r.mono n⟩) (.ref ?_)
  rw [← s.len, List.getElem?_append_right (Nat.le_refl _), Nat.sub_self]
  rfl

/-- the reading of an m -/
def uG (K : PySem.W.Frag) (A : Adr) (W : WX) (R : List Addr → Hp → α → β → Prop) (m : Env → M α) : L2.St → Hp → (β → Hp → Prop) → Prop := fun σ H Q =>
  ∃ env S μ, ER K A μ H env σ ∧ Sto K A μ S H ∧ Cont K A W R σ μ H (m env S) Q
abbrev uE (K : PySem.W.Frag) (A : Adr) (W : WX) (m : Env → M D) : TE := uG K A W (RV K A) m
theorem Cont_to_uE {R : List Addr → Hp → α → β → Prop} {m : Env → M α} {σ : L2.St} {H : Hp} {Q Q' : β → Hp → Prop} (h : uG K A W R m σ H Q) (w : ∀ v H', Q v H' → Q' v H') : uG K A W R m σ H Q' := by
  obtain ⟨env, S, μ, hE, hS, hc⟩ := h
  exact ⟨env, S, μ, hE, hS, hc.to w⟩
abbrev uT (K : PySem.W.Frag) (A : Adr) (W : WX) (m : Env → M Bool) : TT := uG K A W (fun _ _ a b => a = b) m
abbrev uA (K : PySem.W.Frag) (A : Adr) (W : WX) (m : Env → M (List D)) : TA := uG K A W (RVs K A) m
abbrev uO (K : PySem.W.Frag) (A : Adr) (W : WX) (m : Env → M (Option Int)) : TO := uG K A W (fun _ _ a b => a = b) m
end
section
variable {X : Cx} {e : Expr}
theorem PE.imp {t t' : TE} (h : PE X e t) (w : ∀ σ H Q, t' σ H Q → t σ H Q) : PE X e t' := ⟨fun pins s σ H Q I q => h.run pins s σ H Q I (w σ H Q q)⟩
theorem PT.imp {t t' : TT} (h : PT X e t) (w : ∀ σ H Q, t' σ H Q → t σ H Q) : PT X e t' := ⟨fun pins s σ H Q I q => h.run pins s σ H Q I (w σ H Q q)⟩
theorem PW.imp {t t' : TT} (h : PW X e t) (w : ∀ σ H Q, t' σ H Q → t σ H Q) : PW X e t' := ⟨fun wh pins s σ H Q I q => h.run wh pins s σ H Q I (w σ H Q q)⟩
theorem PE.or {t t' : TE} (h : PE X e t) (h' : PE X e t') : PE X e (fun σ H Q => t σ H Q ∨ t' σ H Q) := ⟨fun pins s σ H Q I q => q.elim (h.run pins s σ H Q I) (h'.run pins s σ H Q I)⟩
theorem PI.imp {tg : Expr} {t t' : TI} (h : PI X tg e t) (w : ∀ σ H R, t' σ H R → t σ H R) : PI X tg e t' := ⟨fun pins s σ H R I q => h.run pins s σ H R I (w σ H R q)⟩
theorem PI.or {tg : Expr} {t t' : TI} (h : PI X tg e t) (h' : PI X tg e t') : PI X tg e (fun σ H Q => t σ H Q ∨ t' σ H Q) := ⟨fun pins s σ H Q I q => q.elim (h.run pins s σ H Q I) (h'.run pins s σ H Q I)⟩
theorem OpR.or {f : Value → Value → Sem Value} {r r' : R2} (h : OpR X f r) (h' : OpR X f r') : OpR X f (fun x y H Q => r x y H Q ∨ r' x y H Q) := by
  intro pins s σ H x y v u Q I rx ry q
  rcases q with q | q
  · exact h pins s σ H x y v u Q I rx ry q
  · exact h' pins s σ H x y v u Q I rx ry q
theorem CallR.or {f : Value} {r r' : List V → Hp → VK → Prop} (h : CallR X f r) (h' : CallR X f r') : CallR X f (fun x H Q => r x H Q ∨ r' x H Q) := by
  intro pins s σ H xs us Q I rx q
  rcases q with q | q
  · exact h pins s σ H xs us Q I rx q
  · exact h' pins s σ H xs us Q I rx q
end

/-! ### operators -/
section
variable {X : Cx} {A : Adr}
/-- an operator on data: what its rule asks follows from what the evaluator tells -/
def Serves (X : Cx) (A : Adr) (f : D → D → M D) (r : R2) : Prop :=
  ∀ (W : WX) (σ : L2.St) (x y : D) (v w : V) (μ : List Addr) (H : Hp) (S : Store) (Q : VK), Sto X.K A μ S H → RV X.K A μ H x v → RV X.K A μ H y w → Cont X.K A W (RV X.K A) σ μ H (f x y S) Q → r v w H Q
theorem tOp_of {f : D → D → M D} {r : R2} (hr : Serves X A f r) {W : WX} {ma mb : Env → M D} : ∀ σ H Q, uE X.K A W (fun env => do let x ← ma env; let y ← mb env; f x y) σ H Q → tOp r (uE X.K A W ma) (uE X.K A W mb) σ H Q := by
  rintro σ H Q ⟨env, S, μ, hE, hS, h⟩
  refine ⟨env, S, μ, hE, hS, (Cont.bnd h).to ?_⟩
  rintro v H1 ⟨x, S1, μ1, n1, s1, r1, h1⟩
  refine ⟨env, S1, μ1, hE.mono n1, s1, (Cont.bnd h1).to ?_⟩
  rintro w H2 ⟨y, S2, μ2, n2, s2, r2, h2⟩
  exact hr W σ x y v w μ2 H2 S2 Q s2 (r1.mono n2) r2 h2
/-- the end of a pure step -/
theorem Cont.out {K : PySem.W.Frag} {μ : List Addr} {H : Hp} {α β : Type} {W : WX} {R : List Addr → Hp → α → β → Prop} {σ : L2.St} {d : α} {S : Store} {Q : β → Hp → Prop} (h : Cont K A W R σ μ H (M.ret d S) Q) (s : Sto K A μ S H) {v : β} (r : R μ H d v) : Q v H :=
  h v μ H Nx.refl s r
theorem lim_size {n : Nat} (h : n ≤ lim) : n ≤ sizeLine := Nat.le_trans h (by rw [sizeLine_eq]; decide)
theorem lim_lt {n : Nat} (h : n < lim) : n < sizeLine := Nat.lt_of_lt_of_le h (by rw [sizeLine_eq]; decide)
/-- a new tuple -/
theorem Cont.tup {K : PySem.W.Frag} {μ : List Addr} {H : Hp} {W : WX} {σ : L2.St} {ds : List D} {vs : List V} {S : Store} {Q : V → Hp → Prop} (h : Cont K A W (RV K A) σ μ H (M.ret (.tup ds) S) Q) (s : Sto K A μ S H) (r : RVs K A μ H ds vs) {p : Addr} (hp : H p = none) : Q (.ref p) (upd H p (.tup vs)) :=
  h (.ref p) μ _ (Nx.newT hp) (s.newT hp) (.tup (.inl upd_same) (r.mono (Nx.newT hp)))

abbrev rAddU (K : PySem.W.Frag) : R2 := fun x y H Q => rI0 (fun i j => .int (i + j)) x y H Q ∨ ((∃ i j, x = .str i ∧ y = .str j ∧ i.length + j.length ≤ sizeLine ∧ Q (.str (i ++ j)) H) ∨ (rCatA K x y H Q ∨ rCat x y H Q))
theorem op_addU : OpR X (binaryOp .Add) (rAddU X.K) := OpR.or op_add (OpR.or op_add_str (OpR.or op_catA op_cat))
theorem sv_add : Serves X A (binM .add) (rAddU X.K) := by
  intro W σ x y v w μ H S Q s rx ry h
  cases rx with
  | int i =>
    cases ry with
    | int j => exact .inl ⟨i, j, rfl, rfl, h.out s (.int _)⟩
    | _ => exact False.elim h
  | str i =>
    cases ry with
    | str j =>
      obtain ⟨h0, h⟩ := Cont.need h
      exact .inr (.inl ⟨i, j, rfl, rfl, lim_size (of_decide_eq_true h0), h.out s (.str _)⟩)
    | _ => exact False.elim h
  | tup q1 r1 =>
    cases ry with
    | tup q2 r2 =>
      obtain ⟨h0, h⟩ := Cont.need h
      rw [r1.length, r2.length] at h0
      refine .inr (.inr (.inl ⟨_, _, _, _, rfl, rfl, q1.sq, q2.sq, lim_size (of_decide_eq_true h0), fun e => ?_, fun _ e => ?_, fun _ _ p hp => h.tup s (r1.append r2) hp⟩))
      · subst e
        cases r1
        exact h.out s (.tup q2 r2)
      · subst e
        cases r2
        rw [List.append_nil] at h
        exact h.out s (.tup q1 r1)
    | _ => exact False.elim h
  | ref e1 =>
    cases ry with
    | ref e2 =>
      obtain ⟨ds, vs, g1, t1, h, _⟩ := Cont.getW s h e1
      obtain ⟨es, us, g2, t2, h, _⟩ := Cont.getW s h e2
      obtain ⟨h0, h⟩ := Cont.need h
      rw [t1.length, t2.length] at h0
      exact .inr (.inr (.inr ⟨_, _, _, _, rfl, rfl, g1, g2, lim_size (of_decide_eq_true h0), fun p hp => Cont.newL s h (t1.append t2) hp⟩))
    | _ => exact False.elim h
  | _ => exact False.elim h

/-! the others -/
def opAst : BOp → Operator
  | .add => .Add | .sub => .Sub | .mul => .Mult | .fdiv => .FloorDiv | .mod => .Mod | .pow => .Pow | .shl => .LShift | .shr => .RShift | .band => .BitAnd
def rBop (K : PySem.W.Frag) : BOp → R2
  | .add => rAddU K
  | .sub => rI0 fun i j => .int (i - j)
  | .mul => fun x y H Q => rI CMul (fun i j => .int (i * j)) x y H Q ∨ rRep2 K x y H Q
  | .fdiv => rI CDivN fun i j => .int (i.fdiv j)
  | .mod => rI (fun _ j => j ≠ 0) fun i j => .int (i.fmod j)
  | .pow => rI CPow fun i j => .int (i ^ j.toNat)
  | .shl => rI CPow fun i j => .int (i * 2 ^ j.toNat)
  | .shr => rI (fun _ j => 0 ≤ j) fun i j => .int (i / 2 ^ j.toNat)
  | .band => rI0 fun i j => .int (Builtin.bitAnd i j)
theorem op_bop : ∀ o : BOp, OpR X (binaryOp (opAst o)) (rBop X.K o)
  | .add => op_addU
  | .sub => op_sub
  | .mul => OpR.or op_mul op_rep2
  | .fdiv => op_fdivN
  | .mod => op_modN
  | .pow => op_pow
  | .shl => op_shl
  | .shr => op_shr
  | .band => op_and
theorem sv_bop : ∀ o : BOp, Serves X A (binM o) (rBop X.K o)
  | .add => sv_add
  | .sub => by
    intro W σ x y v w μ H S Q s rx ry h
    cases rx with
    | int i =>
      cases ry with
      | int j => exact ⟨i, j, rfl, rfl, h.out s (.int _)⟩
      | _ => exact False.elim h
    | _ => exact False.elim h
  | .mul => by
    intro W σ x y v w μ H S Q s rx ry h
    cases rx with
    | int i =>
      cases ry with
      | int j =>
        obtain ⟨h0, h⟩ := Cont.need h
        rw [Bool.or_eq_true] at h0
        exact .inl ⟨i, j, rfl, rfl, h0.imp (fun z => of_decide_eq_true z) (fun z => of_decide_eq_true z), h.out s (.int _)⟩
      | _ => exact False.elim h
    | @tup ds a vs q t =>
      cases ry with
      | int k =>
        obtain ⟨h0, h⟩ := Cont.need h
        rw [Bool.and_eq_true] at h0
        have h1 : 2 ≤ k ∧ k ≤ 1000000 ∧ k.toNat * ds.length ≤ 1000000 := of_decide_eq_true h0.2
        have e := t.length
        have ne : vs ≠ [] := fun z => by
          rw [z] at e
          have : ds = [] := List.eq_nil_of_length_eq_zero e
          rw [this] at h0
          exact absurd h0.1 (by decide)
        exact .inr ⟨a, k, vs, rfl, rfl, q.sq, ne, h1.1, h1.2.1, by rw [← e]; exact h1.2.2, fun p hp => h.tup s (t.rep k.toNat) hp⟩
      | _ => exact False.elim h
    | _ => exact False.elim h
  | .fdiv => by
    intro W σ x y v w μ H S Q s rx ry h
    cases rx with
    | int i =>
      cases ry with
      | int j =>
        obtain ⟨h0, h⟩ := Cont.need h
        have h1 : j ≠ 0 ∧ j.natAbs < 1073741824 := of_decide_eq_true h0
        exact ⟨i, j, rfl, rfl, h1, h.out s (.int _)⟩
      | _ => exact False.elim h
    | _ => exact False.elim h
  | .mod => by
    intro W σ x y v w μ H S Q s rx ry h
    cases rx with
    | int i =>
      cases ry with
      | int j =>
        obtain ⟨h0, h⟩ := Cont.need h
        exact ⟨i, j, rfl, rfl, of_decide_eq_true h0, h.out s (.int _)⟩
      | _ => exact False.elim h
    | _ => exact False.elim h
  | .pow => by
    intro W σ x y v w μ H S Q s rx ry h
    cases rx with
    | int i =>
      cases ry with
      | int j =>
        obtain ⟨h0, h⟩ := Cont.need h
        have h1 : 0 ≤ j ∧ j ≤ 1000000 ∧ i.natAbs < 2 ^ 64 := of_decide_eq_true h0
        exact ⟨i, j, rfl, rfl, h1, h.out s (.int _)⟩
      | _ => exact False.elim h
    | _ => exact False.elim h
  | .shl => by
    intro W σ x y v w μ H S Q s rx ry h
    cases rx <;> exact False.elim h
  | .shr => by
    intro W σ x y v w μ H S Q s rx ry h
    cases rx <;> exact False.elim h
  | .band => by
    intro W σ x y v w μ H S Q s rx ry h
    cases rx <;> exact False.elim h

/-! ### data that are compared -/
theorem mapM_some {α β : Type} {f : α → Option β} : ∀ {xs : List α} {ys : List β}, xs.mapM f = some ys → Paired (fun x y => f x = some y) xs ys
  | [], ys, h => by
    rw [List.mapM_nil] at h
    cases h
    exact .nil
  | x :: xs, ys, h => by
    rw [List.mapM_cons] at h
    cases e : f x with
    | none => rw [e] at h; cases h
    | some y =>
      rw [e] at h
      cases e2 : xs.mapM f with
      | none => rw [e2] at h; cases h
      | some zs =>
        rw [e2] at h
        cases h
        exact .cons e (mapM_some e2)
def okPy (n : Nat) (p : PyData) : Prop := p.canLay0 = true ∧ p.depth ≤ n
theorem okAll {n : Nat} : ∀ {ps : List PyData}, (∀ p ∈ ps, okPy n p) → PyData.canLayAll0 ps = true ∧ PyData.depthAll ps ≤ n
  | [], _ => ⟨rfl, Nat.zero_le _⟩
  | p :: ps, h => by
    obtain ⟨h1, h2⟩ := okAll (ps := ps) fun q hq => h q (List.mem_cons_of_mem _ hq)
    obtain ⟨h3, h4⟩ := h p List.mem_cons_self
    refine ⟨by unfold PyData.canLayAll0; rw [h3, h1]; rfl, ?_⟩
    unfold PyData.depthAll
    omega
theorem dp_all {K : PySem.W.Frag} {μ : List Addr} {H : Hp} {S : Store} {n : Nat} (ih : ∀ (d : D) (v : V) (p : PyData), RV K A μ H d v → toPy S n d = some p → Dp K H v p ∧ okPy n p) :
    ∀ {ds : List D} {vs : List V} {ps : List PyData}, RVs K A μ H ds vs → Paired (fun x y => toPy S n x = some y) ds ps → DpAll K H vs ps ∧ ∀ p ∈ ps, okPy n p
  | _, _, _, .nil, .nil => ⟨.nil, fun p hp => by cases hp⟩
  | _, _, _, .cons r t, .cons e q => by
    obtain ⟨h1, h2⟩ := ih _ _ _ r e
    obtain ⟨h3, h4⟩ := dp_all ih t q
    refine ⟨.cons h1 h3, fun p hp => ?_⟩
    rcases List.mem_cons.mp hp with rfl | hp
    · exact h2
    · exact h4 p hp
theorem toPy_dp {K : PySem.W.Frag} {μ : List Addr} {H : Hp} {S : Store} (s : Sto K A μ S H) : ∀ (n : Nat) (d : D) (v : V) (p : PyData), RV K A μ H d v → toPy S n d = some p → Dp K H v p ∧ okPy n p
  | 0, d, v, p, _, h => by cases h
  | n + 1, d, v, p, r, h => by
    have lay : ∀ (ds : List D) (vs : List V) (ps : List PyData), RVs K A μ H ds vs → ds.mapM (toPy S n) = some ps → DpAll K H vs ps ∧ PyData.canLayAll0 ps = true ∧ PyData.depthAll ps ≤ n := fun ds vs ps r e => by
      obtain ⟨h1, h2⟩ := dp_all (A := A) (fun d v p => toPy_dp s n d v p) r (mapM_some e)
      exact ⟨h1, okAll h2⟩
    cases r with
    | non => cases h; exact ⟨.non, rfl, Nat.zero_le _⟩
    | bl b => cases h; exact ⟨.bl b, rfl, Nat.zero_le _⟩
    | int i => cases h; exact ⟨.int i, rfl, Nat.zero_le _⟩
    | str x =>
      unfold toPy at h
      by_cases hx : PyData.strOk x = true
      · simp only [hx, if_true] at h
        cases h
        exact ⟨.str x, hx, Nat.zero_le _⟩
      · simp only [hx] at h
        cases h
    | tup q t =>
      unfold toPy at h
      simp only [Option.map_eq_some_iff] at h
      obtain ⟨ps, e, rfl⟩ := h
      obtain ⟨h1, h2, h3⟩ := lay _ _ _ t e
      refine ⟨.tup q.sq h1, by unfold PyData.canLay0; exact h2, ?_⟩
      unfold PyData.depth
      omega
    | @ref m a e =>
      unfold toPy at h
      simp only at h
      split at h
      · rename_i ds hc
        simp only [Option.map_eq_some_iff] at h
        obtain ⟨ps, e2, rfl⟩ := h
        obtain ⟨vs, g1, g2⟩ := s.cell _ _ _ hc e
        obtain ⟨h1, h2, h3⟩ := lay _ _ _ g2 e2
        refine ⟨.lst (.inl (.inl g1)) h1, by unfold PyData.canLay0; exact h2, ?_⟩
        unfold PyData.depth
        omega
      · rename_i ds hc
        simp only [Option.map_eq_some_iff] at h
        obtain ⟨ps, e2, rfl⟩ := h
        obtain ⟨vs, g1, g2⟩ := s.cell _ _ _ hc e
        obtain ⟨h1, h2, h3⟩ := lay _ _ _ g2 e2
        refine ⟨.lst g1.sq h1, by unfold PyData.canLay0; exact h2, ?_⟩
        unfold PyData.depth
        omega
      · cases h
    | fn f => cases h
    | ty t => cases h
theorem shaped_of {n : Nat} {p : PyData} (h : okPy n p) (hn : n ≤ 64) : SeqAt.shaped p = true := by
  unfold SeqAt.shaped
  rw [h.1, Bool.true_and]
  exact decide_eq_true (Nat.le_trans h.2 hn)

abbrev rEqU (K : PySem.W.Frag) : R2 := fun x y H Q => rEq x y H Q ∨ rEqD K x y H Q
abbrev rNeU (K : PySem.W.Frag) : R2 := fun x y H Q => rNe x y H Q ∨ rNeD K x y H Q
/-- == as the evaluator has it, by the rules -/
theorem eq_sv {K : PySem.W.Frag} {μ : List Addr} {H : Hp} {S : Store} (s : Sto K A μ S H) {x y : D} {v w : V} {k : Bool} {S' : Store} (rx : RV K A μ H x v) (ry : RV K A μ H y w) (h : eqM x y S = .ok k S') :
    S' = S ∧ ((scal v w = true ∧ decide (v = w) = k) ∨ ∃ d e, Dp K H v d ∧ Dp K H w e ∧ SeqAt.shaped d = true ∧ SeqAt.shaped e = true ∧ PyData.eqv d e = k) := by
  have gen : (match toPy S 60 x, toPy S 60 y with | some p, some q => (.ok (PyData.eqv p q) S : Out Bool) | _, _ => .no) = .ok k S' → S' = S ∧ ((scal v w = true ∧ decide (v = w) = k) ∨ ∃ d e, Dp K H v d ∧ Dp K H w e ∧ SeqAt.shaped d = true ∧ SeqAt.shaped e = true ∧ PyData.eqv d e = k) := fun h => by
    split at h
    · rename_i p q e1 e2
      cases h
      obtain ⟨h1, h2⟩ := toPy_dp s 60 x v p rx e1
      obtain ⟨h3, h4⟩ := toPy_dp s 60 y w q ry e2
      exact ⟨rfl, .inr ⟨p, q, h1, h3, shaped_of h2 (by omega), shaped_of h4 (by omega), rfl⟩⟩
    · cases h
  have sc : ∀ {b : Bool}, (M.ret b S : Out Bool) = .ok k S' → S' = S ∧ b = k := fun {b} h => by
    cases h
    exact ⟨rfl, rfl⟩
  cases rx with
  | non =>
    cases ry with
    | non => obtain ⟨h1, h2⟩ := sc (b := true) h; exact ⟨h1, .inl ⟨rfl, h2⟩⟩
    | _ => exact gen h
  | bl a =>
    cases ry with
    | bl b =>
      obtain ⟨h1, h2⟩ := sc (b := decide (a = b)) h
      refine ⟨h1, .inl ⟨rfl, ?_⟩⟩
      rw [← h2, decide_eq_decide]
      exact ⟨fun z => V.bl.inj z, fun z => by rw [z]⟩
    | _ => exact gen h
  | int a =>
    cases ry with
    | int b =>
      obtain ⟨h1, h2⟩ := sc (b := decide (a = b)) h
      refine ⟨h1, .inl ⟨rfl, ?_⟩⟩
      rw [← h2, decide_eq_decide]
      exact ⟨fun z => V.int.inj z, fun z => by rw [z]⟩
    | str b => obtain ⟨h1, h2⟩ := sc (b := false) h; exact ⟨h1, .inl ⟨rfl, h2⟩⟩
    | _ => exact gen h
  | str a =>
    cases ry with
    | str b =>
      obtain ⟨h1, h2⟩ := sc (b := decide (a = b)) h
      refine ⟨h1, .inl ⟨rfl, ?_⟩⟩
      rw [← h2, decide_eq_decide]
      exact ⟨fun z => V.str.inj z, fun z => by rw [z]⟩
    | int b => obtain ⟨h1, h2⟩ := sc (b := false) h; exact ⟨h1, .inl ⟨rfl, h2⟩⟩
    | _ => exact gen h
  | tup q t => cases ry <;> exact gen h
  | ref e => cases ry <;> exact gen h
  | fn f => cases ry <;> exact gen h
  | ty f => cases ry <;> exact gen h
theorem eqM_er (x y : D) (S : Store) (e : Exn) (S' : Store) : eqM x y S ≠ .er e S' := by
  unfold eqM
  split <;> first | (intro h; cases h) | (dsimp only; split <;> (intro h; cases h))
end
end Mi

/-! Mi, part D: comparisons, items, what is built in. -/
namespace Mi
open PySem PySem.Spec PyProof.Rows L2
section
variable {X : Cx} {A : Adr}

/-! ### in -/
def rInDT (K : PySem.W.Frag) (neg : Bool) : R2 := fun x y H Q => ∃ d ds, Dp K H x d ∧ (Dp K H y (.list ds) ∧ SeqAt.shaped (.list ds) = true ∨ Dp K H y (.tuple ds) ∧ SeqAt.shaped (.tuple ds) = true) ∧ SeqAt.shaped d = true ∧
  Q (.bl (if neg then !(ds.any fun z => PyData.eqv z d) else ds.any fun z => PyData.eqv z d)) H
theorem op_inDT (hu : X.A.units + 65 < cLine) : OpR X (compareOp .In) (rInDT X.K false) := by
  rintro pins s σ H x y v u Q I rx ry ⟨d, ds, hd, hy, sd, q⟩
  obtain ⟨as, r1⟩ := Dp.reads I d x v hd rx
  rcases hy with ⟨he, se⟩ | ⟨he, se⟩
  · obtain ⟨bs, r2⟩ := Dp.reads I (.list ds) y u he ry
    exact SeqAt.in_list_reads r2 r1 (SeqAt.canLay_of_shaped se) (SeqAt.canLay_of_shaped sd) (room_in_shaped sd hu) ⟨.bl _, H, I, rfl, q⟩
  · obtain ⟨bs, r2⟩ := Dp.reads I (.tuple ds) y u he ry
    exact SeqAt.in_tuple_reads r2 r1 (SeqAt.canLay_of_shaped se) (SeqAt.canLay_of_shaped sd) (room_in_shaped sd hu) ⟨.bl _, H, I, rfl, q⟩
theorem op_ninDT (hu : X.A.units + 65 < cLine) : OpR X (compareOp .NotIn) (rInDT X.K true) := by
  rintro pins s σ H x y v u Q I rx ry ⟨d, ds, hd, hy, sd, q⟩
  obtain ⟨as, r1⟩ := Dp.reads I d x v hd rx
  rcases hy with ⟨he, se⟩ | ⟨he, se⟩
  · obtain ⟨bs, r2⟩ := Dp.reads I (.list ds) y u he ry
    exact SeqAt.notIn_list_reads r2 r1 (SeqAt.canLay_of_shaped se) (SeqAt.canLay_of_shaped sd) (room_in_shaped sd hu) ⟨.bl _, H, I, rfl, q⟩
  · obtain ⟨bs, r2⟩ := Dp.reads I (.tuple ds) y u he ry
    exact SeqAt.notIn_tuple_reads r2 r1 (SeqAt.canLay_of_shaped se) (SeqAt.canLay_of_shaped sd) (room_in_shaped sd hu) ⟨.bl _, H, I, rfl, q⟩
abbrev rInSg : R2 := fun x y H Q => ∃ (c : Nat) (z : Str), x = .str ⟨#[c]⟩ ∧ y = .str z ∧ Q (.bl (decide (c ∈ z.cps.toList))) H
abbrev rNinSg : R2 := fun x y H Q => ∃ (c : Nat) (z : Str), x = .str ⟨#[c]⟩ ∧ y = .str z ∧ Q (.bl (!decide (c ∈ z.cps.toList))) H

/-- what the evaluator's «in» tells -/
theorem in_sv {K : PySem.W.Frag} {μ : List Addr} {H : Hp} {S : Store} (s : Sto K A μ S H) {x y : D} {v w : V} {k : Bool} {S' : Store} (rx : RV K A μ H x v) (ry : RV K A μ H y w) (h : inM x y S = .ok k S') :
    S' = S ∧ ((∃ c z, v = .str ⟨#[c]⟩ ∧ w = .str z ∧ decide (c ∈ z.cps.toList) = k) ∨ ∃ d ds, Dp K H v d ∧ (Dp K H w (.list ds) ∧ SeqAt.shaped (.list ds) = true ∨ Dp K H w (.tuple ds) ∧ SeqAt.shaped (.tuple ds) = true) ∧ SeqAt.shaped d = true ∧ (ds.any fun z => PyData.eqv z d) = k) := by
  have any : ∀ {ds : List D} {vs : List V}, RVs K A μ H ds vs → anyEq x ds S = .ok k S' → S' = S ∧ ∃ d ps, Dp K H v d ∧ DpAll K H vs ps ∧ PyData.canLayAll0 ps = true ∧ PyData.depthAll ps ≤ 59 ∧ SeqAt.shaped d = true ∧ (ps.any fun z => PyData.eqv z d) = k := fun {ds vs} r h => by
    unfold anyEq at h
    split at h
    · rename_i p qs e1 e2
      cases h
      obtain ⟨h1, h2⟩ := toPy_dp s 60 x v p rx e1
      obtain ⟨h3, h4⟩ := dp_all (A := A) (fun d v p => toPy_dp s 59 d v p) r (mapM_some e2)
      obtain ⟨h5, h6⟩ := okAll h4
      exact ⟨rfl, p, qs, h1, h3, h5, h6, shaped_of h2 (by omega), rfl⟩
    · cases h
  have sh : ∀ {ps : List PyData}, PyData.canLayAll0 ps = true → PyData.depthAll ps ≤ 59 → SeqAt.shaped (.list ps) = true ∧ SeqAt.shaped (.tuple ps) = true := fun {ps} h1 h2 => by
    refine ⟨shaped_of (n := 60) ⟨by unfold PyData.canLay0; exact h1, by unfold PyData.depth; omega⟩ (by omega), shaped_of (n := 60) ⟨by unfold PyData.canLay0; exact h1, by unfold PyData.depth; omega⟩ (by omega)⟩
  cases ry with
  | @tup ts b us q r =>
    have h : anyEq x ts S = .ok k S' := by cases rx <;> exact h
    obtain ⟨e, d, ps, h1, h2, h3, h4, h5, h6⟩ := any r h
    exact ⟨e, .inr ⟨d, ps, h1, .inr ⟨.tup q.sq h2, (sh h3 h4).2⟩, h5, h6⟩⟩
  | @ref n a e0 =>
    have h : (getL n >>= fun ds => anyEq x ds) S = .ok k S' := by cases rx <;> exact h
    have h : M.bnd (getL n) (fun ds => anyEq x ds) S = .ok k S' := h
    unfold M.bnd getL at h
    cases e : S[n]? with
    | none => rw [e] at h; cases h
    | some c =>
      rw [e] at h
      cases c with
      | lst ds =>
        obtain ⟨vs, g1, g2⟩ := s.cell n _ a e e0
        obtain ⟨e, d, ps, h1, h2, h3, h4, h5, h6⟩ := any g2 h
        exact ⟨e, .inr ⟨d, ps, h1, .inl ⟨.lst (.inl (.inl g1)) h2, (sh h3 h4).1⟩, h5, h6⟩⟩
      | frz ds =>
        obtain ⟨vs, g1, g2⟩ := s.cell n _ a e e0
        obtain ⟨e, d, ps, h1, h2, h3, h4, h5, h6⟩ := any g2 h
        exact ⟨e, .inr ⟨d, ps, h1, .inl ⟨.lst g1.sq h2, (sh h3 h4).1⟩, h5, h6⟩⟩
      | dic kvs => cases h
      | ins c fs => cases h
  | str z =>
    cases rx with
    | str x =>
      have h : inSg z x.cps.toList S = .ok k S' := h
      obtain ⟨cps⟩ := x
      have h : inSg z cps.toList S = .ok k S' := h
      generalize e : cps.toList = l at h
      match l, h, e with
      | [c], h, e =>
        cases h
        refine ⟨rfl, .inl ⟨c, z, ?_, rfl, rfl⟩⟩
        have : cps = #[c] := by
          rw [← Array.toList_inj]
          exact e
        rw [this]
      | [], h, e => cases h
      | _ :: _ :: _, h, e => cases h
    | _ => exact absurd h (by intro z; cases z)
  | non => cases rx <;> exact absurd h (by intro z; cases z)
  | bl b => cases rx <;> exact absurd h (by intro z; cases z)
  | int b => cases rx <;> exact absurd h (by intro z; cases z)
  | fn b => cases rx <;> exact absurd h (by intro z; cases z)
  | ty b => cases rx <;> exact absurd h (by intro z; cases z)
theorem anyEq_er (x : D) (ds : List D) (S : Store) (e : Exn) (S' : Store) : anyEq x ds S ≠ .er e S' := by
  unfold anyEq
  split <;> (intro h; cases h)
theorem inM_er (x y : D) (S : Store) (e : Exn) (S' : Store) : inM x y S ≠ .er e S' := by
  unfold inM
  split
  · rename_i x y
    generalize x.cps.toList = l
    match l with
    | [c] => intro h; cases h
    | [] => intro h; cases h
    | _ :: _ :: _ => intro h; cases h
  · exact anyEq_er _ _ _ _ _
  · rename_i r
    show M.bnd (getL _) _ S ≠ _
    unfold M.bnd getL
    cases S[r]? with
    | none => intro h; cases h
    | some c => cases c <;> first | exact anyEq_er _ _ _ _ _ | (intro h; cases h)
  · intro h; cases h

/-! ### is -/
abbrev rIsU : R2 := fun x y H Q => (y = .non ∧ Q (.bl (decide (x = .non))) H) ∨ rIsB x y H Q
abbrev rIsntU : R2 := fun x y H Q => (y = .non ∧ Q (.bl (!decide (x = .non))) H) ∨ rNotB x y H Q
theorem is_sv {K : PySem.W.Frag} {μ : List Addr} {H : Hp} {S : Store} {x y : D} {v w : V} {k : Bool} {S' : Store} (rx : RV K A μ H x v) (ry : RV K A μ H y w) (h : isM x y S = .ok k S') :
    S' = S ∧ ((w = .non ∧ decide (v = .non) = k) ∨ ∃ a b : Bool, v = .bl a ∧ w = .bl b ∧ decide (a = b) = k) := by
  cases ry with
  | non =>
    cases rx <;> (cases h; exact ⟨rfl, .inl ⟨rfl, rfl⟩⟩)
  | bl b =>
    cases rx with
    | bl a => cases h; exact ⟨rfl, .inr ⟨a, b, rfl, rfl, rfl⟩⟩
    | _ => exact absurd h (by intro z; cases z)
  | _ => cases rx <;> exact absurd h (by intro z; cases z)
theorem isM_er (x y : D) (S : Store) (e : Exn) (S' : Store) : isM x y S ≠ .er e S' := by
  unfold isM
  split <;> (intro h; cases h)

def cmpAst : COp → CmpOp
  | .eq => .Eq | .ne => .NotEq | .lt => .Lt | .le => .LtE | .gt => .Gt | .ge => .GtE | .is_ => .Is | .isnt => .IsNot | .in_ => .In | .nin => .NotIn
def rCop (K : PySem.W.Frag) : COp → R2
  | .eq => rEqU K
  | .ne => rNeU K
  | .lt => rI0 fun i j => .bl (decide (i < j))
  | .le => rI0 fun i j => .bl (decide (i ≤ j))
  | .gt => rI0 fun i j => .bl (decide (j < i))
  | .ge => rI0 fun i j => .bl (decide (j ≤ i))
  | .is_ => rIsU
  | .isnt => rIsntU
  | .in_ => fun x y H Q => rInSg x y H Q ∨ rInDT K false x y H Q
  | .nin => fun x y H Q => rNinSg x y H Q ∨ rInDT K true x y H Q
theorem op_cop (hu : X.A.units + 65 < cLine) : ∀ o : COp, OpR X (compareOp (cmpAst o)) (rCop X.K o)
  | .eq => OpR.or op_eq (op_eqD (by omega))
  | .ne => OpR.or op_ne (op_neD (by omega))
  | .lt => op_lt
  | .le => op_le
  | .gt => op_gt
  | .ge => op_ge
  | .is_ => OpR.or op_isN op_isBl
  | .isnt => OpR.or op_notN op_notBl
  | .in_ => OpR.or op_in_sign (op_inDT hu)
  | .nin => OpR.or op_notIn_sign (op_ninDT hu)
/-- what a comparison tells, by the rules -/
def ServesC (X : Cx) (A : Adr) (o : COp) : Prop :=
  ∀ (W : WX) (σ : L2.St) (x y : D) (v w : V) (μ : List Addr) (H : Hp) (S : Store) (Q : Bool → Hp → Prop), Sto X.K A μ S H → RV X.K A μ H x v → RV X.K A μ H y w →
    Cont X.K A W (fun _ _ a b => a = b) σ μ H (cmpM o x y S) Q → rCop X.K o v w H (fun z H' => ∃ k, z = .bl k ∧ Q k H')
theorem Cont.okB {K : PySem.W.Frag} {μ : List Addr} {H : Hp} {W : WX} {σ : L2.St} {m : M Bool} {S : Store} {Q : Bool → Hp → Prop} (h : Cont K A W (fun _ _ a b => a = b) σ μ H (m S) Q) (hm : ∀ e S', m S ≠ .er e S') : ∃ k S', m S = .ok k S' ∧ (Sto K A μ S' H → Q k H) := by
  cases e : m S with
  | ok a S' =>
    rw [e] at h
    exact ⟨a, S', rfl, fun s => h a μ H Nx.refl s rfl⟩
  | er x S' => exact absurd e (hm x S')
  | no => rw [e] at h; exact h.elim
theorem Cont.okN {K : PySem.W.Frag} {μ : List Addr} {H : Hp} {W : WX} {σ : L2.St} {m : M Bool} {S : Store} {Q : Bool → Hp → Prop} (h : Cont K A W (fun _ _ a b => a = b) σ μ H ((do let b ← m; M.ret (!b)) S) Q) (hm : ∀ e S', m S ≠ .er e S') : ∃ k S', m S = .ok k S' ∧ (Sto K A μ S' H → Q (!k) H) := by
  obtain ⟨k, S', e, h⟩ := Cont.pure h hm
  exact ⟨k, S', e, fun s => h.out s rfl⟩
theorem sv_cop : ∀ o : COp, ServesC X A o
  | .eq => by
    intro W σ x y v w μ H S Q s rx ry h
    obtain ⟨k, S', e, q⟩ := Cont.okB h (eqM_er x y S)
    obtain ⟨rfl, c⟩ := eq_sv s rx ry e
    rcases c with ⟨h1, rfl⟩ | ⟨d, d', h1, h2, h3, h4, rfl⟩
    · exact .inl ⟨h1, _, rfl, q s⟩
    · exact .inr ⟨d, d', h1, h2, h3, h4, _, rfl, q s⟩
  | .ne => by
    intro W σ x y v w μ H S Q s rx ry h
    obtain ⟨k, S', e, q⟩ := Cont.okN h (eqM_er x y S)
    obtain ⟨rfl, c⟩ := eq_sv s rx ry e
    rcases c with ⟨h1, rfl⟩ | ⟨d, d', h1, h2, h3, h4, rfl⟩
    · exact .inl ⟨h1, _, rfl, q s⟩
    · exact .inr ⟨d, d', h1, h2, h3, h4, _, rfl, q s⟩
  | .lt => by
    intro W σ x y v w μ H S Q s rx ry h
    cases rx with
    | int i =>
      cases ry with
      | int j => exact ⟨i, j, rfl, rfl, _, rfl, h.out s rfl⟩
      | _ => exact False.elim h
    | _ => exact False.elim h
  | .le => by
    intro W σ x y v w μ H S Q s rx ry h
    cases rx with
    | int i =>
      cases ry with
      | int j => exact ⟨i, j, rfl, rfl, _, rfl, h.out s rfl⟩
      | _ => exact False.elim h
    | _ => exact False.elim h
  | .gt => by
    intro W σ x y v w μ H S Q s rx ry h
    cases rx with
    | int i =>
      cases ry with
      | int j => exact ⟨i, j, rfl, rfl, _, rfl, h.out s rfl⟩
      | _ => exact False.elim h
    | _ => exact False.elim h
  | .ge => by
    intro W σ x y v w μ H S Q s rx ry h
    cases rx with
    | int i =>
      cases ry with
      | int j => exact ⟨i, j, rfl, rfl, _, rfl, h.out s rfl⟩
      | _ => exact False.elim h
    | _ => exact False.elim h
  | .is_ => by
    intro W σ x y v w μ H S Q s rx ry h
    obtain ⟨k, S', e, q⟩ := Cont.okB h (isM_er x y S)
    obtain ⟨rfl, c⟩ := is_sv rx ry e
    rcases c with ⟨rfl, rfl⟩ | ⟨a, b, rfl, rfl, rfl⟩
    · exact .inl ⟨rfl, _, rfl, q s⟩
    · exact .inr ⟨a, b, rfl, rfl, _, rfl, q s⟩
  | .isnt => by
    intro W σ x y v w μ H S Q s rx ry h
    obtain ⟨k, S', e, q⟩ := Cont.okN h (isM_er x y S)
    obtain ⟨rfl, c⟩ := is_sv rx ry e
    rcases c with ⟨rfl, rfl⟩ | ⟨a, b, rfl, rfl, rfl⟩
    · exact .inl ⟨rfl, _, rfl, q s⟩
    · exact .inr ⟨a, b, rfl, rfl, _, rfl, q s⟩
  | .in_ => by
    intro W σ x y v w μ H S Q s rx ry h
    obtain ⟨k, S', e, q⟩ := Cont.okB h (inM_er x y S)
    obtain ⟨rfl, c⟩ := in_sv s rx ry e
    rcases c with ⟨c, z, rfl, rfl, rfl⟩ | ⟨d, ds, h1, h2, h3, rfl⟩
    · exact .inl ⟨c, z, rfl, rfl, _, rfl, q s⟩
    · exact .inr ⟨d, ds, h1, h2, h3, _, rfl, q s⟩
  | .nin => by
    intro W σ x y v w μ H S Q s rx ry h
    obtain ⟨k, S', e, q⟩ := Cont.okN h (inM_er x y S)
    obtain ⟨rfl, c⟩ := in_sv s rx ry e
    rcases c with ⟨c, z, rfl, rfl, rfl⟩ | ⟨d, ds, h1, h2, h3, rfl⟩
    · exact .inl ⟨c, z, rfl, rfl, _, rfl, q s⟩
    · exact .inr ⟨d, ds, h1, h2, h3, _, rfl, q s⟩

/-! ### truth -/
theorem truth_sv {K : PySem.W.Frag} {μ : List Addr} {H : Hp} {S : Store} (s : Sto K A μ S H) {x : D} {v : V} {k : Bool} {S' : Store} (rx : RV K A μ H x v) (h : truthM x S = .ok k S') : S' = S ∧ TruV K v H k := by
  cases rx with
  | non => cases h; exact ⟨rfl, rfl⟩
  | bl b => cases h; exact ⟨rfl, rfl⟩
  | int i => cases h; exact ⟨rfl, rfl⟩
  | str x =>
    by_cases hx : x.length ≤ lim
    · have h : (M.need (decide (x.length ≤ lim)) >>= fun _ => M.ret ((x.length : Int) != 0)) S = .ok k S' := h
      rw [decide_eq_true hx] at h
      cases h
      exact ⟨rfl, lim_size hx, rfl⟩
    · have h : (M.need (decide (x.length ≤ lim)) >>= fun _ => M.ret ((x.length : Int) != 0)) S = .ok k S' := h
      rw [decide_eq_false hx] at h
      cases h
  | @tup ds a vs q r =>
    cases h
    refine ⟨rfl, .inr (.inl ⟨vs, q.sq, ?_⟩)⟩
    cases r <;> rfl
  | @ref n a e0 =>
    have h : M.bnd (getL n) (fun ds => M.ret (!ds.isEmpty)) S = .ok k S' := h
    unfold M.bnd getL at h
    cases e : S[n]? with
    | none => rw [e] at h; cases h
    | some c =>
      rw [e] at h
      cases c with
      | lst ds =>
        obtain ⟨vs, g1, g2⟩ := s.cell n _ a e e0
        cases h
        refine ⟨rfl, .inl ⟨vs, .inl (.inl g1), ?_⟩⟩
        cases g2 <;> rfl
      | frz ds =>
        obtain ⟨vs, g1, g2⟩ := s.cell n _ a e e0
        cases h
        refine ⟨rfl, .inl ⟨vs, g1.sq, ?_⟩⟩
        cases g2 <;> rfl
      | dic kvs => cases h
      | ins c fs => cases h
  | fn f => cases h
  | ty t => cases h
theorem truthM_er (x : D) (S : Store) (e : Exn) (S' : Store) : truthM x S ≠ .er e S' := by
  cases x with
  | str x =>
    show (M.need (decide (x.length ≤ lim)) >>= fun _ => M.ret ((x.length : Int) != 0)) S ≠ _
    cases decide (x.length ≤ lim) <;> (intro h; cases h)
  | ref n =>
    show M.bnd (getL n) (fun ds => M.ret (!ds.isEmpty)) S ≠ _
    unfold M.bnd getL
    cases S[n]? with
    | none => intro h; cases h
    | some c => cases c <;> (intro h; cases h)
  | _ => intro h; cases h
end
end Mi

/-! Mi, part E: items, slices, what is built in. -/
namespace Mi
open PySem PySem.Spec PyProof.Rows L2
section
variable {X : Cx} {A : Adr}

theorem RVs.atI {K : PySem.W.Frag} {μ : List Addr} {H : Hp} {ds : List D} {vs : List V} {i : Int} {d : D} (r : RVs K A μ H ds vs) (h : L2.atI ds i = some d) : ∃ v, L2.atI vs i = some v ∧ RV K A μ H d v := by
  unfold L2.atI at h ⊢
  rw [← r.length]
  cases e : ixN ds.length i with
  | none => rw [e] at h; cases h
  | some j =>
    rw [e] at h
    exact r.get h

/-! ### a[i] -/
theorem sv_ix : Serves X A ixM (rIx X.K) := by
  intro W σ x y v w μ H S Q s rx ry h
  cases ry with
  | int i =>
    cases rx with
    | @tup ds a vs q r =>
      have h : Cont X.K A W (RV X.K A) σ μ H (ofO (L2.atI ds i) S) Q := h
      cases e : L2.atI ds i with
      | none => rw [e] at h; exact h.elim
      | some d =>
        rw [e] at h
        obtain ⟨u, h1, h2⟩ := r.atI e
        exact .inr (.inl ⟨a, vs, i, u, rfl, rfl, q.sq, h1, h.out s h2⟩)
    | @ref n a e0 =>
      obtain ⟨ds, vs, g1, g2, h, _⟩ := Cont.getL s h e0
      cases e : L2.atI ds i with
      | none => rw [e] at h; exact h.elim
      | some d =>
        rw [e] at h
        obtain ⟨u, h1, h2⟩ := g2.atI e
        exact .inl ⟨a, vs, i, u, rfl, rfl, g1, h1, h.out s h2⟩
    | str z =>
      obtain ⟨h0, h⟩ := Cont.need h
      obtain ⟨c, hc, h⟩ := Cont.ofO h
      exact .inr (.inr ⟨z, i, c, rfl, rfl, lim_size (of_decide_eq_true h0), hc, h.out s (.str _)⟩)
    | _ => exact False.elim h
  | _ => cases rx <;> exact False.elim h

/-! ### slices -/
abbrev rSlU (K : PySem.W.Frag) : V → Option Int → Option Int → Hp → VK → Prop := fun x lo hi H Q => rSlL K x lo hi H Q ∨ (rSlA K x lo hi H Q ∨ rSlS x lo hi H Q)
theorem sl_all : SlR X (rSlU X.K) := SlR.or sl_list (SlR.or sl_tupA sl_str)
theorem sIx_hi_le (n : Nat) (hi : Option Int) : HT.sIx n n hi ≤ n := HT.sIx_le _ _ (Nat.le_refl _) _
theorem sv_sl {W : WX} {σ : L2.St} {x : D} {v : V} {lo hi : Option Int} {μ : List Addr} {H : Hp} {S : Store} {Q : VK} (s : Sto X.K A μ S H) (rx : RV X.K A μ H x v) (h : Cont X.K A W (RV X.K A) σ μ H (slM x lo hi S) Q) : rSlU X.K v lo hi H Q := by
  cases rx with
  | @tup ds a vs q r =>
    refine .inr (.inl ⟨a, vs, rfl, q.sq, fun ⟨e1, e2⟩ => ?_, fun _ p hp => h.tup s (r.cut lo hi) hp⟩)
    have e : cutL ds lo hi = ds := by
      unfold cutL
      rw [r.length, e1, e2, Nat.sub_zero, List.drop_zero, ← r.length, List.take_length]
    have h : Cont X.K A W (RV X.K A) σ μ H (M.ret (.tup (cutL ds lo hi)) S) Q := h
    rw [e] at h
    exact h.out s (.tup q r)
  | @ref n a e0 =>
    obtain ⟨ds, vs, g1, g2, h, _⟩ := Cont.getL s h e0
    exact .inl ⟨a, vs, rfl, g1, fun p hp => Cont.newL s h (g2.cut lo hi) hp⟩
  | str z =>
    obtain ⟨h0, h⟩ := Cont.need h
    refine .inr (.inr ⟨z, rfl, lim_size (of_decide_eq_true h0), ?_⟩)
    have e : (z.cps.toList.length) = z.length := Array.length_toList
    have h : Cont X.K A W (RV X.K A) σ μ H (M.ret (.str ⟨(cutL z.cps.toList lo hi).toArray⟩) S) Q := h
    unfold cutL at h
    rw [e] at h
    exact h.out s (.str _)
  | _ => exact False.elim h

/-! ### a[i] = v -/
theorem sv_set {W : WX} {σ : L2.St} {x y d : D} {v w u : V} {μ : List Addr} {H : Hp} {S : Store} {Q : Hp → Prop} (s : Sto X.K A μ S H) (rx : RV X.K A μ H x v) (ry : RV X.K A μ H y w) (rd : RV X.K A μ H d u)
    (h : Cont X.K A W (fun _ _ (_ _ : Unit) => True) σ μ H (setIx x y d S) (fun _ => Q)) : rSetL v w u H Q := by
  cases rx with
  | @ref n a e0 =>
    cases ry with
    | int i =>
      obtain ⟨ds, vs, g1, g2, h, e⟩ := Cont.getW s h e0
      obtain ⟨j, hj, h⟩ := Cont.ofO h
      have h2 : Cont X.K A W (fun _ _ (_ _ : Unit) => True) σ μ H ((setL n (ds.set j d) >>= fun u => M.ret u) S) (fun _ => Q) := by
        have z : (setL n (ds.set j d) >>= fun u => M.ret u) S = setL n (ds.set j d) S := by
          show M.bnd _ _ S = _
          unfold M.bnd
          cases setL n (ds.set j d) S <;> rfl
        rw [z]
        exact h
      have h3 := Cont.setL h2 e
      obtain ⟨nx, s2⟩ := wrL s e0 e g1 (g2.set j rd)
      refine ⟨a, vs, i, j, rfl, rfl, g1, by rw [← g2.length]; exact hj, ?_⟩
      exact h3 () μ _ nx s2 True.intro
    | _ => exact False.elim h
  | _ => exact False.elim h

/-! ### types -/
theorem tyM_sv {K : PySem.W.Frag} {μ : List Addr} {H : Hp} {S : Store} (s : Sto K A μ S H) {x : D} {v : V} {t : Ty} {S' : Store} (rx : RV K A μ H x v) (h : tyM x S = .ok t S') : S' = S ∧ TyX K H v (.type t.name) := by
  cases rx with
  | non => cases h; exact ⟨rfl, .base .non⟩
  | bl b => cases h; exact ⟨rfl, .base (.bl b)⟩
  | int i => cases h; exact ⟨rfl, .base (.int i)⟩
  | str x => cases h; exact ⟨rfl, .base (.str x)⟩
  | tup q r =>
    cases h
    rcases q with q | ⟨o, its, n, h1, h2, _⟩
    · exact ⟨rfl, .base (.tup q)⟩
    · exact ⟨rfl, .kTuple h1 h2⟩
  | @ref n a e0 =>
    unfold tyM at h
    simp only at h
    split at h
    · rename_i ds e
      cases h
      obtain ⟨vs, g1, g2⟩ := s.cell n _ a e e0
      exact ⟨rfl, .base (.lst g1)⟩
    · rename_i ds e
      cases h
      obtain ⟨vs, g1, g2⟩ := s.cell n _ a e e0
      rcases g1 with ⟨o, g1⟩ | ⟨o, its, m, h1, h2, _⟩
      · exact ⟨rfl, .base (.frz g1)⟩
      · exact ⟨rfl, .kList h1 h2⟩
    · rename_i kvs e
      exact (s.cell n _ a e e0).elim
    · cases h
  | fn f => cases h
  | ty f => cases h
theorem tyM_er (x : D) (S : Store) (e : Exn) (S' : Store) : tyM x S ≠ .er e S' := by
  cases x with
  | ref n =>
    unfold tyM
    simp only
    split <;> (intro h; cases h)
  | _ => intro h; cases h
theorem kit_sub : ∀ s t : Ty, kitB s.name t.name = some (Ty.sub s t) := by
  intro s t
  cases s <;> cases t <;> decide +kernel
theorem kit_subs {K : PySem.W.Frag} (s : Ty) : ∀ ts : List Ty, PySem.W.kitAny K (.type s.name) (ts.map fun t => Value.type t.name) = some (ts.any (Ty.sub s))
  | [] => kitAny_nil
  | t :: ts => by
    rw [List.map_cons, List.any_cons]
    refine kitAny_cons (b := Ty.sub s t) (kit_ty (kit_sub s t)) (fun e => ?_) fun e => ?_
    · rw [e, Bool.false_or]
      exact kit_subs s ts
    · rw [e, Bool.true_or]
theorem tys_vs {K : PySem.W.Frag} {μ : List Addr} {H : Hp} : ∀ {ds : List D} {vs : List V} {ts : List Ty}, RVs K A μ H ds vs → asTys ds = some ts → vs = ts.map fun t => V.ty t.name
  | _, _, _, .nil, h => by cases h; rfl
  | d :: ds, _, ts, .cons r q, h => by
    cases r with
    | ty t =>
      unfold asTys at h
      simp only [Option.map_eq_some_iff] at h
      obtain ⟨us, e, rfl⟩ := h
      rw [List.map_cons, tys_vs q e]
    | _ => cases h
theorem clsP : ∀ ts : List Ty, Paired ClsV (ts.map fun t => V.ty t.name) (ts.map fun t => Value.type t.name)
  | [] => .nil
  | t :: ts => .cons (.ty t.name) (clsP ts)
theorem bls_vs {K : PySem.W.Frag} {μ : List Addr} {H : Hp} : ∀ {ds : List D} {vs : List V} {ts : List Bool}, RVs K A μ H ds vs → asBls ds = some ts → vs = ts.map V.bl
  | _, _, _, .nil, h => by cases h; rfl
  | d :: ds, _, ts, .cons r q, h => by
    cases r with
    | bl t =>
      unfold asBls at h
      simp only [Option.map_eq_some_iff] at h
      obtain ⟨us, e, rfl⟩ := h
      rw [List.map_cons, bls_vs q e]
    | _ => cases h
theorem ints_vs {K : PySem.W.Frag} {μ : List Addr} {H : Hp} : ∀ {ds : List D} {vs : List V} {ts : List Int}, RVs K A μ H ds vs → asInts ds = some ts → vs = ts.map V.int
  | _, _, _, .nil, h => by cases h; rfl
  | d :: ds, _, ts, .cons r q, h => by
    cases r with
    | int t =>
      unfold asInts at h
      simp only [Option.map_eq_some_iff] at h
      obtain ⟨us, e, rfl⟩ := h
      rw [List.map_cons, ints_vs q e]
    | _ => cases h
theorem vals_of_paired {its : List Value} {ts : List Ty} (h : Vals (ts.map fun t => V.ty t.name) its) : its = ts.map fun t => Value.type t.name := ClsV.all (clsP ts) h

/-! ### calls of what is built in -/
def bltNm : Blt → Str
  | .len => "len" | .int => "int" | .tuple => "tuple" | .list => "list" | .max => "max" | .min => "min" | .abs => "abs" | .all => "all" | .any => "any" | .sum => "sum" | .isi => "isinstance" | .repr => "repr"
/-- a type that is called? -/
def bltT : Blt → Bool
  | .int => true | .tuple => true | .list => true | _ => false
def bltId : Blt → String
  | .len => "len" | .int => "int" | .tuple => "tuple" | .list => "list" | .max => "max" | .min => "min" | .abs => "abs" | .all => "all" | .any => "any" | .sum => "sum" | .isi => "isinstance" | .repr => "repr"
def bltV (b : Blt) : Value := if bltT b then .type (bltId b) else .builtin (bltId b)
theorem blt_boot : ∀ b : Blt, bootBuiltins (bltNm b) = some (bltV b) := by
  intro b
  cases b <;> decide +kernel
def CallU (X : Cx) (A : Adr) (f : Value) (m : List D → M D) : Prop := ∃ r, CallR X f r ∧ ∀ (W : WX) (σ : L2.St) (ds : List D) (vs : List V) (μ : List Addr) (H : Hp) (S : Store) (Q : VK), Sto X.K A μ S H → RVs X.K A μ H ds vs →
  Cont X.K A W (RV X.K A) σ μ H (m ds S) Q → r vs H Q
theorem RVs.len1 {K : PySem.W.Frag} {μ : List Addr} {H : Hp} {d : D} {vs : List V} (r : RVs K A μ H [d] vs) : ∃ v, vs = [v] ∧ RV K A μ H d v := r.one
theorem call_repr_bl : CallR X (.builtin "repr") (fun xs H Q => ∃ b, xs = [.bl b] ∧ Q (.str (if b then "True" else "False")) H) := by
  intro pins s σ H xs us Q I r h
  obtain ⟨b, rfl, q⟩ := h
  obtain ⟨u, rfl, e⟩ := vals1 r
  subst e
  exact PySem.P.repr_of_bool ⟨.str _, H, I.tok _, ⟨_, rfl⟩, q⟩
theorem blt_sv (hc : X.calm = true) : ∀ b : Blt, CallU X A (bltV b) (bltM b)
  | .len => by
    refine ⟨_, CallR.or call_len_seq call_len_str, fun W σ ds vs μ H S Q s r h => ?_⟩
    match ds, r, h with
    | [], r, h => exact False.elim h
    | [d], r, h =>
      obtain ⟨v, rfl, r1⟩ := r.one
      cases r1 with
      | tup q t => exact .inl ⟨_, _, rfl, .inr q.sq, h.out s (by rw [← t.length]; exact .int _)⟩
      | @ref n a e0 =>
        obtain ⟨ds, us, g1, g2, h, _⟩ := Cont.getL s h e0
        exact .inl ⟨a, us, rfl, .inl g1, h.out s (by rw [← g2.length]; exact .int _)⟩
      | str z =>
        obtain ⟨h0, h⟩ := Cont.need h
        exact .inr ⟨z, rfl, lim_size (of_decide_eq_true h0), h.out s (.int _)⟩
      | _ => exact False.elim h
    | d :: _ :: _, r, h => cases d <;> exact False.elim h
  | .int => by
    refine ⟨_, call_int1, fun W σ ds vs μ H S Q s r h => ?_⟩
    match ds, r, h with
    | [], r, h => exact False.elim h
    | [d], r, h =>
      obtain ⟨v, rfl, r1⟩ := r.one
      cases r1 with
      | int i => exact .inl ⟨i, rfl, h.out s (.int _)⟩
      | bl b => exact .inr ⟨b, rfl, h.out s (.int _)⟩
      | _ => exact False.elim h
    | d :: _ :: _, r, h => cases d <;> exact False.elim h
  | .tuple => by
    refine ⟨_, call_tuple_of, fun W σ ds vs μ H S Q s r h => ?_⟩
    match ds, r, h with
    | [], r, h => exact False.elim h
    | [d], r, h =>
      obtain ⟨v, rfl, r1⟩ := r.one
      cases r1 with
      | tup q t => exact ⟨_, _, rfl, .inr ⟨q.sq, h.out s (.tup q t)⟩⟩
      | @ref n a e0 =>
        obtain ⟨ds, us, g1, g2, h, _⟩ := Cont.getL s h e0
        exact ⟨a, us, rfl, .inl ⟨g1, fun p hp => h.tup s g2 hp⟩⟩
      | _ => exact False.elim h
    | d :: _ :: _, r, h => cases d <;> exact False.elim h
  | .list => by
    refine ⟨_, call_list_of, fun W σ ds vs μ H S Q s r h => ?_⟩
    match ds, r, h with
    | [], r, h => exact False.elim h
    | [d], r, h =>
      obtain ⟨v, rfl, r1⟩ := r.one
      cases r1 with
      | tup q t => exact ⟨_, _, rfl, .inr q.sq, fun p hp => Cont.newL s h t hp⟩
      | @ref n a e0 =>
        obtain ⟨ds, us, g1, g2, h, _⟩ := Cont.getL s h e0
        exact ⟨a, us, rfl, .inl g1, fun p hp => Cont.newL s h g2 hp⟩
      | _ => exact False.elim h
    | d :: _ :: _, r, h => cases d <;> exact False.elim h
  | .max => by
    refine ⟨_, call_max2 hc, fun W σ ds vs μ H S Q s r h => ?_⟩
    match ds, r, h with
    | [], r, h => exact False.elim h
    | [d], r, h => cases d <;> exact False.elim h
    | [d, e], r, h =>
      obtain ⟨v, u, rfl, r1, r2⟩ := r.two
      cases r1 with
      | int i =>
        cases r2 with
        | int j => exact ⟨i, j, rfl, h.out s (.int _)⟩
        | _ => exact False.elim h
      | _ => exact False.elim h
    | d :: e :: _ :: _, r, h => cases d <;> cases e <;> exact False.elim h
  | .min => by
    refine ⟨_, call_min2 hc, fun W σ ds vs μ H S Q s r h => ?_⟩
    match ds, r, h with
    | [], r, h => exact False.elim h
    | [d], r, h => cases d <;> exact False.elim h
    | [d, e], r, h =>
      obtain ⟨v, u, rfl, r1, r2⟩ := r.two
      cases r1 with
      | int i =>
        cases r2 with
        | int j => exact ⟨i, j, rfl, h.out s (.int _)⟩
        | _ => exact False.elim h
      | _ => exact False.elim h
    | d :: e :: _ :: _, r, h => cases d <;> cases e <;> exact False.elim h
  | .abs => by
    refine ⟨_, call_abs, fun W σ ds vs μ H S Q s r h => ?_⟩
    match ds, r, h with
    | [], r, h => exact False.elim h
    | [d], r, h =>
      obtain ⟨v, rfl, r1⟩ := r.one
      cases r1 with
      | int i => exact ⟨i, rfl, h.out s (.int _)⟩
      | _ => exact False.elim h
    | d :: _ :: _, r, h => cases d <;> exact False.elim h
  | .all => by
    refine ⟨_, cr_all hc, fun W σ ds vs μ H S Q s r h => ?_⟩
    match ds, r, h with
    | [], r, h => exact False.elim h
    | [d], r, h =>
      obtain ⟨v, rfl, r1⟩ := r.one
      cases r1 with
      | @ref n a e0 =>
        obtain ⟨ds, us, g1, g2, h, _⟩ := Cont.getL s h e0
        obtain ⟨bs, e, h⟩ := Cont.ofO h
        rw [bls_vs g2 e] at g1
        exact ⟨a, bs, rfl, g1, h.out s (.bl _)⟩
      | _ => exact False.elim h
    | d :: _ :: _, r, h => cases d <;> exact False.elim h
  | .any => by
    refine ⟨_, cr_any hc, fun W σ ds vs μ H S Q s r h => ?_⟩
    match ds, r, h with
    | [], r, h => exact False.elim h
    | [d], r, h =>
      obtain ⟨v, rfl, r1⟩ := r.one
      cases r1 with
      | @ref n a e0 =>
        obtain ⟨ds, us, g1, g2, h, _⟩ := Cont.getL s h e0
        obtain ⟨bs, e, h⟩ := Cont.ofO h
        rw [bls_vs g2 e] at g1
        exact ⟨a, bs, rfl, g1, h.out s (.bl _)⟩
      | _ => exact False.elim h
    | d :: _ :: _, r, h => cases d <;> exact False.elim h
  | .sum => by
    refine ⟨_, cr_sum hc, fun W σ ds vs μ H S Q s r h => ?_⟩
    match ds, r, h with
    | [], r, h => exact False.elim h
    | [d], r, h =>
      obtain ⟨v, rfl, r1⟩ := r.one
      cases r1 with
      | @ref n a e0 =>
        obtain ⟨ds, us, g1, g2, h, _⟩ := Cont.getL s h e0
        obtain ⟨bs, e, h⟩ := Cont.ofO h
        rw [ints_vs g2 e] at g1
        exact ⟨a, bs, rfl, g1, h.out s (.int _)⟩
      | _ => exact False.elim h
    | d :: _ :: _, r, h => cases d <;> exact False.elim h
  | .repr => by
    refine ⟨_, call_repr_bl, fun W σ ds vs μ H S Q s r h => ?_⟩
    match ds, r, h with
    | [], r, h => exact False.elim h
    | [d], r, h =>
      obtain ⟨v, rfl, r1⟩ := r.one
      cases r1 with
      | bl b => exact ⟨b, rfl, h.out s (.str _)⟩
      | _ => exact False.elim h
    | d :: _ :: _, r, h => cases d <;> exact False.elim h
  | .isi => by
    refine ⟨_, CallR.or call_isi (CallR.or call_isiT call_isiK), fun W σ ds vs μ H S Q s r h => ?_⟩
    match ds, r, h with
    | [], r, h => exact False.elim h
    | [d], r, h => cases d <;> exact False.elim h
    | [d, e], r, h =>
      obtain ⟨v, u, rfl, r1, r2⟩ := r.two
      cases r2 with
      | ty t =>
        have h : Cont X.K A W (RV X.K A) σ μ H ((tyM d >>= fun s => M.ret (D.bl (Ty.sub s t))) S) Q := by cases d <;> exact h
        obtain ⟨k, S', e, h2⟩ := Cont.pure h (tyM_er d S)
        obtain ⟨e1, ty⟩ := tyM_sv s r1 e
        rw [e1] at h2
        exact .inl ⟨v, .ty t.name, .type k.name, .type t.name, _, rfl, .ty _, ty, kit_ty (kit_sub k t), h2.out s (RV.bl _)⟩
      | @tup ts a us q tt =>
        have h : Cont X.K A W (RV X.K A) σ μ H ((tyM d >>= fun s => (ofO (asTys ts) >>= fun us => M.ret (D.bl (us.any (Ty.sub s))))) S) Q := by cases d <;> exact h
        obtain ⟨k, S', e, h2⟩ := Cont.pure h (tyM_er d S)
        obtain ⟨e1, ty⟩ := tyM_sv s r1 e
        rw [e1] at h2
        obtain ⟨ks, e2, h2⟩ := Cont.ofO h2
        have e3 := tys_vs tt e2
        subst e3
        rcases q with q | ⟨o, its, n, h1, h2, h3, h4, h5⟩
        · exact .inr (.inl ⟨v, a, _, .type k.name, _, _, rfl, q, clsP ks, ty, kit_subs k ks, h2.out s (RV.bl _)⟩)
        · have e4 := vals_of_paired h5
          obtain ⟨oc, od, odt, osl⟩ := o
          simp only at h2 h3
          subst h2
          subst h3
          have e5 : its = (ks.map fun t => Value.type t.name).toArray := by rw [← e4]
          subst e5
          exact .inr (.inr ⟨v, a, od, _, n, osl, .type k.name, _, rfl, h1, ty, kit_subs k ks, h2.out s (RV.bl _)⟩)
      | _ => cases d <;> exact False.elim h
    | d :: e :: _ :: _, r, h => cases d <;> cases e <;> exact False.elim h
end
end Mi

/-! Mi, part F: from the syntax to the terms. -/
namespace Mi
open PySem PySem.Spec PyProof.Rows L2

/-- what a module's name is -/
inductive GV where
  | fn (i : Nat) (np : Nat)
  | cst (d : D)
  | xc (i : Nat) (fs : List Str)
structure Gam where
  N : List Str
  sc : Scope
  fn : Str → Bool
  glob : List (Str × GV)
  blts : List Str
  sub : List (List Bool)

def isVis (sc : Scope) (x : Str) : Bool := match sc.names.lookup x with
  | some .local => true
  | some .cell => true
  | some .free => true
  | _ => false
def isGl (sc : Scope) (x : Str) : Bool := match sc.names.lookup x with
  | some .globalImplicit => true
  | _ => false
def isLoc (sc : Scope) (x : Str) : Bool := match sc.names.lookup x with
  | some .local => true
  | some .cell => true
  | _ => false
def ixOf (x : Str) : List Str → Option Nat
  | [] => none
  | y :: ys => if y = x then some 0 else (ixOf x ys).map (· + 1)
def plainNm (x : Str) : Bool := !(x == ("__debug__" : Str)) && !(x == ("__classdict__" : Str)) && !(x == ("__name__" : Str))
def tyOf (x : Str) : Option Ty :=
  if x = "int" then some .int else if x = "bool" then some .bool else if x = "str" then some .str else if x = "tuple" then some .tup else if x = "list" then some .lst else if x = "dict" then some .dic else none
def bltOf (x : Str) : Option Blt := [Blt.len, .int, .tuple, .list, .max, .min, .abs, .all, .any, .sum, .isi, .repr].find? fun b => decide (bltNm b = x)
def cName (Γ : Gam) (x : Str) : Option Ex :=
  if plainNm x then
    if isVis Γ.sc x then (ixOf x Γ.N).map .var
    else if isGl Γ.sc x then match Γ.glob.lookup x with
      | some (.cst d) => some (.lit d)
      | some (.fn i _) => some (.lit (.fn i))
      | some (.xc _ _) => none
      | none => if decide (x ∈ Γ.blts) then (tyOf x).map fun t => .lit (.ty t) else none
    else none
  else none
def bopOf : Operator → Option BOp
  | .Add => some .add | .Sub => some .sub | .Mult => some .mul | .FloorDiv => some .fdiv | .Mod => some .mod | .Pow => some .pow | .LShift => some .shl | .RShift => some .shr | .BitAnd => some .band
  | _ => none
def copOf : CmpOp → COp
  | .Eq => .eq | .NotEq => .ne | .Lt => .lt | .LtE => .le | .Gt => .gt | .GtE => .ge | .Is => .is_ | .IsNot => .isnt | .In => .in_ | .NotIn => .nin
def optAll {α β : Type} (f : α → Option β) : List α → Option (List β)
  | [] => some []
  | x :: xs => match f x, optAll f xs with
    | some y, some ys => some (y :: ys)
    | _, _ => none
def isSet : Expr → Bool
  | .Set .. => true
  | _ => false
def isSlc : Expr → Bool
  | .Slice .. => true
  | _ => false
def mthOf (m : Str) : Option Mth := if m = "append" then some .append else if m = "pop" then some .pop else if m = "extend" then some .extend else none
/-- no base that is super() -/
def notSup : Expr → Bool
  | .Call (.Name _ _) [] [] _ => false
  | _ => true
/-- a target: names of the def -/
def cTg1 (Γ : Gam) : Expr → Option Nat
  | .Name x _ => if isLoc Γ.sc x && (Γ.fn x || decide (Γ.sc.names.lookup x = some .local)) then ixOf x Γ.N else none
  | _ => none
def cTg (Γ : Gam) : Expr → Option Tg
  | .Name x p => (cTg1 Γ (.Name x p)).map .v
  | .Tuple es _ _ => (optAll (cTg1 Γ) es).map .t
  | _ => none
def Tg.ixs : Tg → List Nat
  | .v i => [i]
  | .t is => is
def ownOf (N : List Str) (sc : Scope) : List (Str × Nat) := sc.names.filterMap fun (x, k) => if decide (k = .local) || decide (k = .cell) then (ixOf x N).map fun i => (x, i) else none

mutual
def cE (Γ : Gam) : Nat → Expr → Option Ex
  | 0, _ => none
  | n + 1, e => match e with
    | .Constant (.int i) _ _ => some (.lit (.int i))
    | .Constant (.str x) _ _ => some (.lit (.str x))
    | .Constant (.bool b) _ _ => some (.lit (.bl b))
    | .Constant .none _ _ => some (.lit .non)
    | .Name x _ => cName Γ x
    | .BinOp a o b _ => match bopOf o, cE Γ n a, cE Γ n b with
      | some o', some a', some b' => some (.bin o' a' b')
      | _, _, _ => none
    | .UnaryOp .Not a _ => (cE Γ n a).map .not
    | .UnaryOp .USub a _ => (cE Γ n a).map .neg
    | .BoolOp .And [a] _ => cE Γ n a
    | .BoolOp .Or [a] _ => cE Γ n a
    | .BoolOp .And (a :: b :: r) p => match cE Γ n a, cE Γ n (.BoolOp .And (b :: r) p) with
      | some a', some b' => some (.and a' b')
      | _, _ => none
    | .BoolOp .Or (a :: b :: r) p => match cE Γ n a, cE Γ n (.BoolOp .Or (b :: r) p) with
      | some a', some b' => some (.or a' b')
      | _, _ => none
    | .IfExp c a b _ => match cE Γ n c, cE Γ n a, cE Γ n b with
      | some c', some a', some b' => some (.ite c' a' b')
      | _, _, _ => none
    | .Compare a [o] [b] _ => match cE Γ n a, cE Γ n b with
      | some a', some b' => some (.cmp (copOf o) a' b')
      | _, _ => none
    | .Compare a [o, o'] [b, c] _ => match cE Γ n a, cE Γ n b, cE Γ n c with
      | some a', some b', some c' => some (.chn (copOf o) (copOf o') a' b' c')
      | _, _, _ => none
    | .Tuple es _ _ => (optAll (cE Γ n) es).map .tup
    | .List es _ => (optAll (cE Γ n) es).map .lst
    | .Subscript a (.Slice lo hi none _) _ => match cE Γ n a, cO Γ n lo, cO Γ n hi with
      | some a', some l, some h => some (.sl a' l h)
      | _, _, _ => none
    | .Subscript a i _ => match cE Γ n a, cE Γ n i with
      | some a', some i' => some (.ix a' i')
      | _, _ => none
    | .Call (.Name f _) es [] _ => match optAll (cE Γ n) es with
      | some es' => if plainNm f && isGl Γ.sc f then match Γ.glob.lookup f with
          | some (.fn i np) => if decide (es'.length = np) then some (.call i es') else none
          | some _ => none
          | none => if decide (f ∈ Γ.blts) && !es.isEmpty then (bltOf f).map fun b => .blt b es' else none
        else none
      | none => none
    | .Call (.Attribute o m apos) [] [] cpos => if notSup o && decide (m = "pop") && apos.endLine == cpos.line then (cE Γ n o).map fun o' => .mth .pop o' [] else none
    | .Call (.Attribute o m apos) [e] [] cpos => if notSup o && apos.endLine == cpos.line then match mthOf m, cE Γ n o, cE Γ n e with
        | some m', some o', some e' => some (.mth m' o' [e'])
        | _, _, _ => none
      else none
    | .ListComp elt [⟨tg, iter, ifs, 0⟩] scope _ =>
      let own := ownOf Γ.N scope
      let Γ' : Gam := { Γ with sc := relS scope Γ.sc, fn := fun x => scope.names.lookup x == some .cell }
      if blkC Γ.N Γ.sc scope own then match cI Γ n tg iter, cTg Γ' tg, cC Γ' n ifs, cE Γ' n elt with
        | some it, some t, some c, some x => if t.ixs.all fun i => decide (i ∈ own.map (·.2)) then some (.lc it t (own.map (·.2)) c x) else none
        | _, _, _, _ => none
      else none
    | _ => none
def cO (Γ : Gam) : Nat → Option Expr → Option (Option Ex)
  | _, none => some none
  | 0, some _ => none
  | n + 1, some e => (cE Γ n e).map some
def cC (Γ : Gam) : Nat → List Expr → Option (Option Ex)
  | _, [] => some none
  | 0, _ => none
  | n + 1, [e] => (cE Γ n e).map some
  | _, _ => none
def cI (Γ : Gam) : Nat → Expr → Expr → Option Itn
  | 0, _, _ => none
  | n + 1, tg, e => match e with
    | .Call (.Name f p) es [] pos =>
      if decide (f = "range") && isGl Γ.sc "range" && decide (("range" : Str) ∈ Γ.blts) then match es with
        | [a] => (optAll (cE Γ n) [a]).map .rng
        | [a, b] => (optAll (cE Γ n) [a, b]).map .rng
        | [a, b, c] => (optAll (cE Γ n) [a, b, c]).map .rng
        | _ => none
      else if decide (f = "enumerate") && isGl Γ.sc "enumerate" && decide (("enumerate" : Str) ∈ Γ.blts) then match tg, es with
        | .Tuple .., [a] => (cE Γ n a).map .enu
        | _, _ => none
      else (cE Γ n (.Call (.Name f p) es [] pos)).map .seq
    | .Set .. => none
    | e => (cE Γ n e).map .seq
end

def isLc : Expr → Bool
  | .ListComp .. => true
  | .SetComp .. => true
  | .DictComp .. => true
  | _ => false
def isTupE : Expr → Bool
  | .Tuple .. => true
  | _ => false
def isNm : Expr → Bool
  | .Name .. => true
  | _ => false
/-- two names at once: the stores are swapped -/
def parB (Γ : Gam) (x y : Str) (px py : Pos) (a b : Expr) : Bool :=
  Γ.sc.kind == .function && (decide (Γ.sc.names.lookup x = some .local) && (decide (Γ.sc.names.lookup y = some .local) && (!decide (x = y) && (decide (py.line = px.line) && (!(foldedForSure 8 a && foldedForSure 8 b) && !(constantsAlone 8 a && constantsAlone 8 b))))))
def litOf : Const → Option D
  | .int i => some (.int i)
  | .str x => some (.str x)
  | .bool b => some (.bl b)
  | .none => some .non
  | _ => none
/-- an except suite: one statement -/
def cHR (fs : List Str) (nm : Option Str) : Stmt → Option HR
  | .Return (some (.Constant c _ _)) _ => (litOf c).map .ret
  | .Return (some (.Attribute (.Name x _) f _)) _ => if decide (nm = some x) && (plainNm x && decide (f ∈ fs)) then some (.fld f) else none
  | .Pass _ => some .nx
  | .Continue _ => some .ct
  | _ => none
def cH (Γ : Gam) : ExceptHandler → Option Hdl
  | .ExceptHandler (some (.Name x _)) nm [st] _ => if plainNm x && isGl Γ.sc x then match Γ.glob.lookup x with
    | some (.xc c fs) => match Γ.sub[c]?, cHR fs nm st with
      | some ms, some r => match nm with
        | none => some ⟨c, ms, none, r⟩
        | some n => if decide (Γ.sc.names.lookup n = some .local) then (ixOf n Γ.N).map fun i => ⟨c, ms, some i, r⟩ else none
      | _, _ => none
    | _ => none
    else none
  | _ => none
mutual
def cS (Γ : Gam) : Nat → Stmt → Option Sx
  | 0, _ => none
  | n + 1, s => match s with
    | .Expr e _ => if isLc e then none else (cE Γ n e).map .expr
    | .Assign [.Subscript a i _] e _ => if isLc e then none else match cE Γ n a, cE Γ n i, cE Γ n e with
      | some a', some i', some e' => some (.asgIx a' i' e')
      | _, _, _ => none
    | .Assign [.Tuple [.Name x px, .Name y py] _ _] (.Tuple [a, b] _ _) _ => match ixOf x Γ.N, ixOf y Γ.N, optAll (cE Γ n) [a, b] with
      | some i, some j, some es => if parB Γ x y px py a b then some (.par [i, j] es) else none
      | _, _, _ => none
    | .Assign [t] e _ => if isNm t || !isTupE e && !isLc e then match cTg Γ t, cE Γ n e with
        | some t', some e' => some (.asg t' e')
        | _, _ => none
      else none
    | .AugAssign t o e _ => match cTg1 Γ t, bopOf o, cE Γ n e with
      | some i, some o', some e' => if decide (o' = .add) || decide (o' = .sub) then some (.aug i o' e') else none
      | _, _, _ => none
    | .If c a b _ => match cE Γ n c, cSs Γ n a, cSs Γ n b with
      | some c', some a', some b' => some (.ite c' a' b')
      | _, _, _ => none
    | .While c b [] _ => match cE Γ n c, cSs Γ n b with
      | some c', some b' => some (.whl c' b')
      | _, _ => none
    | .For t it b [] _ => match cTg Γ t, cI Γ n t it, cSs Γ n b with
      | some t', some i', some b' => some (.for_ t' i' b')
      | _, _, _ => none
    | .Return (some e) _ => (cE Γ n e).map .ret
    | .Return none _ => some .retN
    | .Break _ => some .brk
    | .Continue _ => some .cnt
    | .Pass _ => some .pass
    | .Raise (some (.Call (.Name x _) es [] _)) none _ => if plainNm x && isGl Γ.sc x then match Γ.glob.lookup x, optAll (cE Γ n) es with
      | some (.xc i fs), some es' => if decide (es'.length = fs.length) then some (.raise i fs es') else none
      | _, _ => none
      else none
    | .Try b (h :: hs) [] [] _ => match cSs Γ n b, optAll (cH Γ) (h :: hs) with
      | some b', some hs' => some (.try_ b' hs')
      | _, _ => none
    | _ => none
def cSs (Γ : Gam) : Nat → List Stmt → Option (List Sx)
  | 0, _ => none
  | _ + 1, [] => some []
  | n + 1, s :: ss => match cS Γ n s, cSs Γ n ss with
    | some s', some ss' => some (s' :: ss')
    | _, _ => none
end
end Mi

/-! Mi, part G: the terms are what the syntax means. -/
namespace Mi
open PySem PySem.Spec PyProof.Rows L2

/-- a def's promise, by the evaluator -/
def uSp (K : PySem.W.Frag) (A : Adr) (np : Nat) (f : List D → M D) : Sp := fun vs H Q E =>
  ∃ ds S μ, ds.length = np ∧ RVs K A μ H ds vs ∧ Sto K A μ S H ∧ Cont K A (fun cls dd _ H' => E cls dd H') (RV K A) [] μ H (f ds S) Q
/-- a def that stands behind a name -/
def FnHas (X : Cx) (A : Adr) (G : Gen) (x : Str) (i np : Nat) : Prop :=
  ∃ k fd ps, X.mg x = some (.ref (A.fa i)) ∧ PySem.W.keepIn X.K (.ref (A.fa i)) = true ∧ Room k X.A ∧ Binds X.K fd ps [] ∧ ps.length = np ∧ FnOk X.prog X.w X.K X.mg X.base (L2.CX X.prog X.w) k (A.fa i) fd ps (uSp X.K A np (G.call i))
/-- an own error class, as it stands -/
structure XcHas (X : Cx) (A : Adr) (x : Str) (i : Nat) (fs : List Str) : Prop where
  gm : X.mg x = some (.ref (A.xa i))
  rs : Raises X (.ref (A.xa i))
  no : fs = [] → PySem.W.excIn X.K (A.xa i) He.veBase "ValueError.__new__" = true ∧ PySem.W.keepIn X.K (.ref (A.xa i)) = true
  yes : fs ≠ [] → OexC X.K (A.xa i) ∧ XfC X.K (A.xa i) ∧ (∀ f ∈ fs, PySem.W.findIn X.K (.ref (A.xa i)) f = some none) ∧ (fs.length = 1 ∨ fs.length = 2 ∧ fs.Nodup) ∧
    ∃ fI fd ps, PySem.W.findIn X.K (.ref (A.xa i)) "__init__" = some (some (.ref fI)) ∧ PySem.W.typeIn X.K (.ref fI) = some (.type "function") ∧ Binds X.K fd ps [] ∧ Room 2 X.A ∧ FnOk X.prog X.w X.K X.mg X.base (L2.CX X.prog X.w) 1 fI fd ps (spIni (A.xa i) fs)
structure Fits (A : Adr) (G : Gen) (Γ : Gam) (X : Cx) (W : WX) : Prop where
  N : X.N = Γ.N
  nd : Γ.N.Nodup
  sc : X.env.scope = Γ.sc
  fn : ∀ x, Γ.fn x = true → X.fn x = true
  calm : X.calm = true
  tk : Takes X W
  units : X.A.units + 65 < cLine
  blt : ∀ x, x ∈ Γ.blts → X.mg x = none
  cst : ∀ x d, Γ.glob.lookup x = some (.cst d) → ∃ u v, X.mg x = some u ∧ RelV v u ∧ ∀ μ H, RV X.K A μ H d v
  fns : ∀ x i np, Γ.glob.lookup x = some (.fn i np) → FnHas X A G x i np
  xcs : ∀ x i fs, Γ.glob.lookup x = some (.xc i fs) → XcHas X A x i fs
  sub : ∀ c ms, Γ.sub[c]? = some ms → ∀ x b, ms[x]? = some b → PySem.W.exmOne X.K (.ref (A.xa x)) (.ref (A.xa c)) = some b

section
variable {X : Cx} {A : Adr} {G : Gen} {Γ : Gam} {W : WX}

theorem ixOf_get {x : Str} : ∀ {ys : List Str} {i : Nat}, ixOf x ys = some i → ys[i]? = some x
  | [], i, h => by cases h
  | y :: ys, i, h => by
    have ih := fun j => @ixOf_get x ys j
    unfold ixOf at h
    by_cases e : y = x
    · rw [if_pos e] at h
      cases h
      rw [e]
      rfl
    · rw [if_neg e] at h
      cases q : ixOf x ys with
      | none => rw [q] at h; cases h
      | some j =>
        rw [q] at h
        cases h
        exact ih j q
theorem vis_of {sc : Scope} {x : Str} (h : isVis sc x = true) : Vis sc x := by
  unfold isVis at h
  split at h
  · exact .inl (by assumption)
  · exact .inr (.inl (by assumption))
  · exact .inr (.inr (by assumption))
  · cases h
theorem gl_of {sc : Scope} {x : Str} (h : isGl sc x = true) : sc.names.lookup x = some .globalImplicit := by
  unfold isGl at h
  split at h
  · assumption
  · cases h
theorem loc_of {sc : Scope} {x : Str} (h : isLoc sc x = true) : Loc sc x := by
  unfold isLoc at h
  split at h
  · exact .inl (by assumption)
  · exact .inr (by assumption)
  · cases h
theorem plain_of {x : Str} (h : plainNm x = true) : (x == ("__debug__" : Str)) = false ∧ (x == ("__classdict__" : Str)) = false ∧ x ≠ "__name__" := by
  unfold plainNm at h
  simp only [Bool.and_eq_true, Bool.not_eq_true'] at h
  exact ⟨h.1.1, h.1.2, fun e => by rw [e] at h; exact absurd h.2 (by decide)⟩
theorem Fits.gl (F : Fits A G Γ X W) {x : Str} (h : isGl Γ.sc x = true) : Gl X x := by
  show X.env.scope.names.lookup x = some .globalImplicit
  rw [F.sc]
  exact gl_of h
theorem Fits.vis (F : Fits A G Γ X W) {x : Str} (h : isVis Γ.sc x = true) : Vis X.env.scope x := by
  rw [F.sc]
  exact vis_of h
theorem Fits.loc (F : Fits A G Γ X W) {x : Str} (h : isLoc Γ.sc x = true) : Loc X.env.scope x := by
  rw [F.sc]
  exact loc_of h

/-- the good meaning of a term -/
def Ok (X : Cx) (A : Adr) (G : Gen) (W : WX) (e : Expr) (m : Ex) : Prop := PE X e (uE X.K A W (ev G m)) ∧ PT X e (uT X.K A W (evT G m))

theorem bnd_assoc {α β γ : Type} (m : M α) (f : α → M β) (g : β → M γ) : (m >>= f) >>= g = m >>= fun a => f a >>= g := by
  funext S
  show M.bnd (M.bnd m f) g S = M.bnd m (fun a => M.bnd (f a) g) S
  unfold M.bnd
  cases m S <;> rfl
theorem ret_bnd {α β : Type} (a : α) (f : α → M β) : M.ret a >>= f = f a := rfl
theorem truth_of {e : Expr} {m : Ex} (h : PE X e (uE X.K A W (ev G m))) (he : ∀ whole, isTrue e X.env whole = (do let v ← whole; standAt e.pos; holding [v] (truthy v))) : Ok X A G W e m := by
  refine ⟨h, PT.imp (pt_truth h he) ?_⟩
  rintro σ H Q ⟨env, S, μ, hE, hS, hc⟩
  refine ⟨env, S, μ, hE, hS, (Cont.bnd hc).to ?_⟩
  rintro v H1 ⟨x, S1, μ1, n1, s1, r1, h1⟩
  obtain ⟨k, S', e, q⟩ := Cont.okB h1 (truthM_er x S1)
  obtain ⟨rfl, t⟩ := truth_sv s1 r1 e
  exact ⟨k, t, q s1⟩
theorem pe_lit {e : Expr} {d : D} {v : V} (h : PE X e (tC v)) (r : ∀ μ H, RV X.K A μ H d v) : PE X e (uE X.K A W (ev G (.lit d))) := by
  refine PE.imp h ?_
  rintro σ H Q ⟨env, S, μ, hE, hS, hc⟩
  exact hc v μ H Nx.refl hS (r μ H)
theorem pe_name (F : Fits A G Γ X W) {x : Str} {p : Pos} {m : Ex} (h : cName Γ x = some m) : PE X (.Name x p) (uE X.K A W (ev G m)) := by
  unfold cName at h
  split at h
  · rename_i hp
    obtain ⟨h1, h2, h3⟩ := plain_of hp
    split at h
    · rename_i hv
      simp only [Option.map_eq_some_iff] at h
      obtain ⟨i, hi, rfl⟩ := h
      refine PE.imp (pe_var (by rw [F.N]; exact ixOf_get hi) (F.vis hv) h1 h2) ?_
      rintro σ H Q ⟨env, S, μ, hE, hS, hc⟩
      unfold ev at hc
      cases e : env[i]? with
      | none => simp only [e] at hc; exact hc.elim
      | some o =>
        cases o with
        | none => simp only [e] at hc; exact hc.elim
        | some d =>
          simp only [e] at hc
          obtain ⟨v, e2, r⟩ := hE.at_ i d e
          exact ⟨v, e2, Cont.out hc hS r⟩
    · split at h
      · rename_i hg
        split at h
        · rename_i d e
          cases h
          obtain ⟨u, v, hm, r, rv⟩ := F.cst x d e
          exact pe_lit (pe_glob (F.gl hg) hm r h1) rv
        · rename_i i np e
          cases h
          obtain ⟨k, fd, ps, hm, _⟩ := F.fns x i np e
          exact pe_lit (v := .ref (A.fa i)) (pe_glob (F.gl hg) hm rfl h1) fun _ _ => .fn i
        · cases h
        · split at h
          · rename_i hb
            simp only [Option.map_eq_some_iff] at h
            obtain ⟨t, ht, rfl⟩ := h
            have hv : bootBuiltins x = some (.type t.name) := by
              unfold tyOf at ht
              repeat' (split at ht)
              all_goals first
                | (rename_i e; cases ht; rw [e]; decide +kernel)
                | cases ht
            exact pe_lit (v := .ty t.name) (pe_bltn (F.gl hg) (F.blt x (of_decide_eq_true hb)) hv rfl h3 h1) fun _ _ => .ty t
          · cases h
      · cases h
  · cases h

/-! ### and, or, not -/
theorem ok_not {a : Expr} {m : Ex} {p : Pos} (h : Ok X A G W a m) : Ok X A G W (.UnaryOp .Not a p) (.not m) := by
  refine ⟨PE.imp (pe_notT h.1) ?_, PT.imp (pt_not h.2) ?_⟩
  · rintro σ H Q ⟨env, S, μ, hE, hS, hc⟩
    refine ⟨env, S, μ, hE, hS, (Cont.bnd hc).to ?_⟩
    rintro v H1 ⟨x, S1, μ1, n1, s1, r1, h1⟩
    obtain ⟨k, S', e, q⟩ := Cont.pure h1 (truthM_er x S1)
    obtain ⟨e1, t⟩ := truth_sv s1 r1 e
    rw [e1] at q
    exact ⟨k, t, q.out s1 (RV.bl _)⟩
  · rintro σ H Q ⟨env, S, μ, hE, hS, hc⟩
    have e : evT G (.not m) env = evT G m env >>= fun k => M.ret (!k) := by
      unfold evT
      show (ev G m env >>= fun x => truthM x >>= fun k => M.ret (D.bl (!k))) >>= truthM = (ev G m env >>= truthM) >>= fun k => M.ret (!k)
      rw [bnd_assoc, bnd_assoc]
      congr 1
      funext x
      rw [bnd_assoc]
      rfl
    rw [e] at hc
    refine ⟨env, S, μ, hE, hS, (Cont.bnd hc).to ?_⟩
    rintro v H1 ⟨x, S1, μ1, n1, s1, r1, h1⟩
    subst r1
    exact h1.out s1 rfl
theorem truthM_same {x : D} {S S' : Store} {k : Bool} (h : truthM x S = .ok k S') : S' = S := by
  cases x with
  | str z =>
    by_cases hz : z.length ≤ lim
    · have h : (M.need (decide (z.length ≤ lim)) >>= fun _ => M.ret ((z.length : Int) != 0)) S = .ok k S' := h
      rw [decide_eq_true hz] at h
      exact (Out.ok.inj h).2.symm
    · have h : (M.need (decide (z.length ≤ lim)) >>= fun _ => M.ret ((z.length : Int) != 0)) S = .ok k S' := h
      rw [decide_eq_false hz] at h
      cases h
  | ref r =>
    have h : M.bnd (getL r) (fun ds => M.ret (!ds.isEmpty)) S = .ok k S' := h
    unfold M.bnd getL at h
    cases q : S[r]? with
    | none => rw [q] at h; cases h
    | some c => rw [q] at h; cases c <;> first | exact (Out.ok.inj h).2.symm | cases h
  | fn f => cases h
  | ty t => cases h
  | _ => exact (Out.ok.inj h).2.symm
theorem pe_andU {a b : Expr} {r : List Expr} {m n : Ex} {p : Pos} (ha : PE X a (uE X.K A W (ev G m))) (hb : PE X (.BoolOp .And (b :: r) p) (uE X.K A W (ev G n))) : PE X (.BoolOp .And (a :: b :: r) p) (uE X.K A W (ev G (.and m n))) := by
  refine PE.imp (pe_andT ha hb) ?_
  rintro σ H Q ⟨env, S, μ, hE, hS, hc⟩
  refine ⟨env, S, μ, hE, hS, (Cont.bnd hc).to ?_⟩
  rintro v H1 ⟨x, S1, μ1, n1, s1, r1, h1⟩
  obtain ⟨k, S', e, q⟩ := Cont.pure h1 (truthM_er x S1)
  obtain ⟨e1, t⟩ := truth_sv s1 r1 e
  rw [e1] at q
  refine ⟨k, t, ?_⟩
  cases k with
  | true => exact ⟨env, S1, μ1, hE.mono n1, s1, q⟩
  | false => exact q.out s1 r1
theorem pe_orU {a b : Expr} {r : List Expr} {m n : Ex} {p : Pos} (ha : PE X a (uE X.K A W (ev G m))) (hb : PE X (.BoolOp .Or (b :: r) p) (uE X.K A W (ev G n))) : PE X (.BoolOp .Or (a :: b :: r) p) (uE X.K A W (ev G (.or m n))) := by
  refine PE.imp (pe_orT ha hb) ?_
  rintro σ H Q ⟨env, S, μ, hE, hS, hc⟩
  refine ⟨env, S, μ, hE, hS, (Cont.bnd hc).to ?_⟩
  rintro v H1 ⟨x, S1, μ1, n1, s1, r1, h1⟩
  obtain ⟨k, S', e, q⟩ := Cont.pure h1 (truthM_er x S1)
  obtain ⟨e1, t⟩ := truth_sv s1 r1 e
  rw [e1] at q
  refine ⟨k, t, ?_⟩
  cases k with
  | true => exact q.out s1 r1
  | false => exact ⟨env, S1, μ1, hE.mono n1, s1, q⟩
theorem pw_andU {a b : Expr} {r : List Expr} {m n : Ex} {p : Pos} (ha : PT X a (uT X.K A W (evT G m))) (hb : PW X (.BoolOp .And (b :: r) p) (uT X.K A W (evT G n))) : PW X (.BoolOp .And (a :: b :: r) p) (uT X.K A W (evT G (.and m n))) := by
  refine PW.imp (pw_and ha hb) ?_
  rintro σ H Q ⟨env, S, μ, hE, hS, hc⟩
  have hc : Cont X.K A W (fun _ _ a b => a = b) σ μ H ((evT G m env >>= fun k => if k then evT G n env else M.ret false) S) Q := by
    have e : evT G (.and m n) env = evT G m env >>= fun k => if k then evT G n env else M.ret false := by
      unfold evT
      show (ev G m env >>= fun x => truthM x >>= fun k => if k = true then ev G n env else M.ret x) >>= truthM = (ev G m env >>= truthM) >>= fun k => if k = true then ev G n env >>= truthM else M.ret false
      rw [bnd_assoc, bnd_assoc]
      congr 1
      funext x
      rw [bnd_assoc]
      funext S
      show M.bnd (truthM x) _ S = M.bnd (truthM x) _ S
      unfold M.bnd
      cases hk : truthM x S with
      | ok k S' =>
        cases k with
        | true => rfl
        | false =>
          have e1 : truthM x S' = .ok false S' := by
            have z := truthM_same hk
            subst z
            exact hk
          exact e1
      | er e S' => rfl
      | no => rfl
    rw [← e]
    exact hc
  refine ⟨env, S, μ, hE, hS, (Cont.bnd hc).to ?_⟩
  rintro v H1 ⟨k, S1, μ1, n1, s1, r1, h1⟩
  subst r1
  cases k with
  | true => exact ⟨env, S1, μ1, hE.mono n1, s1, h1⟩
  | false => exact h1.out s1 rfl
theorem pw_orU {a b : Expr} {r : List Expr} {m n : Ex} {p : Pos} (ha : PT X a (uT X.K A W (evT G m))) (hb : PW X (.BoolOp .Or (b :: r) p) (uT X.K A W (evT G n))) : PW X (.BoolOp .Or (a :: b :: r) p) (uT X.K A W (evT G (.or m n))) := by
  refine PW.imp (pw_or ha hb) ?_
  rintro σ H Q ⟨env, S, μ, hE, hS, hc⟩
  have e : evT G (.or m n) env = evT G m env >>= fun k => if k then M.ret true else evT G n env := by
    unfold evT
    show (ev G m env >>= fun x => truthM x >>= fun k => if k = true then M.ret x else ev G n env) >>= truthM = (ev G m env >>= truthM) >>= fun k => if k = true then M.ret true else ev G n env >>= truthM
    rw [bnd_assoc, bnd_assoc]
    congr 1
    funext x
    rw [bnd_assoc]
    funext S
    show M.bnd (truthM x) _ S = M.bnd (truthM x) _ S
    unfold M.bnd
    cases hk : truthM x S with
    | ok k S' =>
      cases k with
      | false => rfl
      | true =>
        have e1 : truthM x S' = .ok true S' := by
          have z := truthM_same hk
          subst z
          exact hk
        exact e1
    | er e S' => rfl
    | no => rfl
  rw [e] at hc
  refine ⟨env, S, μ, hE, hS, (Cont.bnd hc).to ?_⟩
  rintro v H1 ⟨k, S1, μ1, n1, s1, r1, h1⟩
  subst r1
  cases k with
  | true => exact h1.out s1 rfl
  | false => exact ⟨env, S1, μ1, hE.mono n1, s1, h1⟩
/-! ### a if c else b -/
theorem ok_ite {c a b : Expr} {k m n : Ex} {p : Pos} (hc : Ok X A G W c k) (ha : Ok X A G W a m) (hb : Ok X A G W b n) : Ok X A G W (.IfExp c a b p) (.ite k m n) := by
  have un : ∀ env, ev G (.ite k m n) env = evT G k env >>= fun t => if t then ev G m env else ev G n env := fun env => by
    unfold evT
    rw [bnd_assoc]
    rfl
  refine ⟨PE.imp (pe_ifExp hc.2 ha.1 hb.1) ?_, ?_⟩
  · rintro σ H Q ⟨env, S, μ, hE, hS, h⟩
    rw [un] at h
    refine ⟨env, S, μ, hE, hS, (Cont.bnd h).to ?_⟩
    rintro v H1 ⟨t, S1, μ1, n1, s1, r1, h1⟩
    subst r1
    cases t with
    | true => exact ⟨env, S1, μ1, hE.mono n1, s1, h1⟩
    | false => exact ⟨env, S1, μ1, hE.mono n1, s1, h1⟩
  · refine ⟨fun pins s σ H Q I h => ?_⟩
    obtain ⟨env, S, μ, hE, hS, h⟩ := h
    have e : evT G (.ite k m n) env = evT G k env >>= fun t => if t then evT G m env else evT G n env := by
      show ev G (.ite k m n) env >>= truthM = _
      rw [un, bnd_assoc]
      congr 1
      funext t
      cases t <;> rfl
    rw [e] at h
    have hq := hc.2.run pins s σ H _ I ⟨env, S, μ, hE, hS, Cont.bnd h⟩
    show wpAny _ _ (PySem.isTrue (.IfExp c a b p) X.env _) _ _ _
    have step : ∀ whole, PySem.isTrue (.IfExp c a b p) X.env whole = (PySem.isTrue c X.env (eval c X.env) >>= fun t => if t = true then PySem.isTrue a X.env (eval a X.env) else PySem.isTrue b X.env (eval b X.env)) := fun whole => rfl
    rw [step]
    refine wpAny_bind (thn hq ?_)
    rintro t s1 ⟨H1, I1, t', S1, μ1, n1, s1', r1, h1⟩
    subst r1
    cases t' with
    | true => exact ha.2.run pins s1 σ H1 Q I1 ⟨env, S1, μ1, hE.mono n1, s1', h1⟩
    | false => exact hb.2.run pins s1 σ H1 Q I1 ⟨env, S1, μ1, hE.mono n1, s1', h1⟩
/-! ### comparisons -/
theorem rCop_mono {K : PySem.W.Frag} (o : COp) {v w : V} {H : Hp} {Q Q' : VK} (h : ∀ z H', Q z H' → Q' z H') (r : rCop K o v w H Q) : rCop K o v w H Q' := by
  cases o with
  | eq =>
    rcases r with ⟨a, q⟩ | ⟨d, e, a, b, c, f, q⟩
    · exact .inl ⟨a, h _ _ q⟩
    · exact .inr ⟨d, e, a, b, c, f, h _ _ q⟩
  | ne =>
    rcases r with ⟨a, q⟩ | ⟨d, e, a, b, c, f, q⟩
    · exact .inl ⟨a, h _ _ q⟩
    · exact .inr ⟨d, e, a, b, c, f, h _ _ q⟩
  | lt => obtain ⟨i, j, a, b, q⟩ := r; exact ⟨i, j, a, b, h _ _ q⟩
  | le => obtain ⟨i, j, a, b, q⟩ := r; exact ⟨i, j, a, b, h _ _ q⟩
  | gt => obtain ⟨i, j, a, b, q⟩ := r; exact ⟨i, j, a, b, h _ _ q⟩
  | ge => obtain ⟨i, j, a, b, q⟩ := r; exact ⟨i, j, a, b, h _ _ q⟩
  | is_ =>
    rcases r with ⟨a, q⟩ | ⟨d, e, a, b, q⟩
    · exact .inl ⟨a, h _ _ q⟩
    · exact .inr ⟨d, e, a, b, h _ _ q⟩
  | isnt =>
    rcases r with ⟨a, q⟩ | ⟨d, e, a, b, q⟩
    · exact .inl ⟨a, h _ _ q⟩
    · exact .inr ⟨d, e, a, b, h _ _ q⟩
  | in_ =>
    rcases r with ⟨c, z, a, b, q⟩ | ⟨d, ds, a, b, c, q⟩
    · exact .inl ⟨c, z, a, b, h _ _ q⟩
    · exact .inr ⟨d, ds, a, b, c, h _ _ q⟩
  | nin =>
    rcases r with ⟨c, z, a, b, q⟩ | ⟨d, ds, a, b, c, q⟩
    · exact .inl ⟨c, z, a, b, h _ _ q⟩
    · exact .inr ⟨d, ds, a, b, c, h _ _ q⟩
theorem pe_cmpU (hu : X.A.units + 65 < cLine) {a b : Expr} {m n : Ex} {o : COp} {p : Pos} (ha : PE X a (uE X.K A W (ev G m))) (hb : PE X b (uE X.K A W (ev G n))) (hm : behindInMarks (cmpAst o) b = false) : Ok X A G W (.Compare a [cmpAst o] [b] p) (.cmp o m n) := by
  have un : ∀ env, ev G (.cmp o m n) env = ev G m env >>= fun x => ev G n env >>= fun y => cmpM o x y >>= fun k => M.ret (.bl k) := fun env => rfl
  have key : ∀ {env : Env} {S : Store} {μ : List Addr} {σ : L2.St} {H : Hp} {Q : Bool → Hp → Prop}, ER X.K A μ H env σ → Sto X.K A μ S H →
      Cont X.K A W (fun _ _ a b => a = b) σ μ H ((ev G m env >>= fun x => ev G n env >>= fun y => cmpM o x y) S) Q → tTest (tOp (rCop X.K o) (uE X.K A W (ev G m)) (uE X.K A W (ev G n))) σ H Q := fun {env S μ σ H Q} hE hS h => by
    refine ⟨env, S, μ, hE, hS, (Cont.bnd h).to ?_⟩
    rintro v H1 ⟨x, S1, μ1, n1, s1, r1, h1⟩
    refine ⟨env, S1, μ1, hE.mono n1, s1, (Cont.bnd h1).to ?_⟩
    rintro w H2 ⟨y, S2, μ2, n2, s2, r2, h2⟩
    exact sv_cop o W σ x y v w μ2 H2 S2 Q s2 (r1.mono n2) r2 h2
  refine ⟨PE.imp (pe_cmpR (op_cop hu o) ha hb hm) ?_, PT.imp (pt_cmpR (op_cop hu o) ha hb hm) ?_⟩
  · rintro σ H Q ⟨env, S, μ, hE, hS, h⟩
    refine ⟨env, S, μ, hE, hS, (Cont.bnd h).to ?_⟩
    rintro v H1 ⟨x, S1, μ1, n1, s1, r1, h1⟩
    refine ⟨env, S1, μ1, hE.mono n1, s1, (Cont.bnd h1).to ?_⟩
    rintro w H2 ⟨y, S2, μ2, n2, s2, r2, h2⟩
    refine rCop_mono o ?_ (sv_cop (X := X) o W σ x y v w μ2 H2 S2 (fun k H' => Q (.bl k) H') s2 (r1.mono n2) r2 ((Cont.bnd h2).to ?_))
    · rintro z H' ⟨k, rfl, q⟩
      exact q
    · rintro k H' ⟨k', S3, μ3, n3, s3, r3, h3⟩
      subst r3
      exact h3.out s3 (RV.bl _)
  · rintro σ H Q ⟨env, S, μ, hE, hS, h⟩
    refine key hE hS ?_
    have e : evT G (.cmp o m n) env = ev G m env >>= fun x => ev G n env >>= fun y => cmpM o x y := by
      unfold evT
      rw [un, bnd_assoc]
      congr 1
      funext x
      rw [bnd_assoc]
      congr 1
      funext y
      rw [bnd_assoc]
      funext S
      show M.bnd (cmpM o x y) _ S = _
      unfold M.bnd
      cases cmpM o x y S <;> rfl
    rw [← e]
    exact h
end
end Mi

/-! Mi, part H: chains, displays, items, calls. -/
namespace Mi
open PySem PySem.Spec PyProof.Rows L2
section
variable {X : Cx} {A : Adr} {G : Gen} {Γ : Gam} {W : WX}

theorem bnd_congr {α β : Type} {m : M α} {f g : α → M β} (h : ∀ a, f a = g a) : m >>= f = m >>= g := by
  congr 1
  funext a
  exact h a
theorem truth_bl {m : M Bool} : (m >>= fun k => M.ret (D.bl k)) >>= truthM = m := by
  rw [bnd_assoc]
  funext S
  show M.bnd m _ S = _
  unfold M.bnd
  cases m S <;> rfl
/-! ### chains -/
theorem ok_chn (hu : X.A.units + 65 < cLine) {a b c : Expr} {m n l : Ex} {o o' : COp} {p : Pos} (ha : PE X a (uE X.K A W (ev G m))) (hb : PE X b (uE X.K A W (ev G n))) (hc : PE X c (uE X.K A W (ev G l)))
    (hm : lastMarks [cmpAst o, cmpAst o'] [b, c] = false) : Ok X A G W (.Compare a [cmpAst o, cmpAst o'] [b, c] p) (.chn o o' m n l) := by
  have un : ∀ env, ev G (.chn o o' m n l) env = (ev G m env >>= fun x => ev G n env >>= fun y => cmpM o x y >>= fun k => if k then ev G l env >>= fun z => cmpM o' y z else M.ret false) >>= fun k => M.ret (D.bl k) := fun env => by
    rw [bnd_assoc]
    refine bnd_congr fun x => ?_
    rw [bnd_assoc]
    refine bnd_congr fun y => ?_
    rw [bnd_assoc]
    refine bnd_congr fun k => ?_
    cases k with
    | true =>
      show (ev G l env >>= fun z => cmpM o' y z >>= fun k' => M.ret (D.bl k')) = (ev G l env >>= fun z => cmpM o' y z) >>= _
      rw [bnd_assoc]
    | false => rfl
  have key : ∀ {env : PySem.Env → Unit} {e : Env} {S : Store} {μ : List Addr} {σ : L2.St} {H : Hp} {Q : Bool → Hp → Prop}, ER X.K A μ H e σ → Sto X.K A μ S H →
      Cont X.K A W (fun _ _ a b => a = b) σ μ H ((ev G m e >>= fun x => ev G n e >>= fun y => cmpM o x y >>= fun k => if k then ev G l e >>= fun z => cmpM o' y z else M.ret false) S) Q →
      tChain (rCop X.K o) (rCop X.K o') (uE X.K A W (ev G m)) (uE X.K A W (ev G n)) (uE X.K A W (ev G l)) σ H (fun z H' => ∃ k, z = .bl k ∧ Q k H') := fun {_ e S μ σ H Q} hE hS h => by
    refine ⟨e, S, μ, hE, hS, (Cont.bnd h).to ?_⟩
    rintro v H1 ⟨x, S1, μ1, n1, s1, r1, h1⟩
    refine ⟨e, S1, μ1, hE.mono n1, s1, (Cont.bnd h1).to ?_⟩
    rintro w H2 ⟨y, S2, μ2, n2, s2, r2, h2⟩
    refine rCop_mono o ?_ (sv_cop o W σ x y v w μ2 H2 S2 _ s2 (r1.mono n2) r2 (Cont.bnd h2))
    rintro z H3 ⟨k, rfl, k', S3, μ3, n3, s3, r3, h3⟩
    subst r3
    refine ⟨k', rfl, ?_⟩
    cases k' with
    | true =>
      refine ⟨e, S3, μ3, (((hE.mono n1).mono n2).mono n3), s3, (Cont.bnd h3).to ?_⟩
      rintro u H4 ⟨z, S4, μ4, n4, s4, r4, h4⟩
      exact sv_cop o' W σ y z w u μ4 H4 S4 Q s4 ((r2.mono n3).mono n4) r4 h4
    | false => exact ⟨false, rfl, h3.out s3 rfl⟩
  refine ⟨PE.imp (pe_chain (op_cop hu o) (op_cop hu o') ha hb hc hm) ?_, PT.imp (pt_chain (op_cop hu o) (op_cop hu o') ha hb hc hm) ?_⟩
  · rintro σ H Q ⟨e, S, μ, hE, hS, h⟩
    rw [un] at h
    have h' := (Cont.bnd (R1 := fun _ _ (a b : Bool) => a = b) h)
    have q := key (env := fun _ => ()) hE hS h'
    have fin : ∀ z H', (∃ k, z = V.bl k ∧ ∃ x S1 μ1, Nx μ H μ1 H' ∧ Sto X.K A μ1 S1 H' ∧ x = k ∧ Cont X.K A W (RV X.K A) σ μ1 H' (M.ret (D.bl x) S1) Q) → Q z H' := by
      rintro z H' ⟨k, rfl, x, S1, μ1, n1, s1, rfl, h1⟩
      exact h1.out s1 (RV.bl _)
    refine Cont_to_uE q fun x H1 q1 => Cont_to_uE q1 fun y H2 q2 => rCop_mono o ?_ q2
    rintro z H3 ⟨k, rfl, q3⟩
    refine ⟨k, rfl, ?_⟩
    cases k with
    | true => exact Cont_to_uE q3 fun w H4 q4 => rCop_mono o' fin q4
    | false => exact fin _ _ q3
  · rintro σ H Q ⟨e, S, μ, hE, hS, h⟩
    have e1 : evT G (.chn o o' m n l) e = (ev G m e >>= fun x => ev G n e >>= fun y => cmpM o x y >>= fun k => if k then ev G l e >>= fun z => cmpM o' y z else M.ret false) := by
      unfold evT
      rw [un]
      exact truth_bl
    rw [e1] at h
    exact key (env := fun _ => ()) hE hS h
end
end Mi

/-! Mi, part I: displays, items, calls. -/
namespace Mi
open PySem PySem.Spec PyProof.Rows L2
section
variable {X : Cx} {A : Adr} {G : Gen} {Γ : Gam} {W : WX}

theorem ok_bin {a b : Expr} {m n : Ex} {o : BOp} {p : Pos} (ha : PE X a (uE X.K A W (ev G m))) (hb : PE X b (uE X.K A W (ev G n))) : Ok X A G W (.BinOp a (opAst o) b p) (.bin o m n) :=
  truth_of (PE.imp (pe_op (op_bop o) ha hb) (tOp_of (sv_bop o))) fun _ => rfl
theorem ok_neg {a : Expr} {m : Ex} {p : Pos} (ha : PE X a (uE X.K A W (ev G m))) : Ok X A G W (.UnaryOp .USub a p) (.neg m) := by
  refine truth_of (PE.imp (pe_un un_neg ha) ?_) fun _ => rfl
  rintro σ H Q ⟨e, S, μ, hE, hS, h⟩
  refine ⟨e, S, μ, hE, hS, (Cont.bnd h).to ?_⟩
  rintro v H1 ⟨x, S1, μ1, n1, s1, r1, h1⟩
  cases r1 with
  | int i => exact ⟨i, rfl, Cont.out (v := V.int (-i)) h1 s1 (RV.int _)⟩
  | _ => exact False.elim h1

/-! ### rows of terms -/
def notStar : Expr → Bool
  | .Starred _ _ => false
  | _ => true
theorem star_cons {env : PySem.Env} {e : Expr} {es : List Expr} (h : notStar e = true) : starEach (e :: es) env = (false, eval e env) :: starEach es env := by
  cases e <;> first | rfl | cases h
theorem star_none {env : PySem.Env} {pos : Pos} : ∀ {es : List Expr}, (∀ e ∈ es, notStar e = true) → (backTo pos (starEach es env)).any (·.1) = false
  | [], _ => rfl
  | e :: es, h => by
    rw [star_cons (h e List.mem_cons_self)]
    show (false || (backTo pos (starEach es env)).any (·.1)) = false
    rw [star_none fun e he => h e (List.mem_cons_of_mem _ he)]
    rfl
theorem star_all {env : PySem.Env} {pos : Pos} : ∀ {es : List Expr}, (∀ e ∈ es, notStar e = true) → (backTo pos (starEach es env)).all (fun x => !x.1) = true
  | [], _ => rfl
  | e :: es, h => by
    rw [star_cons (h e List.mem_cons_self)]
    show (!false && (backTo pos (starEach es env)).all (fun x => !x.1)) = true
    rw [star_all fun e he => h e (List.mem_cons_of_mem _ he)]
    rfl
/-- a row of terms that mean what they should -/
inductive Oks (X : Cx) (A : Adr) (G : Gen) (W : WX) : List Expr → List Ex → Prop where
  | nil : Oks X A G W [] []
  | cons {e : Expr} {m : Ex} {es : List Expr} {ms : List Ex} : notStar e = true → PE X e (uE X.K A W (ev G m)) → Oks X A G W es ms → Oks X A G W (e :: es) (m :: ms)
theorem Oks.star {es : List Expr} {ms : List Ex} (h : Oks X A G W es ms) : ∀ e ∈ es, notStar e = true := by
  induction h with
  | nil => intro e he; cases he
  | cons h1 _ _ ih =>
    intro e he
    rcases List.mem_cons.mp he with rfl | he
    · exact h1
    · exact ih e he
theorem Oks.len {es : List Expr} {ms : List Ex} (h : Oks X A G W es ms) : es.length = ms.length := by
  induction h with
  | nil => rfl
  | cons _ _ _ ih => rw [List.length_cons, List.length_cons, ih]
theorem pa_of {es : List Expr} {ms : List Ex} (h : Oks X A G W es ms) : PA X es (uA X.K A W (evs G ms)) := by
  induction h with
  | nil =>
    refine ⟨fun pos pins s σ H Q I q => pa_nil.run pos pins s σ H Q I ?_⟩
    obtain ⟨e, S, μ, hE, hS, hc⟩ := q
    exact Cont.out (v := ([] : List V)) hc hS .nil
  | cons h1 h2 h3 ih =>
    refine ⟨fun pos pins s σ H Q I q => (pa_cons h2 ih (star_cons h1)).run pos pins s σ H Q I ?_⟩
    obtain ⟨e, S, μ, hE, hS, hc⟩ := q
    refine ⟨e, S, μ, hE, hS, (Cont.bnd hc).to ?_⟩
    rintro v H1 ⟨x, S1, μ1, n1, s1, r1, h1⟩
    refine ⟨e, S1, μ1, hE.mono n1, s1, (Cont.bnd h1).to ?_⟩
    rintro vs H2 ⟨xs, S2, μ2, n2, s2, r2, h2⟩
    exact Cont.out (v := v :: vs) h2 s2 (.cons (r1.mono n2) r2)
theorem evs_len {env : Env} : ∀ {ms : List Ex} {S S' : Store} {ds : List D}, evs G ms env S = .ok ds S' → ds.length = ms.length
  | [], S, S', ds, h => by cases h; rfl
  | m :: ms, S, S', ds, h => by
    have h : M.bnd (ev G m env) (fun d => M.bnd (evs G ms env) fun ds => M.ret (d :: ds)) S = .ok ds S' := h
    unfold M.bnd at h
    cases e : ev G m env S with
    | ok d S1 =>
      rw [e] at h
      simp only at h
      cases e2 : evs G ms env S1 with
      | ok es S2 =>
        rw [e2] at h
        cases h
        rw [List.length_cons, List.length_cons, evs_len e2]
      | er _ _ => rw [e2] at h; cases h
      | no => rw [e2] at h; cases h
    | er _ _ => rw [e] at h; cases h
    | no => rw [e] at h; cases h

/-! ### displays -/
theorem ok_tup {es : List Expr} {ms : List Ex} {k : Nat} {p : Pos} (h : Oks X A G W es ms) : Ok X A G W (.Tuple es k p) (.tup ms) := by
  refine truth_of (PE.imp (pe_tup (pa_of h)) ?_) fun _ => rfl
  rintro σ H Q ⟨e, S, μ, hE, hS, hc⟩
  refine ⟨e, S, μ, hE, hS, (Cont.bnd hc).to ?_⟩
  rintro vs H1 ⟨ds, S1, μ1, n1, s1, r1, h1⟩
  obtain ⟨h0, h1⟩ := Cont.need h1
  refine ⟨by rw [← r1.length]; exact lim_size (of_decide_eq_true h0), fun q hq => h1.tup s1 r1 hq⟩
theorem ok_lst {es : List Expr} {ms : List Ex} {p : Pos} (h : Oks X A G W es ms) : Ok X A G W (.List es p) (.lst ms) := by
  refine truth_of (PE.imp (pe_lst (pa_of h)) ?_) fun _ => rfl
  rintro σ H Q ⟨e, S, μ, hE, hS, hc⟩
  refine ⟨e, S, μ, hE, hS, (Cont.bnd hc).to ?_⟩
  rintro vs H1 ⟨ds, S1, μ1, n1, s1, r1, h1⟩
  obtain ⟨h0, h1⟩ := Cont.need h1
  refine ⟨by rw [← r1.length]; exact lim_size (of_decide_eq_true h0), fun q hq => Cont.newL s1 h1 r1 hq⟩

/-! ### items and slices -/
theorem ok_ix {a b : Expr} {m n : Ex} {p : Pos} (ha : PE X a (uE X.K A W (ev G m))) (hb : PE X b (uE X.K A W (ev G n))) (hs : isSlc b = false) : Ok X A G W (.Subscript a b p) (.ix m n) := by
  refine truth_of (PE.imp (pe_ix ix_seq ha hb ?_) (tOp_of sv_ix)) fun _ => rfl
  intro o i
  cases b <;> first | rfl | cases hs
def OkO (X : Cx) (A : Adr) (G : Gen) (W : WX) (e : Option Expr) (m : Option Ex) : Prop := PO X e (uO X.K A W (evo G m))
theorem oko_none : OkO X A G W none none := by
  refine ⟨fun pins s σ H Q I q => po_none.run pins s σ H Q I ?_⟩
  obtain ⟨e, S, μ, hE, hS, hc⟩ := q
  exact Cont.out (v := (none : Option Int)) hc hS rfl
theorem oko_some {e : Expr} {m : Ex} (h : PE X e (uE X.K A W (ev G m))) : OkO X A G W (some e) (some m) := by
  refine ⟨fun pins s σ H Q I q => (po_some h).run pins s σ H Q I ?_⟩
  obtain ⟨e, S, μ, hE, hS, hc⟩ := q
  refine ⟨e, S, μ, hE, hS, (Cont.bnd hc).to ?_⟩
  rintro v H1 ⟨x, S1, μ1, n1, s1, r1, h1⟩
  cases r1 with
  | int i => exact ⟨i, rfl, Cont.out (v := some i) h1 s1 rfl⟩
  | _ => exact False.elim h1
theorem ok_sl {a : Expr} {lo hi : Option Expr} {m : Ex} {l h : Option Ex} {p p2 : Pos} (ha : PE X a (uE X.K A W (ev G m))) (hl : OkO X A G W lo l) (hh : OkO X A G W hi h) : Ok X A G W (.Subscript a (.Slice lo hi none p2) p) (.sl m l h) := by
  refine truth_of (PE.imp (pe_slice sl_all ha hl hh) ?_) fun _ => rfl
  rintro σ H Q ⟨e, S, μ, hE, hS, hc⟩
  refine ⟨e, S, μ, hE, hS, (Cont.bnd hc).to ?_⟩
  rintro v H1 ⟨x, S1, μ1, n1, s1, r1, h1⟩
  refine ⟨e, S1, μ1, hE.mono n1, s1, (Cont.bnd h1).to ?_⟩
  rintro i H2 ⟨i', S2, μ2, n2, s2, r2, h2⟩
  subst r2
  refine ⟨e, S2, μ2, (hE.mono n1).mono n2, s2, (Cont.bnd h2).to ?_⟩
  rintro j H3 ⟨j', S3, μ3, n3, s3, r3, h3⟩
  subst r3
  exact sv_sl s3 ((r1.mono n2).mono n3) h3

/-! ### calls -/
theorem uSp_of {np : Nat} {f : List D → M D} {ds : List D} {vs : List V} {S : Store} {μ : List Addr} {H : Hp} {Q : VK} {σ : L2.St} (hl : ds.length = np) (r : RVs X.K A μ H ds vs) (s : Sto X.K A μ S H) (h : Cont X.K A W (RV X.K A) σ μ H (f ds S) Q) : uSp X.K A np f vs H Q (WE W σ) := by
  refine ⟨ds, S, μ, hl, r, s, ?_⟩
  cases e : f ds S with
  | ok d S' => rw [e] at h; exact h
  | er x S' => rw [e] at h; exact h
  | no => rw [e] at h; exact h
theorem pe_callS0 {CX : CXT} {k : Nat} {f : Addr} {fd : FuncData} {ps : List Str} {sp : Sp} {E : L2.St → XK} {x : Str} {p pos : Pos} (F : FnOk X.prog X.w X.K X.mg X.base CX k f fd ps sp) (hr : Room k X.A) (hg : Gl X x) (hm : X.mg x = some (.ref f)) (hk : PySem.W.keepIn X.K (.ref f) = true)
    (hb : Binds X.K fd ps []) (hx : ∀ σ, PassesAt CX X σ (E σ)) (hdb : (x == ("__debug__" : Str)) = false) : PE X (.Call (.Name x p) [] [] pos) (tCallS sp E tNil) :=
  ⟨fun pins s σ H Q I h => wpAny_Call_Name_kw (ld_glob I hg hm (PySem.W.callWith_K0 I.kIn hk (run_fnS (us := []) F hr hb (hx σ) I .nil h)) hdb)⟩
theorem ok_call (F : Fits A G Γ X W) {x : Str} {i np : Nat} {es : List Expr} {ms : List Ex} {p pos : Pos} (hg : isGl Γ.sc x = true) (hp : plainNm x = true) (hf : Γ.glob.lookup x = some (.fn i np)) (hn : ms.length = np) (h : Oks X A G W es ms) : Ok X A G W (.Call (.Name x p) es [] pos) (.call i ms) := by
  obtain ⟨k, fd, ps, hm, hk, hr, hb, hl, FO⟩ := F.fns x i np hf
  have q : ∀ σ H Q, uE X.K A W (ev G (.call i ms)) σ H Q → tCallS (uSp X.K A np (G.call i)) (WE W) (uA X.K A W (evs G ms)) σ H Q := by
    rintro σ H Q ⟨e, S, μ, hE, hS, hc⟩
    have hc : Cont X.K A W (RV X.K A) σ μ H ((evs G ms e >>= fun ds => G.call i ds) S) Q := hc
    have hc2 := Cont.bnd (R1 := RVs X.K A) hc
    refine ⟨e, S, μ, hE, hS, ?_⟩
    cases el : evs G ms e S with
    | ok ds S' =>
      rw [el] at hc2
      intro vs μ' H' n s r
      obtain ⟨ds2, S2, μ2, n2, s2, r2, h2⟩ := hc2 vs μ' H' n s r
      have h3 : Cont X.K A W (RV X.K A) σ μ' H' (G.call i ds S') Q := by
        have : Cont X.K A W (RV X.K A) σ μ H (M.bnd (evs G ms e) (fun ds => G.call i ds) S) Q := hc
        unfold M.bnd at this
        rw [el] at this
        exact Cont.trans n this
      exact uSp_of (by rw [evs_len el]; exact hn) r s h3
    | er x S' => rw [el] at hc2; exact hc2
    | no => rw [el] at hc2; exact hc2
  refine truth_of ?_ fun _ => rfl
  cases h with
  | nil =>
    refine PE.imp (pe_callS0 FO hr (F.gl hg) hm hk hb (fun σ => passAt F.tk σ) (plain_of hp).1) ?_
    rintro σ H Q hq
    obtain ⟨e, S, μ, hE, hS, hc⟩ := q σ H Q hq
    exact Cont.out (v := ([] : List V)) hc hS .nil
  | cons h1 h2 h3 =>
    exact PE.imp (pe_callS FO hr (F.gl hg) hm hk hb (fun σ => passAt F.tk σ) (pa_of (.cons h1 h2 h3)) (plain_of hp).1 (star_cons h1) (star_none h3.star)) q

/-! ### what is built in -/
theorem ok_blt (F : Fits A G Γ X W) {x : Str} {b : Blt} {e : Expr} {es : List Expr} {ms : List Ex} {p pos : Pos} (hg : isGl Γ.sc x = true) (hp : plainNm x = true) (hb : x ∈ Γ.blts) (hx : bltNm b = x) (h : Oks X A G W (e :: es) ms) : Ok X A G W (.Call (.Name x p) (e :: es) [] pos) (.blt b ms) := by
  obtain ⟨r, hr, hs⟩ := blt_sv (A := A) F.calm b
  have hv := blt_boot b
  rw [hx] at hv
  obtain ⟨p1, p2, p3⟩ := plain_of hp
  have h1 := h.star e List.mem_cons_self
  have h2 := star_none (env := X.env) (pos := pos) (es := es) fun e he => h.star e (List.mem_cons_of_mem _ he)
  have q : PE X (.Call (.Name x p) (e :: es) [] pos) (tCB r (uA X.K A W (evs G ms))) := by
    unfold bltV at hr hv
    by_cases ht : bltT b = true
    · rw [if_pos ht] at hr hv
      exact pe_callTy hr (F.gl hg) (F.blt x hb) hv (pa_of h) p3 p1 (star_cons h1) h2
    · rw [if_neg ht] at hr hv
      exact pe_callB hr (F.gl hg) (F.blt x hb) hv (pa_of h) p3 p1 (star_cons h1) h2
  refine truth_of (PE.imp q ?_) fun _ => rfl
  rintro σ H Q ⟨e, S, μ, hE, hS, hc⟩
  refine ⟨e, S, μ, hE, hS, (Cont.bnd hc).to ?_⟩
  rintro vs H1 ⟨ds, S1, μ1, n1, s1, r1, h1⟩
  exact hs W σ ds vs μ1 H1 S1 Q s1 r1 h1
end
end Mi

/-! Mi, part J: methods, sources, comprehensions. -/
namespace Mi
open PySem PySem.Spec PyProof.Rows L2
section
variable {X : Cx} {A : Adr} {G : Gen} {Γ : Gam} {W : WX}

/-! ### methods of lists -/
def mthNm : Mth → Str
  | .append => "append" | .pop => "pop" | .extend => "extend"
def rMth : Mth → V → List V → Hp → VK → Prop
  | .append => rAppend
  | .pop => rPopAt
  | .extend => rExtend
theorem seq_of_ix {n : Nat} {i : Int} {k : Nat} (h : ixN n i = some k) : seqIndex? i n = some k := (ixN_seq h).1
theorem need_sv {b : Bool} {S : Store} {α : Type} {f : Unit → M α} {r : Out α} (h : (M.need b >>= f) S = r) : b = true ∨ r = .no := by
  cases b with
  | true => exact .inl rfl
  | false => exact .inr h.symm
theorem mth1_sv {σ : L2.St} {x d : D} {v w : V} {μ : List Addr} {H : Hp} {S : Store} {Q : VK} (m : Mth) (s : Sto X.K A μ S H) (rx : RV X.K A μ H x v) (rd : RV X.K A μ H d w)
    (h : Cont X.K A W (RV X.K A) σ μ H (mthM m x [d] S) Q) : rMth m v [w] H Q := by
  cases m with
  | append =>
    cases rx with
    | @ref n a e0 =>
      obtain ⟨ds, vs, g1, g2, h, e⟩ := Cont.getW s h e0
      obtain ⟨h0, h⟩ := Cont.need h
      have h3 := Cont.setL h e
      have rr : RVs X.K A μ H (ds ++ [d]) (vs ++ [w]) := g2.append (.cons rd .nil)
      obtain ⟨nx, s2⟩ := wrL s e0 e g1 rr
      exact ⟨a, vs, w, rfl, rfl, g1, by rw [← g2.length]; exact lim_lt (of_decide_eq_true h0), h3 V.non μ _ nx s2 .non⟩
    | _ => exact False.elim h
  | extend =>
    cases rx with
    | @ref n a e0 =>
      cases rd with
      | @ref n2 b e1 =>
        obtain ⟨ds, vs, g1, g2, h, e⟩ := Cont.getW s h e0
        obtain ⟨es, us, g3, g4, h, e'⟩ := Cont.getW s h e1
        obtain ⟨h0, h⟩ := Cont.need h
        have h3 := Cont.setL h e
        obtain ⟨nx, s2⟩ := wrL s e0 e g1 (g2.append g4)
        exact ⟨a, b, vs, us, rfl, rfl, g1, g3, by rw [← g2.length, ← g4.length]; exact lim_size (of_decide_eq_true h0), h3 V.non μ _ nx s2 .non⟩
      | _ => exact False.elim h
    | _ => cases rd <;> exact False.elim h
  | pop =>
    cases rx with
    | @ref n a e0 =>
      cases rd with
      | int i =>
        obtain ⟨h0, h⟩ := Cont.need h
        obtain ⟨ds, vs, g1, g2, h, e⟩ := Cont.getW s h e0
        obtain ⟨k, hk, h⟩ := Cont.ofO h
        obtain ⟨y, hy, h⟩ := Cont.ofO h
        have h3 := Cont.setL h e
        obtain ⟨u, hu, ru⟩ := g2.get hy
        obtain ⟨nx, s2⟩ := wrL s e0 e g1 (g2.eraseIdx k)
        have h1 : -(2 ^ 63) ≤ i ∧ i < 2 ^ 63 := of_decide_eq_true h0
        exact ⟨a, vs, i, k, u, rfl, rfl, g1, h1.1, h1.2, by rw [← g2.length]; exact seq_of_ix hk, hu, h3 u μ _ nx s2 (ru.mono nx)⟩
      | _ => exact False.elim h
    | _ => cases rd <;> exact False.elim h
theorem pop_sv {σ : L2.St} {x : D} {v : V} {μ : List Addr} {H : Hp} {S : Store} {Q : VK} (s : Sto X.K A μ S H) (rx : RV X.K A μ H x v)
    (h : Cont X.K A W (RV X.K A) σ μ H (mthM .pop x [] S) Q) : rPop v [] H Q := by
  cases rx with
  | @ref n a e0 =>
    obtain ⟨ds, vs, g1, g2, h, e⟩ := Cont.getW s h e0
    obtain ⟨y, hy, h⟩ := Cont.ofO h
    have h3 := Cont.setL h e
    obtain ⟨u, hu, ru⟩ := g2.get hy
    obtain ⟨nx, s2⟩ := wrL s e0 e g1 g2.dropLast
    exact ⟨a, vs, u, rfl, rfl, g1, by rw [← g2.length]; exact hu, h3 u μ _ nx s2 (ru.mono nx)⟩
  | _ => exact False.elim h
theorem base_of {o : Expr} {m : Str} (h : notSup o = true) : attributeBase o m X.env (eval o X.env) = eval o X.env := by
  unfold notSup at h
  split at h
  · cases h
  · rename_i hn
    unfold attributeBase
    split
    · rename_i q
      exact absurd rfl (hn _ _ _)
    · rfl
theorem pre_sv {K : PySem.W.Frag} {R : List Addr → Hp → D → V → Prop} {σ : L2.St} {x : D} {v : V} {μ : List Addr} {H : Hp} {S : Store} {Q : VK} {f : Unit → M D} (s : Sto K A μ S H) (rx : RV K A μ H x v) (h : Cont K A W R σ μ H ((mthPre x >>= f) S) Q) : tyV K "list" v H ∧ Cont K A W R σ μ H (f () S) Q := by
  cases rx with
  | @ref n a e0 =>
    have h : Cont K A W R σ μ H (((getL n >>= fun _ => M.ret ()) >>= f) S) Q := h
    rw [bnd_assoc] at h
    obtain ⟨ds, vs, g1, g2, h, _⟩ := Cont.getL s h e0
    exact ⟨.inl ⟨rfl, vs, g1⟩, h⟩
  | _ => exact False.elim h
theorem ok_mth1 {o e : Expr} {n l : Ex} {m : Mth} {apos cpos : Pos} (ho : PE X o (uE X.K A W (ev G n))) (he : PE X e (uE X.K A W (ev G l))) (hs : notStar e = true) (hb : notSup o = true) (hl : (apos.endLine == cpos.line) = true) :
    Ok X A G W (.Call (.Attribute o (mthNm m) apos) [e] [] cpos) (.mth m n [l]) := by
  have pa : PA X [e] (uA X.K A W (evs G [l])) := pa_of (.cons hs he .nil)
  have few : ((backTo cpos (starEach [e] X.env)).all (fun x => !x.1) && (backToKw cpos (keywordEach [] X.env)).all (fun x => x.1.isSome) && decide (([e] : List Expr).length + ([] : List Keyword).length + (if ([] : List Keyword).isEmpty then 0 else 1) < 30)) = true := by
    rw [star_all (es := [e]) fun x hx => by rw [List.mem_singleton.mp hx]; exact hs]
    rfl
  have q : PE X (.Call (.Attribute o (mthNm m) apos) [e] [] cpos) (tBM X.K "list" (rMth m) (uE X.K A W (ev G n)) (uA X.K A W (evs G [l]))) := by
    cases m with
    | append => exact pe_bm PySem.F.plainAttrs_list PySem.F.slot_list_append PySem.F.type_list_append mt_append ho pa (base_of hb) few hl (star_cons hs) rfl
    | pop => exact pe_bm PySem.F.plainAttrs_list PySem.F.slot_list_pop PySem.F.type_list_pop mt_popAt ho pa (base_of hb) few hl (star_cons hs) rfl
    | extend => exact pe_bm PySem.F.plainAttrs_list PySem.F.slot_list_extend PySem.F.type_list_extend mt_extend ho pa (base_of hb) few hl (star_cons hs) rfl
  refine truth_of (PE.imp q ?_) fun _ => rfl
  rintro σ H Q ⟨env, S, μ, hE, hS, hc⟩
  refine ⟨env, S, μ, hE, hS, (Cont.bnd hc).to ?_⟩
  rintro v H1 ⟨x, S1, μ1, n1, s1, r1, h1⟩
  obtain ⟨ty, h1⟩ := pre_sv s1 r1 h1
  refine ⟨ty, env, S1, μ1, hE.mono n1, s1, ?_⟩
  have h2 := Cont.bnd (R1 := RVs X.K A) h1
  cases el : evs G [l] env S1 with
  | er y S' => rw [el] at h2; exact h2
  | no => rw [el] at h2; exact h2
  | ok ds S' =>
    rw [el] at h2
    intro vs μ' H' n' s' r'
    obtain ⟨ds2, S2, μ2, n2, s2, r2, h3⟩ := h2 vs μ' H' n' s' r'
    have hl := evs_len el
    have h4 : Cont X.K A W (RV X.K A) σ μ' H' (mthM m x ds S') Q := by
      have : Cont X.K A W (RV X.K A) σ μ1 H1 (M.bnd (evs G [l] env) (fun ds => mthM m x ds) S1) Q := h1
      unfold M.bnd at this
      rw [el] at this
      exact Cont.trans n' this
    match ds, hl, r', h4 with
    | [d], _, r', h4 =>
      obtain ⟨w, rfl, rd⟩ := r'.one
      exact mth1_sv m s' (r1.mono n') rd h4
theorem ok_mth0 {o : Expr} {n : Ex} {apos cpos : Pos} (ho : PE X o (uE X.K A W (ev G n))) (hb : notSup o = true) (hl : (apos.endLine == cpos.line) = true) :
    Ok X A G W (.Call (.Attribute o (mthNm .pop) apos) [] [] cpos) (.mth .pop n []) := by
  have q : PE X (.Call (.Attribute o "pop" apos) [] [] cpos) (tBM0 X.K "list" rPop (uE X.K A W (ev G n))) := pe_bm0 PySem.F.plainAttrs_list PySem.F.slot_list_pop PySem.F.type_list_pop mt_pop ho (base_of hb) hl
  refine truth_of (PE.imp q ?_) fun _ => rfl
  rintro σ H Q ⟨env, S, μ, hE, hS, hc⟩
  refine ⟨env, S, μ, hE, hS, (Cont.bnd hc).to ?_⟩
  rintro v H1 ⟨x, S1, μ1, n1, s1, r1, h1⟩
  obtain ⟨ty, h1⟩ := pre_sv s1 r1 h1
  exact ⟨ty, pop_sv s1 r1 h1⟩

/-! ### sources -/
/-- the evaluator's source and the layer's -/
def SrcIt (K : PySem.W.Frag) (A : Adr) (μ0 : List Addr) (H0 : Hp) (s : Src) (J : It) : Prop :=
  ∀ μ S H i, Nx μ0 H0 μ H → Sto K A μ S H → (∀ S', s.at i S = .ok none S' → S' = S ∧ J.stop i H) ∧
    (∀ d S', s.at i S = .ok (some d) S' → S' = S ∧ J.go i H ∧ ∀ x H', J.yld i H x H' → Nx μ H μ H' ∧ Sto K A μ S H' ∧ RV K A μ H' d x) ∧ ∀ e S', s.at i S ≠ .er e S'
theorem SrcIt.mono {K : PySem.W.Frag} {μ0 μ1 : List Addr} {H0 H1 : Hp} {s : Src} {J : It} (n : Nx μ0 H0 μ1 H1) (h : SrcIt K A μ0 H0 s J) : SrcIt K A μ1 H1 s J := fun μ S H i n' q => h μ S H i (n.trans n') q
abbrev uI (K : PySem.W.Frag) (A : Adr) (W : WX) (m : Env → M Src) : TI := uG K A W (SrcIt K A) m
theorem src_tup {K : PySem.W.Frag} {μ0 : List Addr} {H0 : Hp} {ds : List D} {vs : List V} {a : Addr} (q : TupAt K H0 a vs) (r : RVs K A μ0 H0 ds vs) : SrcIt K A μ0 H0 (.items ds) (Itt K a) := by
  intro μ S H i n s
  have q' := (n.sqT q).sq
  refine ⟨fun S' h => ?_, fun d S' h => ?_, fun e S' h => by cases h⟩
  · have e1 := (Out.ok.inj h).1
    have e2 := (Out.ok.inj h).2
    exact ⟨e2.symm, vs, q', by rw [← r.length]; exact List.getElem?_eq_none_iff.mp e1⟩
  · have e1 := (Out.ok.inj h).1
    have e2 := (Out.ok.inj h).2
    obtain ⟨v, h1, h2⟩ := (r.mono n).get e1
    refine ⟨e2.symm, ⟨vs, v, q', h1⟩, ?_⟩
    rintro x H' ⟨rfl, hx⟩
    have := hx vs q'
    rw [h1] at this
    cases this
    exact ⟨Nx.refl, s, h2⟩
theorem src_cell {K : PySem.W.Frag} {μ0 : List Addr} {H0 : Hp} {r : Nat} {a : Addr} (ha : μ0[r]? = some a) : SrcIt K A μ0 H0 (.cell r) (Itl K a) := by
  intro μ S H i n s
  have ha' := n.at ha
  have red : ∀ S : Store, (Src.cell r).at i S = M.bnd (getL r) (fun ds => M.ret ds[i]?) S := fun _ => rfl
  cases e : S[r]? with
  | none =>
    refine ⟨fun S' h => ?_, fun d S' h => ?_, fun e' S' h => ?_⟩ <;> (rw [red] at h; unfold M.bnd getL at h; rw [e] at h; cases h)
  | some c =>
    have main : ∀ ds vs, c = .lst ds ∨ c = .frz ds → SqL K H a vs → RVs K A μ H ds vs → (Src.cell r).at i S = .ok ds[i]? S := fun ds vs hc _ _ => by
      rw [red]
      unfold M.bnd getL
      rw [e]
      rcases hc with rfl | rfl <;> rfl
    have fin : ∀ ds vs, c = .lst ds ∨ c = .frz ds → SqL K H a vs → RVs K A μ H ds vs → (∀ S', (Src.cell r).at i S = .ok none S' → S' = S ∧ (Itl K a).stop i H) ∧
        (∀ d S', (Src.cell r).at i S = .ok (some d) S' → S' = S ∧ (Itl K a).go i H ∧ ∀ x H', (Itl K a).yld i H x H' → Nx μ H μ H' ∧ Sto K A μ S H' ∧ RV K A μ H' d x) ∧ ∀ e S', (Src.cell r).at i S ≠ .er e S' := fun ds vs hc q r => by
      rw [main ds vs hc q r]
      refine ⟨fun S' h => ?_, fun d S' h => ?_, fun e S' h => by cases h⟩
      · have e1 := (Out.ok.inj h).1
        have e2 := (Out.ok.inj h).2
        exact ⟨e2.symm, vs, q, by rw [← r.length]; exact List.getElem?_eq_none_iff.mp e1⟩
      · have e1 := (Out.ok.inj h).1
        have e2 := (Out.ok.inj h).2
        obtain ⟨v, h1, h2⟩ := r.get e1
        refine ⟨e2.symm, ⟨vs, v, q, h1⟩, ?_⟩
        rintro x H' ⟨rfl, hx⟩
        have := hx vs q
        rw [h1] at this
        cases this
        exact ⟨Nx.refl, s, h2⟩
    cases c with
    | lst ds =>
      obtain ⟨vs, g1, g2⟩ := s.cell r _ a e ha'
      exact fin ds vs (.inl rfl) (.inl (.inl g1)) g2
    | frz ds =>
      obtain ⟨vs, g1, g2⟩ := s.cell r _ a e ha'
      exact fin ds vs (.inr rfl) g1.sq g2
    | dic kvs => exact (s.cell r _ a e ha').elim
    | ins c fs => refine ⟨fun S' h => ?_, fun d S' h => ?_, fun e' S' h => ?_⟩ <;> (rw [red] at h; unfold M.bnd getL at h; rw [e] at h; cases h)
theorem src_str {K : PySem.W.Frag} {μ0 : List Addr} {H0 : Hp} {z : Str} : SrcIt K A μ0 H0 (.items (z.cps.toList.map fun c => .str ⟨#[c]⟩)) (Its z) := by
  intro μ S H i n s
  refine ⟨fun S' h => ?_, fun d S' h => ?_, fun e S' h => by cases h⟩
  · have e1 := (Out.ok.inj h).1
    have e2 := (Out.ok.inj h).2
    refine ⟨e2.symm, ?_⟩
    have := List.getElem?_eq_none_iff.mp e1
    rw [List.length_map, Array.length_toList] at this
    exact this
  · have e1 := (Out.ok.inj h).1
    have e2 := (Out.ok.inj h).2
    rw [List.getElem?_map, Option.map_eq_some_iff] at e1
    obtain ⟨c, hc, rfl⟩ := e1
    have hi := (List.getElem?_eq_some_iff.mp hc).1
    rw [Array.length_toList] at hi
    refine ⟨e2.symm, hi, ?_⟩
    rintro x H' ⟨rfl, c', hc', rfl⟩
    rw [Array.getElem?_toList] at hc
    rw [hc] at hc'
    cases hc'
    exact ⟨Nx.refl, s, .str _⟩
theorem src_rng {K : PySem.W.Frag} {μ0 : List Addr} {H0 : Hp} {lo : Int} {n : Int} {k : Nat} (hk : k = (n - lo).toNat) : SrcIt K A μ0 H0 (.items (rngD lo n)) (Itr lo k) := by
  intro μ S H i nx s
  subst hk
  refine ⟨fun S' h => ?_, fun d S' h => ?_, fun e S' h => by cases h⟩
  · have e1 := (Out.ok.inj h).1
    have e2 := (Out.ok.inj h).2
    refine ⟨e2.symm, ?_⟩
    have := List.getElem?_eq_none_iff.mp e1
    unfold rngD at this
    rw [List.length_map, List.length_range] at this
    exact this
  · have e1 := (Out.ok.inj h).1
    have e2 := (Out.ok.inj h).2
    unfold rngD at e1
    rw [List.getElem?_map, Option.map_eq_some_iff] at e1
    obtain ⟨c, hc, rfl⟩ := e1
    obtain ⟨hi, hc⟩ := List.getElem?_eq_some_iff.mp hc
    rw [List.length_range] at hi
    rw [List.getElem_range] at hc
    subst hc
    refine ⟨e2.symm, hi, ?_⟩
    rintro x H' ⟨rfl, rfl⟩
    exact ⟨Nx.refl, s, .int _⟩
theorem src_rngDn {K : PySem.W.Frag} {μ0 : List Addr} {H0 : Hp} {i n : Int} : SrcIt K A μ0 H0 (.items (rngDn i n)) (Itc i (-1) (i - n).toNat) := by
  intro μ S H j nx s
  refine ⟨fun S' h => ?_, fun d S' h => ?_, fun e S' h => by cases h⟩
  · have e1 := (Out.ok.inj h).1
    have e2 := (Out.ok.inj h).2
    refine ⟨e2.symm, ?_⟩
    have := List.getElem?_eq_none_iff.mp e1
    unfold rngDn at this
    rw [List.length_map, List.length_range] at this
    exact this
  · have e1 := (Out.ok.inj h).1
    have e2 := (Out.ok.inj h).2
    unfold rngDn at e1
    rw [List.getElem?_map, Option.map_eq_some_iff] at e1
    obtain ⟨c, hc, rfl⟩ := e1
    obtain ⟨hi, hc⟩ := List.getElem?_eq_some_iff.mp hc
    rw [List.length_range] at hi
    rw [List.getElem_range] at hc
    subst hc
    refine ⟨e2.symm, hi, ?_⟩
    rintro x H' ⟨rfl, rfl⟩
    refine ⟨Nx.refl, s, ?_⟩
    rw [show i - (j : Int) = i + (j : Int) * (-1) by omega]
    exact .int _
theorem src_enu {K : PySem.W.Frag} {μ0 : List Addr} {H0 : Hp} {r : Nat} {a : Addr} (ha : μ0[r]? = some a) : SrcIt K A μ0 H0 (.enu (.cell r)) (Ite K a) := by
  intro μ S H i n s
  obtain ⟨c1, c2, c3⟩ := src_cell (K := K) (A := A) ha μ S H i n s
  have red : (Src.enu (.cell r)).at i S = M.bnd ((Src.cell r).at i) (fun o => match o with | some d => M.ret (some (.tup [.int i, d])) | none => M.ret none) S := rfl
  rw [red]
  unfold M.bnd
  cases e : (Src.cell r).at i S with
  | no => exact ⟨fun _ h => (by cases h), fun _ _ h => (by cases h), fun _ _ h => (by cases h)⟩
  | er x S' => exact absurd e (c3 x S')
  | ok o S' =>
    cases o with
    | none =>
      obtain ⟨h1, h2⟩ := c1 S' e
      subst h1
      exact ⟨fun S2 h => ⟨(Out.ok.inj h).2.symm, h2⟩, fun d S2 h => (by cases h), fun _ _ h => (by cases h)⟩
    | some d =>
      obtain ⟨h1, h2, h3⟩ := c2 d S' e
      subst h1
      refine ⟨fun S2 h => (by cases h), fun d' S2 h => ?_, fun _ _ h => by cases h⟩
      have e1 := Option.some.inj (Out.ok.inj h).1
      have e2 := (Out.ok.inj h).2
      subst e1
      refine ⟨e2.symm, h2, ?_⟩
      rintro x H' ⟨T, y, rfl, hT, rfl, hy⟩
      obtain ⟨_, _, ry⟩ := h3 y H ⟨rfl, hy⟩
      exact ⟨Nx.newT hT, s.newT hT, .tup (.inl upd_same) (.cons (.int _) (.cons (ry.mono (Nx.newT hT)) .nil))⟩
end
end Mi

/-! Mi, part K: targets, sources of loops, comprehensions. -/
namespace Mi
open PySem PySem.Spec PyProof.Rows L2
section
variable {X : Cx} {A : Adr} {G : Gen} {Γ : Gam} {W : WX}

/-! ### targets -/
def gNames : List Nat → TGs
  | [] => gNil
  | i :: is => gCons (gName i) (gNames is)
def gOf (K : PySem.W.Frag) : Tg → TG
  | .v i => gName i
  | .t is => fun v σ H Q => gTup K is.length (gNames is) v σ H Q ∨ gLst K is.length (gNames is) v σ H Q
theorem PG.or {X : Cx} {e : Expr} {g g' : TG} (h : PG X e g) (h' : PG X e g') : PG X e (fun v σ H Q => g v σ H Q ∨ g' v σ H Q) := ⟨fun pins s σ H v u Q I r q => q.elim (h.run pins s σ H v u Q I r) (h'.run pins s σ H v u Q I r)⟩
theorem pg_one (F : Fits A G Γ X W) {e : Expr} {i : Nat} (h : cTg1 Γ e = some i) : ∃ x p, e = .Name x p ∧ PG X e (gName i) := by
  cases e with
  | Name x p =>
    unfold cTg1 at h
    simp only at h
    split at h
    · rename_i hc
      rw [Bool.and_eq_true, Bool.or_eq_true] at hc
      refine ⟨x, p, rfl, pg_name (by rw [F.N]; exact F.nd) (by rw [F.N]; exact ixOf_get h) (F.loc hc.1) ?_⟩
      rcases hc.2 with q | q
      · exact .inl (F.fn x q)
      · refine .inr ?_
        rw [F.sc]
        exact of_decide_eq_true q
    · cases h
  | _ => cases h
theorem pgs_of (F : Fits A G Γ X W) : ∀ {es : List Expr} {is : List Nat}, optAll (cTg1 Γ) es = some is → PGs X es (gNames is) ∧ (assignEach es X.env).length = is.length ∧ (assignEach es X.env).findIdx? (·.1) = none
  | [], is, h => by cases h; exact ⟨pgs_nil, rfl, rfl⟩
  | e :: es, is, h => by
    unfold optAll at h
    split at h
    · rename_i i js e1 e2
      cases h
      obtain ⟨x, p, rfl, g⟩ := pg_one F e1
      obtain ⟨h1, h2, h3⟩ := pgs_of F e2
      refine ⟨pgs_cons g h1 rfl, ?_, ?_⟩
      · show (assignEach es X.env).length + 1 = _
        rw [h2]
        rfl
      · show ((false, assign (.Name x p) X.env) :: assignEach es X.env).findIdx? (·.1) = none
        rw [List.findIdx?_cons, h3]
        rfl
    · cases h
theorem pg_of (F : Fits A G Γ X W) {e : Expr} {t : Tg} (h : cTg Γ e = some t) : PG X e (gOf X.K t) := by
  cases e with
  | Name x p =>
    unfold cTg at h
    simp only [Option.map_eq_some_iff] at h
    obtain ⟨i, hi, rfl⟩ := h
    obtain ⟨_, _, _, g⟩ := pg_one F hi
    exact g
  | Tuple es k p =>
    unfold cTg at h
    simp only [Option.map_eq_some_iff] at h
    obtain ⟨is, hi, rfl⟩ := h
    obtain ⟨h1, h2, h3⟩ := pgs_of F hi
    exact PG.or (pg_tup F.calm h1 h2 h3) (pg_lst F.calm h1 h2 h3)
  | _ => cases h
def setV : List Nat → List V → L2.St → L2.St
  | i :: is, v :: vs, σ => setV is vs (σ.set i (some v))
  | _, _, σ => σ
theorem gNames_sv {K : PySem.W.Frag} {μ : List Addr} {H : Hp} : ∀ {is : List Nat} {ds : List D} {vs : List V} {env : Env} {σ : L2.St} {Q : L2.St → Hp → Prop}, ds.length = is.length → RVs K A μ H ds vs → ER K A μ H env σ →
    (ER K A μ H (setAll is ds env) (setV is vs σ) → Q (setV is vs σ) H) → gNames is vs σ H Q
  | [], [], _, env, σ, Q, _, .nil, hE, q => ⟨rfl, q hE⟩
  | i :: is, d :: ds, _, env, σ, Q, hl, .cons r rs, hE, q => ⟨_, _, rfl, gNames_sv (is := is) (by simpa using hl) rs (hE.set i r) q⟩
  | [], _ :: _, _, _, _, _, hl, _, _, _ => by cases hl
  | _ :: _, [], _, _, _, _, hl, _, _, _ => by cases hl
/-- what the slots are behind a target -/
inductive TgV (K : PySem.W.Frag) (H : Hp) : Tg → V → L2.St → L2.St → Prop where
  | v (i : Nat) (x : V) (σ : L2.St) : TgV K H (.v i) x σ (σ.set i (some x))
  | t (is : List Nat) (a : Addr) (vs : List V) (σ : L2.St) : vs.length = is.length → TgV K H (.t is) (.ref a) σ (setV is vs σ)
theorem tg_sv {K : PySem.W.Frag} {μ : List Addr} {H : Hp} {t : Tg} {d : D} {v : V} {env env' : Env} {σ : L2.St} {S S' : Store} {Q : L2.St → Hp → Prop} (s : Sto K A μ S H) (r : RV K A μ H d v) (hE : ER K A μ H env σ) (h : t.bind d env S = .ok env' S')
    (q : ∀ σ', TgV K H t v σ σ' → ER K A μ H env' σ' → Q σ' H) : S' = S ∧ gOf K t v σ H Q := by
  cases t with
  | v i =>
    cases h
    exact ⟨rfl, q _ (.v i v σ) (hE.set i r)⟩
  | t is =>
    cases r with
    | @tup ds a vs g rs =>
      have h : (M.need (decide (ds.length = is.length)) >>= fun _ => M.ret (setAll is ds env)) S = .ok env' S' := h
      by_cases hl : ds.length = is.length
      · rw [decide_eq_true hl] at h
        cases h
        exact ⟨rfl, .inl ⟨a, vs, rfl, g.sq, by rw [← rs.length, hl], gNames_sv hl rs hE fun e => q _ (.t is a vs σ (by rw [← rs.length, hl])) e⟩⟩
      · rw [decide_eq_false hl] at h
        cases h
    | @ref n a e0 =>
      have h : M.bnd (getL n) (fun ds => M.need (decide (ds.length = is.length)) >>= fun _ => M.ret (setAll is ds env)) S = .ok env' S' := h
      unfold M.bnd getL at h
      have key : ∀ ds, (S[n]? = some (.lst ds) ∨ S[n]? = some (.frz ds)) → (M.need (decide (ds.length = is.length)) >>= fun _ => M.ret (setAll is ds env)) S = .ok env' S' → S' = S ∧ gOf K (.t is) (.ref a) σ H Q := by
        intro ds hc h
        obtain ⟨vs, g, rs⟩ : ∃ vs, SqL K H a vs ∧ RVs K A μ H ds vs := by
          rcases hc with hc | hc
          · obtain ⟨vs, h1, h2⟩ := s.cell n _ a hc e0
            exact ⟨vs, .inl (.inl h1), h2⟩
          · obtain ⟨vs, h1, h2⟩ := s.cell n _ a hc e0
            exact ⟨vs, h1.sq, h2⟩
        by_cases hl : ds.length = is.length
        · rw [decide_eq_true hl] at h
          cases h
          exact ⟨rfl, .inr ⟨a, vs, rfl, g, by rw [← rs.length, hl], gNames_sv hl rs hE fun e => q _ (.t is a vs σ (by rw [← rs.length, hl])) e⟩⟩
        · rw [decide_eq_false hl] at h
          cases h
      cases hc : S[n]? with
      | none => rw [hc] at h; cases h
      | some c =>
        rw [hc] at h
        cases c with
        | lst ds => exact key ds (.inl hc) h
        | frz ds => exact key ds (.inr hc) h
        | _ => cases h
    | _ => cases h
theorem bind_er {t : Tg} {d : D} {env : Env} {S : Store} (e : Exn) (S' : Store) : t.bind d env S ≠ .er e S' := by
  cases t with
  | v i => intro h; cases h
  | t is =>
    cases d with
    | tup ds =>
      show (M.need (decide (ds.length = is.length)) >>= fun _ => M.ret (setAll is ds env)) S ≠ _
      cases decide (ds.length = is.length) <;> (intro h; cases h)
    | ref r =>
      show M.bnd (getL r) (fun ds => M.need (decide (ds.length = is.length)) >>= fun _ => M.ret (setAll is ds env)) S ≠ _
      unfold M.bnd getL
      cases S[r]? with
      | none => intro h; cases h
      | some c =>
        cases c with
        | lst ds => show (M.need (decide (ds.length = is.length)) >>= fun _ => M.ret (setAll is ds env)) S ≠ _; cases decide (ds.length = is.length) <;> (intro h; cases h)
        | frz ds => show (M.need (decide (ds.length = is.length)) >>= fun _ => M.ret (setAll is ds env)) S ≠ _; cases decide (ds.length = is.length) <;> (intro h; cases h)
        | _ => intro h; cases h
    | _ => intro h; cases h
theorem wipe_set {σ : L2.St} {i : Nat} {x : Option V} : ∀ {vs : List Nat}, i ∈ vs → wipe (σ.set i x) vs = wipe σ vs
  | [], h => by cases h
  | v :: vs, h => by
    unfold wipe
    by_cases e : i ∈ vs
    · rw [wipe_set e]
    · have ev : i = v := by
        rcases List.mem_cons.mp h with q | q
        · exact q
        · exact absurd q e
      subst ev
      have key : ∀ (us : List Nat), i ∉ us → wipe (σ.set i x) us = (wipe σ us).set i x := by
        intro us
        induction us with
        | nil => intro _; rfl
        | cons u us ih =>
          intro hn
          have h1 : i ≠ u := fun z => hn (by rw [z]; exact List.mem_cons_self)
          unfold wipe
          rw [ih fun z => hn (List.mem_cons_of_mem _ z), List.set_comm _ _ h1]
      rw [key vs e, List.set_set]
theorem wipe_setV {vs : List Nat} : ∀ {is : List Nat} {xs : List V} {σ : L2.St}, (∀ i ∈ is, i ∈ vs) → wipe (setV is xs σ) vs = wipe σ vs
  | [], _, _, _ => by unfold setV; rfl
  | _ :: _, [], _, _ => by unfold setV; rfl
  | i :: is, x :: xs, σ, h => by
    unfold setV
    rw [wipe_setV fun j hj => h j (List.mem_cons_of_mem _ hj), wipe_set (h i List.mem_cons_self)]
theorem TgV.wipe {K : PySem.W.Frag} {H : Hp} {t : Tg} {v : V} {σ σ' : L2.St} {vs : List Nat} (h : TgV K H t v σ σ') (hi : ∀ i ∈ t.ixs, i ∈ vs) : L2.wipe σ' vs = L2.wipe σ vs := by
  cases h with
  | v i x => exact wipe_set (hi i List.mem_cons_self)
  | t is a xs _ hl => exact wipe_setV hi
theorem wipe_wipe {σ : L2.St} : ∀ {us vs : List Nat}, (∀ i ∈ us, i ∈ vs) → L2.wipe (L2.wipe σ us) vs = L2.wipe σ vs
  | [], vs, _ => rfl
  | u :: us, vs, h => by
    show L2.wipe ((L2.wipe σ us).set u none) vs = _
    rw [wipe_set (h u List.mem_cons_self), wipe_wipe fun i hi => h i (List.mem_cons_of_mem _ hi)]

/-! ### sources of loops -/
theorem pi_seq {tg e : Expr} {m : Ex} (h : PE X e (uE X.K A W (ev G m))) : PI X tg e (uI X.K A W (evi G (.seq m))) := by
  refine PI.imp (PI.or (pi_tup h) (PI.or (pi_list h) (pi_str h))) ?_
  rintro σ H R ⟨env, S, μ, hE, hS, hc⟩
  have hc : Cont X.K A W (SrcIt X.K A) σ μ H ((ev G m env >>= fun d => srcOf d) S) R := hc
  have h2 := Cont.bnd (R1 := RV X.K A) hc
  cases el : ev G m env S with
  | er x S' =>
    rw [el] at h2
    exact .inl ⟨env, S, μ, hE, hS, by rw [el]; exact h2⟩
  | no => rw [el] at h2; exact h2.elim
  | ok d S' =>
    rw [el] at h2
    have h3 : Cont X.K A W (SrcIt X.K A) σ μ H (srcOf d S') R := by
      have : Cont X.K A W (SrcIt X.K A) σ μ H (M.bnd (ev G m env) (fun d => srcOf d) S) R := hc
      unfold M.bnd at this
      rw [el] at this
      exact this
    cases d with
    | tup ds =>
      refine .inl ⟨env, S, μ, hE, hS, ?_⟩
      rw [el]
      intro v μ' H' n s r
      cases r with
      | @tup _ a vs q rs => exact ⟨a, rfl, ⟨vs, q.sq⟩, (Cont.trans n h3) _ _ _ Nx.refl s (src_tup q rs)⟩
    | ref r =>
      refine .inr (.inl ⟨env, S, μ, hE, hS, ?_⟩)
      rw [el]
      intro v μ' H' n s rv
      cases rv with
      | @ref _ a e0 =>
        obtain ⟨ds, vs, g1, g2, h4, _⟩ := Cont.getL s (Cont.trans n h3) e0
        exact ⟨a, rfl, ⟨vs, g1⟩, h4 _ _ _ Nx.refl s (src_cell e0)⟩
    | str z =>
      refine .inr (.inr ⟨env, S, μ, hE, hS, ?_⟩)
      rw [el]
      intro v μ' H' n s r
      cases r with
      | str => exact ⟨z, rfl, (Cont.trans n h3) _ _ _ Nx.refl s src_str⟩
    | _ => exact False.elim h3
theorem in62_of {i : Int} (h : in62 i = true) : -(2 ^ 62) ≤ i ∧ i < 2 ^ 62 := of_decide_eq_true h
theorem pi_rng1 (F : Fits A G Γ X W) {tg a : Expr} {ms : List Ex} {p pos : Pos} (hg : isGl Γ.sc "range" = true) (hb : ("range" : Str) ∈ Γ.blts) (h : Oks X A G W [a] ms) : PI X tg (.Call (.Name "range" p) [a] [] pos) (uI X.K A W (evi G (.rng ms))) := by
  have h1 := h.star a List.mem_cons_self
  refine PI.imp (pi_range1 (F.gl hg) (F.blt _ hb) (pa_of h) (by rw [star_cons h1]; rfl)) ?_
  have hlen := h.len
  rintro σ H R ⟨env, S, μ, hE, hS, hc⟩
  have hc : Cont X.K A W (SrcIt X.K A) σ μ H ((evs G ms env >>= fun ds => rngM ds) S) R := hc
  refine ⟨env, S, μ, hE, hS, ?_⟩
  have h2 := Cont.bnd (R1 := RVs X.K A) hc
  cases el : evs G ms env S with
  | er x S' => rw [el] at h2; exact h2
  | no => rw [el] at h2; exact h2
  | ok ds S' =>
    rw [el] at h2
    intro vs μ' H' n s r
    have h3 : Cont X.K A W (SrcIt X.K A) σ μ' H' (rngM ds S') R := by
      have : Cont X.K A W (SrcIt X.K A) σ μ H (M.bnd (evs G ms env) (fun ds => rngM ds) S) R := hc
      unfold M.bnd at this
      rw [el] at this
      exact Cont.trans n this
    have hl := evs_len el
    rw [← hlen] at hl
    match ds, hl, r, h3 with
    | [d], _, r, h3 =>
      obtain ⟨v, rfl, r1⟩ := r.one
      cases r1 with
      | int j =>
        obtain ⟨h0, h3⟩ := Cont.need h3
        obtain ⟨q1, q2⟩ := in62_of h0
        exact ⟨j, rfl, q1, q2, h3 _ _ _ Nx.refl s (src_rng (by rw [Int.sub_zero]))⟩
      | _ => exact False.elim h3
theorem pi_rng2 (F : Fits A G Γ X W) {tg a b : Expr} {ms : List Ex} {p pos : Pos} (hg : isGl Γ.sc "range" = true) (hb : ("range" : Str) ∈ Γ.blts) (h : Oks X A G W [a, b] ms) : PI X tg (.Call (.Name "range" p) [a, b] [] pos) (uI X.K A W (evi G (.rng ms))) := by
  have h1 := h.star a List.mem_cons_self
  have h2 := h.star b (List.mem_cons_of_mem _ List.mem_cons_self)
  refine PI.imp (pi_range2 (F.gl hg) (F.blt _ hb) (pa_of h) (by rw [star_cons h1, star_cons h2]; rfl) (by rw [star_cons h2]; rfl)) ?_
  have hlen := h.len
  rintro σ H R ⟨env, S, μ, hE, hS, hc⟩
  have hc : Cont X.K A W (SrcIt X.K A) σ μ H ((evs G ms env >>= fun ds => rngM ds) S) R := hc
  refine ⟨env, S, μ, hE, hS, ?_⟩
  have h2 := Cont.bnd (R1 := RVs X.K A) hc
  cases el : evs G ms env S with
  | er x S' => rw [el] at h2; exact h2
  | no => rw [el] at h2; exact h2
  | ok ds S' =>
    rw [el] at h2
    intro vs μ' H' n s r
    have h3 : Cont X.K A W (SrcIt X.K A) σ μ' H' (rngM ds S') R := by
      have : Cont X.K A W (SrcIt X.K A) σ μ H (M.bnd (evs G ms env) (fun ds => rngM ds) S) R := hc
      unfold M.bnd at this
      rw [el] at this
      exact Cont.trans n this
    have hl := evs_len el
    rw [← hlen] at hl
    match ds, hl, r, h3 with
    | [d, e], _, r, h3 =>
      obtain ⟨v, u, rfl, r1, r2⟩ := r.two
      cases r1 with
      | int i =>
        cases r2 with
        | int j =>
          obtain ⟨h0, h3⟩ := Cont.need h3
          rw [Bool.and_eq_true] at h0
          obtain ⟨q1, q2⟩ := in62_of h0.1
          obtain ⟨q3, q4⟩ := in62_of h0.2
          exact ⟨i, j, rfl, ⟨q1, q2, q3, q4⟩, h3 _ _ _ Nx.refl s (src_rng rfl)⟩
        | _ => exact False.elim h3
      | _ => cases e <;> exact False.elim h3
theorem pi_rng3 (F : Fits A G Γ X W) {tg a b c : Expr} {ms : List Ex} {p pos : Pos} (hg : isGl Γ.sc "range" = true) (hb : ("range" : Str) ∈ Γ.blts) (h : Oks X A G W [a, b, c] ms) : PI X tg (.Call (.Name "range" p) [a, b, c] [] pos) (uI X.K A W (evi G (.rng ms))) := by
  have h1 := h.star a List.mem_cons_self
  have h2 := h.star b (List.mem_cons_of_mem _ List.mem_cons_self)
  have h3 := h.star c (List.mem_cons_of_mem _ (List.mem_cons_of_mem _ List.mem_cons_self))
  refine PI.imp (pi_range3 (F.gl hg) (F.blt _ hb) (pa_of h) (by rw [star_cons h1]) (by rw [star_cons h2, star_cons h3]; rfl)) ?_
  have hlen := h.len
  rintro σ H R ⟨env, S, μ, hE, hS, hc⟩
  have hc : Cont X.K A W (SrcIt X.K A) σ μ H ((evs G ms env >>= fun ds => rngM ds) S) R := hc
  refine ⟨env, S, μ, hE, hS, ?_⟩
  have h2 := Cont.bnd (R1 := RVs X.K A) hc
  cases el : evs G ms env S with
  | er x S' => rw [el] at h2; exact h2
  | no => rw [el] at h2; exact h2
  | ok ds S' =>
    rw [el] at h2
    intro vs μ' H' n s r
    have h3 : Cont X.K A W (SrcIt X.K A) σ μ' H' (rngM ds S') R := by
      have : Cont X.K A W (SrcIt X.K A) σ μ H (M.bnd (evs G ms env) (fun ds => rngM ds) S) R := hc
      unfold M.bnd at this
      rw [el] at this
      exact Cont.trans n this
    have hl := evs_len el
    rw [← hlen] at hl
    match ds, hl, r, h3 with
    | [d, e, f], _, r, h3 =>
      obtain ⟨v, u, w, rfl, r1, r2, r3⟩ := r.three
      cases r1 with
      | int i =>
        cases r2 with
        | int j =>
          cases r3 with
          | int c =>
            obtain ⟨h0, h4⟩ := Cont.need h3
            rw [Bool.and_eq_true, Bool.and_eq_true] at h0
            have ec := of_decide_eq_true h0.1
            subst ec
            obtain ⟨q1, q2⟩ := in62_of h0.2.1
            obtain ⟨q3, q4⟩ := in62_of h0.2.2
            exact ⟨i, j, -1, _, rfl, RgC.neg q1 q2 q3 q4, h4 _ _ _ Nx.refl s src_rngDn⟩
          | _ => exact False.elim h3
        | _ => cases f <;> exact False.elim h3
      | _ => cases e <;> cases f <;> exact False.elim h3
theorem pi_enuU (F : Fits A G Γ X W) {a : Expr} {m : Ex} {p pos tpos : Pos} {elts : List Expr} {kk : Nat} (hg : isGl Γ.sc "enumerate" = true) (hb : ("enumerate" : Str) ∈ Γ.blts) (hs : notStar a = true) (h : PE X a (uE X.K A W (ev G m))) :
    PI X (.Tuple elts kk tpos) (.Call (.Name "enumerate" p) [a] [] pos) (uI X.K A W (evi G (.enu m))) := by
  refine PI.imp (pi_enum (F.gl hg) (F.blt _ hb) (pa_of (.cons hs h .nil)) (by rw [star_cons hs]; rfl)) ?_
  rintro σ H R ⟨env, S, μ, hE, hS, hc⟩
  have hc : Cont X.K A W (SrcIt X.K A) σ μ H ((ev G m env >>= fun d => enuOf d) S) R := hc
  refine ⟨env, S, μ, hE, hS, ?_⟩
  have e1 : evs G [m] env = ev G m env >>= fun d => M.ret [d] := rfl
  rw [e1]
  have h2 := Cont.bnd (R1 := RV X.K A) hc
  show Cont X.K A W (RVs X.K A) σ μ H (M.bnd (ev G m env) (fun d => M.ret [d]) S) _
  unfold M.bnd
  cases el : ev G m env S with
  | er x S' => rw [el] at h2; exact h2
  | no => rw [el] at h2; exact h2
  | ok d S' =>
    rw [el] at h2
    intro vs μ' H' n s r
    have h3 : Cont X.K A W (SrcIt X.K A) σ μ' H' (enuOf d S') R := by
      have : Cont X.K A W (SrcIt X.K A) σ μ H (M.bnd (ev G m env) (fun ds => enuOf ds) S) R := hc
      unfold M.bnd at this
      rw [el] at this
      exact Cont.trans n this
    obtain ⟨v, rfl, r1⟩ := r.one
    cases r1 with
    | @ref k a e0 =>
      obtain ⟨ds, vs, g1, g2, h4, _⟩ := Cont.getL s h3 e0
      exact ⟨a, vs, rfl, g1, h4 _ _ _ Nx.refl s (src_enu e0)⟩
    | _ => exact False.elim h3
end
end Mi

/-! Mi, part L: comprehensions, then all expressions. -/
namespace Mi
open PySem PySem.Spec PyProof.Rows L2
section
variable {X : Cx} {A : Adr} {G : Gen} {Γ : Gam} {W : WX}
abbrev W0 : WX := fun _ _ _ _ => False
def Gam.blk (Γ : Gam) (scope : Scope) : Gam := { Γ with sc := relS scope Γ.sc, fn := fun x => scope.names.lookup x == some .cell }
theorem Fits.blk (F : Fits A G Γ X W) (scope : Scope) (s : Shared) (H : Hp) (C : Addr) (cl : List (Str × Addr)) (fp : List Addr) : Fits A G (Γ.blk scope) (X.blk s H scope (compEnvC scope cl C X.env) fp) W0 where
  N := F.N
  nd := F.nd
  sc := by
    show relS scope X.env.scope = relS scope Γ.sc
    rw [F.sc]
  fn := fun x h => h
  calm := F.calm
  tk := takes0
  units := F.units
  blt := F.blt
  cst := F.cst
  fns := F.fns
  xcs := fun x i fs h => ⟨(F.xcs x i fs h).gm, (F.xcs x i fs h).rs, (F.xcs x i fs h).no, (F.xcs x i fs h).yes⟩
  sub := F.sub

/-- what is left of a comprehension's loop -/
def LcW (K : PySem.W.Frag) (A : Adr) (G : Gen) (s : Src) (J : It) (tg : Tg) (c : Env → M Bool) (e : Env → M D) (env0 : Env) (r : Nat) (Dl : Addr) (σ : L2.St) (Q : VK) (μ0 : List Addr) (H0 : Hp) (i n : Nat) (H : Hp) : Prop :=
  ∃ S S' μ, Nx μ0 H0 μ H ∧ Sto K A μ S H ∧ μ[r]? = some Dl ∧ lcLoop s tg c e env0 r n i S = .ok () S' ∧ ∀ μ' H', Nx μ H μ' H' → Sto K A μ' S' H' → Q (.ref Dl) H'
theorem lc_turn {K : PySem.W.Frag} {s : Src} {J : It} {tg : Tg} {c : Env → M Bool} {e : Env → M D} {env0 : Env} {r : Nat} {Dl : Addr} {σ : L2.St} {Q : VK} {μ0 : List Addr} {H0 : Hp} {vs : List Nat}
    (hJ : SrcIt K A μ0 H0 s J) (hE : ER K A μ0 H0 env0 (L2.wipe σ vs)) (ht : ∀ i ∈ tg.ixs, i ∈ vs) (i n : Nat) (H : Hp) (h : LcW K A G s J tg c e env0 r Dl σ Q μ0 H0 i n H) :
    (J.stop i H ∧ Q (.ref Dl) H) ∨ (J.go i H ∧ ∃ Nx : Hp → Prop, (∀ H', Nx H' → ∃ m', m' < n ∧ LcW K A G s J tg c e env0 r Dl σ Q μ0 H0 (i + 1) m' H') ∧ ∀ x H', J.yld i H x H' → gOf K tg x (L2.wipe σ vs) H' fun σ2 H2 => L2.wipe σ2 vs = L2.wipe σ vs ∧
      uT K A W0 c σ2 H2 fun b H3 => if b = true then uE K A W0 e σ2 H3 fun y H4 => ∃ acc, H4 Dl = some (.lst acc) ∧ acc.length < sizeLine ∧ Nx (upd H4 Dl (.lst (acc ++ [y]))) else Nx H3) := by
  obtain ⟨S, S', μ, nx, hS, hr, hl, hq⟩ := h
  obtain ⟨c1, c2, c3⟩ := hJ μ S H i nx hS
  cases n with
  | zero => cases hl
  | succ n =>
    have hm : M.bnd (s.at i) (fun o => match o with
      | none => M.ret ()
      | some d => M.bnd (tg.bind d env0) fun env' => M.bnd (c env') fun k => if k then M.bnd (e env') fun x => M.bnd (getW r) fun ds => M.bnd (M.need (decide (ds.length < lim))) fun _ => M.bnd (setL r (ds ++ [x])) fun _ => lcLoop s tg c e env0 r n (i + 1)
        else lcLoop s tg c e env0 r n (i + 1)) S = .ok () S' := by
      rw [← hl]
      show _ = M.bnd (s.at i) _ S
      congr 1
    clear hl
    revert hm
    intro hl
    unfold M.bnd at hl
    cases e0 : s.at i S with
    | no => rw [e0] at hl; cases hl
    | er x S1 => exact absurd e0 (c3 x S1)
    | ok o S1 =>
      rw [e0] at hl
      cases o with
      | none =>
        obtain ⟨rfl, st⟩ := c1 S1 e0
        have e1 := (Out.ok.inj hl).2
        subst e1
        exact .inl ⟨st, hq μ H Nx.refl hS⟩
      | some d =>
        obtain ⟨rfl, go, step⟩ := c2 d S1 e0
        refine .inr ⟨go, fun H' => LcW K A G s J tg c e env0 r Dl σ Q μ0 H0 (i + 1) n H', fun H' h => ⟨n, Nat.lt_succ_self n, h⟩, fun x H1 hy => ?_⟩
        obtain ⟨n1, s1, r1⟩ := step x H1 hy
        simp only at hl
        cases eb : tg.bind d env0 S1 with
        | no => rw [eb] at hl; cases hl
        | er y S2 => exact absurd eb (bind_er y S2)
        | ok env' S2 =>
          rw [eb] at hl
          simp only at hl
          have nx1 := nx.trans n1
          refine (tg_sv (Q := fun σ2 H2 => _) s1 r1 (hE.mono nx1) eb fun σ2 htg he => ⟨(htg.wipe ht).trans (wipe_wipe fun i hi => hi), ?_⟩).2
          have e2 : S2 = S1 := (tg_sv (Q := fun _ _ => True) s1 r1 (hE.mono nx1) eb fun _ _ _ => True.intro).1
          subst e2
          refine ⟨env', S2, μ, he, s1, ?_⟩
          cases ec : c env' S2 with
          | no => rw [ec] at hl; cases hl
          | er y S3 => rw [ec] at hl; cases hl
          | ok k S3 =>
            rw [ec] at hl
            simp only at hl
            intro b μ3 H3 n3 s3 hb
            subst hb
            have nx3 := nx1.trans n3
            cases k with
            | false =>
              rw [if_neg Bool.false_ne_true] at hl ⊢
              exact ⟨S3, S', μ3, nx3, s3, n3.at (n1.at hr), hl, fun μ' H' n' s' => hq μ' H' ((n1.trans n3).trans n') s'⟩
            | true =>
              rw [if_pos rfl] at hl ⊢
              refine ⟨env', S3, μ3, he.mono n3, s3, ?_⟩
              cases ee : e env' S3 with
              | no => rw [ee] at hl; cases hl
              | er y S4 => rw [ee] at hl; cases hl
              | ok y S4 =>
                rw [ee] at hl
                simp only at hl
                intro v μ4 H4 n4 s4 rv
                have ha := n4.at (n3.at (n1.at hr))
                unfold getW at hl
                cases ew : S4[r]? with
                | none => rw [ew] at hl; cases hl
                | some cc =>
                  rw [ew] at hl
                  cases cc with
                  | lst ds =>
                    simp only at hl
                    obtain ⟨us, g1, g2⟩ := s4.cell r _ Dl ew ha
                    by_cases hd : ds.length < lim
                    · rw [decide_eq_true hd] at hl
                      simp only [M.need, if_true, M.ret, setL, ew] at hl
                      obtain ⟨n5, s5⟩ := wrL s4 ha ew g1 (g2.append (.cons rv .nil))
                      exact ⟨us, g1, by rw [← g2.length]; exact lim_lt hd, _, S', μ4, (nx3.trans n4).trans n5, s5, ha, hl, fun μ' H' n' s' => hq μ' H' ((((n1.trans n3).trans n4).trans n5).trans n') s'⟩
                    · rw [decide_eq_false hd] at hl
                      cases hl
                  | frz ds => cases hl
                  | dic ds => cases hl
                  | ins ds _ => cases hl
theorem lc_of {it : Itn} {t : Tg} {vs : List Nat} {c : Option Ex} {m : Ex} (ht : ∀ i ∈ t.ixs, i ∈ vs) : ∀ σ H Q, uE X.K A W (ev G (.lc it t vs c m)) σ H Q →
    tLc (uI X.K A W (evi G it)) (gOf X.K t) (uT X.K A W0 (evc G c)) (uE X.K A W0 (ev G m)) vs σ H Q := by
  rintro σ H Q ⟨env, S, μ, hE, hS, hc⟩
  have hc : Cont X.K A W (RV X.K A) σ μ H ((evi G it env >>= fun s => newC (.lst []) >>= fun d => match d with
    | .ref r => calmM (lcLoop s t (fun env' => evc G c env') (fun env' => ev G m env') (wipeE env vs) r G.L 0) >>= fun _ => M.ret d
    | _ => M.fail) S) Q := hc
  refine ⟨env, S, μ, hE, hS, (Cont.bnd hc).to ?_⟩
  rintro J H1 ⟨s, S1, μ1, n1, s1, hJ, h1⟩ Dl hD
  have h1 : Cont X.K A W (RV X.K A) σ μ1 H1 ((calmM (lcLoop s t (fun env' => evc G c env') (fun env' => ev G m env') (wipeE env vs) S1.length G.L 0) >>= fun _ => M.ret (D.ref S1.length)) (S1 ++ [.lst []])) Q := h1
  have nD : Nx μ1 H1 (μ1 ++ [Dl]) (upd H1 Dl (.lst [])) := Nx.newC hD
  have sD : Sto X.K A (μ1 ++ [Dl]) (S1 ++ [.lst []]) (upd H1 Dl (.lst [])) := s1.newC hD ⟨[], upd_same, .nil⟩
  have hr : (μ1 ++ [Dl])[S1.length]? = some Dl := by
    rw [← s1.len, List.getElem?_append_right (Nat.le_refl _), Nat.sub_self]
    rfl
  have h2 : Cont X.K A W (RV X.K A) σ μ1 H1 (M.bnd (calmM (lcLoop s t (fun env' => evc G c env') (fun env' => ev G m env') (wipeE env vs) S1.length G.L 0)) (fun _ => M.ret (D.ref S1.length)) (S1 ++ [.lst []])) Q := h1
  unfold M.bnd calmM at h2
  refine ⟨LcW X.K A G s J t (fun env' => evc G c env') (fun env' => ev G m env') (wipeE env vs) S1.length Dl σ Q (μ1 ++ [Dl]) (upd H1 Dl (.lst [])), ⟨G.L, ?_⟩, fun i n H h => lc_turn (hJ.mono nD) (((hE.mono n1).mono nD).wipe vs) ht i n H h⟩
  cases el : lcLoop s t (fun env' => evc G c env') (fun env' => ev G m env') (wipeE env vs) S1.length G.L 0 (S1 ++ [.lst []]) with
  | no => rw [el] at h2; exact h2.elim
  | er y S' => rw [el] at h2; exact h2.elim
  | ok u S' =>
    rw [el] at h2
    refine ⟨_, S', _, Nx.refl, sD, hr, el, fun μ' H' n' s' => ?_⟩
    exact h2 (.ref Dl) μ' H' (nD.trans n') s' (.ref (n'.at hr))
theorem set_iter {iter : Expr} {x : Value} (h : isSet iter = false) : foldedSetIterable iter X.env x = pure x := by
  cases iter <;> first | rfl | cases h
theorem ok_lc (F : Fits A G Γ X W) {elt tg iter : Expr} {ifs : List Expr} {scope : Scope} {pos : Pos} {it : Itn} {t : Tg} {c : Option Ex} {m : Ex} (hi : PI X tg iter (uI X.K A W (evi G it))) (ok : BlkOk X.N X.env.scope scope (ownOf Γ.N scope))
    (hg : cTg (Γ.blk scope) tg = some t) (hti : ∀ i ∈ t.ixs, i ∈ (ownOf Γ.N scope).map (·.2))
    (ht : ∀ (s : Shared) (H : Hp) (C : Addr) (cl : List (Str × Addr)) (fp : List Addr), PTs (X.blk s H scope (compEnvC scope cl C X.env) fp) ifs (uT X.K A W0 (evc G c)))
    (he : ∀ (s : Shared) (H : Hp) (C : Addr) (cl : List (Str × Addr)) (fp : List Addr), PE (X.blk s H scope (compEnvC scope cl C X.env) fp) elt (uE X.K A W0 (ev G m))) (hs : isSet iter = false) :
    PE X (.ListComp elt [⟨tg, iter, ifs, 0⟩] scope pos) (uE X.K A W (ev G (.lc it t ((ownOf Γ.N scope).map (·.2)) c m))) :=
  PE.imp (pe_lc F.calm (by rw [F.N]; exact F.nd) hi ok (fun s H C cl fp => pg_of (F.blk scope s H C cl fp) hg) ht he fun x => set_iter hs) (lc_of hti)

/-! ### all expressions -/
def Good (A : Adr) (G : Gen) (n : Nat) : Prop := ∀ (X : Cx) (Γ : Gam) (W : WX), Fits A G Γ X W → ∀ (e : Expr) (m : Ex), cE Γ n e = some m → Ok X A G W e m ∧ notStar e = true ∧ isSet e = false ∧ isSlc e = false
theorem Good.row {n : Nat} (h : Good A G n) (F : Fits A G Γ X W) : ∀ {es : List Expr} {ms : List Ex}, optAll (cE Γ n) es = some ms → Oks X A G W es ms
  | [], ms, q => by cases q; exact .nil
  | e :: es, ms, q => by
    unfold optAll at q
    split at q
    · rename_i y ys e1 e2
      cases q
      obtain ⟨h1, h2, _⟩ := h X Γ W F e y e1
      exact .cons h2 h1.1 (Good.row h F e2)
    · cases q
theorem Good.part {n : Nat} (h : ∀ k, k < n → Good A G k) (F : Fits A G Γ X W) {e : Option Expr} {m : Option Ex} (q : cO Γ n e = some m) : OkO X A G W e m := by
  cases e with
  | none =>
    have q : (some none : Option (Option Ex)) = some m := by cases n <;> exact q
    cases q
    exact oko_none
  | some e =>
    cases n with
    | zero => cases q
    | succ n =>
      have q : (cE Γ n e).map some = some m := q
      rw [Option.map_eq_some_iff] at q
      obtain ⟨m', q2, rfl⟩ := q
      exact oko_some (h n (Nat.lt_succ_self n) X Γ W F e m' q2).1.1
theorem pts_evc {c : Expr} {m : Ex} (h : PT X c (uT X.K A W (evT G m))) : PTs X [c] (uT X.K A W (evc G (some m))) := pts_one h
theorem Good.tests {n : Nat} (h : ∀ k, k < n → Good A G k) (F : Fits A G Γ X W) {es : List Expr} {m : Option Ex} (q : cC Γ n es = some m) : PTs X es (uT X.K A W (evc G m)) := by
  match es, q with
  | [], q =>
    have q : (some none : Option (Option Ex)) = some m := by cases n <;> exact q
    cases q
    refine ⟨fun pins s σ H Q I r => pts_nil.run pins s σ H Q I ?_⟩
    obtain ⟨env, S, μ, hE, hS, hc⟩ := r
    exact Cont.out (v := true) hc hS rfl
  | [e], q =>
    cases n with
    | zero => cases q
    | succ n =>
      have q : (cE Γ n e).map some = some m := q
      rw [Option.map_eq_some_iff] at q
      obtain ⟨m', q2, rfl⟩ := q
      exact pts_evc (h n (Nat.lt_succ_self n) X Γ W F e m' q2).1.2
  | _ :: _ :: _, q => cases n <;> cases q
theorem Good.iter {n : Nat} (h : ∀ k, k < n → Good A G k) (F : Fits A G Γ X W) {tg e : Expr} {m : Itn} (q : cI Γ n tg e = some m) : PI X tg e (uI X.K A W (evi G m)) ∧ isSet e = false := by
  cases n with
  | zero => cases q
  | succ n =>
    have hn := h n (Nat.lt_succ_self n)
    have seq : ∀ {e : Expr}, (cE Γ n e).map Itn.seq = some m → PI X tg e (uI X.K A W (evi G m)) ∧ isSet e = false := fun {e} q => by
      rw [Option.map_eq_some_iff] at q
      obtain ⟨m', q2, rfl⟩ := q
      obtain ⟨h1, _, h2, _⟩ := hn X Γ W F e m' q2
      exact ⟨pi_seq h1.1, h2⟩
    unfold cI at q
    split at q
    · rename_i f p es pos
      split at q
      · rename_i hf
        simp only [Bool.and_eq_true, decide_eq_true_eq] at hf
        obtain ⟨⟨rfl, hg⟩, hb⟩ := hf
        split at q
        · rename_i a
          rw [Option.map_eq_some_iff] at q
          obtain ⟨ms, q, rfl⟩ := q
          exact ⟨pi_rng1 F hg hb (hn.row F q), rfl⟩
        · rename_i a b
          rw [Option.map_eq_some_iff] at q
          obtain ⟨ms, q, rfl⟩ := q
          exact ⟨pi_rng2 F hg hb (hn.row F q), rfl⟩
        · rename_i a b c
          rw [Option.map_eq_some_iff] at q
          obtain ⟨ms, q, rfl⟩ := q
          exact ⟨pi_rng3 F hg hb (hn.row F q), rfl⟩
        · cases q
      · split at q
        · rename_i hf
          simp only [Bool.and_eq_true, decide_eq_true_eq] at hf
          obtain ⟨⟨rfl, hg⟩, hb⟩ := hf
          split at q
          · rename_i elts kk tpos a
            rw [Option.map_eq_some_iff] at q
            obtain ⟨m', q, rfl⟩ := q
            obtain ⟨h1, h2, _⟩ := hn X Γ W F a m' q
            exact ⟨pi_enuU F hg hb h2 h1.1, rfl⟩
          · cases q
        · exact seq q
    · cases q
    · exact seq q
theorem lastM (o o' : CmpOp) {b c : Expr} (h : isSet c = false) : lastMarks [o, o'] [b, c] = false := by
  show behindInMarks o' c = false
  cases c <;> first | rfl | cases h
theorem behM (o : CmpOp) {c : Expr} (h : isSet c = false) : behindInMarks o c = false := by
  cases c <;> first | rfl | cases h
theorem cop_ast (o : CmpOp) : cmpAst (copOf o) = o := by cases o <;> rfl
theorem bop_ast {o : Operator} {o' : BOp} (h : bopOf o = some o') : opAst o' = o := by cases o <;> cases h <;> rfl
theorem mth_nm {x : Str} {m : Mth} (h : mthOf x = some m) : mthNm m = x := by
  unfold mthOf at h
  repeat' (split at h)
  all_goals first
    | (rename_i e; cases h; rw [e]; rfl)
    | cases h
theorem blt_nm {x : Str} {b : Blt} (h : bltOf x = some b) : bltNm b = x := by
  unfold bltOf at h
  have q := List.find?_some h
  exact of_decide_eq_true q
theorem pw_of {op : BoolOp} {vs : List Expr} {p : Pos} {t : TT} (h : PT X (.BoolOp op vs p) t) : PW X (.BoolOp op vs p) t := ⟨fun _ pins s σ H Q I q => h.run pins s σ H Q I q⟩
/-- ALL EXPRESSIONS: what the syntax is read as is what it means -/
theorem good_all (A : Adr) (G : Gen) (n : Nat) : Good A G n := by
  induction n using Nat.strongRecOn with
  | ind n ih =>
    intro X Γ W F e m h
    cases n with
    | zero => cases h
    | succ n =>
      have hn := ih n (Nat.lt_succ_self n)
      have lt : ∀ k, k < n → Good A G k := fun k hk => ih k (Nat.lt_succ_of_lt hk)
      have E : ∀ {e : Expr} {m : Ex}, cE Γ n e = some m → PE X e (uE X.K A W (ev G m)) := fun q => (hn X Γ W F _ _ q).1.1
      have Z : ∀ {e : Expr} {m : Ex}, cE Γ n e = some m → isSet e = false := fun q => (hn X Γ W F _ _ q).2.2.1
      have L : ∀ {e : Expr} {m : Ex}, cE Γ n e = some m → isSlc e = false := fun q => (hn X Γ W F _ _ q).2.2.2
      have T : ∀ {e : Expr} {m : Ex}, cE Γ n e = some m → notStar e = true := fun q => (hn X Γ W F _ _ q).2.1
      unfold cE at h
      split at h
      · cases h; exact ⟨truth_of (pe_lit pe_int fun _ _ => .int _) fun _ => rfl, rfl, rfl, rfl⟩
      · cases h; exact ⟨truth_of (pe_lit pe_str fun _ _ => .str _) fun _ => rfl, rfl, rfl, rfl⟩
      · cases h; exact ⟨truth_of (pe_lit pe_bl fun _ _ => .bl _) fun _ => rfl, rfl, rfl, rfl⟩
      · cases h; exact ⟨truth_of (pe_lit pe_non fun _ _ => .non) fun _ => rfl, rfl, rfl, rfl⟩
      · exact ⟨truth_of (pe_name F h) fun _ => rfl, rfl, rfl, rfl⟩
      · split at h
        · rename_i o' a' b' e1 e2 e3
          cases h
          refine ⟨?_, rfl, rfl, rfl⟩
          rw [← bop_ast e1]
          exact ok_bin (E e2) (E e3)
        · cases h
      · rw [Option.map_eq_some_iff] at h
        obtain ⟨m', q, rfl⟩ := h
        exact ⟨ok_not (hn X Γ W F _ _ q).1, rfl, rfl, rfl⟩
      · rw [Option.map_eq_some_iff] at h
        obtain ⟨m', q, rfl⟩ := h
        exact ⟨ok_neg (E q), rfl, rfl, rfl⟩
      · refine ⟨⟨pe_one (E h), PW.pt (pw_and1 (hn X Γ W F _ _ h).1.2)⟩, rfl, rfl, rfl⟩
      · refine ⟨⟨pe_one (E h), PW.pt (pw_or1 (hn X Γ W F _ _ h).1.2)⟩, rfl, rfl, rfl⟩
      · split at h
        · rename_i a' b' e1 e2
          cases h
          have h1 := (hn X Γ W F _ _ e1).1
          have h2 := (hn X Γ W F _ _ e2).1
          exact ⟨⟨pe_andU h1.1 h2.1, PW.pt (pw_andU h1.2 (pw_of h2.2))⟩, rfl, rfl, rfl⟩
        · cases h
      · split at h
        · rename_i a' b' e1 e2
          cases h
          have h1 := (hn X Γ W F _ _ e1).1
          have h2 := (hn X Γ W F _ _ e2).1
          exact ⟨⟨pe_orU h1.1 h2.1, PW.pt (pw_orU h1.2 (pw_of h2.2))⟩, rfl, rfl, rfl⟩
        · cases h
      · split at h
        · rename_i c' a' b' e1 e2 e3
          cases h
          exact ⟨ok_ite (hn X Γ W F _ _ e1).1 (hn X Γ W F _ _ e2).1 (hn X Γ W F _ _ e3).1, rfl, rfl, rfl⟩
        · cases h
      · split at h
        · rename_i a' b' e1 e2
          cases h
          refine ⟨?_, rfl, rfl, rfl⟩
          have q := pe_cmpU (p := ‹Pos›) (o := copOf ‹CmpOp›) F.units (E e1) (E e2) (behM _ (Z e2))
          rw [cop_ast] at q
          exact q
        · cases h
      · split at h
        · rename_i a' b' c' e1 e2 e3
          cases h
          refine ⟨?_, rfl, rfl, rfl⟩
          have q := fun o o' p => ok_chn (p := p) (o := copOf o) (o' := copOf o') F.units (E e1) (E e2) (E e3) (lastM _ _ (Z e3))
          simp only [cop_ast] at q
          exact q _ _ _
        · cases h
      · rw [Option.map_eq_some_iff] at h
        obtain ⟨m', q, rfl⟩ := h
        exact ⟨ok_tup (hn.row F q), rfl, rfl, rfl⟩
      · rw [Option.map_eq_some_iff] at h
        obtain ⟨m', q, rfl⟩ := h
        exact ⟨ok_lst (hn.row F q), rfl, rfl, rfl⟩
      · split at h
        · rename_i a' l r e1 e2 e3
          cases h
          exact ⟨ok_sl (E e1) (Good.part lt F e2) (Good.part lt F e3), rfl, rfl, rfl⟩
        · cases h
      · split at h
        · rename_i a' i' e1 e2
          cases h
          exact ⟨ok_ix (E e1) (E e2) (L e2), rfl, rfl, rfl⟩
        · cases h
      · split at h
        · rename_i es' e1
          have hr := hn.row F e1
          split at h
          · rename_i hp
            rw [Bool.and_eq_true] at hp
            split at h
            · rename_i i np e2
              split at h
              · rename_i hl
                cases h
                exact ⟨ok_call F hp.2 hp.1 e2 (of_decide_eq_true hl) hr, rfl, rfl, rfl⟩
              · cases h
            · cases h
            · split at h
              · rename_i hb
                rw [Bool.and_eq_true] at hb
                rw [Option.map_eq_some_iff] at h
                obtain ⟨b, e3, rfl⟩ := h
                refine ⟨?_, rfl, rfl, rfl⟩
                cases hr with
                | nil => exact absurd hb.2 (by decide)
                | cons h1 h2 h3 => exact ok_blt F hp.2 hp.1 (of_decide_eq_true hb.1) (blt_nm e3) (.cons h1 h2 h3)
              · cases h
          · cases h
        · cases h
      · split at h
        · rename_i hc
          simp only [Bool.and_eq_true, decide_eq_true_eq] at hc
          obtain ⟨⟨hc1, rfl⟩, hc2⟩ := hc
          rw [Option.map_eq_some_iff] at h
          obtain ⟨o', q, rfl⟩ := h
          exact ⟨ok_mth0 (E q) hc1 hc2, rfl, rfl, rfl⟩
        · cases h
      · split at h
        · rename_i hc
          simp only [Bool.and_eq_true] at hc
          split at h
          · rename_i m' o' e' e1 e2 e3
            cases h
            rw [← mth_nm e1]
            exact ⟨ok_mth1 (E e2) (E e3) (T e3) hc.1 hc.2, rfl, rfl, rfl⟩
          · cases h
        · cases h
      · dsimp only at h
        split at h
        · rename_i hb
          split at h
          · rename_i it t c x e1 e2 e3 e4
            split at h
            · rename_i ha
              cases h
              have hi := Good.iter lt F e1
              refine ⟨truth_of (ok_lc F hi.1 ?_ e2 ?_ (fun s H C cl fp => (Good.tests lt (F.blk _ s H C cl fp) e3)) (fun s H C cl fp => (hn _ _ _ (F.blk _ s H C cl fp) _ _ e4).1.1) hi.2) fun _ => rfl, rfl, rfl, rfl⟩
              · rw [F.N, F.sc]
                exact blkOk_by hb
              · intro i hi
                have q := List.all_eq_true.mp ha i hi
                exact of_decide_eq_true q
            · cases h
          · cases h
        · cases h
      · cases h
end
end Mi

/-! Mi, part M: statements. -/
namespace Mi
open PySem PySem.Spec PyProof.Rows L2
section
variable {X : Cx} {A : Adr} {G : Gen} {Γ : Gam} {W : WX} {K : PySem.W.Frag} {μ μ1 : List Addr} {H H1 : Hp} {D : Ends}

/-- what a statement's end must give -/
def ContS (K : PySem.W.Frag) (A : Adr) (W : WX) (D : Ends) (μ : List Addr) (H : Hp) : SR → Prop
  | .go .nx env S => ∀ σ' μ' H', Nx μ H μ' H' → Sto K A μ' S H' → ER K A μ' H' env σ' → D.nx σ' H'
  | .go (.rt d) env S => ∀ v μ' H', Nx μ H μ' H' → Sto K A μ' S H' → RV K A μ' H' d v → D.rt v H'
  | .go .bk env S => ∀ σ' μ' H', Nx μ H μ' H' → Sto K A μ' S H' → ER K A μ' H' env σ' → D.bk σ' H'
  | .go .ct env S => ∀ σ' μ' H', Nx μ H μ' H' → Sto K A μ' S H' → ER K A μ' H' env σ' → D.ct σ' H'
  | .er e env S => ∀ cls dd σ' μ' H', Nx μ H μ' H' → Sto K A μ' S H' → ER K A μ' H' env σ' → RX K A μ' H' e cls dd → W cls dd σ' H'
  | .no => False
theorem ContS.trans {r : SR} (n : Nx μ H μ1 H1) (h : ContS K A W D μ H r) : ContS K A W D μ1 H1 r := by
  match r, h with
  | .go .nx env S, h => exact fun σ' μ' H' n' => h σ' μ' H' (n.trans n')
  | .go (.rt d) env S, h => exact fun v μ' H' n' => h v μ' H' (n.trans n')
  | .go .bk env S, h => exact fun σ' μ' H' n' => h σ' μ' H' (n.trans n')
  | .go .ct env S, h => exact fun σ' μ' H' n' => h σ' μ' H' (n.trans n')
  | .er e env S, h => exact fun cls dd σ' μ' H' n' => h cls dd σ' μ' H' (n.trans n')
  | .no, h => exact h
/-- the reading of a statement -/
def uS (K : PySem.W.Frag) (A : Adr) (W : WX) (m : SM) : TS := fun D σ H => ∃ env S μ, ER K A μ H env σ ∧ Sto K A μ S H ∧ ContS K A W D μ H (m env S)
theorem ContS.bnd {α β : Type} {R : List Addr → Hp → α → β → Prop} {m : M α} {env : Env} {σ : L2.St} {f : α → Store → SR} {S : Store} (hE : ER K A μ H env σ) (h : ContS K A W D μ H (bndS m env f S)) :
    Cont K A W R σ μ H (m S) (fun v H1 => ∃ x S1 μ1, Nx μ H μ1 H1 ∧ Sto K A μ1 S1 H1 ∧ R μ1 H1 x v ∧ ContS K A W D μ1 H1 (f x S1)) := by
  unfold bndS at h
  cases e : m S with
  | ok a S' =>
    rw [e] at h
    exact fun v μ' H' n s r => ⟨a, S', μ', n, s, r, h.trans n⟩
  | er x S' =>
    rw [e] at h
    exact fun cls dd μ' H' n s r => h cls dd σ μ' H' n s (hE.mono n) r
  | no =>
    rw [e] at h
    exact h
theorem PS.imp {st : Stmt} {t t' : TS} (h : PS X st t) (w : ∀ D σ H, t' D σ H → t D σ H) : PS X st t' := ⟨fun pins s σ H D I q => h.run pins s σ H D I (w D σ H q)⟩
theorem PSs.imp {st : List Stmt} {t t' : TS} (h : PSs X st t) (w : ∀ D σ H, t' D σ H → t D σ H) : PSs X st t' := ⟨fun pins s σ H D I q => h.run pins s σ H D I (w D σ H q)⟩
abbrev OkS (X : Cx) (A : Adr) (G : Gen) (W : WX) (s : Stmt) (m : Sx) : Prop := PS X s (uS X.K A W (xs G m))
abbrev OkSs (X : Cx) (A : Adr) (G : Gen) (W : WX) (s : List Stmt) (m : List Sx) : Prop := PSs X s (uS X.K A W (xss G m))

theorem noLc {e : Expr} {tg : Option Expr} {l : Nat} {env : PySem.Env} (h : isLc e = false) : swapsWith e tg l env = pure false := by
  cases e <;> first | rfl | cases h
theorem noLcS {e t : Expr} {l : Nat} {env : PySem.Env} (h : isLc e = false) : swapsWithSole [t] e l env = pure false := noLc h
theorem os_nil : OkSs X A G W [] [] := by
  refine PSs.imp pss_nil ?_
  rintro D σ H ⟨env, S, μ, hE, hS, h⟩
  exact h σ μ H Nx.refl hS hE
theorem os_cons {s : Stmt} {m : Sx} {ss : List Stmt} {ms : List Sx} (h1 : OkS X A G W s m) (h2 : OkSs X A G W ss ms) : OkSs X A G W (s :: ss) (m :: ms) := by
  refine PSs.imp (pss_cons h1 h2) ?_
  rintro D σ H ⟨env, S, μ, hE, hS, h⟩
  refine ⟨env, S, μ, hE, hS, ?_⟩
  have h : ContS X.K A W D μ H (match xs G m env S with | .go .nx env' S' => xss G ms env' S' | r => r) := h
  cases e : xs G m env S with
  | no => rw [e] at h; exact h.elim
  | er x env' S' => rw [e] at h; exact h
  | go f env' S' =>
    rw [e] at h
    cases f with
    | nx => exact fun σ' μ' H' n s e' => ⟨env', S', μ', e', s, h.trans n⟩
    | rt d => exact h
    | bk => exact h
    | ct => exact h
theorem os_expr {e : Expr} {m : Ex} {p : Pos} (h : PE X e (uE X.K A W (ev G m))) (hl : isLc e = false) : OkS X A G W (.Expr e p) (.expr m) := by
  refine PS.imp (ps_expr h (noLc hl)) ?_
  rintro D σ H ⟨env, S, μ, hE, hS, h⟩
  refine ⟨env, S, μ, hE, hS, (ContS.bnd hE h).to ?_⟩
  rintro v H1 ⟨x, S1, μ1, n1, s1, r1, h1⟩
  exact h1 σ μ1 H1 Nx.refl s1 (hE.mono n1)
theorem os_ret {e : Expr} {m : Ex} {p : Pos} (h : PE X e (uE X.K A W (ev G m))) : OkS X A G W (.Return (some e) p) (.ret m) := by
  refine PS.imp (ps_ret h) ?_
  rintro D σ H ⟨env, S, μ, hE, hS, h⟩
  refine ⟨env, S, μ, hE, hS, (ContS.bnd hE h).to ?_⟩
  rintro v H1 ⟨x, S1, μ1, n1, s1, r1, h1⟩
  exact h1 v μ1 H1 Nx.refl s1 r1
theorem os_retN {p : Pos} : OkS X A G W (.Return none p) .retN := by
  refine PS.imp ps_retN ?_
  rintro D σ H ⟨env, S, μ, hE, hS, h⟩
  exact h .non μ H Nx.refl hS .non
theorem os_brk {p : Pos} : OkS X A G W (.Break p) .brk := by
  refine PS.imp ps_break ?_
  rintro D σ H ⟨env, S, μ, hE, hS, h⟩
  exact h σ μ H Nx.refl hS hE
theorem os_cnt {p : Pos} : OkS X A G W (.Continue p) .cnt := by
  refine PS.imp ps_continue ?_
  rintro D σ H ⟨env, S, μ, hE, hS, h⟩
  exact h σ μ H Nx.refl hS hE
theorem os_pass {p : Pos} : OkS X A G W (.Pass p) .pass := by
  refine PS.imp ps_pass ?_
  rintro D σ H ⟨env, S, μ, hE, hS, h⟩
  exact h σ μ H Nx.refl hS hE
theorem os_if {c : Expr} {a b : List Stmt} {k : Ex} {m n : List Sx} {p : Pos} (hc : PT X c (uT X.K A W (evT G k))) (ha : OkSs X A G W a m) (hb : OkSs X A G W b n) : OkS X A G W (.If c a b p) (.ite k m n) := by
  refine PS.imp (ps_if hc ha hb) ?_
  rintro D σ H ⟨env, S, μ, hE, hS, h⟩
  refine ⟨env, S, μ, hE, hS, (ContS.bnd hE h).to ?_⟩
  rintro v H1 ⟨x, S1, μ1, n1, s1, r1, h1⟩
  subst r1
  cases x with
  | true => exact ⟨env, S1, μ1, hE.mono n1, s1, h1⟩
  | false => exact ⟨env, S1, μ1, hE.mono n1, s1, h1⟩
/-- a store to a target -/
theorem asg_sv {t : Tg} {m : Ex} : ∀ D σ H, uS X.K A W (xs G (.asg t m)) D σ H → tAsg (uE X.K A W (ev G m)) (gOf X.K t) D σ H := by
  rintro D σ H ⟨env, S, μ, hE, hS, h⟩
  refine ⟨env, S, μ, hE, hS, (ContS.bnd hE h).to ?_⟩
  rintro v H1 ⟨x, S1, μ1, n1, s1, r1, h1⟩
  unfold bndS at h1
  cases eb : t.bind x env S1 with
  | no => rw [eb] at h1; exact h1.elim
  | er y S2 => exact absurd eb (bind_er y S2)
  | ok env' S2 =>
    rw [eb] at h1
    have e2 : S2 = S1 := (tg_sv (Q := fun _ _ => True) s1 r1 (hE.mono n1) eb fun _ _ _ => True.intro).1
    subst e2
    exact (tg_sv s1 r1 (hE.mono n1) eb fun σ' _ he => h1 σ' μ1 H1 Nx.refl s1 he).2
theorem swT {env : PySem.Env} {e : Expr} (h : isTupE e = false) {t : Expr} : swappedStores [t] e env = pure none := by
  cases t <;> cases e <;> first | rfl | cases h
theorem os_asgT (F : Fits A G Γ X W) {t e : Expr} {t' : Tg} {m : Ex} {p : Pos} (ht : cTg Γ t = some t') (h : PE X e (uE X.K A W (ev G m))) (hn : isTupE e = false) (hl : isLc e = false) : OkS X A G W (.Assign [t] e p) (.asg t' m) := by
  refine PS.imp (ps_asg h (pg_of F ht) (noLcS hl) (swT hn) ?_) asg_sv
  cases t <;> first | rfl | (unfold cTg at ht; cases ht)
theorem os_asgN (F : Fits A G Γ X W) {x : Str} {q : Pos} {e : Expr} {t' : Tg} {m : Ex} {p : Pos} (ht : cTg Γ (.Name x q) = some t') (h : PE X e (uE X.K A W (ev G m))) (hl : isLc e = false) : OkS X A G W (.Assign [.Name x q] e p) (.asg t' m) := by
  unfold cTg at ht
  simp only [Option.map_eq_some_iff] at ht
  obtain ⟨i, hi, rfl⟩ := ht
  obtain ⟨x', q', e1, g⟩ := pg_one F hi
  refine PS.imp (ps_asg h g (noLcS hl) ?_ rfl) asg_sv
  cases e <;> rfl
theorem os_set (F : Fits A G Γ X W) {a i e : Expr} {a' i' e' : Ex} {p q : Pos} (ha : PE X a (uE X.K A W (ev G a'))) (hi : PE X i (uE X.K A W (ev G i'))) (he : PE X e (uE X.K A W (ev G e'))) (hs : isSlc i = false) (hl : isLc e = false) : OkS X A G W (.Assign [.Subscript a i q] e p) (.asgIx a' i' e') := by
  refine PS.imp (ps_asg he (pg_sub ha hi set_list (fun v => by cases i <;> first | rfl | cases hs)) (noLcS hl) (by cases e <;> rfl) rfl) ?_
  rintro D σ H ⟨env, S, μ, hE, hS, h⟩
  have h : ContS X.K A W D μ H (bndS (ev G e' env >>= fun v => ev G a' env >>= fun x => ev G i' env >>= fun y => setIx x y v) env (fun _ S' => .go .nx env S') S) := h
  have h := ContS.bnd (R := fun _ _ (_ _ : Unit) => True) hE h
  refine ⟨env, S, μ, hE, hS, (Cont.bnd h).to ?_⟩
  rintro v H1 ⟨d, S1, μ1, n1, s1, r1, h1⟩
  refine ⟨env, S1, μ1, hE.mono n1, s1, (Cont.bnd h1).to ?_⟩
  rintro w H2 ⟨x, S2, μ2, n2, s2, r2, h2⟩
  refine ⟨env, S2, μ2, (hE.mono n1).mono n2, s2, (Cont.bnd h2).to ?_⟩
  rintro u H3 ⟨y, S3, μ3, n3, s3, r3, h3⟩
  have nn := n1.trans (n2.trans n3)
  refine sv_set s3 (r2.mono n3) r3 (r1.mono (n2.trans n3)) (Q := fun H' => D.nx σ H') (h3.to ?_)
  rintro _ H4 ⟨_, S4, μ4, n4, s4, _, h4⟩
  exact h4 σ μ4 H4 Nx.refl s4 (hE.mono n4)
theorem swp2 {env : PySem.Env} {x y : Str} {px py pt p2 : Pos} {kt k2 : Nat} {a b : Expr} (hk : env.blockKind = .function) (hx : env.kindOf x = some .local) (hy : env.kindOf y = some .local) (hxy : x ≠ y) (hl : py.line = px.line) (ha : notStar a = true) (hb : notStar b = true)
    (h1 : (foldedForSure 8 a && foldedForSure 8 b) = false) (h2 : (constantsAlone 8 a && constantsAlone 8 b) = false) : swappedStores [.Tuple [.Name x px, .Name y py] kt pt] (.Tuple [a, b] k2 p2) env = pure (some [x, y]) := by
  have e1 : (env.kindOf x == some .local) = true := by rw [hx]; rfl
  have e2 : (env.kindOf y == some .local) = true := by rw [hy]; rfl
  have e3 : ([Expr.Name x px, Expr.Name y py].filterMap fun
    | .Name id pos => if env.kindOf id == some .local && pos.line == ((([Expr.Name x px, Expr.Name y py].head?).map (·.pos.line)).getD 0) then some id else none
    | _ => none) = [x, y] := by
    show ([Expr.Name x px, Expr.Name y py].filterMap fun
    | .Name id pos => if env.kindOf id == some .local && pos.line == px.line then some id else none
    | _ => none) = [x, y]
    simp only [List.filterMap_cons, List.filterMap_nil, e1, e2, hl, beq_self_eq_true, Bool.and_self, if_true]
  have e4 : ([a, b].any fun | .Starred .. => true | _ => false) = false := by
    cases a <;> cases b <;> first | rfl | exact nomatch (show false = true from ha) | exact nomatch (show false = true from hb)
  have e5 : ([x, y].eraseDups.length != [x, y].length) = false := by
    have : (y == x) = false := by rw [beq_eq_false_iff_ne]; exact fun e => hxy e.symm
    simp [List.eraseDups_cons, this]
  have e6 : (env.blockKind != .function) = false := by rw [hk]; rfl
  have e7 : [a, b].all (foldedForSure 8) = false := by
    show (foldedForSure 8 a && (foldedForSure 8 b && true)) = false
    rw [Bool.and_true]; exact h1
  have e8 : [a, b].all (constantsAlone 8) = false := by
    show (constantsAlone 8 a && (constantsAlone 8 b && true)) = false
    rw [Bool.and_true]; exact h2
  have e9 : ∀ l : List Str, l = [x, y] → (l.length != 2 || l.eraseDups.length != l.length) = false := fun l h => by
    rw [h, e5]
    rfl
  unfold swappedStores
  dsimp only
  refine (if_neg (Bool.eq_false_iff.mp e6)).trans ?_
  refine (if_neg (Bool.eq_false_iff.mp e4)).trans ?_
  refine (if_neg (Bool.eq_false_iff.mp (e9 _ e3))).trans ?_
  refine (if_neg (Bool.eq_false_iff.mp e7)).trans ?_
  refine (if_neg (Bool.eq_false_iff.mp e8)).trans ?_
  exact congrArg (fun l => pure (some l)) e3
theorem os_par (F : Fits A G Γ X W) {x y : Str} {px py pt p2 p : Pos} {kt k2 : Nat} {a b : Expr} {i j : Nat} {es : List Ex} (hi : ixOf x Γ.N = some i) (hj : ixOf y Γ.N = some j) (h : Oks X A G W [a, b] es) (hp : parB Γ x y px py a b = true) :
    OkS X A G W (.Assign [.Tuple [.Name x px, .Name y py] kt pt] (.Tuple [a, b] k2 p2) p) (.par [i, j] es) := by
  unfold parB at hp
  simp only [Bool.and_eq_true, decide_eq_true_eq, beq_iff_eq, Bool.not_eq_true', decide_eq_false_iff_not] at hp
  obtain ⟨hk, hx, hy, hxy, hl, h1, h2⟩ := hp
  have hij : i ≠ j := fun e => hxy (by have a1 := ixOf_get hi; have a2 := ixOf_get hj; rw [e, a2] at a1; exact (Option.some.inj a1).symm)
  refine PS.imp (ps_par F.calm (by rw [F.N]; exact F.nd) (by rw [F.N]; exact ixOf_get hi) (by rw [F.N]; exact ixOf_get hj) hij (by rw [F.sc]; exact hx) (by rw [F.sc]; exact hy) (pa_of h)
    (swp2 (by unfold Env.blockKind; rw [F.sc, hk]; rfl) (by rw [show X.env.kindOf x = X.env.scope.names.lookup x from rfl, F.sc]; exact hx) (by rw [show X.env.kindOf y = X.env.scope.names.lookup y from rfl, F.sc]; exact hy) hxy hl (h.star a List.mem_cons_self) (h.star b (List.mem_cons_of_mem _ List.mem_cons_self)) h1 h2)) ?_
  have hlen := h.len
  rintro D σ H ⟨env, S, μ, hE, hS, hh⟩
  refine ⟨env, S, μ, hE, hS, (ContS.bnd (R := RVs X.K A) hE hh).to ?_⟩
  rintro vs H1 ⟨ds, S1, μ1, n1, s1, r1, h1⟩
  split at h1
  · rename_i hl2
    match ds, hl2, r1, h1 with
    | [d, e], _, r1, h1 =>
      obtain ⟨v, u, rfl, ra, rb⟩ := r1.two
      exact ⟨v, u, rfl, h1 _ μ1 H1 Nx.refl s1 (((hE.mono n1).set i ra).set j rb)⟩
  · exact h1.elim
theorem os_aug (F : Fits A G Γ X W) {t e : Expr} {i : Nat} {o : BOp} {m : Ex} {p : Pos} (ht : cTg1 Γ t = some i) (h : PE X e (uE X.K A W (ev G m))) (ho : o = .add ∨ o = .sub) : OkS X A G W (.AugAssign t (opAst o) e p) (.aug i o m) := by
  obtain ⟨x, q, rfl, g⟩ := pg_one F ht
  unfold cTg1 at ht
  simp only at ht
  split at ht
  · rename_i hc
    rw [Bool.and_eq_true, Bool.or_eq_true] at hc
    have hf : X.fn x = true ∨ X.env.scope.names.lookup x = some .local := hc.2.imp (F.fn x) fun q => by rw [F.sc]; exact of_decide_eq_true q
    have key : ∀ (f : Int → Int → Int) (tip : TIp), (∀ x y S, augM o x y S = match x, y with | .int i, .int j => .ok (.int (f i j)) S | _, _ => .no) → PIp X (opAst o) (ipI f) → OkS X A G W (.AugAssign (.Name x q) (opAst o) e p) (.aug i o m) := fun f _ hf2 hop => by
      refine PS.imp (ps_aug (by rw [F.N]; exact F.nd) (by rw [F.N]; exact ixOf_get ht) (F.loc hc.1) h hop hf) ?_
      rintro D σ H ⟨env, S, μ, hE, hS, h⟩
      have h : ContS X.K A W D μ H (match env[i]? with | some (some x) => bndS (ev G m env >>= fun y => augM o x y) env (fun d S' => .go .nx (env.set i (some d)) S') S | _ => .no) := h
      split at h
      · rename_i d ed
        obtain ⟨v, hv, rv⟩ := hE.at_ i d ed
        refine ⟨v, hv, env, S, μ, hE, hS, (Cont.bnd (ContS.bnd (R := RV X.K A) hE h)).to ?_⟩
        rintro w H1 ⟨y, S1, μ1, n1, s1, r1, h1⟩
        rw [hf2] at h1
        cases rv with
        | int a =>
          cases r1 with
          | int b =>
            refine ⟨a, b, rfl, rfl, ?_⟩
            obtain ⟨_, S2, μ2, n2, s2, r2, h2⟩ := h1 (.int (f a b)) μ1 H1 Nx.refl s1 (.int _)
            cases r2
            exact h2 _ μ2 H1 Nx.refl s2 (((hE.mono n2)).set i (.int _))
          | _ => exact False.elim h1
        | _ => exact False.elim h1
      · exact h.elim
    rcases ho with rfl | rfl
    · exact key (fun i j => i + j) (ipI fun i j => i + j) (fun x y S => by cases x <;> cases y <;> rfl) ip_add
    · exact key (fun i j => i - j) (ipI fun i j => i - j) (fun x y S => by cases x <;> cases y <;> rfl) ip_sub
  · cases ht
theorem os_asgLc (F : Fits A G Γ X W) {x : Str} {q : Pos} {t' : Tg} {elt tg iter : Expr} {ifs : List Expr} {scope : Scope} {pos p : Pos} {it : Itn} {t : Tg} {c : Option Ex} {m : Ex} (hx : cTg Γ (.Name x q) = some t')
    (hi : PI X tg iter (uI X.K A W (evi G it))) (ok : BlkOk X.N X.env.scope scope (ownOf Γ.N scope))
    (hg : cTg (Γ.blk scope) tg = some t) (hti : ∀ i ∈ t.ixs, i ∈ (ownOf Γ.N scope).map (·.2))
    (ht : ∀ (s : Shared) (H : Hp) (C : Addr) (cl : List (Str × Addr)) (fp : List Addr), PTs (X.blk s H scope (compEnvC scope cl C X.env) fp) ifs (uT X.K A W0 (evc G c)))
    (he : ∀ (s : Shared) (H : Hp) (C : Addr) (cl : List (Str × Addr)) (fp : List Addr), PE (X.blk s H scope (compEnvC scope cl C X.env) fp) elt (uE X.K A W0 (ev G m))) (hs : isSet iter = false) :
    OkS X A G W (.Assign [.Name x q] (.ListComp elt [⟨tg, iter, ifs, 0⟩] scope pos) p) (.asg t' (.lc it t ((ownOf Γ.N scope).map (·.2)) c m)) := by
  unfold cTg at hx
  simp only [Option.map_eq_some_iff] at hx
  obtain ⟨i, hxi, rfl⟩ := hx
  obtain ⟨x', q', e1, g⟩ := pg_one F hxi
  have sw : ∃ b, swapsWith (.ListComp elt [⟨tg, iter, ifs, 0⟩] scope pos) (some (.Name x q)) p.line X.env = pure b ∧ (b = true → X.env.kindOf x = some .local) := by
    refine ⟨X.env.blockKind == .function && X.env.kindOf x == some .local && q.line == pos.line && !(scope.names.any fun (n, k) => n == x && (k == .local || k == .cell)), rfl, fun h => ?_⟩
    simp only [Bool.and_eq_true] at h
    exact eq_of_beq h.1.1.2
  obtain ⟨b, hb, hl⟩ := sw
  cases b with
  | false => exact PS.imp (ps_asg (ok_lc F hi ok hg hti ht he hs) g hb rfl rfl) asg_sv
  | true =>
    have hi' : X.N[i]? = some x := by
      unfold cTg1 at hxi
      simp only at hxi
      split at hxi
      · rw [F.N]; exact ixOf_get hxi
      · cases hxi
    refine PS.imp (ps_setLc (g := gOf X.K t) F.calm (by rw [F.N]; exact F.nd) hi' (hl rfl) hb hi ok (fun s H C cl fp => pg_of (F.blk scope s H C cl fp) hg) ht he fun x => set_iter hs) ?_
    intro D σ H h
    have h2 := asg_sv (t := .v i) D σ H h
    obtain ⟨env, S, μ, hE, hS, hc⟩ := h2
    exact lc_of hti σ H _ ⟨env, S, μ, hE, hS, hc⟩

/-! ### loops -/
theorem os_while (hp : PassesOwn (model X.prog X.w) X.A X.env X.xe) {c : Expr} {b : List Stmt} {k : Ex} {m : List Sx} {p : Pos} (hc : PT X c (uT X.K A W (evT G k))) (hb : OkSs X A G W b m) : OkS X A G W (.While c b [] p) (.whl k m) := by
  refine PS.imp (ps_while hp hc hb) ?_
  rintro D σ H ⟨env, S, μ, hE, hS, h⟩
  refine ⟨fun n σ H => ∃ env S μ, ER X.K A μ H env σ ∧ Sto X.K A μ S H ∧ ContS X.K A W D μ H (whileF (evT G k) (fun env' S' => xss G m env' S') n env S), ⟨G.L, env, S, μ, hE, hS, h⟩, ?_⟩
  rintro n σ H ⟨env, S, μ, hE, hS, h⟩
  cases n with
  | zero => exact False.elim h
  | succ n =>
    refine ⟨env, S, μ, hE, hS, (ContS.bnd hE h).to ?_⟩
    rintro v H1 ⟨x, S1, μ1, n1, s1, r1, h1⟩
    subst r1
    cases x with
    | false =>
      rw [if_neg Bool.false_ne_true] at h1 ⊢
      exact h1 σ μ1 H1 Nx.refl s1 (hE.mono n1)
    | true =>
      rw [if_pos rfl] at h1 ⊢
      dsimp only at h1
      refine ⟨fun σ H => ∃ env S μ, ER X.K A μ H env σ ∧ Sto X.K A μ S H ∧ ContS X.K A W D μ H (whileF (evT G k) (fun env' S' => xss G m env' S') n env S), fun σ' H' h => ⟨n, Nat.lt_succ_self n, h⟩, env, S1, μ1, hE.mono n1, s1, ?_⟩
      cases e : xss G m env S1 with
      | no => rw [e] at h1; exact h1.elim
      | er x env' S' => rw [e] at h1; exact h1
      | go f env' S' =>
        rw [e] at h1
        cases f with
        | nx => exact fun σ' μ' H' n s e' => ⟨env', S', μ', e', s, h1.trans n⟩
        | ct => exact fun σ' μ' H' n s e' => ⟨env', S', μ', e', s, h1.trans n⟩
        | bk => exact h1
        | rt d => exact h1
theorem os_for (F : Fits A G Γ X W) (hp : PassesOwn (model X.prog X.w) X.A X.env X.xe) {t it : Expr} {b : List Stmt} {t' : Tg} {i' : Itn} {m : List Sx} {p : Pos} (ht : cTg Γ t = some t') (hi : PI X t it (uI X.K A W (evi G i'))) (hs : isSet it = false) (hb : OkSs X A G W b m) :
    OkS X A G W (.For t it b [] p) (.for_ t' i' m) := by
  refine PS.imp (ps_for hp F.calm hi (pg_of F ht) hb fun x => set_iter hs) ?_
  rintro D σ H ⟨env, S, μ, hE, hS, h⟩
  refine ⟨env, S, μ, hE, hS, (ContS.bnd hE h).to ?_⟩
  rintro J H1 ⟨s, S1, μ1, n1, s1, hJ, h1⟩
  refine ⟨fun i n σ H => ∃ env S μ, Nx μ1 H1 μ H ∧ ER X.K A μ H env σ ∧ Sto X.K A μ S H ∧ ContS X.K A W D μ H (forF s t' (fun env' S2 => xss G m env' S2) n i env S), ⟨G.L, env, S1, μ1, Nx.refl, hE.mono n1, s1, h1⟩, ?_⟩
  rintro i n σ H ⟨env, S, μ, nx, hE, hS, h⟩
  obtain ⟨c1, c2, c3⟩ := hJ μ S H i nx hS
  cases n with
  | zero => exact False.elim h
  | succ n =>
    have hm : ContS X.K A W D μ H (bndS (s.at i) env (fun o S1 => match o with
      | none => .go .nx env S1
      | some d => bndS (t'.bind d env) env (fun env1 S2 => match xss G m env1 S2 with
        | .go .nx env2 S2 => forF s t' (fun env' S2 => xss G m env' S2) n (i + 1) env2 S2
        | .go .ct env2 S2 => forF s t' (fun env' S2 => xss G m env' S2) n (i + 1) env2 S2
        | .go .bk env2 S2 => .go .nx env2 S2
        | r => r) S1) S) := h
    clear h
    revert hm
    intro h
    unfold bndS at h
    cases e0 : s.at i S with
    | no => rw [e0] at h; exact h.elim
    | er x S2 => exact absurd e0 (c3 x S2)
    | ok o S2 =>
      rw [e0] at h
      cases o with
      | none =>
        obtain ⟨rfl, st⟩ := c1 S2 e0
        exact .inl ⟨st, h σ μ H Nx.refl hS hE⟩
      | some d =>
        obtain ⟨rfl, go, step⟩ := c2 d S2 e0
        refine .inr ⟨go, fun σ H => ∃ env S μ, Nx μ1 H1 μ H ∧ ER X.K A μ H env σ ∧ Sto X.K A μ S H ∧ ContS X.K A W D μ H (forF s t' (fun env' S2 => xss G m env' S2) n (i + 1) env S), fun σ' H' h => ⟨n, Nat.lt_succ_self n, h⟩, fun x H2 hy => ?_⟩
        obtain ⟨n2, s2, r2⟩ := step x H2 hy
        simp only at h
        cases eb : t'.bind d env S2 with
        | no => rw [eb] at h; exact h.elim
        | er y S3 => exact absurd eb (bind_er y S3)
        | ok env1 S3 =>
          rw [eb] at h
          simp only at h
          have e2 : S3 = S2 := (tg_sv (Q := fun _ _ => True) s2 r2 (hE.mono n2) eb fun _ _ _ => True.intro).1
          subst e2
          refine (tg_sv s2 r2 (hE.mono n2) eb fun σ2 _ he => ?_).2
          refine ⟨env1, S3, μ, he, s2, ?_⟩
          cases e : xss G m env1 S3 with
          | no => rw [e] at h; exact h.elim
          | er x env' S' => rw [e] at h; exact h.trans n2
          | go f env' S' =>
            rw [e] at h
            cases f with
            | nx => exact fun σ' μ' H' n' s' e' => ⟨env', S', μ', nx.trans (n2.trans n'), e', s', (h.trans n2).trans n'⟩
            | ct => exact fun σ' μ' H' n' s' e' => ⟨env', S', μ', nx.trans (n2.trans n'), e', s', (h.trans n2).trans n'⟩
            | bk => exact h.trans n2
            | rt d => exact h.trans n2
end
end Mi

/-! Mi, part W: raise; try. -/
namespace Mi
open PySem PySem.Spec PyProof.Rows L2
theorem cx_no {P : Program} {w : World} {st : List PySem.Env} {H : Hp} {s : Shared} {e : Value} {s' : Shared} (h : L2.CX P w st H s (fun _ _ _ => False) e s') : False := by
  obtain ⟨_, _, _, _, _, _, _, _, _, _, _, _, z⟩ := h
  exact z
section
variable {X : Cx} {A : Adr} {G : Gen} {Γ : Gam} {W : WX} {K : PySem.W.Frag} {μ μ1 : List Addr} {H H1 : Hp}
theorem dbg_of {x : Str} (h : plainNm x = true) : (x == ("__debug__" : Str)) = false := by
  unfold plainNm at h
  simp only [Bool.and_eq_true, Bool.not_eq_true'] at h
  exact h.1.1
/-- the fields of an error, as they lie -/
theorem gs_look {fs : List Str} {ds : List D} {vs : List V} (hf : fs.length = 1 ∨ fs.length = 2 ∧ fs.Nodup) (hd : ds.length = fs.length) (r : RVs K A μ H ds vs) : ∀ f x, (fs.zip ds).lookup f = some x → ∃ v, (gsOf fs vs).lookup f = some v ∧ RV K A μ H x v := by
  intro f x h
  rcases hf with hf | ⟨hf, nd⟩
  · match fs, ds, vs, hf, hd, r, h with
    | [g], [d], vs, _, _, r, h =>
      obtain ⟨v, rfl, r1⟩ := r.one
      show ∃ w, (match f == g with | true => some v | false => none) = some w ∧ _
      have h : (match f == g with | true => some d | false => none) = some x := h
      cases e1 : f == g with
      | true =>
        rw [e1] at h
        cases h
        exact ⟨v, rfl, r1⟩
      | false => rw [e1] at h; cases h
  · match fs, ds, vs, hf, hd, r, h with
    | [g, g'], [d, d'], vs, _, _, r, h =>
      obtain ⟨v, u, rfl, r1, r2⟩ := r.two
      have ne : g ≠ g' := by simpa using nd
      show ∃ w, (match f == g' with | true => some u | false => (match f == g with | true => some v | false => none)) = some w ∧ _
      have h : (match f == g with | true => some d | false => (match f == g' with | true => some d' | false => none)) = some x := h
      cases e1 : f == g with
      | true =>
        rw [e1] at h
        cases h
        have e2 : (f == g') = false := by rw [beq_iff_eq.mp e1]; exact beq_eq_false_iff_ne.mpr ne
        rw [e2]
        exact ⟨v, rfl, r1⟩
      | false =>
        rw [e1] at h
        cases e2 : f == g' with
        | true =>
          rw [e2] at h
          cases h
          exact ⟨u, rfl, r2⟩
        | false => rw [e2] at h; cases h
theorem os_raise (F : Fits A G Γ X W) {x : Str} {i : Nat} {fs : List Str} {es : List Expr} {ms : List Ex} {p pos pos' : Pos} (hg : isGl Γ.sc x = true) (hp : plainNm x = true) (hx : Γ.glob.lookup x = some (.xc i fs)) (h : Oks X A G W es ms) (hl : ms.length = fs.length) :
    OkS X A G W (.Raise (some (.Call (.Name x p) es [] pos)) none pos') (.raise i fs ms) := by
  have q := F.xcs x i fs hx
  have hlen := h.len
  cases es with
  | nil =>
    have e0 : ms = [] := List.length_eq_zero_iff.mp (by rw [← hlen]; rfl)
    subst e0
    have e1 : fs = [] := List.length_eq_zero_iff.mp (by rw [← hl]; rfl)
    subst e1
    obtain ⟨q1, q2⟩ := q.no rfl
    refine PS.imp (ps_raise F.calm F.tk (pmk_own0 PySem.F.excBase_ValueError q1 q.gm q2 q.rs (F.gl hg) (dbg_of hp))) ?_
    rintro D σ H ⟨env, S, μ, hE, hS, hh⟩
    exact hh _ none σ μ H Nx.refl hS hE ⟨rfl, fun ne => absurd rfl ne⟩
  | cons e es =>
    have ne : fs ≠ [] := by
      intro e0
      rw [e0] at hl
      rw [hl] at hlen
      cases hlen
    obtain ⟨T, _, _, hf, fI, fd, ps, iC, tI, hb, hr, F1⟩ := q.yes ne
    have hs := h.star e List.mem_cons_self
    refine PS.imp (ps_raise F.calm F.tk (pmk_oex (ds := []) (dvs := []) T iC tI F1 hr hb .nil (fun _ _ _ _ _ _ _ c => (cx_no c).elim) (F.gl hg) q.gm (pa_of h) (dbg_of hp) (star_cons hs) (star_none fun e' he => h.star e' (List.mem_cons_of_mem _ he)))) ?_
    rintro D σ H ⟨env, S, μ, hE, hS, hh⟩
    refine ⟨env, S, μ, hE, hS, (ContS.bnd (R := RVs X.K A) hE hh).to ?_⟩
    rintro vs H1 ⟨ds, S1, μ1, n1, s1, r1, h1⟩
    split at h1
    · rename_i hd
      have hv : vs.length = fs.length := by rw [← r1.length]; exact hd
      have hf2 : fs.length ≤ 1000 := by rcases hf with hf | ⟨hf, _⟩ <;> omega
      refine ini_read (Q := fun cls d H' => W cls d σ H') hv hf2 fun d nd => ?_
      refine h1 _ (some d) σ μ1 _ (Nx.newT nd) (s1.newT nd) ((hE.mono n1).mono (Nx.newT nd)) ⟨rfl, fun _ => ⟨d, gsOf fs vs, rfl, upd_same, ?_⟩⟩
      intro f x hx
      obtain ⟨v, e1, e2⟩ := gs_look hf hd r1 f x hx
      exact ⟨v, e1, e2.mono (Nx.newT nd)⟩
    · exact h1.elim
/-! ### try -/
theorem pe_litC {c : Const} {d : Mi.D} (h : litOf c = some d) : ∃ v, (∀ (X : Cx) (j : Nat) (p : Pos), PE X (.Constant c j p) (tC v)) ∧ ∀ K A μ H, RV K A μ H d v := by
  unfold litOf at h
  split at h
  · cases h; exact ⟨_, fun _ _ _ => pe_int, fun _ _ _ _ => .int _⟩
  · cases h; exact ⟨_, fun _ _ _ => pe_str, fun _ _ _ _ => .str _⟩
  · cases h; exact ⟨_, fun _ _ _ => pe_bl, fun _ _ _ _ => .bl _⟩
  · cases h; exact ⟨_, fun _ _ _ => ⟨fun _ _ _ H _ I h => Constant_none ⟨.non, H, I, rfl, h⟩⟩, fun _ _ _ _ => .non⟩
  · cases h
/-- a name whose slot is there -/
theorem pe_varL {X : Cx} {i : Nat} {x : Str} {pos : Pos} (hN : X.N[i]? = some x) (hv : Vis X.env.scope x) (hd : (x == ("__debug__" : Str)) = false) (hcd : (x == ("__classdict__" : Str)) = false) : PE X (.Name x pos) (fun σ H Q => σ.length = X.N.length → tVar i σ H Q) :=
  ⟨fun pins s σ H Q I q => (pe_var hN hv hd hcd).run pins s σ H Q I (q I.len)⟩
/-- what a clause does with the ends -/
def endsOf (nm : Option Nat) (E : Ends) : Ends := match nm with
  | none => E
  | some i => { nx := fun σ' H' => E.nx (σ'.set i none) H', rt := E.rt, bk := fun σ' H' => E.bk (σ'.set i none) H', ct := fun σ' H' => E.ct (σ'.set i none) H' }
def namIn (nm : Option Nat) (a : Addr) (σ : L2.St) : L2.St := match nm with
  | none => σ
  | some i => σ.set i (some (.ref a))
theorem wMix_cons {E : Ends} {c : Value} {nm : Option Nat} {ts : Addr → Value → Option Addr → TS} {l : List (Value × Option Nat × (Addr → Value → Option Addr → TS))} {cls : Value} {d : Option Addr} {σ : L2.St} {b : Bool} (hb : PySem.W.exmOne K cls c = some b) (h1 : b = true → ∀ a, H a = none → ts a cls d (endsOf nm E) (namIn nm a σ) H) (h2 : b = false → wMix K W E l cls d σ H) :
    wMix K W E ((c, nm, ts) :: l) cls d σ H := by
  cases nm with
  | none => exact ⟨b, hb, h1, h2⟩
  | some i => exact ⟨b, hb, h1, h2⟩
theorem ER.setN {env : Env} {σ : L2.St} (h : ER K A μ H env σ) (i : Nat) : ER K A μ H (env.set i none) (σ.set i none) := by
  refine ⟨by rw [List.length_set, List.length_set]; exact h.len, fun j d e => ?_⟩
  by_cases hj : i = j
  · subst hj
    rw [List.getElem?_set] at e
    split at e
    · split at e <;> cases e
    · exact absurd rfl ‹_›
  · rw [List.getElem?_set_ne hj] at e ⊢
    exact h.at_ j d e
/-- the reading of a clause -/
def HdSays (X : Cx) (A : Adr) (hd : Hdl) (ts : Addr → Value → Option Addr → TS) : Prop :=
  ∀ (W : WX) (E : Ends) (e : Exn) (env : Env) (S : Store) (σ : L2.St) (μ : List Addr) (H : Hp) (a : Addr) (cls : Value) (dd : Option Addr), ER X.K A μ H env σ → Sto X.K A μ S H → RX X.K A μ H e cls dd → ContS X.K A W E μ H (runR hd e env S) → ts a cls dd (endsOf hd.nm E) (namIn hd.nm a σ) H
theorem hd_ok (F : Fits A G Γ X W) {h : ExceptHandler} {hd : Hdl} (q : cH Γ h = some hd) : Γ.sub[hd.c]? = some hd.ms ∧ ∃ ts, HdSays X A hd ts ∧ ∀ {hds l}, HdsM X hds l → HdsM X (h :: hds) ((.ref (A.xa hd.c), hd.nm, ts) :: l) := by
  unfold cH at q
  split at q
  · rename_i x np nm st pos'
    split at q
    · rename_i hc
      rw [Bool.and_eq_true] at hc
      split at q
      · rename_i c fs hx
        split at q
        · rename_i ms r e1 e2
          have xh := F.xcs x c fs hx
          have nmx : Names X x (.ref (A.xa c)) := ⟨F.gl hc.2, dbg_of hc.1, .inl xh.gm⟩
          have key : ∀ (hd : Hdl), hd.c = c → hd.ms = ms → hd.r = r → (nm = none → hd.nm = none) → (∀ n, nm = some n → ∃ i, hd.nm = some i ∧ ixOf n Γ.N = some i ∧ Γ.sc.names.lookup n = some .local) →
              Γ.sub[hd.c]? = some hd.ms ∧ ∃ ts, HdSays X A hd ts ∧ ∀ {hds l}, HdsM X hds l → HdsM X (.ExceptHandler (some (.Name x np)) nm [st] pos' :: hds) ((.ref (A.xa hd.c), hd.nm, ts) :: l) := by
            intro hd h1 h2 h3 h4 h5
            refine ⟨by rw [h1, h2]; exact e1, ?_⟩
            have mk : ∀ {ts : Addr → Value → Option Addr → TS}, (∀ (a : Addr) (oe : Obj) (cls : Value) (d : Option Addr) (pn : List (Addr × Obj)), Zc cls d oe → (∃ vs, oe.data = .fields vs) → PSs (X.suite a ((a, oe) :: pn)) [st] (ts a cls d)) → ∀ {hds l}, HdsM X hds l → HdsM X (.ExceptHandler (some (.Name x np)) nm [st] pos' :: hds) ((.ref (A.xa hd.c), hd.nm, ts) :: l) := by
              intro ts hsu hds l r
              rw [h1]
              cases nm with
              | none => rw [h4 rfl]; exact .one nmx hsu r
              | some n =>
                obtain ⟨i, hi1, hi2, hi3⟩ := h5 n rfl
                rw [hi1]
                exact .nam nmx (by rw [F.N]; exact ixOf_get hi2) (by show X.env.scope.names.lookup n = _; rw [F.sc]; exact hi3) hsu r
            have rt : ∀ (nm : Option Nat) (E : Ends), (endsOf nm E).rt = E.rt := fun nm E => by cases nm <;> rfl
            unfold cHR at e2
            split at e2
            · rename_i c0 j0 p0 p1
              rw [Option.map_eq_some_iff] at e2
              obtain ⟨d, e2, e3⟩ := e2
              obtain ⟨v, pe, rv⟩ := pe_litC e2
              refine ⟨fun _ _ _ => tRet (tC v), ?_, mk fun a oe cls d pn hz hf => pss_one (ps_ret (pe _ _ _))⟩
              intro W E e env S σ μ H a cls dd hE hS hX hh
              unfold runR at hh
              rw [h3, ← e3] at hh
              show (endsOf hd.nm E).rt v H
              rw [rt]
              exact hh v μ H Nx.refl hS (rv _ _ _ _)
            · rename_i y p0 f p1 p2
              split at e2
              · rename_i hy
                simp only [Bool.and_eq_true, decide_eq_true_eq] at hy
                cases e2
                obtain ⟨i, hi1, hi2, hi3⟩ := h5 y hy.1
                have hy2 := hy.2.1
                obtain ⟨T, xf, hno, _⟩ := xh.yes (fun z => by rw [z] at hy; exact absurd hy.2.2 (by simp))
                have cd : (y == ("__classdict__" : Str)) = false := by
                  unfold plainNm at hy2
                  simp only [Bool.and_eq_true, Bool.not_eq_true'] at hy2
                  exact hy2.1.2
                refine ⟨fun a cls d => tRet (tXf a cls d (A.xa c) f (fun σ H Q => σ.length = X.N.length → tVar i σ H Q)), ?_, mk fun a oe cls d pn hz hf => pss_one (ps_ret (pe_xf xf (hno f hy.2.2) hz hf (pe_varL (by show X.N[i]? = _; rw [F.N]; exact ixOf_get hi2) (.inl (by show X.env.scope.names.lookup y = _; rw [F.sc]; exact hi3)) (dbg_of hy2) cd)))⟩
                intro W E e env S σ μ H a cls dd hE hS hX hh
                unfold runR at hh
                rw [h3] at hh
                dsimp only at hh
                split at hh
                · rename_i hc2
                  split at hh
                  · rename_i d hd2
                    have hne : e.fs ≠ [] := fun z => by rw [z] at hd2; cases hd2
                    obtain ⟨da, gs, rfl, hda, hgs⟩ := hX.fld hne
                    obtain ⟨v, hv1, hv2⟩ := hgs f d hd2
                    rw [hi1]
                    intro hlen
                    have hil : i < σ.length := by
                      have h6 : (σ.set i (some (.ref a))).length = X.N.length := hlen
                      rw [List.length_set] at h6
                      rw [h6, F.N]
                      exact (List.getElem?_eq_some_iff.mp (ixOf_get hi2)).1
                    refine ⟨.ref a, List.getElem?_set_self hil, rfl, ?_, da, gs, v, rfl, hda, hv1, ?_⟩
                    · rw [hX.cls, hc2, h1]
                    · exact hh v μ H Nx.refl hS hv2
                  · exact hh.elim
                · exact hh.elim
              · cases e2
            · cases e2
              refine ⟨fun _ _ _ => tNext, ?_, mk fun a oe cls d pn hz hf => pss_one ps_pass⟩
              intro W E e env S σ μ H a cls dd hE hS hX hh
              unfold runR Hdl.wipe at hh
              rw [h3] at hh
              show (endsOf hd.nm E).nx (namIn hd.nm a σ) H
              revert hh
              cases hd.nm with
              | none => exact fun hh => hh σ μ H Nx.refl hS hE
              | some i =>
                intro hh
                show E.nx ((σ.set i _).set i none) H
                rw [List.set_set]
                exact hh _ μ H Nx.refl hS (hE.setN i)
            · cases e2
              refine ⟨fun _ _ _ => tCont, ?_, mk fun a oe cls d pn hz hf => pss_one ps_continue⟩
              intro W E e env S σ μ H a cls dd hE hS hX hh
              unfold runR Hdl.wipe at hh
              rw [h3] at hh
              show (endsOf hd.nm E).ct (namIn hd.nm a σ) H
              revert hh
              cases hd.nm with
              | none => exact fun hh => hh σ μ H Nx.refl hS hE
              | some i =>
                intro hh
                show E.ct ((σ.set i _).set i none) H
                rw [List.set_set]
                exact hh _ μ H Nx.refl hS (hE.setN i)
            · cases e2
          cases nm with
          | none =>
            cases q
            exact key _ rfl rfl rfl (fun _ => rfl) fun n z => nomatch z
          | some n =>
            have q : (if decide (Γ.sc.names.lookup n = some .local) then (ixOf n Γ.N).map fun i => (⟨c, ms, some i, r⟩ : Hdl) else none) = some hd := q
            split at q
            · rename_i hn
              rw [Option.map_eq_some_iff] at q
              obtain ⟨i, q2, rfl⟩ := q
              exact key _ rfl rfl rfl (fun z => nomatch z) fun n' z => by cases z; exact ⟨i, rfl, q2, of_decide_eq_true hn⟩
            · cases q
        · cases q
      · cases q
    · cases q
  · cases q
theorem hds_ok (F : Fits A G Γ X W) : ∀ {hs : List ExceptHandler} {hds : List Hdl}, optAll (cH Γ) hs = some hds → ∃ l, HdsM X hs l ∧
    ∀ (W : WX) (E : Ends) (e : Exn) (env : Env) (S : Store) (σ : L2.St) (μ : List Addr) (H : Hp) (cls : Value) (dd : Option Addr), ER X.K A μ H env σ → Sto X.K A μ S H → RX X.K A μ H e cls dd → ContS X.K A W E μ H (runH hds e env S) → wMix X.K W E l cls dd σ H
  | [], hds, q => by
    cases q
    exact ⟨[], .nil, fun W E e env S σ μ H cls dd hE hS hX hh => hh cls dd σ μ H Nx.refl hS hE hX⟩
  | h :: hs, hds, q => by
    unfold optAll at q
    split at q
    · rename_i hd hds' e1 e2
      cases q
      obtain ⟨hs1, ts, r1, m1⟩ := hd_ok F e1
      obtain ⟨l, m2, r2⟩ := hds_ok F e2
      refine ⟨_, m1 m2, fun W E e env S σ μ H cls dd hE hS hX hh => ?_⟩
      unfold runH at hh
      cases hb : hd.ms[e.x]? with
      | none => rw [hb] at hh; exact hh.elim
      | some b =>
        rw [hb] at hh
        have hx := F.sub hd.c hd.ms hs1 e.x b hb
        rw [← hX.cls] at hx
        cases b with
        | true => exact wMix_cons hx (fun _ a _ => r1 W E e env S σ μ H a cls dd hE hS hX hh) nofun
        | false => exact wMix_cons hx nofun fun _ => r2 W E e env S σ μ H cls dd hE hS hX hh
    · cases q
theorem Fits.tr (F : Fits A G Γ X W) {W' : WX} (pn : List (Addr × Obj)) (xe : Value → Shared → Prop) (tk : Takes (X.tr pn xe) W') : Fits A G Γ (X.tr pn xe) W' where
  N := F.N
  nd := F.nd
  sc := F.sc
  fn := F.fn
  calm := F.calm
  tk := tk
  units := F.units
  blt := F.blt
  cst := F.cst
  fns := F.fns
  xcs := fun x i fs h => ⟨(F.xcs x i fs h).gm, (F.xcs x i fs h).rs, (F.xcs x i fs h).no, (F.xcs x i fs h).yes⟩
  sub := F.sub
theorem os_try (F : Fits A G Γ X W) (hst : X.stack = X.env :: X.outer) (hfr : X.env.frame = some X.env.locals) {b : List Stmt} {b' : List Sx} {h : ExceptHandler} {hs : List ExceptHandler} {hds : List Hdl} {p : Pos}
    (hb : ∀ (W' : WX) (pn : List (Addr × Obj)) (xe : Value → Shared → Prop), Takes (X.tr pn xe) W' → PassesOwn (model X.prog X.w) X.A X.env xe → OkSs (X.tr pn xe) A G W' b b') (hh : optAll (cH Γ) (h :: hs) = some hds) : OkS X A G W (.Try b (h :: hs) [] [] p) (.try_ b' hds) := by
  obtain ⟨l, m, r⟩ := hds_ok F hh
  refine PS.imp (ps_try_mix (tb := fun W' => uS X.K A W' (xss G b')) hst hfr (by rw [F.N]; exact F.nd) F.tk hb m) ?_
  rintro D σ H ⟨env, S, μ, hE, hS, q⟩
  refine ⟨env, S, μ, hE, hS, ?_⟩
  have q : ContS X.K A W D μ H (match xss G b' env S with | .er e env' S' => runH hds e env' S' | r => r) := q
  cases e : xss G b' env S with
  | no => rw [e] at q; exact q
  | er x env' S' => rw [e] at q; exact fun cls dd σ' μ' H' n s he rx => r W D x env' S' σ' μ' H' cls dd he s rx (q.trans n)
  | go f env' S' => rw [e] at q; cases f <;> exact q
end
end Mi

/-! Mi, part N: all statements; the rubbish behind a call; defs. -/
namespace Mi
open PySem PySem.Spec PyProof.Rows L2
section
variable {X : Cx} {A : Adr} {G : Gen} {Γ : Gam} {W : WX}

theorem lc_inv {n : Nat} {e : Expr} {m : Ex} (hl : isLc e = true) (h : cE Γ n e = some m) : ∃ k elt tg iter ifs scope pos it t c x, n = k + 1 ∧ e = .ListComp elt [⟨tg, iter, ifs, 0⟩] scope pos ∧ m = .lc it t ((ownOf Γ.N scope).map (·.2)) c x ∧
    blkC Γ.N Γ.sc scope (ownOf Γ.N scope) = true ∧ cI Γ k tg iter = some it ∧ cTg (Γ.blk scope) tg = some t ∧ cC (Γ.blk scope) k ifs = some c ∧ cE (Γ.blk scope) k elt = some x ∧ (t.ixs.all fun i => decide (i ∈ (ownOf Γ.N scope).map (·.2))) = true := by
  cases n with
  | zero => cases h
  | succ k =>
    cases e with
    | ListComp elt gens scope pos =>
      unfold cE at h
      split at h
      all_goals first
        | (rename_i heq; cases heq; done)
        | (cases h; done)
        | skip
      rename_i elt' tg iter ifs scope' pos' heq
      cases heq
      dsimp only at h
      split at h
      · rename_i hb
        split at h
        · rename_i it t c x e1 e2 e3 e4
          split at h
          · rename_i ha
            cases h
            exact ⟨k, elt, tg, iter, ifs, scope, pos, it, t, c, x, rfl, rfl, rfl, hb, e1, e2, e3, e4, ha⟩
          · cases h
        · cases h
      · cases h
    | SetComp elt gens scope pos => unfold cE at h; cases h
    | DictComp a b gens scope pos => unfold cE at h; cases h
    | _ => cases hl
/-- ALL STATEMENTS -/
theorem goodS (n : Nat) : ∀ {X : Cx} {W : WX}, Fits A G Γ X W → PassesOwn (model X.prog X.w) X.A X.env X.xe → X.stack = X.env :: X.outer → X.env.frame = some X.env.locals → (∀ (s : Stmt) (m : Sx), cS Γ n s = some m → OkS X A G W s m) ∧ ∀ (s : List Stmt) (m : List Sx), cSs Γ n s = some m → OkSs X A G W s m := by
  induction n with
  | zero => intro X W F hp hst hfr; exact ⟨fun s m h => (by cases h), fun s m h => (by cases h)⟩
  | succ n ih0 =>
    intro X W F hp hst hfr
    obtain ⟨ih1, ih2⟩ := ih0 F hp hst hfr
    have E : ∀ {e : Expr} {m : Ex}, cE Γ n e = some m → PE X e (uE X.K A W (ev G m)) := fun q => (good_all A G n X Γ W F _ _ q).1.1
    have T : ∀ {e : Expr} {m : Ex}, cE Γ n e = some m → PT X e (uT X.K A W (evT G m)) := fun q => (good_all A G n X Γ W F _ _ q).1.2
    have L : ∀ {e : Expr} {m : Ex}, cE Γ n e = some m → isSlc e = false := fun q => (good_all A G n X Γ W F _ _ q).2.2.2
    constructor
    · intro s m h
      unfold cS at h
      split at h
      · split at h
        · cases h
        · rename_i hl
          rw [Option.map_eq_some_iff] at h
          obtain ⟨m', q, rfl⟩ := h
          exact os_expr (E q) (by simpa using hl)
      · split at h
        · cases h
        · rename_i hl
          split at h
          · rename_i a' i' e' e1 e2 e3
            cases h
            exact os_set F (E e1) (E e2) (E e3) (L e2) (by simpa using hl)
          · cases h
      · split at h
        · rename_i i j es' e1 e2 e3
          split at h
          · rename_i hp
            cases h
            exact os_par F e1 e2 (Good.row (good_all A G n) F e3) hp
          · cases h
        · cases h
      · rename_i t e p hns hns2
        split at h
        · rename_i hc
          split at h
          · rename_i t' e' e1 e2
            cases h
            by_cases hn : isNm t = true
            · cases t with
              | Name x q =>
                by_cases hl : isLc e = true
                · obtain ⟨k, elt, tg, iter, ifs, scope, pos, it, t, c, x', rfl, rfl, rfl, hb, q1, q2, q3, q4, q5⟩ := lc_inv hl e2
                  have hi := Good.iter (n := k) (fun j _ => good_all A G j) F q1
                  exact os_asgLc F e1 hi.1 (by rw [F.N, F.sc]; exact blkOk_by hb) q2 (fun i hi => of_decide_eq_true (List.all_eq_true.mp q5 i hi)) (fun s H C cl fp => Good.tests (n := k) (fun j _ => good_all A G j) (F.blk _ s H C cl fp) q3)
                    (fun s H C cl fp => (good_all A G k _ _ _ (F.blk _ s H C cl fp) _ _ q4).1.1) hi.2
                · exact os_asgN F e1 (E e2) (by simpa using hl)
              | _ => cases hn
            · simp only [Bool.or_eq_true, Bool.and_eq_true, Bool.not_eq_true'] at hc
              rcases hc with hc | hc
              · exact absurd hc hn
              · exact os_asgT F e1 (E e2) hc.1 hc.2
          · cases h
        · cases h
      · split at h
        · rename_i i o' e' e1 e2 e3
          split at h
          · rename_i ho
            cases h
            rw [← bop_ast e2]
            rw [Bool.or_eq_true] at ho
            exact os_aug F e1 (E e3) (ho.imp (fun z => of_decide_eq_true z) (fun z => of_decide_eq_true z))
          · cases h
        · cases h
      · split at h
        · rename_i c' a' b' e1 e2 e3
          cases h
          exact os_if (T e1) (ih2 _ _ e2) (ih2 _ _ e3)
        · cases h
      · split at h
        · rename_i c' b' e1 e2
          cases h
          exact os_while hp (T e1) (ih2 _ _ e2)
        · cases h
      · split at h
        · rename_i t' i' b' e1 e2 e3
          cases h
          have hi := Good.iter (n := n) (fun k _ => good_all A G k) F e2
          exact os_for F hp e1 hi.1 hi.2 (ih2 _ _ e3)
        · cases h
      · rw [Option.map_eq_some_iff] at h
        obtain ⟨m', q, rfl⟩ := h
        exact os_ret (E q)
      · cases h; exact os_retN
      · cases h; exact os_brk
      · cases h; exact os_cnt
      · cases h; exact os_pass
      · split at h
        · rename_i hc
          rw [Bool.and_eq_true] at hc
          split at h
          · rename_i i fs es' e1 e2
            split at h
            · rename_i hl
              cases h
              exact os_raise F hc.2 hc.1 e1 (Good.row (good_all A G n) F e2) (of_decide_eq_true hl)
            · cases h
          · cases h
        · cases h
      · split at h
        · rename_i b' hs' e1 e2
          cases h
          exact os_try F hst hfr (fun W' pn xe tk hpo => (ih0 (F.tr pn xe tk) hpo hst hfr).2 _ _ e1) e2
        · cases h
      · cases h
    · intro s m h
      cases s with
      | nil =>
        have h : some [] = some m := h
        cases h
        exact os_nil
      | cons s ss =>
        have h : (match cS Γ n s, cSs Γ n ss with | some s', some ss' => some (s' :: ss') | _, _ => none) = some m := h
        split at h
        · rename_i s' ss' e1 e2
          cases h
          exact os_cons (ih1 _ _ e1) (ih2 _ _ e2)
        · cases h
end
end Mi

/-! Mi, part O: the rubbish behind a call; the defs of a text. -/
namespace Mi
open PySem PySem.Spec PyProof.Rows L2

/-! ### alike, without numbers of the store -/
mutual
def D.same : D → D → Bool
  | .non, .non => true
  | .bl a, .bl b => decide (a = b)
  | .int a, .int b => decide (a = b)
  | .str a, .str b => decide (a = b)
  | .tup a, .tup b => sames a b
  | .ref a, .ref b => decide (a = b)
  | .fn a, .fn b => decide (a = b)
  | .ty a, .ty b => decide (a = b)
  | _, _ => false
def sames : List D → List D → Bool
  | [], [] => true
  | a :: as, b :: bs => D.same a b && sames as bs
  | _, _ => false
end
mutual
def D.pure : D → Bool
  | .ref _ => false
  | .tup ds => pures ds
  | _ => true
def pures : List D → Bool
  | [] => true
  | d :: ds => D.pure d && pures ds
end
mutual
theorem same_eq : ∀ {a b : D}, D.same a b = true → a = b
  | .non, b, h => by cases b <;> first | rfl | cases h
  | .bl a, b, h => by cases b <;> first | (rw [of_decide_eq_true h]) | cases h
  | .int a, b, h => by cases b <;> first | (rw [of_decide_eq_true h]) | cases h
  | .str a, b, h => by cases b <;> first | (rw [of_decide_eq_true h]) | cases h
  | .ref a, b, h => by cases b <;> first | (rw [of_decide_eq_true h]) | cases h
  | .fn a, b, h => by cases b <;> first | (rw [of_decide_eq_true h]) | cases h
  | .ty a, b, h => by cases b <;> first | (rw [of_decide_eq_true h]) | cases h
  | .tup a, b, h => by
    cases b with
    | tup b => rw [sames_eq (show sames a b = true from h)]
    | _ => cases h
theorem sames_eq : ∀ {a b : List D}, sames a b = true → a = b
  | [], b, h => by cases b <;> first | rfl | cases h
  | a :: as, b, h => by
    cases b with
    | nil => cases h
    | cons b bs =>
      have h : (D.same a b && sames as bs) = true := h
      rw [Bool.and_eq_true] at h
      rw [same_eq h.1, sames_eq h.2]
end
mutual
theorem same_refl : ∀ a : D, D.same a a = true
  | .non => rfl
  | .bl a => decide_eq_true rfl
  | .int a => decide_eq_true rfl
  | .str a => decide_eq_true rfl
  | .ref a => decide_eq_true rfl
  | .fn a => decide_eq_true rfl
  | .ty a => decide_eq_true rfl
  | .tup a => sames_refl a
theorem sames_refl : ∀ a : List D, sames a a = true
  | [] => rfl
  | a :: as => by
    show (D.same a a && sames as as) = true
    rw [same_refl a, sames_refl as]
    rfl
end
def sameF : List (Str × D) → List (Str × D) → Bool
  | [], [] => true
  | (f, a) :: as, (g, b) :: bs => decide (f = g) && (D.same a b && sameF as bs)
  | _, _ => false
def pureF : List (Str × D) → Bool
  | [] => true
  | (_, a) :: as => D.pure a && pureF as
theorem sameF_eq : ∀ {a b : List (Str × D)}, sameF a b = true → a = b
  | [], b, h => by cases b <;> first | rfl | cases h
  | (f, a) :: as, b, h => by
    cases b with
    | nil => cases h
    | cons b bs =>
      obtain ⟨g, b⟩ := b
      have h : (decide (f = g) && (D.same a b && sameF as bs)) = true := h
      rw [Bool.and_eq_true, Bool.and_eq_true] at h
      rw [of_decide_eq_true h.1, same_eq h.2.1, sameF_eq h.2.2]
theorem sameF_refl : ∀ a : List (Str × D), sameF a a = true
  | [] => rfl
  | (f, a) :: as => by
    show (decide (f = f) && (D.same a a && sameF as as)) = true
    rw [decide_eq_true rfl, same_refl, sameF_refl as]
    rfl
def sameK : List (D × D) → List (D × D) → Bool
  | [], [] => true
  | (f, a) :: as, (g, b) :: bs => D.same f g && (D.same a b && sameK as bs)
  | _, _ => false
theorem sameK_eq : ∀ {a b : List (D × D)}, sameK a b = true → a = b
  | [], b, h => by cases b <;> first | rfl | cases h
  | (f, a) :: as, b, h => by
    cases b with
    | nil => cases h
    | cons b bs =>
      obtain ⟨g, b⟩ := b
      have h : (D.same f g && (D.same a b && sameK as bs)) = true := h
      rw [Bool.and_eq_true, Bool.and_eq_true] at h
      rw [same_eq h.1, same_eq h.2.1, sameK_eq h.2.2]
theorem sameK_refl : ∀ a : List (D × D), sameK a a = true
  | [] => rfl
  | (f, a) :: as => by
    show (D.same f f && (D.same a a && sameK as as)) = true
    rw [same_refl, same_refl, sameK_refl as]
    rfl
def Cell.same : Cell → Cell → Bool
  | .dic a, .dic b => sameK a b
  | .lst a, .lst b => sames a b
  | .frz a, .frz b => sames a b
  | .ins c a, .ins d b => decide (c = d) && sameF a b
  | _, _ => false
def Cell.pure : Cell → Bool
  | .lst a => pures a
  | .frz a => pures a
  | .ins _ a => pureF a
  | .dic _ => false
theorem Cell.same_eq : ∀ {a b : Cell}, Cell.same a b = true → a = b
  | .lst a, b, h => by
    cases b with
    | lst b => rw [sames_eq (show sames a b = true from h)]
    | _ => cases h
  | .frz a, b, h => by
    cases b with
    | frz b => rw [sames_eq (show sames a b = true from h)]
    | _ => cases h
  | .ins c a, b, h => by
    cases b with
    | ins d b =>
      have h : (decide (c = d) && sameF a b) = true := h
      rw [Bool.and_eq_true] at h
      rw [of_decide_eq_true h.1, sameF_eq h.2]
    | _ => cases h
  | .dic a, b, h => by
    cases b with
    | dic b => rw [sameK_eq (show sameK a b = true from h)]
    | _ => cases h
theorem Cell.same_refl : ∀ a : Cell, Cell.same a a = true
  | .lst a => sames_refl a
  | .frz a => sames_refl a
  | .ins k a => by show (decide (k = k) && sameF a a) = true; rw [sameF_refl, decide_eq_true rfl]; rfl
  | .dic a => sameK_refl a
mutual
/-- all numbers below n -/
def D.low (n : Nat) : D → Bool
  | .ref r => decide (r < n)
  | .tup ds => lows n ds
  | _ => true
def lows (n : Nat) : List D → Bool
  | [] => true
  | d :: ds => D.low n d && lows n ds
end
def lowF (n : Nat) : List (Str × D) → Bool
  | [] => true
  | (_, a) :: as => D.low n a && lowF n as
def Cell.low (n : Nat) : Cell → Bool
  | .lst a => lows n a
  | .frz a => lows n a
  | .ins _ a => lowF n a
  | .dic _ => false
mutual
theorem low_of_pure {n : Nat} : ∀ {d : D}, D.pure d = true → D.low n d = true
  | .non, _ => rfl
  | .bl _, _ => rfl
  | .int _, _ => rfl
  | .str _, _ => rfl
  | .fn _, _ => rfl
  | .ty _, _ => rfl
  | .tup ds, h => lows_of_pures h
theorem lows_of_pures {n : Nat} : ∀ {ds : List D}, pures ds = true → lows n ds = true
  | [], _ => rfl
  | d :: ds, h => by
    have h : (D.pure d && pures ds) = true := h
    rw [Bool.and_eq_true] at h
    show (D.low n d && lows n ds) = true
    rw [low_of_pure h.1, lows_of_pures h.2]
    rfl
end
theorem lowF_of_pureF {n : Nat} : ∀ {fs : List (Str × D)}, pureF fs = true → lowF n fs = true
  | [], _ => rfl
  | (f, d) :: ds, h => by
    have h : (D.pure d && pureF ds) = true := h
    rw [Bool.and_eq_true] at h
    show (D.low n d && lowF n ds) = true
    rw [low_of_pure h.1, lowF_of_pureF h.2]
    rfl
theorem Cell.low_of_pure {n : Nat} {c : Cell} (h : Cell.pure c = true) : Cell.low n c = true := by
  cases c with
  | lst a => exact lows_of_pures h
  | frz a => exact lows_of_pures h
  | ins k a => exact lowF_of_pureF h
  | dic a => cases h
/-- what stood is as it was, or names only what stood -/
def gcOkN (n : Nat) : Store → Store → Bool
  | [], _ => true
  | c :: S, c' :: S' => (Cell.same c' c || Cell.low n c') && gcOkN n S S'
  | _ :: _, [] => false
def gcOk (S S' : Store) : Bool := gcOkN S.length S S'
/-- what a call leaves behind without names goes -/
def gc (S : Store) : Out D → Out D
  | .ok d S' => if gcOk S S' then
      if D.low S.length d then .ok d (S'.take S.length)
      else match d with
        | .ref n => if decide (S.length ≤ n) then match S'[n]? with
            | some c => if Cell.low S.length c then .ok (.ref S.length) (S'.take S.length ++ [c]) else .ok d S'
            | none => .ok d S'
          else .ok d S'
        | _ => .ok d S'
    else .ok d S'
  | .er e S' => if gcOk S S' && lowF S.length e.fs then .er e (S'.take S.length) else .er e S'
  | .no => .no

section
variable {K : PySem.W.Frag} {A : Adr} {μ μ' μ1 : List Addr} {H H' H1 : Hp}
mutual
theorem RV.free {n : Nat} (hp : ∀ (i : Nat) (a : Addr), i < n → μ'[i]? = some a → μ[i]? = some a) : ∀ {d : D} {v : V}, D.low n d = true → RV K A μ' H' d v → RV K A μ H' d v
  | _, _, _, .non => .non
  | _, _, _, .bl b => .bl b
  | _, _, _, .int i => .int i
  | _, _, _, .str x => .str x
  | _, _, h, .tup q r => .tup q (RVs.free hp h r)
  | _, _, h, .ref e => .ref (hp _ _ (of_decide_eq_true h) e)
  | _, _, _, .fn f => .fn f
  | _, _, _, .ty t => .ty t
theorem RVs.free {n : Nat} (hp : ∀ (i : Nat) (a : Addr), i < n → μ'[i]? = some a → μ[i]? = some a) : ∀ {ds : List D} {vs : List V}, lows n ds = true → RVs K A μ' H' ds vs → RVs K A μ H' ds vs
  | _, _, _, .nil => .nil
  | _, _, h, .cons r q => by
    have h : (D.low n _ && lows n _) = true := h
    rw [Bool.and_eq_true] at h
    exact .cons (RV.free hp h.1 r) (RVs.free hp h.2 q)
end
theorem RF.free {n : Nat} (hp : ∀ (i : Nat) (a : Addr), i < n → μ'[i]? = some a → μ[i]? = some a) : ∀ {fs : List (Str × D)} {gs : List (Str × V)}, lowF n fs = true → RF K A μ' H' fs gs → RF K A μ H' fs gs
  | _, _, _, .nil => .nil
  | _, _, h, .cons r q => by
    have h : (D.low n _ && lowF n _) = true := h
    rw [Bool.and_eq_true] at h
    exact .cons (RV.free hp h.1 r) (RF.free hp h.2 q)
mutual
theorem RV.grow (hp : ∀ (i : Nat) (a : Addr), μ[i]? = some a → μ'[i]? = some a) : ∀ {d : D} {v : V}, RV K A μ H d v → RV K A μ' H d v
  | _, _, .non => .non
  | _, _, .bl b => .bl b
  | _, _, .int i => .int i
  | _, _, .str x => .str x
  | _, _, .tup h r => .tup h (RVs.grow hp r)
  | _, _, .ref h => .ref (hp _ _ h)
  | _, _, .fn f => .fn f
  | _, _, .ty t => .ty t
theorem RVs.grow (hp : ∀ (i : Nat) (a : Addr), μ[i]? = some a → μ'[i]? = some a) : ∀ {ds : List D} {vs : List V}, RVs K A μ H ds vs → RVs K A μ' H ds vs
  | _, _, .nil => .nil
  | _, _, .cons h r => .cons (RV.grow hp h) (RVs.grow hp r)
end
theorem RF.grow (hp : ∀ (i : Nat) (a : Addr), μ[i]? = some a → μ'[i]? = some a) : ∀ {fs : List (Str × D)} {gs : List (Str × V)}, RF K A μ H fs gs → RF K A μ' H fs gs
  | _, _, .nil => .nil
  | _, _, .cons h r => .cons (h.grow hp) (RF.grow hp r)
theorem CR.grow (hp : ∀ (i : Nat) (a : Addr), μ[i]? = some a → μ'[i]? = some a) {c : Cell} {a : Addr} (r : CR K A μ H c a) : CR K A μ' H c a := by
  cases c with
  | lst ds => obtain ⟨vs, e, q⟩ := r; exact ⟨vs, e, q.grow hp⟩
  | frz ds => obtain ⟨vs, e, q⟩ := r; exact ⟨vs, e, q.grow hp⟩
  | dic ds => exact r
  | ins c fs => obtain ⟨dx, gs, e, q⟩ := r; exact ⟨dx, gs, e, q.grow hp⟩
/-! the numbers of d stood already -/
mutual
theorem RV.narrow (hp : ∀ (i : Nat) (a : Addr), μ[i]? = some a → μ'[i]? = some a) : ∀ {d : D} {v v0 : V}, RV K A μ H d v0 → RV K A μ' H' d v → RV K A μ H' d v
  | _, _, _, _, .non => .non
  | _, _, _, _, .bl b => .bl b
  | _, _, _, _, .int i => .int i
  | _, _, _, _, .str x => .str x
  | _, _, _, .tup _ r0, .tup q r => .tup q (RVs.narrow hp r0 r)
  | _, _, _, .ref e0, .ref e => .ref (by
      have z := hp _ _ e0
      rw [e] at z
      cases z
      exact e0)
  | _, _, _, _, .fn f => .fn f
  | _, _, _, _, .ty t => .ty t
theorem RVs.narrow (hp : ∀ (i : Nat) (a : Addr), μ[i]? = some a → μ'[i]? = some a) : ∀ {ds : List D} {vs v0 : List V}, RVs K A μ H ds v0 → RVs K A μ' H' ds vs → RVs K A μ H' ds vs
  | _, _, _, _, .nil => .nil
  | _, _, _, .cons r0 q0, .cons r q => .cons (RV.narrow hp r0 r) (RVs.narrow hp q0 q)
end
theorem RF.narrow (hp : ∀ (i : Nat) (a : Addr), μ[i]? = some a → μ'[i]? = some a) : ∀ {fs : List (Str × D)} {gs g0 : List (Str × V)}, RF K A μ H fs g0 → RF K A μ' H' fs gs → RF K A μ H' fs gs
  | _, _, _, _, .nil => .nil
  | _, _, _, .cons r0 q0, .cons r q => .cons (RV.narrow hp r0 r) (RF.narrow hp q0 q)
theorem CR.free {n : Nat} (hp : ∀ (i : Nat) (a : Addr), i < n → μ'[i]? = some a → μ[i]? = some a) {c : Cell} {a : Addr} (h : Cell.low n c = true) (r : CR K A μ' H' c a) : CR K A μ H' c a := by
  cases c with
  | lst ds => obtain ⟨vs, e, q⟩ := r; exact ⟨vs, e, q.free hp h⟩
  | frz ds => obtain ⟨vs, e, q⟩ := r; exact ⟨vs, e, q.free hp h⟩
  | dic ds => exact r
  | ins c fs => obtain ⟨dx, gs, e, q⟩ := r; exact ⟨dx, gs, e, q.free hp h⟩
theorem CR.narrow (hp : ∀ (i : Nat) (a : Addr), μ[i]? = some a → μ'[i]? = some a) {c : Cell} {a a0 : Addr} (r0 : CR K A μ H c a0) (r : CR K A μ' H' c a) : CR K A μ H' c a := by
  cases c with
  | lst ds => obtain ⟨vs, e, q⟩ := r; obtain ⟨_, _, q0⟩ := r0; exact ⟨vs, e, q0.narrow hp q⟩
  | frz ds => obtain ⟨vs, e, q⟩ := r; obtain ⟨_, _, q0⟩ := r0; exact ⟨vs, e, q0.narrow hp q⟩
  | dic ds => exact r
  | ins c fs => obtain ⟨dx, gs, e, q⟩ := r; obtain ⟨_, _, _, q0⟩ := r0; exact ⟨dx, gs, e, q0.narrow hp q⟩
theorem gcOkN_at {n : Nat} : ∀ {S S' : Store} {i : Nat} {c : Cell}, gcOkN n S S' = true → S[i]? = some c → ∃ c', S'[i]? = some c' ∧ (c' = c ∨ Cell.low n c' = true)
  | [], _, _, _, _, h => by simp at h
  | c :: S, [], _, _, h, _ => by cases h
  | c :: S, c' :: S', 0, d, h, e => by
    have h : ((Cell.same c' c || Cell.low n c') && gcOkN n S S') = true := h
    rw [Bool.and_eq_true, Bool.or_eq_true] at h
    simp at e
    subst e
    exact ⟨c', rfl, h.1.imp Cell.same_eq id⟩
  | c :: S, c' :: S', i + 1, d, h, e => by
    have h : ((Cell.same c' c || Cell.low n c') && gcOkN n S S') = true := h
    rw [Bool.and_eq_true] at h
    exact gcOkN_at (i := i) h.2 (by simpa using e)
theorem gcOk_at {S S' : Store} {i : Nat} {c : Cell} (h : gcOk S S' = true) (e : S[i]? = some c) : ∃ c', S'[i]? = some c' ∧ (c' = c ∨ Cell.low S.length c' = true) := gcOkN_at h e
theorem gcOkN_len {n : Nat} : ∀ {S S' : Store}, gcOkN n S S' = true → S.length ≤ S'.length
  | [], _, _ => Nat.zero_le _
  | c :: S, [], h => by cases h
  | c :: S, c' :: S', h => by
    have h : ((Cell.same c' c || Cell.low n c') && gcOkN n S S') = true := h
    rw [Bool.and_eq_true] at h
    exact Nat.succ_le_succ (gcOkN_len h.2)
theorem gcOk_len {S S' : Store} (h : gcOk S S' = true) : S.length ≤ S'.length := gcOkN_len h
theorem Nx.back (n : Nx μ H μ' H') : ∀ (i : Nat) (a : Addr), i < μ.length → μ'[i]? = some a → μ[i]? = some a := fun i a hi h => by
  obtain ⟨l, e, _⟩ := n.pre
  rw [e, List.getElem?_append_left hi] at h
  exact h
theorem Nx.drop (n : Nx μ H μ' H') : Nx μ H μ H' := ⟨⟨[], by simp, by simp⟩, n.tup, n.frz, n.out, n.stay⟩
theorem Nx.pre' (n : Nx μ H μ' H') : ∀ (i : Nat) (a : Addr), μ[i]? = some a → μ'[i]? = some a := fun _ _ h => n.at h
theorem Nx.one (n : Nx μ H μ' H') {k : Nat} {a : Addr} (hk : μ.length ≤ k) (ha : μ'[k]? = some a) : Nx μ H (μ ++ [a]) H' := by
  refine ⟨⟨[a], rfl, fun b hb => ?_⟩, n.tup, n.frz, n.out, n.stay⟩
  rw [List.mem_singleton.mp hb]
  obtain ⟨l, e, hl⟩ := n.pre
  rw [e, List.getElem?_append_right hk] at ha
  exact hl a (List.mem_of_getElem? ha)
theorem Sto.drop {S S' : Store} (s : Sto K A μ S H) (s' : Sto K A μ' S' H') (n : Nx μ H μ' H') (g : gcOk S S' = true) : Sto K A μ (S'.take S.length) H' := by
  have hl := gcOk_len g
  have tk : ∀ {i : Nat} {c : Cell}, (S'.take S.length)[i]? = some c → i < S.length ∧ S'[i]? = some c := fun {i c} h => by
    rw [List.getElem?_take] at h
    split at h
    · exact ⟨by assumption, h⟩
    · cases h
  refine ⟨by rw [List.length_take, s.len]; omega, fun i j a c d h1 h2 h3 h4 f1 f2 => ?_, fun i c a h1 h2 => ?_⟩
  · exact s'.nd i j a c d (n.at h1) (n.at h2) (tk h3).2 (tk h4).2 f1 f2
  · obtain ⟨hi, hc⟩ := tk h1
    have r := s'.cell i c a hc (n.at h2)
    obtain ⟨c', e1, e2⟩ := gcOk_at g (List.getElem?_eq_getElem hi)
    rw [hc] at e1
    cases e1
    rcases e2 with e2 | e2
    · have r0 := s.cell i c a (by rw [e2]; exact List.getElem?_eq_getElem hi) h2
      exact r0.narrow n.pre' r
    · exact r.free (n := S.length) (fun i a hi h => n.back i a (by rw [s.len]; exact hi) h) e2
theorem Sto.one {S S' : Store} {k : Nat} {a : Addr} {c : Cell} (s : Sto K A μ S H) (s' : Sto K A μ' S' H') (n : Nx μ H μ' H') (g : gcOk S S' = true) (hk : S.length ≤ k) (hc : S'[k]? = some c) (ha : μ'[k]? = some a) (hp : Cell.low S.length c = true) :
    Sto K A (μ ++ [a]) (S'.take S.length ++ [c]) H' := by
  have sd := s.drop s' n g
  have hl := gcOk_len g
  have hlen : (S'.take S.length).length = S.length := by rw [List.length_take]; omega
  have look : ∀ {i : Nat} {d : Cell} {b : Addr}, (S'.take S.length ++ [c])[i]? = some d → (μ ++ [a])[i]? = some b → (i < S.length ∧ (S'.take S.length)[i]? = some d ∧ μ[i]? = some b ∧ S'[i]? = some d ∧ μ'[i]? = some b) ∨ (i = S.length ∧ d = c ∧ b = a) := fun {i d b} h1 h2 => by
    by_cases hi : i < S.length
    · rw [List.getElem?_append_left (by rw [hlen]; exact hi)] at h1
      rw [List.getElem?_append_left (by rw [s.len]; exact hi)] at h2
      have h3 := h1
      rw [List.getElem?_take, if_pos hi] at h3
      exact .inl ⟨hi, h1, h2, h3, n.at h2⟩
    · have hi2 : i = S.length := by
        have := (List.getElem?_eq_some_iff.mp h1).1
        rw [List.length_append, hlen, List.length_singleton] at this
        omega
      subst hi2
      rw [List.getElem?_append_right (by rw [hlen]; exact Nat.le_refl _), hlen, Nat.sub_self] at h1
      rw [List.getElem?_append_right (by rw [s.len]; exact Nat.le_refl _), s.len, Nat.sub_self] at h2
      exact .inr ⟨rfl, (Option.some.inj h1).symm, (Option.some.inj h2).symm⟩
  refine ⟨by rw [List.length_append, List.length_append, hlen, s.len]; rfl, fun i j b d1 d2 h1 h2 h3 h4 f1 f2 => ?_, fun i d b h1 h2 => ?_⟩
  · rcases look h3 h1 with ⟨a1, a2, a3, a4, a5⟩ | ⟨a1, a2, a3⟩
    · rcases look h4 h2 with ⟨b1, b2, b3, b4, b5⟩ | ⟨b1, b2, b3⟩
      · exact s'.nd i j b d1 d2 a5 b5 a4 b4 f1 f2
      · rw [b3] at a5
        rw [b2] at f2
        have := s'.nd i k a d1 c a5 ha a4 hc f1 f2
        omega
    · rcases look h4 h2 with ⟨b1, b2, b3, b4, b5⟩ | ⟨b1, b2, b3⟩
      · rw [a3] at b5
        rw [a2] at f1
        have := s'.nd k j a c d2 ha b5 hc b4 f1 f2
        omega
      · rw [a1, b1]
  · rcases look h1 h2 with ⟨a1, a2, a3, a4, a5⟩ | ⟨a1, a2, a3⟩
    · have r := sd.cell i d b a2 a3
      exact r.grow fun i x h => by
        rw [List.getElem?_append_left (List.getElem?_eq_some_iff.mp h).1]
        exact h
    · rw [a2, a3]
      refine ((s'.cell k c a hc ha).free (n := S.length) (fun i a hi h => n.back i a (by rw [s.len]; exact hi) h) hp).grow fun i x h => ?_
      rw [List.getElem?_append_left (List.getElem?_eq_some_iff.mp h).1]
      exact h

/-- what is wanted behind the call with its rubbish gone is wanted of the call -/
theorem Cont.gc {W : WX} {σ : L2.St} {S : Store} {o : Out D} {Q : VK} (s : Sto K A μ S H) (h : Cont K A W (RV K A) σ μ H (Mi.gc S o) Q) : Cont K A W (RV K A) σ μ H o Q := by
  cases o with
  | no => exact h
  | er e S' =>
    unfold Mi.gc at h
    dsimp only at h
    by_cases g : (gcOk S S' && lowF S.length e.fs) = true
    · rw [if_pos g] at h
      rw [Bool.and_eq_true] at g
      intro cls dd μ' H' n s' r
      refine h cls dd μ H' n.drop (s.drop s' n g.1) ⟨r.cls, fun hf => ?_⟩
      obtain ⟨d, gs, e1, e2, e3⟩ := r.fld hf
      refine ⟨d, gs, e1, e2, fun f x hx => ?_⟩
      obtain ⟨v, h1, h2⟩ := e3 f x hx
      refine ⟨v, h1, h2.free (n := S.length) (fun i a hi h => n.back i a (by rw [s.len]; exact hi) h) ?_⟩
      have all : ∀ (fs : List (Str × D)), lowF S.length fs = true → fs.lookup f = some x → D.low S.length x = true := by
        intro fs
        induction fs with
        | nil => intro _ h; cases h
        | cons p fs ih =>
          obtain ⟨g', y⟩ := p
          intro hp hl
          have hp : (D.low S.length y && lowF S.length fs) = true := hp
          rw [Bool.and_eq_true] at hp
          rw [List.lookup_cons] at hl
          split at hl
          · cases hl; exact hp.1
          · exact ih hp.2 hl
      exact all _ g.2 hx
    · rw [if_neg g] at h
      exact h
  | ok d S' =>
    unfold Mi.gc at h
    dsimp only at h
    by_cases g : gcOk S S' = true
    · rw [if_pos g] at h
      by_cases hp : D.low S.length d = true
      · rw [if_pos hp] at h
        intro v μ' H' n s' r
        exact h v μ H' n.drop (s.drop s' n g) (r.free (n := S.length) (fun i a hi h => n.back i a (by rw [s.len]; exact hi) h) hp)
      · rw [if_neg hp] at h
        cases d with
        | ref k =>
          simp only at h
          by_cases hk : S.length ≤ k
          · rw [decide_eq_true hk] at h
            simp only [if_true] at h
            cases e : S'[k]? with
            | none => rw [e] at h; exact h
            | some c =>
              rw [e] at h
              simp only at h
              by_cases hc : Cell.low S.length c = true
              · rw [if_pos hc] at h
                intro v μ' H' n s' r
                cases r with
                | @ref _ a ha =>
                  refine h (.ref a) (μ ++ [a]) H' (n.one (by rw [s.len]; exact hk) ha) (s.one s' n g hk e ha hc) (.ref ?_)
                  rw [← s.len, List.getElem?_append_right (Nat.le_refl _), Nat.sub_self]
                  rfl
              · rw [if_neg hc] at h
                exact h
          · rw [decide_eq_false hk] at h
            exact h
        | _ => exact h
    · rw [if_neg g] at h
      exact h
end
end Mi

/-! Mi, part P: a text's defs, level by level; the end. -/
namespace Mi
open PySem PySem.Spec PyProof.Rows L2

structure FnD where
  nm : Str
  qual : Str
  st : Stmt
  ps : List Str
  N : List Str
  body : List Sx
/-- an own error class: its fields, its __init__ -/
structure XcD where
  nm : Str
  fs : List Str
  qual : Str
  st : Stmt
structure Prg where
  fs : List FnD
  glob : List (Str × GV)
  blts : List Str
  L : Nat
  xs : List XcD
  sub : List (List Bool)
def Prg.gam (p : Prg) (f : FnD) : Gam := ⟨f.N, defScope f.st, fun _ => true, p.glob, p.blts, p.sub⟩
def env0 (f : FnD) (ds : List D) : Env := ds.map some ++ List.replicate (f.N.length - ds.length) none
def endOf : SR → Out D
  | .go .nx _ S' => .ok .non S'
  | .go (.rt d) _ S' => .ok d S'
  | .er e _ S' => .er e S'
  | _ => .no
def callN (p : Prg) : Nat → Nat → List D → M D
  | 0, _, _ => M.fail
  | k + 1, i, ds => fun S => match p.fs[i]? with
    | some f => if ds.length = f.ps.length then gc S (endOf (xss ⟨callN p k, p.L⟩ f.body (env0 f ds) S)) else .no
    | none => .no

section
variable {P : Program} {w : World} {K : PySem.W.Frag} {mg : Str → Option Value} {base : Heap} {A : Adr} {p : Prg}
/-- what the top has left of a text -/
structure Facts (K : PySem.W.Frag) (mg : Str → Option Value) (A : Adr) (p : Prg) : Prop where
  fn : ∀ (i : Nat) (f : FnD), p.fs[i]? = some f → ∃ fd, Fun K f.nm f.qual f.st (A.fa i) fd ∧ Binds K fd f.ps []
  ok : ∀ (i : Nat) (f : FnD), p.fs[i]? = some f → (∃ n, cSs (p.gam f) n (defBody f.st) = some f.body) ∧ FnScope f.N f.ps (defScope f.st)
  nm : ∀ (x : Str) (i np : Nat), p.glob.lookup x = some (.fn i np) → ∃ f, p.fs[i]? = some f ∧ f.ps.length = np ∧ mg x = some (.ref (A.fa i))
  cst : ∀ (x : Str) (d : D), p.glob.lookup x = some (.cst d) → ∃ u v, mg x = some u ∧ RelV v u ∧ ∀ μ H, RV K A μ H d v
  blt : ∀ x, x ∈ p.blts → mg x = none
  xc : ∀ (x : Str) (i : Nat) (fs : List Str), p.glob.lookup x = some (.xc i fs) → mg x = some (.ref (A.xa i)) ∧ PySem.W.subIn K (.ref (A.xa i)) (.type "BaseException") = some true ∧ PySem.W.typeIn K (.ref (A.xa i)) = some (.type "type") ∧
    (fs = [] → PySem.W.excIn K (A.xa i) He.veBase "ValueError.__new__" = true ∧ PySem.W.keepIn K (.ref (A.xa i)) = true) ∧
    (fs ≠ [] → OexC K (A.xa i) ∧ XfC K (A.xa i) ∧ (∀ f ∈ fs, PySem.W.findIn K (.ref (A.xa i)) f = some none) ∧ (fs.length = 1 ∨ fs.length = 2 ∧ fs.Nodup) ∧
      ∃ fI fd ps, PySem.W.findIn K (.ref (A.xa i)) "__init__" = some (some (.ref fI)) ∧ PySem.W.typeIn K (.ref fI) = some (.type "function") ∧ Binds K fd ps [] ∧ ∀ (P : Program) (w : World) (base : Heap), FnOk P w K mg base (L2.CX P w) 1 fI fd ps (spIni (A.xa i) fs))
  sub : ∀ (c : Nat) (ms : List Bool), p.sub[c]? = some ms → ∀ (x : Nat) (b : Bool), ms[x]? = some b → PySem.W.exmOne K (.ref (A.xa x)) (.ref (A.xa c)) = some b

theorem er_start {N ps : List Str} {ds : List D} {vs : List V} {μ : List Addr} {H : Hp} (r : RVs K A μ H ds vs) : ER K A μ H (ds.map some ++ List.replicate (N.length - ds.length) none) (L2.start N vs) := by
  unfold L2.start
  have e := r.length
  refine ⟨by rw [List.length_append, List.length_append, List.length_map, List.length_map, List.length_replicate, List.length_replicate, e], fun i d h => ?_⟩
  by_cases hi : i < ds.length
  · rw [List.getElem?_append_left (by rw [List.length_map]; exact hi), List.getElem?_map, Option.map_eq_some_iff] at h
    obtain ⟨d', h1, h2⟩ := h
    cases h2
    obtain ⟨v, h3, h4⟩ := r.get h1
    refine ⟨v, ?_, h4⟩
    rw [List.getElem?_append_left (by rw [List.length_map, ← e]; exact hi), List.getElem?_map, h3]
    rfl
  · rw [List.getElem?_append_right (by rw [List.length_map]; omega), List.getElem?_replicate] at h
    split at h <;> cases h
/-- THE LEVELS: each def keeps the evaluator's word, as deep as calls go -/
theorem levels (F : Facts K mg A p) : ∀ (k i : Nat) (f : FnD), p.fs[i]? = some f → ∃ fd, Fun K f.nm f.qual f.st (A.fa i) fd ∧ Binds K fd f.ps [] ∧ FnOk P w K mg base (L2.CX P w) (k + 2) (A.fa i) fd f.ps (uSp K A f.ps.length (callN p k i))
  | 0, i, f, hf => by
    obtain ⟨fd, h1, h2⟩ := F.fn i f hf
    refine ⟨fd, h1, h2, fun vs H Q E h => ?_, fun A' outer s H args us vs Q E hr he hb hv h => ?_⟩
    · obtain ⟨ds, S, μ, hl, r, s, h⟩ := h
      exact False.elim h
    · obtain ⟨ds, S, μ, hl, r, s, h⟩ := h
      exact False.elim h
  | k + 1, i, f, hf => by
    obtain ⟨fd, h1, h2⟩ := F.fn i f hf
    obtain ⟨⟨n, hc⟩, hS⟩ := F.ok i f hf
    refine ⟨fd, h1, h2, h1.okX hS (fun vs H Q E h => ?_) fun cdv A' outer s H vs Q E hr h => ?_⟩
    · obtain ⟨ds, S, μ, hl, r, s, h⟩ := h
      rw [← r.length, hl]
    · obtain ⟨ds, S, μ, hl, r, s', h⟩ := h
      have fits : Fits A ⟨callN p k, p.L⟩ (p.gam f) (cxOf (L2.CX P w) P w K mg base f.N f.qual (defScope f.st) (A.fa i) cdv A' outer s H E) (fun cls d _ H => E cls d H) :=
        { N := rfl, nd := hS.nd, sc := rfl, fn := fun _ _ => rfl, calm := rfl, tk := takes_of rfl rfl rfl rfl
          units := by
            have := hr.un
            show (A'.deeper _).units + 65 < cLine
            omega
          blt := F.blt
          cst := F.cst
          fns := fun x j np hx => by
            obtain ⟨g, g1, g2, g3⟩ := F.nm x j np hx
            obtain ⟨fd', _, b', ok'⟩ := levels F k j g g1
            obtain ⟨_, fun', _⟩ := F.fn j g g1
            refine ⟨k + 2, fd', g.ps, g3, fun'.kp, hr, b', g2, ?_⟩
            rw [← g2]
            exact ok'
          xcs := fun x j fs hx => by
            obtain ⟨q1, q2, q3, q4, q5⟩ := F.xc x j fs hx
            refine ⟨q1, raises_own q2 q3, q4, fun ne => ?_⟩
            obtain ⟨r1, r2, r3, r4, fI, fd', ps, r5, r6, r7, r8⟩ := q5 ne
            exact ⟨r1, r2, r3, r4, fI, fd', ps, r5, r6, r7, hr.mono (by omega), r8 P w base⟩
          sub := F.sub }
      refine ⟨uS K A (fun cls d _ H => E cls d H) (xss ⟨callN p k, p.L⟩ f.body), (goodS n fits (passes_of rfl) rfl rfl).2 _ _ hc, env0 f ds, S, μ, er_start (ps := f.ps) r, s', ?_⟩
      have h : Cont K A (fun cls dd _ H' => E cls dd H') (RV K A) [] μ H (match p.fs[i]? with | some f => if ds.length = f.ps.length then gc S (endOf (xss ⟨callN p k, p.L⟩ f.body (env0 f ds) S)) else .no | none => .no) Q := h
      rw [hf] at h
      dsimp only at h
      rw [if_pos hl] at h
      have h := Cont.gc s' h
      cases e : xss ⟨callN p k, p.L⟩ f.body (env0 f ds) S with
      | no => rw [e] at h; exact h
      | er x env' S' => rw [e] at h; exact fun cls dd σ' μ' H' n s _ r => h cls dd μ' H' n s r
      | go fl env' S' =>
        rw [e] at h
        cases fl with
        | nx => exact fun σ' μ' H' n s _ => h .non μ' H' n s .non
        | rt d => exact fun v μ' H' n s r => h v μ' H' n s r
        | bk => exact h.elim
        | ct => exact h.elim

/-! ### the end -/
/-- the law's promise -/
def spLaw (K : PySem.W.Frag) : Sp := fun vs H Q _ => ∃ (a : Addr) (ns : List Int), vs = [.ref a] ∧ FrzL K H a (ns.map V.int) ∧ ns.length ≤ 63 ∧ ∀ H', Q (.bl true) H'
theorem frz_of {H : Hp} {a : Addr} {xs : List V} (hO : Only H) (h : SqL K H a xs) : FrzL K H a xs := by
  rcases h with (h | ⟨o, h⟩) | h
  · rcases hO a with z | ⟨o, ys, z⟩
    · rw [h] at z; cases z
    · rw [h] at z; cases z
  · exact .inl ⟨o, h⟩
  · exact .inr h
theorem rvs_ints {μ : List Addr} {H : Hp} : ∀ ns : List Int, RVs K A μ H (ns.map D.int) (ns.map V.int)
  | [] => .nil
  | n :: ns => .cons (.int n) (rvs_ints ns)
theorem law_of (F : Facts K mg A p) {k i : Nat} {f : FnD} (hf : p.fs[i]? = some f) (hps : f.ps = (["script"] : List Str)) (hlaw : ∀ ns : List Int, ns.length ≤ 63 → ∃ S', callN p k i [.ref 0] [.frz (ns.map D.int)] = .ok (.bl true) S') :
    ∃ fd, Fun K f.nm f.qual f.st (A.fa i) fd ∧ Binds K fd (["script"] : List Str) [] ∧ FnOk P w K mg base (L2.CX P w) (k + 2) (A.fa i) fd ["script"] (spLaw K) := by
  obtain ⟨fd, h0, h1, h2⟩ := levels (P := P) (w := w) (base := base) F k i f hf
  rw [hps] at h1 h2
  refine ⟨fd, h0, h1, h2.imp fun vs H Q E h => ?_⟩
  obtain ⟨a, ns, rfl, hz, hl, q⟩ := h
  obtain ⟨S', e⟩ := hlaw ns hl
  refine ⟨[.ref 0], [.frz (ns.map D.int)], [a], rfl, .cons (.ref rfl) .nil, ⟨rfl, fun i j b c d h1 h2 h3 h4 f1 f2 => ?_, fun i c b h1 h2 => ?_⟩, ?_⟩
  · match i, h3 with
    | 0, h3 => cases h3; cases f1
    | i + 1, h3 => cases h3
  · match i, h1, h2 with
    | 0, h1, h2 =>
      cases h1
      cases h2
      exact ⟨_, hz, rvs_ints ns⟩
    | i + 1, h1, h2 => cases h1
  · rw [e]
    intro v μ' H' n s r
    cases r
    exact q H'
theorem fun_one {x q : Str} {st : Stmt} {a : Addr} {fd fd' : FuncData} (h : Fun K x q st a fd) (h' : Fun K x q st a fd') : fd = fd' := by
  obtain ⟨_, _, _, _, _, _, _, _, _, _, l, _⟩ := h.ex
  obtain ⟨_, _, _, _, _, _, _, _, _, _, l', _⟩ := h'.ex
  rw [l] at l'
  cases l'
  rfl
theorem cx_none {H : Hp} {s : Shared} {e : Value} {s' : Shared} (h : L2.CX P w [] H s (fun _ _ _ => False) e s') : False := by
  obtain ⟨_, _, _, _, _, _, _, _, _, _, _, _, z⟩ := h
  exact z
end
end Mi

/-! Mi, part Q: what the top has written, by one look. -/
namespace Mi
open PySem PySem.Spec PyProof.Rows L2

def hFn (f : FnD) : He.FnD := ⟨(f.nm, none), f.nm, f.qual, defArgs f.st, defBody f.st, defScope f.st⟩
def hXn (x : XcD) : List He.FnD := if x.fs.isEmpty then [] else [⟨(x.nm, some "__init__"), "__init__", x.qual, defArgs x.st, defBody x.st, defScope x.st⟩]
def hFns (p : Prg) : List He.FnD := p.fs.map hFn ++ p.xs.flatMap hXn
def hFa (p : Prg) : List He.Fa := p.fs.flatMap (fun f => [.glo f.nm, .keep f.nm]) ++ p.blts.map .free ++ p.xs.map (fun x => .glo x.nm)
/-- an own error class, looked at -/
def xcB1 (K : PySem.W.Frag) (x : XcD) : Bool :=
  decide (PySem.W.subIn K (.ref (He.ga K x.nm)) (.type "BaseException") = some true) && (decide (PySem.W.typeIn K (.ref (He.ga K x.nm)) = some (.type "type")) && (if x.fs.isEmpty then PySem.W.excIn K (He.ga K x.nm) He.veBase "ValueError.__new__" && PySem.W.keepIn K (.ref (He.ga K x.nm))
    else oexB K (He.ga K x.nm) && (xfB K (He.ga K x.nm) && ((x.fs.all fun f => decide (PySem.W.findIn K (.ref (He.ga K x.nm)) f = some none)) && (decide (PySem.W.findIn K (.ref (He.ga K x.nm)) "__init__" = some (some (.ref (He.ma K (He.ga K x.nm) "__init__")))) &&
      (decide (PySem.W.typeIn K (.ref (He.ma K (He.ga K x.nm) "__init__")) = some (.type "function")) && PySem.W.keepIn K (.ref (He.ma K (He.ga K x.nm) "__init__"))))))))
def subB (K : PySem.W.Frag) (p : Prg) : Bool := (List.range p.sub.length).all fun c => match p.sub[c]?, p.xs[c]? with
  | some ms, some xc => (List.range ms.length).all fun x => match ms[x]?, p.xs[x]? with
    | some b, some xx => decide (PySem.W.exmOne K (.ref (He.ga K xx.nm)) (.ref (He.ga K xc.nm)) = some b)
    | _, _ => false
  | _, _ => false
def xcB (K : PySem.W.Frag) (p : Prg) : Bool := p.xs.all (xcB1 K) && subB K p
/-- what is shown of an own error class without the top -/
inductive XcOk : XcD → Prop where
  | none (nm qual : Str) (st : Stmt) : XcOk ⟨nm, [], qual, st⟩
  | one {nm f qual : Str} {st : Stmt} {p1 p2 p3 p4 : Pos} (hS : FnScope ["self", f] ["self", f] (defScope st)) (hb : defBody st = [.Assign [.Attribute (.Name "self" p1) f p2] (.Name f p3) p4]) (hs : (defScope st).names.lookup ("self" : Str) = some NameKind.local) (hl : (defScope st).names.lookup f = some NameKind.local)
      (h1 : (f == ("__debug__" : Str)) = false) (h2 : (f == ("__classdict__" : Str)) = false)
      (b : ∀ (kV doc pm : Value) (an : Option Addr) (cdv ct : Value) (us : List Value), us.length = 2 → bindArgs (PySem.W.fnOf "__init__" qual (defArgs st) (defBody st) (defScope st) .none kV doc pm an cdv ct) ⟨us, []⟩ = pure ((["self", f] : List Str).zip us)) : XcOk ⟨nm, [f], qual, st⟩
  | two {nm f g qual : Str} {st : Stmt} {p1 p2 p3 p4 q1 q2 q3 q4 : Pos} (hS : FnScope ["self", f, g] ["self", f, g] (defScope st))
      (hb : defBody st = [.Assign [.Attribute (.Name "self" p1) f p2] (.Name f p3) p4, .Assign [.Attribute (.Name "self" q1) g q2] (.Name g q3) q4])
      (hs : (defScope st).names.lookup ("self" : Str) = some NameKind.local) (hl : (defScope st).names.lookup f = some NameKind.local) (hl' : (defScope st).names.lookup g = some NameKind.local)
      (h1 : (f == ("__debug__" : Str)) = false) (h2 : (f == ("__classdict__" : Str)) = false) (h3 : (g == ("__debug__" : Str)) = false) (h4 : (g == ("__classdict__" : Str)) = false) (nd : f ≠ g)
      (b : ∀ (kV doc pm : Value) (an : Option Addr) (cdv ct : Value) (us : List Value), us.length = 3 → bindArgs (PySem.W.fnOf "__init__" qual (defArgs st) (defBody st) (defScope st) .none kV doc pm an cdv ct) ⟨us, []⟩ = pure ((["self", f, g] : List Str).zip us)) : XcOk ⟨nm, [f, g], qual, st⟩
mutual
/-- a constant of the written part -/
def cV (K : PySem.W.Frag) : D → Value → Option V
  | .non, .none => some .non
  | .bl b, .bool c => if b = c then some (.bl b) else none
  | .int i, .int j _ => if i = j then some (.int i) else none
  | .str x, .str y _ => if x = y then some (.str x) else none
  | .tup ds, .ref a => match K.lookup a with
    | some ⟨cls, _, .seq its _, _⟩ => if cls = .type "tuple" ∧ its.size ≤ sizeLine then (cVs K ds its.toList).map fun _ => .ref a else none
    | _ => none
  | _, _ => none
def cVs (K : PySem.W.Frag) : List D → List Value → Option (List V)
  | [], [] => some []
  | d :: ds, u :: us => match cV K d u, cVs K ds us with
    | some v, some vs => some (v :: vs)
    | _, _ => none
  | _, _ => none
end
mutual
theorem cV_ok {K : PySem.W.Frag} {A : Adr} {μ : List Addr} {H : Hp} : ∀ {d : D} {u : Value} {v : V}, cV K d u = some v → RelV v u ∧ RV K A μ H d v
  | .non, u, v, h => by
    cases u <;> simp [cV] at h
    subst h
    exact ⟨rfl, .non⟩
  | .bl b, u, v, h => by
    cases u <;> simp [cV] at h
    obtain ⟨rfl, rfl⟩ := h
    exact ⟨rfl, .bl _⟩
  | .int b, u, v, h => by
    cases u <;> simp [cV] at h
    obtain ⟨rfl, rfl⟩ := h
    exact ⟨⟨_, rfl⟩, .int _⟩
  | .str b, u, v, h => by
    cases u <;> simp [cV] at h
    obtain ⟨rfl, rfl⟩ := h
    exact ⟨⟨_, rfl⟩, .str _⟩
  | .tup ds, u, v, h => by
    cases u with
    | ref a =>
      unfold cV at h
      cases q : K.lookup a with
      | none => rw [q] at h; cases h
      | some o =>
        rw [q] at h
        obtain ⟨cls, dc, dt, sl⟩ := o
        cases dt with
        | seq its n =>
          dsimp only at h
          split at h
          · rename_i h0
            rw [Option.map_eq_some_iff] at h
            obtain ⟨vs, e, rfl⟩ := h
            obtain ⟨h1, h2⟩ := cVs_ok (A := A) (μ := μ) (H := H) e
            exact ⟨rfl, .tup (.inr ⟨_, its, n, q, h0.1, rfl, h0.2, h1⟩) h2⟩
          · cases h
        | _ => cases h
    | _ => unfold cV at h; cases h
  | .ref _, u, v, h => by cases u <;> simp [cV] at h
  | .fn _, u, v, h => by cases u <;> simp [cV] at h
  | .ty _, u, v, h => by cases u <;> simp [cV] at h
theorem cVs_ok {K : PySem.W.Frag} {A : Adr} {μ : List Addr} {H : Hp} : ∀ {ds : List D} {us : List Value} {vs : List V}, cVs K ds us = some vs → Vals vs us ∧ RVs K A μ H ds vs
  | [], us, vs, h => by
    cases us with
    | nil => simp [cVs] at h; subst h; exact ⟨.nil, .nil⟩
    | cons u us => simp [cVs] at h
  | d :: ds, us, vs, h => by
    cases us with
    | nil => simp [cVs] at h
    | cons u us =>
      unfold cVs at h
      cases q : cV K d u with
      | none => rw [q] at h; cases h
      | some v0 =>
        cases q2 : cVs K ds us with
        | none => rw [q, q2] at h; cases h
        | some vs0 =>
          rw [q, q2] at h
          cases h
          obtain ⟨h1, h2⟩ := cV_ok (A := A) (μ := μ) (H := H) q
          obtain ⟨h3, h4⟩ := cVs_ok (A := A) (μ := μ) (H := H) q2
          exact ⟨.cons h1 h3, .cons h2 h4⟩
end
def globB (K : PySem.W.Frag) (p : Prg) : Bool := p.glob.all fun (x, g) => match g with
  | .fn i np => match p.fs[i]? with
    | some f => decide (f.nm = x) && decide (f.ps.length = np)
    | none => false
  | .xc i fs => match p.xs[i]? with
    | some c => decide (c.nm = x) && decide (c.fs = fs)
    | none => false
  | .cst d => match PySem.W.nsIn K mainGlobals x with
    | some (some u) => (cV K d u).isSome
    | _ => false
def adrOf (K : PySem.W.Frag) (p : Prg) : Adr := ⟨fun i => match p.fs[i]? with
  | some f => He.ga K f.nm
  | none => 0, fun _ => 0, fun i => match p.xs[i]? with
  | some c => He.ga K c.nm
  | none => 0⟩
/-- what is shown of each def without the top -/
structure DefOk (p : Prg) (f : FnD) : Prop where
  c : ∃ n, cSs (p.gam f) n (defBody f.st) = some f.body
  s : FnScope f.N f.ps (defScope f.st)
  b : ∀ (kV doc pm : Value) (an : Option Addr) (cdv ct : Value) (us : List Value), us.length = f.ps.length → bindArgs (PySem.W.fnOf f.nm f.qual (defArgs f.st) (defBody f.st) (defScope f.st) .none kV doc pm an cdv ct) ⟨us, []⟩ = pure (f.ps.zip us)
theorem lookup_mem {α : Type} {x : Str} {g : α} : ∀ {l : List (Str × α)}, l.lookup x = some g → (x, g) ∈ l
  | [], h => nomatch h
  | (y, k) :: r, h => by
    unfold List.lookup at h
    split at h
    · rename_i h0
      cases h
      rw [beq_iff_eq.mp h0]
      exact List.mem_cons_self
    · exact List.mem_cons_of_mem _ (lookup_mem h)
section
variable {P : Program} {w : World} {K : PySem.W.Frag} {mg : Str → Option Value} {base h : Heap} {p : Prg}
theorem facts_of (X : K.In h) (G : h.Ns mainGlobals mg) (hS : He.obsE (hFa p) (hFns p) K = He.valE (hFns p)) (hG : globB K p = true) (hXB : xcB K p = true) (hX : ∀ (i : Nat) (c : XcD), p.xs[i]? = some c → XcOk c) (hD : ∀ (i : Nat) (f : FnD), p.fs[i]? = some f → DefOk p f) : Facts K mg (adrOf K p) p := by
  have hS : He.SaysE (hFa p) (hFns p) K := hS
  have c1 := (He.ba (show (((hFa p).all fun f => f.ok K) && (hFns p).all fun d => (He.Fa.code d.at_ d.qual).ok K) = true from congrArg (fun z : He.Al => z.1) hS)).1
  have fc : ∀ f ∈ hFa p, f.ok K = true := fun f hf => List.all_eq_true.mp c1 f hf
  have gl := List.all_eq_true.mp hG
  have memF : ∀ {i : Nat} {f : FnD}, p.fs[i]? = some f → f ∈ p.fs := fun h => List.mem_of_getElem? h
  have glo : ∀ {i : Nat} {f : FnD}, p.fs[i]? = some f → mg f.nm = some (.ref ((adrOf K p).fa i)) := fun {i f} hf => by
    have e : (adrOf K p).fa i = He.ga K f.nm := by
      unfold adrOf
      dsimp only
      rw [hf]
    rw [e]
    exact He.glo_ok X G (fc (.glo f.nm) (List.mem_append_left _ (List.mem_append_left _ (List.mem_flatMap.mpr ⟨f, memF hf, List.mem_cons_self⟩))))
  refine ⟨fun i f hf => ?_, fun i f hf => ⟨(hD i f hf).c, (hD i f hf).s⟩, fun x i np hx => ?_, fun x d hx => ?_, fun x hx => He.free_ok X G (fc _ (List.mem_append_left _ (List.mem_append_right _ (List.mem_map.mpr ⟨x, hx, rfl⟩)))), fun x i fs hx => ?_, fun c ms hc x b hb => ?_⟩
  · obtain ⟨oc, od, osl, kV, doc, pm, an, cdv, ct, l, c⟩ := hS.def_ i (d := hFn f) (by unfold hFns; rw [List.getElem?_append_left (by rw [List.length_map]; exact (List.getElem?_eq_some_iff.mp hf).1), List.getElem?_map, hf]; rfl)
    have e : (adrOf K p).fa i = He.ga K f.nm := by
      unfold adrOf
      dsimp only
      rw [hf]
    have kp : PySem.W.keepIn K (.ref (He.ga K f.nm)) = true := fc (.keep f.nm) (List.mem_append_left _ (List.mem_append_left _ (List.mem_flatMap.mpr ⟨f, memF hf, List.mem_cons_of_mem _ List.mem_cons_self⟩)))
    rw [e]
    have F := fun_mk (st := f.st) (x := f.nm) (qual := f.qual) l c kp
    exact ⟨_, F, F.binds (hD i f hf).b⟩
  · have g := gl _ (lookup_mem hx)
    dsimp only at g
    cases q : p.fs[i]? with
    | none => rw [q] at g; cases g
    | some f =>
      rw [q] at g
      obtain ⟨g1, g2⟩ := He.ba g
      have e1 := of_decide_eq_true g1
      subst e1
      exact ⟨f, rfl, of_decide_eq_true g2, glo q⟩
  · have g := gl _ (lookup_mem hx)
    dsimp only at g
    cases q : PySem.W.nsIn K mainGlobals x with
    | none => rw [q] at g; cases g
    | some o =>
      cases o with
      | none => rw [q] at g; cases g
      | some u =>
        rw [q] at g
        obtain ⟨v, e⟩ := Option.isSome_iff_exists.mp g
        exact ⟨u, v, PySem.W.mg_of X G q, (cV_ok (A := adrOf K p) (μ := []) (H := fun _ => none) e).1, fun μ H => (cV_ok e).2⟩
  · have g := gl _ (lookup_mem hx)
    dsimp only at g
    cases q : p.xs[i]? with
    | none => rw [q] at g; cases g
    | some c =>
      rw [q] at g
      obtain ⟨g1, g2⟩ := He.ba g
      have e1 := of_decide_eq_true g1
      have e2 := of_decide_eq_true g2
      subst e1
      subst e2
      have ea : (adrOf K p).xa i = He.ga K c.nm := by
        unfold adrOf
        dsimp only
        rw [q]
      have gm := He.glo_ok X G (fc (.glo c.nm) (List.mem_append_right _ (List.mem_map.mpr ⟨c, List.mem_of_getElem? q, rfl⟩)))
      have hb1 := List.all_eq_true.mp (He.ba hXB).1 c (List.mem_of_getElem? q)
      unfold xcB1 at hb1
      obtain ⟨b1, hb1⟩ := He.ba hb1
      obtain ⟨b2, hb1⟩ := He.ba hb1
      have hx' := hX i c q
      rw [ea]
      refine ⟨gm, of_decide_eq_true b1, of_decide_eq_true b2, fun e0 => ?_, fun ne => ?_⟩
      · rw [e0] at hb1
        exact He.ba hb1
      · have hne : c.fs.isEmpty = false := by cases hc : c.fs with | nil => exact absurd hc ne | cons _ _ => rfl
        rw [if_neg (by rw [hne]; exact Bool.false_ne_true)] at hb1
        obtain ⟨b3, hb1⟩ := He.ba hb1
        obtain ⟨b4, hb1⟩ := He.ba hb1
        obtain ⟨b5, hb1⟩ := He.ba hb1
        obtain ⟨b6, hb1⟩ := He.ba hb1
        obtain ⟨b7, b8⟩ := He.ba hb1
        have T := oexB_ok b3
        have hno : ∀ f ∈ c.fs, PySem.W.findIn K (.ref (He.ga K c.nm)) f = some none := fun f hf => of_decide_eq_true (List.all_eq_true.mp b5 f hf)
        obtain ⟨j, hj⟩ : ∃ j : Nat, (hFns p)[j]? = some (⟨(c.nm, some "__init__"), "__init__", c.qual, defArgs c.st, defBody c.st, defScope c.st⟩ : He.FnD) := by
          have hm : (⟨(c.nm, some "__init__"), "__init__", c.qual, defArgs c.st, defBody c.st, defScope c.st⟩ : He.FnD) ∈ hFns p := by
            refine List.mem_append_right _ (List.mem_flatMap.mpr ⟨c, List.mem_of_getElem? q, ?_⟩)
            unfold hXn
            rw [if_neg (by rw [hne]; exact Bool.false_ne_true)]
            exact List.mem_singleton.mpr rfl
          exact List.mem_iff_getElem?.mp hm
        obtain ⟨oc, od, osl, kV, doc, pm, an, cdv, ct, l, cc⟩ := hS.def_ j (d := ⟨(c.nm, some "__init__"), "__init__", c.qual, defArgs c.st, defBody c.st, defScope c.st⟩) hj
        have F := fun_mk (st := c.st) (x := "__init__") (qual := c.qual) l cc b8
        cases hx' with
        | none nm qual st => exact absurd rfl ne
        | one hS' hb hs hl h1 h2 b =>
          exact ⟨T, xfB_ok b4, hno, .inl rfl, _, _, ["self", _], of_decide_eq_true b6, of_decide_eq_true b7, F.binds b, fun P w base => ini1 F hS' hb T (hno _ (List.mem_singleton.mpr rfl)) hs hl h1 h2 0⟩
        | two hS' hb hs hl hl' h1 h2 h3 h4 nd b =>
          exact ⟨T, xfB_ok b4, hno, .inr ⟨rfl, by simpa using nd⟩, _, _, ["self", _, _], of_decide_eq_true b6, of_decide_eq_true b7, F.binds b, fun P w base => ini2 F hS' hb T (hno _ (by simp)) (hno _ (by simp)) hs hl hl' h1 h2 h3 h4 0⟩
  · have hs := (He.ba hXB).2
    unfold subB at hs
    have hc2 := List.all_eq_true.mp hs c (List.mem_range.mpr (List.getElem?_eq_some_iff.mp hc).1)
    rw [hc] at hc2
    cases qc : p.xs[c]? with
    | none => rw [qc] at hc2; cases hc2
    | some xc =>
      rw [qc] at hc2
      dsimp only at hc2
      have hx2 := List.all_eq_true.mp hc2 x (List.mem_range.mpr (List.getElem?_eq_some_iff.mp hb).1)
      rw [hb] at hx2
      cases qx : p.xs[x]? with
      | none => rw [qx] at hx2; cases hx2
      | some xx =>
        rw [qx] at hx2
        have ec : (adrOf K p).xa c = He.ga K xc.nm := by
          unfold adrOf
          dsimp only
          rw [qc]
        have ex : (adrOf K p).xa x = He.ga K xx.nm := by
          unfold adrOf
          dsimp only
          rw [qx]
        rw [ec, ex]
        exact of_decide_eq_true hx2
/-- THE END: the law's walk from the plain word -/
theorem finish {l : PySem.W.OpenLaw} {fa : Addr} {d : DefRec} {k i : Nat} {f : FnD} (X : K.In h) (G : h.Ns mainGlobals mg) (hmg : mg d.name = some (.ref fa))
    (hS : He.obsE (hFa p) (hFns p) K = He.valE (hFns p)) (hG : globB K p = true) (hXB : xcB K p = true) (hX : ∀ (i : Nat) (c : XcD), p.xs[i]? = some c → XcOk c) (hD : ∀ (i : Nat) (f : FnD), p.fs[i]? = some f → DefOk p f)
    (hf : p.fs[i]? = some f) (hn : d.name = f.nm) (hps : f.ps = (["script"] : List Str)) (hlaw : ∀ ns : List Int, ns.length ≤ 63 → ∃ S', callN p k i [.ref 0] [.frz (ns.map D.int)] = .ok (.bl true) S') :
    ∃ fd : FuncData, (∀ (s : Shared) (u : Value), BindsTo s fd ⟨[u], []⟩ [("script", u)]) ∧ ∀ base : Heap, K.In base → base.Ns mainGlobals mg → FnOk l.prog w K mg base (L2.CX l.prog w) (k + 2) fa fd ["script"] (spLaw K) := by
  have F := facts_of X G hS hG hXB hX hD
  obtain ⟨fd, hF, hB⟩ := F.fn i f hf
  rw [hps] at hB
  have e : fa = (adrOf K p).fa i := by
    have e1 : (adrOf K p).fa i = He.ga K f.nm := by
      unfold adrOf
      dsimp only
      rw [hf]
    have c1 := (He.ba (show (((hFa p).all fun f => f.ok K) && (hFns p).all fun d => (He.Fa.code d.at_ d.qual).ok K) = true from congrArg (fun z : He.Al => z.1) hS)).1
    have g := He.glo_ok X G (List.all_eq_true.mp c1 (.glo f.nm) (List.mem_append_left _ (List.mem_append_left _ (List.mem_flatMap.mpr ⟨f, List.mem_of_getElem? hf, List.mem_cons_self⟩))))
    rw [hn, g] at hmg
    cases hmg
    exact e1.symm
  rw [e]
  refine ⟨fd, fun s u => ?_, fun base _ _ => ?_⟩
  · obtain ⟨oc, od, kV, doc, pm, an, cdv, ct, osl, e1, l, c⟩ := hF.ex
    rw [e1]
    have b := (hD i f hf).b kV doc pm an cdv ct [u] (by rw [hps]; rfl)
    rw [hps] at b
    exact .of_eq b
  · obtain ⟨fd', hF', hB', hO⟩ := law_of (P := l.prog) (w := w) (base := base) F hf hps hlaw
    rw [fun_one hF hF']
    exact hO
end
end Mi

/-! Mi, part R: the plain word: weakest preconditions of runs. -/
namespace Mi
open PySem PySem.Spec

def W {α : Type} (o : Out α) (Φ : α → Store → Prop) (Ψ : Exn → Store → Prop) : Prop := match o with
  | .ok a S => Φ a S
  | .er e S => Ψ e S
  | .no => False
def WS (r : SR) (Φ : Fl → Env → Store → Prop) (Ψ : Exn → Store → Prop) : Prop := match r with
  | .go f env S => Φ f env S
  | .er e _ S => Ψ e S
  | .no => False
abbrev NoEx : Exn → Store → Prop := fun _ _ => False
/-- a branch -/
def Wif (k : Bool) (a b : Prop) : Prop := (k = true → a) ∧ (k = false → b)
def Wopt (o : Option (Option D)) (a : D → Prop) : Prop := match o with
  | some (some d) => a d
  | _ => False
def nxt (K : Env → Store → Prop) (Φ : Fl → Env → Store → Prop) : Fl → Env → Store → Prop
  | .nx => K
  | f => Φ f

section
variable {α β : Type} {Φ : α → Store → Prop} {Ψ : Exn → Store → Prop} {G : Gen} {env : Env} {S : Store}
theorem W_bind {m : M β} {f : β → M α} : W ((m >>= f) S) Φ Ψ = W (m S) (fun a S' => W (f a S') Φ Ψ) Ψ := by
  show W (M.bnd m f S) Φ Ψ = _
  unfold M.bnd
  cases m S <;> rfl
theorem W_bnd {m : M β} {f : β → M α} : W (M.bnd m f S) Φ Ψ = W (m S) (fun a S' => W (f a S') Φ Ψ) Ψ := W_bind
theorem W_ret {a : α} : W (M.ret a S) Φ Ψ = Φ a S := rfl
theorem W_ok {a : α} : W (.ok a S) Φ Ψ = Φ a S := rfl
theorem W_er {e : Exn} : W (.er e S) Φ Ψ = Ψ e S := rfl
theorem W_pure {a : α} : W ((pure a : M α) S) Φ Ψ = Φ a S := rfl
theorem W_need {Φ : Unit → Store → Prop} {b : Bool} : W (M.need b S) Φ Ψ = (b = true ∧ Φ () S) := by
  cases b
  · exact propext ⟨fun h => h.elim, fun h => nomatch h.1⟩
  · exact propext ⟨fun h => ⟨rfl, h⟩, fun h => h.2⟩
theorem W_ofO {o : Option α} {a : α} (h : o = some a) : W (ofO o S) Φ Ψ = Φ a S := by
  subst h
  rfl
theorem W_ofS {a : α} : W (ofO (some a) S) Φ Ψ = Φ a S := rfl
theorem W_mono {o : Out α} {Φ' : α → Store → Prop} {Ψ' : Exn → Store → Prop} (h : W o Φ Ψ) (h1 : ∀ a S, Φ a S → Φ' a S) (h2 : ∀ e S, Ψ e S → Ψ' e S) : W o Φ' Ψ' := by
  cases o with
  | ok a S => exact h1 a S h
  | er e S => exact h2 e S h
  | no => exact h
theorem W_eq {o : Out α} {a : α} {S' : Store} : o = .ok a S' ↔ W o (fun b T => b = a ∧ T = S') NoEx := by
  constructor
  · intro h
    subst h
    exact ⟨rfl, rfl⟩
  · intro h
    cases o with
    | ok b T => obtain ⟨rfl, rfl⟩ := h; rfl
    | er e S => exact h.elim
    | no => exact h.elim
theorem WS_mono {o : SR} {Φ Φ' : Fl → Env → Store → Prop} {Ψ' : Exn → Store → Prop} (h : WS o Φ Ψ) (h1 : ∀ f a S, Φ f a S → Φ' f a S) (h2 : ∀ e S, Ψ e S → Ψ' e S) : WS o Φ' Ψ' := by
  cases o with
  | go f a S => exact h1 f a S h
  | er e _ S => exact h2 e S h
  | no => exact h
theorem W_ite {k : Bool} {m m' : M α} : W ((if k then m else m') S) Φ Ψ = Wif k (W (m S) Φ Ψ) (W (m' S) Φ Ψ) := by
  cases k
  · exact propext ⟨fun h => ⟨(fun e => nomatch e), fun _ => h⟩, fun h => h.2 rfl⟩
  · exact propext ⟨fun h => ⟨fun _ => h, fun e => nomatch e⟩, fun h => h.1 rfl⟩
theorem Wif_t {a b : Prop} : Wif true a b = a := propext ⟨fun h => h.1 rfl, fun h => ⟨fun _ => h, fun e => nomatch e⟩⟩
theorem Wif_f {a b : Prop} : Wif false a b = b := propext ⟨fun h => h.2 rfl, fun h => ⟨(fun e => nomatch e), fun _ => h⟩⟩
theorem Wif_pos {k : Bool} {a b : Prop} (h : k = true) : Wif k a b = a := by rw [h, Wif_t]
theorem Wif_neg {k : Bool} {a b : Prop} (h : k = false) : Wif k a b = b := by rw [h, Wif_f]
theorem Wopt_s {d : D} {a : D → Prop} : Wopt (some (some d)) a = a d := rfl
theorem nxt_nx {K : Env → Store → Prop} {Φ : Fl → Env → Store → Prop} : nxt K Φ .nx env S = K env S := rfl
theorem nxt_rt {K : Env → Store → Prop} {Φ : Fl → Env → Store → Prop} {d : D} : nxt K Φ (.rt d) env S = Φ (.rt d) env S := rfl
theorem nxt_bk {K : Env → Store → Prop} {Φ : Fl → Env → Store → Prop} : nxt K Φ .bk env S = Φ .bk env S := rfl
theorem nxt_ct {K : Env → Store → Prop} {Φ : Fl → Env → Store → Prop} : nxt K Φ .ct env S = Φ .ct env S := rfl
end
/-! ### what is done with a value: by names, so that rewriting does not go ahead of the run -/
section
variable (G : Gen) (Ψ : Exn → Store → Prop)
def cBin2 (o : BOp) (x : D) (Φ : D → Store → Prop) : D → Store → Prop := fun y S => W (binM o x y S) Φ Ψ
def cBin (o : BOp) (b : Ex) (env : Env) (Φ : D → Store → Prop) : D → Store → Prop := fun x S => W (ev G b env S) (cBin2 Ψ o x Φ) Ψ
def cBl (Φ : D → Store → Prop) : Bool → Store → Prop := fun k S => Φ (.bl k) S
def cCmp2 (o : COp) (x : D) (Φ : D → Store → Prop) : D → Store → Prop := fun y S => W (cmpM o x y S) (cBl Φ) Ψ
def cCmp (o : COp) (b : Ex) (env : Env) (Φ : D → Store → Prop) : D → Store → Prop := fun x S => W (ev G b env S) (cCmp2 Ψ o x Φ) Ψ
def cChn3 (o' : COp) (y : D) (c : Ex) (env : Env) (Φ : D → Store → Prop) : Bool → Store → Prop := fun k S => Wif k (W (ev G c env S) (cCmp2 Ψ o' y Φ) Ψ) (Φ (.bl false) S)
def cChn2 (o o' : COp) (x : D) (c : Ex) (env : Env) (Φ : D → Store → Prop) : D → Store → Prop := fun y S => W (cmpM o x y S) (cChn3 G Ψ o' y c env Φ) Ψ
def cChn (o o' : COp) (b c : Ex) (env : Env) (Φ : D → Store → Prop) : D → Store → Prop := fun x S => W (ev G b env S) (cChn2 G Ψ o o' x c env Φ) Ψ
def cNeg2 (Φ : D → Store → Prop) : Int → Store → Prop := fun i S => Φ (.int (-i)) S
def cNeg (Φ : D → Store → Prop) : D → Store → Prop := fun x S => W (asInt x S) (cNeg2 Φ) Ψ
def cNot2 (Φ : D → Store → Prop) : Bool → Store → Prop := fun k S => Φ (.bl (!k)) S
def cNot (Φ : D → Store → Prop) : D → Store → Prop := fun x S => W (truthM x S) (cNot2 Φ) Ψ
def cAnd2 (b : Ex) (env : Env) (x : D) (Φ : D → Store → Prop) : Bool → Store → Prop := fun k S => Wif k (W (ev G b env S) Φ Ψ) (Φ x S)
def cAnd (b : Ex) (env : Env) (Φ : D → Store → Prop) : D → Store → Prop := fun x S => W (truthM x S) (cAnd2 G Ψ b env x Φ) Ψ
def cOr2 (b : Ex) (env : Env) (x : D) (Φ : D → Store → Prop) : Bool → Store → Prop := fun k S => Wif k (Φ x S) (W (ev G b env S) Φ Ψ)
def cOr (b : Ex) (env : Env) (Φ : D → Store → Prop) : D → Store → Prop := fun x S => W (truthM x S) (cOr2 G Ψ b env x Φ) Ψ
def cIte2 (a b : Ex) (env : Env) (Φ : D → Store → Prop) : Bool → Store → Prop := fun k S => Wif k (W (ev G a env S) Φ Ψ) (W (ev G b env S) Φ Ψ)
def cIte (a b : Ex) (env : Env) (Φ : D → Store → Prop) : D → Store → Prop := fun x S => W (truthM x S) (cIte2 G Ψ a b env Φ) Ψ
def cTup (Φ : D → Store → Prop) : List D → Store → Prop := fun ds S => decide (ds.length ≤ lim) = true ∧ Φ (.tup ds) S
def cLst (Φ : D → Store → Prop) : List D → Store → Prop := fun ds S => decide (ds.length ≤ lim) = true ∧ Φ (.ref S.length) (S ++ [.lst ds])
def cIx2 (x : D) (Φ : D → Store → Prop) : D → Store → Prop := fun y S => W (ixM x y S) Φ Ψ
def cIx (i : Ex) (env : Env) (Φ : D → Store → Prop) : D → Store → Prop := fun x S => W (ev G i env S) (cIx2 Ψ x Φ) Ψ
def cSl3 (x : D) (l : Option Int) (Φ : D → Store → Prop) : Option Int → Store → Prop := fun h S => W (slM x l h S) Φ Ψ
def cSl2 (x : D) (hi : Option Ex) (env : Env) (Φ : D → Store → Prop) : Option Int → Store → Prop := fun l S => W (evo G hi env S) (cSl3 Ψ x l Φ) Ψ
def cSl (lo hi : Option Ex) (env : Env) (Φ : D → Store → Prop) : D → Store → Prop := fun x S => W (evo G lo env S) (cSl2 G Ψ x hi env Φ) Ψ
def cCall (f : Nat) (Φ : D → Store → Prop) : List D → Store → Prop := fun ds S => W (G.call f ds S) Φ Ψ
def cBlt (b : Blt) (Φ : D → Store → Prop) : List D → Store → Prop := fun ds S => W (bltM b ds S) Φ Ψ
def cMth3 (m : Mth) (x : D) (Φ : D → Store → Prop) : List D → Store → Prop := fun ds S => W (mthM m x ds S) Φ Ψ
def cMth2 (m : Mth) (x : D) (es : List Ex) (env : Env) (Φ : D → Store → Prop) : Unit → Store → Prop := fun _ S => W (evs G es env S) (cMth3 Ψ m x Φ) Ψ
def cMth (m : Mth) (es : List Ex) (env : Env) (Φ : D → Store → Prop) : D → Store → Prop := fun x S => W (mthPre x S) (cMth2 G Ψ m x es env Φ) Ψ
def cLc2 (r : Nat) (Φ : D → Store → Prop) : Unit → Store → Prop := fun _ S => Φ (.ref r) S
def cLc (tg : Tg) (c : Option Ex) (e : Ex) (env : Env) (Φ : D → Store → Prop) : Src → Store → Prop := fun s S => W (lcLoop s tg (fun env' => evc G c env') (fun env' => ev G e env') env S.length G.L 0 (S ++ [.lst []])) (cLc2 S.length Φ) NoEx
def cCons2 (d : D) (Φ : List D → Store → Prop) : List D → Store → Prop := fun ds S => Φ (d :: ds) S
def cCons (es : List Ex) (env : Env) (Φ : List D → Store → Prop) : D → Store → Prop := fun d S => W (evs G es env S) (cCons2 d Φ) Ψ
def cOpt2 (Φ : Option Int → Store → Prop) : Int → Store → Prop := fun i S => Φ (some i) S
def cOpt (Φ : Option Int → Store → Prop) : D → Store → Prop := fun d S => W (asInt d S) (cOpt2 Φ) Ψ
def cTr (Φ : Bool → Store → Prop) : D → Store → Prop := fun d S => W (truthM d S) Φ Ψ
def cSrc (Φ : Src → Store → Prop) : D → Store → Prop := fun d S => W (srcOf d S) Φ Ψ
def cEnu (Φ : Src → Store → Prop) : D → Store → Prop := fun d S => W (enuOf d S) Φ Ψ
def cRng (Φ : Src → Store → Prop) : List D → Store → Prop := fun ds S => W (rngM ds S) Φ Ψ
def cVar (Φ : D → Store → Prop) (S : Store) : D → Prop := fun d => Φ d S
def cSeq (ss : List Sx) (Φ : Fl → Env → Store → Prop) : Fl → Env → Store → Prop := nxt (fun env' S' => WS (xss G ss env' S') Φ Ψ) Φ
def cNx (env : Env) (Φ : Fl → Env → Store → Prop) : D → Store → Prop := fun _ S => Φ .nx env S
def cNxE (Φ : Fl → Env → Store → Prop) : Env → Store → Prop := fun env S => Φ .nx env S
def cNxU (env : Env) (Φ : Fl → Env → Store → Prop) : Unit → Store → Prop := fun _ S => Φ .nx env S
def cAsg (t : Tg) (env : Env) (Φ : Fl → Env → Store → Prop) : D → Store → Prop := fun d S => W (t.bind d env S) (cNxE Φ) Ψ
def cSet3 (v x : D) (env : Env) (Φ : Fl → Env → Store → Prop) : D → Store → Prop := fun y S => W (setIx x y v S) (cNxU env Φ) Ψ
def cSet2 (i : Ex) (v : D) (env : Env) (Φ : Fl → Env → Store → Prop) : D → Store → Prop := fun x S => W (ev G i env S) (cSet3 Ψ v x env Φ) Ψ
def cSet (a i : Ex) (env : Env) (Φ : Fl → Env → Store → Prop) : D → Store → Prop := fun v S => W (ev G a env S) (cSet2 G Ψ i v env Φ) Ψ
def cAug3 (i : Nat) (env : Env) (Φ : Fl → Env → Store → Prop) : D → Store → Prop := fun d S => Φ .nx (env.set i (some d)) S
def cAug2 (i : Nat) (o : BOp) (x : D) (env : Env) (Φ : Fl → Env → Store → Prop) : D → Store → Prop := fun y S => W (augM o x y S) (cAug3 i env Φ) Ψ
def cAug (i : Nat) (o : BOp) (e : Ex) (env : Env) (Φ : Fl → Env → Store → Prop) (S : Store) : D → Prop := fun x => W (ev G e env S) (cAug2 Ψ i o x env Φ) Ψ
def cIf2 (a b : List Sx) (env : Env) (Φ : Fl → Env → Store → Prop) : Bool → Store → Prop := fun k S => Wif k (WS (xss G a env S) Φ Ψ) (WS (xss G b env S) Φ Ψ)
def cIf (a b : List Sx) (env : Env) (Φ : Fl → Env → Store → Prop) : D → Store → Prop := fun x S => W (truthM x S) (cIf2 G Ψ a b env Φ) Ψ
def cFor (t : Tg) (b : List Sx) (env : Env) (Φ : Fl → Env → Store → Prop) : Src → Store → Prop := fun s S => WS (forF s t (fun env' S2 => xss G b env' S2) G.L 0 env S) Φ Ψ
def cPar (is : List Nat) (env : Env) (Φ : Fl → Env → Store → Prop) : List D → Store → Prop := fun ds S => decide (ds.length = is.length) = true ∧ Φ .nx (setAll is ds env) S
def cRaise (x : Nat) (fs : List Str) : List D → Store → Prop := fun ds S => decide (ds.length = fs.length) = true ∧ Ψ ⟨x, fs.zip ds⟩ S
def cTry (hs : List Hdl) (Φ : Fl → Env → Store → Prop) : Exn → Store → Prop := fun e S => ∀ env', WS (runH hs e env' S) Φ Ψ
def cRet (env : Env) (Φ : Fl → Env → Store → Prop) : D → Store → Prop := fun d S => Φ (.rt d) env S
end
section
variable {Φ : D → Store → Prop} {Ψ : Exn → Store → Prop} {G : Gen} {env : Env} {S : Store}
theorem cBin2_ {o : BOp} {x y : D} : cBin2 Ψ o x Φ y S = W (binM o x y S) Φ Ψ := rfl
theorem cBin_ {o : BOp} {b : Ex} {x : D} : cBin G Ψ o b env Φ x S = W (ev G b env S) (cBin2 Ψ o x Φ) Ψ := rfl
theorem cBl_ {k : Bool} : cBl Φ k S = Φ (.bl k) S := rfl
theorem cCmp2_ {o : COp} {x y : D} : cCmp2 Ψ o x Φ y S = W (cmpM o x y S) (cBl Φ) Ψ := rfl
theorem cCmp_ {o : COp} {b : Ex} {x : D} : cCmp G Ψ o b env Φ x S = W (ev G b env S) (cCmp2 Ψ o x Φ) Ψ := rfl
theorem cChn3_t {o' : COp} {y : D} {c : Ex} : cChn3 G Ψ o' y c env Φ true S = W (ev G c env S) (cCmp2 Ψ o' y Φ) Ψ := Wif_t
theorem cChn3_f {o' : COp} {y : D} {c : Ex} : cChn3 G Ψ o' y c env Φ false S = Φ (.bl false) S := Wif_f
theorem cChn2_ {o o' : COp} {x y : D} {c : Ex} : cChn2 G Ψ o o' x c env Φ y S = W (cmpM o x y S) (cChn3 G Ψ o' y c env Φ) Ψ := rfl
theorem cChn_ {o o' : COp} {x : D} {b c : Ex} : cChn G Ψ o o' b c env Φ x S = W (ev G b env S) (cChn2 G Ψ o o' x c env Φ) Ψ := rfl
theorem cNeg2_ {i : Int} : cNeg2 Φ i S = Φ (.int (-i)) S := rfl
theorem cNeg_ {x : D} : cNeg Ψ Φ x S = W (asInt x S) (cNeg2 Φ) Ψ := rfl
theorem cNot2_ {k : Bool} : cNot2 Φ k S = Φ (.bl (!k)) S := rfl
theorem cNot_ {x : D} : cNot Ψ Φ x S = W (truthM x S) (cNot2 Φ) Ψ := rfl
theorem cAnd2_t {b : Ex} {x : D} : cAnd2 G Ψ b env x Φ true S = W (ev G b env S) Φ Ψ := Wif_t
theorem cAnd2_f {b : Ex} {x : D} : cAnd2 G Ψ b env x Φ false S = Φ x S := Wif_f
theorem cAnd_ {b : Ex} {x : D} : cAnd G Ψ b env Φ x S = W (truthM x S) (cAnd2 G Ψ b env x Φ) Ψ := rfl
theorem cOr2_t {b : Ex} {x : D} : cOr2 G Ψ b env x Φ true S = Φ x S := Wif_t
theorem cOr2_f {b : Ex} {x : D} : cOr2 G Ψ b env x Φ false S = W (ev G b env S) Φ Ψ := Wif_f
theorem cOr_ {b : Ex} {x : D} : cOr G Ψ b env Φ x S = W (truthM x S) (cOr2 G Ψ b env x Φ) Ψ := rfl
theorem cIte2_t {a b : Ex} : cIte2 G Ψ a b env Φ true S = W (ev G a env S) Φ Ψ := Wif_t
theorem cIte2_f {a b : Ex} : cIte2 G Ψ a b env Φ false S = W (ev G b env S) Φ Ψ := Wif_f
theorem cIte_ {a b : Ex} {x : D} : cIte G Ψ a b env Φ x S = W (truthM x S) (cIte2 G Ψ a b env Φ) Ψ := rfl
theorem cTup_ {ds : List D} : cTup Φ ds S = (decide (ds.length ≤ lim) = true ∧ Φ (.tup ds) S) := rfl
theorem cLst_ {ds : List D} : cLst Φ ds S = (decide (ds.length ≤ lim) = true ∧ Φ (.ref S.length) (S ++ [.lst ds])) := rfl
theorem cIx2_ {x y : D} : cIx2 Ψ x Φ y S = W (ixM x y S) Φ Ψ := rfl
theorem cIx_ {x : D} {i : Ex} : cIx G Ψ i env Φ x S = W (ev G i env S) (cIx2 Ψ x Φ) Ψ := rfl
theorem cSl3_ {x : D} {l h : Option Int} : cSl3 Ψ x l Φ h S = W (slM x l h S) Φ Ψ := rfl
theorem cSl2_ {x : D} {hi : Option Ex} {l : Option Int} : cSl2 G Ψ x hi env Φ l S = W (evo G hi env S) (cSl3 Ψ x l Φ) Ψ := rfl
theorem cSl_ {x : D} {lo hi : Option Ex} : cSl G Ψ lo hi env Φ x S = W (evo G lo env S) (cSl2 G Ψ x hi env Φ) Ψ := rfl
theorem cCall_ {f : Nat} {ds : List D} : cCall G Ψ f Φ ds S = W (G.call f ds S) Φ Ψ := rfl
theorem cBlt_ {b : Blt} {ds : List D} : cBlt Ψ b Φ ds S = W (bltM b ds S) Φ Ψ := rfl
theorem cMth3_ {m : Mth} {x : D} {ds : List D} : cMth3 Ψ m x Φ ds S = W (mthM m x ds S) Φ Ψ := rfl
theorem cMth2_ {m : Mth} {x : D} {es : List Ex} {u : Unit} : cMth2 G Ψ m x es env Φ u S = W (evs G es env S) (cMth3 Ψ m x Φ) Ψ := rfl
theorem cMth_ {m : Mth} {x : D} {es : List Ex} : cMth G Ψ m es env Φ x S = W (mthPre x S) (cMth2 G Ψ m x es env Φ) Ψ := rfl
theorem cLc2_ {r : Nat} {u : Unit} : cLc2 r Φ u S = Φ (.ref r) S := rfl
theorem cCons2_ {d : D} {ds : List D} {Φ : List D → Store → Prop} : cCons2 d Φ ds S = Φ (d :: ds) S := rfl
theorem cCons_ {d : D} {es : List Ex} {Φ : List D → Store → Prop} : cCons G Ψ es env Φ d S = W (evs G es env S) (cCons2 d Φ) Ψ := rfl
theorem cOpt2_ {i : Int} {Φ : Option Int → Store → Prop} : cOpt2 Φ i S = Φ (some i) S := rfl
theorem cOpt_ {d : D} {Φ : Option Int → Store → Prop} : cOpt Ψ Φ d S = W (asInt d S) (cOpt2 Φ) Ψ := rfl
theorem cTr_ {d : D} {Φ : Bool → Store → Prop} : cTr Ψ Φ d S = W (truthM d S) Φ Ψ := rfl
theorem cSrc_ {d : D} {Φ : Src → Store → Prop} : cSrc Ψ Φ d S = W (srcOf d S) Φ Ψ := rfl
theorem cEnu_ {d : D} {Φ : Src → Store → Prop} : cEnu Ψ Φ d S = W (enuOf d S) Φ Ψ := rfl
theorem cRng_ {ds : List D} {Φ : Src → Store → Prop} : cRng Ψ Φ ds S = W (rngM ds S) Φ Ψ := rfl
theorem cVar_ {d : D} : cVar Φ S d = Φ d S := rfl
theorem We_lit {d : D} : W (ev G (.lit d) env S) Φ Ψ = Φ d S := by simp only [ev, W_ret]
theorem We_var {i : Nat} : W (ev G (.var i) env S) Φ Ψ = Wopt env[i]? (cVar Φ S) := by
  simp only [ev]
  cases env[i]? with
  | none => rfl
  | some o => cases o <;> rfl
theorem We_bin {o : BOp} {a b : Ex} : W (ev G (.bin o a b) env S) Φ Ψ = W (ev G a env S) (cBin G Ψ o b env Φ) Ψ := by simp only [ev, W_bind]; rfl
theorem We_cmp {o : COp} {a b : Ex} : W (ev G (.cmp o a b) env S) Φ Ψ = W (ev G a env S) (cCmp G Ψ o b env Φ) Ψ := by simp only [ev, W_bind, W_ret]; rfl
theorem We_chn {o o' : COp} {a b c : Ex} : W (ev G (.chn o o' a b c) env S) Φ Ψ = W (ev G a env S) (cChn G Ψ o o' b c env Φ) Ψ := by simp only [ev, W_bind, W_ret, W_ite]; rfl
theorem We_neg {a : Ex} : W (ev G (.neg a) env S) Φ Ψ = W (ev G a env S) (cNeg Ψ Φ) Ψ := by simp only [ev, W_bind, W_ret]; rfl
theorem We_not {a : Ex} : W (ev G (.not a) env S) Φ Ψ = W (ev G a env S) (cNot Ψ Φ) Ψ := by simp only [ev, W_bind, W_ret]; rfl
theorem We_and {a b : Ex} : W (ev G (.and a b) env S) Φ Ψ = W (ev G a env S) (cAnd G Ψ b env Φ) Ψ := by simp only [ev, W_bind, W_ret, W_ite]; rfl
theorem We_or {a b : Ex} : W (ev G (.or a b) env S) Φ Ψ = W (ev G a env S) (cOr G Ψ b env Φ) Ψ := by simp only [ev, W_bind, W_ret, W_ite]; rfl
theorem We_ite {c a b : Ex} : W (ev G (.ite c a b) env S) Φ Ψ = W (ev G c env S) (cIte G Ψ a b env Φ) Ψ := by simp only [ev, W_bind, W_ret, W_ite]; rfl
theorem We_tup {es : List Ex} : W (ev G (.tup es) env S) Φ Ψ = W (evs G es env S) (cTup Φ) Ψ := by simp only [ev, W_bind, W_need, W_ret]; rfl
theorem We_lst {es : List Ex} : W (ev G (.lst es) env S) Φ Ψ = W (evs G es env S) (cLst Φ) Ψ := by
  simp only [ev, W_bind, W_need]
  rfl
theorem We_ix {a i : Ex} : W (ev G (.ix a i) env S) Φ Ψ = W (ev G a env S) (cIx G Ψ i env Φ) Ψ := by simp only [ev, W_bind]; rfl
theorem We_sl {a : Ex} {lo hi : Option Ex} : W (ev G (.sl a lo hi) env S) Φ Ψ = W (ev G a env S) (cSl G Ψ lo hi env Φ) Ψ := by simp only [ev, W_bind]; rfl
theorem We_call {f : Nat} {es : List Ex} : W (ev G (.call f es) env S) Φ Ψ = W (evs G es env S) (cCall G Ψ f Φ) Ψ := by simp only [ev, W_bind]; rfl
theorem We_blt {b : Blt} {es : List Ex} : W (ev G (.blt b es) env S) Φ Ψ = W (evs G es env S) (cBlt Ψ b Φ) Ψ := by simp only [ev, W_bind]; rfl
theorem We_mth {m : Mth} {a : Ex} {es : List Ex} : W (ev G (.mth m a es) env S) Φ Ψ = W (ev G a env S) (cMth G Ψ m es env Φ) Ψ := by simp only [ev, W_bind]; rfl
theorem We_lc {it : Itn} {tg : Tg} {vs : List Nat} {c : Option Ex} {e : Ex} : W (ev G (.lc it tg vs c e) env S) Φ Ψ = W (evi G it env S) (cLc G tg c e (wipeE env vs) Φ) Ψ := by
  simp only [ev, W_bind]
  refine congrArg (fun F => W (evi G it env S) F Ψ) (funext fun s => funext fun S1 => ?_)
  show W (newC (.lst []) S1) _ Ψ = _
  unfold newC
  simp only [W_ok, W_bind, W_ret]
  unfold calmM cLc
  cases lcLoop s tg (fun env' => evc G c env') (fun env' => ev G e env') (wipeE env vs) S1.length G.L 0 (S1 ++ [.lst []]) <;> rfl
theorem Ws_nil {Φ : List D → Store → Prop} : W (evs G [] env S) Φ Ψ = Φ [] S := by simp only [evs, W_ret]
theorem Ws_cons {Φ : List D → Store → Prop} {e : Ex} {es : List Ex} : W (evs G (e :: es) env S) Φ Ψ = W (ev G e env S) (cCons G Ψ es env Φ) Ψ := by simp only [evs, W_bind, W_ret]; rfl
theorem Wo_none {Φ : Option Int → Store → Prop} : W (evo G none env S) Φ Ψ = Φ none S := by simp only [evo, W_ret]
theorem Wo_some {Φ : Option Int → Store → Prop} {e : Ex} : W (evo G (some e) env S) Φ Ψ = W (ev G e env S) (cOpt Ψ Φ) Ψ := by simp only [evo, W_bind, W_ret]; rfl
theorem Wc_none {Φ : Bool → Store → Prop} : W (evc G none env S) Φ Ψ = Φ true S := by simp only [evc, W_ret]
theorem Wc_some {Φ : Bool → Store → Prop} {e : Ex} : W (evc G (some e) env S) Φ Ψ = W (ev G e env S) (cTr Ψ Φ) Ψ := by simp only [evc, W_bind]; rfl
theorem Wi_seq {Φ : Src → Store → Prop} {e : Ex} : W (evi G (.seq e) env S) Φ Ψ = W (ev G e env S) (cSrc Ψ Φ) Ψ := by simp only [evi, W_bind]; rfl
theorem Wi_rng {Φ : Src → Store → Prop} {es : List Ex} : W (evi G (.rng es) env S) Φ Ψ = W (evs G es env S) (cRng Ψ Φ) Ψ := by simp only [evi, W_bind]; rfl
theorem Wi_enu {Φ : Src → Store → Prop} {e : Ex} : W (evi G (.enu e) env S) Φ Ψ = W (ev G e env S) (cEnu Ψ Φ) Ψ := by simp only [evi, W_bind]; rfl
theorem WT {Φ : Bool → Store → Prop} {e : Ex} : W (evT G e env S) Φ Ψ = W (ev G e env S) (cTr Ψ Φ) Ψ := by simp only [evT, W_bind]; rfl
end
/-- the end of a body -/
def Wend (Φ : D → Store → Prop) : Fl → Env → Store → Prop
  | .nx, _, S => Φ .non S
  | .rt d, _, S => Φ d S
  | _, _, _ => False
section
variable {α : Type} {Φ : Fl → Env → Store → Prop} {Ψ : Exn → Store → Prop} {G : Gen} {env : Env} {S : Store}
theorem cSeq_nx {ss : List Sx} : cSeq G Ψ ss Φ .nx env S = WS (xss G ss env S) Φ Ψ := rfl
theorem cSeq_rt {ss : List Sx} {d : D} : cSeq G Ψ ss Φ (.rt d) env S = Φ (.rt d) env S := rfl
theorem cSeq_bk {ss : List Sx} : cSeq G Ψ ss Φ .bk env S = Φ .bk env S := rfl
theorem cSeq_ct {ss : List Sx} : cSeq G Ψ ss Φ .ct env S = Φ .ct env S := rfl
theorem cNx_ {d : D} : cNx env Φ d S = Φ .nx env S := rfl
theorem cNxE_ : cNxE Φ env S = Φ .nx env S := rfl
theorem cNxU_ {u : Unit} : cNxU env Φ u S = Φ .nx env S := rfl
theorem cAsg_ {t : Tg} {d : D} : cAsg Ψ t env Φ d S = W (t.bind d env S) (cNxE Φ) Ψ := rfl
theorem cSet3_ {v x y : D} : cSet3 Ψ v x env Φ y S = W (setIx x y v S) (cNxU env Φ) Ψ := rfl
theorem cSet2_ {i : Ex} {v x : D} : cSet2 G Ψ i v env Φ x S = W (ev G i env S) (cSet3 Ψ v x env Φ) Ψ := rfl
theorem cSet_ {a i : Ex} {v : D} : cSet G Ψ a i env Φ v S = W (ev G a env S) (cSet2 G Ψ i v env Φ) Ψ := rfl
theorem cAug3_ {i : Nat} {d : D} : cAug3 i env Φ d S = Φ .nx (env.set i (some d)) S := rfl
theorem cAug2_ {i : Nat} {o : BOp} {x y : D} : cAug2 Ψ i o x env Φ y S = W (augM o x y S) (cAug3 i env Φ) Ψ := rfl
theorem cAug_ {i : Nat} {o : BOp} {e : Ex} {x : D} : cAug G Ψ i o e env Φ S x = W (ev G e env S) (cAug2 Ψ i o x env Φ) Ψ := rfl
theorem cIf2_t {a b : List Sx} : cIf2 G Ψ a b env Φ true S = WS (xss G a env S) Φ Ψ := Wif_t
theorem cIf2_f {a b : List Sx} : cIf2 G Ψ a b env Φ false S = WS (xss G b env S) Φ Ψ := Wif_f
theorem cIf_ {a b : List Sx} {x : D} : cIf G Ψ a b env Φ x S = W (truthM x S) (cIf2 G Ψ a b env Φ) Ψ := rfl
theorem cPar_ {is : List Nat} {ds : List D} : cPar is env Φ ds S = (decide (ds.length = is.length) = true ∧ Φ .nx (setAll is ds env) S) := rfl
theorem cRaise_ {x : Nat} {fs : List Str} {ds : List D} : cRaise Ψ x fs ds S = (decide (ds.length = fs.length) = true ∧ Ψ ⟨x, fs.zip ds⟩ S) := rfl
theorem cRet_ {d : D} : cRet env Φ d S = Φ (.rt d) env S := rfl
theorem WS_bndS {m : M α} {f : α → Store → SR} : WS (bndS m env f S) Φ Ψ = W (m S) (fun a S' => WS (f a S') Φ Ψ) Ψ := by
  unfold bndS
  cases m S <;> rfl
theorem WS_go {f : Fl} : WS (.go f env S) Φ Ψ = Φ f env S := rfl
theorem WS_ite {k : Bool} {a b : SR} : WS (if k then a else b) Φ Ψ = Wif k (WS a Φ Ψ) (WS b Φ Ψ) := by
  cases k
  · exact propext ⟨fun h => ⟨(fun e => nomatch e), fun _ => h⟩, fun h => h.2 rfl⟩
  · exact propext ⟨fun h => ⟨fun _ => h, fun e => nomatch e⟩, fun h => h.1 rfl⟩
theorem WS_nil : WS (xss G [] env S) Φ Ψ = Φ .nx env S := by simp only [xss, WS_go]
theorem WS_cons {s : Sx} {ss : List Sx} : WS (xss G (s :: ss) env S) Φ Ψ = WS (xs G s env S) (cSeq G Ψ ss Φ) Ψ := by
  simp only [xss]
  cases xs G s env S with
  | go f e T => cases f <;> rfl
  | er e _ T => rfl
  | no => rfl
theorem Wx_expr {e : Ex} : WS (xs G (.expr e) env S) Φ Ψ = W (ev G e env S) (cNx env Φ) Ψ := by simp only [xs, WS_bndS, WS_go]; rfl
theorem Wx_asg {t : Tg} {e : Ex} : WS (xs G (.asg t e) env S) Φ Ψ = W (ev G e env S) (cAsg Ψ t env Φ) Ψ := by simp only [xs, WS_bndS, WS_go]; rfl
theorem Wx_asgIx {a i e : Ex} : WS (xs G (.asgIx a i e) env S) Φ Ψ = W (ev G e env S) (cSet G Ψ a i env Φ) Ψ := by simp only [xs, WS_bndS, WS_go, W_bind]; rfl
theorem Wx_aug {i : Nat} {o : BOp} {e : Ex} : WS (xs G (.aug i o e) env S) Φ Ψ = Wopt env[i]? (cAug G Ψ i o e env Φ S) := by
  simp only [xs]
  cases env[i]? with
  | none => rfl
  | some q =>
    cases q with
    | none => rfl
    | some x => simp only [WS_bndS, WS_go, W_bind, Wopt]; rfl
theorem Wx_ite {c : Ex} {a b : List Sx} : WS (xs G (.ite c a b) env S) Φ Ψ = W (ev G c env S) (cIf G Ψ a b env Φ) Ψ := by simp only [xs, WS_bndS, WS_ite, evT, W_bind]; rfl
theorem Wx_whl {c : Ex} {b : List Sx} : WS (xs G (.whl c b) env S) Φ Ψ = WS (whileF (evT G c) (fun env' S' => xss G b env' S') G.L env S) Φ Ψ := by simp only [xs]
theorem Wx_for {t : Tg} {it : Itn} {b : List Sx} : WS (xs G (.for_ t it b) env S) Φ Ψ = W (evi G it env S) (cFor G Ψ t b env Φ) Ψ := by simp only [xs, WS_bndS]; rfl
theorem Wx_ret {e : Ex} : WS (xs G (.ret e) env S) Φ Ψ = W (ev G e env S) (cRet env Φ) Ψ := by simp only [xs, WS_bndS, WS_go]; rfl
theorem Wx_par {is : List Nat} {es : List Ex} : WS (xs G (.par is es) env S) Φ Ψ = W (evs G es env S) (cPar is env Φ) Ψ := by
  simp only [xs, WS_bndS]
  refine congrArg (fun F => W (evs G es env S) F Ψ) (funext fun ds => funext fun S1 => ?_)
  by_cases h : ds.length = is.length
  · rw [if_pos h, cPar_, decide_eq_true h]
    exact propext ⟨fun h => ⟨rfl, h⟩, fun h => h.2⟩
  · rw [if_neg h, cPar_, decide_eq_false h]
    exact propext ⟨fun h => h.elim, fun h => nomatch h.1⟩
theorem Wx_raise {x : Nat} {fs : List Str} {es : List Ex} : WS (xs G (.raise x fs es) env S) Φ Ψ = W (evs G es env S) (cRaise Ψ x fs) Ψ := by
  simp only [xs, WS_bndS]
  refine congrArg (fun F => W (evs G es env S) F Ψ) (funext fun ds => funext fun S1 => ?_)
  by_cases h : ds.length = fs.length
  · rw [if_pos h, cRaise_, decide_eq_true h]
    exact propext ⟨fun h => ⟨rfl, h⟩, fun h => h.2⟩
  · rw [if_neg h, cRaise_, decide_eq_false h]
    exact propext ⟨fun h => h.elim, fun h => nomatch h.1⟩
theorem WS_try {b : List Sx} {hs : List Hdl} (h : WS (xss G b env S) Φ (cTry Ψ hs Φ)) : WS (xs G (.try_ b hs) env S) Φ Ψ := by
  unfold xs
  revert h
  cases xss G b env S with
  | go f e T => cases f <;> exact fun h => h
  | er e env' T => exact fun h => h env'
  | no => exact fun h => h
theorem Wx_retN : WS (xs G .retN env S) Φ Ψ = Φ (.rt .non) env S := by simp only [xs, WS_go]
theorem Wx_brk : WS (xs G .brk env S) Φ Ψ = Φ .bk env S := by simp only [xs, WS_go]
theorem Wx_cnt : WS (xs G .cnt env S) Φ Ψ = Φ .ct env S := by simp only [xs, WS_go]
theorem Wx_pass : WS (xs G .pass env S) Φ Ψ = Φ .nx env S := by simp only [xs, WS_go]
theorem W_endOf {Φ : D → Store → Prop} {r : SR} : W (endOf r) Φ Ψ = WS r (Wend Φ) Ψ := by
  cases r with
  | go f e S => cases f <;> rfl
  | er e _ S => rfl
  | no => rfl
theorem Wend_nx {Φ : D → Store → Prop} : Wend Φ .nx env S = Φ .non S := rfl
theorem Wend_rt {Φ : D → Store → Prop} {d : D} : Wend Φ (.rt d) env S = Φ d S := rfl
end
/-! ### loops -/
def loopK (I : Env → Store → Prop) (Φ : Fl → Env → Store → Prop) : Fl → Env → Store → Prop
  | .nx => I
  | .ct => I
  | .bk => Φ .nx
  | .rt d => Φ (.rt d)
section
variable {Φ : Fl → Env → Store → Prop} {Ψ : Exn → Store → Prop}
theorem loopK_nx {I : Env → Store → Prop} {env : Env} {S : Store} : loopK I Φ .nx env S = I env S := rfl
theorem loopK_ct {I : Env → Store → Prop} {env : Env} {S : Store} : loopK I Φ .ct env S = I env S := rfl
theorem loopK_bk {I : Env → Store → Prop} {env : Env} {S : Store} : loopK I Φ .bk env S = Φ .nx env S := rfl
theorem loopK_rt {I : Env → Store → Prop} {d : D} {env : Env} {S : Store} : loopK I Φ (.rt d) env S = Φ (.rt d) env S := rfl
theorem forF_one {s : Src} {tg : Tg} {b : SM} {n i : Nat} {env : Env} {S : Store} : WS (forF s tg b (n + 1) i env S) Φ Ψ = W (s.at i S) (fun o S1 => match o with
    | none => Φ .nx env S1
    | some d => W (tg.bind d env S1) (fun env1 S2 => WS (b env1 S2) (loopK (fun env2 S3 => WS (forF s tg b n (i + 1) env2 S3) Φ Ψ) Φ) Ψ) Ψ) Ψ := by
  conv => lhs; unfold forF
  rw [WS_bndS]
  refine congrArg (fun F => W (s.at i S) F Ψ) (funext fun o => funext fun S1 => ?_)
  cases o with
  | none => rfl
  | some d =>
    dsimp only
    rw [WS_bndS]
    refine congrArg (fun F => W (tg.bind d env S1) F Ψ) (funext fun env1 => funext fun S2 => ?_)
    cases b env1 S2 with
    | go f e T => cases f <;> rfl
    | er e _ T => rfl
    | no => rfl
/-- a loop over items -/
theorem for_items {ds : List D} {tg : Tg} {b : SM} (I : Nat → Env → Store → Prop) (hs : ∀ j d env S, ds[j]? = some d → I j env S → W (tg.bind d env S) (fun env1 S2 => WS (b env1 S2) (loopK (I (j + 1)) Φ) Ψ) Ψ)
    (he : ∀ env S, I ds.length env S → Φ .nx env S) : ∀ (n i : Nat) (env : Env) (S : Store), i ≤ ds.length → ds.length < n + i → I i env S → WS (forF (.items ds) tg b n i env S) Φ Ψ
  | 0, i, env, S, h1, h2, h => by omega
  | n + 1, i, env, S, h1, h2, h => by
    rw [forF_one]
    show W (.ok ds[i]? S) _ Ψ
    rw [W_ok]
    cases e : ds[i]? with
    | none =>
      dsimp only
      have : ds.length ≤ i := List.getElem?_eq_none_iff.mp e
      have e1 : i = ds.length := by omega
      rw [e1] at h
      exact he _ _ h
    | some d =>
      dsimp only
      have hi : i < ds.length := (List.getElem?_eq_some_iff.mp e).1
      refine W_mono (hs i d env S e h) (fun env1 S2 h1 => WS_mono h1 (fun f env2 S3 h2 => ?_) fun _ _ h => h) fun _ _ h => h
      cases f with
      | nx => exact for_items I hs he n (i + 1) env2 S3 (by omega) (by omega) h2
      | ct => exact for_items I hs he n (i + 1) env2 S3 (by omega) (by omega) h2
      | bk => exact h2
      | rt d => exact h2
/-- a loop over a list that stays -/
theorem for_cell {ds : List D} {r : Nat} {tg : Tg} {b : SM} (I : Nat → Env → Store → Prop) (hr : ∀ j env S, I j env S → S[r]? = some (.lst ds) ∨ S[r]? = some (.frz ds))
    (hs : ∀ j d env S, ds[j]? = some d → I j env S → W (tg.bind d env S) (fun env1 S2 => WS (b env1 S2) (loopK (I (j + 1)) Φ) Ψ) Ψ)
    (he : ∀ env S, I ds.length env S → Φ .nx env S) : ∀ (n i : Nat) (env : Env) (S : Store), i ≤ ds.length → ds.length < n + i → I i env S → WS (forF (.cell r) tg b n i env S) Φ Ψ
  | 0, i, env, S, h1, h2, h => by omega
  | n + 1, i, env, S, h1, h2, h => by
    rw [forF_one]
    have e0 : Src.at (.cell r) i S = .ok ds[i]? S := by
      show M.bnd (getL r) _ S = _
      unfold M.bnd getL
      rcases hr i env S h with h | h <;> rw [h] <;> rfl
    rw [e0, W_ok]
    cases e : ds[i]? with
    | none =>
      dsimp only
      have : ds.length ≤ i := List.getElem?_eq_none_iff.mp e
      have e1 : i = ds.length := by omega
      rw [e1] at h
      exact he _ _ h
    | some d =>
      dsimp only
      have hi : i < ds.length := (List.getElem?_eq_some_iff.mp e).1
      refine W_mono (hs i d env S e h) (fun env1 S2 h1 => WS_mono h1 (fun f env2 S3 h2 => ?_) fun _ _ h => h) fun _ _ h => h
      cases f with
      | nx => exact for_cell I hr hs he n (i + 1) env2 S3 (by omega) (by omega) h2
      | ct => exact for_cell I hr hs he n (i + 1) env2 S3 (by omega) (by omega) h2
      | bk => exact h2
      | rt d => exact h2
theorem whileF_one {c : Env → M Bool} {b : SM} {n : Nat} {env : Env} {S : Store} : WS (whileF c b (n + 1) env S) Φ Ψ = W (c env S) (fun k S1 => Wif k (WS (b env S1) (loopK (fun env2 S2 => WS (whileF c b n env2 S2) Φ Ψ) Φ) Ψ) (Φ .nx env S1)) Ψ := by
  conv => lhs; unfold whileF
  rw [WS_bndS]
  refine congrArg (fun F => W (c env S) F Ψ) (funext fun k => funext fun S1 => ?_)
  rw [WS_ite]
  refine congrArg (fun a => Wif k a (Φ .nx env S1)) ?_
  cases b env S1 with
  | go f e T => cases f <;> rfl
  | er e _ T => rfl
  | no => rfl
/-- while: a measure goes down -/
theorem while_lt {c : Env → M Bool} {b : SM} (I : Nat → Env → Store → Prop) (hs : ∀ m env S, I m env S → W (c env S) (fun k S1 => Wif k (WS (b env S1) (loopK (fun env2 S2 => ∃ m', m' < m ∧ I m' env2 S2) Φ) Ψ) (Φ .nx env S1)) Ψ) :
    ∀ (n m : Nat) (env : Env) (S : Store), m < n → I m env S → WS (whileF c b n env S) Φ Ψ
  | 0, m, env, S, h1, h => by omega
  | n + 1, m, env, S, h1, h => by
    rw [whileF_one]
    refine W_mono (hs m env S h) (fun k S1 h2 => ⟨fun e => WS_mono (h2.1 e) (fun f env2 S2 h3 => ?_) fun _ _ h => h, h2.2⟩) fun _ _ h => h
    cases f with
    | nx => obtain ⟨m', l, h3⟩ := h3; exact while_lt I hs n m' env2 S2 (by omega) h3
    | ct => obtain ⟨m', l, h3⟩ := h3; exact while_lt I hs n m' env2 S2 (by omega) h3
    | bk => exact h3
    | rt d => exact h3
end
/-! ### comprehensions -/
section
variable {Φ : Unit → Store → Prop} {Ψ : Exn → Store → Prop}
theorem lc_one {s : Src} {tg : Tg} {c : Env → M Bool} {e : Env → M D} {env : Env} {r n i : Nat} {S : Store} : W (lcLoop s tg c e env r (n + 1) i S) Φ Ψ = W (s.at i S) (fun o S1 => match o with
    | none => Φ () S1
    | some d => W (tg.bind d env S1) (fun env1 S2 => W (c env1 S2) (fun k S3 => Wif k (W (e env1 S3) (fun x S4 => W (getW r S4) (fun ds S5 => decide (ds.length < lim) = true ∧ W (setL r (ds ++ [x]) S5) (fun _ S6 => W (lcLoop s tg c e env r n (i + 1) S6) Φ Ψ) Ψ) Ψ) Ψ)
      (W (lcLoop s tg c e env r n (i + 1) S3) Φ Ψ)) Ψ) Ψ) Ψ := by
  conv => lhs; unfold lcLoop
  rw [W_bind]
  refine congrArg (fun F => W (s.at i S) F Ψ) (funext fun o => funext fun S1 => ?_)
  cases o with
  | none => rfl
  | some d =>
    dsimp only
    rw [W_bind]
    refine congrArg (fun F => W (tg.bind d env S1) F Ψ) (funext fun env1 => funext fun S2 => ?_)
    rw [W_bind]
    refine congrArg (fun F => W (c env1 S2) F Ψ) (funext fun k => funext fun S3 => ?_)
    rw [W_ite]
    refine congrArg (fun a => Wif k a _) ?_
    simp only [W_bind, W_need]
/-- a comprehension over items: acc is what is gathered -/
theorem lc_items {ds : List D} {tg : Tg} {c : Env → M Bool} {e : Env → M D} {env : Env} {r : Nat} (I : Nat → List D → Store → Prop)
    (hs : ∀ j d acc S, ds[j]? = some d → I j acc S → S[r]? = some (.lst acc) → acc.length ≤ j → W (tg.bind d env S) (fun env1 S2 => W (c env1 S2) (fun k S3 => Wif k (W (e env1 S3) (fun x S4 => S4[r]? = some (.lst acc) ∧ I (j + 1) (acc ++ [x]) (S4.set r (.lst (acc ++ [x])))) Ψ)
      (S3[r]? = some (.lst acc) ∧ I (j + 1) acc S3)) Ψ) Ψ)
    (he : ∀ acc S, I ds.length acc S → S[r]? = some (.lst acc) → Φ () S) (hl : ds.length ≤ lim) : ∀ (n i : Nat) (acc : List D) (S : Store), i ≤ ds.length → ds.length < n + i → acc.length ≤ i → I i acc S → S[r]? = some (.lst acc) → W (lcLoop (.items ds) tg c e env r n i S) Φ Ψ
  | 0, i, acc, S, h1, h2, h3, h, g => by omega
  | n + 1, i, acc, S, h1, h2, h3, h, g => by
    rw [lc_one]
    show W (.ok ds[i]? S) _ Ψ
    rw [W_ok]
    cases q : ds[i]? with
    | none =>
      dsimp only
      have : ds.length ≤ i := List.getElem?_eq_none_iff.mp q
      have e1 : i = ds.length := by omega
      rw [e1] at h
      exact he _ _ h g
    | some d =>
      dsimp only
      have hi : i < ds.length := (List.getElem?_eq_some_iff.mp q).1
      refine W_mono (hs i d acc S q h g h3) (fun env1 S2 h4 => W_mono h4 (fun k S3 h5 => ⟨fun ek => W_mono (h5.1 ek) (fun x S4 h6 => ?_) fun _ _ h => h, fun ek => ?_⟩) fun _ _ h => h) fun _ _ h => h
      · obtain ⟨g4, i4⟩ := h6
        have e4 : getW r S4 = .ok acc S4 := by
          unfold getW
          rw [g4]
        rw [e4, W_ok]
        have e5 : setL r (acc ++ [x]) S4 = .ok () (S4.set r (.lst (acc ++ [x]))) := by
          unfold setL
          rw [g4]
        refine ⟨decide_eq_true (by omega), ?_⟩
        rw [e5, W_ok]
        have hr : r < S4.length := (List.getElem?_eq_some_iff.mp g4).1
        exact lc_items I hs he hl n (i + 1) _ _ (by omega) (by omega) (by rw [List.length_append]; simp only [List.length_cons, List.length_nil]; omega) i4 (List.getElem?_set_self hr)
      · obtain ⟨g4, i4⟩ := h5.2 ek
        exact lc_items I hs he hl n (i + 1) _ _ (by omega) (by omega) (by omega) i4 g4
end
end Mi

/-! Mi, part S: what is built in, by rewriting. -/
namespace Mi
open PySem PySem.Spec
def Wcl (o : Option Cell) (f : List D → Store → Prop) (S : Store) : Prop := match o with
  | some (.lst ds) => f ds S
  | some (.frz ds) => f ds S
  | _ => False
def Wcw (o : Option Cell) (f : List D → Store → Prop) (S : Store) : Prop := match o with
  | some (.lst ds) => f ds S
  | _ => False
def Wop {α : Type} (o : Option α) (f : α → Store → Prop) (S : Store) : Prop := match o with
  | some a => f a S
  | none => False
def kIx (i : Int) (Φ : D → Store → Prop) : List D → Store → Prop := fun ds S => Wop (L2.atI ds i) Φ S
def kAdd2 (xs : List D) (Φ : D → Store → Prop) : List D → Store → Prop := fun ys S => decide (xs.length + ys.length ≤ lim) = true ∧ Φ (.ref S.length) (S ++ [.lst (xs ++ ys)])
def kAdd (q : Nat) (Φ : D → Store → Prop) : List D → Store → Prop := fun xs S => Wcw S[q]? (kAdd2 xs Φ) S
def cNg (Φ : Bool → Store → Prop) : Bool → Store → Prop := fun b S => Φ (!b) S
def kTr (Φ : Bool → Store → Prop) : List D → Store → Prop := fun ds S => Φ (!ds.isEmpty) S
def kSet2 (r : Nat) (d : D) (ds : List D) (Φ : Unit → Store → Prop) : Nat → Store → Prop := fun j S => Φ () (S.set r (.lst (ds.set j d)))
def kSet (r : Nat) (i : Int) (d : D) (Φ : Unit → Store → Prop) : List D → Store → Prop := fun ds S => Wop (L2.ixN ds.length i) (kSet2 r d ds Φ) S
def kSl (lo hi : Option Int) (Φ : D → Store → Prop) : List D → Store → Prop := fun ds S => Φ (.ref S.length) (S ++ [.lst (cutL ds lo hi)])
def kLen (Φ : D → Store → Prop) : List D → Store → Prop := fun ds S => Φ (.int ds.length) S
def kTp (Φ : D → Store → Prop) : List D → Store → Prop := fun ds S => Φ (.tup ds) S
def kLs (Φ : D → Store → Prop) : List D → Store → Prop := fun ds S => Φ (.ref S.length) (S ++ [.lst ds])
def kAll2 (Φ : D → Store → Prop) : List Bool → Store → Prop := fun bs S => Φ (.bl (bs.all id)) S
def kAll (Φ : D → Store → Prop) : List D → Store → Prop := fun ds S => Wop (asBls ds) (kAll2 Φ) S
def kAny2 (Φ : D → Store → Prop) : List Bool → Store → Prop := fun bs S => Φ (.bl (bs.any id)) S
def kAny (Φ : D → Store → Prop) : List D → Store → Prop := fun ds S => Wop (asBls ds) (kAny2 Φ) S
def kSum2 (Φ : D → Store → Prop) : List Int → Store → Prop := fun ns S => Φ (.int ns.sum) S
def kSum (Φ : D → Store → Prop) : List D → Store → Prop := fun ds S => Wop (asInts ds) (kSum2 Φ) S
def kIsi (t : Ty) (Φ : D → Store → Prop) : Ty → Store → Prop := fun s S => Φ (.bl (Ty.sub s t)) S
def kIsis2 (s : Ty) (Φ : D → Store → Prop) : List Ty → Store → Prop := fun us S => Φ (.bl (us.any (Ty.sub s))) S
def kIsis (ts : List D) (Φ : D → Store → Prop) : Ty → Store → Prop := fun s S => Wop (asTys ts) (kIsis2 s Φ) S
def kPre (Φ : Unit → Store → Prop) : List D → Store → Prop := fun _ S => Φ () S
def kApp (r : Nat) (d : D) (Φ : D → Store → Prop) : List D → Store → Prop := fun ds S => decide (ds.length < lim) = true ∧ Φ .non (S.set r (.lst (ds ++ [d])))
def kExt2 (r : Nat) (ds : List D) (Φ : D → Store → Prop) : List D → Store → Prop := fun es S => decide (ds.length + es.length ≤ lim) = true ∧ Φ .non (S.set r (.lst (ds ++ es)))
def kExt (r q : Nat) (Φ : D → Store → Prop) : List D → Store → Prop := fun ds S => Wcw S[q]? (kExt2 r ds Φ) S
def kPop2 (r : Nat) (ds : List D) (Φ : D → Store → Prop) : D → Store → Prop := fun d S => Φ d (S.set r (.lst ds.dropLast))
def kPop (r : Nat) (Φ : D → Store → Prop) : List D → Store → Prop := fun ds S => Wop ds[ds.length - 1]? (kPop2 r ds Φ) S
def kPopi2 (r : Nat) (ds : List D) (Φ : D → Store → Prop) : Nat → Store → Prop := fun k S => Wop ds[k]? (fun d S' => Φ d (S'.set r (.lst (ds.eraseIdx k)))) S
def kPopi (r : Nat) (i : Int) (Φ : D → Store → Prop) : List D → Store → Prop := fun ds S => Wop (L2.ixN ds.length i) (kPopi2 r ds Φ) S
def kBnd (is : List Nat) (env : Env) (Φ : Env → Store → Prop) : List D → Store → Prop := fun ds S => decide (ds.length = is.length) = true ∧ Φ (setAll is ds env) S
def kSrc (s : Src) (Φ : Src → Store → Prop) : List D → Store → Prop := fun _ S => Φ s S
section
variable {Φ : D → Store → Prop} {Ψ : Exn → Store → Prop} {ΦB : Bool → Store → Prop} {ΦU : Unit → Store → Prop} {ΦS : Src → Store → Prop} {S : Store} {i j : Int} {x y : Str} {ds es : List D} {r q : Nat} {d e : D} {b c : Bool}
theorem Wcl_l {f : List D → Store → Prop} : Wcl (some (.lst ds)) f S = f ds S := rfl
theorem Wcl_f {f : List D → Store → Prop} : Wcl (some (.frz ds)) f S = f ds S := rfl
theorem Wcw_l {f : List D → Store → Prop} : Wcw (some (.lst ds)) f S = f ds S := rfl
theorem Wop_s {α : Type} {a : α} {f : α → Store → Prop} : Wop (some a) f S = f a S := rfl
theorem kIx_ : kIx i Φ ds S = Wop (L2.atI ds i) Φ S := rfl
theorem kAdd2_ : kAdd2 ds Φ es S = (decide (ds.length + es.length ≤ lim) = true ∧ Φ (.ref S.length) (S ++ [.lst (ds ++ es)])) := rfl
theorem kAdd_ : kAdd q Φ ds S = Wcw S[q]? (kAdd2 ds Φ) S := rfl
theorem cNg_ : cNg ΦB b S = ΦB (!b) S := rfl
theorem kTr_ : kTr ΦB ds S = ΦB (!ds.isEmpty) S := rfl
theorem kSet2_ {j : Nat} : kSet2 r d ds ΦU j S = ΦU () (S.set r (.lst (ds.set j d))) := rfl
theorem kSet_ : kSet r i d ΦU ds S = Wop (L2.ixN ds.length i) (kSet2 r d ds ΦU) S := rfl
theorem kSl_ {lo hi : Option Int} : kSl lo hi Φ ds S = Φ (.ref S.length) (S ++ [.lst (cutL ds lo hi)]) := rfl
theorem kLen_ : kLen Φ ds S = Φ (.int ds.length) S := rfl
theorem kTp_ : kTp Φ ds S = Φ (.tup ds) S := rfl
theorem kLs_ : kLs Φ ds S = Φ (.ref S.length) (S ++ [.lst ds]) := rfl
theorem kAll2_ {bs : List Bool} : kAll2 Φ bs S = Φ (.bl (bs.all id)) S := rfl
theorem kAll_ : kAll Φ ds S = Wop (asBls ds) (kAll2 Φ) S := rfl
theorem kAny2_ {bs : List Bool} : kAny2 Φ bs S = Φ (.bl (bs.any id)) S := rfl
theorem kAny_ : kAny Φ ds S = Wop (asBls ds) (kAny2 Φ) S := rfl
theorem kSum2_ {bs : List Int} : kSum2 Φ bs S = Φ (.int bs.sum) S := rfl
theorem kSum_ : kSum Φ ds S = Wop (asInts ds) (kSum2 Φ) S := rfl
theorem kIsi_ {s t : Ty} : kIsi t Φ s S = Φ (.bl (Ty.sub s t)) S := rfl
theorem kIsis2_ {s : Ty} {us : List Ty} : kIsis2 s Φ us S = Φ (.bl (us.any (Ty.sub s))) S := rfl
theorem kIsis_ {s : Ty} {ts : List D} : kIsis ts Φ s S = Wop (asTys ts) (kIsis2 s Φ) S := rfl
theorem kPre_ : kPre ΦU ds S = ΦU () S := rfl
theorem kApp_ : kApp r d Φ ds S = (decide (ds.length < lim) = true ∧ Φ .non (S.set r (.lst (ds ++ [d])))) := rfl
theorem kExt2_ : kExt2 r ds Φ es S = (decide (ds.length + es.length ≤ lim) = true ∧ Φ .non (S.set r (.lst (ds ++ es)))) := rfl
theorem kExt_ : kExt r q Φ ds S = Wcw S[q]? (kExt2 r ds Φ) S := rfl
theorem kPop2_ : kPop2 r ds Φ d S = Φ d (S.set r (.lst ds.dropLast)) := rfl
theorem kPop_ : kPop r Φ ds S = Wop ds[ds.length - 1]? (kPop2 r ds Φ) S := rfl
theorem kSrc_ {s : Src} : kSrc s ΦS ds S = ΦS s S := rfl
theorem W_getL {Φ : List D → Store → Prop} : W (getL r S) Φ Ψ = Wcl S[r]? Φ S := by
  unfold getL Wcl
  cases S[r]? with
  | none => rfl
  | some o => cases o <;> rfl
theorem W_getW {Φ : List D → Store → Prop} : W (getW r S) Φ Ψ = Wcw S[r]? Φ S := by
  unfold getW Wcw
  cases S[r]? with
  | none => rfl
  | some o => cases o <;> rfl
theorem W_newC {c : Cell} : W (newC c S) Φ Ψ = Φ (.ref S.length) (S ++ [c]) := rfl
theorem W_setL : W (setL r ds S) ΦU Ψ = Wcw S[r]? (fun _ S' => ΦU () (S'.set r (.lst ds))) S := by
  unfold setL Wcw
  cases S[r]? with
  | none => rfl
  | some o => cases o <;> rfl
theorem W_ofop {α : Type} {Φ : α → Store → Prop} {o : Option α} : W (ofO o S) Φ Ψ = Wop o Φ S := by cases o <;> rfl
theorem Wb_add : W (binM .add (.int i) (.int j) S) Φ Ψ = Φ (.int (i + j)) S := rfl
theorem Wb_sub : W (binM .sub (.int i) (.int j) S) Φ Ψ = Φ (.int (i - j)) S := rfl
theorem Wb_mul : W (binM .mul (.int i) (.int j) S) Φ Ψ = ((inW i || inW j) = true ∧ Φ (.int (i * j)) S) := by show W ((M.need (inW i || inW j) >>= fun _ => M.ret (D.int (i * j))) S) Φ Ψ = _; rw [W_bind, W_need]; rfl
theorem Wb_fdiv : W (binM .fdiv (.int i) (.int j) S) Φ Ψ = (decide (j ≠ 0 ∧ j.natAbs < 1073741824) = true ∧ Φ (.int (i.fdiv j)) S) := by show W ((M.need (decide (j ≠ 0 ∧ j.natAbs < 1073741824)) >>= fun _ => M.ret (D.int (i.fdiv j))) S) Φ Ψ = _; rw [W_bind, W_need]; rfl
theorem Wb_mod : W (binM .mod (.int i) (.int j) S) Φ Ψ = (decide (j ≠ 0) = true ∧ Φ (.int (i.fmod j)) S) := by show W ((M.need (decide (j ≠ 0)) >>= fun _ => M.ret (D.int (i.fmod j))) S) Φ Ψ = _; rw [W_bind, W_need]; rfl
theorem Wb_pow : W (binM .pow (.int i) (.int j) S) Φ Ψ = (decide (0 ≤ j ∧ j ≤ 1000000 ∧ i.natAbs < 2 ^ 64) = true ∧ Φ (.int (i ^ j.toNat)) S) := by show W ((M.need (decide (0 ≤ j ∧ j ≤ 1000000 ∧ i.natAbs < 2 ^ 64)) >>= fun _ => M.ret (D.int (i ^ j.toNat))) S) Φ Ψ = _; rw [W_bind, W_need]; rfl
theorem Wb_addt : W (binM .add (.tup ds) (.tup es) S) Φ Ψ = (decide (ds.length + es.length ≤ lim) = true ∧ Φ (.tup (ds ++ es)) S) := by show W ((M.need (decide (ds.length + es.length ≤ lim)) >>= fun _ => M.ret (D.tup (ds ++ es))) S) Φ Ψ = _; rw [W_bind, W_need]; rfl
theorem Wb_mult {k : Int} : W (binM .mul (.tup ds) (.int k) S) Φ Ψ = ((!ds.isEmpty && decide (2 ≤ k ∧ k ≤ 1000000 ∧ k.toNat * ds.length ≤ 1000000)) = true ∧ Φ (.tup (List.replicate k.toNat ds).flatten) S) := by show W ((M.need (!ds.isEmpty && decide (2 ≤ k ∧ k ≤ 1000000 ∧ k.toNat * ds.length ≤ 1000000)) >>= fun _ => M.ret (D.tup (List.replicate k.toNat ds).flatten)) S) Φ Ψ = _; rw [W_bind, W_need]; rfl
theorem Wb_adds : W (binM .add (.str x) (.str y) S) Φ Ψ = (decide (x.length + y.length ≤ lim) = true ∧ Φ (.str (x ++ y)) S) := by show W ((M.need (decide (x.length + y.length ≤ lim)) >>= fun _ => M.ret (D.str (x ++ y))) S) Φ Ψ = _; rw [W_bind, W_need]; rfl
theorem Wb_addl : W (binM .add (.ref r) (.ref q) S) Φ Ψ = Wcw S[r]? (kAdd q Φ) S := by
  show W ((getW r >>= fun xs => getW q >>= fun ys => M.need (decide (xs.length + ys.length ≤ lim)) >>= fun _ => newC (.lst (xs ++ ys))) S) Φ Ψ = _
  simp only [W_bind, W_getW, W_need, W_newC]
  rfl
theorem Wa_add : W (augM .add (.int i) (.int j) S) Φ Ψ = Φ (.int (i + j)) S := rfl
theorem Wa_sub : W (augM .sub (.int i) (.int j) S) Φ Ψ = Φ (.int (i - j)) S := rfl
theorem Wm_lt : W (cmpM .lt (.int i) (.int j) S) ΦB Ψ = ΦB (decide (i < j)) S := rfl
theorem Wm_le : W (cmpM .le (.int i) (.int j) S) ΦB Ψ = ΦB (decide (i ≤ j)) S := rfl
theorem Wm_gt : W (cmpM .gt (.int i) (.int j) S) ΦB Ψ = ΦB (decide (j < i)) S := rfl
theorem Wm_ge : W (cmpM .ge (.int i) (.int j) S) ΦB Ψ = ΦB (decide (j ≤ i)) S := rfl
theorem Wm_eq : W (cmpM .eq d e S) ΦB Ψ = W (eqM d e S) ΦB Ψ := rfl
theorem Wm_ne : W (cmpM .ne d e S) ΦB Ψ = W (eqM d e S) (cNg ΦB) Ψ := by show W ((eqM d e >>= fun b => M.ret (!b)) S) ΦB Ψ = _; rw [W_bind]; rfl
theorem Wm_is : W (cmpM .is_ d e S) ΦB Ψ = W (isM d e S) ΦB Ψ := rfl
theorem Wm_isnt : W (cmpM .isnt d e S) ΦB Ψ = W (isM d e S) (cNg ΦB) Ψ := by show W ((isM d e >>= fun b => M.ret (!b)) S) ΦB Ψ = _; rw [W_bind]; rfl
theorem Wm_in : W (cmpM .in_ d e S) ΦB Ψ = W (inM d e S) ΦB Ψ := rfl
theorem Wm_nin : W (cmpM .nin d e S) ΦB Ψ = W (inM d e S) (cNg ΦB) Ψ := by show W ((inM d e >>= fun b => M.ret (!b)) S) ΦB Ψ = _; rw [W_bind]; rfl
theorem Wq_int : W (eqM (.int i) (.int j) S) ΦB Ψ = ΦB (decide (i = j)) S := rfl
theorem Wq_str : W (eqM (.str x) (.str y) S) ΦB Ψ = ΦB (decide (x = y)) S := rfl
theorem Wq_bl : W (eqM (.bl b) (.bl c) S) ΦB Ψ = ΦB (decide (b = c)) S := rfl
theorem Wq_non : W (eqM .non .non S) ΦB Ψ = ΦB true S := rfl
theorem Wq_is : W (eqM (.int i) (.str x) S) ΦB Ψ = ΦB false S := rfl
theorem Wq_si : W (eqM (.str x) (.int i) S) ΦB Ψ = ΦB false S := rfl
theorem Wi_bl : W (isM (.bl b) (.bl c) S) ΦB Ψ = ΦB (decide (b = c)) S := rfl
theorem Wi_non : W (isM .non .non S) ΦB Ψ = ΦB true S := rfl
theorem Wi_int : W (isM (.int i) .non S) ΦB Ψ = ΦB false S := rfl
theorem Wi_tup : W (isM (.tup ds) .non S) ΦB Ψ = ΦB false S := rfl
theorem Wi_ref : W (isM (.ref r) .non S) ΦB Ψ = ΦB false S := rfl
theorem Wi_str : W (isM (.str x) .non S) ΦB Ψ = ΦB false S := rfl
theorem Wi_bln : W (isM (.bl b) .non S) ΦB Ψ = ΦB false S := rfl
theorem Wt_non : W (truthM .non S) ΦB Ψ = ΦB false S := rfl
theorem Wt_bl : W (truthM (.bl b) S) ΦB Ψ = ΦB b S := rfl
theorem Wt_int : W (truthM (.int i) S) ΦB Ψ = ΦB (i != 0) S := rfl
theorem Wt_tup : W (truthM (.tup ds) S) ΦB Ψ = ΦB (!ds.isEmpty) S := rfl
theorem Wt_ref : W (truthM (.ref r) S) ΦB Ψ = Wcl S[r]? (kTr ΦB) S := by show W ((getL r >>= fun ds => M.ret (!ds.isEmpty)) S) ΦB Ψ = _; rw [W_bind, W_getL]; rfl
theorem Wt_str : W (truthM (.str x) S) ΦB Ψ = (decide (x.length ≤ lim) = true ∧ ΦB ((x.length : Int) != 0) S) := by show W ((M.need (decide (x.length ≤ lim)) >>= fun _ => M.ret ((x.length : Int) != 0)) S) ΦB Ψ = _; rw [W_bind, W_need]; rfl
theorem Wx_tup : W (ixM (.tup ds) (.int i) S) Φ Ψ = Wop (L2.atI ds i) Φ S := W_ofop
theorem Wx_ref : W (ixM (.ref r) (.int i) S) Φ Ψ = Wcl S[r]? (kIx i Φ) S := by
  show W ((getL r >>= fun ds => ofO (L2.atI ds i)) S) Φ Ψ = _
  simp only [W_bind, W_getL, W_ofop]
  rfl
theorem Wx_set : W (setIx (.ref r) (.int i) d S) ΦU Ψ = Wcw S[r]? (kSet r i d ΦU) S := by
  show W ((getW r >>= fun ds => ofO (L2.ixN ds.length i) >>= fun j => setL r (ds.set j d)) S) ΦU Ψ = _
  rw [W_bind, W_getW]
  cases h : S[r]? with
  | none => rfl
  | some o =>
    cases o with
    | lst ds =>
      rw [Wcw_l, Wcw_l, kSet_, W_bind, W_ofop]
      cases L2.ixN ds.length i with
      | none => rfl
      | some j =>
        rw [Wop_s, Wop_s, W_setL, h]
        rfl
    | _ => rfl
theorem Wl_tup {lo hi : Option Int} : W (slM (.tup ds) lo hi S) Φ Ψ = Φ (.tup (cutL ds lo hi)) S := rfl
theorem Wl_ref {lo hi : Option Int} : W (slM (.ref r) lo hi S) Φ Ψ = Wcl S[r]? (kSl lo hi Φ) S := by
  show W ((getL r >>= fun ds => newC (.lst (cutL ds lo hi))) S) Φ Ψ = _
  simp only [W_bind, W_getL, W_newC]
  rfl
theorem Wn_int {Φ : Int → Store → Prop} : W (asInt (.int i) S) Φ Ψ = Φ i S := rfl
theorem Wk_lent : W (bltM .len [.tup ds] S) Φ Ψ = Φ (.int ds.length) S := rfl
theorem Wk_lenr : W (bltM .len [.ref r] S) Φ Ψ = Wcl S[r]? (kLen Φ) S := by show W ((getL r >>= fun ds => M.ret (D.int ds.length)) S) Φ Ψ = _; rw [W_bind, W_getL]; rfl
theorem Wk_lens : W (bltM .len [.str x] S) Φ Ψ = (decide (x.length ≤ lim) = true ∧ Φ (.int x.length) S) := by show W ((M.need (decide (x.length ≤ lim)) >>= fun _ => M.ret (D.int x.length)) S) Φ Ψ = _; rw [W_bind, W_need]; rfl
theorem Wk_int : W (bltM .int [.int i] S) Φ Ψ = Φ (.int i) S := rfl
theorem Wk_intb : W (bltM .int [.bl b] S) Φ Ψ = Φ (.int (if b then 1 else 0)) S := rfl
theorem Wk_tupt : W (bltM .tuple [.tup ds] S) Φ Ψ = Φ (.tup ds) S := rfl
theorem Wk_tupr : W (bltM .tuple [.ref r] S) Φ Ψ = Wcl S[r]? (kTp Φ) S := by show W ((getL r >>= fun ds => M.ret (D.tup ds)) S) Φ Ψ = _; rw [W_bind, W_getL]; rfl
theorem Wk_lstt : W (bltM .list [.tup ds] S) Φ Ψ = Φ (.ref S.length) (S ++ [.lst ds]) := rfl
theorem Wk_lstr : W (bltM .list [.ref r] S) Φ Ψ = Wcl S[r]? (kLs Φ) S := by show W ((getL r >>= fun ds => newC (.lst ds)) S) Φ Ψ = _; rw [W_bind, W_getL]; rfl
theorem Wk_max : W (bltM .max [.int i, .int j] S) Φ Ψ = Φ (.int (if j > i then j else i)) S := rfl
theorem Wk_min : W (bltM .min [.int i, .int j] S) Φ Ψ = Φ (.int (if j < i then j else i)) S := rfl
theorem Wk_abs : W (bltM .abs [.int i] S) Φ Ψ = Φ (.int (if i < 0 then -i else i)) S := rfl
theorem Wk_all : W (bltM .all [.ref r] S) Φ Ψ = Wcl S[r]? (kAll Φ) S := by
  show W ((getL r >>= fun ds => ofO (asBls ds) >>= fun bs => M.ret (D.bl (bs.all id))) S) Φ Ψ = _
  simp only [W_bind, W_getL, W_ofop, W_ret]
  rfl
theorem Wk_any : W (bltM .any [.ref r] S) Φ Ψ = Wcl S[r]? (kAny Φ) S := by
  show W ((getL r >>= fun ds => ofO (asBls ds) >>= fun bs => M.ret (D.bl (bs.any id))) S) Φ Ψ = _
  simp only [W_bind, W_getL, W_ofop, W_ret]
  rfl
theorem Wk_sum : W (bltM .sum [.ref r] S) Φ Ψ = Wcl S[r]? (kSum Φ) S := by
  show W ((getL r >>= fun ds => ofO (asInts ds) >>= fun bs => M.ret (D.int bs.sum)) S) Φ Ψ = _
  simp only [W_bind, W_getL, W_ofop, W_ret]
  rfl
theorem Wk_repr : W (bltM .repr [.bl b] S) Φ Ψ = Φ (.str (if b then "True" else "False")) S := rfl
/-- the kind of a datum, lists' by the store -/
def tyOf' (S : Store) : D → Option Ty
  | .non => some .non
  | .bl _ => some .bool
  | .int _ => some .int
  | .str _ => some .str
  | .tup _ => some .tup
  | .ref r => match S[r]? with
    | some (.lst _) => some .lst
    | some (.frz _) => some .lst
    | some (.dic _) => some .dic
    | _ => none
  | _ => none
theorem ty_non : tyOf' S .non = some .non := rfl
theorem ty_bl : tyOf' S (.bl b) = some .bool := rfl
theorem ty_int : tyOf' S (.int i) = some .int := rfl
theorem ty_str : tyOf' S (.str x) = some .str := rfl
theorem ty_tup : tyOf' S (.tup ds) = some .tup := rfl
theorem ty_lst (h : S[r]? = some (.lst ds)) : tyOf' S (.ref r) = some .lst := by
  unfold tyOf'
  dsimp only
  rw [h]
theorem W_tyM {Φ : Ty → Store → Prop} : W (tyM d S) Φ Ψ = Wop (tyOf' S d) Φ S := by
  cases d with
  | ref r =>
    show W ((match S[r]? with | some (.lst _) => .ok .lst S | some (.frz _) => .ok .lst S | some (.dic _) => .ok .dic S | _ => .no : Out Ty)) Φ Ψ = _
    unfold tyOf'
    dsimp only
    cases S[r]? with
    | none => rfl
    | some o => cases o <;> rfl
  | _ => rfl
theorem Wk_isi {t : Ty} : W (bltM .isi [d, .ty t] S) Φ Ψ = Wop (tyOf' S d) (kIsi t Φ) S := by
  have e : bltM .isi [d, .ty t] S = (tyM d >>= fun s => M.ret (D.bl (Ty.sub s t))) S := by cases d <;> rfl
  rw [e]
  simp only [W_bind, W_tyM, W_ret]
  rfl
theorem Wk_isis {ts : List D} : W (bltM .isi [d, .tup ts] S) Φ Ψ = Wop (tyOf' S d) (kIsis ts Φ) S := by
  have e : bltM .isi [d, .tup ts] S = (tyM d >>= fun s => ofO (asTys ts) >>= fun us => M.ret (D.bl (us.any (Ty.sub s)))) S := by cases d <;> rfl
  rw [e]
  simp only [W_bind, W_tyM, W_ofop, W_ret]
  rfl
theorem Wp_pre : W (mthPre (.ref r) S) ΦU Ψ = Wcl S[r]? (kPre ΦU) S := by show W ((getL r >>= fun _ => M.ret ()) S) ΦU Ψ = _; rw [W_bind, W_getL]; rfl
theorem Wp_app : W (mthM .append (.ref r) [d] S) Φ Ψ = Wcw S[r]? (kApp r d Φ) S := by
  show W ((getW r >>= fun ds => M.need (decide (ds.length < lim)) >>= fun _ => setL r (ds ++ [d]) >>= fun _ => M.ret D.non) S) Φ Ψ = _
  rw [W_bind, W_getW]
  cases h : S[r]? with
  | none => rfl
  | some o =>
    cases o with
    | lst ds =>
      rw [Wcw_l, Wcw_l, kApp_, W_bind, W_need, W_bind, W_setL, h]
      rfl
    | _ => rfl
theorem Wp_ext : W (mthM .extend (.ref r) [.ref q] S) Φ Ψ = Wcw S[r]? (kExt r q Φ) S := by
  show W ((getW r >>= fun ds => getW q >>= fun es => M.need (decide (ds.length + es.length ≤ lim)) >>= fun _ => setL r (ds ++ es) >>= fun _ => M.ret D.non) S) Φ Ψ = _
  rw [W_bind, W_getW]
  cases h : S[r]? with
  | none => rfl
  | some o =>
    cases o with
    | lst ds =>
      rw [Wcw_l, Wcw_l, kExt_, W_bind, W_getW]
      cases h2 : S[q]? with
      | none => rfl
      | some o2 =>
        cases o2 with
        | lst es =>
          rw [Wcw_l, Wcw_l, kExt2_, W_bind, W_need, W_bind, W_setL, h]
          rfl
        | _ => rfl
    | _ => rfl
theorem Wp_pop : W (mthM .pop (.ref r) [] S) Φ Ψ = Wcw S[r]? (kPop r Φ) S := by
  show W ((getW r >>= fun ds => ofO ds[ds.length - 1]? >>= fun x => setL r ds.dropLast >>= fun _ => M.ret x) S) Φ Ψ = _
  rw [W_bind, W_getW]
  cases h : S[r]? with
  | none => rfl
  | some o =>
    cases o with
    | lst ds =>
      rw [Wcw_l, Wcw_l, kPop_, W_bind, W_ofop]
      cases ds[ds.length - 1]? with
      | none => rfl
      | some d =>
        rw [Wop_s, Wop_s, W_bind, W_setL, h]
        rfl
    | _ => rfl
theorem kPopi_ : kPopi r i Φ ds S = Wop (L2.ixN ds.length i) (kPopi2 r ds Φ) S := rfl
theorem kPopi2_ {k : Nat} (h : ds[k]? = some d) : kPopi2 r ds Φ k S = Φ d (S.set r (.lst (ds.eraseIdx k))) := by
  unfold kPopi2
  rw [h]
  rfl
theorem Wp_popi : W (mthM .pop (.ref r) [.int i] S) Φ Ψ = (decide (-(2 ^ 63) ≤ i ∧ i < 2 ^ 63) = true ∧ Wcw S[r]? (kPopi r i Φ) S) := by
  show W ((M.need (decide (-(2 ^ 63) ≤ i ∧ i < 2 ^ 63)) >>= fun _ => getW r >>= fun ds => ofO (L2.ixN ds.length i) >>= fun k => ofO ds[k]? >>= fun x => setL r (ds.eraseIdx k) >>= fun _ => M.ret x) S) Φ Ψ = _
  rw [W_bind, W_need]
  refine congrArg (fun p => _ ∧ p) ?_
  rw [W_bind, W_getW]
  cases h : S[r]? with
  | none => rfl
  | some o =>
    cases o with
    | lst ds =>
      rw [Wcw_l, Wcw_l, kPopi_, W_bind, W_ofop]
      cases L2.ixN ds.length i with
      | none => rfl
      | some k =>
        rw [Wop_s, Wop_s]
        unfold kPopi2
        rw [W_bind, W_ofop]
        cases ds[k]? with
        | none => rfl
        | some d =>
          rw [Wop_s, Wop_s, W_bind, W_setL, h]
          rfl
    | _ => rfl
theorem Wr_tup : W (srcOf (.tup ds) S) ΦS Ψ = ΦS (.items ds) S := rfl
theorem Wr_ref : W (srcOf (.ref r) S) ΦS Ψ = Wcl S[r]? (kSrc (.cell r) ΦS) S := by show W ((getL r >>= fun _ => M.ret (Src.cell r)) S) ΦS Ψ = _; rw [W_bind, W_getL]; rfl
theorem Wr_enu : W (enuOf (.ref r) S) ΦS Ψ = Wcl S[r]? (kSrc (.enu (.cell r)) ΦS) S := by show W ((getL r >>= fun _ => M.ret (Src.enu (.cell r))) S) ΦS Ψ = _; rw [W_bind, W_getL]; rfl
theorem Wr_rng1 : W (rngM [.int i] S) ΦS Ψ = (in62 i = true ∧ ΦS (.items (rngD 0 i)) S) := by show W ((M.need (in62 i) >>= fun _ => M.ret (Src.items (rngD 0 i))) S) ΦS Ψ = _; rw [W_bind, W_need]; rfl
theorem Wr_rng2 : W (rngM [.int i, .int j] S) ΦS Ψ = ((in62 i && in62 j) = true ∧ ΦS (.items (rngD i j)) S) := by show W ((M.need (in62 i && in62 j) >>= fun _ => M.ret (Src.items (rngD i j))) S) ΦS Ψ = _; rw [W_bind, W_need]; rfl
theorem Wr_rng3 {c : Int} : W (rngM [.int i, .int j, .int c] S) ΦS Ψ = ((decide (c = -1) && (in62 i && in62 j)) = true ∧ ΦS (.items (rngDn i j)) S) := by show W ((M.need (decide (c = -1) && (in62 i && in62 j)) >>= fun _ => M.ret (Src.items (rngDn i j))) S) ΦS Ψ = _; rw [W_bind, W_need]; rfl
theorem Wg_v {Φ : Env → Store → Prop} {env : Env} {i : Nat} : W ((Tg.v i).bind d env S) Φ Ψ = Φ (env.set i (some d)) S := rfl
theorem Wg_t {Φ : Env → Store → Prop} {env : Env} {is : List Nat} : W ((Tg.t is).bind (.tup ds) env S) Φ Ψ = (decide (ds.length = is.length) = true ∧ Φ (setAll is ds env) S) := by show W ((M.need (decide (ds.length = is.length)) >>= fun _ => M.ret (setAll is ds env)) S) Φ Ψ = _; rw [W_bind, W_need]; rfl
theorem kBnd_ {Φ : Env → Store → Prop} {env : Env} {is : List Nat} : kBnd is env Φ ds S = (decide (ds.length = is.length) = true ∧ Φ (setAll is ds env) S) := rfl
theorem Wg_r {Φ : Env → Store → Prop} {env : Env} {is : List Nat} : W ((Tg.t is).bind (.ref r) env S) Φ Ψ = Wcl S[r]? (kBnd is env Φ) S := by
  show W ((getL r >>= fun ds => M.need (decide (ds.length = is.length)) >>= fun _ => M.ret (setAll is ds env)) S) Φ Ψ = _
  simp only [W_bind, W_getL, W_need, W_ret]
  rfl
theorem setAll_cons {i : Nat} {is : List Nat} {env : Env} : setAll (i :: is) (d :: ds) env = setAll is ds (env.set i (some d)) := rfl
theorem setAll_nil {env : Env} : setAll [] [] env = env := rfl
theorem wipe_nil {env : Env} : wipeE env [] = env := rfl
theorem wipe_cons {env : Env} {v : Nat} {vs : List Nat} : wipeE env (v :: vs) = (wipeE env vs).set v none := rfl
theorem get_set_self {c : Cell} (h : r < S.length) : (S.set r c)[r]? = some c := List.getElem?_set_self h
theorem get_set_ne {c : Cell} (h : r ≠ q) : (S.set r c)[q]? = S[q]? := List.getElem?_set_ne h
theorem get_app {l : List Cell} (h : r < S.length) : (S ++ l)[r]? = S[r]? := List.getElem?_append_left h
theorem get_new {c : Cell} : (S ++ [c])[S.length]? = some c := List.getElem?_concat_length
theorem set_set {c c' : Cell} : (S.set r c).set r c' = S.set r c' := List.set_set ..
theorem atI_pos (h : 0 ≤ i) : L2.atI ds i = ds[i.toNat]? := by
  unfold L2.atI L2.ixN
  rw [if_pos h]
  split
  · rfl
  · rename_i h1
    rw [List.getElem?_eq_none (by omega)]
    rfl
theorem atI_neg (h : i < 0) (h1 : -(ds.length : Int) ≤ i) : L2.atI ds i = ds[(i + ds.length).toNat]? := by
  unfold L2.atI L2.ixN
  rw [if_neg (by omega), if_pos h1]
  rfl
theorem ixN_pos {n : Nat} (h : 0 ≤ i) (h1 : i < n) : L2.ixN n i = some i.toNat := by
  unfold L2.ixN
  rw [if_pos h, if_pos h1]
theorem asBls_map {l : List Bool} : asBls (l.map D.bl) = some l := by
  induction l with
  | nil => rfl
  | cons b l ih =>
    show (asBls (l.map D.bl)).map (b :: ·) = _
    rw [ih]
    rfl
theorem asInts_map {l : List Int} : asInts (l.map D.int) = some l := by
  induction l with
  | nil => rfl
  | cons b l ih =>
    show (asInts (l.map D.int)).map (b :: ·) = _
    rw [ih]
    rfl
end
end Mi

/-! Mi, part T: the rules in one word. -/
namespace Mi
open PySem PySem.Spec
def miA0 := And.intro @W_bind (And.intro @W_bnd (And.intro @W_ret (And.intro @W_ok (And.intro @W_er (And.intro @W_pure (And.intro @W_need (And.intro @W_ofS (And.intro @W_ite (And.intro @Wif_t (And.intro @Wif_f (And.intro @We_lit (And.intro @We_var (And.intro @We_bin (And.intro @We_cmp (And.intro @We_chn (And.intro @We_neg (And.intro @We_not (And.intro @We_and (@We_or)))))))))))))))))))
def miA1 := And.intro @We_ite (And.intro @We_tup (And.intro @We_lst (And.intro @We_ix (And.intro @We_sl (And.intro @We_call (And.intro @We_blt (And.intro @We_mth (And.intro @We_lc (And.intro @Ws_nil (And.intro @Ws_cons (And.intro @Wo_none (And.intro @Wo_some (And.intro @Wc_none (And.intro @Wc_some (And.intro @Wi_seq (And.intro @Wi_rng (And.intro @Wi_enu (And.intro @WT (@WS_go)))))))))))))))))))
def miA2 := And.intro @WS_nil (And.intro @WS_cons (And.intro @Wx_expr (And.intro @Wx_asg (And.intro @Wx_asgIx (And.intro @Wx_aug (And.intro @Wx_ite (And.intro @Wx_whl (And.intro @Wx_for (And.intro @Wx_ret (And.intro @Wx_par (And.intro @Wx_raise (And.intro @Wx_retN (And.intro @Wx_brk (And.intro @Wx_cnt (And.intro @Wx_pass (And.intro @W_endOf (And.intro @Wend_nx (And.intro @Wend_rt (@loopK_nx)))))))))))))))))))
def miA3 := And.intro @loopK_ct (And.intro @loopK_bk (And.intro @loopK_rt (And.intro @kIx_ (And.intro @kAdd2_ (And.intro @kAdd_ (And.intro @cNg_ (And.intro @kTr_ (And.intro @kSet2_ (And.intro @kSet_ (And.intro @kSl_ (And.intro @kLen_ (And.intro @kTp_ (And.intro @kLs_ (And.intro @kAll2_ (And.intro @kAll_ (And.intro @kAny2_ (And.intro @kAny_ (And.intro @kSum2_ (@kSum_)))))))))))))))))))
def miA4 := And.intro @kIsi_ (And.intro @kIsis2_ (And.intro @kIsis_ (And.intro @kPre_ (And.intro @kApp_ (And.intro @kExt2_ (And.intro @kExt_ (And.intro @kPop2_ (And.intro @kPop_ (And.intro @kSrc_ (And.intro @W_getL (And.intro @W_getW (And.intro @W_newC (And.intro @W_setL (And.intro @W_ofop (And.intro @Wb_add (And.intro @Wb_sub (And.intro @Wb_mul (And.intro @Wb_fdiv (@Wb_mod)))))))))))))))))))
def miA5 := And.intro @Wb_pow (And.intro @Wb_addt (And.intro @Wb_mult (And.intro @Wb_adds (And.intro @Wb_addl (And.intro @Wa_add (And.intro @Wa_sub (And.intro @Wm_lt (And.intro @Wm_le (And.intro @Wm_gt (And.intro @Wm_ge (And.intro @Wm_eq (And.intro @Wm_ne (And.intro @Wm_is (And.intro @Wm_isnt (And.intro @Wm_in (And.intro @Wm_nin (And.intro @Wq_int (And.intro @Wq_str (@Wq_bl)))))))))))))))))))
def miA6 := And.intro @Wq_non (And.intro @Wq_is (And.intro @Wq_si (And.intro @Wi_bl (And.intro @Wi_non (And.intro @Wi_int (And.intro @Wi_tup (And.intro @Wi_ref (And.intro @Wi_str (And.intro @Wi_bln (And.intro @Wt_non (And.intro @Wt_bl (And.intro @Wt_int (And.intro @Wt_tup (And.intro @Wt_ref (And.intro @Wt_str (And.intro @Wx_tup (And.intro @Wx_ref (And.intro @Wx_set (@Wl_tup)))))))))))))))))))
def miA7 := And.intro @Wl_ref (And.intro @Wn_int (And.intro @Wk_lent (And.intro @Wk_lenr (And.intro @Wk_lens (And.intro @Wk_int (And.intro @Wk_intb (And.intro @Wk_tupt (And.intro @Wk_tupr (And.intro @Wk_lstt (And.intro @Wk_lstr (And.intro @Wk_max (And.intro @Wk_min (And.intro @Wk_abs (And.intro @Wk_all (And.intro @Wk_any (And.intro @Wk_sum (And.intro @Wk_repr (And.intro @W_tyM (@Wk_isi)))))))))))))))))))
def miA8 := And.intro @Wk_isis (And.intro @Wp_pre (And.intro @Wp_app (And.intro @Wp_ext (And.intro @Wp_pop (And.intro @kPopi_ (And.intro @kPopi2_ (And.intro @Wp_popi (And.intro @Wr_tup (And.intro @Wr_ref (And.intro @Wr_enu (And.intro @Wr_rng1 (And.intro @Wr_rng2 (And.intro @Wr_rng3 (And.intro @Wg_v (And.intro @Wg_t (And.intro @kBnd_ (And.intro @Wg_r (And.intro @cBin2_ (@cBin_)))))))))))))))))))
def miA9 := And.intro @cBl_ (And.intro @cCmp2_ (And.intro @cCmp_ (And.intro @cChn3_t (And.intro @cChn3_f (And.intro @cChn2_ (And.intro @cChn_ (And.intro @cNeg2_ (And.intro @cNeg_ (And.intro @cNot2_ (And.intro @cNot_ (And.intro @cAnd2_t (And.intro @cAnd2_f (And.intro @cAnd_ (And.intro @cOr2_t (And.intro @cOr2_f (And.intro @cOr_ (And.intro @cIte2_t (And.intro @cIte2_f (@cIte_)))))))))))))))))))
def miA10 := And.intro @cTup_ (And.intro @cLst_ (And.intro @cIx2_ (And.intro @cIx_ (And.intro @cSl3_ (And.intro @cSl2_ (And.intro @cSl_ (And.intro @cCall_ (And.intro @cBlt_ (And.intro @cMth3_ (And.intro @cMth2_ (And.intro @cMth_ (And.intro @cLc2_ (And.intro @cCons2_ (And.intro @cCons_ (And.intro @cOpt2_ (And.intro @cOpt_ (And.intro @cTr_ (And.intro @cSrc_ (@cEnu_)))))))))))))))))))
def miA11 := And.intro @cRng_ (And.intro @cVar_ (And.intro @cSeq_nx (And.intro @cSeq_rt (And.intro @cSeq_bk (And.intro @cSeq_ct (And.intro @cNx_ (And.intro @cNxE_ (And.intro @cNxU_ (And.intro @cAsg_ (And.intro @cSet3_ (And.intro @cSet2_ (And.intro @cSet_ (And.intro @cAug3_ (And.intro @cAug2_ (And.intro @cAug_ (And.intro @cIf2_t (And.intro @cIf2_f (And.intro @cIf_ (@cPar_)))))))))))))))))))
def miA12 := And.intro @cRaise_ (@cRet_)
def miA := And.intro @miA0 (And.intro @miA1 (And.intro @miA2 (And.intro @miA3 (And.intro @miA4 (And.intro @miA5 (And.intro @miA6 (And.intro @miA7 (And.intro @miA8 (And.intro @miA9 (And.intro @miA10 (And.intro @miA11 (@miA12))))))))))))
def miB := And.intro @Wopt_s (And.intro @Wcl_l (And.intro @Wcl_f (And.intro @Wcw_l (And.intro @Wop_s (And.intro @setAll_cons (And.intro @setAll_nil (And.intro @wipe_nil (And.intro @wipe_cons (And.intro @get_set_self (And.intro @get_set_ne (And.intro @get_app (And.intro @get_new (And.intro @set_set (And.intro @atI_pos (And.intro @ixN_pos (And.intro @ty_non (And.intro @ty_bl (And.intro @ty_int (And.intro @ty_str (And.intro @ty_tup (@ty_lst)))))))))))))))))))))
theorem sub_non_non : Ty.sub .non .non = true := rfl
theorem sub_non_bool : Ty.sub .non .bool = false := rfl
theorem sub_non_int : Ty.sub .non .int = false := rfl
theorem sub_non_str : Ty.sub .non .str = false := rfl
theorem sub_non_tup : Ty.sub .non .tup = false := rfl
theorem sub_non_lst : Ty.sub .non .lst = false := rfl
theorem sub_non_dic : Ty.sub .non .dic = false := rfl
theorem sub_bool_non : Ty.sub .bool .non = false := rfl
theorem sub_bool_bool : Ty.sub .bool .bool = true := rfl
theorem sub_bool_int : Ty.sub .bool .int = true := rfl
theorem sub_bool_str : Ty.sub .bool .str = false := rfl
theorem sub_bool_tup : Ty.sub .bool .tup = false := rfl
theorem sub_bool_lst : Ty.sub .bool .lst = false := rfl
theorem sub_bool_dic : Ty.sub .bool .dic = false := rfl
theorem sub_int_non : Ty.sub .int .non = false := rfl
theorem sub_int_bool : Ty.sub .int .bool = false := rfl
theorem sub_int_int : Ty.sub .int .int = true := rfl
theorem sub_int_str : Ty.sub .int .str = false := rfl
theorem sub_int_tup : Ty.sub .int .tup = false := rfl
theorem sub_int_lst : Ty.sub .int .lst = false := rfl
theorem sub_int_dic : Ty.sub .int .dic = false := rfl
theorem sub_str_non : Ty.sub .str .non = false := rfl
theorem sub_str_bool : Ty.sub .str .bool = false := rfl
theorem sub_str_int : Ty.sub .str .int = false := rfl
theorem sub_str_str : Ty.sub .str .str = true := rfl
theorem sub_str_tup : Ty.sub .str .tup = false := rfl
theorem sub_str_lst : Ty.sub .str .lst = false := rfl
theorem sub_str_dic : Ty.sub .str .dic = false := rfl
theorem sub_tup_non : Ty.sub .tup .non = false := rfl
theorem sub_tup_bool : Ty.sub .tup .bool = false := rfl
theorem sub_tup_int : Ty.sub .tup .int = false := rfl
theorem sub_tup_str : Ty.sub .tup .str = false := rfl
theorem sub_tup_tup : Ty.sub .tup .tup = true := rfl
theorem sub_tup_lst : Ty.sub .tup .lst = false := rfl
theorem sub_tup_dic : Ty.sub .tup .dic = false := rfl
theorem sub_lst_non : Ty.sub .lst .non = false := rfl
theorem sub_lst_bool : Ty.sub .lst .bool = false := rfl
theorem sub_lst_int : Ty.sub .lst .int = false := rfl
theorem sub_lst_str : Ty.sub .lst .str = false := rfl
theorem sub_lst_tup : Ty.sub .lst .tup = false := rfl
theorem sub_lst_lst : Ty.sub .lst .lst = true := rfl
theorem sub_lst_dic : Ty.sub .lst .dic = false := rfl
theorem sub_dic_non : Ty.sub .dic .non = false := rfl
theorem sub_dic_bool : Ty.sub .dic .bool = false := rfl
theorem sub_dic_int : Ty.sub .dic .int = false := rfl
theorem sub_dic_str : Ty.sub .dic .str = false := rfl
theorem sub_dic_tup : Ty.sub .dic .tup = false := rfl
theorem sub_dic_lst : Ty.sub .dic .lst = false := rfl
theorem sub_dic_dic : Ty.sub .dic .dic = true := rfl
def miC := And.intro @sub_non_non (And.intro @sub_non_bool (And.intro @sub_non_int (And.intro @sub_non_str (And.intro @sub_non_tup (And.intro @sub_non_lst (And.intro @sub_non_dic (And.intro @sub_bool_non (And.intro @sub_bool_bool (And.intro @sub_bool_int (And.intro @sub_bool_str (And.intro @sub_bool_tup (And.intro @sub_bool_lst (And.intro @sub_bool_dic (And.intro @sub_int_non (And.intro @sub_int_bool (And.intro @sub_int_int (And.intro @sub_int_str (And.intro @sub_int_tup (And.intro @sub_int_lst (And.intro @sub_int_dic (And.intro @sub_str_non (And.intro @sub_str_bool (And.intro @sub_str_int (And.intro @sub_str_str (And.intro @sub_str_tup (And.intro @sub_str_lst (And.intro @sub_str_dic (And.intro @sub_tup_non (And.intro @sub_tup_bool (And.intro @sub_tup_int (And.intro @sub_tup_str (And.intro @sub_tup_tup (And.intro @sub_tup_lst (And.intro @sub_tup_dic (And.intro @sub_lst_non (And.intro @sub_lst_bool (And.intro @sub_lst_int (And.intro @sub_lst_str (And.intro @sub_lst_tup (And.intro @sub_lst_lst (And.intro @sub_lst_dic (And.intro @sub_dic_non (And.intro @sub_dic_bool (And.intro @sub_dic_int (And.intro @sub_dic_str (And.intro @sub_dic_tup (And.intro @sub_dic_lst (@sub_dic_dic))))))))))))))))))))))))))))))))))))))))))))))))
theorem ex_nil {S : Store} : (∃ l, S = S ++ l) = True := eq_true ⟨[], by rw [List.append_nil]⟩
theorem ex_app {S l : Store} : (∃ m, S ++ l = S ++ m) = True := eq_true ⟨l, rfl⟩
theorem ex_app2 {S l k : Store} : (∃ m, S ++ l ++ k = S ++ m) = True := eq_true ⟨l ++ k, by rw [List.append_assoc]⟩
theorem ex_app3 {S l k j : Store} : (∃ m, S ++ l ++ k ++ j = S ++ m) = True := eq_true ⟨l ++ k ++ j, by rw [List.append_assoc, List.append_assoc, List.append_assoc]⟩
theorem ex_app4 {S l k j i : Store} : (∃ m, S ++ l ++ k ++ j ++ i = S ++ m) = True := eq_true ⟨l ++ k ++ j ++ i, by simp only [List.append_assoc]⟩
theorem ex_app5 {S l k j i h : Store} : (∃ m, S ++ l ++ k ++ j ++ i ++ h = S ++ m) = True := eq_true ⟨l ++ k ++ j ++ i ++ h, by simp only [List.append_assoc]⟩
theorem ex_app6 {S l k j i h g : Store} : (∃ m, S ++ l ++ k ++ j ++ i ++ h ++ g = S ++ m) = True := eq_true ⟨l ++ k ++ j ++ i ++ h ++ g, by simp only [List.append_assoc]⟩
end Mi

/-! Mi, part U: what the texts share: rubbish, drawing, ranges. -/
namespace Mi
open PySem PySem.Spec
/-! ### rubbish -/
theorem gcOkN_set {n : Nat} : ∀ (S l : Store) (b : Nat) (c : Cell), Cell.low n c = true → gcOkN n S (S.set b c ++ l) = true
  | [], l, b, c, h => rfl
  | c0 :: S, l, 0, c, h => by
    show ((Cell.same c c0 || Cell.low n c) && gcOkN n S (S ++ l)) = true
    have : gcOkN n S (S ++ l) = true := by
      have := gcOkN_set S l S.length c h
      rwa [List.set_eq_of_length_le (Nat.le_refl _)] at this
    rw [this, h, Bool.or_true, Bool.and_true]
  | c0 :: S, l, b + 1, c, h => by
    show ((Cell.same c0 c0 || Cell.low n c0) && gcOkN n S (S.set b c ++ l)) = true
    rw [gcOkN_set S l b c h, Cell.same_refl, Bool.true_or, Bool.and_true]
theorem gcOk_set (S l : Store) (b : Nat) (c : Cell) (h : Cell.low S.length c = true) : gcOk S (S.set b c ++ l) = true := gcOkN_set S l b c h
theorem gcOk_app (S l : Store) : gcOk S (S ++ l) = true := by
  have := gcOk_set S l S.length (.lst []) rfl
  rwa [List.set_eq_of_length_le (Nat.le_refl _)] at this
section
variable {S : Store} {o : Out D} {Φ : D → Store → Prop} {Ψ : Exn → Store → Prop}
theorem gc_app {l : Store} {d : D} (h : D.pure d = true) : gc S (.ok d (S ++ l)) = .ok d S := by
  unfold gc
  dsimp only
  rw [gcOk_app, if_pos rfl, if_pos (low_of_pure h), List.take_left']
  rfl
theorem gc_set {l : Store} {d : D} {b : Nat} {c : Cell} (h : D.pure d = true) (hc : Cell.pure c = true) : gc S (.ok d (S.set b c ++ l)) = .ok d (S.set b c) := by
  unfold gc
  dsimp only
  rw [gcOk_set _ _ _ _ (Cell.low_of_pure hc), if_pos rfl, if_pos (low_of_pure h), List.take_left']
  rw [List.length_set]
theorem gc_set0 {d : D} {b : Nat} {c : Cell} (h : D.pure d = true) (hc : Cell.pure c = true) : gc S (.ok d (S.set b c)) = .ok d (S.set b c) := by
  have := gc_set (S := S) (l := []) (b := b) h hc
  rwa [List.append_nil] at this
theorem gc_self {d : D} : gc S (.ok d S) = .ok d S := by
  unfold gc
  dsimp only
  have h : gcOk S S = true := by
    have := gcOk_app S []
    rwa [List.append_nil] at this
  rw [if_pos h, List.take_length]
  split
  · rfl
  · cases d with
    | ref n =>
      dsimp only
      split
      · rename_i h1
        rw [List.getElem?_eq_none (of_decide_eq_true h1)]
      · rfl
    | _ => rfl
theorem gc_new {l : Store} {n : Nat} {c : Cell} (hn : S.length ≤ n) (hc : (S ++ l)[n]? = some c) (hp : Cell.pure c = true) : gc S (.ok (.ref n) (S ++ l)) = .ok (.ref S.length) (S ++ [c]) := by
  unfold gc
  dsimp only
  rw [gcOk_app, if_pos rfl, if_neg (show ¬(D.low S.length (.ref n) = true) from fun z => by have := of_decide_eq_true z; omega), if_pos (decide_eq_true hn), hc]
  dsimp only
  rw [if_pos (Cell.low_of_pure hp), List.take_left']
  rfl
/-- any end -/
theorem W_gc (h : W o (fun d S' => Φ d S' ∧ (D.low S.length d = true → gcOk S S' = true → Φ d (S'.take S.length)) ∧ (∀ n c, d = .ref n → S.length ≤ n → S'[n]? = some c → Cell.low S.length c = true → gcOk S S' = true → Φ (.ref S.length) (S'.take S.length ++ [c]))) NoEx) : W (gc S o) Φ Ψ := by
  cases o with
  | ok d S' =>
    obtain ⟨h1, h2, h3⟩ := h
    unfold gc
    dsimp only
    split
    · rename_i g
      split
      · rename_i hp
        exact h2 hp g
      · split
        · split
          · rename_i hn
            split
            · rename_i c hc
              split
              · rename_i hcp
                exact h3 _ c rfl (of_decide_eq_true hn) hc hcp g
              · exact h1
            · exact h1
          · exact h1
        · exact h1
    · exact h1
  | er e S' => exact h.elim
  | no => exact h.elim
/-- a plain answer, the store as it was -/
theorem gc_is {d : D} (h : W o (fun d' S' => d' = d ∧ ∃ l, S' = S ++ l) NoEx) (hd : D.pure d = true) : gc S o = .ok d S := by
  cases o with
  | ok d' S' =>
    obtain ⟨rfl, l, rfl⟩ := h
    exact gc_app hd
  | er e S' => exact h.elim
  | no => exact h.elim
end
theorem app_nil_ex {S : Store} : ∃ l, S = S ++ l := ⟨[], by rw [List.append_nil]⟩
theorem app_ex {S l : Store} : ∃ l', S ++ l = S ++ l' := ⟨l, rfl⟩
theorem app_ex2 {S l m : Store} : ∃ l', S ++ l ++ m = S ++ l' := ⟨l ++ m, by rw [List.append_assoc]⟩
/-! ### ranges -/
theorem rngD_len (lo n : Int) : (rngD lo n).length = (n - lo).toNat := by
  unfold rngD
  rw [List.length_map, List.length_range]
theorem rngD_at {lo n : Int} {j : Nat} {d : D} (h : (rngD lo n)[j]? = some d) : d = .int (lo + j) ∧ (j : Int) < n - lo := by
  unfold rngD at h
  rw [List.getElem?_map, Option.map_eq_some_iff] at h
  obtain ⟨k, h1, h2⟩ := h
  have h3 := List.getElem?_eq_some_iff.mp h1
  obtain ⟨h4, h5⟩ := h3
  rw [List.getElem_range] at h5
  rw [List.length_range] at h4
  subst h5
  exact ⟨h2.symm, by omega⟩
theorem in62_by {i : Int} (h : -1000000000 ≤ i) (h1 : i ≤ 1000000000) : in62 i = true := decide_eq_true ⟨by omega, by omega⟩
theorem inW_by {i : Int} (h : -1000000000000 ≤ i) (h1 : i ≤ 1000000000000) : inW i = true := decide_eq_true ⟨by omega, by omega⟩
theorem inWr {i j : Int} (h : -1000000000000 ≤ j ∧ j ≤ 1000000000000) : (inW i || inW j) = true := by rw [inW_by h.1 h.2, Bool.or_true]
theorem inWl {i j : Int} (h : -1000000000000 ≤ i ∧ i ≤ 1000000000000) : (inW i || inW j) = true := by rw [inW_by h.1 h.2, Bool.true_or]
theorem in62r {i : Int} (h : -1000000000 ≤ i ∧ i ≤ 1000000000) : in62 i = true := in62_by h.1 h.2
/-! ### drawing -/
abbrev bg (x0 x1 x2 x3 : Int) : Cell := .lst [.int x0, .int x1, .int x2, .int x3]
abbrev drawA : List Sx :=
  [.ite (.cmp .lt (.var 1) (.lit (.int 1))) [.ret (.lit (.int 0))] [], .ite (.cmp .eq (.ix (.var 0) (.lit (.int 0))) (.lit (.int 0))) [.asgIx (.var 0) (.lit (.int 2)) (.bin .add (.ix (.var 0) (.lit (.int 2))) (.lit (.int 1))), .asg (.v 3) (.bin .mod (.blt .int [.bin .add (.bin .add (.bin .add (.bin .mul (.ix (.var 0) (.lit (.int 1))) (.lit (.int 48271))) (.bin .mul (.ix (.var 0) (.lit (.int 3))) (.lit (.int 69621)))) (.bin .mul (.ix (.var 0) (.lit (.int 2))) (.lit (.int 16807)))) (.lit (.int 11))]) (.lit (.int 2147483647))), .asgIx (.var 0) (.lit (.int 0)) (.bin .add (.bin .mul (.var 3) (.lit (.int 2147483629))) (.bin .mod (.blt .int [.bin .add (.bin .mul (.var 3) (.var 3)) (.ix (.var 0) (.lit (.int 3)))]) (.lit (.int 2147483629)))), .ite (.and (.cmp .eq (.ix (.var 0) (.lit (.int 2))) (.lit (.int 1))) (.cmp .ge (.ix (.var 0) (.lit (.int 3))) (.bin .pow (.lit (.int 10)) (.lit (.int 18))))) [.asgIx (.var 0) (.lit (.int 0)) (.ix (.var 0) (.lit (.int 3)))] [], .asgIx (.var 0) (.lit (.int 1)) (.var 3)] [], .asg (.v 2) (.ix (.var 0) (.lit (.int 0))), .asgIx (.var 0) (.lit (.int 0)) (.bin .fdiv (.var 2) (.var 1)), .ret (.bin .mod (.blt .int [.var 2]) (.var 1))]
section
variable {G : Gen} {S : Store} {b : Nat} {x0 x1 x2 x3 m : Int}
theorem drawA_body (hb : S[b]? = some (bg x0 x1 x2 x3)) (h1 : 1 ≤ m) (h2 : m < 1000000000) : W (endOf (xss G drawA [some (.ref b), some (.int m), none, none] S)) (fun d S' => ∃ v y0 y1 y2, d = .int v ∧ 0 ≤ v ∧ v < m ∧ S' = S.set b (bg y0 y1 y2 x3)) NoEx := by
  have hlt : b < S.length := (List.getElem?_eq_some_iff.mp hb).1
  unfold drawA
  simp (disch := first | assumption | rfl | omega | (simp only [List.length_set, List.length_append, List.length_cons, List.length_nil, List.length_map]; omega) | decide +kernel) only [↓miA, miB, miC, ex_nil, ex_app, ex_app2, ex_app3, ex_app4, ex_app5, ex_app6, in62r, inWr, inWl, lim, List.length_set, List.length_cons, List.length_nil, List.getElem?_cons_zero, List.getElem?_cons_succ, List.set_cons_zero, List.set_cons_succ, Int.reduceToNat, eq_self, List.zip_nil_left, List.zip_nil_right, List.zip_cons_cons, decide_true, decide_eq_true, decide_eq_false, Bool.not_true, Bool.not_false, Bool.and_true, Bool.and_false, Bool.true_and, Bool.false_and, Bool.or_true, Bool.or_false, Bool.true_or, Bool.false_or, Bool.not_not, List.isEmpty_nil, List.isEmpty_cons, true_and, and_true, hb]
  by_cases h0 : x0 = 0
  · subst h0
    have s1 := Int.fmod_nonneg_of_pos (x1 * 48271 + x3 * 69621 + (x2 + 1) * 16807 + 11) (show (0 : Int) < 2147483647 by omega)
    have s2 := Int.fmod_lt_of_pos (x1 * 48271 + x3 * 69621 + (x2 + 1) * 16807 + 11) (show (0 : Int) < 2147483647 by omega)
    have i1 : inW ((x1 * 48271 + x3 * 69621 + (x2 + 1) * 16807 + 11).fmod 2147483647) = true := inW_by (by omega) (by omega)
    by_cases h3 : x2 + 1 = 1 <;> by_cases h4 : x3 ≥ 1000000000000000000 <;> simp (disch := first | assumption | rfl | omega | (simp only [List.length_set, List.length_append, List.length_cons, List.length_nil, List.length_map]; omega) | decide +kernel) only [↓miA, miB, miC, ex_nil, ex_app, ex_app2, ex_app3, ex_app4, ex_app5, ex_app6, in62r, inWr, inWl, lim, List.length_set, List.length_cons, List.length_nil, List.getElem?_cons_zero, List.getElem?_cons_succ, List.set_cons_zero, List.set_cons_succ, Int.reduceToNat, eq_self, List.zip_nil_left, List.zip_nil_right, List.zip_cons_cons, decide_true, decide_eq_true, decide_eq_false, Bool.not_true, Bool.not_false, Bool.and_true, Bool.and_false, Bool.true_and, Bool.false_and, Bool.or_true, Bool.or_false, Bool.true_or, Bool.false_or, Bool.not_not, List.isEmpty_nil, List.isEmpty_cons, true_and, and_true, hb, inWr, i1, Bool.true_or, show (10 : Int) ^ Int.toNat 18 = 1000000000000000000 from rfl] <;> exact ⟨_, _, _, _, rfl, Int.fmod_nonneg_of_pos _ (by omega), Int.fmod_lt_of_pos _ (by omega), rfl⟩
  · simp (disch := first | assumption | rfl | omega | (simp only [List.length_set, List.length_append, List.length_cons, List.length_nil, List.length_map]; omega) | decide +kernel) only [↓miA, miB, miC, ex_nil, ex_app, ex_app2, ex_app3, ex_app4, ex_app5, ex_app6, in62r, inWr, inWl, lim, List.length_set, List.length_cons, List.length_nil, List.getElem?_cons_zero, List.getElem?_cons_succ, List.set_cons_zero, List.set_cons_succ, Int.reduceToNat, eq_self, List.zip_nil_left, List.zip_nil_right, List.zip_cons_cons, decide_true, decide_eq_true, decide_eq_false, Bool.not_true, Bool.not_false, Bool.and_true, Bool.and_false, Bool.true_and, Bool.false_and, Bool.or_true, Bool.or_false, Bool.true_or, Bool.false_or, Bool.not_not, List.isEmpty_nil, List.isEmpty_cons, true_and, and_true, hb]
    exact ⟨_, _, _, _, rfl, Int.fmod_nonneg_of_pos _ (by omega), Int.fmod_lt_of_pos _ (by omega), rfl⟩
end
section
variable {p : Prg} {i : Nat} (hc : ∀ (k : Nat) (a b : D) (S : Store), callN p (k + 1) i [a, b] S = gc S (endOf (xss ⟨callN p k, 1000000⟩ drawA [some a, some b, none, none] S)))
include hc
theorem drawA_at {k : Nat} {S : Store} {b : Nat} {x0 x1 x2 x3 m : Int} (hk : 1 ≤ k) (hb : S[b]? = some (bg x0 x1 x2 x3)) (h1 : 1 ≤ m) (h2 : m < 1000000000) :
    ∃ v y0 y1 y2, callN p k i [.ref b, .int m] S = .ok (.int v) (S.set b (bg y0 y1 y2 x3)) ∧ 0 ≤ v ∧ v < m := by
  obtain ⟨k, rfl⟩ : ∃ j, k = j + 1 := ⟨k - 1, by omega⟩
  rw [hc]
  have h := drawA_body (G := ⟨callN p k, 1000000⟩) hb h1 h2
  cases e : endOf (xss ⟨callN p k, 1000000⟩ drawA [some (.ref b), some (.int m), none, none] S) with
  | ok d S' =>
    rw [e] at h
    obtain ⟨v, y0, y1, y2, rfl, v0, v1, rfl⟩ := h
    exact ⟨v, y0, y1, y2, gc_set0 rfl rfl, v0, v1⟩
  | er e S' => rw [e] at h; exact h.elim
  | no => rw [e] at h; exact h.elim
theorem drawA_on {k : Nat} {S : Store} {b : Nat} {x0 x1 x2 x3 m : Int} (hk : 1 ≤ k) (hlt : b < S.length) (h1 : 1 ≤ m) (h2 : m < 1000000000) :
    ∃ v y0 y1 y2, callN p k i [.ref b, .int m] (S.set b (bg x0 x1 x2 x3)) = .ok (.int v) (S.set b (bg y0 y1 y2 x3)) ∧ 0 ≤ v ∧ v < m := by
  obtain ⟨v, y0, y1, y2, e, v0, v1⟩ := drawA_at hc (S := S.set b (bg x0 x1 x2 x3)) hk (List.getElem?_set_self hlt) h1 h2
  rw [set_set] at e
  exact ⟨v, y0, y1, y2, e, v0, v1⟩
end
end Mi

/-! Mi, part V: plain values of any form. -/
namespace Mi
open PySem PySem.Spec
/-- all but the bag stays -/
def Ext (b : Nat) (S S' : Store) : Prop := ∀ r c, b < r → S[r]? = some c → S'[r]? = some c
theorem Ext.refl {b : Nat} {S : Store} : Ext b S S := fun _ _ _ h => h
theorem Ext.trans {b : Nat} {S S' S2 : Store} (h : Ext b S S') (h' : Ext b S' S2) : Ext b S S2 := fun r c n e => h' r c n (h r c n e)
theorem Ext.app {b : Nat} {S l : Store} : Ext b S (S ++ l) := fun r c _ e => by
  rw [List.getElem?_append_left (List.getElem?_eq_some_iff.mp e).1]
  exact e
theorem Ext.set {b : Nat} {S : Store} {c : Cell} : Ext b S (S.set b c) := fun r c' n e => by
  rw [List.getElem?_set_ne (by omega)]
  exact e
theorem Ext.take {b : Nat} {S S' : Store} (h : Ext b S S') : Ext b S (S'.take S.length) := fun r c n e => by
  rw [List.getElem?_take, if_pos (List.getElem?_eq_some_iff.mp e).1]
  exact h r c n e
theorem Ext.len {b : Nat} {S S' : Store} (h : Ext b S S') {c : Cell} (hb : S'[b]? = some c) : S.length ≤ S'.length := by
  by_cases h0 : S.length = 0
  · omega
  · by_cases h1 : S.length - 1 ≤ b
    · have := (List.getElem?_eq_some_iff.mp hb).1
      omega
    · have e : S[S.length - 1]? = some S[S.length - 1] := List.getElem?_eq_getElem (by omega)
      have := (List.getElem?_eq_some_iff.mp (h _ _ (by omega) e)).1
      omega
def Pl (S : Store) (b L : Nat) : Nat → D → Prop
  | 0, _ => False
  | _ + 1, .non => True
  | _ + 1, .bl _ => True
  | _ + 1, .int _ => True
  | _ + 1, .str x => PyData.strOk x = true
  | n + 1, .tup ds => ds.length ≤ L ∧ ∀ e ∈ ds, Pl S b L n e
  | n + 1, .ref r => b < r ∧ ∃ ds, S[r]? = some (.lst ds) ∧ ds.length ≤ L ∧ ∀ e ∈ ds, Pl S b L n e
  | _, _ => False
section
variable {S S' : Store} {b L : Nat}
theorem Pl.up : ∀ {n : Nat} {d : D}, Pl S b L n d → Pl S b L (n + 1) d
  | 0, _, h => h.elim
  | n + 1, .non, h => trivial
  | n + 1, .bl _, h => trivial
  | n + 1, .int _, h => trivial
  | n + 1, .str _, h => h
  | n + 1, .tup ds, h => ⟨h.1, fun e he => Pl.up (h.2 e he)⟩
  | n + 1, .ref r, h => by
    obtain ⟨h1, ds, h2, h3, h4⟩ := h
    exact ⟨h1, ds, h2, h3, fun e he => Pl.up (h4 e he)⟩
theorem Pl.mono {n m : Nat} {d : D} (h : Pl S b L n d) (hm : n ≤ m) : Pl S b L m d := by
  obtain ⟨k, rfl⟩ : ∃ k, m = n + k := ⟨m - n, by omega⟩
  clear hm
  induction k with
  | zero => exact h
  | succ k ih => exact ih.up
theorem Pl.wide {L' : Nat} (hL : L ≤ L') : ∀ {n : Nat} {d : D}, Pl S b L n d → Pl S b L' n d
  | 0, _, h => h.elim
  | n + 1, .non, h => trivial
  | n + 1, .bl _, h => trivial
  | n + 1, .int _, h => trivial
  | n + 1, .str _, h => h
  | n + 1, .tup ds, h => ⟨Nat.le_trans h.1 hL, fun e he => Pl.wide hL (h.2 e he)⟩
  | n + 1, .ref r, h => by
    obtain ⟨h1, ds, h2, h3, h4⟩ := h
    exact ⟨h1, ds, h2, Nat.le_trans h3 hL, fun e he => Pl.wide hL (h4 e he)⟩
theorem Pl.ext (x : Ext b S S') : ∀ {n : Nat} {d : D}, Pl S b L n d → Pl S' b L n d
  | 0, _, h => h.elim
  | n + 1, .non, h => trivial
  | n + 1, .bl _, h => trivial
  | n + 1, .int _, h => trivial
  | n + 1, .str _, h => h
  | n + 1, .tup ds, h => ⟨h.1, fun e he => Pl.ext x (h.2 e he)⟩
  | n + 1, .ref r, h => by
    obtain ⟨h1, ds, h2, h3, h4⟩ := h
    exact ⟨h1, ds, x r _ h1 h2, h3, fun e he => Pl.ext x (h4 e he)⟩
theorem pures_mem : ∀ {ds : List D} {e : D}, pures ds = true → e ∈ ds → D.pure e = true
  | d :: ds, e, h, he => by
    have h : (D.pure d && pures ds) = true := h
    rw [Bool.and_eq_true] at h
    rcases List.mem_cons.mp he with rfl | he
    · exact h.1
    · exact pures_mem h.2 he
theorem Pl.pur : ∀ {n : Nat} {d : D}, D.pure d = true → Pl S b L n d → Pl S' b L n d
  | 0, _, _, h => h.elim
  | n + 1, .non, _, h => trivial
  | n + 1, .bl _, _, h => trivial
  | n + 1, .int _, _, h => trivial
  | n + 1, .str _, _, h => h
  | n + 1, .tup ds, p, h => ⟨h.1, fun e he => Pl.pur (pures_mem p he) (h.2 e he)⟩
  | n + 1, .ref r, p, h => nomatch p
theorem mapM_ex {α β : Type} {f : α → Option β} : ∀ {l : List α}, (∀ a ∈ l, ∃ p, f a = some p) → ∃ ps, l.mapM f = some ps
  | [], _ => ⟨[], rfl⟩
  | a :: l, h => by
    obtain ⟨p, hp⟩ := h a List.mem_cons_self
    obtain ⟨ps, hps⟩ := mapM_ex (l := l) fun a ha => h a (List.mem_cons_of_mem _ ha)
    exact ⟨p :: ps, by rw [List.mapM_cons, hp, hps]; rfl⟩
theorem Pl.py : ∀ {n : Nat} {d : D}, Pl S b L n d → ∃ p, toPy S n d = some p
  | 0, _, h => h.elim
  | n + 1, .non, h => ⟨_, rfl⟩
  | n + 1, .bl _, h => ⟨_, rfl⟩
  | n + 1, .int _, h => ⟨_, rfl⟩
  | n + 1, .str x, h => ⟨.str x, by unfold toPy; exact if_pos h⟩
  | n + 1, .tup ds, h => by
    obtain ⟨ps, e⟩ := mapM_ex (f := toPy S n) fun a ha => Pl.py (h.2 a ha)
    exact ⟨.tuple ps, by show (ds.mapM (toPy S n)).map PyData.tuple = _; rw [e]; rfl⟩
  | n + 1, .ref r, h => by
    obtain ⟨h1, ds, h2, h3, h4⟩ := h
    obtain ⟨ps, e⟩ := mapM_ex (f := toPy S n) fun a ha => Pl.py (h4 a ha)
    exact ⟨.list ps, by unfold toPy; dsimp only; rw [h2]; dsimp only; rw [e]; rfl⟩
theorem Pl.ty {n : Nat} {d : D} (h : Pl S b L n d) : ∃ t, tyOf' S d = some t := by
  cases n with
  | zero => exact h.elim
  | succ n =>
    cases d with
    | ref r =>
      obtain ⟨h1, ds, h2, h3, h4⟩ := h
      exact ⟨.lst, ty_lst h2⟩
    | fn => exact h.elim
    | ty => exact h.elim
    | _ => exact ⟨_, rfl⟩
def isStr (x : Str) : D → Bool
  | .str y => decide (y = x)
  | _ => false
theorem eqM_str {n : Nat} {d : D} {x : Str} (h : Pl S b L n d) (hn : n ≤ 60) (hx : PyData.strOk x = true) : eqM d (.str x) S = .ok (isStr x d) S := by
  have hq : toPy S 60 (.str x) = some (.str x) := if_pos hx
  obtain ⟨p, hp⟩ := (h.mono hn).py
  cases d with
  | str y => rfl
  | int i => rfl
  | non => show (match toPy S 60 _, toPy S 60 (.str x) with | some p, some q => .ok (PyData.eqv p q) S | _, _ => .no : Out Bool) = _; rw [hp, hq]; cases hp; rfl
  | bl c => show (match toPy S 60 _, toPy S 60 (.str x) with | some p, some q => .ok (PyData.eqv p q) S | _, _ => .no : Out Bool) = _; rw [hp, hq]; cases hp; rfl
  | tup ds =>
    show (match toPy S 60 _, toPy S 60 (.str x) with | some p, some q => .ok (PyData.eqv p q) S | _, _ => .no : Out Bool) = _
    rw [hp, hq]
    unfold toPy at hp
    rw [Option.map_eq_some_iff] at hp
    obtain ⟨ps, _, rfl⟩ := hp
    rfl
  | ref r =>
    show (match toPy S 60 _, toPy S 60 (.str x) with | some p, some q => .ok (PyData.eqv p q) S | _, _ => .no : Out Bool) = _
    rw [hp, hq]
    have h' := h.mono hn
    obtain ⟨h1, ds, h2, h3, h4⟩ := h'
    unfold toPy at hp
    dsimp only at hp
    rw [h2] at hp
    dsimp only at hp
    rw [Option.map_eq_some_iff] at hp
    obtain ⟨ps, _, rfl⟩ := hp
    rfl
  | fn f => exact (h.mono hn).elim
  | ty f => exact (h.mono hn).elim
end
theorem eqM_nil {S : Store} {b L n : Nat} {cs : List D} (h : Pl S b L n (.tup cs)) (hn : n ≤ 60) : eqM (.tup cs) (.tup []) S = .ok cs.isEmpty S := by
  obtain ⟨p, hp⟩ := (h.mono hn).py
  have hq : toPy S 60 (.tup []) = some (.tuple []) := rfl
  show (match toPy S 60 _, toPy S 60 (.tup []) with | some p, some q => .ok (PyData.eqv p q) S | _, _ => .no : Out Bool) = _
  rw [hp, hq]
  have hp : (cs.mapM (toPy S 59)).map PyData.tuple = some p := hp
  cases cs with
  | nil => cases hp; rfl
  | cons c cs =>
    rw [List.mapM_cons] at hp
    cases h1 : toPy S 59 c with
    | none => rw [h1] at hp; cases hp
    | some p1 =>
      cases h2 : cs.mapM (toPy S 59) with
      | none => rw [h1, h2] at hp; cases hp
      | some ps => rw [h1, h2] at hp; cases hp; rfl
/-! ### loops over any source -/
section
variable {Φ : Unit → Store → Prop} {Ψ : Exn → Store → Prop}
theorem lc_src {s : Src} {ds : List D} {tg : Tg} {c : Env → M Bool} {e : Env → M D} {env : Env} {r : Nat} (I : Nat → List D → Store → Prop)
    (ha : ∀ j acc T, I j acc T → s.at j T = .ok ds[j]? T)
    (hs : ∀ j d acc S, ds[j]? = some d → I j acc S → S[r]? = some (.lst acc) → acc.length ≤ j → W (tg.bind d env S) (fun env1 S2 => W (c env1 S2) (fun k S3 => Wif k (W (e env1 S3) (fun x S4 => S4[r]? = some (.lst acc) ∧ I (j + 1) (acc ++ [x]) (S4.set r (.lst (acc ++ [x])))) Ψ)
      (S3[r]? = some (.lst acc) ∧ I (j + 1) acc S3)) Ψ) Ψ)
    (he : ∀ acc S, I ds.length acc S → S[r]? = some (.lst acc) → Φ () S) (hl : ds.length ≤ lim) : ∀ (n i : Nat) (acc : List D) (S : Store), i ≤ ds.length → ds.length < n + i → acc.length ≤ i → I i acc S → S[r]? = some (.lst acc) → W (lcLoop s tg c e env r n i S) Φ Ψ
  | 0, i, acc, S, h1, h2, h3, h, g => by omega
  | n + 1, i, acc, S, h1, h2, h3, h, g => by
    rw [lc_one, ha i acc S h, W_ok]
    cases q : ds[i]? with
    | none =>
      dsimp only
      have : ds.length ≤ i := List.getElem?_eq_none_iff.mp q
      have e1 : i = ds.length := by omega
      rw [e1] at h
      exact he _ _ h g
    | some d =>
      dsimp only
      have hi : i < ds.length := (List.getElem?_eq_some_iff.mp q).1
      refine W_mono (hs i d acc S q h g h3) (fun env1 S2 h4 => W_mono h4 (fun k S3 h5 => ⟨fun ek => W_mono (h5.1 ek) (fun x S4 h6 => ?_) fun _ _ h => h, fun ek => ?_⟩) fun _ _ h => h) fun _ _ h => h
      · obtain ⟨g4, i4⟩ := h6
        have e4 : getW r S4 = .ok acc S4 := by
          unfold getW
          rw [g4]
        rw [e4, W_ok]
        have e5 : setL r (acc ++ [x]) S4 = .ok () (S4.set r (.lst (acc ++ [x]))) := by
          unfold setL
          rw [g4]
        refine ⟨decide_eq_true (by omega), ?_⟩
        rw [e5, W_ok]
        have hr : r < S4.length := (List.getElem?_eq_some_iff.mp g4).1
        exact lc_src I ha hs he hl n (i + 1) _ _ (by omega) (by omega) (by rw [List.length_append]; simp only [List.length_cons, List.length_nil]; omega) i4 (List.getElem?_set_self hr)
      · obtain ⟨g4, i4⟩ := h5.2 ek
        exact lc_src I ha hs he hl n (i + 1) _ _ (by omega) (by omega) (by omega) i4 g4
end
section
variable {Φ : D → Store → Prop} {G : Gen} {tg : Tg} {e : Ex} {env : Env} {S : Store} {ds : List D} {s : Src}
/-- a comprehension without a test, by an invariant -/
theorem lcI (I : Nat → List D → Store → Prop) (ha : ∀ j acc T, I j acc T → s.at j T = .ok ds[j]? T) (hL : ds.length < G.L) (hl : ds.length ≤ 1000000) (h0 : I 0 [] (S ++ [.lst []]))
    (hs : ∀ j d acc T, ds[j]? = some d → I j acc T → T[S.length]? = some (.lst acc) → W (tg.bind d env T) (fun env1 T1 => W (ev G e env1 T1) (fun x T2 => T2[S.length]? = some (.lst acc) ∧ I (j + 1) (acc ++ [x]) (T2.set S.length (.lst (acc ++ [x])))) NoEx) NoEx)
    (he : ∀ acc T, I ds.length acc T → T[S.length]? = some (.lst acc) → Φ (.ref S.length) T) : cLc G tg none e env Φ s S := by
  unfold cLc
  refine lc_src (ds := ds) I ha (fun j d acc T h1 h2 h3 h4 => ?_) (fun acc T h1 h2 => he acc T h1 h2) hl _ 0 [] _ (Nat.zero_le _) (by omega) (Nat.zero_le _) h0 get_new
  refine W_mono (hs j d acc T h1 h2 h3) (fun env1 T1 h5 => ?_) fun _ _ h => h
  rw [Wc_none]
  exact ⟨fun _ => h5, nofun⟩
theorem at_items {j : Nat} {T : Store} : Src.at (.items ds) j T = .ok ds[j]? T := rfl
theorem at_cell {r j : Nat} {T : Store} (h : T[r]? = some (.lst ds) ∨ T[r]? = some (.frz ds)) : Src.at (.cell r) j T = .ok ds[j]? T := by
  show M.bnd (getL r) _ T = _
  unfold M.bnd getL
  rcases h with h | h <;> rw [h] <;> rfl
/-- a comprehension that leaves nothing behind -/
theorem lcM (f : D → D) (ha : ∀ j l, s.at j (S ++ l) = .ok ds[j]? (S ++ l)) (hL : ds.length < G.L) (hl : ds.length ≤ 1000000)
    (h : ∀ d acc, d ∈ ds → W (tg.bind d env (S ++ [.lst acc])) (fun env1 T1 => W (ev G e env1 T1) (fun x T2 => x = f d ∧ T2 = S ++ [.lst acc]) NoEx) NoEx) (hΦ : Φ (.ref S.length) (S ++ [.lst (ds.map f)])) : cLc G tg none e env Φ s S := by
  refine lcI (ds := ds) (fun j acc T => acc = (ds.take j).map f ∧ T = S ++ [.lst acc]) (fun j acc T h => ?_) hL hl ⟨rfl, rfl⟩ (fun j d acc T h1 h2 h3 => ?_) (fun acc T h1 h2 => ?_)
  · obtain ⟨rfl, rfl⟩ := h
    exact ha _ _
  · obtain ⟨h4, rfl⟩ := h2
    refine W_mono (h d acc (List.mem_of_getElem? h1)) (fun env1 T1 h5 => W_mono h5 (fun x T2 h6 => ?_) fun _ _ h => h) fun _ _ h => h
    obtain ⟨rfl, rfl⟩ := h6
    refine ⟨get_new, ?_, ?_⟩
    · rw [List.take_add_one, h1, List.map_append, h4]
      rfl
    · rw [List.set_append_right _ _ (Nat.le_refl _), Nat.sub_self]
      rfl
  · obtain ⟨rfl, rfl⟩ := h1
    rw [List.take_length]
    exact hΦ
end
/-! ### False among bools -/
theorem toPy_bls {S : Store} {n : Nat} : ∀ bs : List Bool, (bs.map D.bl).mapM (toPy S (n + 1)) = some (bs.map PyData.bool)
  | [] => rfl
  | b :: bs => by
    rw [List.map_cons, List.mapM_cons, toPy_bls bs]
    rfl
theorem inM_bls {S : Store} {r : Nat} {b : Bool} {bs : List Bool} (h : S[r]? = some (.lst (bs.map D.bl))) : inM (.bl b) (.ref r) S = .ok (bs.contains b) S := by
  show M.bnd (getL r) (anyEq (.bl b)) S = _
  unfold M.bnd getL
  rw [h]
  dsimp only
  show (match toPy S 60 (.bl b), (bs.map D.bl).mapM (toPy S 59) with | some p, some qs => .ok (qs.any fun z => PyData.eqv z p) S | _, _ => .no : Out Bool) = _
  rw [toPy_bls bs]
  show Out.ok ((bs.map PyData.bool).any fun z => PyData.eqv z (.bool b)) S = _
  congr 1
  rw [List.any_map]
  induction bs with
  | nil => rfl
  | cons c cs ih =>
    clear h
    rw [List.any_cons, List.contains_cons]
    congr 1
    · cases b <;> cases c <;> rfl
    · clear ih
      induction cs with
      | nil => rfl
      | cons e es ih => rw [List.any_cons, List.contains_cons, ih]; congr 1; cases b <;> cases e <;> rfl
theorem contains_false (bs : List Bool) : (!bs.contains false) = bs.all id := by
  induction bs with
  | nil => rfl
  | cons c cs ih =>
    rw [List.contains_cons, List.all_cons, ← ih]
    cases c <;> rfl
/-! ### a plain value behind a call -/
def BagAt (S : Store) (b : Nat) : Prop := ∃ x0 x1 x2 x3, S[b]? = some (bg x0 x1 x2 x3)
def Mad (S : Store) (b L n : Nat) (d : D) (S' : Store) : Prop := Ext b S S' ∧ BagAt S' b ∧ Pl S' b L n d
theorem cutL_none {α : Type} (xs : List α) (hi : Option Int) : cutL xs none hi = xs.take (HT.sIx xs.length xs.length hi) := by
  unfold cutL
  rw [HT.sIx_none]
  rfl
theorem cutL_sub {α : Type} {xs : List α} {lo hi : Option Int} {x : α} (h : x ∈ cutL xs lo hi) : x ∈ xs := by
  unfold cutL at h
  exact List.mem_of_mem_drop (List.mem_of_mem_take h)
theorem sIx_of {n d : Nat} {i : Int} (h : 0 ≤ i) : HT.sIx n d (some i) = min i.toNat n := if_neg (by omega)
theorem cutL_l {α : Type} {xs : List α} {i : Int} (h : 0 ≤ i) : (cutL xs none (some i)).length = min i.toNat xs.length := by
  rw [cutL_none, List.length_take, sIx_of h]
  omega
theorem cutL_r {α : Type} {xs : List α} {i : Int} (h : 0 ≤ i) : (cutL xs (some i) none).length = xs.length - i.toNat := by
  unfold cutL
  rw [List.length_take, List.length_drop, sIx_of h, HT.sIx_none]
  omega
theorem cutL_m {α : Type} {xs : List α} {i j : Int} (h : 0 ≤ i) (h1 : 0 ≤ j) : (cutL xs (some i) (some j)).length = min j.toNat xs.length - i.toNat := by
  unfold cutL
  rw [List.length_take, List.length_drop, sIx_of h, sIx_of h1]
  omega
/-! ### many draws -/
theorem set_app {T l : Store} {b : Nat} {c : Cell} (h : b < T.length) : T.set b c ++ l = (T ++ l).set b c := (List.set_append_left _ _ h).symm
theorem set_new {T : Store} {b : Nat} {c c0 c1 : Cell} (h : b < T.length) : ((T ++ [c0]).set b c).set T.length c1 = (T ++ [c1]).set b c := by
  rw [List.set_comm _ _ (by omega), List.set_append_right _ _ (Nat.le_refl _), Nat.sub_self]
  rfl
theorem bag_new {S : Store} {c : Cell} : S ++ [c] = (S ++ [c]).set S.length c := by
  rw [List.set_append_right _ _ (Nat.le_refl _), Nat.sub_self]
  rfl
section
variable {p : Prg} {i : Nat} (hc : ∀ (k : Nat) (a b : D) (S : Store), callN p (k + 1) i [a, b] S = gc S (endOf (xss ⟨callN p k, 1000000⟩ drawA [some a, some b, none, none] S)))
include hc
theorem lc_draws {k b vb vm j : Nat} {T : Store} {env : Env} {Φ : D → Store → Prop} {x0 x1 x2 x3 m r : Int} (hk : 1 ≤ k) (hb : b < T.length) (h1 : 1 ≤ m) (h2 : m < 1000000000) (hr : r ≤ 100000) (eb : env[vb]? = some (some (.ref b))) (em : env[vm]? = some (some (.int m))) (jb : j ≠ vb) (jm : j ≠ vm)
    (hΦ : ∀ (vs : List Int) (y0 y1 y2 : Int), vs.length = r.toNat → (∀ v ∈ vs, 0 ≤ v ∧ v < m) → Φ (.ref T.length) ((T ++ [Cell.lst (vs.map D.int)]).set b (bg y0 y1 y2 x3))) :
    cLc ⟨callN p k, 1000000⟩ (.v j) none (.call i [.var vb, .var vm]) env Φ (.items (rngD 0 r)) (T.set b (bg x0 x1 x2 x3)) := by
  have hl : (rngD 0 r).length = r.toNat := by rw [rngD_len]; omega
  refine lcI (ds := rngD 0 r) (fun n acc U => ∃ (vs : List Int) (y0 y1 y2 : Int), acc = vs.map D.int ∧ vs.length = n ∧ (∀ v ∈ vs, 0 ≤ v ∧ v < m) ∧ U = (T ++ [Cell.lst acc]).set b (bg y0 y1 y2 x3)) (fun _ _ _ _ => rfl) (by rw [hl]; show r.toNat < 1000000; omega) (by omega) ?_ (fun n d acc U e h g => ?_) (fun acc U h g => ?_)
  · exact ⟨[], x0, x1, x2, rfl, rfl, by simp, by rw [set_app hb]⟩
  · obtain ⟨vs, y0, y1, y2, rfl, rfl, hv, rfl⟩ := h
    have hb' : b < (T ++ [Cell.lst (vs.map D.int)]).length := by rw [List.length_append]; omega
    obtain ⟨v, z0, z1, z2, e1, v0, v1⟩ := drawA_on hc (k := k) (S := T ++ [Cell.lst (vs.map D.int)]) (x0 := y0) (x1 := y1) (x2 := y2) (x3 := x3) hk hb' h1 h2
    rw [List.length_set] at g ⊢
    simp (disch := first | assumption | rfl | omega | (simp only [List.length_set, List.length_append, List.length_cons, List.length_nil, List.length_map]; omega) | decide +kernel) only [↓miA, miB, miC, ex_nil, ex_app, ex_app2, ex_app3, ex_app4, ex_app5, ex_app6, in62r, inWr, inWl, lim, List.length_set, List.length_cons, List.length_nil, List.getElem?_cons_zero, List.getElem?_cons_succ, List.set_cons_zero, List.set_cons_succ, Int.reduceToNat, eq_self, List.zip_nil_left, List.zip_nil_right, List.zip_cons_cons, decide_true, decide_eq_true, decide_eq_false, Bool.not_true, Bool.not_false, Bool.and_true, Bool.and_false, Bool.true_and, Bool.false_and, Bool.or_true, Bool.or_false, Bool.true_or, Bool.false_or, Bool.not_not, List.isEmpty_nil, List.isEmpty_cons, true_and, and_true, List.getElem?_set_ne jb, List.getElem?_set_ne jm, eb, em, e1]
    refine ⟨vs ++ [v], z0, z1, z2, ?_, ?_, ?_, ?_⟩
    · rw [List.map_append]; rfl
    · rw [List.length_append]; rfl
    · intro w hw
      rcases List.mem_append.mp hw with hw | hw
      · exact hv w hw
      · rw [List.mem_singleton.mp hw]; exact ⟨v0, v1⟩
    · rw [set_new hb]
  · obtain ⟨vs, y0, y1, y2, rfl, hn, hv, rfl⟩ := h
    rw [List.length_set]
    exact hΦ vs y0 y1 y2 (by omega) hv
end
theorem set_self {S : Store} {b : Nat} {c : Cell} (h : S[b]? = some c) : S = S.set b c := by
  apply List.ext_getElem?
  intro i
  by_cases hi : b = i
  · subst hi
    rw [List.getElem?_set_self (List.getElem?_eq_some_iff.mp h).1, h]
  · rw [List.getElem?_set_ne hi]
theorem Pl_ints {S : Store} {b L n : Nat} {ns : List Int} (h : ns.length ≤ L) : Pl S b L (n + 2) (.tup (ns.map D.int)) := by
  refine ⟨by rw [List.length_map]; exact h, fun e he => ?_⟩
  obtain ⟨i, _, rfl⟩ := List.mem_map.mp he
  trivial
end Mi

/-! Mi, part X: trees of tuples, whole numbers and texts; their equality. -/
namespace Mi
open PySem PySem.Spec
/-- a tree of at most this depth -/
def Tr : Nat → D → Prop
  | 0, _ => False
  | _ + 1, .non => True
  | _ + 1, .int _ => True
  | _ + 1, .str x => PyData.strOk x = true
  | n + 1, .tup ds => ∀ e ∈ ds, Tr n e
  | _, _ => False
mutual
def pyT : D → PyData
  | .int i => .int i
  | .str x => .str x
  | .tup ds => .tuple (pyTs ds)
  | _ => .none
def pyTs : List D → List PyData
  | [] => []
  | d :: ds => pyT d :: pyTs ds
end
theorem Tr.up : ∀ {n : Nat} {d : D}, Tr n d → Tr (n + 1) d
  | 0, _, h => h.elim
  | n + 1, .non, h => trivial
  | n + 1, .int _, h => trivial
  | n + 1, .str _, h => h
  | n + 1, .tup ds, h => fun e he => Tr.up (h e he)
theorem Tr.mono {n m : Nat} {d : D} (h : Tr n d) (hm : n ≤ m) : Tr m d := by
  obtain ⟨k, rfl⟩ : ∃ k, m = n + k := ⟨m - n, by omega⟩
  clear hm
  induction k with
  | zero => exact h
  | succ k ih => exact ih.up
mutual
theorem Tr.py {S : Store} : ∀ {n : Nat} {d : D}, Tr n d → toPy S n d = some (pyT d)
  | 0, _, h => h.elim
  | n + 1, .non, h => rfl
  | n + 1, .int _, h => rfl
  | n + 1, .str x, h => by unfold toPy; exact if_pos h
  | n + 1, .tup ds, h => by
    show (ds.mapM (toPy S n)).map PyData.tuple = _
    rw [Tr.pys h]
    rfl
theorem Tr.pys {S : Store} : ∀ {n : Nat} {ds : List D}, (∀ e ∈ ds, Tr n e) → ds.mapM (toPy S n) = some (pyTs ds)
  | n, [], h => rfl
  | n, d :: ds, h => by
    rw [List.mapM_cons, Tr.py (h d List.mem_cons_self), Tr.pys fun e he => h e (List.mem_cons_of_mem _ he)]
    rfl
end
mutual
theorem eqv_T : ∀ {n m : Nat} {x y : D}, Tr n x → Tr m y → PyData.eqv (pyT x) (pyT y) = D.same x y
  | 0, _, _, _, h, _ => h.elim
  | _ + 1, 0, _, _, _, h => h.elim
  | n + 1, m + 1, x, y, hx, hy => by
    cases x with
    | tup xs =>
      cases y with
      | tup ys =>
        show PyData.eqvAll (pyTs xs) (pyTs ys) = sames xs ys
        exact eqvs_T hx hy
      | fn => exact hy.elim
      | ty => exact hy.elim
      | bl => exact hy.elim
      | ref => exact hy.elim
      | _ => rfl
    | int i =>
      cases y with
      | int j => show (i == j) = decide (i = j); by_cases h : i = j <;> simp [h]
      | fn => exact hy.elim
      | ty => exact hy.elim
      | bl => exact hy.elim
      | ref => exact hy.elim
      | _ => rfl
    | str i =>
      cases y with
      | str j => show (i == j) = decide (i = j); by_cases h : i = j <;> simp [h]
      | fn => exact hy.elim
      | ty => exact hy.elim
      | bl => exact hy.elim
      | ref => exact hy.elim
      | _ => rfl
    | non =>
      cases y with
      | fn => exact hy.elim
      | ty => exact hy.elim
      | bl => exact hy.elim
      | ref => exact hy.elim
      | _ => rfl
    | fn => exact hx.elim
    | ty => exact hx.elim
    | bl => exact hx.elim
    | ref => exact hx.elim
theorem eqvs_T : ∀ {n m : Nat} {xs ys : List D}, (∀ e ∈ xs, Tr n e) → (∀ e ∈ ys, Tr m e) → PyData.eqvAll (pyTs xs) (pyTs ys) = sames xs ys
  | n, m, [], [], _, _ => rfl
  | n, m, [], y :: ys, _, _ => rfl
  | n, m, x :: xs, [], _, _ => rfl
  | n, m, x :: xs, y :: ys, hx, hy => by
    show (PyData.eqv (pyT x) (pyT y) && PyData.eqvAll (pyTs xs) (pyTs ys)) = (D.same x y && sames xs ys)
    rw [eqv_T (hx x List.mem_cons_self) (hy y List.mem_cons_self), eqvs_T (fun e he => hx e (List.mem_cons_of_mem _ he)) fun e he => hy e (List.mem_cons_of_mem _ he)]
end
theorem eqM_T {S : Store} {n m : Nat} {x y : D} (hx : Tr n x) (hy : Tr m y) (hn : n ≤ 60) (hm : m ≤ 60) : eqM x y S = .ok (D.same x y) S := by
  have h : (match toPy S 60 x, toPy S 60 y with | some p, some q => .ok (PyData.eqv p q) S | _, _ => .no : Out Bool) = .ok (D.same x y) S := by
    rw [(hx.mono hn).py, (hy.mono hm).py]
    show Out.ok (PyData.eqv (pyT x) (pyT y)) S = _
    rw [eqv_T hx hy]
  have h0 := hx.mono hn
  have h1 := hy.mono hm
  cases x <;> cases y <;> first | exact h | exact h0.elim | exact h1.elim | rfl
theorem anyEq_T {S : Store} {n m : Nat} {x : D} {ds : List D} (hx : Tr n x) (hy : ∀ e ∈ ds, Tr m e) (hn : n ≤ 60) (hm : m ≤ 59) : anyEq x ds S = .ok (ds.any fun z => D.same z x) S := by
  show (match toPy S 60 x, ds.mapM (toPy S 59) with | some p, some qs => .ok (qs.any fun z => PyData.eqv z p) S | _, _ => .no : Out Bool) = _
  rw [(hx.mono hn).py, Tr.pys fun e he => (hy e he).mono hm]
  show Out.ok ((pyTs ds).any fun z => PyData.eqv z (pyT x)) S = _
  congr 1
  clear hm
  induction ds with
  | nil => rfl
  | cons d ds ih =>
    show (PyData.eqv (pyT d) (pyT x) || (pyTs ds).any fun z => PyData.eqv z (pyT x)) = (D.same d x || ds.any fun z => D.same z x)
    rw [eqv_T (hy d List.mem_cons_self) hx, ih fun e he => hy e (List.mem_cons_of_mem _ he)]
theorem inM_tup {S : Store} {n m : Nat} {x : D} {ds : List D} (hx : Tr n x) (hy : ∀ e ∈ ds, Tr m e) (hn : n ≤ 60) (hm : m ≤ 59) : inM x (.tup ds) S = .ok (ds.any fun z => D.same z x) S := by
  rw [← anyEq_T hx hy hn hm]
  cases x <;> rfl
theorem inM_lst {S : Store} {n m r : Nat} {x : D} {ds : List D} (hr : S[r]? = some (.lst ds)) (hx : Tr n x) (hy : ∀ e ∈ ds, Tr m e) (hn : n ≤ 60) (hm : m ≤ 59) : inM x (.ref r) S = .ok (ds.any fun z => D.same z x) S := by
  rw [← anyEq_T hx hy hn hm]
  have : inM x (.ref r) S = M.bnd (getL r) (anyEq x) S := by cases x <;> rfl
  rw [this]
  unfold M.bnd getL
  rw [hr]
theorem same_str {x y : Str} : D.same (.str x) (.str y) = decide (x = y) := rfl
theorem same_int {x y : Int} : D.same (.int x) (.int y) = decide (x = y) := rfl
theorem same_tup {x y : List D} : D.same (.tup x) (.tup y) = sames x y := rfl
theorem same_tnil : sames [] [] = true := rfl
theorem same_tc {a b : D} {x y : List D} : sames (a :: x) (b :: y) = (D.same a b && sames x y) := rfl
theorem same_iff {a b : D} : D.same a b = decide (D.same a b = true) := by cases D.same a b <;> rfl
/-! ### a text among texts -/
def allS : List D → Bool
  | [] => true
  | .str x :: r => PyData.strOk x && allS r
  | _ => false
def inLs (x : Str) (ds : List D) : Option Bool := if PyData.strOk x && allS ds then some (ds.any fun z => D.same z (.str x)) else none
theorem allS_tr : ∀ {ds : List D}, allS ds = true → ∀ e ∈ ds, Tr 1 e
  | [], _, e, he => nomatch he
  | .str x :: r, h, e, he => by
    have h : (PyData.strOk x && allS r) = true := h
    rw [Bool.and_eq_true] at h
    rcases List.mem_cons.mp he with rfl | he
    · exact h.1
    · exact allS_tr h.2 e he
theorem inLs_b {x : Str} {ds : List D} {b : Bool} (h : inLs x ds = some b) : PyData.strOk x = true ∧ allS ds = true ∧ (ds.any fun z => D.same z (.str x)) = b := by
  unfold inLs at h
  split at h
  · rename_i h0
    rw [Bool.and_eq_true] at h0
    exact ⟨h0.1, h0.2, Option.some.inj h⟩
  · cases h
section
variable {S : Store} {x : Str} {ds : List D}
theorem inT_ {b : Bool} (h : inLs x ds = some b) : inM (.str x) (.tup ds) S = .ok b S := by
  obtain ⟨h1, h2, h3⟩ := inLs_b h
  rw [inM_tup (n := 1) (m := 1) (show Tr 1 (.str x) from h1) (allS_tr h2) (by omega) (by omega), h3]
theorem inR_ {b : Bool} {r : Nat} (hr : S[r]? = some (.lst ds)) (h : inLs x ds = some b) : inM (.str x) (.ref r) S = .ok b S := by
  obtain ⟨h1, h2, h3⟩ := inLs_b h
  rw [inM_lst hr (n := 1) (m := 1) (show Tr 1 (.str x) from h1) (allS_tr h2) (by omega) (by omega), h3]
theorem inT_t (h : inLs x ds = some true) : inM (.str x) (.tup ds) S = .ok true S := inT_ h
theorem inT_f (h : inLs x ds = some false) : inM (.str x) (.tup ds) S = .ok false S := inT_ h
theorem inN_t (h : inLs x ds = some true) : inM (.str x) (.ref S.length) (S ++ [.lst ds]) = .ok true (S ++ [.lst ds]) := inR_ get_new h
theorem inN_f (h : inLs x ds = some false) : inM (.str x) (.ref S.length) (S ++ [.lst ds]) = .ok false (S ++ [.lst ds]) := inR_ get_new h
end
def miX := And.intro @inT_t (And.intro @inT_f (And.intro @inN_t @inN_f))
end Mi

/-! Mi, part Y: drawing from a tape of two lists. -/
namespace Mi
open PySem PySem.Spec
abbrev drawB : List Sx :=
  [.asg (.v 2) (.ix (.var 0) (.lit (.int 0))), .whl (.and (.cmp .gt (.blt .len [.var 2]) (.lit (.int 0))) (.cmp .eq (.ix (.var 2) (.lit (.int 0))) (.lit (.int 0)))) [.expr (.mth .pop (.var 2) [.lit (.int 0)])], .ite (.cmp .gt (.blt .len [.var 2]) (.lit (.int 0))) [.asg (.v 3) (.ix (.var 2) (.lit (.int 0))), .asgIx (.var 2) (.lit (.int 0)) (.bin .fdiv (.var 3) (.var 1)), .ret (.bin .mod (.blt .int [.var 3]) (.var 1))] [], .asgIx (.var 0) (.lit (.int 1)) (.bin .mod (.blt .int [.bin .add (.bin .mul (.ix (.var 0) (.lit (.int 1))) (.lit (.int 48271))) (.lit (.int 12345))]) (.lit (.int 2147483647))), .ret (.bin .mod (.blt .int [.bin .fdiv (.ix (.var 0) (.lit (.int 1))) (.lit (.int 64))]) (.var 1))]
abbrev tp (c : Nat) (s : Int) : Cell := .lst [.ref c, .int s]
abbrev cl (ns : List Int) : Cell := .lst (ns.map D.int)
/-- a tape: its two lists -/
structure Tape (S : Store) (t c : Nat) (s : Int) (ns : List Int) : Prop where
  ht : S[t]? = some (tp c s)
  hc : S[c]? = some (cl ns)
  ct : c < t
  lt : t < S.length
  lc : c < S.length
  nn : ∀ n ∈ ns, 0 ≤ n
theorem Tape.ne {S : Store} {t c : Nat} {s : Int} {ns : List Int} (h : Tape S t c s ns) : c ≠ t := by have := h.ct; omega
theorem set_set3 {S : Store} {c t : Nat} {a b d : Cell} (h : c ≠ t) : ((S.set c a).set t b).set c d = (S.set c d).set t b := by
  rw [List.set_comm _ _ (Ne.symm h), List.set_set]
theorem drawB_body {G : Gen} {S : Store} {t c : Nat} {s m : Int} {ns : List Int} (h : Tape S t c s ns) (h1 : 1 ≤ m) (h2 : m < 1000000000) (hl : ns.length ≤ 1000) (hG : 1000000 ≤ G.L) :
    W (endOf (xss G drawB [some (.ref t), some (.int m), none, none] S)) (fun d S' => ∃ v s' ns', d = .int v ∧ 0 ≤ v ∧ v < m ∧ S' = (S.set c (cl ns')).set t (tp c s') ∧ ns'.length ≤ ns.length ∧ ∀ n ∈ ns', 0 ≤ n) NoEx := by
  have ne := h.ne
  obtain ⟨ht, hc, _, lt, lc, nn⟩ := h
  unfold drawB
  simp (disch := first | assumption | rfl | omega | (simp only [List.length_set, List.length_append, List.length_cons, List.length_nil, List.length_map]; omega) | decide +kernel) only [↓miA, miB, miC, ex_nil, ex_app, ex_app2, ex_app3, ex_app4, ex_app5, ex_app6, in62r, inWr, inWl, lim, List.length_set, List.length_cons, List.length_nil, List.getElem?_cons_zero, List.getElem?_cons_succ, List.set_cons_zero, List.set_cons_succ, Int.reduceToNat, eq_self, List.zip_nil_left, List.zip_nil_right, List.zip_cons_cons, decide_true, decide_eq_true, decide_eq_false, Bool.not_true, Bool.not_false, Bool.and_true, Bool.and_false, Bool.true_and, Bool.false_and, Bool.or_true, Bool.or_false, Bool.true_or, Bool.false_or, Bool.not_not, List.isEmpty_nil, List.isEmpty_cons, true_and, and_true, ht]
  refine while_lt (fun k env S' => ∃ ns', k = ns'.length ∧ env = [some (.ref t), some (.int m), some (.ref c), none] ∧ S' = S.set c (cl ns') ∧ ns'.length ≤ ns.length ∧ ∀ n ∈ ns', 0 ≤ n) ?_ G.L ns.length _ _ (by omega) ⟨ns, rfl, rfl, set_self hc, Nat.le_refl _, nn⟩
  rintro k env S' ⟨ns', rfl, rfl, rfl, hle, hnn⟩
  have hc' : (S.set c (cl ns'))[c]? = some (cl ns') := get_set_self lc
  have ht' : (S.set c (cl ns'))[t]? = some (tp c s) := by rw [get_set_ne ne]; exact ht
  have st : S.set c (cl ns') = (S.set c (cl ns')).set t (tp c s) := set_self ht'
  cases ns' with
  | nil =>
    have r1 : ∀ x : Int, 0 ≤ x.fmod m ∧ x.fmod m < m := fun x => ⟨Int.fmod_nonneg_of_pos _ (by omega), Int.fmod_lt_of_pos _ (by omega)⟩
    simp (disch := first | assumption | rfl | omega | (simp only [List.length_set, List.length_append, List.length_cons, List.length_nil, List.length_map]; omega) | decide +kernel) only [↓miA, miB, miC, ex_nil, ex_app, ex_app2, ex_app3, ex_app4, ex_app5, ex_app6, in62r, inWr, inWl, lim, List.length_set, List.length_cons, List.length_nil, List.getElem?_cons_zero, List.getElem?_cons_succ, List.set_cons_zero, List.set_cons_succ, Int.reduceToNat, eq_self, List.zip_nil_left, List.zip_nil_right, List.zip_cons_cons, decide_true, decide_eq_true, decide_eq_false, Bool.not_true, Bool.not_false, Bool.and_true, Bool.and_false, Bool.true_and, Bool.false_and, Bool.or_true, Bool.or_false, Bool.true_or, Bool.false_or, Bool.not_not, List.isEmpty_nil, List.isEmpty_cons, true_and, and_true, hc', ht', Wif_f, List.map_nil]
    exact ⟨_, _, [], rfl, (r1 _).1, (r1 _).2, rfl, by omega, by simp⟩
  | cons x r =>
    by_cases hx : x = 0
    · subst hx
      have hk : ((D.int 0 :: r.map D.int) : List D)[0]? = some (.int 0) := rfl
      simp (disch := first | assumption | rfl | omega | (simp only [List.length_set, List.length_append, List.length_cons, List.length_nil, List.length_map]; omega) | decide +kernel) only [↓miA, miB, miC, ex_nil, ex_app, ex_app2, ex_app3, ex_app4, ex_app5, ex_app6, in62r, inWr, inWl, lim, List.length_set, List.length_cons, List.length_nil, List.getElem?_cons_zero, List.getElem?_cons_succ, List.set_cons_zero, List.set_cons_succ, Int.reduceToNat, eq_self, List.zip_nil_left, List.zip_nil_right, List.zip_cons_cons, decide_true, decide_eq_true, decide_eq_false, Bool.not_true, Bool.not_false, Bool.and_true, Bool.and_false, Bool.true_and, Bool.false_and, Bool.or_true, Bool.or_false, Bool.true_or, Bool.false_or, Bool.not_not, List.isEmpty_nil, List.isEmpty_cons, true_and, and_true, hc', ht', Wif_t, List.map_cons, kPopi2_ hk, List.eraseIdx_cons_zero]
      exact ⟨r.length, by omega, r, rfl, rfl, by simp only [List.length_cons] at hle; omega, fun n hn => hnn n (List.mem_cons_of_mem _ hn)⟩
    · have x0 : 0 ≤ x := hnn x List.mem_cons_self
      simp (disch := first | assumption | rfl | omega | (simp only [List.length_set, List.length_append, List.length_cons, List.length_nil, List.length_map]; omega) | decide +kernel) only [↓miA, miB, miC, ex_nil, ex_app, ex_app2, ex_app3, ex_app4, ex_app5, ex_app6, in62r, inWr, inWl, lim, List.length_set, List.length_cons, List.length_nil, List.getElem?_cons_zero, List.getElem?_cons_succ, List.set_cons_zero, List.set_cons_succ, Int.reduceToNat, eq_self, List.zip_nil_left, List.zip_nil_right, List.zip_cons_cons, decide_true, decide_eq_true, decide_eq_false, Bool.not_true, Bool.not_false, Bool.and_true, Bool.and_false, Bool.true_and, Bool.false_and, Bool.or_true, Bool.or_false, Bool.true_or, Bool.false_or, Bool.not_not, List.isEmpty_nil, List.isEmpty_cons, true_and, and_true, hc', ht', Wif_f, List.map_cons]
      refine ⟨_, s, x.fdiv m :: r, rfl, Int.fmod_nonneg_of_pos _ (by omega), Int.fmod_lt_of_pos _ (by omega), ?_, hle, fun n hn => ?_⟩
      · exact set_self (by rw [get_set_ne ne]; exact ht)
      · rcases List.mem_cons.mp hn with rfl | hn
        · exact Int.fdiv_nonneg x0 (by omega)
        · exact hnn n (List.mem_cons_of_mem _ hn)
theorem gc_len {S S' : Store} {d : D} (hl : S'.length = S.length) : gc S (.ok d S') = .ok d S' := by
  unfold gc
  dsimp only
  split
  · rw [← hl, List.take_length]
    split
    · rfl
    · cases d with
      | ref n =>
        dsimp only
        split
        · rename_i h1
          rw [List.getElem?_eq_none (of_decide_eq_true h1)]
        · rfl
      | _ => rfl
  · rfl
theorem Tape.next {S : Store} {t c : Nat} {s s' : Int} {ns ns' : List Int} (h : Tape S t c s ns) (hn : ∀ n ∈ ns', 0 ≤ n) : Tape ((S.set c (cl ns')).set t (tp c s')) t c s' ns' := by
  refine ⟨get_set_self (by rw [List.length_set]; exact h.lt), ?_, h.ct, by rw [List.length_set, List.length_set]; exact h.lt, by rw [List.length_set, List.length_set]; exact h.lc, hn⟩
  rw [get_set_ne h.ne.symm]
  exact get_set_self h.lc
section
variable {p : Prg} {i : Nat} (hc : ∀ (k : Nat) (a b : D) (S : Store), callN p (k + 1) i [a, b] S = gc S (endOf (xss ⟨callN p k, 1000000⟩ drawB [some a, some b, none, none] S)))
include hc
theorem drawB_at {k : Nat} {S : Store} {t c : Nat} {s m : Int} {ns : List Int} (hk : 1 ≤ k) (h : Tape S t c s ns) (h1 : 1 ≤ m) (h2 : m < 1000000000) (hl : ns.length ≤ 1000) :
    ∃ v s' ns', callN p k i [.ref t, .int m] S = .ok (.int v) ((S.set c (cl ns')).set t (tp c s')) ∧ 0 ≤ v ∧ v < m ∧ Tape ((S.set c (cl ns')).set t (tp c s')) t c s' ns' ∧ ns'.length ≤ ns.length := by
  obtain ⟨k, rfl⟩ : ∃ j, k = j + 1 := ⟨k - 1, by omega⟩
  rw [hc]
  have q := drawB_body (G := ⟨callN p k, 1000000⟩) h h1 h2 hl (Nat.le_refl _)
  cases e : endOf (xss ⟨callN p k, 1000000⟩ drawB [some (.ref t), some (.int m), none, none] S) with
  | ok d S' =>
    rw [e] at q
    obtain ⟨v, s', ns', rfl, v0, v1, rfl, hle, hn⟩ := q
    exact ⟨v, s', ns', gc_len (by rw [List.length_set, List.length_set]), v0, v1, h.next hn, hle⟩
  | er e S' => rw [e] at q; exact q.elim
  | no => rw [e] at q; exact q.elim
end
/-! ### what is drawn from a tape -/
theorem W_ex {α : Type} {o : Out α} {Φ : α → Store → Prop} (h : W o Φ NoEx) : ∃ a S', o = .ok a S' ∧ Φ a S' := by
  cases o with
  | ok a S => exact ⟨a, S, rfl, h⟩
  | er e S => exact h.elim
  | no => exact h.elim
def Tp (S : Store) (t c : Nat) : Prop := ∃ s ns, Tape S t c s ns ∧ ns.length ≤ 1000
structure Dn (t c : Nat) (S S' : Store) : Prop where
  tp : Tp S' t c
  ex : Ext t S S'
  le : S.length ≤ S'.length
section
variable {S S' S2 l : Store} {t c r n : Nat} {x : Cell}
theorem Tp.lt (h : Tp S t c) : t < S.length := by
  obtain ⟨s, ns, h, _⟩ := h
  exact h.lt
theorem Tp.app (h : Tp S t c) : Tp (S ++ l) t c := by
  obtain ⟨s, ns, ⟨h1, h2, h3, h4, h5, h6⟩, hl⟩ := h
  exact ⟨s, ns, ⟨by rw [get_app h4]; exact h1, by rw [get_app h5]; exact h2, h3, by rw [List.length_append]; omega, by rw [List.length_append]; omega, h6⟩, hl⟩
theorem Tp.set (h : Tp S t c) (hr : t < r) : Tp (S.set r x) t c := by
  obtain ⟨s, ns, ⟨h1, h2, h3, h4, h5, h6⟩, hl⟩ := h
  exact ⟨s, ns, ⟨by rw [get_set_ne (by omega)]; exact h1, by rw [get_set_ne (by omega)]; exact h2, h3, by rw [List.length_set]; omega, by rw [List.length_set]; omega, h6⟩, hl⟩
theorem Tp.take (h : Tp S t c) (hr : t < n) : Tp (S.take n) t c := by
  obtain ⟨s, ns, ⟨h1, h2, h3, h4, h5, h6⟩, hl⟩ := h
  exact ⟨s, ns, ⟨by rw [List.getElem?_take, if_pos hr]; exact h1, by rw [List.getElem?_take, if_pos (by omega)]; exact h2, h3, by rw [List.length_take]; omega, by rw [List.length_take]; omega, h6⟩, hl⟩
theorem Dn.refl (h : Tp S t c) : Dn t c S S := ⟨h, Ext.refl, Nat.le_refl _⟩
theorem Dn.trans (h : Dn t c S S') (h' : Dn t c S' S2) : Dn t c S S2 := ⟨h'.tp, h.ex.trans h'.ex, Nat.le_trans h.le h'.le⟩
theorem Dn.app (h : Dn t c S S') : Dn t c S (S' ++ l) := ⟨h.tp.app, h.ex.trans Ext.app, by rw [List.length_append]; have := h.le; omega⟩
theorem Dn.take (h : Dn t c S S') (hb : t < S.length) : Dn t c S (S'.take S.length) := ⟨h.tp.take hb, h.ex.take, by rw [List.length_take]; have := h.le; omega⟩
theorem Dn.set (h : Dn t c S S') (hr : S.length ≤ r) (hb : t < S.length) : Dn t c S (S'.set r x) := by
  refine ⟨h.tp.set (by omega), fun q y hq e => ?_, by rw [List.length_set]; exact h.le⟩
  have : q < S.length := (List.getElem?_eq_some_iff.mp e).1
  rw [List.getElem?_set_ne (by omega)]
  exact h.ex q y hq e
theorem Dn.get (h : Dn t c S S') (hr : t < r) (e : S[r]? = some x) : S'[r]? = some x := h.ex _ _ hr e
end
/-- a plain answer, drawn -/
theorem gc_dn {S : Store} {o : Out D} {P : D → Prop} {t c : Nat} (h : W o (fun d S' => D.pure d = true ∧ P d ∧ Dn t c S S') NoEx) (hb : t < S.length) : ∃ d S', gc S o = .ok d S' ∧ P d ∧ Dn t c S S' := by
  obtain ⟨d, S', rfl, h1, h2, h3⟩ := W_ex h
  unfold gc
  dsimp only
  split
  · rw [if_pos (low_of_pure h1)]
    exact ⟨_, _, rfl, h2, h3.take hb⟩
  · exact ⟨_, _, rfl, h2, h3⟩
theorem pures_of {n m : Nat} {S : Store} {b L : Nat} (ih : ∀ e, Pl S b L n e → D.low m e = true → D.pure e = true) : ∀ ds : List D, (∀ e ∈ ds, Pl S b L n e) → lows m ds = true → pures ds = true
  | [], _, _ => rfl
  | d :: ds, h, l => by
    have l : (D.low m d && lows m ds) = true := l
    rw [Bool.and_eq_true] at l
    show (D.pure d && pures ds) = true
    rw [ih d (h d List.mem_cons_self) l.1, pures_of ih ds (fun e he => h e (List.mem_cons_of_mem _ he)) l.2]
    rfl
theorem Pl.low {S : Store} {b L m : Nat} (hm : m ≤ b + 1) : ∀ {n : Nat} {d : D}, Pl S b L n d → D.low m d = true → D.pure d = true
  | 0, _, h, _ => h.elim
  | n + 1, .non, _, _ => rfl
  | n + 1, .bl _, _, _ => rfl
  | n + 1, .int _, _, _ => rfl
  | n + 1, .str _, _, _ => rfl
  | n + 1, .tup ds, h, l => pures_of (fun e => Pl.low hm) ds h.2 l
  | n + 1, .ref r, h, l => by
    obtain ⟨h1, _⟩ := h
    have := of_decide_eq_true (show decide (r < m) = true from l)
    omega
/-- an answer with new lists, drawn -/
theorem gc_fr {S : Store} {o : Out D} {P : D → Prop} {t c L n : Nat} (h : W o (fun d S' => P d ∧ Pl S' (S.length - 1) L n d ∧ Dn t c S S') NoEx) (hr : ∀ r q, P (.ref r) → P (.ref q)) (hb : t < S.length) :
    ∃ d S', gc S o = .ok d S' ∧ P d ∧ Pl S' (S.length - 1) L n d ∧ Dn t c S S' := by
  obtain ⟨d, S', rfl, h1, h2, h3⟩ := W_ex h
  unfold gc
  dsimp only
  split
  · split
    · rename_i hl
      have hp := h2.low (m := S.length) (by omega) hl
      exact ⟨_, _, rfl, h1, h2.pur hp, h3.take hb⟩
    · split
      · rename_i r hl
        split
        · rename_i hn
          split
          · rename_i x hx
            split
            · rename_i hxl
              refine ⟨_, _, rfl, hr _ _ h1, ?_, (h3.take hb).app⟩
              cases n with
              | zero => exact h2.elim
              | succ n =>
                obtain ⟨_, ds, e, hL, hd⟩ := h2
                rw [hx] at e
                cases e
                have hlen : (S'.take S.length).length = S.length := by rw [List.length_take]; have := h3.le; omega
                refine ⟨by omega, ds, ?_, hL, fun e he => (hd e he).pur ?_⟩
                · rw [List.getElem?_append_right (by omega), hlen, Nat.sub_self]
                  rfl
                · have : lows S.length ds = true := hxl
                  have : pures ds = true := pures_of (fun e => Pl.low (by omega)) ds hd this
                  exact pures_mem this he
            · exact ⟨_, _, rfl, h1, h2, h3⟩
          · exact ⟨_, _, rfl, h1, h2, h3⟩
        · exact ⟨_, _, rfl, h1, h2, h3⟩
      · exact ⟨_, _, rfl, h1, h2, h3⟩
  · exact ⟨_, _, rfl, h1, h2, h3⟩
section
variable {Φ : D → Store → Prop} {G : Gen} {tg : Tg} {e : Ex} {env : Env} {S : Store} {ds : List D} {s : Src} {t c : Nat}
/-- a comprehension that draws -/
theorem lcN (P : D → Prop) (hT : Tp S t c) (ha : ∀ (j : Nat) (T : Store), Dn t c S T → s.at j T = .ok ds[j]? T) (hL : ds.length < G.L) (hl : ds.length ≤ 1000000)
    (hs : ∀ (j : Nat) (d : D) (T : Store), ds[j]? = some d → Dn t c S T → S.length < T.length → W (tg.bind d env T) (fun env1 T1 => W (ev G e env1 T1) (fun x T2 => P x ∧ Dn t c T T2) NoEx) NoEx)
    (hΦ : ∀ (xs : List D) (T : Store), xs.length = ds.length → (∀ x ∈ xs, P x) → Dn t c S T → T[S.length]? = some (.lst xs) → Φ (.ref S.length) T) : cLc G tg none e env Φ s S := by
  have hb := hT.lt
  refine lcI (ds := ds) (fun j acc T => Dn t c S T ∧ acc.length = j ∧ ∀ x ∈ acc, P x) (fun j acc T h => ha j T h.1) hL hl ⟨(Dn.refl hT).app, rfl, fun _ h => nomatch h⟩ (fun j d acc T h1 h2 h3 => ?_) (fun acc T h1 h2 => hΦ acc T h1.2.1 h1.2.2 h1.1 h2)
  obtain ⟨hd, ha, hp⟩ := h2
  have hlT : S.length < T.length := (List.getElem?_eq_some_iff.mp h3).1
  refine W_mono (hs j d T h1 hd hlT) (fun env1 T1 h5 => W_mono h5 (fun x T2 h6 => ?_) fun _ _ h => h) fun _ _ h => h
  obtain ⟨hx, hn⟩ := h6
  refine ⟨hn.get hb h3, (hd.trans hn).set (Nat.le_refl _) hb, by rw [List.length_append, ha]; rfl, fun y hy => ?_⟩
  rcases List.mem_append.mp hy with hy | hy
  · exact hp y hy
  · rw [List.mem_singleton.mp hy]
    exact hx
end
section
variable {p : Prg} {i : Nat} (hc : ∀ (k : Nat) (a b : D) (S : Store), callN p (k + 1) i [a, b] S = gc S (endOf (xss ⟨callN p k, 1000000⟩ drawB [some a, some b, none, none] S)))
include hc
theorem drawN {k : Nat} {S : Store} {t c : Nat} {m : Int} (hk : 1 ≤ k) (h : Tp S t c) (h1 : 1 ≤ m) (h2 : m < 1000000000) :
    ∃ v S', callN p k i [.ref t, .int m] S = .ok (.int v) S' ∧ 0 ≤ v ∧ v < m ∧ S'.length = S.length ∧ Dn t c S S' := by
  obtain ⟨s, ns, hT, hl⟩ := h
  obtain ⟨v, s', ns', e, v0, v1, hT', hl'⟩ := drawB_at hc hk hT h1 h2 hl
  refine ⟨v, _, e, v0, v1, by rw [List.length_set, List.length_set], ⟨s', ns', hT', by omega⟩, fun r x hr ex => ?_, by rw [List.length_set, List.length_set]; omega⟩
  have := hT.ct
  rw [get_set_ne (by omega), get_set_ne (by omega)]
  exact ex
abbrev pickB (i : Nat) : List Sx := [.ret (.ix (.var 1) (.call i [.var 0, .blt .len [.var 1]]))]
theorem pickN {j : Nat} (hc' : ∀ (k : Nat) (a b : D) (S : Store), callN p (k + 1) j [a, b] S = gc S (endOf (xss ⟨callN p k, 1000000⟩ (pickB i) [some a, some b] S))) {k : Nat} {S : Store} {t c r : Nat} {ds : List D} (hk : 2 ≤ k) (h : Tp S t c) (hr : S[r]? = some (.lst ds)) (hrt : t < r) (h1 : 1 ≤ ds.length) (h2 : ds.length < 1000000000) :
    ∃ (v : Nat) (d : D) (S' : Store), callN p k j [.ref t, .ref r] S = .ok d S' ∧ ds[v]? = some d ∧ S'.length = S.length ∧ Dn t c S S' := by
  obtain ⟨k, rfl⟩ : ∃ j, k = j + 1 := ⟨k - 1, by omega⟩
  rw [hc']
  obtain ⟨v, S', e, v0, v1, hl, hn⟩ := drawN hc (k := k) (S := S) (m := ds.length) (by omega) h (by omega) (by omega)
  have hr' := hn.get hrt hr
  have hv : ds[v.toNat]? = some ds[v.toNat] := List.getElem?_eq_getElem (by omega)
  have q : W (endOf (xss ⟨callN p k, 1000000⟩ (pickB i) [some (.ref t), some (.ref r)] S)) (fun d T => d = ds[v.toNat] ∧ T = S') NoEx := by
    unfold pickB
    simp (disch := first | assumption | rfl | omega | (simp only [List.length_set, List.length_append, List.length_cons, List.length_nil, List.length_map]; omega) | decide +kernel) only [↓miA, miB, miC, ex_nil, ex_app, ex_app2, ex_app3, ex_app4, ex_app5, ex_app6, in62r, inWr, inWl, lim, List.length_set, List.length_cons, List.length_nil, List.getElem?_cons_zero, List.getElem?_cons_succ, List.set_cons_zero, List.set_cons_succ, Int.reduceToNat, eq_self, List.zip_nil_left, List.zip_nil_right, List.zip_cons_cons, decide_true, decide_eq_true, decide_eq_false, Bool.not_true, Bool.not_false, Bool.and_true, Bool.and_false, Bool.true_and, Bool.false_and, Bool.or_true, Bool.or_false, Bool.true_or, Bool.false_or, Bool.not_not, List.isEmpty_nil, List.isEmpty_cons, true_and, and_true, hr, e, hr', hv]
  obtain ⟨d, T, e2, rfl, rfl⟩ := W_ex q
  exact ⟨v.toNat, _, _, by rw [e2, gc_len hl], hv, hl, hn⟩
end
end Mi

namespace K30
open PySem PySem.Spec PyProof.Rows L2 Mi
def clsI : Stmt → Stmt
  | .ClassDef _ _ _ b .. => b.getD 0 (.Pass ⟨0, 0, 0, 0⟩)
  | s => s
def topS (i : Nat) : Stmt := PySem.Challenge.pw_wordplays_k30_automata_that_read.main.body.getD i (.Pass ⟨0, 0, 0, 0⟩)
abbrev c_MOST_STATES : D := .int 2000
abbrev c_MOST_INNER : D := .int 8
abbrev c_LETTERS : D := .tup [.int 1, .int 2, .int 4, .int 8, .int 16, .int 32, .int 64, .int 128, .int 256]
abbrev b_is_integer : List Sx :=
  [.ret (.and (.blt .isi [.var 0, .lit (.ty .int)]) (.and (.not (.blt .isi [.var 0, .lit (.ty .bool)])) (.chn .le .le (.var 1) (.var 0) (.var 2))))]
abbrev f_is_integer : FnD := ⟨"is_integer", "is_integer", topS 6, ["value", "low", "high"], ["value", "low", "high"], b_is_integer⟩
abbrev b_is_state : List Sx :=
  [.ite (.or (.not (.blt .isi [.var 0, .lit (.ty .tup)])) (.or (.cmp .ne (.blt .len [.var 0]) (.lit (.int 2))) (.not (.call 0 [.ix (.var 0) (.lit (.int 1)), .lit (.int 0), .lit (.int 1)])))) [.ret (.lit (.bl false))] [], .asg (.v 3) (.ix (.var 0) (.lit (.int 0))), .ret (.and (.blt .isi [.var 3, .lit (.ty .tup)]) (.and (.cmp .eq (.blt .len [.var 3]) (.var 1)) (.blt .all [.lc (.seq (.var 3)) (.v 4) [4] none (.call 0 [.var 4, .lit (.int 0), .bin .sub (.var 2) (.lit (.int 1))])])))]
abbrev f_is_state : FnD := ⟨"is_state", "is_state", topS 10, ["value", "letters", "states"], ["value", "letters", "states", "nexts", "k"], b_is_state⟩
abbrev b_is_automaton : List Sx :=
  [.ite (.or (.not (.blt .isi [.var 0, .lit (.ty .tup)])) (.or (.cmp .ne (.blt .len [.var 0]) (.lit (.int 3))) (.or (.not (.blt .isi [.ix (.var 0) (.lit (.int 0)), .lit (.ty .str)])) (.cmp .ne (.ix (.var 0) (.lit (.int 0))) (.lit (.str "automaton")))))) [.ret (.lit (.bl false))] [], .ite (.or (.not (.call 0 [.ix (.var 0) (.lit (.int 1)), .lit (.int 0), .lit c_MOST_INNER])) (.not (.blt .isi [.ix (.var 0) (.lit (.int 2)), .lit (.ty .tup)]))) [.ret (.lit (.bl false))] [], .asg (.v 1) (.ix (.var 0) (.lit (.int 2))), .ite (.not (.chn .le .le (.lit (.int 1)) (.blt .len [.var 1]) (.lit c_MOST_STATES))) [.ret (.lit (.bl false))] [], .ret (.blt .all [.lc (.seq (.var 1)) (.v 2) [2] none (.call 1 [.var 2, .ix (.lit c_LETTERS) (.ix (.var 0) (.lit (.int 1))), .blt .len [.var 1]])])]
abbrev f_is_automaton : FnD := ⟨"is_automaton", "is_automaton", topS 11, ["value"], ["value", "states", "state"], b_is_automaton⟩
abbrev b_check_automaton : List Sx :=
  [.ite (.not (.call 2 [.var 0])) [.raise 2 ["place"] [.var 1]] []]
abbrev f_check_automaton : FnD := ⟨"check_automaton", "check_automaton", topS 12, ["value", "place"], ["value", "place"], b_check_automaton⟩
abbrev b_check_word : List Sx :=
  [.ite (.or (.not (.blt .isi [.var 1, .lit (.ty .tup)])) (.not (.blt .all [.lc (.seq (.var 1)) (.v 2) [2] none (.call 0 [.var 2, .lit (.int 0), .bin .sub (.ix (.lit c_LETTERS) (.var 0)) (.lit (.int 1))])]))) [.raise 1 [] []] []]
abbrev f_check_word : FnD := ⟨"check_word", "check_word", topS 13, ["n", "word"], ["n", "word", "letter"], b_check_word⟩
abbrev b_state_behind : List Sx :=
  [.asg (.v 2) (.lit (.int 0)), .for_ (.v 3) (.seq (.var 1)) [.asg (.v 2) (.ix (.ix (.ix (.ix (.var 0) (.lit (.int 2))) (.var 2)) (.lit (.int 0))) (.var 3))], .ret (.var 2)]
abbrev f_state_behind : FnD := ⟨"state_behind", "state_behind", topS 14, ["automaton", "word"], ["automaton", "word", "state", "letter"], b_state_behind⟩
abbrev b_takes : List Sx :=
  [.expr (.call 3 [.var 0, .lit (.int 0)]), .expr (.call 4 [.ix (.var 0) (.lit (.int 1)), .var 1]), .ret (.cmp .eq (.ix (.ix (.ix (.var 0) (.lit (.int 2))) (.call 5 [.var 0, .var 1])) (.lit (.int 1))) (.lit (.int 1)))]
abbrev f_takes : FnD := ⟨"takes", "takes", topS 15, ["automaton", "word"], ["automaton", "word"], b_takes⟩
abbrev b__law_tape : List Sx :=
  [.asg (.v 1) (.lit (.int 7)), .for_ (.v 2) (.seq (.var 0)) [.asg (.v 1) (.bin .mod (.blt .int [.bin .add (.bin .mul (.var 1) (.lit (.int 31))) (.var 2)]) (.lit (.int 1000003)))], .ret (.lst [.lc (.seq (.var 0)) (.v 2) [2] none (.blt .abs [.blt .int [.var 2]]), .bin .add (.var 1) (.lit (.int 1))])]
abbrev f__law_tape : FnD := ⟨"_law_tape", "_law_tape", topS 17, ["script"], ["script", "seed", "cell"], b__law_tape⟩
abbrev b__law_draw : List Sx :=
  [.asg (.v 2) (.ix (.var 0) (.lit (.int 0))), .whl (.and (.cmp .gt (.blt .len [.var 2]) (.lit (.int 0))) (.cmp .eq (.ix (.var 2) (.lit (.int 0))) (.lit (.int 0)))) [.expr (.mth .pop (.var 2) [.lit (.int 0)])], .ite (.cmp .gt (.blt .len [.var 2]) (.lit (.int 0))) [.asg (.v 3) (.ix (.var 2) (.lit (.int 0))), .asgIx (.var 2) (.lit (.int 0)) (.bin .fdiv (.var 3) (.var 1)), .ret (.bin .mod (.blt .int [.var 3]) (.var 1))] [], .asgIx (.var 0) (.lit (.int 1)) (.bin .mod (.blt .int [.bin .add (.bin .mul (.ix (.var 0) (.lit (.int 1))) (.lit (.int 48271))) (.lit (.int 12345))]) (.lit (.int 2147483647))), .ret (.bin .mod (.blt .int [.bin .fdiv (.ix (.var 0) (.lit (.int 1))) (.lit (.int 64))]) (.var 1))]
abbrev f__law_draw : FnD := ⟨"_law_draw", "_law_draw", topS 18, ["tape", "many"], ["tape", "many", "cells", "number"], b__law_draw⟩
abbrev b__law_pick : List Sx :=
  [.ret (.ix (.var 1) (.call 8 [.var 0, .blt .len [.var 1]]))]
abbrev f__law_pick : FnD := ⟨"_law_pick", "_law_pick", topS 19, ["tape", "row"], ["tape", "row"], b__law_pick⟩
abbrev b__law_same : List Sx :=
  [.ite (.cmp .is_ (.var 1) (.lit (.non))) [.ret (.cmp .is_ (.var 0) (.lit (.non)))] [], .ite (.blt .isi [.var 1, .lit (.ty .bool)]) [.ret (.and (.blt .isi [.var 0, .lit (.ty .bool)]) (.cmp .eq (.var 0) (.var 1)))] [], .ite (.blt .isi [.var 1, .lit (.ty .int)]) [.ret (.and (.blt .isi [.var 0, .lit (.ty .int)]) (.and (.not (.blt .isi [.var 0, .lit (.ty .bool)])) (.cmp .eq (.var 0) (.var 1))))] [], .ite (.blt .isi [.var 1, .lit (.ty .str)]) [.ret (.and (.blt .isi [.var 0, .lit (.ty .str)]) (.cmp .eq (.var 0) (.var 1)))] [], .ite (.or (.cmp .ne (.blt .isi [.var 1, .lit (.ty .tup)]) (.blt .isi [.var 0, .lit (.ty .tup)])) (.cmp .ne (.blt .isi [.var 1, .lit (.ty .lst)]) (.blt .isi [.var 0, .lit (.ty .lst)]))) [.ret (.lit (.bl false))] [], .ite (.or (.not (.blt .isi [.var 0, .tup [.lit (.ty .tup), .lit (.ty .lst)]])) (.cmp .ne (.blt .len [.var 0]) (.blt .len [.var 1]))) [.ret (.lit (.bl false))] [], .ret (.cmp .nin (.lit (.bl false)) (.lc (.rng [.blt .len [.var 1]]) (.v 2) [2] none (.call 10 [.ix (.var 0) (.var 2), .ix (.var 1) (.var 2)])))]
abbrev f__law_same : FnD := ⟨"_law_same", "_law_same", topS 20, ["told", "due"], ["told", "due", "k"], b__law_same⟩
abbrev b__law_power : List Sx :=
  [.asg (.v 1) (.lit (.int 1)), .for_ (.v 2) (.rng [.var 0]) [.asg (.v 1) (.bin .mul (.lit (.int 2)) (.var 1))], .ret (.var 1)]
abbrev f__law_power : FnD := ⟨"_law_power", "_law_power", topS 21, ["k"], ["k", "n", "i"], b__law_power⟩
abbrev b__law_word : List Sx :=
  [.ret (.blt .tuple [.lc (.rng [.call 8 [.var 0, .bin .add (.var 2) (.lit (.int 1))]]) (.v 3) [3] none (.call 8 [.var 0, .call 11 [.var 1]])])]
abbrev f__law_word : FnD := ⟨"_law_word", "_law_word", topS 22, ["tape", "n", "most"], ["tape", "n", "most", "k"], b__law_word⟩
abbrev b__law_takes : List Sx :=
  [.asg (.v 2) (.lit (.int 0)), .for_ (.v 3) (.seq (.var 1)) [.asg (.v 2) (.ix (.ix (.ix (.ix (.var 0) (.lit (.int 2))) (.var 2)) (.lit (.int 0))) (.var 3))], .ret (.cmp .eq (.ix (.ix (.ix (.var 0) (.lit (.int 2))) (.var 2)) (.lit (.int 1))) (.lit (.int 1)))]
abbrev f__law_takes : FnD := ⟨"_law_takes", "_law_takes", topS 23, ["automaton", "word"], ["automaton", "word", "state", "letter"], b__law_takes⟩
abbrev b__law_drawn : List Sx :=
  [.asg (.v 3) (.bin .add (.lit (.int 1)) (.call 8 [.var 0, .var 2])), .asg (.v 4) (.lst []), .for_ (.v 5) (.rng [.var 3]) [.expr (.mth .append (.var 4) [.tup [.blt .tuple [.lc (.rng [.call 11 [.var 1]]) (.v 6) [6] none (.call 8 [.var 0, .var 3])], .call 8 [.var 0, .lit (.int 2)]]])], .ret (.tup [.lit (.str "automaton"), .var 1, .blt .tuple [.var 4]])]
abbrev f__law_drawn : FnD := ⟨"_law_drawn", "_law_drawn", topS 24, ["tape", "n", "most"], ["tape", "n", "most", "many", "rows", "s", "b"], b__law_drawn⟩
abbrev b__law_call : List Sx :=
  [.try_ [.asg (.v 3) (.call 6 [.var 0, .var 1])] [⟨1, [false, true, false], none, .ret (.str "word")⟩, ⟨2, [false, false, true], some 2, .fld "place"⟩], .ret (.var 3)]
abbrev f__law_call : FnD := ⟨"_law_call", "_law_call", topS 25, ["a", "word"], ["a", "word", "error", "told"], b__law_call⟩
abbrev b__law_bent : List Sx :=
  [.asg (.v 2) (.ix (.var 1) (.lit (.int 1))), .asg (.v 3) (.blt .list [.ix (.var 1) (.lit (.int 2))]), .asg (.v 4) (.call 8 [.var 0, .blt .len [.var 3]]), .asg (.v 5) (.call 8 [.var 0, .call 11 [.var 2]]), .asg (.t [7, 8]) (.ix (.var 3) (.var 4)), .asg (.v 6) (.call 8 [.var 0, .lit (.int 7)]), .ite (.cmp .eq (.var 6) (.lit (.int 0))) [.asgIx (.var 3) (.var 4) (.tup [.bin .add (.bin .add (.sl (.var 7) none (some (.var 5))) (.tup [.call 9 [.var 0, .lst [.blt .len [.var 3], .neg (.lit (.int 1)), .lit (.non), .lit (.bl true)]]])) (.sl (.var 7) (some (.bin .add (.var 5) (.lit (.int 1)))) none), .var 8])] [.ite (.cmp .eq (.var 6) (.lit (.int 1))) [.asgIx (.var 3) (.var 4) (.tup [.var 7, .call 9 [.var 0, .lst [.lit (.int 2), .neg (.lit (.int 1)), .lit (.non), .lit (.bl true), .lit (.bl false)]]])] [.ite (.cmp .eq (.var 6) (.lit (.int 2))) [.asgIx (.var 3) (.var 4) (.tup [.sl (.var 7) (some (.lit (.int 1))) none, .var 8])] [.ite (.cmp .eq (.var 6) (.lit (.int 3))) [.asgIx (.var 3) (.var 4) (.call 9 [.var 0, .lst [.tup [.var 7, .var 8, .lit (.int 0)], .tup [.var 7], .tup [.blt .list [.var 7], .var 8], .lst [.var 7, .var 8]]])] [.ite (.cmp .eq (.var 6) (.lit (.int 4))) [.asg (.v 9) (.lst [.tup [.lit (.str "automaton"), .var 2, .tup []], .tup [.lit (.str "automaton"), .lit (.int 9), .ix (.var 1) (.lit (.int 2))], .tup [.lit (.str "automaton"), .bin .add (.var 2) (.lit (.int 1)), .ix (.var 1) (.lit (.int 2))], .blt .list [.var 1], .tup [.lit (.str "automata"), .var 2, .ix (.var 1) (.lit (.int 2))], .bin .add (.var 1) (.tup [.lit (.int 0)])]), .ret (.call 9 [.var 0, .var 9])] [.ite (.cmp .eq (.var 6) (.lit (.int 5))) [.ret (.call 9 [.var 0, .lst [.lit (.non), .lit (.int 5), .tup [], .tup [.lit (.str "automaton"), .var 2, .blt .list [.var 3]], .tup [.lit (.str "automaton"), .lit (.bl true), .ix (.var 1) (.lit (.int 2))], .tup [.lit (.str "automaton"), .neg (.lit (.int 1)), .ix (.var 1) (.lit (.int 2))]]])] [.ret (.tup [.lit (.str "automaton"), .var 2, .bin .mul (.ix (.var 1) (.lit (.int 2))) (.bin .add (.lit (.int 1)) (.bin .fdiv (.lit (.int 2000)) (.blt .len [.var 3])))])]]]]]], .ret (.tup [.lit (.str "automaton"), .var 2, .blt .tuple [.var 3]])]
abbrev f__law_bent : FnD := ⟨"_law_bent", "_law_bent", topS 26, ["tape", "a"], ["tape", "a", "n", "states", "k", "b", "kind", "nexts", "out", "odd"], b__law_bent⟩
abbrev b_law : List Sx :=
  [.asg (.v 1) (.call 7 [.var 0]), .ite (.not (.call 10 [.lit c_MOST_INNER, .lit (.int 8)])) [.ret (.lit (.bl false))] [], .for_ (.v 2) (.rng [.lit (.int 3)]) [.asg (.v 4) (.call 8 [.var 1, .lit (.int 5)]), .asg (.v 5) (.call 14 [.var 1, .var 4, .lit (.int 9)]), .ite (.not (.call 10 [.call 2 [.var 5], .lit (.bl true)])) [.ret (.lit (.bl false))] [], .for_ (.v 6) (.rng [.lit (.int 6)]) [.asg (.v 9) (.call 12 [.var 1, .var 4, .lit (.int 12)]), .ite (.not (.call 10 [.call 15 [.var 5, .var 9], .call 13 [.var 5, .var 9]])) [.ret (.lit (.bl false))] []], .asg (.v 7) (.call 16 [.var 1, .var 5]), .ite (.or (.not (.call 10 [.call 2 [.var 7], .lit (.bl false)])) (.not (.call 10 [.call 15 [.var 7, .lit (.non)], .lit (.int 0)]))) [.ret (.lit (.bl false))] [], .asg (.v 8) (.call 9 [.var 1, .lst [.tup [.call 11 [.var 4]], .tup [.neg (.lit (.int 1))], .tup [.lit (.bl true)], .tup [.lit (.non)], .lst [.lit (.int 0)], .lit (.non), .lit (.int 0), .lit (.str "0")]]), .ite (.cmp .ne (.call 15 [.var 5, .var 8]) (.lit (.str "word"))) [.ret (.lit (.bl false))] []], .asg (.v 3) (.tup [.lit (.str "automaton"), .lit (.int 0), .blt .tuple [.lc (.rng [.lit (.int 2000)]) (.v 6) [6] none (.tup [.tup [.var 6], .lit (.int 1)])]]), .ret (.call 10 [.call 2 [.var 3], .lit (.bl true)])]
abbrev f_law : FnD := ⟨"law", "law", topS 27, ["script"], ["script", "tape", "turn", "full", "n", "a", "k", "wrong", "odd", "word"], b_law⟩
abbrev x_PlayError : XcD := ⟨"PlayError", [], "PlayError.__init__", clsI (topS 1)⟩
abbrev x_BadWord : XcD := ⟨"BadWord", [], "BadWord.__init__", clsI (topS 2)⟩
abbrev x_BadAutomaton : XcD := ⟨"BadAutomaton", ["place"], "BadAutomaton.__init__", clsI (topS 3)⟩
def prg : Prg := ⟨[f_is_integer, f_is_state, f_is_automaton, f_check_automaton, f_check_word, f_state_behind, f_takes, f__law_tape, f__law_draw, f__law_pick, f__law_same, f__law_power, f__law_word, f__law_takes, f__law_drawn, f__law_call, f__law_bent, f_law], [("is_integer", .fn 0 3), ("is_state", .fn 1 3), ("is_automaton", .fn 2 1), ("check_automaton", .fn 3 2), ("check_word", .fn 4 2), ("state_behind", .fn 5 2), ("takes", .fn 6 2), ("_law_tape", .fn 7 1), ("_law_draw", .fn 8 2), ("_law_pick", .fn 9 2), ("_law_same", .fn 10 2), ("_law_power", .fn 11 1), ("_law_word", .fn 12 3), ("_law_takes", .fn 13 2), ("_law_drawn", .fn 14 3), ("_law_call", .fn 15 2), ("_law_bent", .fn 16 2), ("law", .fn 17 1), ("MOST_STATES", .cst c_MOST_STATES), ("MOST_INNER", .cst c_MOST_INNER), ("LETTERS", .cst c_LETTERS), ("PlayError", .xc 0 []), ("BadWord", .xc 1 []), ("BadAutomaton", .xc 2 ["place"])], ["abs", "all", "bool", "int", "isinstance", "len", "list", "range", "str", "tuple"], 1000000, [x_PlayError, x_BadWord, x_BadAutomaton], [[true, true, true], [false, true, false], [false, false, true]]⟩
theorem ok_is_integer : DefOk prg f_is_integer := ⟨⟨60, by kernel_rfl⟩, ⟨rfl, rfl, rfl, by decide +kernel, rfl, by decide +kernel, by decide +kernel⟩, fun _ _ _ _ _ _ us hl => match us, hl with | [_, _, _], _ => rfl⟩
theorem ok_is_state : DefOk prg f_is_state := ⟨⟨60, by kernel_rfl⟩, ⟨rfl, rfl, rfl, by decide +kernel, rfl, by decide +kernel, by decide +kernel⟩, fun _ _ _ _ _ _ us hl => match us, hl with | [_, _, _], _ => rfl⟩
theorem ok_is_automaton : DefOk prg f_is_automaton := ⟨⟨60, by kernel_rfl⟩, ⟨rfl, rfl, rfl, by decide +kernel, rfl, by decide +kernel, by decide +kernel⟩, fun _ _ _ _ _ _ us hl => match us, hl with | [_], _ => rfl⟩
theorem ok_check_automaton : DefOk prg f_check_automaton := ⟨⟨60, by kernel_rfl⟩, ⟨rfl, rfl, rfl, by decide +kernel, rfl, by decide +kernel, by decide +kernel⟩, fun _ _ _ _ _ _ us hl => match us, hl with | [_, _], _ => rfl⟩
theorem ok_check_word : DefOk prg f_check_word := ⟨⟨60, by kernel_rfl⟩, ⟨rfl, rfl, rfl, by decide +kernel, rfl, by decide +kernel, by decide +kernel⟩, fun _ _ _ _ _ _ us hl => match us, hl with | [_, _], _ => rfl⟩
theorem ok_state_behind : DefOk prg f_state_behind := ⟨⟨60, by kernel_rfl⟩, ⟨rfl, rfl, rfl, by decide +kernel, rfl, by decide +kernel, by decide +kernel⟩, fun _ _ _ _ _ _ us hl => match us, hl with | [_, _], _ => rfl⟩
theorem ok_takes : DefOk prg f_takes := ⟨⟨60, by kernel_rfl⟩, ⟨rfl, rfl, rfl, by decide +kernel, rfl, by decide +kernel, by decide +kernel⟩, fun _ _ _ _ _ _ us hl => match us, hl with | [_, _], _ => rfl⟩
theorem ok__law_tape : DefOk prg f__law_tape := ⟨⟨60, by kernel_rfl⟩, ⟨rfl, rfl, rfl, by decide +kernel, rfl, by decide +kernel, by decide +kernel⟩, fun _ _ _ _ _ _ us hl => match us, hl with | [_], _ => rfl⟩
theorem ok__law_draw : DefOk prg f__law_draw := ⟨⟨60, by kernel_rfl⟩, ⟨rfl, rfl, rfl, by decide +kernel, rfl, by decide +kernel, by decide +kernel⟩, fun _ _ _ _ _ _ us hl => match us, hl with | [_, _], _ => rfl⟩
theorem ok__law_pick : DefOk prg f__law_pick := ⟨⟨60, by kernel_rfl⟩, ⟨rfl, rfl, rfl, by decide +kernel, rfl, by decide +kernel, by decide +kernel⟩, fun _ _ _ _ _ _ us hl => match us, hl with | [_, _], _ => rfl⟩
theorem ok__law_same : DefOk prg f__law_same := ⟨⟨60, by kernel_rfl⟩, ⟨rfl, rfl, rfl, by decide +kernel, rfl, by decide +kernel, by decide +kernel⟩, fun _ _ _ _ _ _ us hl => match us, hl with | [_, _], _ => rfl⟩
theorem ok__law_power : DefOk prg f__law_power := ⟨⟨60, by kernel_rfl⟩, ⟨rfl, rfl, rfl, by decide +kernel, rfl, by decide +kernel, by decide +kernel⟩, fun _ _ _ _ _ _ us hl => match us, hl with | [_], _ => rfl⟩
theorem ok__law_word : DefOk prg f__law_word := ⟨⟨60, by kernel_rfl⟩, ⟨rfl, rfl, rfl, by decide +kernel, rfl, by decide +kernel, by decide +kernel⟩, fun _ _ _ _ _ _ us hl => match us, hl with | [_, _, _], _ => rfl⟩
theorem ok__law_takes : DefOk prg f__law_takes := ⟨⟨60, by kernel_rfl⟩, ⟨rfl, rfl, rfl, by decide +kernel, rfl, by decide +kernel, by decide +kernel⟩, fun _ _ _ _ _ _ us hl => match us, hl with | [_, _], _ => rfl⟩
theorem ok__law_drawn : DefOk prg f__law_drawn := ⟨⟨60, by kernel_rfl⟩, ⟨rfl, rfl, rfl, by decide +kernel, rfl, by decide +kernel, by decide +kernel⟩, fun _ _ _ _ _ _ us hl => match us, hl with | [_, _, _], _ => rfl⟩
theorem ok__law_call : DefOk prg f__law_call := ⟨⟨60, by kernel_rfl⟩, ⟨rfl, rfl, rfl, by decide +kernel, rfl, by decide +kernel, by decide +kernel⟩, fun _ _ _ _ _ _ us hl => match us, hl with | [_, _], _ => rfl⟩
theorem ok__law_bent : DefOk prg f__law_bent := ⟨⟨60, by kernel_rfl⟩, ⟨rfl, rfl, rfl, by decide +kernel, rfl, by decide +kernel, by decide +kernel⟩, fun _ _ _ _ _ _ us hl => match us, hl with | [_, _], _ => rfl⟩
theorem ok_law : DefOk prg f_law := ⟨⟨60, by kernel_rfl⟩, ⟨rfl, rfl, rfl, by decide +kernel, rfl, by decide +kernel, by decide +kernel⟩, fun _ _ _ _ _ _ us hl => match us, hl with | [_], _ => rfl⟩
theorem call_is_integer (k : Nat) (x0 x1 x2 : D) (S : Store) : callN prg (k + 1) 0 [x0, x1, x2] S = gc S (endOf (xss ⟨callN prg k, 1000000⟩ b_is_integer [some x0, some x1, some x2] S)) := Eq.trans rfl rfl
theorem call_is_state (k : Nat) (x0 x1 x2 : D) (S : Store) : callN prg (k + 1) 1 [x0, x1, x2] S = gc S (endOf (xss ⟨callN prg k, 1000000⟩ b_is_state [some x0, some x1, some x2, none, none] S)) := Eq.trans rfl rfl
theorem call_is_automaton (k : Nat) (x0 : D) (S : Store) : callN prg (k + 1) 2 [x0] S = gc S (endOf (xss ⟨callN prg k, 1000000⟩ b_is_automaton [some x0, none, none] S)) := Eq.trans rfl rfl
theorem call_check_automaton (k : Nat) (x0 x1 : D) (S : Store) : callN prg (k + 1) 3 [x0, x1] S = gc S (endOf (xss ⟨callN prg k, 1000000⟩ b_check_automaton [some x0, some x1] S)) := Eq.trans rfl rfl
theorem call_check_word (k : Nat) (x0 x1 : D) (S : Store) : callN prg (k + 1) 4 [x0, x1] S = gc S (endOf (xss ⟨callN prg k, 1000000⟩ b_check_word [some x0, some x1, none] S)) := Eq.trans rfl rfl
theorem call_state_behind (k : Nat) (x0 x1 : D) (S : Store) : callN prg (k + 1) 5 [x0, x1] S = gc S (endOf (xss ⟨callN prg k, 1000000⟩ b_state_behind [some x0, some x1, none, none] S)) := Eq.trans rfl rfl
theorem call_takes (k : Nat) (x0 x1 : D) (S : Store) : callN prg (k + 1) 6 [x0, x1] S = gc S (endOf (xss ⟨callN prg k, 1000000⟩ b_takes [some x0, some x1] S)) := Eq.trans rfl rfl
theorem call__law_tape (k : Nat) (x0 : D) (S : Store) : callN prg (k + 1) 7 [x0] S = gc S (endOf (xss ⟨callN prg k, 1000000⟩ b__law_tape [some x0, none, none] S)) := Eq.trans rfl rfl
theorem call__law_draw (k : Nat) (x0 x1 : D) (S : Store) : callN prg (k + 1) 8 [x0, x1] S = gc S (endOf (xss ⟨callN prg k, 1000000⟩ b__law_draw [some x0, some x1, none, none] S)) := Eq.trans rfl rfl
theorem call__law_pick (k : Nat) (x0 x1 : D) (S : Store) : callN prg (k + 1) 9 [x0, x1] S = gc S (endOf (xss ⟨callN prg k, 1000000⟩ b__law_pick [some x0, some x1] S)) := Eq.trans rfl rfl
theorem call__law_same (k : Nat) (x0 x1 : D) (S : Store) : callN prg (k + 1) 10 [x0, x1] S = gc S (endOf (xss ⟨callN prg k, 1000000⟩ b__law_same [some x0, some x1, none] S)) := Eq.trans rfl rfl
theorem call__law_power (k : Nat) (x0 : D) (S : Store) : callN prg (k + 1) 11 [x0] S = gc S (endOf (xss ⟨callN prg k, 1000000⟩ b__law_power [some x0, none, none] S)) := Eq.trans rfl rfl
theorem call__law_word (k : Nat) (x0 x1 x2 : D) (S : Store) : callN prg (k + 1) 12 [x0, x1, x2] S = gc S (endOf (xss ⟨callN prg k, 1000000⟩ b__law_word [some x0, some x1, some x2, none] S)) := Eq.trans rfl rfl
theorem call__law_takes (k : Nat) (x0 x1 : D) (S : Store) : callN prg (k + 1) 13 [x0, x1] S = gc S (endOf (xss ⟨callN prg k, 1000000⟩ b__law_takes [some x0, some x1, none, none] S)) := Eq.trans rfl rfl
theorem call__law_drawn (k : Nat) (x0 x1 x2 : D) (S : Store) : callN prg (k + 1) 14 [x0, x1, x2] S = gc S (endOf (xss ⟨callN prg k, 1000000⟩ b__law_drawn [some x0, some x1, some x2, none, none, none, none] S)) := Eq.trans rfl rfl
theorem call__law_call (k : Nat) (x0 x1 : D) (S : Store) : callN prg (k + 1) 15 [x0, x1] S = gc S (endOf (xss ⟨callN prg k, 1000000⟩ b__law_call [some x0, some x1, none, none] S)) := Eq.trans rfl rfl
theorem call__law_bent (k : Nat) (x0 x1 : D) (S : Store) : callN prg (k + 1) 16 [x0, x1] S = gc S (endOf (xss ⟨callN prg k, 1000000⟩ b__law_bent [some x0, some x1, none, none, none, none, none, none, none, none] S)) := Eq.trans rfl rfl
theorem call_law (k : Nat) (x0 : D) (S : Store) : callN prg (k + 1) 17 [x0] S = gc S (endOf (xss ⟨callN prg k, 1000000⟩ b_law [some x0, none, none, none, none, none, none, none, none, none] S)) := Eq.trans rfl rfl
theorem hD : ∀ (i : Nat) (f : FnD), prg.fs[i]? = some f → DefOk prg f
  | 0, _, rfl => ok_is_integer
  | 1, _, rfl => ok_is_state
  | 2, _, rfl => ok_is_automaton
  | 3, _, rfl => ok_check_automaton
  | 4, _, rfl => ok_check_word
  | 5, _, rfl => ok_state_behind
  | 6, _, rfl => ok_takes
  | 7, _, rfl => ok__law_tape
  | 8, _, rfl => ok__law_draw
  | 9, _, rfl => ok__law_pick
  | 10, _, rfl => ok__law_same
  | 11, _, rfl => ok__law_power
  | 12, _, rfl => ok__law_word
  | 13, _, rfl => ok__law_takes
  | 14, _, rfl => ok__law_drawn
  | 15, _, rfl => ok__law_call
  | 16, _, rfl => ok__law_bent
  | 17, _, rfl => ok_law
  | _ + 18, _, h => nomatch (show (none : Option FnD) = some _ from h)
theorem xok_PlayError : XcOk x_PlayError := .none _ _ _
theorem xok_BadWord : XcOk x_BadWord := .none _ _ _
theorem xok_BadAutomaton : XcOk x_BadAutomaton := .one ⟨rfl, rfl, rfl, by decide +kernel, rfl, by decide +kernel, by decide +kernel⟩ rfl rfl rfl (by decide +kernel) (by decide +kernel) fun _ _ _ _ _ _ us hl => match us, hl with | [_, _], _ => rfl
theorem hX : ∀ (i : Nat) (c : XcD), prg.xs[i]? = some c → XcOk c
  | 0, _, rfl => xok_PlayError
  | 1, _, rfl => xok_BadWord
  | 2, _, rfl => xok_BadAutomaton
  | _ + 3, _, h => nomatch (show (none : Option XcD) = some _ from h)
end K30

namespace K30
open PySem PySem.Spec Mi
def isInt (lo hi : Int) : D → Bool
  | .int i => decide (lo ≤ i) && decide (i ≤ hi)
  | _ => false
theorem ty_ref {S : Store} {r : Nat} {t : Ty} (h : tyOf' S (.ref r) = some t) : t = .lst ∨ t = .dic := by
  unfold tyOf' at h
  dsimp only at h
  split at h <;> first | (cases h; exact .inl rfl) | (cases h; exact .inr rfl) | cases h
theorem is_integer {k : Nat} {S : Store} {d : D} {lo hi : Int} {t : Ty} (h : tyOf' S d = some t) (hk : 1 ≤ k) : callN prg k 0 [d, .int lo, .int hi] S = .ok (.bl (isInt lo hi d)) S := by
  obtain ⟨k, rfl⟩ : ∃ j, k = j + 1 := ⟨k - 1, by omega⟩
  rw [call_is_integer]
  refine gc_is ?_ rfl
  unfold b_is_integer
  cases d with
  | int i =>
    clear h
    by_cases h1 : lo ≤ i <;> by_cases h2 : i ≤ hi <;> simp (disch := first | assumption | rfl | omega | (simp only [List.length_set, List.length_append, List.length_cons, List.length_nil, List.length_map]; omega) | decide +kernel) only [↓miA, miB, miC, ex_nil, ex_app, ex_app2, ex_app3, ex_app4, ex_app5, ex_app6, in62r, inWr, inWl, lim, List.length_set, List.length_cons, List.length_nil, List.getElem?_cons_zero, List.getElem?_cons_succ, List.set_cons_zero, List.set_cons_succ, Int.reduceToNat, eq_self, List.zip_nil_left, List.zip_nil_right, List.zip_cons_cons, decide_true, decide_eq_true, decide_eq_false, Bool.not_true, Bool.not_false, Bool.and_true, Bool.and_false, Bool.true_and, Bool.false_and, Bool.or_true, Bool.or_false, Bool.true_or, Bool.false_or, Bool.not_not, List.isEmpty_nil, List.isEmpty_cons, true_and, and_true, isInt]
  | ref r => rcases ty_ref h with rfl | rfl <;> simp (disch := first | assumption | rfl | omega | (simp only [List.length_set, List.length_append, List.length_cons, List.length_nil, List.length_map]; omega) | decide +kernel) only [↓miA, miB, miC, ex_nil, ex_app, ex_app2, ex_app3, ex_app4, ex_app5, ex_app6, in62r, inWr, inWl, lim, List.length_set, List.length_cons, List.length_nil, List.getElem?_cons_zero, List.getElem?_cons_succ, List.set_cons_zero, List.set_cons_succ, Int.reduceToNat, eq_self, List.zip_nil_left, List.zip_nil_right, List.zip_cons_cons, decide_true, decide_eq_true, decide_eq_false, Bool.not_true, Bool.not_false, Bool.and_true, Bool.and_false, Bool.true_and, Bool.false_and, Bool.or_true, Bool.or_false, Bool.true_or, Bool.false_or, Bool.not_not, List.isEmpty_nil, List.isEmpty_cons, true_and, and_true, h, isInt]
  | fn => cases h
  | ty => cases h
  | _ => clear h; simp (disch := first | assumption | rfl | omega | (simp only [List.length_set, List.length_append, List.length_cons, List.length_nil, List.length_map]; omega) | decide +kernel) only [↓miA, miB, miC, ex_nil, ex_app, ex_app2, ex_app3, ex_app4, ex_app5, ex_app6, in62r, inWr, inWl, lim, List.length_set, List.length_cons, List.length_nil, List.getElem?_cons_zero, List.getElem?_cons_succ, List.set_cons_zero, List.set_cons_succ, Int.reduceToNat, eq_self, List.zip_nil_left, List.zip_nil_right, List.zip_cons_cons, decide_true, decide_eq_true, decide_eq_false, Bool.not_true, Bool.not_false, Bool.and_true, Bool.and_false, Bool.true_and, Bool.false_and, Bool.or_true, Bool.or_false, Bool.true_or, Bool.false_or, Bool.not_not, List.isEmpty_nil, List.isEmpty_cons, true_and, and_true, isInt]
theorem draw {k : Nat} {S : Store} {t c : Nat} {s m : Int} {ns : List Int} (hk : 1 ≤ k) (h : Tape S t c s ns) (h1 : 1 ≤ m) (h2 : m < 1000000000) (hl : ns.length ≤ 1000) :
    ∃ v s' ns', callN prg k 8 [.ref t, .int m] S = .ok (.int v) ((S.set c (cl ns')).set t (tp c s')) ∧ 0 ≤ v ∧ v < m ∧ Tape ((S.set c (cl ns')).set t (tp c s')) t c s' ns' ∧ ns'.length ≤ ns.length := drawB_at call__law_draw hk h h1 h2 hl
theorem power {k : Nat} {S : Store} {n : Nat} (hn : n ≤ 20) (hk : 1 ≤ k) : callN prg k 11 [.int n] S = .ok (.int (2 ^ n)) S := by
  obtain ⟨k, rfl⟩ : ∃ j, k = j + 1 := ⟨k - 1, by omega⟩
  rw [call__law_power]
  refine gc_is ?_ rfl
  unfold b__law_power
  simp (disch := first | assumption | rfl | omega | (simp only [List.length_set, List.length_append, List.length_cons, List.length_nil, List.length_map]; omega) | decide +kernel) only [↓miA, miB, miC, ex_nil, ex_app, ex_app2, ex_app3, ex_app4, ex_app5, ex_app6, in62r, inWr, inWl, lim, List.length_set, List.length_cons, List.length_nil, List.getElem?_cons_zero, List.getElem?_cons_succ, List.set_cons_zero, List.set_cons_succ, Int.reduceToNat, eq_self, List.zip_nil_left, List.zip_nil_right, List.zip_cons_cons, decide_true, decide_eq_true, decide_eq_false, Bool.not_true, Bool.not_false, Bool.and_true, Bool.and_false, Bool.true_and, Bool.false_and, Bool.or_true, Bool.or_false, Bool.true_or, Bool.false_or, Bool.not_not, List.isEmpty_nil, List.isEmpty_cons, true_and, and_true]
  unfold cFor
  have hl : (rngD 0 (n : Int)).length = n := by rw [rngD_len]; omega
  refine for_items (ds := rngD 0 (n : Int)) (fun j env S' => (∃ e, env = [some (.int n), some (.int (2 ^ j)), e]) ∧ S' = S) ?_ ?_ 1000000 0 _ _ (Nat.zero_le _) (by omega) ⟨⟨_, rfl⟩, rfl⟩
  · rintro j d env S' ed ⟨⟨e, rfl⟩, rfl⟩
    simp (disch := first | assumption | rfl | omega | (simp only [List.length_set, List.length_append, List.length_cons, List.length_nil, List.length_map]; omega) | decide +kernel) only [↓miA, miB, miC, ex_nil, ex_app, ex_app2, ex_app3, ex_app4, ex_app5, ex_app6, in62r, inWr, inWl, lim, List.length_set, List.length_cons, List.length_nil, List.getElem?_cons_zero, List.getElem?_cons_succ, List.set_cons_zero, List.set_cons_succ, Int.reduceToNat, eq_self, List.zip_nil_left, List.zip_nil_right, List.zip_cons_cons, decide_true, decide_eq_true, decide_eq_false, Bool.not_true, Bool.not_false, Bool.and_true, Bool.and_false, Bool.true_and, Bool.false_and, Bool.or_true, Bool.or_false, Bool.true_or, Bool.false_or, Bool.not_not, List.isEmpty_nil, List.isEmpty_cons, true_and, and_true]
    exact ⟨_, by rw [Int.pow_succ, Int.mul_comm]⟩
  · rintro env S' ⟨⟨e, rfl⟩, rfl⟩
    rw [hl]
    simp (disch := first | assumption | rfl | omega | (simp only [List.length_set, List.length_append, List.length_cons, List.length_nil, List.length_map]; omega) | decide +kernel) only [↓miA, miB, miC, ex_nil, ex_app, ex_app2, ex_app3, ex_app4, ex_app5, ex_app6, in62r, inWr, inWl, lim, List.length_set, List.length_cons, List.length_nil, List.getElem?_cons_zero, List.getElem?_cons_succ, List.set_cons_zero, List.set_cons_succ, Int.reduceToNat, eq_self, List.zip_nil_left, List.zip_nil_right, List.zip_cons_cons, decide_true, decide_eq_true, decide_eq_false, Bool.not_true, Bool.not_false, Bool.and_true, Bool.and_false, Bool.true_and, Bool.false_and, Bool.or_true, Bool.or_false, Bool.true_or, Bool.false_or, Bool.not_not, List.isEmpty_nil, List.isEmpty_cons, true_and, and_true]
theorem abs_map (ns : List Int) : (ns.map D.int).map (fun d => match d with | .int i => D.int (if i < 0 then -i else i) | d => d) = (ns.map fun i => if i < 0 then -i else i).map D.int := by
  rw [List.map_map, List.map_map]
  rfl
theorem tapeOf {k : Nat} {S : Store} {r : Nat} {ns : List Int} (hr : S[r]? = some (.frz (ns.map D.int))) (hl : ns.length ≤ 63) (hk : 1 ≤ k) :
    ∃ s, callN prg k 7 [.ref r] S = .ok (.ref (S.length + 1)) (S ++ [cl (ns.map fun i => if i < 0 then -i else i)] ++ [tp S.length s]) := by
  obtain ⟨k, rfl⟩ : ∃ j, k = j + 1 := ⟨k - 1, by omega⟩
  rw [call__law_tape]
  have hlt : r < S.length := (List.getElem?_eq_some_iff.mp hr).1
  have hml : (ns.map D.int).length = ns.length := List.length_map ..
  have h : W (endOf (xss ⟨callN prg k, 1000000⟩ b__law_tape [some (.ref r), none, none] S)) (fun d S' => ∃ s, d = .ref (S.length + 1) ∧ S' = S ++ [cl (ns.map fun i => if i < 0 then -i else i)] ++ [tp S.length s]) NoEx := by
    unfold b__law_tape
    simp (disch := first | assumption | rfl | omega | (simp only [List.length_set, List.length_append, List.length_cons, List.length_nil, List.length_map]; omega) | decide +kernel) only [↓miA, miB, miC, ex_nil, ex_app, ex_app2, ex_app3, ex_app4, ex_app5, ex_app6, in62r, inWr, inWl, lim, List.length_set, List.length_cons, List.length_nil, List.getElem?_cons_zero, List.getElem?_cons_succ, List.set_cons_zero, List.set_cons_succ, Int.reduceToNat, eq_self, List.zip_nil_left, List.zip_nil_right, List.zip_cons_cons, decide_true, decide_eq_true, decide_eq_false, Bool.not_true, Bool.not_false, Bool.and_true, Bool.and_false, Bool.true_and, Bool.false_and, Bool.or_true, Bool.or_false, Bool.true_or, Bool.false_or, Bool.not_not, List.isEmpty_nil, List.isEmpty_cons, true_and, and_true, hr]
    unfold cFor
    refine for_cell (ds := ns.map D.int) (fun j env S' => (∃ s e, env = [some (.ref r), some (.int s), e]) ∧ S' = S) ?_ ?_ ?_ 1000000 0 _ _ (Nat.zero_le _) (by omega) ⟨⟨_, _, rfl⟩, rfl⟩
    · rintro j env S' ⟨_, rfl⟩
      exact .inr hr
    · rintro j d env S' ed ⟨⟨s, e, rfl⟩, rfl⟩
      obtain ⟨i, _, rfl⟩ := List.mem_map.mp (List.mem_of_getElem? ed)
      simp (disch := first | assumption | rfl | omega | (simp only [List.length_set, List.length_append, List.length_cons, List.length_nil, List.length_map]; omega) | decide +kernel) only [↓miA, miB, miC, ex_nil, ex_app, ex_app2, ex_app3, ex_app4, ex_app5, ex_app6, in62r, inWr, inWl, lim, List.length_set, List.length_cons, List.length_nil, List.getElem?_cons_zero, List.getElem?_cons_succ, List.set_cons_zero, List.set_cons_succ, Int.reduceToNat, eq_self, List.zip_nil_left, List.zip_nil_right, List.zip_cons_cons, decide_true, decide_eq_true, decide_eq_false, Bool.not_true, Bool.not_false, Bool.and_true, Bool.and_false, Bool.true_and, Bool.false_and, Bool.or_true, Bool.or_false, Bool.true_or, Bool.false_or, Bool.not_not, List.isEmpty_nil, List.isEmpty_cons, true_and, and_true]
      exact ⟨_, _, rfl⟩
    · rintro env S' ⟨⟨s, e, rfl⟩, rfl⟩
      simp (disch := first | assumption | rfl | omega | (simp only [List.length_set, List.length_append, List.length_cons, List.length_nil, List.length_map]; omega) | decide +kernel) only [↓miA, miB, miC, ex_nil, ex_app, ex_app2, ex_app3, ex_app4, ex_app5, ex_app6, in62r, inWr, inWl, lim, List.length_set, List.length_cons, List.length_nil, List.getElem?_cons_zero, List.getElem?_cons_succ, List.set_cons_zero, List.set_cons_succ, Int.reduceToNat, eq_self, List.zip_nil_left, List.zip_nil_right, List.zip_cons_cons, decide_true, decide_eq_true, decide_eq_false, Bool.not_true, Bool.not_false, Bool.and_true, Bool.and_false, Bool.true_and, Bool.false_and, Bool.or_true, Bool.or_false, Bool.true_or, Bool.false_or, Bool.not_not, List.isEmpty_nil, List.isEmpty_cons, true_and, and_true, hr]
      refine lcM (ds := ns.map D.int) (fun d => match d with | .int i => D.int (if i < 0 then -i else i) | d => d) (fun j l => at_cell (.inr (by rw [get_app hlt]; exact hr))) (by show (ns.map D.int).length < 1000000; omega) (by omega) (fun d acc hd => ?_) ?_
      · obtain ⟨i, _, rfl⟩ := List.mem_map.mp hd
        simp (disch := first | assumption | rfl | omega | (simp only [List.length_set, List.length_append, List.length_cons, List.length_nil, List.length_map]; omega) | decide +kernel) only [↓miA, miB, miC, ex_nil, ex_app, ex_app2, ex_app3, ex_app4, ex_app5, ex_app6, in62r, inWr, inWl, lim, List.length_set, List.length_cons, List.length_nil, List.getElem?_cons_zero, List.getElem?_cons_succ, List.set_cons_zero, List.set_cons_succ, Int.reduceToNat, eq_self, List.zip_nil_left, List.zip_nil_right, List.zip_cons_cons, decide_true, decide_eq_true, decide_eq_false, Bool.not_true, Bool.not_false, Bool.and_true, Bool.and_false, Bool.true_and, Bool.false_and, Bool.or_true, Bool.or_false, Bool.true_or, Bool.false_or, Bool.not_not, List.isEmpty_nil, List.isEmpty_cons, true_and, and_true]
      · rw [abs_map]
        simp (disch := first | assumption | rfl | omega | (simp only [List.length_set, List.length_append, List.length_cons, List.length_nil, List.length_map]; omega) | decide +kernel) only [↓miA, miB, miC, ex_nil, ex_app, ex_app2, ex_app3, ex_app4, ex_app5, ex_app6, in62r, inWr, inWl, lim, List.length_set, List.length_cons, List.length_nil, List.getElem?_cons_zero, List.getElem?_cons_succ, List.set_cons_zero, List.set_cons_succ, Int.reduceToNat, eq_self, List.zip_nil_left, List.zip_nil_right, List.zip_cons_cons, decide_true, decide_eq_true, decide_eq_false, Bool.not_true, Bool.not_false, Bool.and_true, Bool.and_false, Bool.true_and, Bool.false_and, Bool.or_true, Bool.or_false, Bool.true_or, Bool.false_or, Bool.not_not, List.isEmpty_nil, List.isEmpty_cons, true_and, and_true]
        exact ⟨_, by rw [List.length_append]; rfl, rfl⟩
  cases e : endOf (xss ⟨callN prg k, 1000000⟩ b__law_tape [some (.ref r), none, none] S) with
  | ok d S' =>
    rw [e] at h
    obtain ⟨s, rfl, rfl⟩ := h
    refine ⟨s, ?_⟩
    unfold gc
    dsimp only
    rw [List.append_assoc, gcOk_app, if_pos rfl, if_neg (fun z => by have := of_decide_eq_true z; omega), if_pos (decide_eq_true (by omega))]
    have e2 : (S ++ ([cl (ns.map fun i => if i < 0 then -i else i)] ++ [tp S.length s]))[S.length + 1]? = some (tp S.length s) := by
      rw [List.getElem?_append_right (by omega), show S.length + 1 - S.length = 1 by omega]
      rfl
    rw [e2]
    dsimp only
    rw [if_neg (fun z => by
      have z : (decide (S.length < S.length) && _) = true := z
      rw [Bool.and_eq_true] at z
      have := of_decide_eq_true z.1
      omega)]
  | er e S' => rw [e] at h; exact h.elim
  | no => rw [e] at h; exact h.elim
def isState (letters states : Int) : D → Bool
  | .tup [.tup ns, o] => isInt 0 1 o && (decide ((ns.length : Int) = letters) && ns.all (isInt 0 (states - 1)))
  | _ => false
theorem two {α : Type} (ds : List α) : (∃ a b, ds = [a, b]) ∨ ds.length ≠ 2 := by
  match ds with
  | [] => right; simp
  | [a] => right; simp
  | [a, b] => exact .inl ⟨a, b, rfl⟩
  | a :: b :: c :: r => right; simp
theorem isState_ne {m n : Int} {ds : List D} (h : ds.length ≠ 2) : isState m n (.tup ds) = false := by
  unfold isState
  split
  · rename_i e
    cases e
    exact absurd rfl h
  · rfl
theorem all_map (f : D → Bool) (ds : List D) : (ds.map fun d => D.bl (f d)) = (ds.map f).map D.bl := by rw [List.map_map]; rfl
theorem is_state {k : Nat} {S : Store} {b n' : Nat} {d : D} {m n : Int} (h : Pl S b 3000 n' d) (hk : 2 ≤ k) : callN prg k 1 [d, .int m, .int n] S = .ok (.bl (isState m n d)) S := by
  obtain ⟨k, rfl⟩ : ∃ j, k = j + 1 := ⟨k - 1, by omega⟩
  rw [call_is_state]
  refine gc_is ?_ rfl
  unfold b_is_state
  obtain ⟨t, ht⟩ := h.ty
  cases d with
  | tup ds =>
    rcases two ds with ⟨x, o, rfl⟩ | h2
    · cases n' with
      | zero => exact h.elim
      | succ n' =>
        have hx := h.2 x (by simp)
        have ho := h.2 o (by simp)
        obtain ⟨tx, htx⟩ := hx.ty
        obtain ⟨to_, hto⟩ := ho.ty
        cases e1 : isInt 0 1 o with
        | false => simp (disch := first | assumption | rfl | omega | (simp only [List.length_set, List.length_append, List.length_cons, List.length_nil, List.length_map]; omega) | decide +kernel) only [↓miA, miB, miC, ex_nil, ex_app, ex_app2, ex_app3, ex_app4, ex_app5, ex_app6, in62r, inWr, inWl, lim, List.length_set, List.length_cons, List.length_nil, List.getElem?_cons_zero, List.getElem?_cons_succ, List.set_cons_zero, List.set_cons_succ, Int.reduceToNat, eq_self, List.zip_nil_left, List.zip_nil_right, List.zip_cons_cons, decide_true, decide_eq_true, decide_eq_false, Bool.not_true, Bool.not_false, Bool.and_true, Bool.and_false, Bool.true_and, Bool.false_and, Bool.or_true, Bool.or_false, Bool.true_or, Bool.false_or, Bool.not_not, List.isEmpty_nil, List.isEmpty_cons, true_and, and_true, is_integer hto, e1]; cases x <;> simp [isState, e1]
        | true =>
          cases x with
          | tup ns =>
            by_cases hl : (ns.length : Int) = m
            · simp (disch := first | assumption | rfl | omega | (simp only [List.length_set, List.length_append, List.length_cons, List.length_nil, List.length_map]; omega) | decide +kernel) only [↓miA, miB, miC, ex_nil, ex_app, ex_app2, ex_app3, ex_app4, ex_app5, ex_app6, in62r, inWr, inWl, lim, List.length_set, List.length_cons, List.length_nil, List.getElem?_cons_zero, List.getElem?_cons_succ, List.set_cons_zero, List.set_cons_succ, Int.reduceToNat, eq_self, List.zip_nil_left, List.zip_nil_right, List.zip_cons_cons, decide_true, decide_eq_true, decide_eq_false, Bool.not_true, Bool.not_false, Bool.and_true, Bool.and_false, Bool.true_and, Bool.false_and, Bool.or_true, Bool.or_false, Bool.true_or, Bool.false_or, Bool.not_not, List.isEmpty_nil, List.isEmpty_cons, true_and, and_true, is_integer hto, e1]
              cases n' with
              | zero => exact hx.elim
              | succ n' =>
              refine lcM (ds := ns) (fun d => .bl (isInt 0 (n - 1) d)) (fun _ _ => rfl) (by show ns.length < 1000000; have := hx.1; omega) (by have := hx.1; omega) (fun d acc hd => ?_) ?_
              · obtain ⟨t', ht'⟩ := ((hx.2 d hd).ext (Ext.app (l := [.lst acc]))).ty
                simp (disch := first | assumption | rfl | omega | (simp only [List.length_set, List.length_append, List.length_cons, List.length_nil, List.length_map]; omega) | decide +kernel) only [↓miA, miB, miC, ex_nil, ex_app, ex_app2, ex_app3, ex_app4, ex_app5, ex_app6, in62r, inWr, inWl, lim, List.length_set, List.length_cons, List.length_nil, List.getElem?_cons_zero, List.getElem?_cons_succ, List.set_cons_zero, List.set_cons_succ, Int.reduceToNat, eq_self, List.zip_nil_left, List.zip_nil_right, List.zip_cons_cons, decide_true, decide_eq_true, decide_eq_false, Bool.not_true, Bool.not_false, Bool.and_true, Bool.and_false, Bool.true_and, Bool.false_and, Bool.or_true, Bool.or_false, Bool.true_or, Bool.false_or, Bool.not_not, List.isEmpty_nil, List.isEmpty_cons, true_and, and_true, is_integer ht']
              · simp (disch := first | assumption | rfl | omega | (simp only [List.length_set, List.length_append, List.length_cons, List.length_nil, List.length_map]; omega) | decide +kernel) only [↓miA, miB, miC, ex_nil, ex_app, ex_app2, ex_app3, ex_app4, ex_app5, ex_app6, in62r, inWr, inWl, lim, List.length_set, List.length_cons, List.length_nil, List.getElem?_cons_zero, List.getElem?_cons_succ, List.set_cons_zero, List.set_cons_succ, Int.reduceToNat, eq_self, List.zip_nil_left, List.zip_nil_right, List.zip_cons_cons, decide_true, decide_eq_true, decide_eq_false, Bool.not_true, Bool.not_false, Bool.and_true, Bool.and_false, Bool.true_and, Bool.false_and, Bool.or_true, Bool.or_false, Bool.true_or, Bool.false_or, Bool.not_not, List.isEmpty_nil, List.isEmpty_cons, true_and, and_true, all_map, asBls_map, isState, e1, hl]
                rw [List.all_map]
                rfl
            · simp (disch := first | assumption | rfl | omega | (simp only [List.length_set, List.length_append, List.length_cons, List.length_nil, List.length_map]; omega) | decide +kernel) only [↓miA, miB, miC, ex_nil, ex_app, ex_app2, ex_app3, ex_app4, ex_app5, ex_app6, in62r, inWr, inWl, lim, List.length_set, List.length_cons, List.length_nil, List.getElem?_cons_zero, List.getElem?_cons_succ, List.set_cons_zero, List.set_cons_succ, Int.reduceToNat, eq_self, List.zip_nil_left, List.zip_nil_right, List.zip_cons_cons, decide_true, decide_eq_true, decide_eq_false, Bool.not_true, Bool.not_false, Bool.and_true, Bool.and_false, Bool.true_and, Bool.false_and, Bool.or_true, Bool.or_false, Bool.true_or, Bool.false_or, Bool.not_not, List.isEmpty_nil, List.isEmpty_cons, true_and, and_true, is_integer hto, e1, isState, hl]
          | ref r => rcases ty_ref htx with rfl | rfl <;> simp (disch := first | assumption | rfl | omega | (simp only [List.length_set, List.length_append, List.length_cons, List.length_nil, List.length_map]; omega) | decide +kernel) only [↓miA, miB, miC, ex_nil, ex_app, ex_app2, ex_app3, ex_app4, ex_app5, ex_app6, in62r, inWr, inWl, lim, List.length_set, List.length_cons, List.length_nil, List.getElem?_cons_zero, List.getElem?_cons_succ, List.set_cons_zero, List.set_cons_succ, Int.reduceToNat, eq_self, List.zip_nil_left, List.zip_nil_right, List.zip_cons_cons, decide_true, decide_eq_true, decide_eq_false, Bool.not_true, Bool.not_false, Bool.and_true, Bool.and_false, Bool.true_and, Bool.false_and, Bool.or_true, Bool.or_false, Bool.true_or, Bool.false_or, Bool.not_not, List.isEmpty_nil, List.isEmpty_cons, true_and, and_true, is_integer hto, e1, htx, isState]
          | fn => cases htx
          | ty => cases htx
          | _ => simp (disch := first | assumption | rfl | omega | (simp only [List.length_set, List.length_append, List.length_cons, List.length_nil, List.length_map]; omega) | decide +kernel) only [↓miA, miB, miC, ex_nil, ex_app, ex_app2, ex_app3, ex_app4, ex_app5, ex_app6, in62r, inWr, inWl, lim, List.length_set, List.length_cons, List.length_nil, List.getElem?_cons_zero, List.getElem?_cons_succ, List.set_cons_zero, List.set_cons_succ, Int.reduceToNat, eq_self, List.zip_nil_left, List.zip_nil_right, List.zip_cons_cons, decide_true, decide_eq_true, decide_eq_false, Bool.not_true, Bool.not_false, Bool.and_true, Bool.and_false, Bool.true_and, Bool.false_and, Bool.or_true, Bool.or_false, Bool.true_or, Bool.false_or, Bool.not_not, List.isEmpty_nil, List.isEmpty_cons, true_and, and_true, is_integer hto, e1, isState]
    · have h2' : (ds.length : Int) ≠ 2 := by omega
      simp (disch := first | assumption | rfl | omega | (simp only [List.length_set, List.length_append, List.length_cons, List.length_nil, List.length_map]; omega) | decide +kernel) only [↓miA, miB, miC, ex_nil, ex_app, ex_app2, ex_app3, ex_app4, ex_app5, ex_app6, in62r, inWr, inWl, lim, List.length_set, List.length_cons, List.length_nil, List.getElem?_cons_zero, List.getElem?_cons_succ, List.set_cons_zero, List.set_cons_succ, Int.reduceToNat, eq_self, List.zip_nil_left, List.zip_nil_right, List.zip_cons_cons, decide_true, decide_eq_true, decide_eq_false, Bool.not_true, Bool.not_false, Bool.and_true, Bool.and_false, Bool.true_and, Bool.false_and, Bool.or_true, Bool.or_false, Bool.true_or, Bool.false_or, Bool.not_not, List.isEmpty_nil, List.isEmpty_cons, true_and, and_true, isState_ne h2]
  | ref r => rcases ty_ref ht with rfl | rfl <;> simp (disch := first | assumption | rfl | omega | (simp only [List.length_set, List.length_append, List.length_cons, List.length_nil, List.length_map]; omega) | decide +kernel) only [↓miA, miB, miC, ex_nil, ex_app, ex_app2, ex_app3, ex_app4, ex_app5, ex_app6, in62r, inWr, inWl, lim, List.length_set, List.length_cons, List.length_nil, List.getElem?_cons_zero, List.getElem?_cons_succ, List.set_cons_zero, List.set_cons_succ, Int.reduceToNat, eq_self, List.zip_nil_left, List.zip_nil_right, List.zip_cons_cons, decide_true, decide_eq_true, decide_eq_false, Bool.not_true, Bool.not_false, Bool.and_true, Bool.and_false, Bool.true_and, Bool.false_and, Bool.or_true, Bool.or_false, Bool.true_or, Bool.false_or, Bool.not_not, List.isEmpty_nil, List.isEmpty_cons, true_and, and_true, ht, isState]
  | fn => cases ht
  | ty => cases ht
  | _ => simp (disch := first | assumption | rfl | omega | (simp only [List.length_set, List.length_append, List.length_cons, List.length_nil, List.length_map]; omega) | decide +kernel) only [↓miA, miB, miC, ex_nil, ex_app, ex_app2, ex_app3, ex_app4, ex_app5, ex_app6, in62r, inWr, inWl, lim, List.length_set, List.length_cons, List.length_nil, List.getElem?_cons_zero, List.getElem?_cons_succ, List.set_cons_zero, List.set_cons_succ, Int.reduceToNat, eq_self, List.zip_nil_left, List.zip_nil_right, List.zip_cons_cons, decide_true, decide_eq_true, decide_eq_false, Bool.not_true, Bool.not_false, Bool.and_true, Bool.and_false, Bool.true_and, Bool.false_and, Bool.or_true, Bool.or_false, Bool.true_or, Bool.false_or, Bool.not_not, List.isEmpty_nil, List.isEmpty_cons, true_and, and_true, isState]
def isAut : D → Bool
  | .tup [.str s, .int n, .tup qs] => decide (s = "automaton") && (isInt 0 8 (.int n) && (decide (1 ≤ qs.length ∧ qs.length ≤ 2000) && qs.all (isState (2 ^ n.toNat) qs.length)))
  | _ => false
theorem letters_at {n : Int} (h : 0 ≤ n ∧ n ≤ 8) : ([.int 1, .int 2, .int 4, .int 8, .int 16, .int 32, .int 64, .int 128, .int 256] : List D)[n.toNat]? = some (.int (2 ^ n.toNat)) := by
  obtain ⟨h1, h2⟩ := h
  have : n = 0 ∨ n = 1 ∨ n = 2 ∨ n = 3 ∨ n = 4 ∨ n = 5 ∨ n = 6 ∨ n = 7 ∨ n = 8 := by omega
  rcases this with rfl | rfl | rfl | rfl | rfl | rfl | rfl | rfl | rfl <;> rfl
end K30

namespace K30
open PySem PySem.Spec Mi
theorem three {α : Type} (ds : List α) : (∃ a b c, ds = [a, b, c]) ∨ ds.length ≠ 3 := by
  match ds with
  | [] => right; simp
  | [a] => right; simp
  | [a, b] => right; simp
  | [a, b, c] => exact .inl ⟨a, b, c, rfl⟩
  | a :: b :: c :: d :: r => right; simp
theorem isAut_ne {ds : List D} (h : ds.length ≠ 3) : isAut (.tup ds) = false := by
  unfold isAut
  split
  · rename_i e
    cases e
    exact absurd rfl h
  · rfl
theorem isAut_int {x y z : D} (h : isInt 0 8 y = false) : isAut (.tup [x, y, z]) = false := by
  cases x <;> cases y <;> cases z <;> simp [isAut, isInt] at h ⊢
  intro _ h1 h2
  have := h h1
  omega
theorem is_automaton {k : Nat} {S : Store} {b n' : Nat} {d : D} (h : Pl S b 3000 n' d) (hn : n' ≤ 50) (hk : 3 ≤ k) : callN prg k 2 [d] S = .ok (.bl (isAut d)) S := by
  obtain ⟨k, rfl⟩ : ∃ j, k = j + 1 := ⟨k - 1, by omega⟩
  rw [call_is_automaton]
  refine gc_is ?_ rfl
  unfold b_is_automaton
  obtain ⟨t, ht⟩ := h.ty
  cases d with
  | tup ds =>
    rcases three ds with ⟨x, y, z, rfl⟩ | h2
    · cases n' with
      | zero => exact h.elim
      | succ n' =>
        have hx := h.2 x (by simp)
        have hy := h.2 y (by simp)
        have hz := h.2 z (by simp)
        obtain ⟨tx, htx⟩ := hx.ty
        obtain ⟨ty, hty⟩ := hy.ty
        obtain ⟨tz, htz⟩ := hz.ty
        cases x with
        | str s =>
          by_cases hs : s = "automaton"
          · subst hs
            cases e1 : isInt 0 8 y with
            | false => simp (disch := first | assumption | rfl | omega | (simp only [List.length_set, List.length_append, List.length_cons, List.length_nil, List.length_map]; omega) | decide +kernel) only [↓miA, miB, miC, ex_nil, ex_app, ex_app2, ex_app3, ex_app4, ex_app5, ex_app6, in62r, inWr, inWl, lim, List.length_set, List.length_cons, List.length_nil, List.getElem?_cons_zero, List.getElem?_cons_succ, List.set_cons_zero, List.set_cons_succ, Int.reduceToNat, eq_self, List.zip_nil_left, List.zip_nil_right, List.zip_cons_cons, decide_true, decide_eq_true, decide_eq_false, Bool.not_true, Bool.not_false, Bool.and_true, Bool.and_false, Bool.true_and, Bool.false_and, Bool.or_true, Bool.or_false, Bool.true_or, Bool.false_or, Bool.not_not, List.isEmpty_nil, List.isEmpty_cons, true_and, and_true, is_integer hty, e1, isAut_int e1]
            | true =>
              cases y with
              | int n =>
                cases z with
                | tup qs =>
                  have e2 : 0 ≤ n ∧ n ≤ 8 := by
                    have e1 : (decide (0 ≤ n) && decide (n ≤ 8)) = true := e1
                    rw [Bool.and_eq_true] at e1
                    exact ⟨of_decide_eq_true e1.1, of_decide_eq_true e1.2⟩
                  by_cases l1 : 1 ≤ qs.length <;> by_cases l2 : qs.length ≤ 2000
                  · simp (disch := first | assumption | rfl | omega | (simp only [List.length_set, List.length_append, List.length_cons, List.length_nil, List.length_map]; omega) | decide +kernel) only [↓miA, miB, miC, ex_nil, ex_app, ex_app2, ex_app3, ex_app4, ex_app5, ex_app6, in62r, inWr, inWl, lim, List.length_set, List.length_cons, List.length_nil, List.getElem?_cons_zero, List.getElem?_cons_succ, List.set_cons_zero, List.set_cons_succ, Int.reduceToNat, eq_self, List.zip_nil_left, List.zip_nil_right, List.zip_cons_cons, decide_true, decide_eq_true, decide_eq_false, Bool.not_true, Bool.not_false, Bool.and_true, Bool.and_false, Bool.true_and, Bool.false_and, Bool.or_true, Bool.or_false, Bool.true_or, Bool.false_or, Bool.not_not, List.isEmpty_nil, List.isEmpty_cons, true_and, and_true, is_integer hty, e1]
                    refine lcM (ds := qs) (fun d => .bl (isState (2 ^ n.toNat) qs.length d)) (fun _ _ => rfl) (by show qs.length < 1000000; omega) (by omega) (fun d acc hd => ?_) ?_
                    · cases n' with
                      | zero => exact hz.elim
                      | succ n' => simp (disch := first | assumption | rfl | omega | (simp only [List.length_set, List.length_append, List.length_cons, List.length_nil, List.length_map]; omega) | decide +kernel) only [↓miA, miB, miC, ex_nil, ex_app, ex_app2, ex_app3, ex_app4, ex_app5, ex_app6, in62r, inWr, inWl, lim, List.length_set, List.length_cons, List.length_nil, List.getElem?_cons_zero, List.getElem?_cons_succ, List.set_cons_zero, List.set_cons_succ, Int.reduceToNat, eq_self, List.zip_nil_left, List.zip_nil_right, List.zip_cons_cons, decide_true, decide_eq_true, decide_eq_false, Bool.not_true, Bool.not_false, Bool.and_true, Bool.and_false, Bool.true_and, Bool.false_and, Bool.or_true, Bool.or_false, Bool.true_or, Bool.false_or, Bool.not_not, List.isEmpty_nil, List.isEmpty_cons, true_and, and_true, letters_at, is_state ((hz.2 d hd).ext (Ext.app (l := [.lst acc])))]
                    · simp (disch := first | assumption | rfl | omega | (simp only [List.length_set, List.length_append, List.length_cons, List.length_nil, List.length_map]; omega) | decide +kernel) only [↓miA, miB, miC, ex_nil, ex_app, ex_app2, ex_app3, ex_app4, ex_app5, ex_app6, in62r, inWr, inWl, lim, List.length_set, List.length_cons, List.length_nil, List.getElem?_cons_zero, List.getElem?_cons_succ, List.set_cons_zero, List.set_cons_succ, Int.reduceToNat, eq_self, List.zip_nil_left, List.zip_nil_right, List.zip_cons_cons, decide_true, decide_eq_true, decide_eq_false, Bool.not_true, Bool.not_false, Bool.and_true, Bool.and_false, Bool.true_and, Bool.false_and, Bool.or_true, Bool.or_false, Bool.true_or, Bool.false_or, Bool.not_not, List.isEmpty_nil, List.isEmpty_cons, true_and, and_true, all_map, asBls_map, isAut, e1]
                      rw [List.all_map]
                      rfl
                  · have : decide (1 ≤ qs.length ∧ qs.length ≤ 2000) = false := decide_eq_false fun h => l2 h.2
                    simp (disch := first | assumption | rfl | omega | (simp only [List.length_set, List.length_append, List.length_cons, List.length_nil, List.length_map]; omega) | decide +kernel) only [↓miA, miB, miC, ex_nil, ex_app, ex_app2, ex_app3, ex_app4, ex_app5, ex_app6, in62r, inWr, inWl, lim, List.length_set, List.length_cons, List.length_nil, List.getElem?_cons_zero, List.getElem?_cons_succ, List.set_cons_zero, List.set_cons_succ, Int.reduceToNat, eq_self, List.zip_nil_left, List.zip_nil_right, List.zip_cons_cons, decide_true, decide_eq_true, decide_eq_false, Bool.not_true, Bool.not_false, Bool.and_true, Bool.and_false, Bool.true_and, Bool.false_and, Bool.or_true, Bool.or_false, Bool.true_or, Bool.false_or, Bool.not_not, List.isEmpty_nil, List.isEmpty_cons, true_and, and_true, is_integer hty, e1, isAut, this]
                  · have : decide (1 ≤ qs.length ∧ qs.length ≤ 2000) = false := decide_eq_false fun h => l1 h.1
                    simp (disch := first | assumption | rfl | omega | (simp only [List.length_set, List.length_append, List.length_cons, List.length_nil, List.length_map]; omega) | decide +kernel) only [↓miA, miB, miC, ex_nil, ex_app, ex_app2, ex_app3, ex_app4, ex_app5, ex_app6, in62r, inWr, inWl, lim, List.length_set, List.length_cons, List.length_nil, List.getElem?_cons_zero, List.getElem?_cons_succ, List.set_cons_zero, List.set_cons_succ, Int.reduceToNat, eq_self, List.zip_nil_left, List.zip_nil_right, List.zip_cons_cons, decide_true, decide_eq_true, decide_eq_false, Bool.not_true, Bool.not_false, Bool.and_true, Bool.and_false, Bool.true_and, Bool.false_and, Bool.or_true, Bool.or_false, Bool.true_or, Bool.false_or, Bool.not_not, List.isEmpty_nil, List.isEmpty_cons, true_and, and_true, is_integer hty, e1, isAut, this]
                  · exact absurd (show qs.length ≤ 2000 by omega) l2
                | ref r => rcases ty_ref htz with rfl | rfl <;> simp (disch := first | assumption | rfl | omega | (simp only [List.length_set, List.length_append, List.length_cons, List.length_nil, List.length_map]; omega) | decide +kernel) only [↓miA, miB, miC, ex_nil, ex_app, ex_app2, ex_app3, ex_app4, ex_app5, ex_app6, in62r, inWr, inWl, lim, List.length_set, List.length_cons, List.length_nil, List.getElem?_cons_zero, List.getElem?_cons_succ, List.set_cons_zero, List.set_cons_succ, Int.reduceToNat, eq_self, List.zip_nil_left, List.zip_nil_right, List.zip_cons_cons, decide_true, decide_eq_true, decide_eq_false, Bool.not_true, Bool.not_false, Bool.and_true, Bool.and_false, Bool.true_and, Bool.false_and, Bool.or_true, Bool.or_false, Bool.true_or, Bool.false_or, Bool.not_not, List.isEmpty_nil, List.isEmpty_cons, true_and, and_true, is_integer hty, e1, htz, isAut]
                | fn => cases htz
                | ty => cases htz
                | _ => simp (disch := first | assumption | rfl | omega | (simp only [List.length_set, List.length_append, List.length_cons, List.length_nil, List.length_map]; omega) | decide +kernel) only [↓miA, miB, miC, ex_nil, ex_app, ex_app2, ex_app3, ex_app4, ex_app5, ex_app6, in62r, inWr, inWl, lim, List.length_set, List.length_cons, List.length_nil, List.getElem?_cons_zero, List.getElem?_cons_succ, List.set_cons_zero, List.set_cons_succ, Int.reduceToNat, eq_self, List.zip_nil_left, List.zip_nil_right, List.zip_cons_cons, decide_true, decide_eq_true, decide_eq_false, Bool.not_true, Bool.not_false, Bool.and_true, Bool.and_false, Bool.true_and, Bool.false_and, Bool.or_true, Bool.or_false, Bool.true_or, Bool.false_or, Bool.not_not, List.isEmpty_nil, List.isEmpty_cons, true_and, and_true, is_integer hty, e1, isAut]
              | _ => cases e1
          · have e0 : isAut (.tup [.str s, y, z]) = false := by cases y <;> cases z <;> simp [isAut, hs]
            simp (disch := first | assumption | rfl | omega | (simp only [List.length_set, List.length_append, List.length_cons, List.length_nil, List.length_map]; omega) | decide +kernel) only [↓miA, miB, miC, ex_nil, ex_app, ex_app2, ex_app3, ex_app4, ex_app5, ex_app6, in62r, inWr, inWl, lim, List.length_set, List.length_cons, List.length_nil, List.getElem?_cons_zero, List.getElem?_cons_succ, List.set_cons_zero, List.set_cons_succ, Int.reduceToNat, eq_self, List.zip_nil_left, List.zip_nil_right, List.zip_cons_cons, decide_true, decide_eq_true, decide_eq_false, Bool.not_true, Bool.not_false, Bool.and_true, Bool.and_false, Bool.true_and, Bool.false_and, Bool.or_true, Bool.or_false, Bool.true_or, Bool.false_or, Bool.not_not, List.isEmpty_nil, List.isEmpty_cons, true_and, and_true, e0]
        | ref r => rcases ty_ref htx with rfl | rfl <;> simp (disch := first | assumption | rfl | omega | (simp only [List.length_set, List.length_append, List.length_cons, List.length_nil, List.length_map]; omega) | decide +kernel) only [↓miA, miB, miC, ex_nil, ex_app, ex_app2, ex_app3, ex_app4, ex_app5, ex_app6, in62r, inWr, inWl, lim, List.length_set, List.length_cons, List.length_nil, List.getElem?_cons_zero, List.getElem?_cons_succ, List.set_cons_zero, List.set_cons_succ, Int.reduceToNat, eq_self, List.zip_nil_left, List.zip_nil_right, List.zip_cons_cons, decide_true, decide_eq_true, decide_eq_false, Bool.not_true, Bool.not_false, Bool.and_true, Bool.and_false, Bool.true_and, Bool.false_and, Bool.or_true, Bool.or_false, Bool.true_or, Bool.false_or, Bool.not_not, List.isEmpty_nil, List.isEmpty_cons, true_and, and_true, htx, isAut]
        | fn => cases htx
        | ty => cases htx
        | _ => simp (disch := first | assumption | rfl | omega | (simp only [List.length_set, List.length_append, List.length_cons, List.length_nil, List.length_map]; omega) | decide +kernel) only [↓miA, miB, miC, ex_nil, ex_app, ex_app2, ex_app3, ex_app4, ex_app5, ex_app6, in62r, inWr, inWl, lim, List.length_set, List.length_cons, List.length_nil, List.getElem?_cons_zero, List.getElem?_cons_succ, List.set_cons_zero, List.set_cons_succ, Int.reduceToNat, eq_self, List.zip_nil_left, List.zip_nil_right, List.zip_cons_cons, decide_true, decide_eq_true, decide_eq_false, Bool.not_true, Bool.not_false, Bool.and_true, Bool.and_false, Bool.true_and, Bool.false_and, Bool.or_true, Bool.or_false, Bool.true_or, Bool.false_or, Bool.not_not, List.isEmpty_nil, List.isEmpty_cons, true_and, and_true, isAut]
    · have h2' : (ds.length : Int) ≠ 3 := by omega
      simp (disch := first | assumption | rfl | omega | (simp only [List.length_set, List.length_append, List.length_cons, List.length_nil, List.length_map]; omega) | decide +kernel) only [↓miA, miB, miC, ex_nil, ex_app, ex_app2, ex_app3, ex_app4, ex_app5, ex_app6, in62r, inWr, inWl, lim, List.length_set, List.length_cons, List.length_nil, List.getElem?_cons_zero, List.getElem?_cons_succ, List.set_cons_zero, List.set_cons_succ, Int.reduceToNat, eq_self, List.zip_nil_left, List.zip_nil_right, List.zip_cons_cons, decide_true, decide_eq_true, decide_eq_false, Bool.not_true, Bool.not_false, Bool.and_true, Bool.and_false, Bool.true_and, Bool.false_and, Bool.or_true, Bool.or_false, Bool.true_or, Bool.false_or, Bool.not_not, List.isEmpty_nil, List.isEmpty_cons, true_and, and_true, isAut_ne h2]
  | ref r => rcases ty_ref ht with rfl | rfl <;> simp (disch := first | assumption | rfl | omega | (simp only [List.length_set, List.length_append, List.length_cons, List.length_nil, List.length_map]; omega) | decide +kernel) only [↓miA, miB, miC, ex_nil, ex_app, ex_app2, ex_app3, ex_app4, ex_app5, ex_app6, in62r, inWr, inWl, lim, List.length_set, List.length_cons, List.length_nil, List.getElem?_cons_zero, List.getElem?_cons_succ, List.set_cons_zero, List.set_cons_succ, Int.reduceToNat, eq_self, List.zip_nil_left, List.zip_nil_right, List.zip_cons_cons, decide_true, decide_eq_true, decide_eq_false, Bool.not_true, Bool.not_false, Bool.and_true, Bool.and_false, Bool.true_and, Bool.false_and, Bool.or_true, Bool.or_false, Bool.true_or, Bool.false_or, Bool.not_not, List.isEmpty_nil, List.isEmpty_cons, true_and, and_true, ht, isAut]
  | fn => cases ht
  | ty => cases ht
  | _ => simp (disch := first | assumption | rfl | omega | (simp only [List.length_set, List.length_append, List.length_cons, List.length_nil, List.length_map]; omega) | decide +kernel) only [↓miA, miB, miC, ex_nil, ex_app, ex_app2, ex_app3, ex_app4, ex_app5, ex_app6, in62r, inWr, inWl, lim, List.length_set, List.length_cons, List.length_nil, List.getElem?_cons_zero, List.getElem?_cons_succ, List.set_cons_zero, List.set_cons_succ, Int.reduceToNat, eq_self, List.zip_nil_left, List.zip_nil_right, List.zip_cons_cons, decide_true, decide_eq_true, decide_eq_false, Bool.not_true, Bool.not_false, Bool.and_true, Bool.and_false, Bool.true_and, Bool.false_and, Bool.or_true, Bool.or_false, Bool.true_or, Bool.false_or, Bool.not_not, List.isEmpty_nil, List.isEmpty_cons, true_and, and_true, isAut]
theorem gc_er {S l : Store} {e : Exn} (h : lowF S.length e.fs = true) : gc S (.er e (S ++ l)) = .er e S := by
  unfold gc
  dsimp only
  rw [gcOk_app, h, List.take_left']
  · rfl
  · rfl
theorem check_automaton {k : Nat} {S : Store} {b n' : Nat} {d : D} {p : Int} (h : Pl S b 3000 n' d) (hn : n' ≤ 50) (hk : 4 ≤ k) : callN prg k 3 [d, .int p] S = if isAut d then .ok .non S else .er ⟨2, [("place", .int p)]⟩ S := by
  obtain ⟨k, rfl⟩ : ∃ j, k = j + 1 := ⟨k - 1, by omega⟩
  rw [call_check_automaton]
  have e : endOf (xss ⟨callN prg k, 1000000⟩ b_check_automaton [some d, some (.int p)] S) = if isAut d then .ok .non S else .er ⟨2, [("place", .int p)]⟩ S := by
    have ia := is_automaton (k := k) h hn (by omega)
    cases e : isAut d with
    | true =>
      rw [if_pos rfl, W_eq]
      unfold b_check_automaton
      simp (disch := first | assumption | rfl | omega | (simp only [List.length_set, List.length_append, List.length_cons, List.length_nil, List.length_map]; omega) | decide +kernel) only [↓miA, miB, miC, ex_nil, ex_app, ex_app2, ex_app3, ex_app4, ex_app5, ex_app6, in62r, inWr, inWl, lim, List.length_set, List.length_cons, List.length_nil, List.getElem?_cons_zero, List.getElem?_cons_succ, List.set_cons_zero, List.set_cons_succ, Int.reduceToNat, eq_self, List.zip_nil_left, List.zip_nil_right, List.zip_cons_cons, decide_true, decide_eq_true, decide_eq_false, Bool.not_true, Bool.not_false, Bool.and_true, Bool.and_false, Bool.true_and, Bool.false_and, Bool.or_true, Bool.or_false, Bool.true_or, Bool.false_or, Bool.not_not, List.isEmpty_nil, List.isEmpty_cons, true_and, and_true, ia, e]
    | false =>
      rw [if_neg (by decide)]
      have q : W (endOf (xss ⟨callN prg k, 1000000⟩ b_check_automaton [some d, some (.int p)] S)) (fun _ _ => False) (fun x S' => x = ⟨2, [("place", .int p)]⟩ ∧ S' = S) := by
        unfold b_check_automaton
        simp (disch := first | assumption | rfl | omega | (simp only [List.length_set, List.length_append, List.length_cons, List.length_nil, List.length_map]; omega) | decide +kernel) only [↓miA, miB, miC, ex_nil, ex_app, ex_app2, ex_app3, ex_app4, ex_app5, ex_app6, in62r, inWr, inWl, lim, List.length_set, List.length_cons, List.length_nil, List.getElem?_cons_zero, List.getElem?_cons_succ, List.set_cons_zero, List.set_cons_succ, Int.reduceToNat, eq_self, List.zip_nil_left, List.zip_nil_right, List.zip_cons_cons, decide_true, decide_eq_true, decide_eq_false, Bool.not_true, Bool.not_false, Bool.and_true, Bool.and_false, Bool.true_and, Bool.false_and, Bool.or_true, Bool.or_false, Bool.true_or, Bool.false_or, Bool.not_not, List.isEmpty_nil, List.isEmpty_cons, true_and, and_true, ia, e, Wx_raise, cRaise_]
      cases e2 : endOf (xss ⟨callN prg k, 1000000⟩ b_check_automaton [some d, some (.int p)] S) with
      | ok a S' => rw [e2] at q; exact q.elim
      | er x S' => rw [e2] at q; obtain ⟨rfl, rfl⟩ := q; rfl
      | no => rw [e2] at q; exact q.elim
  rw [e]
  cases isAut d with
  | true => exact gc_self
  | false =>
    have := gc_er (S := S) (l := []) (e := ⟨2, [("place", .int p)]⟩) rfl
    rwa [List.append_nil] at this
def isWord (m : Int) : D → Bool
  | .tup ds => ds.all (isInt 0 (m - 1))
  | _ => false
theorem check_word {k : Nat} {S : Store} {b n' : Nat} {d : D} {n : Int} (h : Pl S b 3000 n' d) (hn : 0 ≤ n ∧ n ≤ 8) (hk : 2 ≤ k) : callN prg k 4 [.int n, d] S = if isWord (2 ^ n.toNat) d then .ok .non S else .er ⟨1, []⟩ S := by
  obtain ⟨k, rfl⟩ : ∃ j, k = j + 1 := ⟨k - 1, by omega⟩
  rw [call_check_word]
  obtain ⟨t, ht⟩ := h.ty
  have q : W (endOf (xss ⟨callN prg k, 1000000⟩ b_check_word [some (.int n), some d, none] S)) (fun a S' => isWord (2 ^ n.toNat) d = true ∧ a = .non ∧ ∃ l, S' = S ++ l) (fun x S' => isWord (2 ^ n.toNat) d = false ∧ x = ⟨1, []⟩ ∧ ∃ l, S' = S ++ l) := by
    unfold b_check_word
    cases d with
    | tup ds =>
      simp (disch := first | assumption | rfl | omega | (simp only [List.length_set, List.length_append, List.length_cons, List.length_nil, List.length_map]; omega) | decide +kernel) only [↓miA, miB, miC, ex_nil, ex_app, ex_app2, ex_app3, ex_app4, ex_app5, ex_app6, in62r, inWr, inWl, lim, List.length_set, List.length_cons, List.length_nil, List.getElem?_cons_zero, List.getElem?_cons_succ, List.set_cons_zero, List.set_cons_succ, Int.reduceToNat, eq_self, List.zip_nil_left, List.zip_nil_right, List.zip_cons_cons, decide_true, decide_eq_true, decide_eq_false, Bool.not_true, Bool.not_false, Bool.and_true, Bool.and_false, Bool.true_and, Bool.false_and, Bool.or_true, Bool.or_false, Bool.true_or, Bool.false_or, Bool.not_not, List.isEmpty_nil, List.isEmpty_cons, true_and, and_true]
      refine lcM (ds := ds) (fun d => .bl (isInt 0 (2 ^ n.toNat - 1) d)) (fun _ _ => rfl) ?_ ?_ (fun d acc hd => ?_) ?_
      · cases n' with
        | zero => exact h.elim
        | succ n' => show ds.length < 1000000; have := h.1; omega
      · cases n' with
        | zero => exact h.elim
        | succ n' => have := h.1; omega
      · cases n' with
        | zero => exact h.elim
        | succ n' =>
          obtain ⟨t', ht'⟩ := ((h.2 d hd).ext (Ext.app (l := [.lst acc]))).ty
          simp (disch := first | assumption | rfl | omega | (simp only [List.length_set, List.length_append, List.length_cons, List.length_nil, List.length_map]; omega) | decide +kernel) only [↓miA, miB, miC, ex_nil, ex_app, ex_app2, ex_app3, ex_app4, ex_app5, ex_app6, in62r, inWr, inWl, lim, List.length_set, List.length_cons, List.length_nil, List.getElem?_cons_zero, List.getElem?_cons_succ, List.set_cons_zero, List.set_cons_succ, Int.reduceToNat, eq_self, List.zip_nil_left, List.zip_nil_right, List.zip_cons_cons, decide_true, decide_eq_true, decide_eq_false, Bool.not_true, Bool.not_false, Bool.and_true, Bool.and_false, Bool.true_and, Bool.false_and, Bool.or_true, Bool.or_false, Bool.true_or, Bool.false_or, Bool.not_not, List.isEmpty_nil, List.isEmpty_cons, true_and, and_true, letters_at, is_integer ht']
      · cases e : isWord (2 ^ n.toNat) (.tup ds) with
        | true =>
          have e : ds.all (isInt 0 (2 ^ n.toNat - 1)) = true := e
          simp (disch := first | assumption | rfl | omega | (simp only [List.length_set, List.length_append, List.length_cons, List.length_nil, List.length_map]; omega) | decide +kernel) only [↓miA, miB, miC, ex_nil, ex_app, ex_app2, ex_app3, ex_app4, ex_app5, ex_app6, in62r, inWr, inWl, lim, List.length_set, List.length_cons, List.length_nil, List.getElem?_cons_zero, List.getElem?_cons_succ, List.set_cons_zero, List.set_cons_succ, Int.reduceToNat, eq_self, List.zip_nil_left, List.zip_nil_right, List.zip_cons_cons, decide_true, decide_eq_true, decide_eq_false, Bool.not_true, Bool.not_false, Bool.and_true, Bool.and_false, Bool.true_and, Bool.false_and, Bool.or_true, Bool.or_false, Bool.true_or, Bool.false_or, Bool.not_not, List.isEmpty_nil, List.isEmpty_cons, true_and, and_true, all_map, asBls_map, List.all_map, Function.comp_def, id, e]
        | false =>
          have e : ds.all (isInt 0 (2 ^ n.toNat - 1)) = false := e
          simp (disch := first | assumption | rfl | omega | (simp only [List.length_set, List.length_append, List.length_cons, List.length_nil, List.length_map]; omega) | decide +kernel) only [↓miA, miB, miC, ex_nil, ex_app, ex_app2, ex_app3, ex_app4, ex_app5, ex_app6, in62r, inWr, inWl, lim, List.length_set, List.length_cons, List.length_nil, List.getElem?_cons_zero, List.getElem?_cons_succ, List.set_cons_zero, List.set_cons_succ, Int.reduceToNat, eq_self, List.zip_nil_left, List.zip_nil_right, List.zip_cons_cons, decide_true, decide_eq_true, decide_eq_false, Bool.not_true, Bool.not_false, Bool.and_true, Bool.and_false, Bool.true_and, Bool.false_and, Bool.or_true, Bool.or_false, Bool.true_or, Bool.false_or, Bool.not_not, List.isEmpty_nil, List.isEmpty_cons, true_and, and_true, all_map, asBls_map, List.all_map, Function.comp_def, id, e]
    | ref r => rcases ty_ref ht with rfl | rfl <;> simp (disch := first | assumption | rfl | omega | (simp only [List.length_set, List.length_append, List.length_cons, List.length_nil, List.length_map]; omega) | decide +kernel) only [↓miA, miB, miC, ex_nil, ex_app, ex_app2, ex_app3, ex_app4, ex_app5, ex_app6, in62r, inWr, inWl, lim, List.length_set, List.length_cons, List.length_nil, List.getElem?_cons_zero, List.getElem?_cons_succ, List.set_cons_zero, List.set_cons_succ, Int.reduceToNat, eq_self, List.zip_nil_left, List.zip_nil_right, List.zip_cons_cons, decide_true, decide_eq_true, decide_eq_false, Bool.not_true, Bool.not_false, Bool.and_true, Bool.and_false, Bool.true_and, Bool.false_and, Bool.or_true, Bool.or_false, Bool.true_or, Bool.false_or, Bool.not_not, List.isEmpty_nil, List.isEmpty_cons, true_and, and_true, ht, isWord]
    | fn => cases ht
    | ty => cases ht
    | _ => simp (disch := first | assumption | rfl | omega | (simp only [List.length_set, List.length_append, List.length_cons, List.length_nil, List.length_map]; omega) | decide +kernel) only [↓miA, miB, miC, ex_nil, ex_app, ex_app2, ex_app3, ex_app4, ex_app5, ex_app6, in62r, inWr, inWl, lim, List.length_set, List.length_cons, List.length_nil, List.getElem?_cons_zero, List.getElem?_cons_succ, List.set_cons_zero, List.set_cons_succ, Int.reduceToNat, eq_self, List.zip_nil_left, List.zip_nil_right, List.zip_cons_cons, decide_true, decide_eq_true, decide_eq_false, Bool.not_true, Bool.not_false, Bool.and_true, Bool.and_false, Bool.true_and, Bool.false_and, Bool.or_true, Bool.or_false, Bool.true_or, Bool.false_or, Bool.not_not, List.isEmpty_nil, List.isEmpty_cons, true_and, and_true, isWord]
  cases e2 : endOf (xss ⟨callN prg k, 1000000⟩ b_check_word [some (.int n), some d, none] S) with
  | ok a S' =>
    rw [e2] at q
    obtain ⟨q1, rfl, l, rfl⟩ := q
    rw [if_pos q1]
    exact gc_app rfl
  | er x S' =>
    rw [e2] at q
    obtain ⟨q1, rfl, l, rfl⟩ := q
    rw [if_neg (by rw [q1]; decide)]
    exact gc_er rfl
  | no => rw [e2] at q; exact q.elim
end K30

namespace K30
open PySem PySem.Spec Mi
theorem isInt_ex {lo hi : Int} {d : D} (h : isInt lo hi d = true) : ∃ i, d = .int i ∧ lo ≤ i ∧ i ≤ hi := by
  cases d with
  | int i =>
    have h : (decide (lo ≤ i) && decide (i ≤ hi)) = true := h
    rw [Bool.and_eq_true] at h
    exact ⟨i, rfl, of_decide_eq_true h.1, of_decide_eq_true h.2⟩
  | _ => cases h
theorem isState_ex {m n : Int} {d : D} (h : isState m n d = true) : ∃ (ns : List D) (o : Int), d = .tup [.tup ns, .int o] ∧ (o = 0 ∨ o = 1) ∧ (ns.length : Int) = m ∧ ∀ x ∈ ns, isInt 0 (n - 1) x = true := by
  unfold isState at h
  split at h
  · rename_i ns o
    rw [Bool.and_eq_true, Bool.and_eq_true] at h
    obtain ⟨i, rfl, h1, h2⟩ := isInt_ex h.1
    exact ⟨ns, i, rfl, by omega, of_decide_eq_true h.2.1, fun x hx => List.all_eq_true.mp h.2.2 x hx⟩
  · cases h
theorem isAut_ex {d : D} (h : isAut d = true) : ∃ (n : Int) (qs : List D), d = .tup [.str "automaton", .int n, .tup qs] ∧ 0 ≤ n ∧ n ≤ 8 ∧ 1 ≤ qs.length ∧ qs.length ≤ 2000 ∧ ∀ q ∈ qs, isState (2 ^ n.toNat) qs.length q = true := by
  unfold isAut at h
  split at h
  · rename_i s n qs
    rw [Bool.and_eq_true, Bool.and_eq_true, Bool.and_eq_true] at h
    obtain ⟨i, e, h1, h2⟩ := isInt_ex h.2.1
    cases e
    obtain ⟨h3, h4⟩ := of_decide_eq_true h.2.2.1
    rw [of_decide_eq_true h.1]
    exact ⟨n, qs, rfl, h1, h2, h3, h4, fun q hq => List.all_eq_true.mp h.2.2.2 q hq⟩
  · cases h
/-- where a letter leads -/
def step (qs : List D) (s : Nat) (l : D) : Nat := match qs[s]?, l with
  | some (.tup [.tup ns, _]), .int i => match ns[i.toNat]? with
    | some (.int j) => j.toNat
    | _ => 0
  | _, _ => 0
def behind (qs : List D) (ws : List D) : Nat := ws.foldl (step qs) 0
theorem step_ok {qs : List D} {m : Int} {s : Nat} {l : D} (hq : ∀ q ∈ qs, isState m qs.length q = true) (hs : s < qs.length) (hl : isInt 0 (m - 1) l = true) :
    ∃ ns o i j, qs[s]? = some (.tup [.tup ns, .int o]) ∧ (o = 0 ∨ o = 1) ∧ l = .int i ∧ 0 ≤ i ∧ ns[i.toNat]? = some (.int j) ∧ 0 ≤ j ∧ j < qs.length ∧ step qs s l = j.toNat := by
  have e := List.getElem?_eq_getElem hs
  obtain ⟨ns, o, e1, ho, hn, hx⟩ := isState_ex (hq _ (List.mem_of_getElem? e))
  obtain ⟨i, rfl, i0, i1⟩ := isInt_ex hl
  have e2 : ns[i.toNat]? = some ns[i.toNat] := List.getElem?_eq_getElem (by omega)
  obtain ⟨j, e3, j0, j1⟩ := isInt_ex (hx _ (List.mem_of_getElem? e2))
  rw [e1] at e
  rw [e3] at e2
  refine ⟨ns, o, i, j, e, ho, rfl, i0, e2, j0, by omega, ?_⟩
  unfold step
  rw [e]
  dsimp only
  rw [e2]
theorem fold_lt {qs : List D} {m : Int} (hq : ∀ q ∈ qs, isState m qs.length q = true) : ∀ (ws : List D) (s : Nat), s < qs.length → (∀ w ∈ ws, isInt 0 (m - 1) w = true) → ws.foldl (step qs) s < qs.length
  | [], s, h, _ => h
  | w :: ws, s, h, hw => by
    obtain ⟨ns, o, i, j, _, _, _, _, _, j0, j1, e⟩ := step_ok hq h (hw w List.mem_cons_self)
    rw [List.foldl_cons, e]
    exact fold_lt hq ws _ (by omega) fun x hx => hw x (List.mem_cons_of_mem _ hx)
abbrev aut (n : Int) (qs : List D) : D := .tup [.str "automaton", .int n, .tup qs]
structure Au (n : Int) (qs : List D) : Prop where
  n0 : 0 ≤ n
  n1 : n ≤ 8
  l0 : 1 ≤ qs.length
  l1 : qs.length ≤ 2000
  hq : ∀ q ∈ qs, isState (2 ^ n.toNat) qs.length q = true
theorem Au.is {n : Int} {qs : List D} (h : Au n qs) : isAut (aut n qs) = true := by
  obtain ⟨n0, n1, l0, l1, hq⟩ := h
  show (decide ("automaton" = "automaton") && (isInt 0 8 (.int n) && (decide (1 ≤ qs.length ∧ qs.length ≤ 2000) && qs.all (isState (2 ^ n.toNat) qs.length)))) = true
  rw [decide_eq_true rfl, decide_eq_true ⟨l0, l1⟩, List.all_eq_true.mpr hq]
  show (decide (0 ≤ n) && decide (n ≤ 8) && true) = true
  rw [decide_eq_true n0, decide_eq_true n1]
  rfl
theorem pow_le {n : Nat} (h : n ≤ 8) : (2 : Int) ^ n ≤ 256 := by
  have : n = 0 ∨ n = 1 ∨ n = 2 ∨ n = 3 ∨ n = 4 ∨ n = 5 ∨ n = 6 ∨ n = 7 ∨ n = 8 := by omega
  rcases this with rfl | rfl | rfl | rfl | rfl | rfl | rfl | rfl | rfl <;> decide
theorem pow_pos' (n : Nat) : (1 : Int) ≤ 2 ^ n := by
  have : (0 : Int) < 2 ^ n := Int.pow_pos (by decide)
  omega
theorem Pl_int {S : Store} {b L n : Nat} {i : Int} : Pl S b L (n + 1) (.int i) := trivial
theorem Pl_state {S : Store} {b n : Nat} {m l : Int} {q : D} (hm : m ≤ 256) (h : isState m l q = true) : Pl S b 3000 (n + 3) q := by
  obtain ⟨ns, o, rfl, _, hl, hx⟩ := isState_ex h
  refine ⟨by simp, fun e he => ?_⟩
  rcases List.mem_cons.mp he with rfl | he
  · refine ⟨by omega, fun x hxm => ?_⟩
    obtain ⟨i, rfl, _⟩ := isInt_ex (hx x hxm)
    exact Pl_int
  · rw [List.mem_singleton.mp he]
    exact Pl_int
theorem Au.pls {S : Store} {b k : Nat} {n : Int} {qs : List D} (h : Au n qs) : Pl S b 3000 (k + 4) (.tup qs) := by
  refine ⟨by have := h.l1; omega, fun q hq => ?_⟩
  exact Pl_state (pow_le (by have := h.n1; omega)) (h.hq q hq)
theorem Au.pl {S : Store} {b : Nat} {n : Int} {qs : List D} (h : Au n qs) : Pl S b 3000 10 (aut n qs) := by
  refine ⟨by simp, fun e he => ?_⟩
  rcases List.mem_cons.mp he with rfl | he
  · show PyData.strOk "automaton" = true
    decide +kernel
  · rcases List.mem_cons.mp he with rfl | he
    · exact Pl_int
    · rw [List.mem_singleton.mp he]
      exact h.pls
theorem Pl_word {S : Store} {b n : Nat} {ws : List D} {m : Int} (hw : ∀ w ∈ ws, isInt 0 (m - 1) w = true) (hl : ws.length ≤ 3000) : Pl S b 3000 (n + 2) (.tup ws) := by
  refine ⟨hl, fun x hx => ?_⟩
  obtain ⟨i, rfl, _⟩ := isInt_ex (hw x hx)
  exact Pl_int
theorem run_word {G : Gen} {S : Store} {n : Int} {qs ws : List D} (h : Au n qs) (hw : ∀ w ∈ ws, isInt 0 (2 ^ n.toNat - 1) w = true) (hL : ws.length < G.L) {x : Option D} {Φ : Fl → Mi.Env → Store → Prop} (hΦ : ∀ x, Φ .nx [some (aut n qs), some (.tup ws), some (.int (behind qs ws : Nat)), x] S) :
    WS (forF (.items ws) (.v 3) (fun env' S2 => xss G [.asg (.v 2) (.ix (.ix (.ix (.ix (.var 0) (.lit (.int 2))) (.var 2)) (.lit (.int 0))) (.var 3))] env' S2) G.L 0 [some (aut n qs), some (.tup ws), some (.int 0), x] S) Φ NoEx := by
  refine for_items (ds := ws) (fun j env T => (∃ x, env = [some (aut n qs), some (.tup ws), some (.int ((ws.take j).foldl (step qs) 0 : Nat)), x]) ∧ T = S) ?_ ?_ G.L 0 _ _ (Nat.zero_le _) (by omega) ⟨⟨_, rfl⟩, rfl⟩
  · rintro j d env T ed ⟨⟨x, rfl⟩, rfl⟩
    have hd := hw d (List.mem_of_getElem? ed)
    have hs : (ws.take j).foldl (step qs) 0 < qs.length := fold_lt h.hq _ _ (by have := h.l0; omega) fun w hw' => hw w (List.mem_of_mem_take hw')
    obtain ⟨ns, o, i, j', e1, _, rfl, i0, e2, j0, j1, e3⟩ := step_ok h.hq hs hd
    have e4 : (ws.take (j + 1)).foldl (step qs) 0 = j'.toNat := by
      rw [List.take_add_one, ed, List.foldl_append]
      exact e3
    simp (disch := first | assumption | rfl | omega | (simp only [List.length_set, List.length_append, List.length_cons, List.length_nil, List.length_map]; omega) | decide +kernel) only [↓miA, miB, miC, ex_nil, ex_app, ex_app2, ex_app3, ex_app4, ex_app5, ex_app6, in62r, inWr, inWl, lim, List.length_set, List.length_cons, List.length_nil, List.getElem?_cons_zero, List.getElem?_cons_succ, List.set_cons_zero, List.set_cons_succ, Int.reduceToNat, eq_self, List.zip_nil_left, List.zip_nil_right, List.zip_cons_cons, decide_true, decide_eq_true, decide_eq_false, Bool.not_true, Bool.not_false, Bool.and_true, Bool.and_false, Bool.true_and, Bool.false_and, Bool.or_true, Bool.or_false, Bool.true_or, Bool.false_or, Bool.not_not, List.isEmpty_nil, List.isEmpty_cons, true_and, and_true, Int.toNat_natCast, e1, e2]
    exact ⟨_, by rw [e4, Int.toNat_of_nonneg j0]⟩
  · rintro env T ⟨⟨x, rfl⟩, rfl⟩
    rw [List.take_length]
    exact hΦ x
theorem state_behind {k : Nat} {S : Store} {n : Int} {qs ws : List D} (h : Au n qs) (hw : ∀ w ∈ ws, isInt 0 (2 ^ n.toNat - 1) w = true) (hl : ws.length ≤ 3000) (hk : 1 ≤ k) : callN prg k 5 [aut n qs, .tup ws] S = .ok (.int (behind qs ws : Nat)) S := by
  obtain ⟨k, rfl⟩ : ∃ j, k = j + 1 := ⟨k - 1, by omega⟩
  rw [call_state_behind]
  refine gc_is ?_ rfl
  unfold b_state_behind
  simp (disch := first | assumption | rfl | omega | (simp only [List.length_set, List.length_append, List.length_cons, List.length_nil, List.length_map]; omega) | decide +kernel) only [↓miA, miB, miC, ex_nil, ex_app, ex_app2, ex_app3, ex_app4, ex_app5, ex_app6, in62r, inWr, inWl, lim, List.length_set, List.length_cons, List.length_nil, List.getElem?_cons_zero, List.getElem?_cons_succ, List.set_cons_zero, List.set_cons_succ, Int.reduceToNat, eq_self, List.zip_nil_left, List.zip_nil_right, List.zip_cons_cons, decide_true, decide_eq_true, decide_eq_false, Bool.not_true, Bool.not_false, Bool.and_true, Bool.and_false, Bool.true_and, Bool.false_and, Bool.or_true, Bool.or_false, Bool.true_or, Bool.false_or, Bool.not_not, List.isEmpty_nil, List.isEmpty_cons, true_and, and_true]
  unfold cFor
  refine run_word h hw (by show ws.length < 1000000; omega) fun x => ?_
  simp (disch := first | assumption | rfl | omega | (simp only [List.length_set, List.length_append, List.length_cons, List.length_nil, List.length_map]; omega) | decide +kernel) only [↓miA, miB, miC, ex_nil, ex_app, ex_app2, ex_app3, ex_app4, ex_app5, ex_app6, in62r, inWr, inWl, lim, List.length_set, List.length_cons, List.length_nil, List.getElem?_cons_zero, List.getElem?_cons_succ, List.set_cons_zero, List.set_cons_succ, Int.reduceToNat, eq_self, List.zip_nil_left, List.zip_nil_right, List.zip_cons_cons, decide_true, decide_eq_true, decide_eq_false, Bool.not_true, Bool.not_false, Bool.and_true, Bool.and_false, Bool.true_and, Bool.false_and, Bool.or_true, Bool.or_false, Bool.true_or, Bool.false_or, Bool.not_not, List.isEmpty_nil, List.isEmpty_cons, true_and, and_true]
/-- what is taken -/
def ans (qs ws : List D) : Bool := match qs[behind qs ws]? with
  | some (.tup [_, .int o]) => decide (o = 1)
  | _ => false
theorem last_at {n : Int} {qs ws : List D} (h : Au n qs) (hw : ∀ w ∈ ws, isInt 0 (2 ^ n.toNat - 1) w = true) : ∃ ns o, qs[behind qs ws]? = some (.tup [.tup ns, .int o]) ∧ ans qs ws = decide (o = 1) := by
  have hs : behind qs ws < qs.length := fold_lt h.hq _ _ (by have := h.l0; omega) hw
  have e := List.getElem?_eq_getElem hs
  obtain ⟨ns, o, e1, ho, hn, hx⟩ := isState_ex (h.hq _ (List.mem_of_getElem? e))
  rw [e1] at e
  exact ⟨ns, o, e, by unfold ans; rw [e]⟩
theorem law_takes {k : Nat} {S : Store} {n : Int} {qs ws : List D} (h : Au n qs) (hw : ∀ w ∈ ws, isInt 0 (2 ^ n.toNat - 1) w = true) (hl : ws.length ≤ 3000) (hk : 1 ≤ k) : callN prg k 13 [aut n qs, .tup ws] S = .ok (.bl (ans qs ws)) S := by
  obtain ⟨k, rfl⟩ : ∃ j, k = j + 1 := ⟨k - 1, by omega⟩
  rw [call__law_takes]
  refine gc_is ?_ rfl
  obtain ⟨ns, o, e1, e2⟩ := last_at h hw
  unfold b__law_takes
  simp (disch := first | assumption | rfl | omega | (simp only [List.length_set, List.length_append, List.length_cons, List.length_nil, List.length_map]; omega) | decide +kernel) only [↓miA, miB, miC, ex_nil, ex_app, ex_app2, ex_app3, ex_app4, ex_app5, ex_app6, in62r, inWr, inWl, lim, List.length_set, List.length_cons, List.length_nil, List.getElem?_cons_zero, List.getElem?_cons_succ, List.set_cons_zero, List.set_cons_succ, Int.reduceToNat, eq_self, List.zip_nil_left, List.zip_nil_right, List.zip_cons_cons, decide_true, decide_eq_true, decide_eq_false, Bool.not_true, Bool.not_false, Bool.and_true, Bool.and_false, Bool.true_and, Bool.false_and, Bool.or_true, Bool.or_false, Bool.true_or, Bool.false_or, Bool.not_not, List.isEmpty_nil, List.isEmpty_cons, true_and, and_true]
  unfold cFor
  refine run_word h hw (by show ws.length < 1000000; omega) fun x => ?_
  simp (disch := first | assumption | rfl | omega | (simp only [List.length_set, List.length_append, List.length_cons, List.length_nil, List.length_map]; omega) | decide +kernel) only [↓miA, miB, miC, ex_nil, ex_app, ex_app2, ex_app3, ex_app4, ex_app5, ex_app6, in62r, inWr, inWl, lim, List.length_set, List.length_cons, List.length_nil, List.getElem?_cons_zero, List.getElem?_cons_succ, List.set_cons_zero, List.set_cons_succ, Int.reduceToNat, eq_self, List.zip_nil_left, List.zip_nil_right, List.zip_cons_cons, decide_true, decide_eq_true, decide_eq_false, Bool.not_true, Bool.not_false, Bool.and_true, Bool.and_false, Bool.true_and, Bool.false_and, Bool.or_true, Bool.or_false, Bool.true_or, Bool.false_or, Bool.not_not, List.isEmpty_nil, List.isEmpty_cons, true_and, and_true, Int.toNat_natCast, e1, e2]
theorem isWord_tup {m : Int} {ws : List D} (hw : ∀ w ∈ ws, isInt 0 (m - 1) w = true) : isWord m (.tup ws) = true := List.all_eq_true.mpr hw
theorem takes_ok {k : Nat} {S : Store} {n : Int} {qs ws : List D} (h : Au n qs) (hw : ∀ w ∈ ws, isInt 0 (2 ^ n.toNat - 1) w = true) (hl : ws.length ≤ 3000) (hk : 5 ≤ k) : callN prg k 6 [aut n qs, .tup ws] S = .ok (.bl (ans qs ws)) S := by
  obtain ⟨k, rfl⟩ : ∃ j, k = j + 1 := ⟨k - 1, by omega⟩
  rw [call_takes]
  refine gc_is ?_ rfl
  obtain ⟨ns, o, e1, e2⟩ := last_at h hw
  have c1 := check_automaton (k := k) (S := S) (b := 0) (p := 0) h.pl (by omega) (by omega)
  rw [if_pos h.is] at c1
  have c2 := check_word (k := k) (S := S) (b := 0) (n := n) (Pl_word (n := 1) hw hl) ⟨h.n0, h.n1⟩ (by omega)
  rw [if_pos (isWord_tup hw)] at c2
  have c3 := state_behind (k := k) (S := S) h hw hl (by omega)
  unfold b_takes
  simp (disch := first | assumption | rfl | omega | (simp only [List.length_set, List.length_append, List.length_cons, List.length_nil, List.length_map]; omega) | decide +kernel) only [↓miA, miB, miC, ex_nil, ex_app, ex_app2, ex_app3, ex_app4, ex_app5, ex_app6, in62r, inWr, inWl, lim, List.length_set, List.length_cons, List.length_nil, List.getElem?_cons_zero, List.getElem?_cons_succ, List.set_cons_zero, List.set_cons_succ, Int.reduceToNat, eq_self, List.zip_nil_left, List.zip_nil_right, List.zip_cons_cons, decide_true, decide_eq_true, decide_eq_false, Bool.not_true, Bool.not_false, Bool.and_true, Bool.and_false, Bool.true_and, Bool.false_and, Bool.or_true, Bool.or_false, Bool.true_or, Bool.false_or, Bool.not_not, List.isEmpty_nil, List.isEmpty_cons, true_and, and_true, c1, c2, c3, Int.toNat_natCast, e1, e2]
theorem er_ex {o : Out D} {S : Store} {e : Exn} (h : W o (fun _ _ => False) (fun x S' => x = e ∧ ∃ l, S' = S ++ l)) (he : lowF S.length e.fs = true) : gc S o = .er e S := by
  cases o with
  | ok a S' => exact h.elim
  | er x S' => obtain ⟨rfl, l, rfl⟩ := h; exact gc_er he
  | no => exact h.elim
theorem takes_odd {k b m : Nat} {S : Store} {n : Int} {qs : List D} {w : D} (h : Au n qs) (hp : Pl S b 3000 m w) (hw : isWord (2 ^ n.toNat) w = false) (hk : 5 ≤ k) : callN prg k 6 [aut n qs, w] S = .er ⟨1, []⟩ S := by
  obtain ⟨k, rfl⟩ : ∃ j, k = j + 1 := ⟨k - 1, by omega⟩
  rw [call_takes]
  refine er_ex ?_ rfl
  have c1 := check_automaton (k := k) (S := S) (b := 0) (p := 0) h.pl (by omega) (by omega)
  rw [if_pos h.is] at c1
  have c2 := check_word (k := k) (n := n) hp ⟨h.n0, h.n1⟩ (by omega)
  rw [hw, if_neg (by decide)] at c2
  unfold b_takes
  simp (disch := first | assumption | rfl | omega | (simp only [List.length_set, List.length_append, List.length_cons, List.length_nil, List.length_map]; omega) | decide +kernel) only [↓miA, miB, miC, ex_nil, ex_app, ex_app2, ex_app3, ex_app4, ex_app5, ex_app6, in62r, inWr, inWl, lim, List.length_set, List.length_cons, List.length_nil, List.getElem?_cons_zero, List.getElem?_cons_succ, List.set_cons_zero, List.set_cons_succ, Int.reduceToNat, eq_self, List.zip_nil_left, List.zip_nil_right, List.zip_cons_cons, decide_true, decide_eq_true, decide_eq_false, Bool.not_true, Bool.not_false, Bool.and_true, Bool.and_false, Bool.true_and, Bool.false_and, Bool.or_true, Bool.or_false, Bool.true_or, Bool.false_or, Bool.not_not, List.isEmpty_nil, List.isEmpty_cons, true_and, and_true, c1, c2]
theorem takes_bad {k b m : Nat} {S : Store} {a w : D} (hp : Pl S b 3000 m a) (hm : m ≤ 50) (ha : isAut a = false) (hk : 5 ≤ k) : callN prg k 6 [a, w] S = .er ⟨2, [("place", .int 0)]⟩ S := by
  obtain ⟨k, rfl⟩ : ∃ j, k = j + 1 := ⟨k - 1, by omega⟩
  rw [call_takes]
  refine er_ex ?_ rfl
  have c1 := check_automaton (k := k) (p := 0) hp (by omega) (by omega)
  rw [ha, if_neg (by decide)] at c1
  unfold b_takes
  simp (disch := first | assumption | rfl | omega | (simp only [List.length_set, List.length_append, List.length_cons, List.length_nil, List.length_map]; omega) | decide +kernel) only [↓miA, miB, miC, ex_nil, ex_app, ex_app2, ex_app3, ex_app4, ex_app5, ex_app6, in62r, inWr, inWl, lim, List.length_set, List.length_cons, List.length_nil, List.getElem?_cons_zero, List.getElem?_cons_succ, List.set_cons_zero, List.set_cons_succ, Int.reduceToNat, eq_self, List.zip_nil_left, List.zip_nil_right, List.zip_cons_cons, decide_true, decide_eq_true, decide_eq_false, Bool.not_true, Bool.not_false, Bool.and_true, Bool.and_false, Bool.true_and, Bool.false_and, Bool.or_true, Bool.or_false, Bool.true_or, Bool.false_or, Bool.not_not, List.isEmpty_nil, List.isEmpty_cons, true_and, and_true, c1]
theorem call_ok {k : Nat} {S : Store} {n : Int} {qs ws : List D} (h : Au n qs) (hw : ∀ w ∈ ws, isInt 0 (2 ^ n.toNat - 1) w = true) (hl : ws.length ≤ 3000) (hk : 6 ≤ k) : callN prg k 15 [aut n qs, .tup ws] S = .ok (.bl (ans qs ws)) S := by
  obtain ⟨k, rfl⟩ : ∃ j, k = j + 1 := ⟨k - 1, by omega⟩
  rw [call__law_call]
  refine gc_is ?_ rfl
  have c := takes_ok (k := k) (S := S) h hw hl (by omega)
  unfold b__law_call
  simp (disch := first | assumption | rfl | omega | (simp only [List.length_set, List.length_append, List.length_cons, List.length_nil, List.length_map]; omega) | decide +kernel) only [↓miA, miB, miC, ex_nil, ex_app, ex_app2, ex_app3, ex_app4, ex_app5, ex_app6, in62r, inWr, inWl, lim, List.length_set, List.length_cons, List.length_nil, List.getElem?_cons_zero, List.getElem?_cons_succ, List.set_cons_zero, List.set_cons_succ, Int.reduceToNat, eq_self, List.zip_nil_left, List.zip_nil_right, List.zip_cons_cons, decide_true, decide_eq_true, decide_eq_false, Bool.not_true, Bool.not_false, Bool.and_true, Bool.and_false, Bool.true_and, Bool.false_and, Bool.or_true, Bool.or_false, Bool.true_or, Bool.false_or, Bool.not_not, List.isEmpty_nil, List.isEmpty_cons, true_and, and_true]
  refine WS_try ?_
  simp (disch := first | assumption | rfl | omega | (simp only [List.length_set, List.length_append, List.length_cons, List.length_nil, List.length_map]; omega) | decide +kernel) only [↓miA, miB, miC, ex_nil, ex_app, ex_app2, ex_app3, ex_app4, ex_app5, ex_app6, in62r, inWr, inWl, lim, List.length_set, List.length_cons, List.length_nil, List.getElem?_cons_zero, List.getElem?_cons_succ, List.set_cons_zero, List.set_cons_succ, Int.reduceToNat, eq_self, List.zip_nil_left, List.zip_nil_right, List.zip_cons_cons, decide_true, decide_eq_true, decide_eq_false, Bool.not_true, Bool.not_false, Bool.and_true, Bool.and_false, Bool.true_and, Bool.false_and, Bool.or_true, Bool.or_false, Bool.true_or, Bool.false_or, Bool.not_not, List.isEmpty_nil, List.isEmpty_cons, true_and, and_true, c]
theorem call_odd {k b m : Nat} {S : Store} {n : Int} {qs : List D} {w : D} (h : Au n qs) (hp : Pl S b 3000 m w) (hw : isWord (2 ^ n.toNat) w = false) (hk : 6 ≤ k) : callN prg k 15 [aut n qs, w] S = .ok (.str "word") S := by
  obtain ⟨k, rfl⟩ : ∃ j, k = j + 1 := ⟨k - 1, by omega⟩
  rw [call__law_call]
  refine gc_is ?_ rfl
  have c := takes_odd (k := k) h hp hw (by omega)
  unfold b__law_call
  simp (disch := first | assumption | rfl | omega | (simp only [List.length_set, List.length_append, List.length_cons, List.length_nil, List.length_map]; omega) | decide +kernel) only [↓miA, miB, miC, ex_nil, ex_app, ex_app2, ex_app3, ex_app4, ex_app5, ex_app6, in62r, inWr, inWl, lim, List.length_set, List.length_cons, List.length_nil, List.getElem?_cons_zero, List.getElem?_cons_succ, List.set_cons_zero, List.set_cons_succ, Int.reduceToNat, eq_self, List.zip_nil_left, List.zip_nil_right, List.zip_cons_cons, decide_true, decide_eq_true, decide_eq_false, Bool.not_true, Bool.not_false, Bool.and_true, Bool.and_false, Bool.true_and, Bool.false_and, Bool.or_true, Bool.or_false, Bool.true_or, Bool.false_or, Bool.not_not, List.isEmpty_nil, List.isEmpty_cons, true_and, and_true]
  refine WS_try ?_
  simp (disch := first | assumption | rfl | omega | (simp only [List.length_set, List.length_append, List.length_cons, List.length_nil, List.length_map]; omega) | decide +kernel) only [↓miA, miB, miC, ex_nil, ex_app, ex_app2, ex_app3, ex_app4, ex_app5, ex_app6, in62r, inWr, inWl, lim, List.length_set, List.length_cons, List.length_nil, List.getElem?_cons_zero, List.getElem?_cons_succ, List.set_cons_zero, List.set_cons_succ, Int.reduceToNat, eq_self, List.zip_nil_left, List.zip_nil_right, List.zip_cons_cons, decide_true, decide_eq_true, decide_eq_false, Bool.not_true, Bool.not_false, Bool.and_true, Bool.and_false, Bool.true_and, Bool.false_and, Bool.or_true, Bool.or_false, Bool.true_or, Bool.false_or, Bool.not_not, List.isEmpty_nil, List.isEmpty_cons, true_and, and_true, c]
  intro env'
  exact ⟨rfl, [], by rw [List.append_nil]⟩
theorem call_bad {k b m : Nat} {S : Store} {a w : D} (hp : Pl S b 3000 m a) (hm : m ≤ 50) (ha : isAut a = false) (hk : 6 ≤ k) : callN prg k 15 [a, w] S = .ok (.int 0) S := by
  obtain ⟨k, rfl⟩ : ∃ j, k = j + 1 := ⟨k - 1, by omega⟩
  rw [call__law_call]
  refine gc_is ?_ rfl
  have c := takes_bad (k := k) (w := w) hp hm ha (by omega)
  unfold b__law_call
  simp (disch := first | assumption | rfl | omega | (simp only [List.length_set, List.length_append, List.length_cons, List.length_nil, List.length_map]; omega) | decide +kernel) only [↓miA, miB, miC, ex_nil, ex_app, ex_app2, ex_app3, ex_app4, ex_app5, ex_app6, in62r, inWr, inWl, lim, List.length_set, List.length_cons, List.length_nil, List.getElem?_cons_zero, List.getElem?_cons_succ, List.set_cons_zero, List.set_cons_succ, Int.reduceToNat, eq_self, List.zip_nil_left, List.zip_nil_right, List.zip_cons_cons, decide_true, decide_eq_true, decide_eq_false, Bool.not_true, Bool.not_false, Bool.and_true, Bool.and_false, Bool.true_and, Bool.false_and, Bool.or_true, Bool.or_false, Bool.true_or, Bool.false_or, Bool.not_not, List.isEmpty_nil, List.isEmpty_cons, true_and, and_true]
  refine WS_try ?_
  simp (disch := first | assumption | rfl | omega | (simp only [List.length_set, List.length_append, List.length_cons, List.length_nil, List.length_map]; omega) | decide +kernel) only [↓miA, miB, miC, ex_nil, ex_app, ex_app2, ex_app3, ex_app4, ex_app5, ex_app6, in62r, inWr, inWl, lim, List.length_set, List.length_cons, List.length_nil, List.getElem?_cons_zero, List.getElem?_cons_succ, List.set_cons_zero, List.set_cons_succ, Int.reduceToNat, eq_self, List.zip_nil_left, List.zip_nil_right, List.zip_cons_cons, decide_true, decide_eq_true, decide_eq_false, Bool.not_true, Bool.not_false, Bool.and_true, Bool.and_false, Bool.true_and, Bool.false_and, Bool.or_true, Bool.or_false, Bool.true_or, Bool.false_or, Bool.not_not, List.isEmpty_nil, List.isEmpty_cons, true_and, and_true, c]
  intro env'
  exact ⟨rfl, [], by rw [List.append_nil]⟩
end K30

namespace K30
open PySem PySem.Spec Mi
theorem pures_int {lo hi : Int} : ∀ ws : List D, (∀ w ∈ ws, isInt lo hi w = true) → pures ws = true
  | [], _ => rfl
  | d :: ds, h => by
    obtain ⟨i, rfl, _⟩ := isInt_ex (h d List.mem_cons_self)
    show (true && pures ds) = true
    rw [pures_int ds fun w hw => h w (List.mem_cons_of_mem _ hw)]
    rfl
theorem isInt_of {lo hi i : Int} (h : lo ≤ i) (h1 : i ≤ hi) : isInt lo hi (.int i) = true := by
  show (decide (lo ≤ i) && decide (i ≤ hi)) = true
  rw [decide_eq_true h, decide_eq_true h1]
  rfl
theorem pow_le' {n : Nat} (h : n ≤ 8) : (2 : Int) ^ n ≤ 256 := pow_le h
theorem law_word {k n m : Nat} {S : Store} {t c : Nat} (h : Tp S t c) (hn : n ≤ 8) (hm : m ≤ 100) (hk : 3 ≤ k) :
    ∃ ws S', callN prg k 12 [.ref t, .int n, .int m] S = .ok (.tup ws) S' ∧ ws.length ≤ m ∧ (∀ w ∈ ws, isInt 0 (2 ^ n - 1) w = true) ∧ Dn t c S S' := by
  obtain ⟨k, rfl⟩ : ∃ j, k = j + 1 := ⟨k - 1, by omega⟩
  rw [call__law_word]
  have hb := h.lt
  have q : W (endOf (xss ⟨callN prg k, 1000000⟩ b__law_word [some (.ref t), some (.int n), some (.int m), none] S)) (fun d S' => D.pure d = true ∧ (∃ ws, d = .tup ws ∧ ws.length ≤ m ∧ (∀ w ∈ ws, isInt 0 (2 ^ n - 1) w = true)) ∧ Dn t c S S') NoEx := by
    obtain ⟨v, S1, e1, v0, v1, _, n1⟩ := drawN call__law_draw (k := k) (m := (m : Int) + 1) (by omega) h (by omega) (by omega)
    unfold b__law_word
    simp (disch := first | assumption | rfl | omega | (simp only [List.length_set, List.length_append, List.length_cons, List.length_nil, List.length_map]; omega) | decide +kernel) only [↓miA, miB, miC, ex_nil, ex_app, ex_app2, ex_app3, ex_app4, ex_app5, ex_app6, in62r, inWr, inWl, lim, List.length_set, List.length_cons, List.length_nil, List.getElem?_cons_zero, List.getElem?_cons_succ, List.set_cons_zero, List.set_cons_succ, Int.reduceToNat, eq_self, List.zip_nil_left, List.zip_nil_right, List.zip_cons_cons, decide_true, decide_eq_true, decide_eq_false, Bool.not_true, Bool.not_false, Bool.and_true, Bool.and_false, Bool.true_and, Bool.false_and, Bool.or_true, Bool.or_false, Bool.true_or, Bool.false_or, Bool.not_not, List.isEmpty_nil, List.isEmpty_cons, true_and, and_true, e1]
    have hl : (rngD 0 v).length = v.toNat := by rw [rngD_len]; omega
    refine lcN (ds := rngD 0 v) (t := t) (c := c) (fun x => isInt 0 (2 ^ n - 1) x = true) n1.tp (fun _ _ _ => rfl) (by rw [hl]; show v.toNat < 1000000; omega) (by omega) (fun j d T _ hT _ => ?_) (fun xs T hx hP hT hr => ?_)
    · obtain ⟨v2, T2, e2, w0, w1, _, n2⟩ := drawN call__law_draw (k := k) (m := 2 ^ n) (by omega) hT.tp (pow_pos' n) (by have := pow_le hn; omega)
      simp (disch := first | assumption | rfl | omega | (simp only [List.length_set, List.length_append, List.length_cons, List.length_nil, List.length_map]; omega) | decide +kernel) only [↓miA, miB, miC, ex_nil, ex_app, ex_app2, ex_app3, ex_app4, ex_app5, ex_app6, in62r, inWr, inWl, lim, List.length_set, List.length_cons, List.length_nil, List.getElem?_cons_zero, List.getElem?_cons_succ, List.set_cons_zero, List.set_cons_succ, Int.reduceToNat, eq_self, List.zip_nil_left, List.zip_nil_right, List.zip_cons_cons, decide_true, decide_eq_true, decide_eq_false, Bool.not_true, Bool.not_false, Bool.and_true, Bool.and_false, Bool.true_and, Bool.false_and, Bool.or_true, Bool.or_false, Bool.true_or, Bool.false_or, Bool.not_not, List.isEmpty_nil, List.isEmpty_cons, true_and, and_true, power, e2, isInt_of, n2]
    · simp (disch := first | assumption | rfl | omega | (simp only [List.length_set, List.length_append, List.length_cons, List.length_nil, List.length_map]; omega) | decide +kernel) only [↓miA, miB, miC, ex_nil, ex_app, ex_app2, ex_app3, ex_app4, ex_app5, ex_app6, in62r, inWr, inWl, lim, List.length_set, List.length_cons, List.length_nil, List.getElem?_cons_zero, List.getElem?_cons_succ, List.set_cons_zero, List.set_cons_succ, Int.reduceToNat, eq_self, List.zip_nil_left, List.zip_nil_right, List.zip_cons_cons, decide_true, decide_eq_true, decide_eq_false, Bool.not_true, Bool.not_false, Bool.and_true, Bool.and_false, Bool.true_and, Bool.false_and, Bool.or_true, Bool.or_false, Bool.true_or, Bool.false_or, Bool.not_not, List.isEmpty_nil, List.isEmpty_cons, true_and, and_true, hr]
      exact ⟨pures_int xs hP, ⟨xs, rfl, by omega, hP⟩, n1.trans hT⟩
  obtain ⟨d, S', e, ⟨ws, rfl, h1, h2⟩, hD⟩ := gc_dn q hb
  exact ⟨ws, S', e, h1, h2, hD⟩
theorem isState_of {m l : Int} {ns : List D} {o : Int} (h1 : (ns.length : Int) = m) (h2 : ∀ x ∈ ns, isInt 0 (l - 1) x = true) (h3 : 0 ≤ o) (h4 : o < 2) : isState m l (.tup [.tup ns, .int o]) = true := by
  show (isInt 0 1 (.int o) && (decide ((ns.length : Int) = m) && ns.all (isInt 0 (l - 1)))) = true
  rw [isInt_of h3 (by omega), decide_eq_true h1, List.all_eq_true.mpr h2]
  rfl
theorem pure_state {m l : Int} {q : D} (h : isState m l q = true) : D.pure q = true := by
  obtain ⟨ns, o, rfl, _, hl, hx⟩ := isState_ex h
  show (pures ns && (true && true)) = true
  rw [pures_int ns hx]
  rfl
theorem pures_state {m l : Int} : ∀ qs : List D, (∀ q ∈ qs, isState m l q = true) → pures qs = true
  | [], _ => rfl
  | d :: ds, h => by
    show (D.pure d && pures ds) = true
    rw [pure_state (h d List.mem_cons_self), pures_state ds fun w hw => h w (List.mem_cons_of_mem _ hw)]
    rfl
theorem law_drawn {k n m : Nat} {S : Store} {t c : Nat} (h : Tp S t c) (hn : n ≤ 8) (hm : m ≤ 100) (hm1 : 1 ≤ m) (hk : 3 ≤ k) :
    ∃ qs S', callN prg k 14 [.ref t, .int n, .int m] S = .ok (aut n qs) S' ∧ qs.length ≤ m ∧ Au n qs ∧ Dn t c S S' := by
  obtain ⟨k, rfl⟩ : ∃ j, k = j + 1 := ⟨k - 1, by omega⟩
  rw [call__law_drawn]
  have hb := h.lt
  have q : W (endOf (xss ⟨callN prg k, 1000000⟩ b__law_drawn [some (.ref t), some (.int n), some (.int m), none, none, none, none] S)) (fun d S' => D.pure d = true ∧ (∃ qs, d = aut n qs ∧ qs.length ≤ m ∧ Au n qs) ∧ Dn t c S S') NoEx := by
    obtain ⟨v, S1, e1, v0, v1, l1, n1⟩ := drawN call__law_draw (k := k) (m := (m : Int)) (by omega) h (by omega) (by omega)
    unfold b__law_drawn
    simp (disch := first | assumption | rfl | omega | (simp only [List.length_set, List.length_append, List.length_cons, List.length_nil, List.length_map]; omega) | decide +kernel) only [↓miA, miB, miC, ex_nil, ex_app, ex_app2, ex_app3, ex_app4, ex_app5, ex_app6, in62r, inWr, inWl, lim, List.length_set, List.length_cons, List.length_nil, List.getElem?_cons_zero, List.getElem?_cons_succ, List.set_cons_zero, List.set_cons_succ, Int.reduceToNat, eq_self, List.zip_nil_left, List.zip_nil_right, List.zip_cons_cons, decide_true, decide_eq_true, decide_eq_false, Bool.not_true, Bool.not_false, Bool.and_true, Bool.and_false, Bool.true_and, Bool.false_and, Bool.or_true, Bool.or_false, Bool.true_or, Bool.false_or, Bool.not_not, List.isEmpty_nil, List.isEmpty_cons, true_and, and_true, e1]
    unfold cFor
    have hl : (rngD 0 (1 + v)).length = (1 + v).toNat := by rw [rngD_len]; omega
    refine for_items (ds := rngD 0 (1 + v)) (fun j env T => (∃ x5 x6, env = [some (.ref t), some (.int n), some (.int m), some (.int (1 + v)), some (.ref S1.length), x5, x6]) ∧ ∃ acc, T[S1.length]? = some (.lst acc) ∧ acc.length = j ∧ (∀ q ∈ acc, isState (2 ^ n) (1 + v) q = true) ∧ Dn t c S T) ?_ ?_ 1000000 0 _ _ (Nat.zero_le _) (by omega) ⟨⟨_, _, rfl⟩, [], get_new, rfl, (fun _ h => nomatch h), n1.app⟩
    · rintro j d env T ed ⟨⟨x5, x6, rfl⟩, acc, ha, hj, hP, hT⟩
      obtain ⟨rfl, hj1⟩ := rngD_at ed
      have hp : (rngD 0 ((2 : Int) ^ n)).length = ((2 : Int) ^ n).toNat := by rw [rngD_len]; omega
      have p1 := pow_le hn
      have p0 := pow_pos' n
      simp (disch := first | assumption | rfl | omega | (simp only [List.length_set, List.length_append, List.length_cons, List.length_nil, List.length_map]; omega) | decide +kernel) only [↓miA, miB, miC, ex_nil, ex_app, ex_app2, ex_app3, ex_app4, ex_app5, ex_app6, in62r, inWr, inWl, lim, List.length_set, List.length_cons, List.length_nil, List.getElem?_cons_zero, List.getElem?_cons_succ, List.set_cons_zero, List.set_cons_succ, Int.reduceToNat, eq_self, List.zip_nil_left, List.zip_nil_right, List.zip_cons_cons, decide_true, decide_eq_true, decide_eq_false, Bool.not_true, Bool.not_false, Bool.and_true, Bool.and_false, Bool.true_and, Bool.false_and, Bool.or_true, Bool.or_false, Bool.true_or, Bool.false_or, Bool.not_not, List.isEmpty_nil, List.isEmpty_cons, true_and, and_true, ha, power]
      refine lcN (ds := rngD 0 (2 ^ n)) (t := t) (c := c) (fun x => isInt 0 (1 + v - 1) x = true) hT.tp (fun _ _ _ => rfl) (by rw [hp]; show _ < 1000000; omega) (by omega) (fun j d T _ hT _ => ?_) (fun xs T2 hx hPx hT2 hr => ?_)
      · obtain ⟨v2, T2, e2, w0, w1, _, n2⟩ := drawN call__law_draw (k := k) (m := 1 + v) (by omega) hT.tp (by omega) (by omega)
        simp (disch := first | assumption | rfl | omega | (simp only [List.length_set, List.length_append, List.length_cons, List.length_nil, List.length_map]; omega) | decide +kernel) only [↓miA, miB, miC, ex_nil, ex_app, ex_app2, ex_app3, ex_app4, ex_app5, ex_app6, in62r, inWr, inWl, lim, List.length_set, List.length_cons, List.length_nil, List.getElem?_cons_zero, List.getElem?_cons_succ, List.set_cons_zero, List.set_cons_succ, Int.reduceToNat, eq_self, List.zip_nil_left, List.zip_nil_right, List.zip_cons_cons, decide_true, decide_eq_true, decide_eq_false, Bool.not_true, Bool.not_false, Bool.and_true, Bool.and_false, Bool.true_and, Bool.false_and, Bool.or_true, Bool.or_false, Bool.true_or, Bool.false_or, Bool.not_not, List.isEmpty_nil, List.isEmpty_cons, true_and, and_true, e2, isInt_of, n2]
      · obtain ⟨o, T3, e3, o0, o1, _, n3⟩ := drawN call__law_draw (k := k) (m := 2) (by omega) hT2.tp (by omega) (by omega)
        have hlt : S1.length < T.length := (List.getElem?_eq_some_iff.mp ha).1
        have hlt2 := hT2.le
        have hlt3 := n3.le
        have hs : t < S1.length := by omega
        have ha2 := hT2.get hs ha
        have ha3 := n3.get hs ha2
        have hlt4 : S1.length < T3.length := by omega
        simp (disch := first | assumption | rfl | omega | (simp only [List.length_set, List.length_append, List.length_cons, List.length_nil, List.length_map]; omega) | decide +kernel) only [↓miA, miB, miC, ex_nil, ex_app, ex_app2, ex_app3, ex_app4, ex_app5, ex_app6, in62r, inWr, inWl, lim, List.length_set, List.length_cons, List.length_nil, List.getElem?_cons_zero, List.getElem?_cons_succ, List.set_cons_zero, List.set_cons_succ, Int.reduceToNat, eq_self, List.zip_nil_left, List.zip_nil_right, List.zip_cons_cons, decide_true, decide_eq_true, decide_eq_false, Bool.not_true, Bool.not_false, Bool.and_true, Bool.and_false, Bool.true_and, Bool.false_and, Bool.or_true, Bool.or_false, Bool.true_or, Bool.false_or, Bool.not_not, List.isEmpty_nil, List.isEmpty_cons, true_and, and_true, hr, e3, ha3]
        refine ⟨⟨_, _, rfl⟩, _, rfl, by rw [List.length_append, hj]; rfl, fun q hq => ?_, ((hT.trans hT2).trans n3).set (by omega) hb⟩
        rcases List.mem_append.mp hq with hq | hq
        · exact hP q hq
        · rw [List.mem_singleton.mp hq]
          exact isState_of (by rw [hx, hp]; omega) hPx o0 o1
    · rintro env T ⟨⟨x5, x6, rfl⟩, acc, ha, hj, hP, hT⟩
      rw [hl] at hj
      simp (disch := first | assumption | rfl | omega | (simp only [List.length_set, List.length_append, List.length_cons, List.length_nil, List.length_map]; omega) | decide +kernel) only [↓miA, miB, miC, ex_nil, ex_app, ex_app2, ex_app3, ex_app4, ex_app5, ex_app6, in62r, inWr, inWl, lim, List.length_set, List.length_cons, List.length_nil, List.getElem?_cons_zero, List.getElem?_cons_succ, List.set_cons_zero, List.set_cons_succ, Int.reduceToNat, eq_self, List.zip_nil_left, List.zip_nil_right, List.zip_cons_cons, decide_true, decide_eq_true, decide_eq_false, Bool.not_true, Bool.not_false, Bool.and_true, Bool.and_false, Bool.true_and, Bool.false_and, Bool.or_true, Bool.or_false, Bool.true_or, Bool.false_or, Bool.not_not, List.isEmpty_nil, List.isEmpty_cons, true_and, and_true, ha]
      have hA : (acc.length : Int) = 1 + v := by omega
      refine ⟨?_, ⟨acc, rfl, by omega, ⟨by omega, by omega, by omega, by omega, fun q hq => ?_⟩⟩, hT⟩
      · show (true && (true && (pures acc && true))) = true
        rw [pures_state acc hP]
        rfl
      · rw [hA, Int.toNat_natCast]
        exact hP q hq
  obtain ⟨d, S', e, ⟨ws, rfl, h1, h2⟩, hD⟩ := gc_dn q hb
  exact ⟨ws, S', e, h1, h2, hD⟩
theorem pick {k : Nat} {S : Store} {t c r : Nat} {ds : List D} (hk : 2 ≤ k) (h : Tp S t c) (hr : S[r]? = some (.lst ds)) (hrt : t < r) (h1 : 1 ≤ ds.length) (h2 : ds.length < 1000000000) :
    ∃ (v : Nat) (d : D) (S' : Store), callN prg k 9 [.ref t, .ref r] S = .ok d S' ∧ ds[v]? = some d ∧ S'.length = S.length ∧ Dn t c S S' := pickN call__law_draw (j := 9) call__law_pick hk h hr hrt h1 h2
theorem same_bl {k : Nat} {S : Store} {a b : Bool} (hk : 1 ≤ k) : callN prg k 10 [.bl a, .bl b] S = .ok (.bl (decide (a = b))) S := by
  obtain ⟨k, rfl⟩ : ∃ j, k = j + 1 := ⟨k - 1, by omega⟩
  rw [call__law_same]
  refine gc_is ?_ rfl
  unfold b__law_same
  simp (disch := first | assumption | rfl | omega | (simp only [List.length_set, List.length_append, List.length_cons, List.length_nil, List.length_map]; omega) | decide +kernel) only [↓miA, miB, miC, ex_nil, ex_app, ex_app2, ex_app3, ex_app4, ex_app5, ex_app6, in62r, inWr, inWl, lim, List.length_set, List.length_cons, List.length_nil, List.getElem?_cons_zero, List.getElem?_cons_succ, List.set_cons_zero, List.set_cons_succ, Int.reduceToNat, eq_self, List.zip_nil_left, List.zip_nil_right, List.zip_cons_cons, decide_true, decide_eq_true, decide_eq_false, Bool.not_true, Bool.not_false, Bool.and_true, Bool.and_false, Bool.true_and, Bool.false_and, Bool.or_true, Bool.or_false, Bool.true_or, Bool.false_or, Bool.not_not, List.isEmpty_nil, List.isEmpty_cons, true_and, and_true]
theorem same_int {k : Nat} {S : Store} {a b : Int} (hk : 1 ≤ k) : callN prg k 10 [.int a, .int b] S = .ok (.bl (decide (a = b))) S := by
  obtain ⟨k, rfl⟩ : ∃ j, k = j + 1 := ⟨k - 1, by omega⟩
  rw [call__law_same]
  refine gc_is ?_ rfl
  unfold b__law_same
  simp (disch := first | assumption | rfl | omega | (simp only [List.length_set, List.length_append, List.length_cons, List.length_nil, List.length_map]; omega) | decide +kernel) only [↓miA, miB, miC, ex_nil, ex_app, ex_app2, ex_app3, ex_app4, ex_app5, ex_app6, in62r, inWr, inWl, lim, List.length_set, List.length_cons, List.length_nil, List.getElem?_cons_zero, List.getElem?_cons_succ, List.set_cons_zero, List.set_cons_succ, Int.reduceToNat, eq_self, List.zip_nil_left, List.zip_nil_right, List.zip_cons_cons, decide_true, decide_eq_true, decide_eq_false, Bool.not_true, Bool.not_false, Bool.and_true, Bool.and_false, Bool.true_and, Bool.false_and, Bool.or_true, Bool.or_false, Bool.true_or, Bool.false_or, Bool.not_not, List.isEmpty_nil, List.isEmpty_cons, true_and, and_true]
end K30

namespace K30
open PySem PySem.Spec Mi
theorem all_set_false {f : D → Bool} {x : D} (hx : f x = false) : ∀ {qs : List D} {k : Nat}, k < qs.length → (qs.set k x).all f = false
  | q :: qs, 0, _ => by
    show (f x && qs.all f) = false
    rw [hx]
    rfl
  | q :: qs, k + 1, h => by
    show (f q && (qs.set k x).all f) = false
    rw [all_set_false hx (show k < qs.length from Nat.lt_of_succ_lt_succ h), Bool.and_false]
theorem isAut_all {n : Int} {qs : List D} (h : qs.all (isState (2 ^ n.toNat) qs.length) = false) : isAut (aut n qs) = false := by
  show (decide ("automaton" = "automaton") && (isInt 0 8 (.int n) && (decide (1 ≤ qs.length ∧ qs.length ≤ 2000) && qs.all (isState (2 ^ n.toNat) qs.length)))) = false
  rw [h, Bool.and_false, Bool.and_false, Bool.and_false]
theorem bent_end {S : Store} {b : Nat} {n : Int} {qs : List D} {k : Nat} {x : D} (h : Au n qs) (hx : isState (2 ^ n.toNat) qs.length x = false) (hp : Pl S b 3000 8 x) (hk : k < qs.length) :
    isAut (aut n (qs.set k x)) = false ∧ Pl S b 3000 10 (aut n (qs.set k x)) := by
  refine ⟨isAut_all (by rw [List.length_set]; exact all_set_false hx hk), by simp, fun e he => ?_⟩
  rcases List.mem_cons.mp he with rfl | he
  · show PyData.strOk "automaton" = true
    decide +kernel
  rcases List.mem_cons.mp he with rfl | he
  · exact Pl_int
  rw [List.mem_singleton.mp he]
  refine ⟨by rw [List.length_set]; have := h.l1; omega, fun e he => ?_⟩
  rcases List.mem_or_eq_of_mem_set he with he | rfl
  · exact Pl_state (n := 5) (pow_le (by have := h.n1; omega)) (h.hq e he)
  · exact hp
theorem isState_len {m l : Int} {ns : List D} {o : D} (h : (ns.length : Int) ≠ m) : isState m l (.tup [.tup ns, o]) = false := by
  show (isInt 0 1 o && (decide ((ns.length : Int) = m) && ns.all (isInt 0 (l - 1)))) = false
  rw [decide_eq_false h, Bool.false_and, Bool.and_false]
theorem isState_out {m l : Int} {ns : List D} {o : D} (h : isInt 0 1 o = false) : isState m l (.tup [.tup ns, o]) = false := by
  show (isInt 0 1 o && (decide ((ns.length : Int) = m) && ns.all (isInt 0 (l - 1)))) = false
  rw [h, Bool.false_and]
theorem isState_el {m l : Int} {ns : List D} {o x : D} (h : isInt 0 (l - 1) x = false) (hx : x ∈ ns) : isState m l (.tup [.tup ns, o]) = false := by
  show (isInt 0 1 o && (decide ((ns.length : Int) = m) && ns.all (isInt 0 (l - 1)))) = false
  have : ns.all (isInt 0 (l - 1)) = false := by
    cases e : ns.all (isInt 0 (l - 1)) with
    | false => rfl
    | true => rw [List.all_eq_true.mp e x hx] at h; cases h
  rw [this, Bool.and_false, Bool.and_false]
/-- the values that are picked among -/
theorem at4 {a b c d x : D} {v : Nat} (h : [a, b, c, d][v]? = some x) : x = a ∨ x = b ∨ x = c ∨ x = d := by
  have := List.mem_of_getElem? h
  simpa using this
theorem at5 {a b c d e x : D} {v : Nat} (h : [a, b, c, d, e][v]? = some x) : x = a ∨ x = b ∨ x = c ∨ x = d ∨ x = e := by
  have := List.mem_of_getElem? h
  simpa using this
theorem at6 {a b c d e f x : D} {v : Nat} (h : [a, b, c, d, e, f][v]? = some x) : x = a ∨ x = b ∨ x = c ∨ x = d ∨ x = e ∨ x = f := by
  have := List.mem_of_getElem? h
  simpa using this
theorem Pl_tup {S : Store} {b n : Nat} {ds : List D} (hl : ds.length ≤ 3000) (h : ∀ e ∈ ds, Pl S b 3000 n e) : Pl S b 3000 (n + 1) (.tup ds) := ⟨hl, h⟩
theorem Pl_ref {S : Store} {b n r : Nat} {ds : List D} (hb : b < r) (hr : S[r]? = some (.lst ds)) (hl : ds.length ≤ 3000) (h : ∀ e ∈ ds, Pl S b 3000 n e) : Pl S b 3000 (n + 1) (.ref r) := ⟨hb, ds, hr, hl, h⟩
theorem Pl_2 {S : Store} {b n : Nat} {x y : D} (h1 : Pl S b 3000 n x) (h2 : Pl S b 3000 n y) : ∀ e ∈ [x, y], Pl S b 3000 n e := fun e he => by
  rcases List.mem_cons.mp he with rfl | he
  · exact h1
  rw [List.mem_singleton.mp he]
  exact h2
theorem Pl_3 {S : Store} {b n : Nat} {x y z : D} (h1 : Pl S b 3000 n x) (h2 : Pl S b 3000 n y) (h3 : Pl S b 3000 n z) : ∀ e ∈ [x, y, z], Pl S b 3000 n e := fun e he => by
  rcases List.mem_cons.mp he with rfl | he
  · exact h1
  exact Pl_2 h2 h3 e he
theorem Pl_ns {S : Store} {b n : Nat} {ns : List D} {l : Int} (hx : ∀ x ∈ ns, isInt 0 l x = true) : ∀ e ∈ ns, Pl S b 3000 (n + 1) e := fun e he => by
  obtain ⟨i, rfl, _⟩ := isInt_ex (hx e he)
  exact Pl_int
theorem Pl_str {S : Store} {b n : Nat} {s : Str} (h : PyData.strOk s = true) : Pl S b 3000 (n + 1) (.str s) := h
theorem law_bent {k n : Nat} {S : Store} {t c : Nat} {qs : List D} (hT : Tp S t c) (h : Au n qs) (hn : n ≤ 7) (h9 : qs.length ≤ 9) (hk : 4 ≤ k) :
    ∃ d S', callN prg k 16 [.ref t, aut n qs] S = .ok d S' ∧ isAut d = false ∧ Pl S' (S.length - 1) 3000 10 d ∧ Dn t c S S' := by
  obtain ⟨k, rfl⟩ : ∃ j, k = j + 1 := ⟨k - 1, by omega⟩
  rw [call__law_bent]
  have hb := hT.lt
  refine gc_fr (P := fun d => isAut d = false) ?_ (fun _ _ _ => rfl) hb
  obtain ⟨kk, S2, e1, k0, k1, l2, n2⟩ := drawN call__law_draw (k := k) (S := S ++ [.lst qs]) (t := t) (c := c) (m := (qs.length : Int)) (by omega) hT.app (by have := h.l0; omega) (by omega)
  obtain ⟨bb, S3, e2, b0, b1, l3, n3⟩ := drawN call__law_draw (k := k) (S := S2) (t := t) (c := c) (m := 2 ^ n) (by omega) n2.tp (pow_pos' n) (by have := pow_le (show n ≤ 8 by omega); omega)
  obtain ⟨kd, S4, e3, d0, d1, l4, n4⟩ := drawN call__law_draw (k := k) (S := S3) (t := t) (c := c) (m := 7) (by omega) n3.tp (by omega) (by omega)
  have hq1 : (S ++ [Cell.lst qs])[S.length]? = some (.lst qs) := get_new
  have hq2 := n2.get hb hq1
  have hq3 := n3.get hb hq2
  have hq4 := n4.get hb hq3
  rw [List.length_append] at l2
  have l2 : S2.length = S.length + 1 := l2
  have hs : kk.toNat < qs.length := by omega
  have es := List.getElem?_eq_getElem hs
  obtain ⟨ns, o, eo, ho, hl, hx⟩ := isState_ex (h.hq _ (List.mem_of_getElem? es))
  rw [eo] at es
  clear eo
  rw [Int.toNat_natCast] at hl
  have p1 := pow_le (show n ≤ 8 by omega)
  have nn : Dn t c S S4 := ((Dn.refl hT).app (l := [.lst qs])).trans (n2.trans (n3.trans n4))
  have hkd : kd = 0 ∨ kd = 1 ∨ kd = 2 ∨ kd = 3 ∨ kd = 4 ∨ kd = 5 ∨ kd = 6 := by omega
  unfold b__law_bent
  rcases hkd with rfl | rfl | rfl | rfl | rfl | rfl | rfl
  · obtain ⟨v, x, S5, e4, hv, l5, n5⟩ := pick (k := k) (S := S4 ++ [.lst [.int qs.length, .int (-1), .non, .bl true]]) (by omega) n4.tp.app get_new (by omega) (by simp) (by simp)
    have hq5 := n5.get hb (show (S4 ++ [Cell.lst [.int qs.length, .int (-1), .non, .bl true]])[S.length]? = some (.lst qs) by rw [get_app (by omega)]; exact hq4)
    rw [List.length_append] at l5
    have hx1 : isInt 0 ((qs.length : Int) - 1) x = false ∧ ∀ T : Store, Pl T (S.length - 1) 3000 6 x := by
      rcases at4 hv with rfl | rfl | rfl | rfl
      · refine ⟨?_, fun _ => trivial⟩
        show (decide (0 ≤ (qs.length : Int)) && decide ((qs.length : Int) ≤ (qs.length : Int) - 1)) = false
        rw [decide_eq_false (show ¬ (qs.length : Int) ≤ (qs.length : Int) - 1 by omega), Bool.and_false]
      all_goals exact ⟨rfl, fun _ => trivial⟩
    have hlt : S.length < S5.length := by omega
    have c1 : (cutL ns none (some bb)).length ≤ 256 := by rw [cutL_l b0]; omega
    have c2 : (cutL ns (some (bb + 1)) none).length ≤ 256 := by rw [cutL_r (by omega)]; omega
    simp (disch := first | assumption | rfl | omega | (simp only [List.length_set, List.length_append, List.length_cons, List.length_nil, List.length_map]; omega) | decide +kernel) only [↓miA, miB, miC, ex_nil, ex_app, ex_app2, ex_app3, ex_app4, ex_app5, ex_app6, in62r, inWr, inWl, lim, List.length_set, List.length_cons, List.length_nil, List.getElem?_cons_zero, List.getElem?_cons_succ, List.set_cons_zero, List.set_cons_succ, Int.reduceToNat, eq_self, List.zip_nil_left, List.zip_nil_right, List.zip_cons_cons, decide_true, decide_eq_true, decide_eq_false, Bool.not_true, Bool.not_false, Bool.and_true, Bool.and_false, Bool.true_and, Bool.false_and, Bool.or_true, Bool.or_false, Bool.true_or, Bool.false_or, Bool.not_not, List.isEmpty_nil, List.isEmpty_cons, true_and, and_true, e1, e2, e3, power, hq2, hq3, hq4, es, e4, hq5]
    have c3 : (cutL ns none (some bb) ++ [x] ++ cutL ns (some (bb + 1)) none).length ≤ 3000 := by
      rw [List.length_append, List.length_append]
      simp only [List.length_cons, List.length_nil]
      omega
    have hel : ∀ T : Store, ∀ e ∈ cutL ns none (some bb) ++ [x] ++ cutL ns (some (bb + 1)) none, Pl T (S.length - 1) 3000 6 e := by
      intro T e he
      rcases List.mem_append.mp he with he | he
      · rcases List.mem_append.mp he with he | he
        · exact Pl_ns hx e (cutL_sub he)
        · rw [List.mem_singleton.mp he]
          exact hx1.2 _
      · exact Pl_ns hx e (cutL_sub he)
    have hm : x ∈ cutL ns none (some bb) ++ [x] ++ cutL ns (some (bb + 1)) none := by simp
    obtain ⟨r1, r2⟩ := bent_end (S := S5.set S.length (.lst (qs.set kk.toNat (.tup [.tup (cutL ns none (some bb) ++ [x] ++ cutL ns (some (bb + 1)) none), .int o])))) (b := S.length - 1) h (isState_el hx1.1 hm) (Pl_tup (by simp) (Pl_2 (Pl_tup (n := 6) c3 (hel _)) Pl_int)) hs
    exact ⟨r1, r2, (nn.trans (Dn.trans ((Dn.refl n4.tp).app) n5)).set (Nat.le_refl _) hb⟩
  · obtain ⟨v, x, S5, e4, hv, l5, n5⟩ := pick (k := k) (S := S4 ++ [.lst [.int 2, .int (-1), .non, .bl true, .bl false]]) (by omega) n4.tp.app get_new (by omega) (by simp) (by simp)
    have hq5 := n5.get hb (show (S4 ++ [Cell.lst [.int 2, .int (-1), .non, .bl true, .bl false]])[S.length]? = some (.lst qs) by rw [get_app (by omega)]; exact hq4)
    rw [List.length_append] at l5
    have hx1 : isInt 0 1 x = false ∧ ∀ T : Store, Pl T (S.length - 1) 3000 6 x := by
      rcases at5 hv with rfl | rfl | rfl | rfl | rfl <;> exact ⟨rfl, fun _ => trivial⟩
    have hlt : S.length < S5.length := by omega
    simp (disch := first | assumption | rfl | omega | (simp only [List.length_set, List.length_append, List.length_cons, List.length_nil, List.length_map]; omega) | decide +kernel) only [↓miA, miB, miC, ex_nil, ex_app, ex_app2, ex_app3, ex_app4, ex_app5, ex_app6, in62r, inWr, inWl, lim, List.length_set, List.length_cons, List.length_nil, List.getElem?_cons_zero, List.getElem?_cons_succ, List.set_cons_zero, List.set_cons_succ, Int.reduceToNat, eq_self, List.zip_nil_left, List.zip_nil_right, List.zip_cons_cons, decide_true, decide_eq_true, decide_eq_false, Bool.not_true, Bool.not_false, Bool.and_true, Bool.and_false, Bool.true_and, Bool.false_and, Bool.or_true, Bool.or_false, Bool.true_or, Bool.false_or, Bool.not_not, List.isEmpty_nil, List.isEmpty_cons, true_and, and_true, e1, e2, e3, power, hq2, hq3, hq4, es, e4, hq5]
    obtain ⟨r1, r2⟩ := bent_end (S := S5.set S.length (.lst (qs.set kk.toNat (.tup [.tup ns, x])))) (b := S.length - 1) h (isState_out hx1.1) (Pl_tup (by simp) (Pl_2 (Pl_tup (n := 6) (by omega) (Pl_ns hx)) ((hx1.2 _).up))) hs
    exact ⟨r1, r2, (nn.trans (Dn.trans ((Dn.refl n4.tp).app) n5)).set (Nat.le_refl _) hb⟩
  · have hlt : S.length < S4.length := by omega
    have c2 : (cutL ns (some 1) none).length = ns.length - 1 := cutL_r (by omega)
    have p0 := pow_pos' n
    simp (disch := first | assumption | rfl | omega | (simp only [List.length_set, List.length_append, List.length_cons, List.length_nil, List.length_map]; omega) | decide +kernel) only [↓miA, miB, miC, ex_nil, ex_app, ex_app2, ex_app3, ex_app4, ex_app5, ex_app6, in62r, inWr, inWl, lim, List.length_set, List.length_cons, List.length_nil, List.getElem?_cons_zero, List.getElem?_cons_succ, List.set_cons_zero, List.set_cons_succ, Int.reduceToNat, eq_self, List.zip_nil_left, List.zip_nil_right, List.zip_cons_cons, decide_true, decide_eq_true, decide_eq_false, Bool.not_true, Bool.not_false, Bool.and_true, Bool.and_false, Bool.true_and, Bool.false_and, Bool.or_true, Bool.or_false, Bool.true_or, Bool.false_or, Bool.not_not, List.isEmpty_nil, List.isEmpty_cons, true_and, and_true, e1, e2, e3, power, hq2, hq3, hq4, es]
    obtain ⟨r1, r2⟩ := bent_end (S := S4.set S.length (.lst (qs.set kk.toNat (.tup [.tup (cutL ns (some 1) none), .int o])))) (b := S.length - 1) h (isState_len (by rw [Int.toNat_natCast, c2]; omega)) (Pl_tup (by simp) (Pl_2 (Pl_tup (ds := cutL ns (some 1) none) (n := 6) (by omega) fun e he => Pl_ns hx e (cutL_sub he)) Pl_int)) hs
    exact ⟨r1, r2, nn.set (Nat.le_refl _) hb⟩
  · have e0 : S4 ++ [Cell.lst ns] ++ [Cell.lst [.tup ns, .int o]] ++ [Cell.lst [.tup [.tup ns, .int o, .int 0], .tup [.tup ns], .tup [.ref S4.length, .int o], .ref (S4 ++ [Cell.lst ns]).length]] = S4 ++ [Cell.lst ns, Cell.lst [.tup ns, .int o], Cell.lst [.tup [.tup ns, .int o, .int 0], .tup [.tup ns], .tup [.ref S4.length, .int o], .ref (S4 ++ [Cell.lst ns]).length]] := by
      rw [List.append_assoc, List.append_assoc]
      rfl
    obtain ⟨v, x, S5, e4, hv, l5, n5⟩ := pick (k := k) (S := S4 ++ [Cell.lst ns] ++ [Cell.lst [.tup ns, .int o]] ++ [Cell.lst [.tup [.tup ns, .int o, .int 0], .tup [.tup ns], .tup [.ref S4.length, .int o], .ref (S4 ++ [Cell.lst ns]).length]]) (by omega) (n4.tp.app.app.app) get_new (by simp only [List.length_append]; omega) (by simp) (by simp)
    rw [e0] at n5
    have hq5 := n5.get hb (show (S4 ++ [Cell.lst ns, Cell.lst [.tup ns, .int o], Cell.lst [.tup [.tup ns, .int o, .int 0], .tup [.tup ns], .tup [.ref S4.length, .int o], .ref (S4 ++ [Cell.lst ns]).length]])[S.length]? = some (.lst qs) by rw [get_app (by omega)]; exact hq4)
    have hr1 := n5.get (r := S4.length) (by omega) (show (S4 ++ [Cell.lst ns, Cell.lst [.tup ns, .int o], Cell.lst [.tup [.tup ns, .int o, .int 0], .tup [.tup ns], .tup [.ref S4.length, .int o], .ref (S4 ++ [Cell.lst ns]).length]])[S4.length]? = some (.lst ns) by rw [List.getElem?_append_right (by omega), Nat.sub_self]; rfl)
    have hr2 := n5.get (r := (S4 ++ [Cell.lst ns]).length) (by rw [List.length_append]; omega) (show (S4 ++ [Cell.lst ns, Cell.lst [.tup ns, .int o], Cell.lst [.tup [.tup ns, .int o, .int 0], .tup [.tup ns], .tup [.ref S4.length, .int o], .ref (S4 ++ [Cell.lst ns]).length]])[(S4 ++ [Cell.lst ns]).length]? = some (.lst [.tup ns, .int o]) by rw [List.length_append, List.getElem?_append_right (by omega), show S4.length + [Cell.lst ns].length - S4.length = 1 by simp]; rfl)
    have hlt : S.length < S5.length := by rw [l5]; simp only [List.length_append, List.length_cons, List.length_nil]; omega
    have hx1 : isState (2 ^ (n : Int).toNat) qs.length x = false ∧ ∀ y : Cell, Pl (S5.set S.length y) (S.length - 1) 3000 8 x := by
      have t1 : ∀ T : Store, Pl T (S.length - 1) 3000 6 (.tup ns) := fun T => Pl_tup (n := 5) (by omega) (Pl_ns hx)
      have g1 : ∀ y : Cell, (S5.set S.length y)[S4.length]? = some (.lst ns) := fun y => by rw [get_set_ne (by omega)]; exact hr1
      have g2 : ∀ y : Cell, (S5.set S.length y)[(S4 ++ [Cell.lst ns]).length]? = some (.lst [.tup ns, .int o]) := fun y => by rw [get_set_ne (by rw [List.length_append]; omega)]; exact hr2
      rcases at4 hv with rfl | rfl | rfl | rfl
      · exact ⟨rfl, fun y => Pl_tup (n := 7) (by simp) (Pl_3 (t1 _).up Pl_int Pl_int)⟩
      · exact ⟨rfl, fun y => Pl_tup (n := 7) (by simp) fun e he => by rw [List.mem_singleton.mp he]; exact (t1 _).up⟩
      · exact ⟨rfl, fun y => Pl_tup (n := 7) (by simp) (Pl_2 (Pl_ref (n := 6) (by omega) (g1 y) (by omega) (Pl_ns hx)) Pl_int)⟩
      · exact ⟨rfl, fun y => Pl_ref (n := 7) (by rw [List.length_append]; omega) (g2 y) (by simp) (Pl_2 (t1 _).up Pl_int)⟩
    simp (disch := first | assumption | rfl | omega | (simp only [List.length_set, List.length_append, List.length_cons, List.length_nil, List.length_map]; omega) | decide +kernel) only [↓miA, miB, miC, ex_nil, ex_app, ex_app2, ex_app3, ex_app4, ex_app5, ex_app6, in62r, inWr, inWl, lim, List.length_set, List.length_cons, List.length_nil, List.getElem?_cons_zero, List.getElem?_cons_succ, List.set_cons_zero, List.set_cons_succ, Int.reduceToNat, eq_self, List.zip_nil_left, List.zip_nil_right, List.zip_cons_cons, decide_true, decide_eq_true, decide_eq_false, Bool.not_true, Bool.not_false, Bool.and_true, Bool.and_false, Bool.true_and, Bool.false_and, Bool.or_true, Bool.or_false, Bool.true_or, Bool.false_or, Bool.not_not, List.isEmpty_nil, List.isEmpty_cons, true_and, and_true, e1, e2, e3, power, hq2, hq3, hq4, es, e4, hq5]
    obtain ⟨r1, r2⟩ := bent_end (S := S5.set S.length (.lst (qs.set kk.toNat x))) (b := S.length - 1) h hx1.1 (hx1.2 _) hs
    exact ⟨r1, r2, (nn.trans (Dn.trans ((Dn.refl n4.tp).app) n5)).set (Nat.le_refl _) hb⟩
  · obtain ⟨v, x, S5, e4, hv, l5, n5⟩ := pick (k := k) (S := S4 ++ [.lst [.str "automaton", .int n, .tup qs]] ++ [.lst [.tup [.str "automaton", .int n, .tup []], .tup [.str "automaton", .int 9, .tup qs], .tup [.str "automaton", .int (n + 1), .tup qs], .ref S4.length, .tup [.str "automata", .int n, .tup qs], .tup [.str "automaton", .int n, .tup qs, .int 0]]]) (by omega) n4.tp.app.app get_new (by simp only [List.length_append]; omega) (by simp) (by simp)
    have hr1 := n5.get (r := S4.length) (by omega) (show (S4 ++ [Cell.lst [.str "automaton", .int n, .tup qs]] ++ [.lst [.tup [.str "automaton", .int n, .tup []], .tup [.str "automaton", .int 9, .tup qs], .tup [.str "automaton", .int (n + 1), .tup qs], .ref S4.length, .tup [.str "automata", .int n, .tup qs], .tup [.str "automaton", .int n, .tup qs, .int 0]]])[S4.length]? = some (.lst [.str "automaton", .int n, .tup qs]) by rw [get_app (by rw [List.length_append]; simp), get_new])
    simp (disch := first | assumption | rfl | omega | (simp only [List.length_set, List.length_append, List.length_cons, List.length_nil, List.length_map]; omega) | decide +kernel) only [↓miA, miB, miC, ex_nil, ex_app, ex_app2, ex_app3, ex_app4, ex_app5, ex_app6, in62r, inWr, inWl, lim, List.length_set, List.length_cons, List.length_nil, List.getElem?_cons_zero, List.getElem?_cons_succ, List.set_cons_zero, List.set_cons_succ, Int.reduceToNat, eq_self, List.zip_nil_left, List.zip_nil_right, List.zip_cons_cons, decide_true, decide_eq_true, decide_eq_false, Bool.not_true, Bool.not_false, Bool.and_true, Bool.and_false, Bool.true_and, Bool.false_and, Bool.or_true, Bool.or_false, Bool.true_or, Bool.false_or, Bool.not_not, List.isEmpty_nil, List.isEmpty_cons, true_and, and_true, e1, e2, e3, power, hq2, hq3, hq4, es, List.cons_append, List.nil_append, e4]
    have sA : PyData.strOk "automaton" = true := by decide +kernel
    refine ⟨?_, ?_, nn.trans (Dn.trans ((Dn.refl n4.tp).app.app) n5)⟩
    · rcases at6 hv with rfl | rfl | rfl | rfl | rfl | rfl
      · show (decide ("automaton" = "automaton") && (isInt 0 8 (.int n) && (decide (1 ≤ ([] : List D).length ∧ ([] : List D).length ≤ 2000) && ([] : List D).all (isState (2 ^ (n : Int).toNat) ([] : List D).length)))) = false
        rw [decide_eq_false (show ¬ (1 ≤ ([] : List D).length ∧ ([] : List D).length ≤ 2000) from fun h => nomatch h.1), Bool.false_and, Bool.and_false, Bool.and_false]
      · exact isAut_int rfl
      · refine isAut_all ?_
        cases ea : qs.all (isState (2 ^ ((n : Int) + 1).toNat) qs.length) with
        | false => rfl
        | true =>
          have := List.all_eq_true.mp ea _ (List.mem_of_getElem? es)
          rw [isState_len (by rw [show ((n : Int) + 1).toNat = n + 1 by omega, Int.pow_succ]; have := pow_pos' n; omega)] at this
          cases this
      · rfl
      · show (decide ("automata" = "automaton") && (isInt 0 8 (.int n) && (decide (1 ≤ qs.length ∧ qs.length ≤ 2000) && qs.all (isState (2 ^ (n : Int).toNat) qs.length)))) = false
        rw [decide_eq_false (by decide +kernel), Bool.false_and]
      · rfl
    · rcases at6 hv with rfl | rfl | rfl | rfl | rfl | rfl
      · exact Pl_tup (n := 9) (by simp) (Pl_3 (Pl_str sA) Pl_int (Pl_tup (n := 8) (by simp) fun _ h => nomatch h))
      · exact Pl_tup (n := 9) (by simp) (Pl_3 (Pl_str sA) Pl_int h.pls)
      · exact Pl_tup (n := 9) (by simp) (Pl_3 (Pl_str sA) Pl_int h.pls)
      · exact Pl_ref (n := 9) (by omega) hr1 (by simp) (Pl_3 (Pl_str sA) Pl_int h.pls)
      · exact Pl_tup (n := 9) (by simp) (Pl_3 (Pl_str (by decide +kernel)) Pl_int h.pls)
      · refine Pl_tup (n := 9) (by simp) fun e he => ?_
        rcases List.mem_cons.mp he with rfl | he
        · exact Pl_str sA
        · exact Pl_3 Pl_int h.pls Pl_int e he
  · obtain ⟨v, x, S5, e4, hv, l5, n5⟩ := pick (k := k) (S := S4 ++ [.lst qs] ++ [.lst [.non, .int 5, .tup [], .tup [.str "automaton", .int n, .ref S4.length], .tup [.str "automaton", .bl true, .tup qs], .tup [.str "automaton", .int (-1), .tup qs]]]) (by omega) n4.tp.app.app get_new (by simp only [List.length_append]; omega) (by simp) (by simp)
    have hr1 := n5.get (r := S4.length) (by omega) (show (S4 ++ [Cell.lst qs] ++ [.lst [.non, .int 5, .tup [], .tup [.str "automaton", .int n, .ref S4.length], .tup [.str "automaton", .bl true, .tup qs], .tup [.str "automaton", .int (-1), .tup qs]]])[S4.length]? = some (.lst qs) by rw [get_app (by rw [List.length_append]; simp), get_new])
    simp (disch := first | assumption | rfl | omega | (simp only [List.length_set, List.length_append, List.length_cons, List.length_nil, List.length_map]; omega) | decide +kernel) only [↓miA, miB, miC, ex_nil, ex_app, ex_app2, ex_app3, ex_app4, ex_app5, ex_app6, in62r, inWr, inWl, lim, List.length_set, List.length_cons, List.length_nil, List.getElem?_cons_zero, List.getElem?_cons_succ, List.set_cons_zero, List.set_cons_succ, Int.reduceToNat, eq_self, List.zip_nil_left, List.zip_nil_right, List.zip_cons_cons, decide_true, decide_eq_true, decide_eq_false, Bool.not_true, Bool.not_false, Bool.and_true, Bool.and_false, Bool.true_and, Bool.false_and, Bool.or_true, Bool.or_false, Bool.true_or, Bool.false_or, Bool.not_not, List.isEmpty_nil, List.isEmpty_cons, true_and, and_true, e1, e2, e3, power, hq2, hq3, hq4, es, e4]
    have sA : PyData.strOk "automaton" = true := by decide +kernel
    have pq : ∀ T : Store, Pl T (S.length - 1) 3000 9 (.tup qs) := fun T => h.pls (k := 5)
    refine ⟨?_, ?_, nn.trans (Dn.trans ((Dn.refl n4.tp).app.app) n5)⟩
    · rcases at6 hv with rfl | rfl | rfl | rfl | rfl | rfl
      · rfl
      · rfl
      · rfl
      · rfl
      · exact isAut_int rfl
      · exact isAut_int rfl
    · rcases at6 hv with rfl | rfl | rfl | rfl | rfl | rfl
      · trivial
      · trivial
      · exact Pl_tup (n := 9) (by simp) fun _ h => nomatch h
      · exact Pl_tup (n := 9) (by simp) (Pl_3 (Pl_str sA) Pl_int (Pl_ref (n := 8) (by omega) hr1 (by omega) (pq S5).2))
      · exact Pl_tup (n := 9) (by simp) (Pl_3 (Pl_str sA) trivial (pq _))
      · exact Pl_tup (n := 9) (by simp) (Pl_3 (Pl_str sA) Pl_int (pq _))
  · have q0 : 1 ≤ qs.length := h.l0
    obtain ⟨m, hm, m1, m2⟩ : ∃ m : Int, m = 1 + (2000 : Int).fdiv qs.length ∧ 2 ≤ m ∧ m ≤ 2001 := by
      refine ⟨_, rfl, ?_, ?_⟩
      all_goals
        rw [Int.fdiv_eq_ediv_of_nonneg _ (by omega)]
        have : qs.length = 1 ∨ qs.length = 2 ∨ qs.length = 3 ∨ qs.length = 4 ∨ qs.length = 5 ∨ qs.length = 6 ∨ qs.length = 7 ∨ qs.length = 8 ∨ qs.length = 9 := by omega
        rcases this with e | e | e | e | e | e | e | e | e <;> rw [e] <;> decide
    have hml : 2000 < m.toNat * qs.length ∧ m.toNat * qs.length ≤ 2009 := by
      rw [hm, Int.fdiv_eq_ediv_of_nonneg _ (by omega)]
      have : qs.length = 1 ∨ qs.length = 2 ∨ qs.length = 3 ∨ qs.length = 4 ∨ qs.length = 5 ∨ qs.length = 6 ∨ qs.length = 7 ∨ qs.length = 8 ∨ qs.length = 9 := by omega
      rcases this with e | e | e | e | e | e | e | e | e <;> rw [e] <;> decide
    have hne : qs.isEmpty = false := by cases qs with
      | nil => simp at q0
      | cons => rfl
    have hd : decide (2 ≤ m ∧ m ≤ 1000000 ∧ m.toNat * qs.length ≤ 1000000) = true := decide_eq_true ⟨m1, by omega, by omega⟩
    simp (disch := first | assumption | rfl | omega | (simp only [List.length_set, List.length_append, List.length_cons, List.length_nil, List.length_map]; omega) | decide +kernel) only [↓miA, miB, miC, ex_nil, ex_app, ex_app2, ex_app3, ex_app4, ex_app5, ex_app6, in62r, inWr, inWl, lim, List.length_set, List.length_cons, List.length_nil, List.getElem?_cons_zero, List.getElem?_cons_succ, List.set_cons_zero, List.set_cons_succ, Int.reduceToNat, eq_self, List.zip_nil_left, List.zip_nil_right, List.zip_cons_cons, decide_true, decide_eq_true, decide_eq_false, Bool.not_true, Bool.not_false, Bool.and_true, Bool.and_false, Bool.true_and, Bool.false_and, Bool.or_true, Bool.or_false, Bool.true_or, Bool.false_or, Bool.not_not, List.isEmpty_nil, List.isEmpty_cons, true_and, and_true, e1, e2, e3, power, hq2, hq3, hq4, es, ← hm, hne, hd]
    have hfl : (List.replicate m.toNat qs).flatten.length = m.toNat * qs.length := by rw [List.length_flatten, List.map_replicate, List.sum_replicate_nat]
    have sA : PyData.strOk "automaton" = true := by decide +kernel
    refine ⟨?_, Pl_tup (n := 9) (by simp) (Pl_3 (Pl_str sA) Pl_int (Pl_tup (n := 8) (by omega) fun e he => ?_)), nn⟩
    · show (decide ("automaton" = "automaton") && (isInt 0 8 (.int n) && (decide (1 ≤ (List.replicate m.toNat qs).flatten.length ∧ (List.replicate m.toNat qs).flatten.length ≤ 2000) && _))) = false
      rw [decide_eq_false (show ¬ (1 ≤ (List.replicate m.toNat qs).flatten.length ∧ (List.replicate m.toNat qs).flatten.length ≤ 2000) by omega), Bool.false_and, Bool.and_false, Bool.and_false]
    · obtain ⟨l, hl, hel⟩ := List.mem_flatten.mp he
      rw [List.eq_of_mem_replicate hl] at hel
      exact Pl_state (n := 5) (pow_le (by omega)) (h.hq e hel)
end K30

namespace K30
open PySem PySem.Spec Mi
theorem at8 {a b c d e f g h x : D} {v : Nat} (q : [a, b, c, d, e, f, g, h][v]? = some x) : x = a ∨ x = b ∨ x = c ∨ x = d ∨ x = e ∨ x = f ∨ x = g ∨ x = h := by
  have := List.mem_of_getElem? q
  simpa using this
theorem Pl_1 {S : Store} {b n : Nat} {x : D} (h1 : Pl S b 3000 n x) : ∀ e ∈ [x], Pl S b 3000 n e := fun e he => by
  rw [List.mem_singleton.mp he]
  exact h1
abbrev fullQ : List D := (rngD 0 2000).map fun d => .tup [.tup [d], .int 1]
theorem full_au : Au 0 fullQ := by
  have hl : fullQ.length = 2000 := by rw [List.length_map, rngD_len]; rfl
  refine ⟨by omega, by omega, by omega, by omega, fun q hq => ?_⟩
  obtain ⟨d, hd, rfl⟩ := List.mem_map.mp hq
  obtain ⟨j, hj⟩ := List.mem_iff_getElem?.mp hd
  obtain ⟨rfl, hj1⟩ := rngD_at hj
  rw [hl]
  exact isState_of rfl (fun x hx => by rw [List.mem_singleton.mp hx]; exact isInt_of (by omega) (by omega)) (by omega) (by omega)
theorem law_true (ns : List Int) (hl : ns.length ≤ 63) : ∃ S', callN prg 40 17 [.ref 0] [.frz (ns.map D.int)] = .ok (.bl true) S' := by
  have h : W (callN prg 40 17 [.ref 0] [.frz (ns.map D.int)]) (fun d _ => d = .bl true) NoEx := by
    rw [call_law]
    refine W_gc (W_mono (Φ := fun d _ => d = .bl true) (Ψ := NoEx) ?_ (fun d S h => ⟨h, fun _ _ => h, fun n c e _ _ _ _ => by rw [h] at e; cases e⟩) fun _ _ h => h)
    obtain ⟨s, et⟩ := tapeOf (k := 39) (S := [.frz (ns.map D.int)]) (r := 0) (ns := ns) rfl hl (by omega)
    obtain ⟨t, ht⟩ : ∃ t, t = ([.frz (ns.map D.int)] : Store).length + 1 := ⟨_, rfl⟩
    obtain ⟨c, hc⟩ : ∃ c, c = ([.frz (ns.map D.int)] : Store).length := ⟨_, rfl⟩
    obtain ⟨S1, hS1⟩ : ∃ S1, S1 = [.frz (ns.map D.int)] ++ [cl (ns.map fun i => if i < 0 then -i else i)] ++ [tp ([.frz (ns.map D.int)] : Store).length s] := ⟨_, rfl⟩
    rw [← ht, ← hS1] at et
    have hT : Tp S1 t c := by
      subst ht hc hS1
      refine ⟨s, ns.map fun i => if i < 0 then -i else i, ⟨rfl, rfl, Nat.lt_succ_self _, by simp, by simp, fun n hn => ?_⟩, by rw [List.length_map]; omega⟩
      obtain ⟨i, _, rfl⟩ := List.mem_map.mp hn
      split <;> omega
    clear ht hc hS1
    unfold b_law
    simp (disch := first | assumption | rfl | omega | (simp only [List.length_set, List.length_append, List.length_cons, List.length_nil, List.length_map]; omega) | decide +kernel) only [↓miA, miB, miC, ex_nil, ex_app, ex_app2, ex_app3, ex_app4, ex_app5, ex_app6, in62r, inWr, inWl, lim, List.length_set, List.length_cons, List.length_nil, List.getElem?_cons_zero, List.getElem?_cons_succ, List.set_cons_zero, List.set_cons_succ, Int.reduceToNat, eq_self, List.zip_nil_left, List.zip_nil_right, List.zip_cons_cons, decide_true, decide_eq_true, decide_eq_false, Bool.not_true, Bool.not_false, Bool.and_true, Bool.and_false, Bool.true_and, Bool.false_and, Bool.or_true, Bool.or_false, Bool.true_or, Bool.false_or, Bool.not_not, List.isEmpty_nil, List.isEmpty_cons, true_and, and_true, et, same_int]
    unfold cFor
    refine for_items (ds := rngD 0 3) (fun j env T => (∃ e2 e3 e4 e5 e6 e7 e8 e9, env = [some (.ref 0), some (.ref t), e2, e3, e4, e5, e6, e7, e8, e9]) ∧ Tp T t c) ?_ ?_ 1000000 0 _ _ (Nat.zero_le _) (by show 3 < 1000000 + 0; omega) ⟨⟨_, _, _, _, _, _, _, _, rfl⟩, hT⟩
    · rintro j d env T ed ⟨⟨e2, e3, e4, e5, e6, e7, e8, e9, rfl⟩, hT⟩
      obtain ⟨v, T1, x1, v0, v1, l1, n1⟩ := drawN call__law_draw (k := 39) (S := T) (t := t) (c := c) (m := 5) (by omega) hT (by omega) (by omega)
      obtain ⟨n, rfl⟩ : ∃ n : Nat, v = n := ⟨v.toNat, by omega⟩
      obtain ⟨qs, T2, x2, lq, au, n2⟩ := law_drawn (k := 39) (n := n) (m := 9) n1.tp (by omega) (by omega) (by omega) (by omega)
      have x2 : callN prg 39 14 [.ref t, .int n, .int 9] T1 = .ok (aut n qs) T2 := x2
      have hia : callN prg 39 2 [aut n qs] T2 = .ok (.bl true) T2 := by
        rw [is_automaton (b := 0) au.pl (by omega) (by omega), au.is]
      simp (disch := first | assumption | rfl | omega | (simp only [List.length_set, List.length_append, List.length_cons, List.length_nil, List.length_map]; omega) | decide +kernel) only [↓miA, miB, miC, ex_nil, ex_app, ex_app2, ex_app3, ex_app4, ex_app5, ex_app6, in62r, inWr, inWl, lim, List.length_set, List.length_cons, List.length_nil, List.getElem?_cons_zero, List.getElem?_cons_succ, List.set_cons_zero, List.set_cons_succ, Int.reduceToNat, eq_self, List.zip_nil_left, List.zip_nil_right, List.zip_cons_cons, decide_true, decide_eq_true, decide_eq_false, Bool.not_true, Bool.not_false, Bool.and_true, Bool.and_false, Bool.true_and, Bool.false_and, Bool.or_true, Bool.or_false, Bool.true_or, Bool.false_or, Bool.not_not, List.isEmpty_nil, List.isEmpty_cons, true_and, and_true, x1, x2, hia, same_bl]
      unfold cFor
      refine for_items (ds := rngD 0 6) (fun j env T => (∃ e6 e9, env = [some (.ref 0), some (.ref t), some d, e3, some (.int n), some (aut n qs), e6, e7, e8, e9]) ∧ Tp T t c) ?_ ?_ 1000000 0 _ _ (Nat.zero_le _) (by show 6 < 1000000 + 0; omega) ⟨⟨_, _, rfl⟩, n2.tp⟩
      · rintro j2 d2 env T ed2 ⟨⟨e6, e9, rfl⟩, hT⟩
        obtain ⟨ws, T3, x3, lw, hw, n3⟩ := law_word (k := 39) (n := n) (m := 12) hT (by omega) (by omega) (by omega)
        have x3 : callN prg 39 12 [.ref t, .int n, .int 12] T = .ok (.tup ws) T3 := x3
        have hw' : ∀ w ∈ ws, isInt 0 (2 ^ (n : Int).toNat - 1) w = true := hw
        simp (disch := first | assumption | rfl | omega | (simp only [List.length_set, List.length_append, List.length_cons, List.length_nil, List.length_map]; omega) | decide +kernel) only [↓miA, miB, miC, ex_nil, ex_app, ex_app2, ex_app3, ex_app4, ex_app5, ex_app6, in62r, inWr, inWl, lim, List.length_set, List.length_cons, List.length_nil, List.getElem?_cons_zero, List.getElem?_cons_succ, List.set_cons_zero, List.set_cons_succ, Int.reduceToNat, eq_self, List.zip_nil_left, List.zip_nil_right, List.zip_cons_cons, decide_true, decide_eq_true, decide_eq_false, Bool.not_true, Bool.not_false, Bool.and_true, Bool.and_false, Bool.true_and, Bool.false_and, Bool.or_true, Bool.or_false, Bool.true_or, Bool.false_or, Bool.not_not, List.isEmpty_nil, List.isEmpty_cons, true_and, and_true, x3, call_ok au hw', law_takes au hw', same_bl]
        exact ⟨⟨_, _, rfl⟩, n3.tp⟩
      · rintro env T ⟨⟨e6, e9, rfl⟩, hT⟩
        obtain ⟨w, T3, x3, hwf, hwp, n3⟩ := law_bent (k := 39) hT au (by omega) (by omega) (by omega)
        have hib : callN prg 39 2 [w] T3 = .ok (.bl false) T3 := by
          rw [is_automaton hwp (by omega) (by omega), hwf]
        have hcb := call_bad (k := 39) (w := .non) hwp (by omega) hwf (by omega)
        obtain ⟨v, x, T4, x4, hv, l4, n4⟩ := pick (k := 39) (S := T3 ++ [.lst [.int 0]] ++ [.lst [.tup [.int (2 ^ n)], .tup [.int (-1)], .tup [.bl true], .tup [.non], .ref T3.length, .non, .int 0, .str "0"]]) (by omega) n3.tp.app.app get_new (by have := n3.tp.lt; simp only [List.length_append]; omega) (by simp) (by simp)
        have hr := n4.get (r := T3.length) n3.tp.lt (show (T3 ++ [Cell.lst [.int 0]] ++ [.lst [.tup [.int (2 ^ n)], .tup [.int (-1)], .tup [.bl true], .tup [.non], .ref T3.length, .non, .int 0, .str "0"]])[T3.length]? = some (.lst [.int 0]) by rw [get_app (by rw [List.length_append]; simp), get_new])
        have hx : isWord (2 ^ (n : Int).toNat) x = false ∧ Pl T4 t 3000 10 x := by
          rcases at8 hv with rfl | rfl | rfl | rfl | rfl | rfl | rfl | rfl
          · refine ⟨?_, Pl_tup (n := 9) (by simp) (Pl_1 Pl_int)⟩
            show ((decide (0 ≤ (2 : Int) ^ n) && decide ((2 : Int) ^ n ≤ 2 ^ n - 1)) && true) = false
            rw [decide_eq_false (show ¬ (2 : Int) ^ n ≤ 2 ^ n - 1 by omega), Bool.and_false]
            rfl
          · exact ⟨rfl, Pl_tup (n := 9) (by simp) (Pl_1 Pl_int)⟩
          · exact ⟨rfl, Pl_tup (n := 9) (by simp) (Pl_1 trivial)⟩
          · exact ⟨rfl, Pl_tup (n := 9) (by simp) (Pl_1 trivial)⟩
          · exact ⟨rfl, Pl_ref (n := 9) n3.tp.lt hr (by simp) (Pl_1 Pl_int)⟩
          · exact ⟨rfl, trivial⟩
          · exact ⟨rfl, trivial⟩
          · exact ⟨rfl, Pl_str (by decide +kernel)⟩
        have hco := call_odd (k := 39) au hx.2 hx.1 (by omega)
        simp (disch := first | assumption | rfl | omega | (simp only [List.length_set, List.length_append, List.length_cons, List.length_nil, List.length_map]; omega) | decide +kernel) only [↓miA, miB, miC, ex_nil, ex_app, ex_app2, ex_app3, ex_app4, ex_app5, ex_app6, in62r, inWr, inWl, lim, List.length_set, List.length_cons, List.length_nil, List.getElem?_cons_zero, List.getElem?_cons_succ, List.set_cons_zero, List.set_cons_succ, Int.reduceToNat, eq_self, List.zip_nil_left, List.zip_nil_right, List.zip_cons_cons, decide_true, decide_eq_true, decide_eq_false, Bool.not_true, Bool.not_false, Bool.and_true, Bool.and_false, Bool.true_and, Bool.false_and, Bool.or_true, Bool.or_false, Bool.true_or, Bool.false_or, Bool.not_not, List.isEmpty_nil, List.isEmpty_cons, true_and, and_true, x3, hib, hcb, same_bl, same_int, power, x4, hco]
        exact ⟨⟨_, _, _, _, _, _, _, _, rfl⟩, n4.tp⟩
    · rintro env T ⟨⟨e2, e3, e4, e5, e6, e7, e8, e9, rfl⟩, hT⟩
      simp (disch := first | assumption | rfl | omega | (simp only [List.length_set, List.length_append, List.length_cons, List.length_nil, List.length_map]; omega) | decide +kernel) only [↓miA, miB, miC, ex_nil, ex_app, ex_app2, ex_app3, ex_app4, ex_app5, ex_app6, in62r, inWr, inWl, lim, List.length_set, List.length_cons, List.length_nil, List.getElem?_cons_zero, List.getElem?_cons_succ, List.set_cons_zero, List.set_cons_succ, Int.reduceToNat, eq_self, List.zip_nil_left, List.zip_nil_right, List.zip_cons_cons, decide_true, decide_eq_true, decide_eq_false, Bool.not_true, Bool.not_false, Bool.and_true, Bool.and_false, Bool.true_and, Bool.false_and, Bool.or_true, Bool.or_false, Bool.true_or, Bool.false_or, Bool.not_not, List.isEmpty_nil, List.isEmpty_cons, true_and, and_true]
      refine lcM (ds := rngD 0 2000) (fun d => .tup [.tup [d], .int 1]) (fun _ _ => rfl) (by show 2000 < 1000000; omega) (by show 2000 ≤ 1000000; omega) (fun d acc hd => ?_) ?_
      · simp (disch := first | assumption | rfl | omega | (simp only [List.length_set, List.length_append, List.length_cons, List.length_nil, List.length_map]; omega) | decide +kernel) only [↓miA, miB, miC, ex_nil, ex_app, ex_app2, ex_app3, ex_app4, ex_app5, ex_app6, in62r, inWr, inWl, lim, List.length_set, List.length_cons, List.length_nil, List.getElem?_cons_zero, List.getElem?_cons_succ, List.set_cons_zero, List.set_cons_succ, Int.reduceToNat, eq_self, List.zip_nil_left, List.zip_nil_right, List.zip_cons_cons, decide_true, decide_eq_true, decide_eq_false, Bool.not_true, Bool.not_false, Bool.and_true, Bool.and_false, Bool.true_and, Bool.false_and, Bool.or_true, Bool.or_false, Bool.true_or, Bool.false_or, Bool.not_not, List.isEmpty_nil, List.isEmpty_cons, true_and, and_true]
      · simp (disch := first | assumption | rfl | omega | (simp only [List.length_set, List.length_append, List.length_cons, List.length_nil, List.length_map]; omega) | decide +kernel) only [↓miA, miB, miC, ex_nil, ex_app, ex_app2, ex_app3, ex_app4, ex_app5, ex_app6, in62r, inWr, inWl, lim, List.length_set, List.length_cons, List.length_nil, List.getElem?_cons_zero, List.getElem?_cons_succ, List.set_cons_zero, List.set_cons_succ, Int.reduceToNat, eq_self, List.zip_nil_left, List.zip_nil_right, List.zip_cons_cons, decide_true, decide_eq_true, decide_eq_false, Bool.not_true, Bool.not_false, Bool.and_true, Bool.and_false, Bool.true_and, Bool.false_and, Bool.or_true, Bool.or_false, Bool.true_or, Bool.false_or, Bool.not_not, List.isEmpty_nil, List.isEmpty_cons, true_and, and_true, is_automaton (full_au.pl (b := 0)), full_au.is, same_bl]
  cases e : callN prg 40 17 [.ref 0] [.frz (ns.map D.int)] with
  | ok d S => rw [e] at h; cases h; exact ⟨_, rfl⟩
  | er e S => rw [e] at h; exact h.elim
  | no => rw [e] at h; exact h.elim
end K30

open PySem PySem.W PyProof.Rows
set_option maxHeartbeats 0 in
theorem PySem.Challenge.cw_wordplays_k30_automata_that_read_holds : PySem.Challenge.rw_wordplays_k30_automata_that_read.Holds := by
  w_on; o_law; k_head; (case hw => w_witness2)
  k_fill
  refine L2.walk_of (l := PySem.Challenge.rw_wordplays_k30_automata_that_read) (n := 63) (k := 42) (x := "script") (CX := fun w => L2.CX PySem.Challenge.rw_wordplays_k30_automata_that_read.prog w) (sp := fun w => Mi.spLaw _) rfl (by decide) rfl ⟨rfl, by decide, by decide⟩ (fun w h Y => PySem.W.kIn_of Y) ?F (fun _ _ a ns hl hO hS => ⟨a, ns, rfl, Mi.frz_of hO hS, hl, fun _ => rfl⟩) ?CX
  case F =>
    intro w mg fa h KX G hmg
    exact Mi.finish (p := K30.prg) (i := 17) KX G hmg (by kernel_rfl) (by kernel_rfl) (by kernel_rfl) K30.hX K30.hD rfl rfl rfl K30.law_true
  case CX => exact fun _ _ _ _ _ h => Mi.cx_none h
