import PyProof.Rows.All
import Wide.All
import OpenK.AllK
import Wide.FinOn
import HandS.ForMost
import HandS.Head0
import HandS.Head1
import HandS.Head2
import HandS.Head3
import HandS.HeadEnd
import HandS.HeadHook1
import HandS.HeadHook2
import HandS.Defaults
import HandS.Exc
import HandS.ExcInit
import HandS.Wide
import HandS.TryMany
import HandS.DictComp
import HandS.WordsExc
import HandS.IsInst
import HandS.DeepEq
import HandS.DictEq
import HandS.More
import HandS.ExcField
import HandS.Sort
import HandS.TryOnly
import HandS.SortOrd
import HandS.SortRule
import HandS.Strs
import HandS.CallLocal
import HandS.SlotsOwn
import HandS.FStr
import HandS.OwnEq
import HandS.TupLe
import HandS.Codes
import KE.KEqNest
import KE.KDictZip
import KE.SortData
import HandS.ExcIs
import PySem.Challenge.RW_sherdhall_k92_texts_spoilt_anywhere
set_option Elab.async false
set_option linter.all false
set_option maxRecDepth 100000
set_option maxHeartbeats 4000000
/-! Kit: the head by facts, heaps in steps, the rules that lack. -/
namespace My
open PySem PySem.Spec PyProof.Rows L2
/-! ### facts by a Hook -/
abbrev AlX : Type := Bool × List He.FnW
def obsX (ck : List (PySem.W.Frag → Bool)) (fn : List He.DefD) (K : PySem.W.Frag) : AlX := ((ck.all fun f => f K) && fn.all fun d => d.ok K, fn.map fun d => He.fnW K d.at_)
def valX (fn : List He.DefD) : AlX := (true, fn.map He.DefD.val)
def SaysX (ck : List (PySem.W.Frag → Bool)) (fn : List He.DefD) (K : PySem.W.Frag) : Prop := obsX ck fn K = valX fn
def obsXG (n : Nat) (ck : List (PySem.W.Frag → Bool)) (fn : List He.DefD) (g : Addr → Option Obj) : AlX := obsX ck fn (He.frG g (He.asD g n))
def hookX (n : Nat) (ck : List (PySem.W.Frag → Bool)) (fn : List He.DefD) : PySem.W.Hook where
  α := AlX
  obs := fun s => obsXG n ck fn s.heap.get?
  val := fun _ => valX fn
  says := fun _ h => ∃ K : PySem.W.Frag, K.In h ∧ SaysX ck fn K
  of := fun _ _ e => ⟨_, He.frG_in, e⟩
  keeps := fun _ _ _ ⟨K, hK, c⟩ k => ⟨K, PySem.W.Frag.In.keeps hK k, c⟩
theorem obsXG_eq {n : Nat} {ck : List (PySem.W.Frag → Bool)} {fn : List He.DefD} {g : Addr → Option Obj} {s : Shared} (h : ∀ a, g a = s.heap.get? a) : obsXG n ck fn g = (hookX n ck fn).obs s := by
  have e : g = s.heap.get? := funext h
  rw [e] <;> rfl
section
variable {ck : List (PySem.W.Frag → Bool)} {fn : List He.DefD} {K : PySem.W.Frag}
theorem SaysX.fact (c : SaysX ck fn K) (i : Nat) {f : PySem.W.Frag → Bool} (h : ck[i]? = some f := by rfl) : f K = true := by
  have c1 := (He.ba (show ((ck.all fun f => f K) && fn.all fun d => d.ok K) = true from congrArg (fun z : AlX => z.1) c)).1
  exact List.all_eq_true.mp c1 f (List.mem_of_getElem? h)
theorem SaysX.def_ (c : SaysX ck fn K) (i : Nat) {d : He.DefD} (h : fn[i]? = some d := by rfl) : ∃ fd, FunD K d.name d.qual d.params d.body d.scope (d.dvs K) (d.kws K) (He.fAd K d.at_) fd := by
  have c2 := (He.ba (show ((ck.all fun f => f K) && fn.all fun d => d.ok K) = true from congrArg (fun z : AlX => z.1) c)).2
  have e : fn.map (fun d => He.fnW K d.at_) = fn.map He.DefD.val := congrArg (fun z : AlX => z.2) c
  have e2 : (fn.map fun d => He.fnW K d.at_)[i]? = (fn.map He.DefD.val)[i]? := by rw [e]
  rw [List.getElem?_map, List.getElem?_map, h] at e2
  exact He.DefD.funD (Option.some.inj e2) (List.all_eq_true.mp c2 d (List.mem_of_getElem? h))
end
/-- a def of the module as its callers see it -/
structure Has (P : Program) (w : World) (K : PySem.W.Frag) (mg : Str → Option Value) (base : Heap) (CX : CXT) (k : Nat) (x : Str) (ps : List Str) (sp : Sp) : Prop where
  ex : ∃ (f : Addr) (fd : FuncData), FnOk P w K mg base CX k f fd ps sp ∧ mg x = some (.ref f) ∧ PySem.W.keepIn K (.ref f) = true ∧ Binds K fd ps []
/-! ### own exceptions -/
/-- an own exception class, somewhere under ValueError -/
structure ExcT (K : PySem.W.Frag) (C : Addr) (fs : List Str) : Prop where
  ox : OexC K C
  xf : XfC K C
  no : ∀ f ∈ fs, PySem.W.findIn K (.ref C) f = some none
  ini : PySem.W.findIn K (.ref C) "__init__" = some (some (.ref (He.ma K C "__init__")))
  tI : PySem.W.typeIn K (.ref (He.ma K C "__init__")) = some (.type "function")
def excShape (K : PySem.W.Frag) (C : Addr) : Bool := match K.lookup C with
  | some ⟨.type "type", _, .cls cd, sl⟩ => (match cd.mro, sl.toList with
    | .ref C' :: bm, [_, _, _, _, some (.builtin n), _] => C' == C && (n == "ValueError.__new__" && (!cd.hasDel && (cd.hasDict && PySem.HandSPX.refsVE bm)))
    | _, _ => false)
  | _ => false
theorem excShape_ok {K : PySem.W.Frag} {C : Addr} (q : excShape K C = true) : ∃ nm q N bs bm sn sub ab col dd k0 k1 k2 k3 k5, K.lookup C = some (excClassObj nm q C N bs bm true sn sub ab col dd k0 k1 k2 k3 k5 "ValueError.__new__") ∧ PySem.HandSPX.refsVE bm = true := by
  unfold excShape at q
  split at q
  · rename_i dd cd sl ho
    split at q
    · rename_i C' bm k0 k1 k2 k3 n k5 hm hs
      simp only [Bool.and_eq_true, beq_iff_eq, Bool.not_eq_true'] at q
      obtain ⟨rfl, rfl, hdel, hdict, hb⟩ := q
      obtain ⟨nm, bs, mro, ns, qn, hd, sn, sub, ab, col, del⟩ := cd
      dsimp only at hm hdel hdict
      subst hm hdel hdict
      have hsl : sl = #[k0, k1, k2, k3, some (.builtin "ValueError.__new__"), k5] := by
        obtain ⟨l⟩ := sl
        simp only at hs
        rw [hs]
      subst hsl
      exact ⟨nm, qn, ns, bs, bm, sn, sub, ab, col, dd, k0, k1, k2, k3, k5, ho, hb⟩
    · cases q
  · cases q
def excB (K : PySem.W.Frag) (C : Addr) (fs : List Str) : Bool :=
  excShape K C && (He.eqO (PySem.W.findIn K (.ref C) "__setattr__") (some (some (.builtin "object.__setattr__"))) && (decide (PySem.W.subIn K (.ref C) (.type "BaseException") = some true) &&
    (decide (PySem.W.typeIn K (.ref C) = some (.type "type")) && (PySem.W.keepIn K (.ref C) && (xfB K C && ((fs.all fun f => He.eqO (PySem.W.findIn K (.ref C) f) (some none)) &&
    (He.eqO (PySem.W.findIn K (.ref C) "__init__") (some (some (.ref (He.ma K C "__init__")))) && decide (PySem.W.typeIn K (.ref (He.ma K C "__init__")) = some (.type "function")))))))))
theorem excB_ok {K : PySem.W.Frag} {C : Addr} {fs : List Str} (h : excB K C fs = true) : ExcT K C fs := by
  obtain ⟨h1, h⟩ := He.ba h
  obtain ⟨h2, h⟩ := He.ba h
  obtain ⟨h3, h⟩ := He.ba h
  obtain ⟨h4, h⟩ := He.ba h
  obtain ⟨h5, h⟩ := He.ba h
  obtain ⟨h6, h⟩ := He.ba h
  obtain ⟨h7, h⟩ := He.ba h
  obtain ⟨h8, h9⟩ := He.ba h
  exact ⟨⟨excShape_ok h1, He.eqO_ok h2, of_decide_eq_true h3, of_decide_eq_true h4, h5⟩, xfB_ok h6, fun f hf => He.eqO_ok (List.all_eq_true.mp h7 f hf), He.eqO_ok h8, of_decide_eq_true h9⟩
/-! ### several clauses, each with a name or without one -/
/-- behind a suite the name is gone -/
def endsAs (o : Option Nat) (D : Ends) : Ends := match o with
  | none => D
  | some i => { nx := fun σ' H' => D.nx (σ'.set i none) H', rt := D.rt, bk := fun σ' H' => D.bk (σ'.set i none) H', ct := fun σ' H' => D.ct (σ'.set i none) H' }
def slotAs (o : Option Nat) (a : Addr) (σ : L2.St) : L2.St := match o with
  | none => σ
  | some i => σ.set i (some (.ref a))
abbrev Cl := Value × Option Nat × (Addr → Value → Option Addr → TS)
def wManyA (K : PySem.W.Frag) (Wout : WX) (D : Ends) : List Cl → WX
  | [] => Wout
  | (c, o, ts) :: r => fun cls d σ H => ∃ b, PySem.W.exmOne K cls c = some b ∧ (b = true → ∀ a, H a = none → ts a cls d (endsAs o D) (slotAs o a σ) H) ∧ (b = false → wManyA K Wout D r cls d σ H)
inductive HdsA (X : Cx) : List ExceptHandler → List Cl → Prop
  | nil : HdsA X [] []
  | cons {x : Str} {c : Value} {ts : Addr → Value → Option Addr → TS} {b0 : Stmt} {suite : List Stmt} {np pos' : Pos} {hds : List ExceptHandler} {l : List Cl} (hc : Names X x c)
      (hsu : ∀ (a : Addr) (oe : Obj) (cls : Value) (d : Option Addr) (pn : List (Addr × Obj)), Zc cls d oe → (∃ vs, oe.data = .fields vs) → PSs (X.suite a ((a, oe) :: pn)) (b0 :: suite) (ts a cls d)) (r : HdsA X hds l) :
      HdsA X (.ExceptHandler (some (.Name x np)) none (b0 :: suite) pos' :: hds) ((c, none, ts) :: l)
  | consAs {x n : Str} {i : Nat} {c : Value} {ts : Addr → Value → Option Addr → TS} {b0 : Stmt} {suite : List Stmt} {np pos' : Pos} {hds : List ExceptHandler} {l : List Cl} (hi : X.N[i]? = some n) (hln : X.env.kindOf n = some .local) (hc : Names X x c)
      (hsu : ∀ (a : Addr) (oe : Obj) (cls : Value) (d : Option Addr) (pn : List (Addr × Obj)), Zc cls d oe → (∃ vs, oe.data = .fields vs) → PSs (X.suite a ((a, oe) :: pn)) (b0 :: suite) (ts a cls d)) (r : HdsA X hds l) :
      HdsA X (.ExceptHandler (some (.Name x np)) (some n) (b0 :: suite) pos' :: hds) ((c, some i, ts) :: l)
section
variable {X : Cx} {body : List Stmt} {h0 : ExceptHandler} {hds : List ExceptHandler} {l : List Cl} {pos : Pos} {tb : WX → TS} {Wout : WX}
theorem ps_try_A (hs : X.stack = X.env :: X.outer) (hf : X.env.frame = some X.env.locals) (hN : X.N.Nodup) (tk : Takes X Wout)
    (hb : ∀ (W : WX) (pn : List (Addr × Obj)) (xe : Value → Shared → Prop), Takes (X.tr pn xe) W → PassesOwn (model X.prog X.w) X.A X.env xe → PSs (X.tr pn xe) body (tb W))
    (hh : HdsA X (h0 :: hds) l) : PS X (.Try body (h0 :: hds) [] [] pos) (fun D σ H => tb (wManyA X.K Wout D l) D σ H) := by
  refine ⟨fun pins s σ H D I h => ?_⟩
  have ok := I.ok
  have hfr : X.A.frames = some (X.env :: X.outer) := by rw [ok.frames, hs]
  refine wpAny_Try_except ?_
  refine wpAny_mono ((hb (wManyA X.K Wout D l) (X.pn ++ pins) (fun e s₁ => wpAny (model X.prog X.w) X.A (noteFrame e X.env) (fun _ s₂ => wpAny (model X.prog X.w) X.A (setFlight e none) (fun _ s₃ =>
    wpAny (model X.prog X.w) X.A (handleBy e X.env (h0 :: hds)) (SP X pins D) X.xe s₃) X.xe s₂) X.xe s₁) (fun u s' xx => ?_) PassesOwn.looking).run [] s σ H D (I.toTry _) h) (fun f s1 hsp => ?_) (fun e s1 he => he)
  · obtain ⟨a, B, sI, pins', σ', H', cls, d, rfl, J', nb, up, sky, na, os, ag, w⟩ := xx
    have J : Inv X pins σ' H' sI := J'.ofTry ok
    have sky' : Sky B (X.env :: X.outer) a (Zc cls d) X.env.locals s'.heap := by rw [← hs]; exact sky
    show wpAny (model X.prog X.w) X.A (noteFrame (.ref a) X.env) _ _ _
    refine Sky.land Zc.steady hfr hf sky' fun h3 fl3 up3 => ?_
    have J3 : Inv X pins σ' H' { s' with heap := h3 } := J.landed nb fl3.1 (up.trans up3) os ag
    obtain ⟨oe3, vs3, he3, hz3, hd3⟩ := fl3.there
    have notFr : ∀ {h : Heap} {o : Obj} {vs : Array Value}, h.FunFrames B (X.env :: X.outer) → h.get? a = some o → o.data = .fields vs → a ∉ frs (X.env :: X.outer) := fun {h o vs} ff e dd hm => by
      obtain ⟨_, o', e', hnf⟩ := ff.mem hm
      rw [e] at e'; cases e'
      exact hnf _ dd
    have nfr := notFr fl3.2.2.1 he3 hd3
    have nL : a ≠ X.env.locals := fun z => nfr (List.mem_filterMap.mpr ⟨X.env, List.mem_cons_self, by rw [hf, z]⟩)
    have nF : a ∉ X.fs := fun hm => by
      obtain ⟨e, he, q⟩ := List.mem_filterMap.mp hm
      exact nfr (List.mem_filterMap.mpr ⟨e, List.mem_cons_of_mem _ he, q⟩)
    have S3 := J3.suite he3 hd3 na nL nF
    have LT : PySem.W.Looks (model X.prog X.w) h3 (typeOf (.ref a)) cls := fun A Q E s k q => wpAny_typeOf_ref (k _ _ he3) (by rw [hz3.1]; exact q)
    have test : ∀ {x : Str} {c : Value} {np : Pos} {Q : Value → Shared → Prop} {E : Value → Shared → Prop}, Names X x c → Q c { s' with heap := h3 } → wpAny (model X.prog X.w) (X.A.mark (some (.ref a))) (eval (.Name x np) X.env) Q E { s' with heap := h3 } := fun {x c np Q E} hc q => by
      obtain ⟨hg, hdbg, hm | ⟨hm, hv, hnn⟩⟩ := hc
      · exact ld_glob (X := X.suite a ((a, oe3) :: (X.pn ++ pins))) S3 hg hm q hdbg
      · exact ld_blt (X := X.suite a ((a, oe3) :: (X.pn ++ pins))) S3 hg hm hv q hnn hdbg
    have go : ∀ {hds' : List ExceptHandler} {l' : List Cl}, HdsA X hds' l' → wManyA X.K Wout D l' cls d σ' H' →
        wpAny (model X.prog X.w) X.A (handleBy (.ref a) X.env hds') (SP X pins D) X.xe { s' with heap := h3 } := by
      intro hds' l' hk
      induction hk with
      | nil =>
        intro w
        refine wpAny_handleBy_nil ?_
        obtain ⟨k1, k2, k3, oe, vs, T, oT, ts', he, hz, hd, h1, hr⟩ := id fl3
        unfold PySem.passOn
        refine wpAny_bind (wpAny_field he hd h1 ?_)
        rw [if_neg (show ¬ ((Value.ref T == Value.none) = true) from by simp)]
        have fin : wpAny (model X.prog X.w) X.A (setFlight (.ref a) X.env.frame) (fun _ s4 => wpAny (model X.prog X.w) X.A (throw (.ref a) : Sem Flow) (SP X pins D) X.xe s4) X.xe { s' with heap := h3 } := by
          rw [hf]
          refine HandSPX.setFlight_upZ fl3 fun h4 hh4 up4 => wpAny_throw (tk _ _ ?_)
          exact ⟨a, B, sI, pins, σ', H', cls, d, rfl, J, nb, (up.trans up3).trans up4, .inr (.inr (by rw [hs]; exact hh4)), na, os, ag, w⟩
        first
          | exact wpAny_bind (wpAny_pure (wpAny_bind fin))
          | exact wpAny_bind fin
      | @cons x c ts b0 suite np pos' hds2 l2 hc hsu r ih =>
        intro w
        obtain ⟨b, hb1, hyes, hno⟩ := w
        refine wpAny_handleBy_cons (codeAny_handlers_test ?_) (by intro q; cases q)
        have LM := PySem.W.exm_one (M := model X.prog X.w) (J3.kIn) LT hb1
        refine test hc (LM.here ?_)
        cases b with
        | true =>
          refine codeAny_handlers_suite ?_
          refine HandSPX.lands_againZ fl3 fun h4 fl4 up4 => ?_
          have J4 : Inv X pins σ' H' { s' with heap := h4 } := J.landed nb fl4.1 ((up.trans up3).trans up4) os ag
          obtain ⟨oe4, vs4, he4, hz4, hd4⟩ := fl4.there
          have S4 := J4.suite he4 hd4 na nL nF
          refine wpAny_mono ((hsu a oe4 cls d (X.pn ++ pins) hz4 ⟨_, hd4⟩).run [] _ _ H' _ S4 (hyes rfl a na)) (fun f s6 hsp => ?_) (fun _ _ z => False.elim z)
          cases f with
          | next =>
            obtain ⟨σ6, H6, S6, q6⟩ := hsp
            exact ⟨_, _, S6.unsuite ok, q6⟩
          | brk =>
            obtain ⟨σ6, H6, S6, q6⟩ := hsp
            exact ⟨_, _, S6.unsuite ok, q6⟩
          | cont =>
            obtain ⟨σ6, H6, S6, q6⟩ := hsp
            exact ⟨_, _, S6.unsuite ok, q6⟩
          | ret u =>
            obtain ⟨v6, σ6, H6, S6, r6, q6⟩ := hsp
            exact ⟨_, _, _, S6.unsuite ok, r6, q6⟩
        | false =>
          show wpAny _ X.A (handleBy (.ref a) X.env hds2) _ _ _
          exact ih (hno rfl)
      | @consAs x n i c ts b0 suite np pos' hds2 l2 hi hln hc hsu r ih =>
        intro w
        obtain ⟨b, hb1, hyes, hno⟩ := w
        have hloc : Loc X.env.scope n := .inl hln
        refine wpAny_handleBy_cons (codeAny_handlers_test ?_) (by intro q; cases q)
        have LM := PySem.W.exm_one (M := model X.prog X.w) (J3.kIn) LT hb1
        refine test hc (LM.here ?_)
        cases b with
        | true =>
          refine codeAny_handlers_suite_as ?_
          refine HandSPX.lands_againZ fl3 fun h4 fl4 up4 => ?_
          have J4 : Inv X pins σ' H' { s' with heap := h4 } := J.landed nb fl4.1 ((up.trans up3).trans up4) os ag
          obtain ⟨oe4, vs4, he4, hz4, hd4⟩ := fl4.there
          have S4 := J4.suite he4 hd4 na nL nF
          refine store_ok (X := X.suite a ((a, oe4) :: (X.pn ++ pins))) (v := .ref a) S4 hN hi hloc rfl (fun s5 S5 => ?_) (.inr hln)
          refine wpAny_mono ((hsu a oe4 cls d (X.pn ++ pins) hz4 ⟨_, hd4⟩).run [] s5 _ H' _ S5 (hyes rfl a na)) (fun f s6 hsp => ?_) (fun _ _ z => False.elim z)
          have end_ : ∀ {σ6 : L2.St} {H6 : Hp} {Q : Shared → Prop}, Inv (X.suite a ((a, oe4) :: (X.pn ++ pins))) [] σ6 H6 s6 → (∀ s7, Inv X pins (σ6.set i none) H6 s7 → Q s7) →
              wpAny (model X.prog X.w) X.A (do bindName X.env n .none; unbindBehindTheSuite X.env n pos') (fun _ s7 => Q s7) X.xe s6 := fun {σ6 H6 Q} S6 hq => gone_ok (S6.unsuite ok) hN hi hln hq
          cases f with
          | next =>
            obtain ⟨σ6, H6, S6, q6⟩ := hsp
            exact end_ S6 fun s7 J7 => ⟨_, _, J7, q6⟩
          | brk =>
            obtain ⟨σ6, H6, S6, q6⟩ := hsp
            exact end_ S6 fun s7 J7 => ⟨_, _, J7, q6⟩
          | cont =>
            obtain ⟨σ6, H6, S6, q6⟩ := hsp
            exact end_ S6 fun s7 J7 => ⟨_, _, J7, q6⟩
          | ret u =>
            obtain ⟨v6, σ6, H6, S6, r6, q6⟩ := hsp
            exact end_ S6 fun s7 J7 => ⟨_, _, _, J7, r6, q6⟩
        | false =>
          show wpAny _ X.A (handleBy (.ref a) X.env hds2) _ _ _
          exact ih (hno rfl)
    exact go hh w
  · cases f with
    | next =>
      obtain ⟨σ', H', J', q⟩ := hsp
      exact wpAny_execs_nil ⟨σ', H', J'.ofTry ok, q⟩
    | brk =>
      obtain ⟨σ', H', J', q⟩ := hsp
      exact ⟨σ', H', J'.ofTry ok, q⟩
    | cont =>
      obtain ⟨σ', H', J', q⟩ := hsp
      exact ⟨σ', H', J'.ofTry ok, q⟩
    | ret u =>
      obtain ⟨v, σ', H', J', r, q⟩ := hsp
      exact ⟨v, σ', H', J'.ofTry ok, r, q⟩
end
/-! ### powers of great ints -/
section
variable {X : Cx}
def CPowW (i j : Int) : Prop := 0 ≤ j ∧ (Builtin.Int.intBits i : Int) * j ≤ 2 ^ 27
theorem op_powW : OpR X (binaryOp .Pow) (rI CPowW fun i j => .int (i ^ j.toNat)) := opI fun _ _ _ _ _ _ _ hc q => pow_int hc.1 hc.2 q
end
theorem powW_ok {i j : Int} {a : Nat} (h : i.natAbs < 2 ^ a) (ha : 0 < a) (h0 : 0 ≤ j) (h1 : (a : Int) * j ≤ 2 ^ 27) : CPowW i j := by
  refine ⟨h0, Int.le_trans (Int.mul_le_mul_of_nonneg_right ?_ h0) h1⟩
  have x := PySem.Flt.log2_lt_of ha h
  unfold Builtin.Int.intBits
  split <;> omega
end My
/-! Kit2: heaps in steps; what a value stands for. -/
namespace My
open PySem PySem.Spec PyProof.Rows L2
/-- every tracked object stands -/
def Le (H H' : Hp) : Prop := ∀ b o, H b = some o → H' b = some o
theorem Le.refl (H : Hp) : Le H H := fun _ _ h => h
theorem Le.trans {H H1 H2 : Hp} (a : Le H H1) (b : Le H1 H2) : Le H H2 := fun c o h => b c o (a c o h)
theorem Le.free {H H' : Hp} (e : Le H H') {l : Addr} (h : H' l = none) : H l = none := by
  cases q : H l with
  | none => rfl
  | some o => rw [e l o q] at h; cases h
theorem Le.new {H : Hp} {p : Addr} {o : HO} (h : H p = none) : Le H (upd H p o) := fun a u e => by
  rw [upd_ne (ne_of_none e h)]
  exact e
/-- .. an object that H does not know may change -/
theorem Le.mut {H H' : Hp} {p : Addr} {o : HO} (e : Le H H') (h : H p = none) : Le H (upd H' p o) := fun a u ha => by
  rw [upd_ne (ne_of_none ha h)]
  exact e a u ha
/-- the heap but the objects at m -/
def hide (m : List Addr) (H : Hp) : Hp := fun b => if b ∈ m then none else H b
theorem hide_le {m : List Addr} {H : Hp} : Le (hide m H) H := fun b o h => by
  unfold hide at h
  split at h
  · cases h
  · exact h
theorem hide_in {m : List Addr} {H : Hp} {b : Addr} (h : b ∈ m) : hide m H b = none := if_pos h
theorem hide_out {m : List Addr} {H : Hp} {b : Addr} (h : b ∉ m) : hide m H b = H b := if_neg h
theorem hide_nil {H : Hp} : hide [] H = H := funext fun _ => if_neg (by simp)
theorem hide_cons {m : List Addr} {H : Hp} {a : Addr} : Le (hide (a :: m) H) (hide m H) := fun b o h => by
  unfold hide at h ⊢
  split at h
  · cases h
  · rename_i n
    rw [if_neg fun z => n (List.mem_cons_of_mem _ z)]
    exact h
theorem hide_sub {m m' : List Addr} {H : Hp} (s : ∀ b ∈ m, b ∈ m') : Le (hide m' H) (hide m H) := fun b o h => by
  unfold hide at h ⊢
  split at h
  · cases h
  · rename_i n
    rw [if_neg fun z => n (s b z)]
    exact h
/-- from H to H' only the objects at m may have changed; what is tracked is tracked -/
structure Step (m : List Addr) (H H' : Hp) : Prop where
  keep : ∀ b o, b ∉ m → H b = some o → H' b = some o
  live : ∀ b, H' b = none → H b = none
section
variable {m m' : List Addr} {H H1 H2 : Hp} {a p b : Addr} {o u : HO}
theorem Step.refl (m : List Addr) (H : Hp) : Step m H H := ⟨fun _ _ _ h => h, fun _ h => h⟩
theorem Step.trans (x : Step m H H1) (y : Step m H1 H2) : Step m H H2 := ⟨fun b o n h => y.keep b o n (x.keep b o n h), fun b h => x.live b (y.live b h)⟩
theorem Step.mono (x : Step m H H1) (s : ∀ b ∈ m, b ∈ m') : Step m' H H1 := ⟨fun b o n h => x.keep b o (fun z => n (s b z)) h, x.live⟩
theorem Step.up (x : Step [] H H1) : Step m H H1 := x.mono fun _ z => nomatch z
theorem Step.le (x : Step m H H1) : Le (hide m H) (hide m H1) := fun b o h => by
  unfold hide at h ⊢
  split at h
  · cases h
  · rename_i n
    rw [if_neg n]
    exact x.keep b o n h
theorem Step.le0 (x : Step [] H H1) : Le H H1 := fun b o h => x.keep b o (by simp) h
theorem Step.at (x : Step m H H1) (h : H b = some o) (n : b ∉ m) : H1 b = some o := x.keep b o n h
/-- an object laid anew -/
theorem Step.new (h : H p = none) : Step m H (upd H p o) := ⟨fun b u _ e => Le.new h b u e, fun b e => by
  by_cases hb : b = p
  · rw [hb, upd_same] at e; cases e
  · rwa [upd_ne hb] at e⟩
theorem Step.add (x : Step m H H1) (h : H1 p = none) : Step m H (upd H1 p o) := x.trans (Step.new h)
/-- an object that H does not know may change -/
theorem Step.mut (x : Step m H H1) (h : H p = none) : Step m H (upd H1 p o) := ⟨fun b u n e => by
    rw [upd_ne (ne_of_none e h)]
    exact x.keep b u n e, fun b e => by
  by_cases hb : b = p
  · rw [hb, upd_same] at e; cases e
  · rw [upd_ne hb] at e; exact x.live b e⟩
/-- one of m's objects is changed -/
theorem Step.wr (x : Step m H H1) (h : p ∈ m) : Step m H (upd H1 p o) := ⟨fun b u n e => by
    rw [upd_ne fun z => n (by rw [z]; exact h)]
    exact x.keep b u n e, fun b e => by
  by_cases hb : b = p
  · rw [hb, upd_same] at e; cases e
  · rw [upd_ne hb] at e; exact x.live b e⟩
/-- what was new and changed is new to H all the same -/
theorem Step.drop (x : Step (p :: m) H H1) (h : H p = none) : Step m H H1 := ⟨fun b o n e => x.keep b o (fun z => (List.mem_cons.mp z).elim (ne_of_none e h) n) e, x.live⟩
theorem Step.fresh (x : Step m H H1) (h : H1 b = none) : H b = none := x.live b h
theorem Step.ne (x : Step m H H1) (h : H b = some o) (hp : H1 p = none) : b ≠ p := ne_of_none h (x.live p hp)
end
section
variable {H H1 : Hp} {a b : Addr} {o : HO}
theorem Step.at0 (x : Step [] H H1) (h : H b = some o) : H1 b = some o := x.keep b o (by simp) h
theorem Step.at1 (x : Step [a] H H1) (h : H b = some o) (n : b ≠ a) : H1 b = some o := x.keep b o (by simpa using n) h
theorem Step.at2 {c : Addr} (x : Step [a, c] H H1) (h : H b = some o) (n : b ≠ a) (m : b ≠ c) : H1 b = some o := x.keep b o (by simp [n, m]) h
/-- an object new to H is changed -/
theorem Step.via {H2 : Hp} {m : List Addr} (x : Step m H H1) (y : Step [b] H1 H2) (h : H b = none) : Step m H H2 := ⟨fun c o n e => y.at1 (x.keep c o n e) (ne_of_none e h), fun c e => x.live c (y.live c e)⟩
theorem Step.and1 {H2 : Hp} {m : List Addr} (x : Step m H H1) (y : Step [b] H1 H2) (h : b ∈ m) : Step m H H2 := x.trans (y.mono fun c hc => by rw [List.mem_singleton.mp hc]; exact h)
theorem Step.drop2 {p : Addr} (x : Step [a, p] H H1) (h : H p = none) : Step [a] H H1 := ⟨fun c o n e => x.keep c o (by
    have := ne_of_none e h
    simp only [List.mem_singleton] at n
    simp [n, this]) e, x.live⟩
theorem Step.sub1 (x : Step [b] H H1) (m : List Addr) (h : b ∈ m) : Step m H H1 := x.mono fun c hc => by rw [List.mem_singleton.mp hc]; exact h
end
theorem Step.hid {H H1 : Hp} {b : Addr} {m : List Addr} (x : Step [b] H H1) (h : b ∈ m) : Le (hide m H) (hide m H1) := (x.sub1 m h).le
theorem Step.hid0 {H H1 : Hp} {m : List Addr} (x : Step [] H H1) : Le (hide m H) (hide m H1) := (x.up (m := m)).le
theorem hide_at {m : List Addr} {H : Hp} {b : Addr} {o : HO} (h : H b = some o) (n : b ∉ m) : hide m H b = some o := by rw [hide_out n]; exact h
/-! ### what a value stands for -/
abbrev Rp (α : Type) := Hp → V → α → Prop
def Mono {α : Type} (r : Rp α) : Prop := ∀ H H' v x, Le H H' → r H v x → r H' v x
def rI : Rp Int := fun _ v i => v = .int i
def rS : Rp Str := fun _ v s => v = .str s
def rB : Rp Bool := fun _ v s => v = .bl s
def oV {α : Type} (f : α → V) : Option α → V
  | none => .non
  | some x => f x
def rOS : Rp (Option Str) := fun _ v s => v = oV V.str s
def All2 {α : Type} (r : V → α → Prop) : List V → List α → Prop := Paired r
def rL {α : Type} (r : Rp α) : Rp (List α) := fun H v xs => ∃ a vs, v = .ref a ∧ H a = some (.lst vs) ∧ Paired (r H) vs xs
/-- a tuple by its places -/
def rT (f : Hp → List V → Prop) : Hp → V → Prop := fun H v => ∃ a vs, v = .ref a ∧ H a = some (.tup vs) ∧ f H vs
def rP2 {α β : Type} (r : Rp α) (q : Rp β) : Rp (α × β) := fun H v x => ∃ a u w, v = .ref a ∧ H a = some (.tup [u, w]) ∧ r H u x.1 ∧ q H w x.2
def rP3 {α β γ : Type} (r : Rp α) (q : Rp β) (s : Rp γ) : Rp (α × β × γ) := fun H v x => ∃ a u w z, v = .ref a ∧ H a = some (.tup [u, w, z]) ∧ r H u x.1 ∧ q H w x.2.1 ∧ s H z x.2.2
def rP4 {α β γ δ : Type} (r : Rp α) (q : Rp β) (s : Rp γ) (t : Rp δ) : Rp (α × β × γ × δ) := fun H v x => ∃ a u w z y, v = .ref a ∧ H a = some (.tup [u, w, z, y]) ∧ r H u x.1 ∧ q H w x.2.1 ∧ s H z x.2.2.1 ∧ t H y x.2.2.2
/-- a dict with numbers as keys -/
def rDI {β : Type} (q : Rp β) : Rp (List (Int × β)) := fun H v xs => ∃ a kvs, v = .ref a ∧ H a = some (.dK kvs) ∧ Paired (fun (p : Key × V) (x : Int × β) => p.1 = Sum.inl x.1 ∧ q H p.2 x.2) kvs xs
section
variable {α β γ δ : Type} {r : Rp α} {q : Rp β} {s : Rp γ} {t : Rp δ} {H H' : Hp}
theorem Pmap {α β : Type} {F G : α → β → Prop} {l1 : List α} {l2 : List β} (h : Paired F l1 l2) (f : ∀ a b, F a b → G a b) : Paired G l1 l2 := Paired.mapP h f
theorem mI : Mono rI := fun _ _ _ _ _ h => h
theorem mS : Mono rS := fun _ _ _ _ _ h => h
theorem mB : Mono rB := fun _ _ _ _ _ h => h
theorem mOS : Mono rOS := fun _ _ _ _ _ h => h
theorem mL (m : Mono r) : Mono (rL r) := fun H H' v x e ⟨a, vs, h1, h2, h3⟩ => ⟨a, vs, h1, e _ _ h2, Pmap h3 fun v x z => m H H' v x e z⟩
theorem mP2 (m : Mono r) (n : Mono q) : Mono (rP2 r q) := fun H H' v x e ⟨a, u, w, h1, h2, h3, h4⟩ => ⟨a, u, w, h1, e _ _ h2, m H H' _ _ e h3, n H H' _ _ e h4⟩
theorem mP3 (m : Mono r) (n : Mono q) (k : Mono s) : Mono (rP3 r q s) := fun H H' v x e ⟨a, u, w, z, h1, h2, h3, h4, h5⟩ => ⟨a, u, w, z, h1, e _ _ h2, m H H' _ _ e h3, n H H' _ _ e h4, k H H' _ _ e h5⟩
theorem mP4 (m : Mono r) (n : Mono q) (k : Mono s) (l : Mono t) : Mono (rP4 r q s t) := fun H H' v x e ⟨a, u, w, z, y, h1, h2, h3, h4, h5, h6⟩ => ⟨a, u, w, z, y, h1, e _ _ h2, m H H' _ _ e h3, n H H' _ _ e h4, k H H' _ _ e h5, l H H' _ _ e h6⟩
theorem mDI (n : Mono q) : Mono (rDI q) := fun H H' v x e ⟨a, kvs, h1, h2, h3⟩ => ⟨a, kvs, h1, e _ _ h2, Pmap h3 fun v x ⟨z1, z2⟩ => ⟨z1, n H H' _ _ e z2⟩⟩
/-- pairs by places -/
theorem P_get {F : α → β → Prop} : ∀ {l1 : List α} {l2 : List β} {i : Nat} {x : α}, Paired F l1 l2 → l1[i]? = some x → ∃ y, l2[i]? = some y ∧ F x y
  | _, _, _, _, .nil, e => by simp at e
  | _, _, 0, _, .cons r _, e => by simp at e; subst e; exact ⟨_, rfl, r⟩
  | _, _, i + 1, x, .cons _ t, e => by
    obtain ⟨u, h1, h2⟩ := P_get (i := i) (x := x) t (by simpa using e)
    exact ⟨u, by simpa using h1, h2⟩
theorem P_get2 {F : α → β → Prop} : ∀ {l1 : List α} {l2 : List β} {i : Nat} {y : β}, Paired F l1 l2 → l2[i]? = some y → ∃ x, l1[i]? = some x ∧ F x y
  | _, _, _, _, .nil, e => by simp at e
  | _, _, 0, _, .cons r _, e => by simp at e; subst e; exact ⟨_, rfl, r⟩
  | _, _, i + 1, x, .cons _ t, e => by
    obtain ⟨u, h1, h2⟩ := P_get2 (i := i) (y := x) t (by simpa using e)
    exact ⟨u, by simpa using h1, h2⟩
theorem P_snoc {F : α → β → Prop} {x : α} {y : β} (q : F x y) : ∀ {l1 : List α} {l2 : List β}, Paired F l1 l2 → Paired F (l1 ++ [x]) (l2 ++ [y])
  | _, _, .nil => .cons q .nil
  | _, _, .cons r t => .cons r (P_snoc q t)
theorem P_len {F : α → β → Prop} {l1 : List α} {l2 : List β} (h : Paired F l1 l2) : l1.length = l2.length := Paired.length h
/-- pairs that are a map -/
theorem P_map {f : β → α} : ∀ {l2 : List β}, Paired (fun x y => x = f y) (l2.map f) l2
  | [] => .nil
  | _ :: _ => .cons rfl P_map
theorem P_eq {f : β → α} : ∀ {l1 : List α} {l2 : List β}, Paired (fun x y => x = f y) l1 l2 → l1 = l2.map f
  | _, _, .nil => rfl
  | _, _, .cons e t => by rw [e, P_eq t, List.map_cons]
theorem rL_nil {a : Addr} (h : H a = some (.lst [])) : rL r H (.ref a) [] := ⟨a, [], rfl, h, .nil⟩
theorem rL_len {v : V} {xs : List α} (h : rL r H v xs) : ∃ a vs, v = .ref a ∧ H a = some (.lst vs) ∧ vs.length = xs.length := by
  obtain ⟨a, vs, e, h1, h2⟩ := h
  exact ⟨a, vs, e, h1, P_len h2⟩
theorem rLS_of {a : Addr} {xs : List Str} (h : H a = some (.lst (xs.map V.str))) : rL rS H (.ref a) xs := ⟨a, _, rfl, h, P_map (f := V.str)⟩
theorem rLI_of {a : Addr} {xs : List Int} (h : H a = some (.lst (xs.map V.int))) : rL rI H (.ref a) xs := ⟨a, _, rfl, h, P_map (f := V.int)⟩
theorem rLS_at {v : V} {xs : List Str} (h : rL rS H v xs) : ∃ a, v = .ref a ∧ H a = some (.lst (xs.map V.str)) := by
  obtain ⟨a, vs, rfl, h1, h2⟩ := h
  exact ⟨a, rfl, by rw [h1, P_eq (f := V.str) h2]⟩
theorem rLI_at {v : V} {xs : List Int} (h : rL rI H v xs) : ∃ a, v = .ref a ∧ H a = some (.lst (xs.map V.int)) := by
  obtain ⟨a, vs, rfl, h1, h2⟩ := h
  exact ⟨a, rfl, by rw [h1, P_eq (f := V.int) h2]⟩
end
theorem erase_perm {α : Type} : ∀ {xs : List α} {k : Nat} (h : k < xs.length), (xs[k] :: xs.eraseIdx k).Perm xs
  | [], _, h => absurd h (Nat.not_lt_zero _)
  | _ :: _, 0, _ => List.Perm.refl _
  | x :: xs, k + 1, h => (List.Perm.swap x (xs[k]'(Nat.lt_of_succ_lt_succ h)) (xs.eraseIdx k)).trans ((erase_perm (xs := xs) (Nat.lt_of_succ_lt_succ h)).cons x)
/-- what is a permutation of a map is a map of a permutation -/
theorem perm_map {α β : Type} {f : α → β} : ∀ {ys : List β} {xs : List α}, ys.Perm (xs.map f) → ∃ zs : List α, zs.Perm xs ∧ ys = zs.map f := by
  intro ys xs h
  generalize hw : xs.map f = ws at h
  induction h generalizing xs with
  | nil => exact ⟨[], by rw [List.map_eq_nil_iff.mp hw], rfl⟩
  | @cons x l1 l2 _ ih =>
    cases xs with
    | nil => cases hw
    | cons y r =>
      obtain ⟨e1, e2⟩ := List.cons.inj hw
      obtain ⟨zs, hz, e⟩ := ih e2
      exact ⟨y :: zs, hz.cons y, by rw [List.map_cons, e1, e]⟩
  | swap x y l =>
    cases xs with
    | nil => cases hw
    | cons a r =>
      cases r with
      | nil => cases hw
      | cons b r =>
        obtain ⟨e1, e2⟩ := List.cons.inj hw
        obtain ⟨e2, e3⟩ := List.cons.inj e2
        exact ⟨b :: a :: r, List.Perm.swap a b r, by rw [List.map_cons, List.map_cons, e1, e2, e3]⟩
  | trans _ _ ih1 ih2 =>
    obtain ⟨z1, h1, e1⟩ := ih2 hw
    obtain ⟨z2, h2, e2⟩ := ih1 e1.symm
    exact ⟨z2, h2.trans h1, e2⟩
theorem perm_ints {ys : List V} {ns : List Int} (h : ys.Perm (ns.map V.int)) : ∃ zs : List Int, zs.Perm ns ∧ ys = zs.map V.int := perm_map h
theorem perm_strs {ys : List V} {ns : List Str} (h : ys.Perm (ns.map V.str)) : ∃ zs : List Str, zs.Perm ns ∧ ys = zs.map V.str := perm_map h
theorem sub_len {α : Type} [BEq α] [LawfulBEq α] : ∀ {l1 l2 : List α}, l1.Nodup → (∀ x ∈ l1, x ∈ l2) → l1.length ≤ l2.length
  | [], _, _, _ => Nat.zero_le _
  | x :: r, l2, hn, hs => by
    obtain ⟨h1, h2⟩ := List.nodup_cons.mp hn
    have hx := hs x (List.mem_cons_self ..)
    have ih := sub_len (l1 := r) (l2 := l2.erase x) h2 fun y hy => (List.mem_erase_of_ne (fun e => h1 (by rw [← e]; exact hy))).mpr (hs y (List.mem_cons_of_mem _ hy))
    have l := List.length_erase_of_mem hx
    have : 0 < l2.length := List.length_pos_of_mem hx
    rw [List.length_cons]
    omega
theorem cutV_to {xs : List V} {n : Int} (h : 0 ≤ n) : cutV xs none (some n) = xs.take n.toNat := by
  unfold cutV
  show (xs.drop 0).take ((if n < 0 then (n + (xs.length : Int)).toNat else min n.toNat xs.length) - 0) = _
  rw [if_neg (by omega), List.drop_zero, Nat.sub_zero, List.take_eq_take_iff]
  omega
theorem cutV_from {xs : List V} {n : Int} (h : 0 ≤ n) : cutV xs (some n) none = xs.drop n.toNat := by
  unfold cutV
  show (xs.drop (if n < 0 then (n + (xs.length : Int)).toNat else min n.toNat xs.length)).take (xs.length - (if n < 0 then (n + (xs.length : Int)).toNat else min n.toNat xs.length)) = _
  rw [if_neg (by omega), List.take_of_length_le (by rw [List.length_drop]; omega)]
  by_cases hl : n.toNat ≤ xs.length
  · rw [Nat.min_eq_left hl]
  · rw [Nat.min_eq_right (by omega), List.drop_of_length_le (Nat.le_refl _), List.drop_of_length_le (by omega)]
/-! ### the pot of a law's draws -/
def PotAt (H : Hp) (a : Addr) (c : Nat) : Prop := ∃ p0 p1 p2 : Int, H a = some (.lst [.int p0, .int p1, .int p2]) ∧ 0 ≤ p0 ∧ 0 ≤ p1 ∧ p1 < 2 ^ 128 ∧ 0 ≤ p2 ∧ p2 ≤ (c : Int)
theorem PotAt.mono {H : Hp} {a : Addr} {c c' : Nat} (h : PotAt H a c) (l : c ≤ c') : PotAt H a c' := by
  obtain ⟨p0, p1, p2, h1, h2, h3, h4, h5, h6⟩ := h
  exact ⟨p0, p1, p2, h1, h2, h3, h4, h5, by omega⟩
theorem PotAt.keep {H H' : Hp} {a : Addr} {c : Nat} (h : PotAt H a c) (k : ∀ o, H a = some o → H' a = some o) : PotAt H' a c := by
  obtain ⟨p0, p1, p2, h1, h2⟩ := h
  exact ⟨p0, p1, p2, k _ h1, h2⟩
theorem PotAt.upd {H : Hp} {a p : Addr} {c : Nat} {o : HO} (h : PotAt H a c) (n : a ≠ p) : PotAt (upd H p o) a c := h.keep fun _ e => by rw [upd_ne n]; exact e
theorem PotAt.ne {H : Hp} {a p : Addr} {c : Nat} (h : PotAt H a c) (n : H p = none) : a ≠ p := by
  obtain ⟨p0, p1, p2, h1, h2⟩ := h
  exact ne_of_none h1 n
theorem PotAt.step0 {H H' : Hp} {a : Addr} {c : Nat} (h : PotAt H a c) (x : Step [] H H') : PotAt H' a c := h.keep fun _ e => x.at0 e
theorem PotAt.step1 {H H' : Hp} {a b : Addr} {c : Nat} (h : PotAt H a c) (x : Step [b] H H') (n : a ≠ b) : PotAt H' a c := h.keep fun _ e => x.at1 e n
theorem ltLine {n : Nat} (h : n ≤ 100000) : n < sizeLine := Nat.lt_of_le_of_lt h (by decide)
theorem leLine {n : Nat} (h : n ≤ 100000) : n ≤ sizeLine := Nat.le_of_lt (ltLine h)
/-! names and single signs -/
abbrev cs (z : Str) : List Nat := z.cps.toList
theorem cs_len (z : Str) : (cs z).length = z.length := by simp [cs, Str.length]
theorem cs_inj {a b : Str} (h : cs a = cs b) : a = b := by
  obtain ⟨x⟩ := a
  obtain ⟨y⟩ := b
  have : x.toList = y.toList := h
  rw [Array.toList_inj] at this
  rw [this]
theorem cs_add (a b : Str) : cs (a ++ b) = cs a ++ cs b := by
  show ((a.cps ++ b.cps)).toList = _
  simp
theorem cs_cut (z : Str) (lo hi : Option Int) : cs (cutS z lo hi) = ((cs z).drop (HT.sIx z.length 0 lo)).take (HT.sIx z.length z.length hi - HT.sIx z.length 0 lo) := by
  unfold cutS cs
  simp
theorem cs_join0 : ∀ ys : List Str, cs (Str.join ("" : Str) ys) = (ys.map cs).flatten
  | [] => rfl
  | [x] => by simp [Str.join]
  | x :: y :: r => by
    show cs (x ++ ("" : Str) ++ Str.join ("" : Str) (y :: r)) = _
    have e : cs ("" : Str) = [] := by decide +kernel
    rw [cs_add, cs_add, e, cs_join0 (y :: r)]
    simp
def isLow (c : Nat) : Prop := 97 ≤ c ∧ c ≤ 122
structure IsNm (z : Str) : Prop where
  lo : 1 ≤ z.length
  hi : z.length ≤ 8
  low : ∀ c ∈ cs z, isLow c
theorem letters_low : ∀ c ∈ cs ("abcdefghijklmnopqrstuvwxyz" : Str), isLow c := by
  unfold isLow
  decide +kernel
theorem letters_len : (cs ("abcdefghijklmnopqrstuvwxyz" : Str)).length = 26 := by decide +kernel
theorem letters_line : ("abcdefghijklmnopqrstuvwxyz" : Str).length ≤ sizeLine := by decide +kernel
theorem letter_at {i : Int} (h0 : 0 ≤ i) (h1 : i < 26) : ∃ c, isLow c ∧ atI (cs ("abcdefghijklmnopqrstuvwxyz" : Str)) i = some c := by
  have l : i.toNat < (cs ("abcdefghijklmnopqrstuvwxyz" : Str)).length := by rw [letters_len]; omega
  refine ⟨(cs ("abcdefghijklmnopqrstuvwxyz" : Str))[i.toNat], letters_low _ (List.getElem_mem l), ?_⟩
  have e : i = ((i.toNat : Nat) : Int) := by omega
  conv => lhs; rw [e]
  exact atI_nat (List.getElem?_eq_getElem l)
/-- a list of single signs -/
theorem signs_flat : ∀ {ss : List Str}, (∀ s ∈ ss, ∃ c, s = ⟨#[c]⟩ ∧ isLow c) → (∀ c ∈ (ss.map cs).flatten, isLow c) ∧ ((ss.map cs).flatten).length = ss.length ∧ (ss.map (·.length)).sum = ss.length
  | [], _ => ⟨by simp, rfl, rfl⟩
  | s :: r, h => by
    obtain ⟨c, rfl, hc⟩ := h s (List.mem_cons_self ..)
    obtain ⟨h1, h2, h3⟩ := signs_flat (ss := r) fun s hs => h s (List.mem_cons_of_mem _ hs)
    refine ⟨fun d hd => ?_, ?_, ?_⟩
    · rw [List.map_cons, List.flatten_cons] at hd
      rcases List.mem_append.mp hd with hd | hd
      · have : d = c := by simpa [cs] using hd
        rw [this]; exact hc
      · exact h1 d hd
    · rw [List.map_cons, List.flatten_cons, List.length_append, h2]
      simp [cs]; omega
    · rw [List.map_cons, List.sum_cons, h3]
      simp [Str.length]; omega
theorem nm_of_signs {ss : List Str} (h : ∀ s ∈ ss, ∃ c, s = ⟨#[c]⟩ ∧ isLow c) (h1 : 1 ≤ ss.length) (h2 : ss.length ≤ 8) : IsNm (Str.join ("" : Str) ss) := by
  obtain ⟨e1, e2, e3⟩ := signs_flat h
  have l : (Str.join ("" : Str) ss).length = ss.length := by rw [← cs_len, cs_join0, e2]
  exact ⟨by omega, by omega, by rw [cs_join0]; exact e1⟩
theorem mem_cut {z : Str} {lo hi : Option Int} {c : Nat} (h : c ∈ cs (cutS z lo hi)) : c ∈ cs z := by
  rw [cs_cut] at h
  exact List.mem_of_mem_drop (List.mem_of_mem_take h)
theorem len_add (a b : Str) : (a ++ b).length = a.length + b.length := by rw [← cs_len, ← cs_len, ← cs_len, cs_add, List.length_append]
theorem len_cut_le (z : Str) (lo hi : Option Int) : (cutS z lo hi).length ≤ z.length := by
  rw [← cs_len, ← cs_len, cs_cut, List.length_take, List.length_drop]
  omega
theorem len_cut_to (z : Str) {k : Int} (h : 0 ≤ k) : (cutS z none (some k)).length = min k.toNat z.length := by
  rw [← cs_len, cs_cut, List.length_take, List.length_drop, cs_len]
  show min ((if k < 0 then (k + (z.length : Int)).toNat else min k.toNat z.length) - 0) (z.length - 0) = _
  rw [if_neg (by omega)]
  omega
theorem len_one {c : Nat} : (⟨#[c]⟩ : Str).length = 1 := rfl
/-- a name with one letter put in or exchanged -/
theorem nm_turn {old : Str} {lo hi : Option Int} {k : Int} {c : Nat} (h : IsNm old) (hc : isLow c) (h8 : k = 8) : IsNm (cutS (cutS old none lo ++ (⟨#[c]⟩ : Str) ++ cutS old hi none) none (some k)) := by
  subst h8
  have l : (cutS (cutS old none lo ++ (⟨#[c]⟩ : Str) ++ cutS old hi none) none (some 8)).length = min 8 (cutS old none lo ++ (⟨#[c]⟩ : Str) ++ cutS old hi none).length := len_cut_to _ (by decide)
  have l2 : (cutS old none lo ++ (⟨#[c]⟩ : Str) ++ cutS old hi none).length = (cutS old none lo).length + 1 + (cutS old hi none).length := by rw [len_add, len_add, len_one]
  refine ⟨by omega, by omega, fun d hd => ?_⟩
  have hd := mem_cut hd
  rw [cs_add, cs_add] at hd
  rcases List.mem_append.mp hd with hd | hd
  · rcases List.mem_append.mp hd with hd | hd
    · exact h.low d (mem_cut hd)
    · have : d = c := by simpa [cs] using hd
      rw [this]; exact hc
  · exact h.low d (mem_cut hd)
theorem at4 {x0 x1 x2 x3 j : Int} (h0 : 0 ≤ j) (h1 : j < 4) : ∃ m : Int, (m = x0 ∨ m = x1 ∨ m = x2 ∨ m = x3) ∧ atI [V.int x0, V.int x1, V.int x2, V.int x3] j = some (.int m) := by
  have : j = 0 ∨ j = 1 ∨ j = 2 ∨ j = 3 := by omega
  rcases this with rfl | rfl | rfl | rfl
  · exact ⟨x0, by simp, rfl⟩
  · exact ⟨x1, by simp, rfl⟩
  · exact ⟨x2, by simp, rfl⟩
  · exact ⟨x3, by simp, rfl⟩
end My
/-! Kit3: going through a reading, head by head. -/
namespace My
open PySem PySem.Spec PyProof.Rows L2
section
variable {K : PySem.W.Frag} {σ : L2.St} {H H1 : Hp} {Q : VK} {ta tb te tc : TE} {tA tB' : TT} {t u : TS} {nx bk ct : L2.St → Hp → Prop} {rt : VK} {v x y : V} {i j : Int} {xs ys : List V} {QT : Bool → Hp → Prop} {QA : List V → Hp → Prop} {tr : TA}
theorem g_seq (h : t ⟨u ⟨nx, rt, bk, ct⟩, rt, bk, ct⟩ σ H) : tSeq t u ⟨nx, rt, bk, ct⟩ σ H := h
theorem g_next (h : nx σ H) : tNext ⟨nx, rt, bk, ct⟩ σ H := h
theorem g_break (h : bk σ H) : tBreak ⟨nx, rt, bk, ct⟩ σ H := h
theorem g_cont (h : ct σ H) : tCont ⟨nx, rt, bk, ct⟩ σ H := h
theorem g_ret (h : te σ H rt) : tRet te ⟨nx, rt, bk, ct⟩ σ H := h
theorem g_retN (h : rt .non H) : tRetN ⟨nx, rt, bk, ct⟩ σ H := h
theorem g_drop (h : te σ H (fun _ H1 => nx σ H1)) : tDrop te ⟨nx, rt, bk, ct⟩ σ H := h
theorem g_set {k : Nat} (h : te σ H (fun x H1 => nx (σ.set k (some x)) H1)) : tAsg te (gName k) ⟨nx, rt, bk, ct⟩ σ H := h
theorem g_asg {g : TG} (h : te σ H (fun x H1 => g x σ H1 nx)) : tAsg te g ⟨nx, rt, bk, ct⟩ σ H := h
theorem g_name {k : Nat} {Q : L2.St → Hp → Prop} (h : Q (σ.set k (some x)) H) : gName k x σ H Q := h
theorem g_if (h : tA σ H (fun b H1 => if b = true then t ⟨nx, rt, bk, ct⟩ σ H1 else u ⟨nx, rt, bk, ct⟩ σ H1)) : tIfS tA t u ⟨nx, rt, bk, ct⟩ σ H := h
theorem g_ifE (h : tA σ H (fun b H1 => if b = true then ta σ H1 Q else tb σ H1 Q)) : tIf tA ta tb σ H Q := h
theorem g_op {r : R2} (h : ta σ H (fun x H1 => tb σ H1 (fun y H2 => r x y H2 Q))) : tOp r ta tb σ H Q := h
theorem g_un {r : V → Hp → VK → Prop} (h : ta σ H (fun x H1 => r x H1 Q)) : tUn r ta σ H Q := h
theorem g_var {k : Nat} (h : σ[k]? = some (some v)) (q : Q v H) : tVar k σ H Q := ⟨v, h, q⟩
theorem g_c (q : Q v H) : tC v σ H Q := q
theorem g_nil (q : QA [] H) : tNil σ H QA := q
theorem g_cons (h : ta σ H (fun x H1 => tr σ H1 (fun xs H2 => QA (x :: xs) H2))) : tCons ta tr σ H QA := h
theorem g_CB {r : List V → Hp → VK → Prop} (h : tr σ H (fun vs H1 => r vs H1 Q)) : tCB r tr σ H Q := h
theorem g_call {sp : Sp} {E : XK} (h : tr σ H (fun vs H1 => sp vs H1 Q E)) : tCall sp [] E tr σ H Q := by
  have e : (fun (vs : List V) (H1 : Hp) => sp (vs ++ []) H1 Q E) = fun vs H1 => sp vs H1 Q E := by
    funext vs H1
    rw [List.append_nil]
  show tr σ H (fun vs H1 => sp (vs ++ []) H1 Q E)
  rw [e]
  exact h
/-- a bool comes -/
def kB (Q : Bool → Hp → Prop) : VK := fun x H' => ∃ k, x = .bl k ∧ Q k H'
theorem g_kB {b : Bool} (q : QT b H) : kB QT (.bl b) H := ⟨b, rfl, q⟩
theorem g_test (h : te σ H (kB QT)) : tTest te σ H QT := h
theorem g_B (h : te σ H (kB QT)) : tB te σ H QT := h
theorem g_and (h : tA σ H (fun c H1 => if c = true then tB' σ H1 QT else QT false H1)) : tAnd tA tB' σ H QT := h
theorem g_or (h : tA σ H (fun c H1 => if c = true then QT true H1 else tB' σ H1 QT)) : tOr tA tB' σ H QT := h
theorem g_not (h : tA σ H (fun c H1 => QT (!c) H1)) : tNot tA σ H QT := h
def kAnd (tb : TE) (σ : L2.St) (Q : VK) : VK := fun x H1 => ∃ c, x = .bl c ∧ if c = true then tb σ H1 Q else Q (.bl false) H1
def kOr (tb : TE) (σ : L2.St) (Q : VK) : VK := fun x H1 => ∃ c, x = .bl c ∧ if c = true then Q (.bl true) H1 else tb σ H1 Q
theorem g_andV (h : ta σ H (kAnd tb σ Q)) : tAndV ta tb σ H Q := h
theorem g_orV (h : ta σ H (kOr tb σ Q)) : tOrV ta tb σ H Q := h
theorem g_kAnd {c : Bool} (h : if c = true then tb σ H Q else Q (.bl false) H) : kAnd tb σ Q (.bl c) H := ⟨c, rfl, h⟩
theorem g_kOr {c : Bool} (h : if c = true then Q (.bl true) H else tb σ H Q) : kOr tb σ Q (.bl c) H := ⟨c, rfl, h⟩
def kNot (Q : VK) : VK := fun x H1 => ∃ c, x = .bl c ∧ Q (.bl (!c)) H1
theorem g_notV (h : ta σ H (kNot Q)) : tNotV ta σ H Q := h
theorem g_kNot {c : Bool} (h : Q (.bl (!c)) H) : kNot Q (.bl c) H := ⟨c, rfl, h⟩
theorem g_I0 {g : Int → Int → V} (q : Q (g i j) H) : rI0 g (.int i) (.int j) H Q := ⟨i, j, rfl, rfl, q⟩
theorem g_I {C : Int → Int → Prop} {g : Int → Int → V} (c : C i j) (q : Q (g i j) H) : L2.rI C g (.int i) (.int j) H Q := ⟨i, j, rfl, rfl, c, q⟩
theorem g_U {g : Int → V} (q : Q (g i) H) : rU g (.int i) H Q := ⟨i, rfl, q⟩
theorem g_eq (s : scal x y = true) (q : Q (.bl (decide (x = y))) H) : rEq x y H Q := ⟨s, q⟩
theorem g_ne (s : scal x y = true) (q : Q (.bl (!decide (x = y))) H) : rNe x y H Q := ⟨s, q⟩
theorem g_eqI (q : Q (.bl (decide (i = j))) H) : rEq (.int i) (.int j) H Q := ⟨rfl, by
  have e : decide (V.int i = V.int j) = decide (i = j) := by by_cases h : i = j <;> simp [h]
  rw [e]
  exact q⟩
theorem g_neI (q : Q (.bl (!decide (i = j))) H) : rNe (.int i) (.int j) H Q := ⟨rfl, by
  have e : decide (V.int i = V.int j) = decide (i = j) := by by_cases h : i = j <;> simp [h]
  rw [e]
  exact q⟩
theorem g_eqS {a b : Str} (q : Q (.bl (decide (a = b))) H) : rEq (.str a) (.str b) H Q := ⟨rfl, by
  have e : decide (V.str a = V.str b) = decide (a = b) := by by_cases h : a = b <;> simp [h]
  rw [e]
  exact q⟩
theorem g_neS {a b : Str} (q : Q (.bl (!decide (a = b))) H) : rNe (.str a) (.str b) H Q := ⟨rfl, by
  have e : decide (V.str a = V.str b) = decide (a = b) := by by_cases h : a = b <;> simp [h]
  rw [e]
  exact q⟩
theorem g_ite {p : Prop} [Decidable p] {A B : Prop} (h1 : p → A) (h2 : ¬ p → B) : if decide p = true then A else B := by
  by_cases h : p
  · rw [if_pos (decide_eq_true h)]; exact h1 h
  · rw [if_neg (by simp [h])]; exact h2 h
theorem g_iteN {p : Prop} [Decidable p] {A B : Prop} (h1 : ¬ p → A) (h2 : p → B) : if (!decide p) = true then A else B := by
  by_cases h : p
  · rw [if_neg (by simp [h])]; exact h2 h
  · rw [if_pos (by simp [h])]; exact h1 h
theorem g_iteB {b : Bool} {A B : Prop} (h1 : b = true → A) (h2 : b = false → B) : if b = true then A else B := by
  cases b with
  | true => exact iteT (h1 rfl)
  | false => exact iteF (h2 rfl)
theorem g_iteNB {b : Bool} {A B : Prop} (h1 : b = false → A) (h2 : b = true → B) : if (!b) = true then A else B := by
  cases b with
  | false => exact iteT (h1 rfl)
  | true => exact iteF (h2 rfl)
/-! displays -/
def kLst (Q : VK) : List V → Hp → Prop := fun xs H1 => xs.length ≤ sizeLine ∧ ∀ p, H1 p = none → Q (.ref p) (upd H1 p (.lst xs))
def kTup (Q : VK) : List V → Hp → Prop := fun xs H1 => xs.length ≤ sizeLine ∧ ∀ p, H1 p = none → Q (.ref p) (upd H1 p (.tup xs))
theorem g_lst (h : tr σ H (kLst Q)) : tLst tr σ H Q := h
theorem g_tup (h : tr σ H (kTup Q)) : tTup tr σ H Q := h
theorem g_kLst (hl : xs.length ≤ sizeLine) (q : ∀ p H2, H p = none → Step [] H H2 → H2 p = some (.lst xs) → Q (.ref p) H2) : kLst Q xs H := ⟨hl, fun p hp => q p _ hp (Step.new hp) upd_same⟩
theorem g_kTup (hl : xs.length ≤ sizeLine) (q : ∀ p H2, H p = none → Step [] H H2 → H2 p = some (.tup xs) → Q (.ref p) H2) : kTup Q xs H := ⟨hl, fun p hp => q p _ hp (Step.new hp) upd_same⟩
theorem g_dnewK (q : ∀ p H2, H p = none → Step [] H H2 → H2 p = some (.dK []) → Q (.ref p) H2) : tDNewK σ H Q := fun p hp => q p _ hp (Step.new hp) upd_same
/-! items -/
theorem g_ixL {p : Addr} (h : H p = some (.lst xs)) (e : atI xs i = some v) (q : Q v H) : rIxL K (.ref p) (.int i) H Q := ⟨p, xs, i, v, rfl, rfl, SqL.of h, e, q⟩
theorem g_ixLK {p : Addr} (h : SqL K H p xs) (e : atI xs i = some v) (q : Q v H) : rIxL K (.ref p) (.int i) H Q := ⟨p, xs, i, v, rfl, rfl, h, e, q⟩
theorem g_ixT {p : Addr} (h : H p = some (.tup xs)) (e : atI xs i = some v) (q : Q v H) : rIxT K (.ref p) (.int i) H Q := ⟨p, xs, i, v, rfl, rfl, SqT.of h, e, q⟩
theorem g_ixS {z : Str} {c : Nat} (hl : z.length ≤ sizeLine) (e : atI z.cps.toList i = some c) (q : Q (.str ⟨#[c]⟩) H) : rIxS (.str z) (.int i) H Q := ⟨z, i, c, rfl, rfl, hl, e, q⟩
theorem at_nat {α : Type} {xs : List α} {k : Nat} {v : α} (h : xs[k]? = some v) : atI xs (k : Int) = some v := atI_nat h
theorem at_int {α : Type} {xs : List α} {i : Int} {v : α} (h0 : 0 ≤ i) (h : xs[i.toNat]? = some v) : atI xs i = some v := by
  have e : i = ((i.toNat : Nat) : Int) := by omega
  rw [e]
  exact atI_nat h
theorem at_in {α : Type} {xs : List α} {i : Int} (h0 : 0 ≤ i) (h : i < (xs.length : Int)) : ∃ v, xs[i.toNat]? = some v ∧ atI xs i = some v := by
  have l : i.toNat < xs.length := by omega
  exact ⟨xs[i.toNat], List.getElem?_eq_getElem l, at_int h0 (List.getElem?_eq_getElem l)⟩
theorem ixN_in {n : Nat} {i : Int} (h0 : 0 ≤ i) (h : i < (n : Int)) : ixN n i = some i.toNat := by
  unfold ixN
  rw [if_pos h0, if_pos h]
theorem seqIx_in {n : Nat} {i : Int} (h0 : 0 ≤ i) (h : i < (n : Int)) : seqIndex? i n = some i.toNat := (ixN_seq (ixN_in h0 h)).1
/-- o[i] = v, the list of a name -/
theorem g_gsub {ts : TSet} {Q : L2.St → Hp → Prop} (h : ta σ H (fun o H1 => tb σ H1 (fun k H2 => ts o k v H2 (fun H3 => Q σ H3)))) : gSub ta tb ts v σ H Q := h
theorem g_setL {p : Addr} {k : Nat} {QH : Hp → Prop} (h : H p = some (.lst xs)) (e : ixN xs.length i = some k) (q : ∀ H2, Step [p] H H2 → H2 p = some (.lst (xs.set k v)) → QH H2) : rSetL (.ref p) (.int i) v H QH :=
  ⟨p, xs, i, k, rfl, rfl, h, e, q _ ((Step.refl [p] H).wr (List.mem_singleton.mpr rfl)) upd_same⟩
/-! methods of lists -/
theorem g_bmL {p : Addr} {r : V → List V → Hp → VK → Prop} (h : H p = some (.lst xs)) (q : tr σ H (fun vs H2 => r (.ref p) vs H2 Q)) (hv : ta σ H (fun x H1 => x = .ref p ∧ H1 = H) → True := fun _ => trivial) (e : ∀ Q', Q' (.ref p) H → ta σ H Q') : tBM K "list" r ta tr σ H Q := by
  refine e _ ⟨.inl ⟨rfl, xs, SqL.of h⟩, q⟩
def kBM (K : PySem.W.Frag) (T : String) (r : V → List V → Hp → VK → Prop) (tr : TA) (σ : L2.St) (Q : VK) : VK := fun x H1 => tyV K T x H1 ∧ tr σ H1 (fun vs H2 => r x vs H2 Q)
theorem g_bm {T : String} {r : V → List V → Hp → VK → Prop} (h : ta σ H (kBM K T r tr σ Q)) : tBM K T r ta tr σ H Q := h
theorem g_kBM {p : Addr} {r : V → List V → Hp → VK → Prop} (h : H p = some (.lst xs)) (q : tr σ H (fun vs H2 => r (.ref p) vs H2 Q)) : kBM K "list" r tr σ Q (.ref p) H := ⟨.inl ⟨rfl, xs, SqL.of h⟩, q⟩
theorem g_append {p : Addr} (h : H p = some (.lst xs)) (hz : xs.length < sizeLine) (q : ∀ H2, Step [p] H H2 → H2 p = some (.lst (xs ++ [y])) → Q .non H2) : rAppend (.ref p) [y] H Q :=
  ⟨p, xs, y, rfl, rfl, h, hz, q _ ((Step.refl [p] H).wr (List.mem_singleton.mpr rfl)) upd_same⟩
theorem g_extend {p b : Addr} (h : H p = some (.lst xs)) (h2 : H b = some (.lst ys)) (hz : xs.length + ys.length ≤ sizeLine) (q : ∀ H2, Step [p] H H2 → H2 p = some (.lst (xs ++ ys)) → Q .non H2) : rExtend (.ref p) [.ref b] H Q :=
  ⟨p, b, xs, ys, rfl, rfl, h, h2, hz, q _ ((Step.refl [p] H).wr (List.mem_singleton.mpr rfl)) upd_same⟩
theorem g_popAt {p : Addr} {k : Nat} (h : H p = some (.lst xs)) (h0 : -(2 ^ 63) ≤ i) (h1 : i < 2 ^ 63) (e : seqIndex? i xs.length = some k) (ey : xs[k]? = some y) (q : ∀ H2, Step [p] H H2 → H2 p = some (.lst (xs.eraseIdx k)) → Q y H2) : rPopAt (.ref p) [.int i] H Q :=
  ⟨p, xs, i, k, y, rfl, rfl, h, h0, h1, e, ey, q _ ((Step.refl [p] H).wr (List.mem_singleton.mpr rfl)) upd_same⟩
/-! slices -/
theorem g_sl {r : V → Option Int → Option Int → Hp → VK → Prop} {tl th : TO} (h : ta σ H (fun x H1 => tl σ H1 (fun l H2 => th σ H2 (fun u H3 => r x l u H3 Q)))) : tSl r ta tl th σ H Q := h
def kI (Q : Option Int → Hp → Prop) : VK := fun x H1 => ∃ i, x = .int i ∧ Q (some i) H1
theorem g_part {Q : Option Int → Hp → Prop} (h : ta σ H (kI Q)) : tPart ta σ H Q := h
theorem g_kI {Q : Option Int → Hp → Prop} (h : Q (some i) H) : kI Q (.int i) H := ⟨i, rfl, h⟩
theorem g_noPart {Q : Option Int → Hp → Prop} (h : Q none H) : tNoPart σ H Q := h
theorem g_slL {p : Addr} {lo hi : Option Int} (h : H p = some (.lst xs)) (q : ∀ p' H2, H p' = none → Step [] H H2 → H2 p' = some (.lst (cutV xs lo hi)) → Q (.ref p') H2) : rSlL K (.ref p) lo hi H Q := ⟨p, xs, rfl, SqL.of h, fun p' hp => q p' _ hp (Step.new hp) upd_same⟩
theorem g_slS {z : Str} {lo hi : Option Int} (hl : z.length ≤ sizeLine) (q : Q (.str (cutS z lo hi)) H) : rSlS (.str z) lo hi H Q := ⟨z, rfl, hl, q⟩
theorem g_cat {p b : Addr} (h : H p = some (.lst xs)) (h2 : H b = some (.lst ys)) (hz : xs.length + ys.length ≤ sizeLine) (q : ∀ p' H2, H p' = none → Step [] H H2 → H2 p' = some (.lst (xs ++ ys)) → Q (.ref p') H2) : rCat (.ref p) (.ref b) H Q :=
  ⟨p, b, xs, ys, rfl, rfl, h, h2, hz, fun p' hp => q p' _ hp (Step.new hp) upd_same⟩
theorem g_inL {p : Addr} {neg : Bool} (h : H p = some (.lst xs)) (fx : flatV x = true) (fs : xs.all flatV = true) (q : Q (.bl (if neg then !inV x xs else inV x xs)) H) : rIn K neg x (.ref p) H Q := ⟨p, xs, rfl, .inl (SqL.of h), fx, fs, q⟩
theorem g_inT {p : Addr} {neg : Bool} (h : H p = some (.tup xs)) (fx : flatV x = true) (fs : xs.all flatV = true) (q : Q (.bl (if neg then !inV x xs else inV x xs)) H) : rIn K neg x (.ref p) H Q := ⟨p, xs, rfl, .inr (SqT.of h), fx, fs, q⟩
/-- text in a list of texts -/
theorem inV_str (z : Str) (ss : List Str) : inV (.str z) (ss.map V.str) = decide (z ∈ ss) := by
  induction ss with
  | nil => rfl
  | cons a r ih =>
    have e : inV (.str z) ((a :: r).map V.str) = (eqV (.str a) (.str z) || inV (.str z) (r.map V.str)) := rfl
    have e2 : eqV (.str a) (.str z) = decide (a = z) := by
      show decide (a = z) = _
      rfl
    rw [e, ih, e2]
    by_cases h : z = a
    · subst h; simp
    · have h2 : ¬ a = z := fun q => h q.symm
      simp [h, h2]
theorem flat_strs (ss : List Str) : (ss.map V.str).all flatV = true := by
  rw [List.all_eq_true]
  intro x hx
  obtain ⟨s, _, rfl⟩ := List.mem_map.mp hx
  rfl
theorem g_inS {p : Addr} {z : Str} {ss : List Str} (h : H p = some (.lst (ss.map V.str))) (q : Q (.bl (decide (z ∈ ss))) H) : rIn K false (.str z) (.ref p) H Q := g_inL h rfl (flat_strs ss) (by
  rw [inV_str]
  exact q)
theorem g_notInS {p : Addr} {z : Str} {ss : List Str} (h : H p = some (.lst (ss.map V.str))) (q : Q (.bl (!decide (z ∈ ss))) H) : rIn K true (.str z) (.ref p) H Q := g_inL h rfl (flat_strs ss) (by
  rw [inV_str]
  exact q)
/-! dicts -/
def kDGet (Q : VK) (x : V) : VK := fun y H2 => ∃ a v, x = .ref a ∧ DGet H2 a y (some v) ∧ Q v H2
theorem g_dget (h : ta σ H (fun x H1 => tb σ H1 (kDGet Q x))) : tDGet ta tb σ H Q := h
theorem g_kDGet {p : Addr} {kvs : List (Key × V)} (h : Rd H p (.dK kvs)) (e : valV kvs (Sum.inl i) = some v) (q : Q v H) : kDGet Q (.ref p) (.int i) H := ⟨p, v, rfl, .inl ⟨kvs, Sum.inl i, h, rfl, e.symm⟩, q⟩
theorem g_kDGetS {p : Addr} {kvs : List (Key × V)} {z : Str} (h : Rd H p (.dK kvs)) (e : valV kvs (Sum.inr z) = some v) (q : Q v H) : kDGet Q (.ref p) (.str z) H := ⟨p, v, rfl, .inl ⟨kvs, Sum.inr z, h, rfl, e.symm⟩, q⟩
def kDIn (Q : VK) (y : V) : VK := fun x H2 => ∃ a o, x = .ref a ∧ DGet H2 a y o ∧ Q (.bl o.isSome) H2
def kDNotIn (Q : VK) (y : V) : VK := fun x H2 => ∃ a o, x = .ref a ∧ DGet H2 a y o ∧ Q (.bl (!o.isSome)) H2
theorem g_din (h : ta σ H (fun y H1 => tb σ H1 (kDIn Q y))) : tDIn ta tb σ H Q := h
theorem g_dnotin (h : ta σ H (fun y H1 => tb σ H1 (kDNotIn Q y))) : tDNotIn ta tb σ H Q := h
theorem g_kDIn {p : Addr} {kvs : List (Key × V)} (h : Rd H p (.dK kvs)) (q : Q (.bl (valV kvs (Sum.inl i)).isSome) H) : kDIn Q (.int i) (.ref p) H := ⟨p, _, rfl, .inl ⟨kvs, Sum.inl i, h, rfl, rfl⟩, q⟩
theorem g_kDNotIn {p : Addr} {kvs : List (Key × V)} (h : Rd H p (.dK kvs)) (q : Q (.bl (!(valV kvs (Sum.inl i)).isSome)) H) : kDNotIn Q (.int i) (.ref p) H := ⟨p, _, rfl, .inl ⟨kvs, Sum.inl i, h, rfl, rfl⟩, q⟩
theorem g_kDInS {p : Addr} {kvs : List (Key × V)} {z : Str} (h : Rd H p (.dK kvs)) (q : Q (.bl (valV kvs (Sum.inr z)).isSome) H) : kDIn Q (.str z) (.ref p) H := ⟨p, _, rfl, .inl ⟨kvs, Sum.inr z, h, rfl, rfl⟩, q⟩
theorem g_kDNotInS {p : Addr} {kvs : List (Key × V)} {z : Str} (h : Rd H p (.dK kvs)) (q : Q (.bl (!(valV kvs (Sum.inr z)).isSome)) H) : kDNotIn Q (.str z) (.ref p) H := ⟨p, _, rfl, .inl ⟨kvs, Sum.inr z, h, rfl, rfl⟩, q⟩
/-- d[k] = v -/
def kDPut (nx : L2.St → Hp → Prop) (σ : L2.St) (v x : V) : VK := fun y H3 => ∃ a H4, x = .ref a ∧ DPut H3 a y v H4 ∧ nx σ H4
theorem g_dput (h : tc σ H (fun v H1 => ta σ H1 (fun x H2 => tb σ H2 (kDPut nx σ v x)))) : sDPut ta tb tc ⟨nx, rt, bk, ct⟩ σ H := h
theorem g_kDPut {p : Addr} {kvs : List (Key × V)} (h : H p = some (.dK kvs)) (hl : kvs.length < sizeLine) (q : ∀ H2, Step [p] H H2 → H2 p = some (.dK (putK kvs (Sum.inl i) v)) → nx σ H2) : kDPut nx σ v (.ref p) (.int i) H :=
  ⟨p, _, rfl, DPut.k (k := Sum.inl i) h hl, q _ ((Step.refl [p] H).wr (List.mem_singleton.mpr rfl)) upd_same⟩
theorem g_kDPutS {p : Addr} {kvs : List (Key × V)} {z : Str} (h : H p = some (.dK kvs)) (hl : kvs.length < sizeLine) (q : ∀ H2, Step [p] H H2 → H2 p = some (.dK (putK kvs (Sum.inr z) v)) → nx σ H2) : kDPut nx σ v (.ref p) (.str z) H :=
  ⟨p, _, rfl, DPut.k (k := Sum.inr z) h hl, q _ ((Step.refl [p] H).wr (List.mem_singleton.mpr rfl)) upd_same⟩
/-! texts' methods -/
def kM1 (r : V → List V → Hp → VK → Prop) (te : TE) (σ : L2.St) (Q : VK) : VK := fun x H1 => (∃ a, x = .str a) ∧ te σ H1 (fun y H2 => r x [y] H2 Q)
theorem g_m1 {r : V → List V → Hp → VK → Prop} (h : ta σ H (kM1 r te σ Q)) : tM1 r ta te σ H Q := h
theorem g_kM1 {r : V → List V → Hp → VK → Prop} {z : Str} (h : te σ H (fun y H2 => r (.str z) [y] H2 Q)) : kM1 r te σ Q (.str z) H := ⟨⟨z, rfl⟩, h⟩
end
/-! loops: an invariant by the turn, the slots, the heap -/
theorem Step.back {m : List Addr} {H H1 : Hp} {d : Addr} (x : Step (d :: m) H H1) (e : ∀ o, H d = some o → H1 d = some o) : Step m H H1 := ⟨fun b o n h => by
  by_cases hb : b = d
  · subst hb; exact e o h
  · exact x.keep b o (fun z => (List.mem_cons.mp z).elim hb n) h, x.live⟩
section
variable {K : PySem.W.Frag} {σ : L2.St} {H : Hp} {Q : VK} {tl td : TE} {t : TS} {nx bk ct : L2.St → Hp → Prop} {rt : VK} {tr : TA} {g : TG} {tt : TT} {te tk tv : TE} {ws : List Nat}
/-- the loop itself, whatever is walked -/
def wFor (J : It) (g : TG) (t : TS) (D : Ends) (σ : L2.St) (H : Hp) : Prop := ∃ W : Nat → Nat → L2.St → Hp → Prop, (∃ m, W 0 m σ H) ∧ ∀ i m σ H, W i m σ H →
  (J.stop i H ∧ D.nx σ H) ∨ (J.go i H ∧ ∃ N : L2.St → Hp → Prop, (∀ σ' H', N σ' H' → ∃ m', m' < m ∧ W (i + 1) m' σ' H') ∧ ∀ x H', J.yld i H x H' → g x σ H' fun σ2 H2 => t { D with nx := N, ct := N, bk := D.nx } σ2 H2)
theorem wFor_gen {J : It} (n : Nat) (Pv : Nat → L2.St → Hp → Prop) (h0 : Pv 0 σ H) (hg : ∀ i σ H, i < n → Pv i σ H → J.go i H) (hst : ∀ σ H, Pv n σ H → J.stop n H)
    (hs : ∀ i σ H x H', i < n → Pv i σ H → J.yld i H x H' → g x σ H' fun σ2 H2 => t ⟨Pv (i + 1), rt, nx, Pv (i + 1)⟩ σ2 H2) (hd : ∀ σ H, Pv n σ H → nx σ H) : wFor J g t ⟨nx, rt, bk, ct⟩ σ H := by
  refine ⟨fun i m σ H => m = n - i ∧ i ≤ n ∧ Pv i σ H, ⟨n, by simp, Nat.zero_le _, h0⟩, ?_⟩
  rintro i m σ H ⟨rfl, hi, p⟩
  by_cases hlt : i < n
  · exact .inr ⟨hg i σ H hlt p, Pv (i + 1), fun σ' H' p' => ⟨n - (i + 1), by omega, rfl, hlt, p'⟩, fun x H' y => hs i σ H x H' hlt p y⟩
  · have e : i = n := by omega
    subst e
    exact .inl ⟨hst σ H p, hd σ H p⟩
/-- a comprehension's turn -/
def kEl (D : Addr) (Nx : Hp → Prop) : VK := fun y H4 => ∃ acc, H4 D = some (.lst acc) ∧ acc.length < sizeLine ∧ Nx (upd H4 D (.lst (acc ++ [y])))
theorem g_kEl {D : Addr} {Nx : Hp → Prop} {y : V} {acc : List V} (h : H D = some (.lst acc)) (hz : acc.length < sizeLine) (q : ∀ H5, Step [D] H H5 → H5 D = some (.lst (acc ++ [y])) → Nx H5) : kEl D Nx y H :=
  ⟨acc, h, hz, q _ ((Step.refl [D] H).wr (List.mem_singleton.mpr rfl)) upd_same⟩
def kTst (te : TE) (σ2 : L2.St) (D : Addr) (Nx : Hp → Prop) : Bool → Hp → Prop := fun b H3 => if b = true then te σ2 H3 (kEl D Nx) else Nx H3
theorem g_kTst {D : Addr} {Nx : Hp → Prop} {b : Bool} (h : if b = true then te σ H (kEl D Nx) else Nx H) : kTst te σ D Nx b H := h
theorem g_kTstT {D : Addr} {Nx : Hp → Prop} (h : te σ H (kEl D Nx)) : kTst te σ D Nx true H := iteT h
def kTurn (tt : TT) (te : TE) (ws : List Nat) (σ : L2.St) (D : Addr) (Nx : Hp → Prop) : L2.St → Hp → Prop := fun σ2 H2 => wipe σ2 ws = wipe σ ws ∧ tt σ2 H2 (kTst te σ2 D Nx)
theorem g_kTurn {D : Addr} {Nx : Hp → Prop} {σ2 : L2.St} (e : wipe σ2 ws = wipe σ ws) (h : tt σ2 H (kTst te σ2 D Nx)) : kTurn tt te ws σ D Nx σ2 H := ⟨e, h⟩
theorem g_yes {Q : Bool → Hp → Prop} (h : Q true H) : tYes σ H Q := h
def wLc (J : It) (g : TG) (tt : TT) (te : TE) (ws : List Nat) (σ : L2.St) (Q : VK) (H1 : Hp) : Prop := ∀ D, H1 D = none → ∃ W : Nat → Nat → Hp → Prop, (∃ m, W 0 m (upd H1 D (.lst []))) ∧ ∀ i m H, W i m H →
  (J.stop i H ∧ Q (.ref D) H) ∨ (J.go i H ∧ ∃ Nx : Hp → Prop, (∀ H', Nx H' → ∃ m', m' < m ∧ W (i + 1) m' H') ∧ ∀ x H', J.yld i H x H' → g x (wipe σ ws) H' (kTurn tt te ws σ D Nx))
theorem wLc_gen {J : It} (n : Nat) (q : ∀ D H2, H D = none → Step [] H H2 → H2 D = some (.lst []) → ∃ Pv : Nat → Hp → Prop, Pv 0 H2 ∧ (∀ i H, i < n → Pv i H → J.go i H) ∧ (∀ H, Pv n H → J.stop n H) ∧
    (∀ i H x H', i < n → Pv i H → J.yld i H x H' → g x (wipe σ ws) H' (kTurn tt te ws σ D (Pv (i + 1)))) ∧ (∀ H, Pv n H → Q (.ref D) H)) : wLc J g tt te ws σ Q H := by
  intro D hD
  obtain ⟨Pv, h0, hg, hst, hs, hd⟩ := q D _ hD (Step.new hD) upd_same
  refine ⟨fun i m H => m = n - i ∧ i ≤ n ∧ Pv i H, ⟨n, by simp, Nat.zero_le _, h0⟩, ?_⟩
  rintro i m H ⟨rfl, hi, p⟩
  by_cases hlt : i < n
  · exact .inr ⟨hg i H hlt p, Pv (i + 1), fun H' p' => ⟨n - (i + 1), by omega, rfl, hlt, p'⟩, fun x H' y => hs i H x H' hlt p y⟩
  · have e : i = n := by omega
    subst e
    exact .inl ⟨hst H p, hd H p⟩
/-- a dict comprehension's turn -/
def kElD (D : Addr) (Nx : Hp → Prop) (y : V) : VK := fun z H5 => ∃ kvs k, y = kV k ∧ H5 D = some (.dK kvs) ∧ kvs.length < sizeLine ∧ Nx (upd H5 D (.dK (putK kvs k z)))
theorem g_kElD {D : Addr} {Nx : Hp → Prop} {z : V} {i : Int} {kvs : List (Key × V)} (h : H D = some (.dK kvs)) (hz : kvs.length < sizeLine) (q : ∀ H5, Step [D] H H5 → H5 D = some (.dK (putK kvs (Sum.inl i) z)) → Nx H5) : kElD D Nx (.int i) z H :=
  ⟨kvs, Sum.inl i, rfl, h, hz, q _ ((Step.refl [D] H).wr (List.mem_singleton.mpr rfl)) upd_same⟩
theorem g_kElDS {D : Addr} {Nx : Hp → Prop} {z : V} {i : Str} {kvs : List (Key × V)} (h : H D = some (.dK kvs)) (hz : kvs.length < sizeLine) (q : ∀ H5, Step [D] H H5 → H5 D = some (.dK (putK kvs (Sum.inr i) z)) → Nx H5) : kElD D Nx (.str i) z H :=
  ⟨kvs, Sum.inr i, rfl, h, hz, q _ ((Step.refl [D] H).wr (List.mem_singleton.mpr rfl)) upd_same⟩
def kTstD (tk tv : TE) (σ2 : L2.St) (D : Addr) (Nx : Hp → Prop) : Bool → Hp → Prop := fun b H3 => if b = true then tk σ2 H3 (fun y H4 => tv σ2 H4 (kElD D Nx y)) else Nx H3
theorem g_kTstD {D : Addr} {Nx : Hp → Prop} {b : Bool} (h : if b = true then tk σ H (fun y H4 => tv σ H4 (kElD D Nx y)) else Nx H) : kTstD tk tv σ D Nx b H := h
theorem g_kTstDT {D : Addr} {Nx : Hp → Prop} (h : tk σ H (fun y H4 => tv σ H4 (kElD D Nx y))) : kTstD tk tv σ D Nx true H := iteT h
def kTurnD (tt : TT) (tk tv : TE) (ws : List Nat) (σ : L2.St) (D : Addr) (Nx : Hp → Prop) : L2.St → Hp → Prop := fun σ2 H2 => wipe σ2 ws = wipe σ ws ∧ tt σ2 H2 (kTstD tk tv σ2 D Nx)
theorem g_kTurnD {D : Addr} {Nx : Hp → Prop} {σ2 : L2.St} (e : wipe σ2 ws = wipe σ ws) (h : tt σ2 H (kTstD tk tv σ2 D Nx)) : kTurnD tt tk tv ws σ D Nx σ2 H := ⟨e, h⟩
def wDc (J : It) (g : TG) (tt : TT) (tk tv : TE) (ws : List Nat) (σ : L2.St) (Q : VK) (H1 : Hp) : Prop := ∀ D, H1 D = none → ∃ W : Nat → Nat → Hp → Prop, (∃ m, W 0 m (upd H1 D (.dK []))) ∧ ∀ i m H, W i m H →
  (J.stop i H ∧ Q (.ref D) H) ∨ (J.go i H ∧ ∃ Nx : Hp → Prop, (∀ H', Nx H' → ∃ m', m' < m ∧ W (i + 1) m' H') ∧ ∀ x H', J.yld i H x H' → g x (wipe σ ws) H' (kTurnD tt tk tv ws σ D Nx))
theorem wDc_gen {J : It} (n : Nat) (q : ∀ D H2, H D = none → Step [] H H2 → H2 D = some (.dK []) → ∃ Pv : Nat → Hp → Prop, Pv 0 H2 ∧ (∀ i H, i < n → Pv i H → J.go i H) ∧ (∀ H, Pv n H → J.stop n H) ∧
    (∀ i H x H', i < n → Pv i H → J.yld i H x H' → g x (wipe σ ws) H' (kTurnD tt tk tv ws σ D (Pv (i + 1)))) ∧ (∀ H, Pv n H → Q (.ref D) H)) : wDc J g tt tk tv ws σ Q H := by
  intro D hD
  obtain ⟨Pv, h0, hg, hst, hs, hd⟩ := q D _ hD (Step.new hD) upd_same
  refine ⟨fun i m H => m = n - i ∧ i ≤ n ∧ Pv i H, ⟨n, by simp, Nat.zero_le _, h0⟩, ?_⟩
  rintro i m H ⟨rfl, hi, p⟩
  by_cases hlt : i < n
  · exact .inr ⟨hg i H hlt p, Pv (i + 1), fun H' p' => ⟨n - (i + 1), by omega, rfl, hlt, p'⟩, fun x H' y => hs i H x H' hlt p y⟩
  · have e : i = n := by omega
    subst e
    exact .inl ⟨hst H p, hd H p⟩
/-- the three as one: what is to be done with a walk -/
abbrev WK := It → Hp → Prop
theorem g_for {wi : TI} (h : wi σ H (fun J H1 => wFor J g t ⟨nx, rt, bk, ct⟩ σ H1)) : tFor wi g t ⟨nx, rt, bk, ct⟩ σ H := h
theorem g_lc {wi : TI} (h : wi σ H (fun J H1 => wLc J g tt te ws σ Q H1)) : tLc wi g tt te ws σ H Q := h
theorem g_dc {wi : TI} (h : wi σ H (fun J H1 => wDc J g tt tk tv ws σ Q H1)) : tDc wi g tt tk tv ws σ H Q := h
/-! the walks -/
def kRng1 (R : WK) : List V → Hp → Prop := fun vs H1 => ∃ j : Int, vs = [.int j] ∧ -(2 ^ 62) ≤ j ∧ j < 2 ^ 62 ∧ R (Itr 0 j.toNat) H1
def kRng2 (R : WK) : List V → Hp → Prop := fun vs H1 => ∃ i j : Int, vs = [.int i, .int j] ∧ (-(2 ^ 62) ≤ i ∧ i < 2 ^ 62 ∧ -(2 ^ 62) ≤ j ∧ j < 2 ^ 62) ∧ R (Itr i (j - i).toNat) H1
theorem g_rng1 {R : WK} (h : tr σ H (kRng1 R)) : iRng1 tr σ H R := h
theorem g_rng2 {R : WK} (h : tr σ H (kRng2 R)) : iRng2 tr σ H R := h
theorem g_kRng1 {R : WK} {n : Int} (h1 : -(2 ^ 62) ≤ n) (h2 : n < 2 ^ 62) (q : R (Itr 0 n.toNat) H) : kRng1 R [.int n] H := ⟨n, rfl, h1, h2, q⟩
theorem g_kRng2 {R : WK} {i j : Int} (h1 : -(2 ^ 62) ≤ i) (h2 : i < 2 ^ 62) (h3 : -(2 ^ 62) ≤ j) (h4 : j < 2 ^ 62) (q : R (Itr i (j - i).toNat) H) : kRng2 R [.int i, .int j] H := ⟨i, j, rfl, ⟨h1, h2, h3, h4⟩, q⟩
theorem wFor_rng {k : Nat} {lo : Int} {n : Nat} (Pv : Nat → L2.St → Hp → Prop) (h0 : Pv 0 σ H) (hs : ∀ i σ H, i < n → Pv i σ H → t ⟨Pv (i + 1), rt, nx, Pv (i + 1)⟩ (σ.set k (some (.int (lo + (i : Int))))) H) (hd : ∀ σ H, Pv n σ H → nx σ H) : wFor (Itr lo n) (gName k) t ⟨nx, rt, bk, ct⟩ σ H :=
  wFor_gen n Pv h0 (fun i _ _ hi _ => hi) (fun _ _ _ => Nat.le_refl _) (fun i σ H x H' hi p y => by
    obtain ⟨e1, e2⟩ := y
    subst e1 e2
    exact hs i σ _ hi p) hd
theorem wLc_rng {k : Nat} {lo : Int} {n : Nat} (q : ∀ D H2, H D = none → Step [] H H2 → H2 D = some (.lst []) → ∃ Pv : Nat → Hp → Prop, Pv 0 H2 ∧ (∀ i H, i < n → Pv i H → kTurn tt te ws σ D (Pv (i + 1)) ((wipe σ ws).set k (some (.int (lo + (i : Int))))) H) ∧ (∀ H, Pv n H → Q (.ref D) H)) : wLc (Itr lo n) (gName k) tt te ws σ Q H :=
  wLc_gen n fun D H2 h1 h2 h3 => by
    obtain ⟨Pv, p0, hs, hd⟩ := q D H2 h1 h2 h3
    refine ⟨Pv, p0, fun i _ hi _ => hi, fun _ _ => Nat.le_refl _, fun i H x H' hi p y => ?_, hd⟩
    obtain ⟨e1, e2⟩ := y
    subst e1 e2
    exact hs i _ hi p
def kList (K : PySem.W.Frag) (R : WK) : VK := fun x H1 => ∃ a, x = .ref a ∧ (∃ xs, SqL K H1 a xs) ∧ R (Itl K a) H1
theorem g_list {R : WK} (h : tl σ H (kList K R)) : iList K tl σ H R := h
theorem g_kList {R : WK} {a : Addr} {xs : List V} (h : H a = some (.lst xs)) (q : R (Itl K a) H) : kList K R (.ref a) H := ⟨a, rfl, ⟨xs, SqL.of h⟩, q⟩
/-- a list that the turns leave as it is -/
theorem wFor_list {a : Addr} {xs : List V} (Pv : Nat → L2.St → Hp → Prop) (h0 : Pv 0 σ H) (hl : ∀ i σ H, i ≤ xs.length → Pv i σ H → H a = some (.lst xs))
    (hs : ∀ i x σ H, xs[i]? = some x → Pv i σ H → g x σ H (fun σ2 H2 => t ⟨Pv (i + 1), rt, nx, Pv (i + 1)⟩ σ2 H2)) (hd : ∀ σ H, Pv xs.length σ H → nx σ H) : wFor (Itl K a) g t ⟨nx, rt, bk, ct⟩ σ H :=
  wFor_gen xs.length Pv h0 (fun i σ H hi p => ⟨xs, xs[i], SqL.of (hl i σ H (Nat.le_of_lt hi) p), List.getElem?_eq_getElem hi⟩) (fun σ H p => ⟨xs, SqL.of (hl _ σ H (Nat.le_refl _) p), Nat.le_refl _⟩) (fun i σ H x H' hi p y => by
    obtain ⟨e, y⟩ := y
    subst e
    exact hs i x σ _ (y xs (SqL.of (hl i σ _ (Nat.le_of_lt hi) p))) p) hd
theorem wLc_list {a : Addr} {xs : List V} (q : ∀ D H2, H D = none → Step [] H H2 → H2 D = some (.lst []) → ∃ Pv : Nat → Hp → Prop, Pv 0 H2 ∧ (∀ i H, i ≤ xs.length → Pv i H → H a = some (.lst xs)) ∧ (∀ i x H, xs[i]? = some x → Pv i H → g x (wipe σ ws) H (kTurn tt te ws σ D (Pv (i + 1)))) ∧ (∀ H, Pv xs.length H → Q (.ref D) H)) : wLc (Itl K a) g tt te ws σ Q H :=
  wLc_gen xs.length fun D H2 h1 h2 h3 => by
    obtain ⟨Pv, p0, hl, hs, hd⟩ := q D H2 h1 h2 h3
    refine ⟨Pv, p0, fun i H hi p => ⟨xs, xs[i], SqL.of (hl i H (Nat.le_of_lt hi) p), List.getElem?_eq_getElem hi⟩, fun H p => ⟨xs, SqL.of (hl _ H (Nat.le_refl _) p), Nat.le_refl _⟩, fun i H x H' hi p y => ?_, hd⟩
    obtain ⟨e, y⟩ := y
    subst e
    exact hs i x _ (y xs (SqL.of (hl i _ (Nat.le_of_lt hi) p))) p
/-- a text, sign by sign -/
def kStr (R : WK) : VK := fun v H1 => ∃ x, v = .str x ∧ R (Its x) H1
theorem g_str {R : WK} (h : tl σ H (kStr R)) : iStr tl σ H R := h
theorem g_kStr {R : WK} {z : Str} (q : R (Its z) H) : kStr R (.str z) H := ⟨z, rfl, q⟩
theorem wFor_str {z : Str} {k : Nat} (Pv : Nat → L2.St → Hp → Prop) (h0 : Pv 0 σ H) (hs : ∀ i c σ H, z.cps[i]? = some c → Pv i σ H → t ⟨Pv (i + 1), rt, nx, Pv (i + 1)⟩ (σ.set k (some (.str ⟨#[c]⟩))) H) (hd : ∀ σ H, Pv z.cps.size σ H → nx σ H) : wFor (Its z) (gName k) t ⟨nx, rt, bk, ct⟩ σ H :=
  wFor_gen z.cps.size Pv h0 (fun i _ _ hi _ => hi) (fun _ _ _ => Nat.le_refl _) (fun i σ H x H' hi p y => by
    obtain ⟨e1, c, e2, e3⟩ := y
    subst e1 e3
    exact hs i c σ _ e2 p) hd
theorem wLc_str {z : Str} {k : Nat} (q : ∀ D H2, H D = none → Step [] H H2 → H2 D = some (.lst []) → ∃ Pv : Nat → Hp → Prop, Pv 0 H2 ∧ (∀ i c H, z.cps[i]? = some c → Pv i H → kTurn tt te ws σ D (Pv (i + 1)) ((wipe σ ws).set k (some (.str ⟨#[c]⟩))) H) ∧ (∀ H, Pv z.cps.size H → Q (.ref D) H)) : wLc (Its z) (gName k) tt te ws σ Q H :=
  wLc_gen z.cps.size fun D H2 h1 h2 h3 => by
    obtain ⟨Pv, p0, hs, hd⟩ := q D H2 h1 h2 h3
    refine ⟨Pv, p0, fun i _ hi _ => hi, fun _ _ => Nat.le_refl _, fun i H x H' hi p y => ?_, hd⟩
    obtain ⟨e1, c, e2, e3⟩ := y
    subst e1 e3
    exact hs i c _ e2 p
/-! a dict under a lock -/
def lk (d : Addr) (od : Obj) (kvs : List (Key × V)) (f : L2.St → Hp → Prop) : L2.St → Hp → Prop := fun σ' H' => H' d = some (.frz od (.dK kvs)) ∧ f σ' (upd H' d (.dK kvs))
def lkV (d : Addr) (od : Obj) (kvs : List (Key × V)) (f : VK) : VK := fun v H' => H' d = some (.frz od (.dK kvs)) ∧ f v (upd H' d (.dK kvs))
theorem g_lock {d : Addr} {kvs : List (Key × V)} (h : H d = some (.dK kvs)) (q : ∀ od H2, Step [d] H H2 → H2 d = some (.frz od (.dK kvs)) → t ⟨lk d od kvs nx, lkV d od kvs rt, lk d od kvs bk, lk d od kvs ct⟩ σ H2) : tLock t ⟨nx, rt, bk, ct⟩ σ H :=
  ⟨d, .dK kvs, h, trivial, fun od => q od _ ((Step.refl [d] H).wr (List.mem_singleton.mpr rfl)) upd_same⟩
theorem g_lockE {d : Addr} {kvs : List (Key × V)} (h : H d = some (.dK kvs)) (q : ∀ od H2, Step [d] H H2 → H2 d = some (.frz od (.dK kvs)) → te σ H2 (lkV d od kvs Q)) : tLockE te σ H Q :=
  ⟨d, .dK kvs, h, trivial, fun od => q od _ ((Step.refl [d] H).wr (List.mem_singleton.mpr rfl)) upd_same⟩
theorem g_lk {d : Addr} {od : Obj} {kvs : List (Key × V)} {f : L2.St → Hp → Prop} (h : H d = some (.frz od (.dK kvs))) (q : ∀ H2, Step [d] H H2 → H2 d = some (.dK kvs) → f σ H2) : lk d od kvs f σ H := ⟨h, q _ ((Step.refl [d] H).wr (List.mem_singleton.mpr rfl)) upd_same⟩
theorem g_lkV {d : Addr} {od : Obj} {kvs : List (Key × V)} {f : VK} {v : V} (h : H d = some (.frz od (.dK kvs))) (q : ∀ H2, Step [d] H H2 → H2 d = some (.dK kvs) → f v H2) : lkV d od kvs f v H := ⟨h, q _ ((Step.refl [d] H).wr (List.mem_singleton.mpr rfl)) upd_same⟩
def kKeys (R : WK) : VK := fun x H1 => ∃ d o, x = .ref d ∧ ((∃ kvs, H1 d = some (.frz o (.dK kvs)) ∧ R (Itk d o kvs) H1) ∨ ∃ kvs, H1 d = some (.frz o (.dT kvs)) ∧ R (Itkt d o kvs) H1)
def kVals (R : WK) : VK := fun x H1 => ∃ d o kvs, x = .ref d ∧ H1 d = some (.frz o (.dK kvs)) ∧ R (Itd d o kvs) H1
def kItems (R : WK) : VK := fun x H1 => ∃ d o kvs, x = .ref d ∧ H1 d = some (.frz o (.dK kvs)) ∧ R (Iti d o kvs) H1
theorem g_keys {R : WK} (h : td σ H (kKeys R)) : iKeys td σ H R := h
theorem g_vals {R : WK} (h : td σ H (kVals R)) : iVals td σ H R := h
theorem g_items {R : WK} (h : td σ H (kItems R)) : iItems td σ H R := h
theorem g_kKeys {R : WK} {d : Addr} {o : Obj} {kvs : List (Key × V)} (h : H d = some (.frz o (.dK kvs))) (q : R (Itk d o kvs) H) : kKeys R (.ref d) H := ⟨d, o, rfl, .inl ⟨kvs, h, q⟩⟩
theorem g_kVals {R : WK} {d : Addr} {o : Obj} {kvs : List (Key × V)} (h : H d = some (.frz o (.dK kvs))) (q : R (Itd d o kvs) H) : kVals R (.ref d) H := ⟨d, o, kvs, rfl, h, q⟩
theorem g_kItems {R : WK} {d : Addr} {o : Obj} {kvs : List (Key × V)} (h : H d = some (.frz o (.dK kvs))) (q : R (Iti d o kvs) H) : kItems R (.ref d) H := ⟨d, o, kvs, rfl, h, q⟩
theorem wFor_keys {d : Addr} {o : Obj} {kvs : List (Key × V)} {k : Nat} (Pv : Nat → L2.St → Hp → Prop) (h0 : Pv 0 σ H) (hl : ∀ i σ H, i ≤ kvs.length → Pv i σ H → H d = some (.frz o (.dK kvs)))
    (hs : ∀ i p σ H, kvs[i]? = some p → Pv i σ H → t ⟨Pv (i + 1), rt, nx, Pv (i + 1)⟩ (σ.set k (some (kV p.1))) H) (hd : ∀ σ H, Pv kvs.length σ H → nx σ H) : wFor (Itk d o kvs) (gName k) t ⟨nx, rt, bk, ct⟩ σ H :=
  wFor_gen kvs.length Pv h0 (fun i σ H hi p => ⟨hl i σ H (Nat.le_of_lt hi) p, hi⟩) (fun σ H p => ⟨hl _ σ H (Nat.le_refl _) p, Nat.le_refl _⟩) (fun i σ H x H' hi p y => by
    obtain ⟨e1, k, v, e2, e3⟩ := y
    subst e1 e3
    exact hs i (k, v) σ _ e2 p) hd
theorem wFor_vals {d : Addr} {o : Obj} {kvs : List (Key × V)} {k : Nat} (Pv : Nat → L2.St → Hp → Prop) (h0 : Pv 0 σ H) (hl : ∀ i σ H, i ≤ kvs.length → Pv i σ H → H d = some (.frz o (.dK kvs)))
    (hs : ∀ i p σ H, kvs[i]? = some p → Pv i σ H → t ⟨Pv (i + 1), rt, nx, Pv (i + 1)⟩ (σ.set k (some p.2)) H) (hd : ∀ σ H, Pv kvs.length σ H → nx σ H) : wFor (Itd d o kvs) (gName k) t ⟨nx, rt, bk, ct⟩ σ H :=
  wFor_gen kvs.length Pv h0 (fun i σ H hi p => ⟨hl i σ H (Nat.le_of_lt hi) p, hi⟩) (fun σ H p => ⟨hl _ σ H (Nat.le_refl _) p, Nat.le_refl _⟩) (fun i σ H x H' hi p y => by
    obtain ⟨e1, k, e2⟩ := y
    subst e1
    exact hs i (k, x) σ _ e2 p) hd
/-- items: each pair a new tuple, taken apart -/
theorem wFor_items {d : Addr} {o : Obj} {kvs : List (Key × V)} {k l : Nat} (Pv : Nat → L2.St → Hp → Prop) (h0 : Pv 0 σ H) (hl : ∀ i σ H, i ≤ kvs.length → Pv i σ H → H d = some (.frz o (.dK kvs)))
    (hs : ∀ i p σ H H2 T, kvs[i]? = some p → Pv i σ H → H T = none → Step [] H H2 → H2 T = some (.tup [kV p.1, p.2]) → t ⟨Pv (i + 1), rt, nx, Pv (i + 1)⟩ ((σ.set k (some (kV p.1))).set l (some p.2)) H2) (hd : ∀ σ H, Pv kvs.length σ H → nx σ H) :
    wFor (Iti d o kvs) (gTup K 2 (gCons (gName k) (gCons (gName l) gNil))) t ⟨nx, rt, bk, ct⟩ σ H :=
  wFor_gen kvs.length Pv h0 (fun i σ H hi p => ⟨hl i σ H (Nat.le_of_lt hi) p, hi⟩) (fun σ H p => ⟨hl _ σ H (Nat.le_refl _) p, Nat.le_refl _⟩) (fun i σ H x H' hi p y => by
    obtain ⟨T, k, v, e2, e3, hT, e4⟩ := y
    subst e3 e4
    exact ⟨T, _, rfl, SqT.of upd_same, rfl, _, _, rfl, _, _, rfl, rfl, hs i (k, v) σ H _ T e2 p hT (Step.new hT) upd_same⟩) hd
theorem wDc_items {d : Addr} {o : Obj} {kvs : List (Key × V)} {k l : Nat} (q : ∀ D H2, H D = none → Step [] H H2 → H2 D = some (.dK []) → ∃ Pv : Nat → Hp → Prop, Pv 0 H2 ∧ (∀ i H, i ≤ kvs.length → Pv i H → H d = some (.frz o (.dK kvs))) ∧
    (∀ i p H H2 T, kvs[i]? = some p → Pv i H → H T = none → Step [] H H2 → H2 T = some (.tup [kV p.1, p.2]) → kTurnD tt tk tv ws σ D (Pv (i + 1)) (((wipe σ ws).set k (some (kV p.1))).set l (some p.2)) H2) ∧ (∀ H, Pv kvs.length H → Q (.ref D) H)) :
    wDc (Iti d o kvs) (gTup K 2 (gCons (gName k) (gCons (gName l) gNil))) tt tk tv ws σ Q H :=
  wDc_gen kvs.length fun D H2 h1 h2 h3 => by
    obtain ⟨Pv, p0, hl, hs, hd⟩ := q D H2 h1 h2 h3
    refine ⟨Pv, p0, fun i H hi p => ⟨hl i H (Nat.le_of_lt hi) p, hi⟩, fun H p => ⟨hl _ H (Nat.le_refl _) p, Nat.le_refl _⟩, fun i H x H' hi p y => ?_, hd⟩
    obtain ⟨T, k, v, e2, e3, hT, e4⟩ := y
    subst e3 e4
    exact ⟨T, _, rfl, SqT.of upd_same, rfl, _, _, rfl, _, _, rfl, rfl, hs i (k, v) H _ T e2 p hT (Step.new hT) upd_same⟩
theorem wDc_rng {k : Nat} {lo : Int} {n : Nat} (q : ∀ D H2, H D = none → Step [] H H2 → H2 D = some (.dK []) → ∃ Pv : Nat → Hp → Prop, Pv 0 H2 ∧ (∀ i H, i < n → Pv i H → kTurnD tt tk tv ws σ D (Pv (i + 1)) ((wipe σ ws).set k (some (.int (lo + (i : Int))))) H) ∧ (∀ H, Pv n H → Q (.ref D) H)) : wDc (Itr lo n) (gName k) tt tk tv ws σ Q H :=
  wDc_gen n fun D H2 h1 h2 h3 => by
    obtain ⟨Pv, p0, hs, hd⟩ := q D H2 h1 h2 h3
    refine ⟨Pv, p0, fun i _ hi _ => hi, fun _ _ => Nat.le_refl _, fun i H x H' hi p y => ?_, hd⟩
    obtain ⟨e1, e2⟩ := y
    subst e1 e2
    exact hs i _ hi p
end
/-! a tuple taken apart -/
section
variable {K : PySem.W.Frag} {σ : L2.St} {H : Hp} {Q : L2.St → Hp → Prop}
theorem g_tup2 {a : Addr} {x y : V} {k l : Nat} (h : H a = some (.tup [x, y])) (q : Q ((σ.set k (some x)).set l (some y)) H) : gTup K 2 (gCons (gName k) (gCons (gName l) gNil)) (.ref a) σ H Q := ⟨a, _, rfl, SqT.of h, rfl, _, _, rfl, _, _, rfl, rfl, q⟩
theorem g_tup3 {a : Addr} {x y z : V} {k l m : Nat} (h : H a = some (.tup [x, y, z])) (q : Q (((σ.set k (some x)).set l (some y)).set m (some z)) H) : gTup K 3 (gCons (gName k) (gCons (gName l) (gCons (gName m) gNil))) (.ref a) σ H Q := ⟨a, _, rfl, SqT.of h, rfl, _, _, rfl, _, _, rfl, _, _, rfl, rfl, q⟩
theorem g_tup4 {a : Addr} {x y z w : V} {k l m n : Nat} (h : H a = some (.tup [x, y, z, w])) (q : Q ((((σ.set k (some x)).set l (some y)).set m (some z)).set n (some w)) H) : gTup K 4 (gCons (gName k) (gCons (gName l) (gCons (gName m) (gCons (gName n) gNil)))) (.ref a) σ H Q := ⟨a, _, rfl, SqT.of h, rfl, _, _, rfl, _, _, rfl, _, _, rfl, _, _, rfl, rfl, q⟩
end
end My
/-! Kit4: named readings for operators and built-in calls. -/
namespace My
open PySem PySem.Spec PyProof.Rows L2
section
variable {X : Cx} {K : PySem.W.Frag} {H : Hp} {Q : VK} {i j : Int} {xs ys : List V} {p : Addr}
def rModP : R2 := fun x y H Q => ∃ i j, x = .int i ∧ y = .int j ∧ 0 < j ∧ Q (.int (i % j)) H
theorem op_modP : OpR X (binaryOp .Mod) rModP := by
  intro pins s σ H x y v u Q I rx ry h
  obtain ⟨i, j, e1, e2, hj, q⟩ := h
  exact op_modN pins s σ H x y v u Q I rx ry ⟨i, j, e1, e2, by omega, by show Q (.int (i.fmod j)) H; rw [Int.fmod_eq_emod_of_nonneg i (by omega)]; exact q⟩
theorem g_modP (h : 0 < j) (q : Q (.int (i % j)) H) : rModP (.int i) (.int j) H Q := ⟨i, j, rfl, rfl, h, q⟩
def rDivP : R2 := fun x y H Q => ∃ i j, x = .int i ∧ y = .int j ∧ CDivW i j ∧ Q (.int (i / j)) H
theorem op_divP : OpR X (binaryOp .FloorDiv) rDivP := op_fdivW
theorem g_divP (h : 0 < j) (h2 : j < 2 ^ 250) (q : Q (.int (i / j)) H) : rDivP (.int i) (.int j) H Q := ⟨i, j, rfl, rfl, wide_div (b := 250) h (by omega) (by decide) (by decide), q⟩
def rMulP : R2 := fun x y H Q => ∃ i j, x = .int i ∧ y = .int j ∧ CMulW i j ∧ Q (.int (i * j)) H
theorem op_mulP : OpR X (binaryOp .Mult) rMulP := op_mulW
theorem g_mulP (h1 : -(2 ^ 250) < i) (h2 : i < 2 ^ 250) (h3 : -(2 ^ 250) < j) (h4 : j < 2 ^ 250) (q : Q (.int (i * j)) H) : rMulP (.int i) (.int j) H Q :=
  ⟨i, j, rfl, rfl, wide_mul (a := 250) (b := 250) (by omega) (by omega) (by decide) (by decide) (by decide), q⟩
def rPowP : R2 := fun x y H Q => ∃ i j, x = .int i ∧ y = .int j ∧ CPowW i j ∧ Q (.int (i ^ j.toNat)) H
theorem op_powP : OpR X (binaryOp .Pow) rPowP := op_powW
theorem g_powP (h1 : -(2 ^ 250) < i) (h2 : i < 2 ^ 250) (h3 : 0 ≤ j) (h4 : j ≤ 1000) (q : Q (.int (i ^ j.toNat)) H) : rPowP (.int i) (.int j) H Q :=
  ⟨i, j, rfl, rfl, powW_ok (a := 250) (by omega) (by decide) h3 (by omega), q⟩
/-! len -/
def rLenL (K : PySem.W.Frag) : List V → Hp → VK → Prop := fun xs H Q => ∃ p ys, xs = [.ref p] ∧ (SqL K H p ys ∨ SqT K H p ys) ∧ Q (.int ys.length) H
theorem cr_lenL : CallR X (.builtin "len") (rLenL X.K) := call_len_seq
theorem g_lenL (h : H p = some (.lst xs)) (q : Q (.int (xs.length : Nat)) H) : rLenL K [.ref p] H Q := ⟨p, xs, rfl, .inl (SqL.of h), q⟩
theorem g_lenLK (h : SqL K H p xs) (q : Q (.int (xs.length : Nat)) H) : rLenL K [.ref p] H Q := ⟨p, xs, rfl, .inl h, q⟩
theorem g_lenT (h : H p = some (.tup xs)) (q : Q (.int (xs.length : Nat)) H) : rLenL K [.ref p] H Q := ⟨p, xs, rfl, .inr (SqT.of h), q⟩
def rLenSt : List V → Hp → VK → Prop := fun xs H Q => ∃ z : Str, xs = [.str z] ∧ z.length ≤ sizeLine ∧ Q (.int z.length) H
theorem cr_lenSt : CallR X (.builtin "len") rLenSt := call_len_str
theorem g_lenSt {z : Str} (hl : z.length ≤ sizeLine) (q : Q (.int (z.length : Nat)) H) : rLenSt [.str z] H Q := ⟨z, rfl, hl, q⟩
def rLenDi : List V → Hp → VK → Prop := fun xs H Q => ∃ a kvs, xs = [V.ref a] ∧ H a = some (.dK kvs) ∧ Q (.int kvs.length) H
theorem cr_lenDi : CallR X (.builtin "len") rLenDi := call_lenD
theorem g_lenDi {kvs : List (Key × V)} (h : H p = some (.dK kvs)) (q : Q (.int (kvs.length : Nat)) H) : rLenDi [.ref p] H Q := ⟨p, kvs, rfl, h, q⟩
/-! least, greatest of two -/
def rMax2 : List V → Hp → VK → Prop := fun xs H Q => ∃ i j, xs = [.int i, .int j] ∧ Q (.int (if j > i then j else i)) H
def rMin2 : List V → Hp → VK → Prop := fun xs H Q => ∃ i j, xs = [.int i, .int j] ∧ Q (.int (if j < i then j else i)) H
theorem cr_max2 (hc : X.calm = true) : CallR X (.builtin "max") rMax2 := call_max2 hc
theorem cr_min2 (hc : X.calm = true) : CallR X (.builtin "min") rMin2 := call_min2 hc
theorem g_max2 (q : Q (.int (max i j)) H) : rMax2 [.int i, .int j] H Q := ⟨i, j, rfl, by
  have e : (if j > i then j else i) = max i j := by
    rw [Int.max_def]
    split <;> split <;> omega
  rw [e]
  exact q⟩
theorem g_min2 (q : Q (.int (min i j)) H) : rMin2 [.int i, .int j] H Q := ⟨i, j, rfl, by
  have e : (if j < i then j else i) = min i j := by
    rw [Int.min_def]
    split <;> split <;> omega
  rw [e]
  exact q⟩
/-! sums, tests of lists -/
theorem g_sum {ns : List Int} (h : H p = some (.lst (ns.map V.int))) (q : Q (.int ns.sum) H) : rSum K [.ref p] H Q := ⟨p, ns, rfl, SqL.of h, q⟩
theorem g_all {bs : List Bool} (h : H p = some (.lst (bs.map V.bl))) (q : Q (.bl (bs.all id)) H) : rAll K [.ref p] H Q := ⟨p, bs, rfl, SqL.of h, q⟩
theorem g_any {bs : List Bool} (h : H p = some (.lst (bs.map V.bl))) (q : Q (.bl (bs.any id)) H) : rAny K [.ref p] H Q := ⟨p, bs, rfl, SqL.of h, q⟩
theorem g_sortedI {ns : List Int} (h : H p = some (.lst (ns.map V.int))) (hl : ns.length < 64) (q : ∀ (ns' : List Int) p' H2, ns'.Perm ns → ns'.Pairwise (· ≤ ·) → H p' = none → Step [] H H2 → H2 p' = some (.lst (ns'.map V.int)) → Q (.ref p') H2) : rSorted K [.ref p] H Q :=
  ⟨p, ns, rfl, SqL.of h, hl, fun ns' p' e1 e2 e3 => q ns' p' _ e1 e2 e3 (Step.new e3) upd_same⟩
theorem g_sortedS {ss : List Str} (h : H p = some (.lst (ss.map V.str))) (hl : ss.length < 64) (q : ∀ (ys : List Str) p' H2, ys.Perm ss → sortedS ys = true → H p' = none → Step [] H H2 → H2 p' = some (.lst (ys.map V.str)) → Q (.ref p') H2) : rSortedS K [.ref p] H Q :=
  ⟨p, ss, rfl, SqL.of h, hl, fun ns' p' e1 e2 e3 => q ns' p' _ e1 e2 e3 (Step.new e3) upd_same⟩
/-- sorted of a dict of numbers -/
def rSortedDI : List V → Hp → VK → Prop := fun xs H Q => ∃ (a : Addr) (kvs : List (Key × V)) (ks : List Int), xs = [.ref a] ∧ Rd H a (.dK kvs) ∧ kvs.map (·.1) = ks.map Sum.inl ∧ ks.length < 64 ∧ ∀ (ys : List Int) (p : Addr), ys.Perm ks → ys.Pairwise (· ≤ ·) → H p = none → Q (.ref p) (upd H p (.lst (ys.map V.int)))
theorem cr_sortedDI (hc : X.calm = true) : CallR X (.builtin "sorted") rSortedDI := call_sortedDI hc
theorem g_sortedDI {kvs : List (Key × V)} {ks : List Int} (h : Rd H p (.dK kvs)) (e : kvs.map (·.1) = ks.map Sum.inl) (hl : ks.length < 64) (q : ∀ (ns' : List Int) p' H2, ns'.Perm ks → ns'.Pairwise (· ≤ ·) → H p' = none → Step [] H H2 → H2 p' = some (.lst (ns'.map V.int)) → Q (.ref p') H2) : rSortedDI [.ref p] H Q :=
  ⟨p, kvs, ks, rfl, h, e, hl, fun ns' p' e1 e2 e3 => q ns' p' _ e1 e2 e3 (Step.new e3) upd_same⟩
/-! list(..) -/
def rListL (K : PySem.W.Frag) : List V → Hp → VK → Prop := fun xs H Q => ∃ p ys, xs = [.ref p] ∧ (SqL K H p ys ∨ SqT K H p ys) ∧ ∀ l, H l = none → Q (.ref l) (upd H l (.lst ys))
theorem cr_listL : CallR X (.type "list") (rListL X.K) := call_list_of
theorem g_listL (h : H p = some (.lst xs)) (q : ∀ l H2, H l = none → Step [] H H2 → H2 l = some (.lst xs) → Q (.ref l) H2) : rListL K [.ref p] H Q := ⟨p, xs, rfl, .inl (SqL.of h), fun l hl => q l _ hl (Step.new hl) upd_same⟩
theorem g_listT (h : H p = some (.tup xs)) (q : ∀ l H2, H l = none → Step [] H H2 → H2 l = some (.lst xs) → Q (.ref l) H2) : rListL K [.ref p] H Q := ⟨p, xs, rfl, .inr (SqT.of h), fun l hl => q l _ hl (Step.new hl) upd_same⟩
def rListDi : List V → Hp → VK → Prop := fun xs H Q => ∃ (a : Addr) (kvs : List (Key × V)), xs = [.ref a] ∧ Rd H a (.dK kvs) ∧ ∀ p, H p = none → Q (.ref p) (upd H p (.lst (kvs.map fun kv => kV kv.1)))
theorem cr_listDi (hc : X.calm = true) : CallR X (.type "list") rListDi := call_listD hc
theorem g_listDi {kvs : List (Key × V)} (h : Rd H p (.dK kvs)) (q : ∀ l H2, H l = none → Step [] H H2 → H2 l = some (.lst (kvs.map fun kv => kV kv.1)) → Q (.ref l) H2) : rListDi [.ref p] H Q := ⟨p, kvs, rfl, h, fun l hl => q l _ hl (Step.new hl) upd_same⟩
/-! join -/
def rJoin (K : PySem.W.Frag) : V → List V → Hp → VK → Prop := fun x xs H Q => ∃ a p, ∃ ys : List Str, x = .str a ∧ xs = [.ref p] ∧ (SqL K H p (ys.map V.str) ∨ SqT K H p (ys.map V.str)) ∧ (ys.map (·.length)).sum + ys.length * a.length ≤ 16777216 ∧ Q (.str (Txt.join a ys)) H
theorem mt_joinR : MtR X "str.join" (rJoin X.K) := mt_join
theorem g_join {z : Str} {ss : List Str} (h : H p = some (.lst (ss.map V.str))) (hl : (ss.map (·.length)).sum + ss.length * z.length ≤ 16777216) (q : Q (.str (Txt.join z ss)) H) : rJoin K (.str z) [.ref p] H Q := ⟨z, p, ss, rfl, rfl, .inl (SqL.of h), hl, q⟩
end
section
variable {X : Cx} {o e : Expr} {apos pos : Pos} {to te : TE}
theorem pe_joinR (ho : PE X o to) (he : PE X e te) (hs : starEach [e] X.env = [(false, eval e X.env)] := by rfl) (hbase : attributeBase o "join" X.env (eval o X.env) = eval o X.env := by rfl) (hline : (apos.endLine == pos.line) = true := by rfl) : PE X (.Call (.Attribute o "join" apos) [e] [] pos) (tM1 (rJoin X.K) to te) := pe_join ho he hs hbase hline
end
/-! words between: what follows is shown once -/
section
variable {X : Cx} {st : Stmt} {rest : List Stmt} {t u : TS} {e : Expr} {te : TE} {tt : TT} {σ : L2.St} {H : Hp} {Q : VK} {QT : Bool → Hp → Prop} {nx bk ct : L2.St → Hp → Prop} {rt : VK}
def tCutM (t u : TS) : TS := fun D σ H => ∃ Mid : L2.St → Hp → Prop, t ⟨Mid, D.rt, D.bk, D.ct⟩ σ H ∧ ∀ σ' H', Mid σ' H' → u D σ' H'
theorem pss_cutM (h1 : PS X st t) (h2 : PSs X rest u) : PSs X (st :: rest) (tCutM t u) := by
  refine ⟨fun pins s σ H D I h => ?_⟩
  obtain ⟨Mid, hm, hu⟩ := h
  refine wpAny_execs_cons (thn (h1.run pins s σ H ⟨Mid, D.rt, D.bk, D.ct⟩ I hm) fun f s1 q => ?_)
  cases f with
  | next =>
    obtain ⟨σ', H', I', q⟩ := q
    exact h2.run pins s1 σ' H' D I' (hu σ' H' q)
  | ret v => exact q
  | brk => exact q
  | cont => exact q
theorem g_cut (Mid : L2.St → Hp → Prop) (h1 : t ⟨Mid, rt, bk, ct⟩ σ H) (h2 : ∀ σ' H', Mid σ' H' → u ⟨nx, rt, bk, ct⟩ σ' H') : tCutM t u ⟨nx, rt, bk, ct⟩ σ H := ⟨Mid, h1, h2⟩
def tTCut (tt : TT) : TT := fun σ H Q => ∃ Mid : Bool → Hp → Prop, tt σ H Mid ∧ ∀ b H', Mid b H' → Q b H'
theorem pt_cut (h : PT X e tt) : PT X e (tTCut tt) := by
  refine ⟨fun pins s σ H Q I hq => ?_⟩
  obtain ⟨Mid, hm, hu⟩ := hq
  exact thn (h.run pins s σ H Mid I hm) fun b s1 ⟨H1, I1, q⟩ => ⟨H1, I1, hu b H1 q⟩
theorem g_tcut (Mid : Bool → Hp → Prop) (h1 : tt σ H Mid) (h2 : ∀ b H', Mid b H' → QT b H') : tTCut tt σ H QT := ⟨Mid, h1, h2⟩
def tECut (te : TE) : TE := fun σ H Q => ∃ Mid : V → Hp → Prop, te σ H Mid ∧ ∀ b H', Mid b H' → Q b H'
theorem pe_cut (h : PE X e te) : PE X e (tECut te) := by
  refine ⟨fun pins s σ H Q I hq => ?_⟩
  obtain ⟨Mid, hm, hu⟩ := hq
  exact thn (h.run pins s σ H Mid I hm) fun b s1 ⟨v, H1, I1, r, q⟩ => ⟨v, H1, I1, r, hu v H1 q⟩
theorem g_ecut (Mid : V → Hp → Prop) (h1 : te σ H Mid) (h2 : ∀ b H', Mid b H' → Q b H') : tECut te σ H Q := ⟨Mid, h1, h2⟩
def rAddS : R2 := fun x y H Q => ∃ i j, x = .str i ∧ y = .str j ∧ i.length + j.length ≤ sizeLine ∧ Q (.str (i ++ j)) H
theorem op_addS : OpR X (binaryOp .Add) rAddS := op_add_str
theorem g_addS {a b : Str} (hl : a.length + b.length ≤ sizeLine) (q : Q (.str (a ++ b)) H) : rAddS (.str a) (.str b) H Q := ⟨a, b, rfl, rfl, hl, q⟩
/-! == of data -/
theorem g_eqD {K : PySem.W.Frag} {x y : V} {d e : PyData} (h1 : Dp K H x d) (h2 : Dp K H y e) (s1 : SeqAt.shaped d = true) (s2 : SeqAt.shaped e = true) (q : Q (.bl (PyData.eqv d e)) H) : rEqD K x y H Q := ⟨d, e, h1, h2, s1, s2, q⟩
theorem g_neD {K : PySem.W.Frag} {x y : V} {d e : PyData} (h1 : Dp K H x d) (h2 : Dp K H y e) (s1 : SeqAt.shaped d = true) (s2 : SeqAt.shaped e = true) (q : Q (.bl (!PyData.eqv d e)) H) : rNeD K x y H Q := ⟨d, e, h1, h2, s1, s2, q⟩
end
/-! within a comprehension's block: the written part named outright -/
section
variable {X : Cx} {K : PySem.W.Frag} {e : Expr}
theorem kIx {r : PySem.W.Frag → R2} (h : IxR X (r X.K)) (hK : X.K = K := by rfl) : IxR X (r K) := by subst hK; exact h
theorem kSl {r : PySem.W.Frag → V → Option Int → Option Int → Hp → VK → Prop} (h : SlR X (r X.K)) (hK : X.K = K := by rfl) : SlR X (r K) := by subst hK; exact h
theorem kOp {f : Value → Value → Sem Value} {r : PySem.W.Frag → R2} (h : OpR X f (r X.K)) (hK : X.K = K := by rfl) : OpR X f (r K) := by subst hK; exact h
theorem kIn {f : Value → Value → Sem Value} {b : Bool} (h : OpR X f (rIn X.K b)) (hK : X.K = K := by rfl) : OpR X f (rIn K b) := by subst hK; exact h
theorem kCall {f : Value} {r : PySem.W.Frag → List V → Hp → VK → Prop} (h : CallR X f (r X.K)) (hK : X.K = K := by rfl) : CallR X f (r K) := by subst hK; exact h
theorem pe_bmK {T : String} {r : V → List V → Hp → VK → Prop} {to : TE} {t : TA} (h : PE X e (tBM X.K T r to t)) (hK : X.K = K := by rfl) : PE X e (tBM K T r to t) := by subst hK; exact h
theorem pe_bm0K {T : String} {r : V → List V → Hp → VK → Prop} {to : TE} (h : PE X e (tBM0 X.K T r to)) (hK : X.K = K := by rfl) : PE X e (tBM0 K T r to) := by subst hK; exact h
theorem pe_fldK {ta : TE} {f : Str} (h : PE X e (tFld X.K ta f)) (hK : X.K = K := by rfl) : PE X e (tFld K ta f) := by subst hK; exact h
theorem pi_listK {tg : Expr} {tl : TE} (h : PI X tg e (iList X.K tl)) (hK : X.K = K := by rfl) : PI X tg e (iList K tl) := by subst hK; exact h
end
/-! d.get(k, x) -/
section
variable {σ : L2.St} {H : Hp} {Q : VK} {td ty tx : TE} {p : Addr} {kvs : List (Key × V)} {i : Int} {z : V}
def kDG2b (Q : VK) (a : Addr) (y : V) : VK := fun z H3 => ∃ o, DGet H3 a y o ∧ Q (o.getD z) H3
def kDG2 (ty tx : TE) (σ : L2.St) (Q : VK) : VK := fun x H1 => ∃ a, x = .ref a ∧ IsD H1 a ∧ ty σ H1 fun y H2 => tx σ H2 (kDG2b Q a y)
theorem g_dget2 (h : td σ H (kDG2 ty tx σ Q)) : tDGet2 td ty tx σ H Q := h
theorem g_kDG2 (h : Rd H p (.dK kvs)) (q : ty σ H (fun y H2 => tx σ H2 (kDG2b Q p y))) : kDG2 ty tx σ Q (.ref p) H := ⟨p, rfl, .inl ⟨kvs, h⟩, q⟩
theorem g_kDG2b (h : Rd H p (.dK kvs)) (q : Q ((valV kvs (Sum.inl i)).getD z) H) : kDG2b Q p (.int i) z H := ⟨_, .inl ⟨kvs, Sum.inl i, h, rfl, rfl⟩, q⟩
theorem g_kDG2bS {s : Str} (h : Rd H p (.dK kvs)) (q : Q ((valV kvs (Sum.inr s)).getD z) H) : kDG2b Q p (.str s) z H := ⟨_, .inl ⟨kvs, Sum.inr s, h, rfl, rfl⟩, q⟩
def kDG1 (Q : VK) (a : Addr) : VK := fun y H2 => ∃ o, DGet H2 a y o ∧ Q (o.getD .non) H2
def kDG1a (ty : TE) (σ : L2.St) (Q : VK) : VK := fun x H1 => ∃ a, x = .ref a ∧ IsD H1 a ∧ ty σ H1 (kDG1 Q a)
theorem g_dget1 (h : td σ H (kDG1a ty σ Q)) : tDGet1 td ty σ H Q := h
theorem g_kDG1a (h : Rd H p (.dK kvs)) (q : ty σ H (kDG1 Q p)) : kDG1a ty σ Q (.ref p) H := ⟨p, rfl, .inl ⟨kvs, h⟩, q⟩
theorem g_kDG1 (h : Rd H p (.dK kvs)) (q : Q ((valV kvs (Sum.inl i)).getD .non) H) : kDG1 Q p (.int i) H := ⟨_, .inl ⟨kvs, Sum.inl i, h, rfl, rfl⟩, q⟩
end
end My
/-! Kit5: == of data, of dicts of data. -/
namespace My
open PySem PySem.Spec PyProof.Rows L2
/-! ### codecs: how a value reads as plain data -/
structure Cod {α : Type} (K : PySem.W.Frag) (r : Rp α) where
  enc : α → PyData
  ok : α → Prop
  lay : ∀ x, ok x → (enc x).canLay0 = true
  dep : Nat
  hdep : ∀ x, (enc x).depth ≤ dep
  eqv : ∀ x y, PyData.eqv (enc x) (enc y) = true ↔ x = y
  dp : ∀ H v x, r H v x → Dp K H v (enc x)
def StrOk (z : Str) : Prop := PyData.strOk z = true
theorem strOk_low {z : Str} (h : ∀ c ∈ cs z, c < 1114112) : StrOk z := by
  unfold StrOk PyData.strOk
  rw [← Array.all_toList, List.all_eq_true]
  intro c hc
  exact decide_eq_true (h c hc)
theorem IsNm.ok {z : Str} (h : IsNm z) : StrOk z := strOk_low fun c hc => by
  have := h.low c hc
  unfold isLow at this
  omega
theorem eqvAll_iff {α : Type} {f : α → PyData} (he : ∀ x y, PyData.eqv (f x) (f y) = true ↔ x = y) : ∀ xs ys : List α, PyData.eqvAll (xs.map f) (ys.map f) = true ↔ xs = ys
  | [], [] => by simp [PyData.eqvAll]
  | [], _ :: _ => by simp [PyData.eqvAll]
  | _ :: _, [] => by simp [PyData.eqvAll]
  | x :: xs, y :: ys => by
    simp only [List.map_cons, PyData.eqvAll, Bool.and_eq_true, he x y, eqvAll_iff he xs ys, List.cons.injEq]
theorem layAll {α : Type} {f : α → PyData} : ∀ {xs : List α}, (∀ x ∈ xs, (f x).canLay0 = true) → PyData.canLayAll0 (xs.map f) = true
  | [], _ => by simp [PyData.canLayAll0]
  | x :: xs, h => by
    simp only [List.map_cons, PyData.canLayAll0, Bool.and_eq_true]
    exact ⟨h x (List.mem_cons_self ..), layAll fun y hy => h y (List.mem_cons_of_mem _ hy)⟩
theorem depAll {α : Type} {f : α → PyData} {d : Nat} (h : ∀ x, (f x).depth ≤ d) : ∀ xs : List α, PyData.depthAll (xs.map f) ≤ d
  | [] => by simp [PyData.depthAll]
  | x :: xs => by
    simp only [List.map_cons, PyData.depthAll]
    exact Nat.max_le.mpr ⟨h x, depAll h xs⟩
theorem dpAll {α : Type} {K : PySem.W.Frag} {H : Hp} {f : α → PyData} {r : V → α → Prop} (h : ∀ v x, r v x → Dp K H v (f x)) : ∀ {vs : List V} {xs : List α}, Paired r vs xs → DpAll K H vs (xs.map f)
  | _, _, .nil => .nil
  | _, _, .cons a t => .cons (h _ _ a) (dpAll h t)
section
variable {K : PySem.W.Frag} {α β γ δ : Type} {r : Rp α} {q : Rp β} {s : Rp γ} {t : Rp δ}
def cI : Cod K rI := ⟨.int, fun _ => True, fun _ _ => by simp [PyData.canLay0], 0, fun _ => by simp [PyData.depth], fun x y => by simp [PyData.eqv], fun _ _ _ h => by rw [show _ = V.int _ from h]; exact .int _⟩
def cB : Cod K rB := ⟨.bool, fun _ => True, fun _ _ => by simp [PyData.canLay0], 0, fun _ => by simp [PyData.depth], fun x y => by simp [PyData.eqv], fun _ _ _ h => by rw [show _ = V.bl _ from h]; exact .bl _⟩
def cS : Cod K rS := ⟨.str, StrOk, fun _ h => by simpa [PyData.canLay0, StrOk] using h, 0, fun _ => by simp [PyData.depth], fun x y => by simp [PyData.eqv], fun _ _ _ h => by rw [show _ = V.str _ from h]; exact .str _⟩
def encO {α : Type} (f : α → PyData) : Option α → PyData
  | none => .none
  | some x => f x
def cOS : Cod K rOS := ⟨encO .str, fun o => ∀ x, o = some x → StrOk x, fun o h => by
  cases o with
  | none => simp [encO, PyData.canLay0]
  | some x => simpa [encO, PyData.canLay0, StrOk] using h x rfl, 0, fun o => by cases o <;> simp [encO, PyData.depth], fun x y => by cases x <;> cases y <;> simp [encO, PyData.eqv], fun _ v o h => by
  cases o with
  | none => rw [show v = V.non from h]; exact .non
  | some x => rw [show v = V.str x from h]; exact .str _⟩
def cL (c : Cod K r) : Cod K (rL r) := ⟨fun xs => .list (xs.map c.enc), fun xs => ∀ x ∈ xs, c.ok x, fun xs h => by
  simp only [PyData.canLay0]
  exact layAll fun x hx => c.lay x (h x hx), c.dep + 1, fun xs => by
  simp only [PyData.depth]
  exact Nat.succ_le_succ (depAll c.hdep xs), fun x y => by
  simp only [PyData.eqv]
  exact eqvAll_iff c.eqv x y, fun H v x h => by
  obtain ⟨a, vs, rfl, h1, h2⟩ := h
  exact .lst (SqL.of h1) (dpAll (c.dp H) h2)⟩
def cP2 (c : Cod K r) (d : Cod K q) : Cod K (rP2 r q) := ⟨fun x => .tuple [c.enc x.1, d.enc x.2], fun x => c.ok x.1 ∧ d.ok x.2, fun x h => by
  simp [PyData.canLay0, PyData.canLayAll0, c.lay _ h.1, d.lay _ h.2], max c.dep d.dep + 1, fun x => by
  have h1 := c.hdep x.1
  have h2 := d.hdep x.2
  simp only [PyData.depth, PyData.depthAll]
  omega, fun x y => by
  obtain ⟨x1, x2⟩ := x
  obtain ⟨y1, y2⟩ := y
  simp [PyData.eqv, PyData.eqvAll, c.eqv, d.eqv], fun H v x h => by
  obtain ⟨a, u, w, rfl, h1, h2, h3⟩ := h
  exact .tup (SqT.of h1) (.cons (c.dp _ _ _ h2) (.cons (d.dp _ _ _ h3) .nil))⟩
def cP3 (c : Cod K r) (d : Cod K q) (e : Cod K s) : Cod K (rP3 r q s) := ⟨fun x => .tuple [c.enc x.1, d.enc x.2.1, e.enc x.2.2], fun x => c.ok x.1 ∧ d.ok x.2.1 ∧ e.ok x.2.2, fun x h => by
  simp [PyData.canLay0, PyData.canLayAll0, c.lay _ h.1, d.lay _ h.2.1, e.lay _ h.2.2], max (max c.dep d.dep) e.dep + 1, fun x => by
  have h1 := c.hdep x.1
  have h2 := d.hdep x.2.1
  have h3 := e.hdep x.2.2
  simp only [PyData.depth, PyData.depthAll]
  omega, fun x y => by
  obtain ⟨x1, x2, x3⟩ := x
  obtain ⟨y1, y2, y3⟩ := y
  simp [PyData.eqv, PyData.eqvAll, c.eqv, d.eqv, e.eqv], fun H v x h => by
  obtain ⟨a, u, w, z, rfl, h1, h2, h3, h4⟩ := h
  exact .tup (SqT.of h1) (.cons (c.dp _ _ _ h2) (.cons (d.dp _ _ _ h3) (.cons (e.dp _ _ _ h4) .nil)))⟩
def cP4 (c : Cod K r) (d : Cod K q) (e : Cod K s) (f : Cod K t) : Cod K (rP4 r q s t) := ⟨fun x => .tuple [c.enc x.1, d.enc x.2.1, e.enc x.2.2.1, f.enc x.2.2.2], fun x => c.ok x.1 ∧ d.ok x.2.1 ∧ e.ok x.2.2.1 ∧ f.ok x.2.2.2, fun x h => by
  simp [PyData.canLay0, PyData.canLayAll0, c.lay _ h.1, d.lay _ h.2.1, e.lay _ h.2.2.1, f.lay _ h.2.2.2], max (max c.dep d.dep) (max e.dep f.dep) + 1, fun x => by
  have h1 := c.hdep x.1
  have h2 := d.hdep x.2.1
  have h3 := e.hdep x.2.2.1
  have h4 := f.hdep x.2.2.2
  simp only [PyData.depth, PyData.depthAll]
  omega, fun x y => by
  obtain ⟨x1, x2, x3, x4⟩ := x
  obtain ⟨y1, y2, y3, y4⟩ := y
  simp [PyData.eqv, PyData.eqvAll, c.eqv, d.eqv, e.eqv, f.eqv], fun H v x h => by
  obtain ⟨a, u, w, z, y, rfl, h1, h2, h3, h4, h5⟩ := h
  exact .tup (SqT.of h1) (.cons (c.dp _ _ _ h2) (.cons (d.dp _ _ _ h3) (.cons (e.dp _ _ _ h4) (.cons (f.dp _ _ _ h5) .nil))))⟩
theorem Cod.shaped (c : Cod K r) {x : α} (h : c.ok x) (hd : c.dep ≤ 64 := by exact Nat.le_of_ble_eq_true rfl) : SeqAt.shaped (c.enc x) = true := by
  unfold SeqAt.shaped
  rw [Bool.and_eq_true]
  exact ⟨c.lay x h, decide_eq_true (Nat.le_trans (c.hdep x) hd)⟩
theorem Cod.dec (c : Cod K r) [DecidableEq α] (x y : α) : PyData.eqv (c.enc x) (c.enc y) = decide (x = y) := by
  have := c.eqv x y
  by_cases h : x = y
  · rw [this.mpr h, decide_eq_true h]
  · rw [decide_eq_false h]
    cases e : PyData.eqv (c.enc x) (c.enc y) with
    | false => rfl
    | true => exact absurd (this.mp e) h
/-- x == y, x != y of data with one codec -/
theorem g_eqC [DecidableEq α] {H : Hp} {Q : VK} {u v : V} {x y : α} (c : Cod K r) (h1 : r H u x) (h2 : r H v y) (o1 : c.ok x) (o2 : c.ok y) (q : Q (.bl (decide (x = y))) H) (hd : c.dep ≤ 64 := by exact Nat.le_of_ble_eq_true rfl) : rEqD K u v H Q :=
  g_eqD (c.dp _ _ _ h1) (c.dp _ _ _ h2) (c.shaped o1 hd) (c.shaped o2 hd) (by rw [c.dec]; exact q)
theorem g_neC [DecidableEq α] {H : Hp} {Q : VK} {u v : V} {x y : α} (c : Cod K r) (h1 : r H u x) (h2 : r H v y) (o1 : c.ok x) (o2 : c.ok y) (q : Q (.bl (!decide (x = y))) H) (hd : c.dep ≤ 64 := by exact Nat.le_of_ble_eq_true rfl) : rNeD K u v H Q :=
  g_neD (c.dp _ _ _ h1) (c.dp _ _ _ h2) (c.shaped o1 hd) (c.shaped o2 hd) (by rw [c.dec]; exact q)
end
/-! ### == of two dicts whose values are data -/
section
variable {X : Cx}
/-- e: whether the values under a key are alike -/
def DDat (K : PySem.W.Frag) (H : Hp) (x y : V) (ks ls : List (Key × V)) (e : Key → Bool) : Prop := ∃ a b, x = .ref a ∧ y = .ref b ∧ H a = some (.dK ks) ∧ H b = some (.dK ls) ∧
  ∀ k v u, (k, v) ∈ ks → valV ls k = some u → ∃ d d', Dp K H v d ∧ Dp K H u d' ∧ SeqAt.shaped d = true ∧ SeqAt.shaped d' = true ∧ PyData.eqv d d' = e k
def rEqDD (K : PySem.W.Frag) : R2 := fun x y H Q => ∃ ks ls e, DDat K H x y ks ls e ∧ Q (.bl (ks.length == ls.length && ks.all fun p => (valV ls p.1).isSome && e p.1)) H
def rNeDD (K : PySem.W.Frag) : R2 := fun x y H Q => ∃ ks ls e, DDat K H x y ks ls e ∧ Q (.bl (!(ks.length == ls.length && ks.all fun p => (valV ls p.1).isSome && e p.1))) H
theorem P_mem2 {α β : Type} {F : α → β → Prop} : ∀ {l1 : List α} {l2 : List β} {y : β}, Paired F l1 l2 → y ∈ l2 → ∃ x, x ∈ l1 ∧ F x y
  | _, _, _, .nil, h => by cases h
  | _, _, _, .cons r t, h => by
    rcases List.mem_cons.mp h with rfl | h
    · exact ⟨_, List.mem_cons_self .., r⟩
    · obtain ⟨x, h1, h2⟩ := P_mem2 t h
      exact ⟨x, List.mem_cons_of_mem _ h1, h2⟩
theorem P_mem1 {α β : Type} {F : α → β → Prop} : ∀ {l1 : List α} {l2 : List β} {x : α}, Paired F l1 l2 → x ∈ l1 → ∃ y, y ∈ l2 ∧ F x y
  | _, _, _, .nil, h => by cases h
  | _, _, _, .cons r t, h => by
    rcases List.mem_cons.mp h with rfl | h
    · exact ⟨_, List.mem_cons_self .., r⟩
    · obtain ⟨x, h1, h2⟩ := P_mem1 t h
      exact ⟨x, List.mem_cons_of_mem _ h1, h2⟩
theorem dd_all {ls : List (Key × V)} {vb : List (Key × Value)} {e : Key → Bool} (rb : KV ls vb) : ∀ {ks : List (Key × V)} {va : List (Key × Value)}, KV ks va → (va.all fun p => (valueAt vb p.1).isSome && e p.1) = (ks.all fun p => (valV ls p.1).isSome && e p.1)
  | _, _, .nil => rfl
  | (k, v) :: ks, (k', u) :: va, .cons h t => by
    obtain ⟨h1, _⟩ := h
    have h1 : k = k' := h1
    subst h1
    rw [List.all_cons, List.all_cons, dd_all rb t, (RelO.isSome_eq (rb.val k)).symm]
theorem dd_in {pins : List (Addr × Obj)} {σ : L2.St} {H : Hp} {s : Shared} {ks ls : List (Key × V)} {va vb : List (Key × Value)} {e : Key → Bool} (hu : X.A.in1.in1.units + 64 < cLine) (I : Inv X pins σ H s) (ra : KV ks va) (rb : KV ls vb)
    (hd : ∀ k v u, (k, v) ∈ ks → valV ls k = some u → ∃ d d', Dp X.K H v d ∧ Dp X.K H u d' ∧ SeqAt.shaped d = true ∧ SeqAt.shaped d' = true ∧ PyData.eqv d d' = e k) :
    ∀ k v y, (k, v) ∈ va → valueAt vb k = some y → SeqAt.EqIn X.prog X.w X.A.in1 s v y (e k) := by
  intro k v y hm hv
  obtain ⟨⟨k', v'⟩, hm', hk, hr⟩ := P_mem2 ra hm
  have hk : k' = k := hk
  subst hk
  have rr := rb.val k'
  rw [hv] at rr
  cases hu' : valV ls k' with
  | none => rw [hu'] at rr; exact (show False from rr).elim
  | some u =>
    rw [hu'] at rr
    have rr : RelV u y := rr
    obtain ⟨d, d', h1, h2, s1, s2, e1⟩ := hd k' v' u hm' hu'
    obtain ⟨as, r1⟩ := Dp.reads I d v' v h1 hr
    obtain ⟨bs, r2⟩ := Dp.reads I d' u y h2 rr
    have q := SeqAt.eqAt_reads d d' X.A.in1 s v y as bs r1 r2 (SeqAt.canLay_of_shaped s1) (SeqAt.canLay_of_shaped s2) (SeqAt.room_of_shaped s1 (by have : X.A.in1.in1.units = X.A.in1.units + 1 := rfl; omega))
    rw [e1] at q
    exact q.inModel X.prog X.w
theorem op_eqDD (hu : X.A.units + 64 + 2 < cLine) : OpR X (compareOp .Eq) (rEqDD X.K) := by
  intro pins s σ H x y v u Q I rx ry h
  obtain ⟨ks, ls, e, ⟨a, b, rfl, rfl, ea, eb, hd⟩, q⟩ := h
  obtain rfl : v = Value.ref a := rx
  obtain rfl : u = Value.ref b := ry
  obtain ⟨_, ya, va, ra, da⟩ := (show ObjOk X.prog X.w H s.heap a (.dK ks) from I.hok a _ ea)
  obtain ⟨_, yb, vb, rb, db⟩ := (show ObjOk X.prog X.w H s.heap b (.dK ls) from I.hok b _ eb)
  refine PySem.W.keq_eqIn (knd := mixKind X.prog X.w) ya yb da db (by omega) (fun _ => PySem.W.KeqHitsIn.of va (dd_in (by show X.A.units + 1 + 1 + 64 < cLine; omega) I ra rb hd)) ⟨.bl _, H, I, rfl, ?_⟩
  rw [dd_all rb ra, ← ra.length, ← rb.length]
  exact q
theorem keq_neIn {prog : Program} {w : World} {K : Type} [DecidableEq K] {knd : KeyKind prog w K} {A : Around} {E : Value → Shared → Prop} {s : Shared} {a b : Addr} {ka kb : List (K × Value)} {r : Bool} {Q : Value → Shared → Prop} (ha : (a == sysModules) = false) (hb : (b == sysModules) = false)
    (da : s.heap.DictOf knd a ka) (db : s.heap.DictOf knd b kb) (hu : A.units < cLine) (hits : ka.length = kb.length → PySem.W.KeqHitsIn prog w A.in1 s kb ka r) (h : Q (.bool (!(ka.length == kb.length && r))) s) :
    wpAny (model prog w) A (compareOp .NotEq (.ref a) (.ref b)) Q E s := by
  refine wpAny_richCompare_same_room (op := .NotEq) da.typeIs db.typeIs PySem.F.slot_dict_ne (wpAny_call_entry PySem.F.slot_dict_ne da.typeIs PySem.F.entry_dict_ne ?_ (PySem.F.args_dict_ne_2 _ _)) hu
  show wpAny _ _ (Builtin.Dict.dictSlotArgs "__ne__" ⟨[.ref a, .ref b], []⟩ >>= _) _ _ s
  refine wpAny_bind ?_
  unfold Builtin.Dict.dictSlotArgs
  refine wpAny_bind (wpAny_notOrdered_dict da.typeIs ?_)
  show wpAny _ _ (pure (Value.ref a, Value.ref b)) _ _ s
  refine wpAny_pure ?_
  refine wpAny_bind (wpAny_isInstance (T := "dict") db.typeIs PySem.F.sub_dict_dict ?_)
  simp only [Bool.not_true, Bool.false_eq_true, if_false]
  refine wpAny_bind (wpAny_pure (wpAny_bind (wpAny_pure ?_)))
  refine wpAny_bind (PySem.W.keq_samePairsIn ha hb da db hits ?_)
  refine wpAny_pure ⟨_, rfl, ?_, ?_⟩
  · exact fun x => nomatch x
  · simpa using h
theorem op_neDD (hu : X.A.units + 64 + 2 < cLine) : OpR X (compareOp .NotEq) (rNeDD X.K) := by
  intro pins s σ H x y v u Q I rx ry h
  obtain ⟨ks, ls, e, ⟨a, b, rfl, rfl, ea, eb, hd⟩, q⟩ := h
  obtain rfl : v = Value.ref a := rx
  obtain rfl : u = Value.ref b := ry
  obtain ⟨_, ya, va, ra, da⟩ := (show ObjOk X.prog X.w H s.heap a (.dK ks) from I.hok a _ ea)
  obtain ⟨_, yb, vb, rb, db⟩ := (show ObjOk X.prog X.w H s.heap b (.dK ls) from I.hok b _ eb)
  refine keq_neIn (knd := mixKind X.prog X.w) ya yb da db (by omega) (fun _ => PySem.W.KeqHitsIn.of va (dd_in (by show X.A.units + 1 + 1 + 64 < cLine; omega) I ra rb hd)) ⟨.bl _, H, I, rfl, ?_⟩
  rw [dd_all rb ra, ← ra.length, ← rb.length]
  exact q
theorem OpR.or {f : Value → Value → Sem Value} {r r' : R2} (h : OpR X f r) (h' : OpR X f r') : OpR X f (fun x y H Q => r x y H Q ∨ r' x y H Q) := by
  intro pins s σ H x y v u Q I rx ry hq
  rcases hq with hq | hq
  · exact h pins s σ H x y v u Q I rx ry hq
  · exact h' pins s σ H x y v u Q I rx ry hq
def rEqX (K : PySem.W.Frag) : R2 := fun x y H Q => rEqD K x y H Q ∨ rEqDD K x y H Q
def rNeX (K : PySem.W.Frag) : R2 := fun x y H Q => rNeD K x y H Q ∨ rNeDD K x y H Q
theorem op_eqX (hu : X.A.units + 64 + 2 < cLine) : OpR X (compareOp .Eq) (rEqX X.K) := OpR.or (op_eqD (by omega)) (op_eqDD hu)
theorem op_neX (hu : X.A.units + 64 + 2 < cLine) : OpR X (compareOp .NotEq) (rNeX X.K) := OpR.or (op_neD (by omega)) (op_neDD hu)
end
theorem nodup_map_of {α β : Type} {f : α → β} (hf : ∀ a b, f a = f b → a = b) : ∀ {l : List α}, l.Nodup → (l.map f).Nodup
  | [], _ => List.nodup_nil
  | a :: r, h => by
    obtain ⟨h1, h2⟩ := List.nodup_cons.mp h
    rw [List.map_cons]
    refine List.nodup_cons.mpr ⟨fun m => ?_, nodup_map_of hf h2⟩
    obtain ⟨b, hb, e⟩ := List.mem_map.mp m
    exact h1 (by rw [← hf _ _ e]; exact hb)
theorem valV_of_mem {κ : Type} [DecidableEq κ] : ∀ {kvs : List (κ × V)} {k : κ} {v : V}, (kvs.map (·.1)).Nodup → (k, v) ∈ kvs → valV kvs k = some v
  | [], _, _, _, h => by cases h
  | p :: r, k, v, hn, h => by
    rw [List.map_cons, List.nodup_cons] at hn
    rcases List.mem_cons.mp h with e | h
    · subst e; exact valV_pos rfl
    · rw [valV_neg fun z => hn.1 (List.mem_map.mpr ⟨(k, v), h, z.symm⟩)]
      exact valV_of_mem hn.2 h
/-! dicts of numbers to data -/
section
variable {K : PySem.W.Frag} {β : Type} {q : Rp β} {H : Hp}
def lookI (xs : List (Int × β)) (i : Int) : Option β := (xs.find? fun p => decide (p.1 = i)).map (·.2)
theorem lookI_nil {i : Int} : lookI ([] : List (Int × β)) i = none := rfl
theorem lookI_pos {p : Int × β} {r : List (Int × β)} {i : Int} (e : p.1 = i) : lookI (p :: r) i = some p.2 := by simp [lookI, List.find?_cons, e]
theorem lookI_neg {p : Int × β} {r : List (Int × β)} {i : Int} (e : ¬ p.1 = i) : lookI (p :: r) i = lookI r i := by simp [lookI, List.find?_cons, e]
theorem kvs_look : ∀ {kvs : List (Key × V)} {xs : List (Int × β)} {i : Int}, Paired (fun (p : Key × V) (x : Int × β) => p.1 = Sum.inl x.1 ∧ q H p.2 x.2) kvs xs → (valV kvs (Sum.inl i) = none ∧ lookI xs i = none) ∨ ∃ v x, valV kvs (Sum.inl i) = some v ∧ lookI xs i = some x ∧ q H v x
  | _, _, _, .nil => .inl ⟨rfl, rfl⟩
  | (k, v) :: kvs, (j, x) :: xs, i, .cons h t => by
    obtain ⟨h1, h2⟩ := h
    have h1 : k = Sum.inl j := h1
    subst h1
    by_cases e : j = i
    · subst e
      exact .inr ⟨v, x, valV_pos rfl, lookI_pos rfl, h2⟩
    · rw [valV_neg (show ¬ (Sum.inl j : Key) = Sum.inl i from fun z => e (Sum.inl.inj z)), lookI_neg e]
      exact kvs_look t
theorem kvs_keys : ∀ {kvs : List (Key × V)} {xs : List (Int × β)}, Paired (fun (p : Key × V) (x : Int × β) => p.1 = Sum.inl x.1 ∧ q H p.2 x.2) kvs xs → kvs.map (·.1) = (xs.map (·.1)).map Sum.inl
  | _, _, .nil => rfl
  | _, _, .cons h t => by rw [List.map_cons, List.map_cons, List.map_cons, h.1, kvs_keys t]
/-- two such dicts, said to be alike -/
theorem dd_same (c : Cod K q) [DecidableEq β] {u v : V} {xs : List (Int × β)} (h1 : rDI q H u xs) (h2 : rDI q H v xs) (hok : ∀ p ∈ xs, c.ok p.2) (hn : (xs.map (·.1)).Nodup) (hd : c.dep ≤ 64 := by exact Nat.le_of_ble_eq_true rfl) :
    ∃ ks ls, DDat K H u v ks ls (fun _ => true) ∧ (ks.length == ls.length && ks.all fun p => (valV ls p.1).isSome && true) = true := by
  obtain ⟨a, ks, rfl, ha, pa⟩ := h1
  obtain ⟨b, ls, rfl, hb, pb⟩ := h2
  refine ⟨ks, ls, ⟨a, b, rfl, rfl, ha, hb, fun k v u hm hl => ?_⟩, ?_⟩
  · obtain ⟨⟨i, x⟩, hx, hk, hv⟩ := P_mem1 pa hm
    have hk : k = Sum.inl i := hk
    subst hk
    rcases kvs_look (i := i) pb with ⟨e1, _⟩ | ⟨v', x', e1, e2, e3⟩
    · rw [e1] at hl; cases hl
    · rw [e1] at hl
      cases hl
      have ex : x' = x := by
        have : lookI xs i = some x := by
          clear e2 e1 pb pa hv hm hok
          induction xs with
          | nil => cases hx
          | cons p r ih =>
            rw [List.map_cons, List.nodup_cons] at hn
            rcases List.mem_cons.mp hx with e | hx
            · subst e; exact lookI_pos rfl
            · rw [lookI_neg fun z => hn.1 (List.mem_map.mpr ⟨(i, x), hx, z.symm⟩)]
              exact ih hn.2 hx
        rw [this] at e2
        exact (Option.some.inj e2).symm
      subst ex
      have o := hok _ hx
      exact ⟨c.enc x', c.enc x', c.dp _ _ _ hv, c.dp _ _ _ e3, c.shaped o hd, c.shaped o hd, (c.eqv _ _).mpr rfl⟩
  · rw [P_len pa, P_len pb, beq_self_eq_true, Bool.true_and, List.all_eq_true]
    intro p hp
    obtain ⟨⟨i, x⟩, hx, hk, hv⟩ := P_mem1 pa hp
    rw [hk]
    rcases kvs_look (i := i) pb with ⟨_, e2⟩ | ⟨v', x', e1, e2, e3⟩
    · exfalso
      clear hn hok pa pb ha hb hp hk hv
      induction xs with
      | nil => cases hx
      | cons p r ih =>
        by_cases z : p.1 = i
        · rw [lookI_pos z] at e2; cases e2
        · rw [lookI_neg z] at e2
          rcases List.mem_cons.mp hx with e | hx
          · exact z (by rw [← e])
          · exact ih hx e2
    · rw [e1]; rfl
theorem g_eqDD (c : Cod K q) [DecidableEq β] {Q : VK} {u v : V} {xs : List (Int × β)} (h1 : rDI q H u xs) (h2 : rDI q H v xs) (hok : ∀ p ∈ xs, c.ok p.2) (hn : (xs.map (·.1)).Nodup) (k : Q (.bl true) H) (hd : c.dep ≤ 64 := by exact Nat.le_of_ble_eq_true rfl) : rEqDD K u v H Q := by
  obtain ⟨ks, ls, D, e⟩ := dd_same c h1 h2 hok hn hd
  exact ⟨ks, ls, _, D, by rw [e]; exact k⟩
theorem g_neDD (c : Cod K q) [DecidableEq β] {Q : VK} {u v : V} {xs : List (Int × β)} (h1 : rDI q H u xs) (h2 : rDI q H v xs) (hok : ∀ p ∈ xs, c.ok p.2) (hn : (xs.map (·.1)).Nodup) (k : Q (.bl false) H) (hd : c.dep ≤ 64 := by exact Nat.le_of_ble_eq_true rfl) : rNeDD K u v H Q := by
  obtain ⟨ks, ls, D, e⟩ := dd_same c h1 h2 hok hn hd
  exact ⟨ks, ls, _, D, by rw [e]; exact k⟩
end
end My
/-! Kit6: own exceptions made, raised, caught. -/
namespace My
open PySem PySem.Spec PyProof.Rows L2
/-- __init__ of an own exception: self.f = f, one after the other -/
def spI (C : Addr) (fs : List Str) : Sp := fun vs H Q _ => ∃ (a : Addr) (ws : List V), vs = .ref a :: ws ∧ ws.length = fs.length ∧ H a = some (exo a C none) ∧
  ∀ dx H2, H dx = none → dx ≠ a → H2 a = some (exo a C (some dx)) → H2 dx = some (exd dx (fs.zip ws).reverse) → (∀ b, b ≠ a → b ≠ dx → H2 b = H b) → Q .non H2
/-- what is known of an own exception class -/
structure HasX (P : Program) (w : World) (K : PySem.W.Frag) (mg : Str → Option Value) (base : Heap) (x : Str) (fs : List Str) : Prop where
  ex : ∃ fd : FuncData, FnOk P w K mg base CX0 1 (He.ma K (He.ga K x) "__init__") fd ("self" :: fs) (spI (He.ga K x) fs) ∧ Binds K fd ("self" :: fs) []
  tx : ExcT K (He.ga K x) fs
  mg : mg x = some (.ref (He.ga K x))
section
variable {K : PySem.W.Frag} {σ : L2.St} {H : Hp} {C : Addr} {f f1 f2 f3 : Str} {to te : TE} {nx bk ct : L2.St → Hp → Prop} {rt : VK} {tr : TA}
def kOst (K : PySem.W.Frag) (f : Str) (nx : L2.St → Hp → Prop) (σ : L2.St) (y : V) : VK := fun x H2 => ∃ a C : Addr, x = .ref a ∧ OexC K C ∧ PySem.W.findIn K (.ref C) f = some none ∧
  ((H2 a = some (exo a C none) ∧ ∀ dx, H2 dx = none → dx ≠ a → nx σ (upd (upd H2 dx (exd dx [(f, y)])) a (exo a C (some dx)))) ∨
    ∃ (dx : Addr) (fs : List (Str × V)), H2 a = some (exo a C (some dx)) ∧ H2 dx = some (exd dx fs) ∧ fs.length ≤ 900 ∧ nx σ (upd H2 dx (exd dx ((f, y) :: fs))))
theorem g_ost (h : te σ H (fun y H1 => to σ H1 (kOst K f nx σ y))) : tOst K f to te ⟨nx, rt, bk, ct⟩ σ H := h
theorem g_kOst1 {y : V} {a : Addr} (T : OexC K C) (n : PySem.W.findIn K (.ref C) f = some none) (h : H a = some (exo a C none)) (q : ∀ dx H2, H dx = none → dx ≠ a → H2 a = some (exo a C (some dx)) → H2 dx = some (exd dx [(f, y)]) → (∀ b, b ≠ a → b ≠ dx → H2 b = H b) → nx σ H2) : kOst K f nx σ y (.ref a) H :=
  ⟨a, C, rfl, T, n, .inl ⟨h, fun dx hd hne => q dx _ hd hne upd_same (by rw [upd_ne hne, upd_same]) fun b h1 h2 => by rw [upd_ne h1, upd_ne h2]⟩⟩
theorem g_kOst2 {y : V} {a dx : Addr} {fs : List (Str × V)} (T : OexC K C) (n : PySem.W.findIn K (.ref C) f = some none) (h : H a = some (exo a C (some dx))) (hd : H dx = some (exd dx fs)) (hne : dx ≠ a) (hl : fs.length ≤ 900)
    (q : ∀ H2, H2 a = some (exo a C (some dx)) → H2 dx = some (exd dx ((f, y) :: fs)) → (∀ b, b ≠ dx → H2 b = H b) → nx σ H2) : kOst K f nx σ y (.ref a) H :=
  ⟨a, C, rfl, T, n, .inr ⟨dx, fs, h, hd, hl, q _ (by rw [upd_ne hne.symm]; exact h) upd_same fun b hb => upd_ne hb⟩⟩
/-- C(e, ..) that is raised -/
def kMkO (C : Addr) (fs : List Str) (Q : XK) : List V → Hp → Prop := fun vs H1 => vs.length ≤ 1000 ∧ ∀ a, H1 a = none → spI C fs (.ref a :: (vs ++ [])) (upd H1 a (exo a C none))
  (fun v H2 => v = .non ∧ ∃ (d : Addr) (fs : List (Str × V)), H2 a = some (exo a C (some d)) ∧ H2 d = some (exd d fs) ∧ H1 d = none ∧ Q (.ref C) (some d) (upd (del H2 a) d (.xd fs))) (fun _ _ _ => False)
theorem g_mkO {fs : List Str} {Q : XK} (h : tr σ H (kMkO C fs Q)) : tMkO C (spI C fs) [] tr σ H Q := h
theorem g_kMkO {fs : List Str} {Q : XK} {ws : List V} (hl : ws.length = fs.length) (h9 : ws.length ≤ 900) (q : ∀ d H2, H d = none → Step [] H H2 → H2 d = some (.xd (fs.zip ws).reverse) → Q (.ref C) (some d) H2) : kMkO C fs Q ws H := by
  refine ⟨by omega, fun a ha => ⟨a, ws, by rw [List.append_nil], hl, upd_same, fun dx H2 hdx hne e1 e2 e3 => ⟨rfl, dx, _, e1, e2, ?_, ?_⟩⟩⟩
  · rwa [upd_ne hne] at hdx
  · have hdx : H dx = none := by rwa [upd_ne hne] at hdx
    refine q dx _ hdx ⟨fun b o _ h => ?_, fun b h => ?_⟩ upd_same
    · have h1 := ne_of_none h ha
      have h2 := ne_of_none h hdx
      rw [upd_ne h2, del_ne h1, e3 b h1 h2, upd_ne h1]
      exact h
    · by_cases h2 : b = dx
      · rw [h2, upd_same] at h; cases h
      · rw [upd_ne h2] at h
        by_cases h1 : b = a
        · rw [h1]; exact ha
        · rwa [del_ne h1, e3 b h1 h2, upd_ne h1] at h
theorem g_callS {sp : Sp} {E : L2.St → XK} {Q : VK} (h : tr σ H (fun vs H1 => sp vs H1 Q (E σ))) : tCallS sp E tr σ H Q := h
/-- err.f -/
def kXf (a : Addr) (cls : Value) (d : Option Addr) (C : Addr) (f : Str) (Q : VK) : VK := fun x H1 => x = .ref a ∧ cls = .ref C ∧ ∃ (dd : Addr) (fs : List (Str × V)) (v : V), d = some dd ∧ H1 dd = some (.xd fs) ∧ fs.lookup f = some v ∧ Q v H1
theorem g_xf {a : Addr} {cls : Value} {d : Option Addr} {Q : VK} (h : te σ H (kXf a cls d C f Q)) : tXf a cls d C f te σ H Q := h
theorem g_kXf {a dd : Addr} {fs : List (Str × V)} {v : V} {Q : VK} (h : H dd = some (.xd fs)) (e : fs.lookup f = some v) (q : Q v H) : kXf a (.ref C) (some dd) C f Q (.ref a) H := ⟨rfl, rfl, dd, fs, v, rfl, h, e, q⟩
end
/-! name = {.. for ..} on one line, the name a local -/
section
variable {X : Cx}
theorem ps_setDc {i : Nat} {y : Str} {py : Pos} {kx vx tg iter : Expr} {ifs : List Expr} {scope : Scope} {own : List (Str × Nat)} {pos spos : Pos} {wi : TI} {g : TG} {tt : TT} {tk tv : TE} (hc : X.calm = true) (hN : X.N.Nodup) (hy : X.N[i]? = some y) (hyl : X.env.scope.names.lookup y = some .local)
    (hsw : swapsWith (.DictComp kx vx [⟨tg, iter, ifs, 0⟩] scope pos) (some (.Name y py)) spos.line X.env = pure true) (hi : PI X tg iter wi) (ok : BlkOk X.N X.env.scope scope own)
    (hg : ∀ (s : Shared) (H : Hp) (C : Addr) (cl : List (Str × Addr)) (fp : List Addr), PG (X.blk s H scope (compEnvC scope cl C X.env) fp) tg g) (ht : ∀ (s : Shared) (H : Hp) (C : Addr) (cl : List (Str × Addr)) (fp : List Addr), PTs (X.blk s H scope (compEnvC scope cl C X.env) fp) ifs tt)
    (hk : ∀ (s : Shared) (H : Hp) (C : Addr) (cl : List (Str × Addr)) (fp : List Addr), PE (X.blk s H scope (compEnvC scope cl C X.env) fp) kx tk)
    (he : ∀ (s : Shared) (H : Hp) (C : Addr) (cl : List (Str × Addr)) (fp : List Addr), PE (X.blk s H scope (compEnvC scope cl C X.env) fp) vx tv) (hs : ∀ x, foldedSetIterable iter X.env x = pure x := by intro _; rfl) :
    PS X (.Assign [.Name y py] (.DictComp kx vx [⟨tg, iter, ifs, 0⟩] scope pos) spos) (tAsg (tDc wi g tt tk tv (own.map (·.2))) (gName i)) := by
  refine ⟨fun pins s σ H D I h => ?_⟩
  rw [exec_Assign_Name_used _ _ _ _ hsw]
  refine wpAny_bind (wpAny_standAt (wpAny_bind ?_))
  show wpAny _ X.A (do let _ ← comprehension (.DictComp kx vx [⟨tg, iter, ifs, 0⟩] scope pos) scope X.env (firstIterPos [⟨tg, iter, ifs, 0⟩] pos) newDict false (eval iter X.env) (some (assign (.Name y py) X.env))) _ _ s
  have h : tDc wi g tt tk tv (own.map (·.2)) σ H (fun x H1 => gName i x σ H1 D.nx) := h
  refine wpAny_bind (thn (dc_core (Qf := fun _ s' => SP X pins D .next s') hc hN I hi ok hg ht hk he hs h fun L C s' m H' I' q hn f => ?_) fun _ s' hq => wpAny_pure (wpAny_pure hq))
  show wpAny _ _ (assign (.Name y py) X.env (.ref L)) _ _ _
  refine wpAny_assign_Name (store_ok2 (v := V.ref L) I' hN hy (.inl hyl) rfl (fun s2 I2 ⟨a, sb, ha⟩ => ?_) (.inr hyl))
  obtain ⟨f0, f1, f2, f3, f4, f5⟩ := f
  have haC : C ≠ a := by
    rcases ha with z | z
    · rw [z]; exact f1
    · exact fun e => f4 y a z e.symm
  refine ⟨m, hn.sameBut sb haC, fun h3 sb3 => ?_⟩
  exact ⟨_, H', I2.turned (t' := s2.toks) (fun b o hb e => (sb3.2 b hb).trans e) f0 f1 f3 f4 f5, q⟩
theorem sw_trueD {kx vx : Expr} {gs : List Comprehension} {scope : Scope} {pos py : Pos} {y : Str} {l : Nat} {env : Env} (hk : env.scope.kind = .function) (hy : env.scope.names.lookup y = some .local) (hl : (py.line == pos.line) = true)
    (ha : (scope.names.any fun (n, k) => n == y && (k == .local || k == .cell)) = false) : swapsWith (.DictComp kx vx gs scope pos) (some (.Name y py)) l env = pure true := by
  have ky : env.kindOf y = some .local := hy
  have hb : env.blockKind = .function := by unfold Env.blockKind; rw [hk]; rfl
  unfold swapsWith
  simp only [hb, ky, ha, Expr.pos, hl]
  rfl
end
theorem unit2 {k : Nat} {A : Around} (hr : Room k A) : A.units + 64 + 2 < cLine := by
  have := hr.un
  omega
end My
/-! Kit7: ranges as values, isinstance. -/
namespace My
open PySem PySem.Spec PyProof.Rows L2
section
variable {X : Cx} {K : PySem.W.Frag} {H : Hp} {Q : VK} {i j : Int} {p : Addr}
def rRngV : List V → Hp → VK → Prop := fun vs H Q => ∃ j, vs = [V.int j] ∧ ∀ p, H p = none → Q (.ref p) (upd H p (.rng 0 j))
theorem cr_rngV : CallR X (.type "range") rRngV := by
  intro pins s σ H vs us Q I r h
  obtain ⟨j, rfl, q⟩ := h
  obtain ⟨u1, rfl, ri⟩ := vals1 r
  obtain ⟨t, rfl⟩ := ri
  refine call_range_1 ⟨.ref s.heap.objs.size, upd H s.heap.objs.size (.rng 0 j), I.laid (t' := s.toks + 1 + 1) (fun b o e => Heap.get?_push_of_some _ e) (Nat.le_refl _) ?_, rfl, q _ (I.hok.fresh (Nat.le_refl _))⟩
  exact ⟨s.toks, t, s.toks + 1, Heap.get?_push_size _ rfl⟩
theorem g_rngV (q : ∀ p H2, H p = none → Step [] H H2 → H2 p = some (.rng 0 j) → Q (.ref p) H2) : rRngV [.int j] H Q := ⟨j, rfl, fun p hp => q p _ hp (Step.new hp) upd_same⟩
def rInRng (neg : Bool) : R2 := fun x y H Q => ∃ i a lo hi, x = V.int i ∧ y = V.ref a ∧ H a = some (.rng lo hi) ∧ Q (.bl (if neg then !decide (lo ≤ i ∧ i < hi) else decide (lo ≤ i ∧ i < hi))) H
theorem op_inRng : OpR X (compareOp .In) (rInRng false) := op_in_rng
theorem op_notInRng : OpR X (compareOp .NotIn) (rInRng true) := by
  intro pins s σ H x y v u Q I rx ry h
  obtain ⟨i, a, lo, hi, rfl, rfl, ha, q⟩ := h
  obtain ⟨k, rfl⟩ := rx
  obtain rfl : u = Value.ref a := ry
  obtain ⟨t1, t2, t3, ho⟩ := I.hok a _ ha
  show wpAny _ _ (do return Value.bool (!(← contains (Value.ref a) (Value.int i k)))) _ _ s
  refine wpAny_bind (wpAny_contains_slot (T := "range") ⟨_, ho, rfl⟩ F.slot_range_contains (call_meets F.slot_range_contains ⟨_, ho, rfl⟩ F.entry_range_contains (F.args_range_contains_2 _ _) (q_contains a lo hi i t1 t2 t3 k)
    ⟨ho, wpAny_truthy_bool (wpAny_pure ⟨.bl _, H, I, rfl, ?_⟩)⟩))
  rw [place1]
  exact q
theorem g_inRng {lo hi : Int} (h : H p = some (.rng lo hi)) (q : Q (.bl (decide (lo ≤ i ∧ i < hi))) H) : rInRng false (.int i) (.ref p) H Q := ⟨i, p, lo, hi, rfl, rfl, h, q⟩
theorem g_notInRng {lo hi : Int} (h : H p = some (.rng lo hi)) (q : Q (.bl (!decide (lo ≤ i ∧ i < hi))) H) : rInRng true (.int i) (.ref p) H Q := ⟨i, p, lo, hi, rfl, rfl, h, q⟩
/-! isinstance -/
theorem g_isi {x : V} {a b : String} {r : Bool} (ty : TyX K H x (.type a)) (e : kitB a b = some r := by decide +kernel) (q : Q (.bl r) H) : rIsi K [x, .ty b] H Q := ⟨x, _, _, _, r, rfl, .ty b, ty, kit_ty e, q⟩
theorem g_isiDD {kvs : List (Key × V)} (h : H p = some (.dK kvs)) (q : Q (.bl true) H) : rIsi K [.ref p, .ty "dict"] H Q := g_isi (.base (.dK h)) (by decide +kernel) q
theorem g_isiDT {kvs : List (Key × V)} (h : H p = some (.dK kvs)) (q : Q (.bl false) H) : rIsi K [.ref p, .ty "tuple"] H Q := g_isi (.base (.dK h)) (by decide +kernel) q
theorem g_isiTT {xs : List V} (h : H p = some (.tup xs)) (q : Q (.bl true) H) : rIsi K [.ref p, .ty "tuple"] H Q := g_isi (.base (.tup h)) (by decide +kernel) q
theorem g_isiTD {xs : List V} (h : H p = some (.tup xs)) (q : Q (.bl false) H) : rIsi K [.ref p, .ty "dict"] H Q := g_isi (.base (.tup h)) (by decide +kernel) q
end
end My
/-! Kit8: enumerate(zip(xs, ys)) of two lists. -/
namespace My
open PySem PySem.Spec PyProof.Rows L2
section
variable {prog : Program} {w : World} {A : Around} {E : Value → Shared → Prop} {s : Shared} {z TI TO i1 i2 l1 l2 e : Addr}
abbrev IsZ (h : Heap) (z TI TO : Addr) (f0 f1 : Value) : Prop := h.get? z = some { cls := .type "zip", dict := none, data := .fields #[f0, f1, .bool false, .ref TI, .ref TO], slots := #[] }
/-- the pair given out ahead is free: as at the first turn -/
theorem zip_free {k1 k2 : Nat} {xs ys : Array Value} {x y a b f0 f1 : Value} {Q : Value → Shared → Prop} (D : ZipApart z TI TO i1 i2 l1 l2)
    (fr : ∀ Q' : Bool → Shared → Prop, Q' true s → wpAny (model prog w) A (Builtin.SmallTypes.ownedTupleIsFree (.ref z)) Q' E s)
    (hz : IsZ s.heap z TI TO f0 f1) (hI : IsPair s.heap TI (.ref i1) (.ref i2)) (hO : IsPair s.heap TO a b) (g1 : s.heap.IsListIter i1 l1 k1) (g2 : s.heap.IsListIter i2 l2 k2)
    (m1 : s.heap.IsList l1 xs) (m2 : s.heap.IsList l2 ys) (ex : xs[k1]? = some x) (ey : ys[k2]? = some y)
    (q : ∀ h', IsZ h' z TI TO (rawInt s.heap.objs.size) (.bool false) → IsPair h' TO x y → h'.IsListIter i1 l1 (k1 + 1) → h'.IsListIter i2 l2 (k2 + 1) → IsPair h' s.heap.objs.size x y → h'.objs.size = s.heap.objs.size + 1 →
      (∀ c o, c ≠ z → c ≠ TO → c ≠ i1 → c ≠ i2 → s.heap.get? c = some o → h'.get? c = some o) → Q (.ref s.heap.objs.size) { s with heap := h' }) :
    wpAny (model prog w) A (Builtin.«zip.__next__» ⟨[.ref z], []⟩) (fun fin s' => ∃ v, fin = .done (.ret v) ∧ Q v s') E s := by
  show wpAny (model prog w) A (field (.ref z) 2 >>= _) _ E s
  refine wpAny_bind (wpAny_field hz rfl (x := .bool false) rfl ?_); show wpAny (model prog w) A (field (.ref z) 3 >>= _) _ E s
  refine wpAny_bind (wpAny_field hz rfl (x := .ref TI) rfl (wpAny_bind (wpAny_seqItems hI rfl ?_))); show wpAny (model prog w) A (Builtin.SmallTypes.ownedTupleIsFree (.ref z) >>= _) _ E s
  refine wpAny_bind (fr _ ?_); simp only [if_true]
  refine wpAny_bind (wpAny_rule (wpAny_bind (wpAny_field hz rfl (x := .ref TO) rfl (wpAny_bind (wpAny_setField_rec hz (by simp) fun ha za ka => ?_)))))
  replace za : IsZ ha z TI TO .ellipsis f1 := za
  refine wpAny_bind ?_; simp only [List.zipIdx_cons, List.zipIdx_nil, List.forIn_cons, List.forIn_nil]
  refine wpAny_bind (wpAny_bind (wpAny_onRaise ?_)); show wpAny (model prog w) A (Builtin.SmallTypes.nextOf (.ref i1) >>= _) _ _ _
  refine wpAny_bind (wpAny_nextOf_list_item (g1.extBut ka.extBut D.i1z) (m1.extBut ka.extBut D.l1z) ex fun hb g1b kb => wpAny_pure ?_)
  have Ob : IsPair hb TO a b := kb.extBut TO _ D.TOi1 (ka.extBut TO _ D.TOz hO)
  refine wpAny_bind (wpAny_seqItems Ob rfl (wpAny_bind (wpAny_updateSeq_pair Ob fun hc Oc kc => ?_)))
  replace Oc : IsPair hc TO x b := Oc
  refine wpAny_bind (wpAny_letGo (wpAny_pure (wpAny_bind (wpAny_bind (wpAny_onRaise ?_))))); show wpAny (model prog w) A (Builtin.SmallTypes.nextOf (.ref i2) >>= _) _ _ _
  refine wpAny_bind (wpAny_nextOf_list_item (((g2.extBut ka.extBut D.i2z).extBut kb.extBut D.i12.symm).extBut kc.extBut D.TOi2.symm) (((m2.extBut ka.extBut D.l2z).extBut kb.extBut D.l2i1).extBut kc.extBut D.l2TO) ey fun hd g2d kd => wpAny_pure ?_)
  have Od : IsPair hd TO x b := kd.extBut TO _ D.TOi2 Oc
  refine wpAny_bind (wpAny_seqItems Od rfl (wpAny_bind (wpAny_updateSeq_pair Od fun he Oe ke => ?_)))
  replace Oe : IsPair he TO x y := Oe
  refine wpAny_bind (wpAny_letGo (wpAny_pure (wpAny_pure (wpAny_bind (wpAny_seqItems Oe rfl (wpAny_bind (wpAny_newTuple ?_)))))))
  have sz : he.objs.size = s.heap.objs.size := by rw [ke.1, kd.1, kc.1, kb.1, ka.1]
  have ze : IsZ he z TI TO .ellipsis f1 := ke.extBut z _ D.TOz.symm (kd.extBut z _ D.i2z.symm (kc.extBut z _ D.TOz.symm (kb.extBut z _ D.i1z.symm za)))
  have kk : ∀ c o, c ≠ z → c ≠ TO → c ≠ i1 → c ≠ i2 → s.heap.get? c = some o → he.get? c = some o := fun c o n1 n2 n3 n4 u => ke.extBut c o n2 (kd.extBut c o n4 (kc.extBut c o n2 (kb.extBut c o n3 (ka.extBut c o n1 u))))
  have g1e : he.IsListIter i1 l1 (k1 + 1) := ((g1b.extBut kc.extBut D.TOi1.symm).extBut kd.extBut D.i12).extBut ke.extBut D.TOi1.symm
  have g2e : he.IsListIter i2 l2 (k2 + 1) := g2d.extBut ke.extBut D.TOi2.symm
  have zlt : z < he.objs.size := Heap.lt_size ze
  show wpAny (model prog w) A (Builtin.SmallTypes.ownedTupleHandOut (.ref z) (.ref he.objs.size) >>= _) _ E _
  refine wpAny_bind ?_
  unfold Builtin.SmallTypes.ownedTupleHandOut
  have zf : IsZ (he.push { cls := .type "tuple", data := .seq #[x, y] }) z TI TO .ellipsis f1 := Heap.get?_push_of_some _ ze
  refine wpAny_bind (wpAny_setField_rec zf (by simp) fun hg zg kg => ?_)
  replace zg : IsZ hg z TI TO (rawInt he.objs.size) f1 := zg
  refine wpAny_setField_rec zg (by simp) fun hi zi ki => ?_
  replace zi : IsZ hi z TI TO (rawInt he.objs.size) (.bool false) := zi
  have up : ∀ c o, c ≠ z → he.get? c = some o → hi.get? c = some o := fun c o n1 u => ki.extBut c o n1 (kg.extBut c o n1 (Heap.get?_push_of_some _ u))
  have Ti : IsPair hi he.objs.size x y := ki.extBut _ _ (Nat.ne_of_gt zlt) (kg.extBut _ _ (Nat.ne_of_gt zlt) (Heap.get?_push_size _ rfl))
  have si : hi.objs.size = he.objs.size + 1 := by rw [ki.1, kg.1, Heap.size_push]
  rw [sz] at zi Ti si
  refine wpAny_pure ⟨_, rfl, ?_⟩
  show Q (.ref he.objs.size) _
  rw [sz]
  exact q hi zi (up TO _ D.TOz Oe) (g1e.at fun o u => up i1 o D.i1z u) (g2e.at fun o u => up i2 o D.i2z u) Ti si fun c o n1 n2 n3 n4 u => up c o n1 (kk c o n1 n2 n3 n4 u)
/-- what is known of such a zip -/
structure ZSt (h : Heap) (z TI TO i1 i2 l1 l2 : Addr) (k : Nat) : Prop where
  zp : ∃ f0 f1, IsZ h z TI TO f0 f1 ∧ ((f0 = .none ∧ f1 = .bool false) ∨ ∃ (T : Addr) (f : Bool), f0 = rawInt T ∧ f1 = .bool f)
  ti : IsPair h TI (.ref i1) (.ref i2)
  to : ∃ a b, IsPair h TO a b
  g1 : h.IsListIter i1 l1 k
  g2 : h.IsListIter i2 l2 k
theorem not_alive {a : Addr} {Q : Option Obj → Shared → Prop} (ho : s.heap.get? a = none) (h : Q none s) : wpAny (model prog w) A (loadIfAlive a) Q E s := by
  have k : Q (s.heap.get? a) s := by rw [ho]; exact h
  exact fun _ _ _ => k
theorem gone_is_free {T : Addr} {f1 : Value} (hz : IsZ s.heap z TI TO (rawInt T) f1) (hT : s.heap.get? T = none) (Q' : Bool → Shared → Prop) (h : Q' true s) : wpAny (model prog w) A (Builtin.SmallTypes.ownedTupleIsFree (.ref z)) Q' E s := by
  unfold Builtin.SmallTypes.ownedTupleIsFree
  refine wpAny_bind (wpAny_field hz rfl (x := rawInt T) rfl ?_); show wpAny (model prog w) A (loadIfAlive ((T : Int).toNat) >>= _) _ E s
  rw [Int.toNat_natCast]
  refine wpAny_bind (not_alive hT ?_)
  exact wpAny_pure h
theorem none_is_free {f1 : Value} (hz : IsZ s.heap z TI TO .none f1) (Q' : Bool → Shared → Prop) (h : Q' true s) : wpAny (model prog w) A (Builtin.SmallTypes.ownedTupleIsFree (.ref z)) Q' E s := by
  unfold Builtin.SmallTypes.ownedTupleIsFree
  exact wpAny_bind (wpAny_field hz rfl (x := .none) rfl (wpAny_pure h))
theorem zip_any {k : Nat} {xs ys : Array Value} {x y : Value} {Q : Value → Shared → Prop} (D : ZipApart z TI TO i1 i2 l1 l2) (st : ZSt s.heap z TI TO i1 i2 l1 l2 k)
    (m1 : s.heap.IsList l1 xs) (m2 : s.heap.IsList l2 ys) (ex : xs[k]? = some x) (ey : ys[k]? = some y)
    (q : ∀ h', ZSt h' z TI TO i1 i2 l1 l2 (k + 1) → IsPair h' s.heap.objs.size x y → h'.objs.size = s.heap.objs.size + 1 →
      (∀ c o, c ≠ z → c ≠ TO → c ≠ i1 → c ≠ i2 → s.heap.get? c = some o → h'.get? c = some o) → Q (.ref s.heap.objs.size) { s with heap := h' }) :
    wpAny (model prog w) A (Builtin.«zip.__next__» ⟨[.ref z], []⟩) (fun fin s' => ∃ v, fin = .done (.ret v) ∧ Q v s') E s := by
  obtain ⟨⟨f0, f1, hz, hf⟩, ti, ⟨a, b, to⟩, g1, g2⟩ := st
  have fresh : ∀ fr : (∀ Q' : Bool → Shared → Prop, Q' true s → wpAny (model prog w) A (Builtin.SmallTypes.ownedTupleIsFree (.ref z)) Q' E s), wpAny (model prog w) A (Builtin.«zip.__next__» ⟨[.ref z], []⟩) (fun fin s' => ∃ v, fin = .done (.ret v) ∧ Q v s') E s := fun fr =>
    zip_free D fr hz ti to g1 g2 m1 m2 ex ey fun h' a1 a2 a3 a4 a5 a6 a7 => q h' ⟨⟨_, _, a1, .inr ⟨_, _, rfl, rfl⟩⟩, a7 _ _ D.TIz D.TITO D.TIi1 D.TIi2 ti, ⟨_, _, a2⟩, a3, a4⟩ a5 a6 a7
  rcases hf with ⟨rfl, rfl⟩ | ⟨T, f, rfl, rfl⟩
  · exact fresh fun Q' hq => none_is_free hz Q' hq
  · cases hT : s.heap.get? T with
    | none => exact fresh fun Q' hq => gone_is_free hz hT Q' hq
    | some oT => exact zip_next_item_held D hz hT ti g1 g2 m1 m2 ex ey fun h' a1 a3 a4 a5 a6 a7 => q h' ⟨⟨_, _, a1, .inr ⟨_, _, rfl, rfl⟩⟩, a7 _ _ D.TIz D.TIi1 D.TIi2 ti, ⟨_, _, a7 _ _ D.TOz D.TOi1 D.TOi2 to⟩, a3, a4⟩ a5 a6 fun c o n1 n2 n3 n4 u => a7 c o n1 n3 n4 u
abbrev Ends4 (s : Shared) (z TO i1 i2 : Addr) (E : Value → Shared → Prop) : Prop := ∀ h' x, (∀ c o, c ≠ z → c ≠ TO → c ≠ i1 → c ≠ i2 → s.heap.get? c = some o → h'.get? c = some o) → (∃ o, h'.get? x = some o ∧ o.cls = .type "StopIteration") → E (.ref x) { s with heap := h' }
theorem zip_free_end {k : Nat} {xs ys : Array Value} {a b f0 f1 : Value} {Q : Fin → Shared → Prop} (hh : A.handled = none) (D : ZipApart z TI TO i1 i2 l1 l2)
    (fr : ∀ Q' : Bool → Shared → Prop, Q' true s → wpAny (model prog w) A (Builtin.SmallTypes.ownedTupleIsFree (.ref z)) Q' E s)
    (hz : IsZ s.heap z TI TO f0 f1) (hI : IsPair s.heap TI (.ref i1) (.ref i2)) (hO : IsPair s.heap TO a b) (g1 : s.heap.IsListIter i1 l1 k) (g2 : s.heap.IsListIter i2 l2 k)
    (m1 : s.heap.IsList l1 xs) (m2 : s.heap.IsList l2 ys) (ex : xs[k]? = none ∨ ys[k]? = none) (q : Ends4 s z TO i1 i2 E) : wpAny (model prog w) A (Builtin.«zip.__next__» ⟨[.ref z], []⟩) Q E s := by
  show wpAny (model prog w) A (field (.ref z) 2 >>= _) _ E s
  refine wpAny_bind (wpAny_field hz rfl (x := .bool false) rfl ?_); show wpAny (model prog w) A (field (.ref z) 3 >>= _) _ E s
  refine wpAny_bind (wpAny_field hz rfl (x := .ref TI) rfl (wpAny_bind (wpAny_seqItems hI rfl ?_))); show wpAny (model prog w) A (Builtin.SmallTypes.ownedTupleIsFree (.ref z) >>= _) _ E s
  refine wpAny_bind (fr _ ?_); simp only [if_true]
  refine wpAny_bind (wpAny_rule (wpAny_bind (wpAny_field hz rfl (x := .ref TO) rfl (wpAny_bind (wpAny_setField_rec hz (by simp) fun ha za ka => ?_)))))
  replace za : IsZ ha z TI TO .ellipsis f1 := za
  refine wpAny_bind ?_; simp only [List.zipIdx_cons, List.zipIdx_nil, List.forIn_cons, List.forIn_nil]
  refine wpAny_bind (wpAny_bind (wpAny_onRaise ?_)); show wpAny (model prog w) A (Builtin.SmallTypes.nextOf (.ref i1) >>= _) _ _ _
  have g1a := g1.extBut ka.extBut D.i1z
  have m1a := m1.extBut ka.extBut D.l1z
  cases e1 : xs[k]? with
  | none =>
    refine wpAny_bind (wpAny_nextOf_list_end hh g1a m1a e1 fun hb x kb hx => ?_)
    obtain ⟨ob, hob, cb⟩ := hx
    have zb : IsZ hb z TI TO .ellipsis f1 := kb z _ D.i1z.symm za
    have nz : x ≠ z := fun u => by subst u; rw [zb] at hob; cases hob; simp at cb
    exact wpAny_setField_rec zb (by simp) fun hc _ kc => q hc x (fun c o n1 _ n3 _ u => kc.extBut c o n1 (kb c o n3 (ka.extBut c o n1 u))) ⟨ob, kc.extBut x _ nz hob, cb⟩
  | some u1 =>
    have e2 : ys[k]? = none := by
      rcases ex with ex | ex
      · rw [e1] at ex; cases ex
      · exact ex
    refine wpAny_bind (wpAny_nextOf_list_item g1a m1a e1 fun hb g1b kb => wpAny_pure ?_)
    have Ob : IsPair hb TO a b := kb.extBut TO _ D.TOi1 (ka.extBut TO _ D.TOz hO)
    refine wpAny_bind (wpAny_seqItems Ob rfl (wpAny_bind (wpAny_updateSeq_pair Ob fun hc Oc kc => ?_)))
    refine wpAny_bind (wpAny_letGo (wpAny_pure (wpAny_bind (wpAny_bind (wpAny_onRaise ?_))))); show wpAny (model prog w) A (Builtin.SmallTypes.nextOf (.ref i2) >>= _) _ _ _
    refine wpAny_bind (wpAny_nextOf_list_end hh (((g2.extBut ka.extBut D.i2z).extBut kb.extBut D.i12.symm).extBut kc.extBut D.TOi2.symm) (((m2.extBut ka.extBut D.l2z).extBut kb.extBut D.l2i1).extBut kc.extBut D.l2TO) e2 fun hd x kd hx => ?_)
    obtain ⟨ob, hob, cb⟩ := hx
    have zd : IsZ hd z TI TO .ellipsis f1 := kd z _ D.i2z.symm (kc.extBut z _ D.TOz.symm (kb.extBut z _ D.i1z.symm za))
    have nz : x ≠ z := fun u => by subst u; rw [zd] at hob; cases hob; simp at cb
    exact wpAny_setField_rec zd (by simp) fun hf _ kf => q hf x (fun c o n1 n2 n3 n4 u => kf.extBut c o n1 (kd c o n4 (kc.extBut c o n2 (kb.extBut c o n3 (ka.extBut c o n1 u))))) ⟨ob, kf.extBut x _ nz hob, cb⟩
theorem zip_end {k : Nat} {xs ys : Array Value} {Q : Fin → Shared → Prop} (hh : A.handled = none) (D : ZipApart z TI TO i1 i2 l1 l2) (st : ZSt s.heap z TI TO i1 i2 l1 l2 k)
    (m1 : s.heap.IsList l1 xs) (m2 : s.heap.IsList l2 ys) (ex : xs[k]? = none ∨ ys[k]? = none) (q : Ends4 s z TO i1 i2 E) : wpAny (model prog w) A (Builtin.«zip.__next__» ⟨[.ref z], []⟩) Q E s := by
  obtain ⟨⟨f0, f1, hz, hf⟩, ti, ⟨a, b, to⟩, g1, g2⟩ := st
  rcases hf with ⟨rfl, rfl⟩ | ⟨T, f, rfl, rfl⟩
  · exact zip_free_end hh D (fun Q' hq => none_is_free hz Q' hq) hz ti to g1 g2 m1 m2 ex q
  · cases hT : s.heap.get? T with
    | none => exact zip_free_end hh D (fun Q' hq => gone_is_free hz hT Q' hq) hz ti to g1 g2 m1 m2 ex q
    | some oT => exact zip_next_end_held hh D hz hT ti g1 g2 m1 m2 ex fun h' x n hx => q h' x (fun c o n1 _ n3 n4 u => n c o n1 n3 n4 u) hx
theorem ZSt.ty {k : Nat} (st : ZSt s.heap z TI TO i1 i2 l1 l2 k) : s.TypeIs (.ref z) "zip" := by
  obtain ⟨f0, f1, hz, _⟩ := st.zp
  exact ⟨_, hz, rfl⟩
theorem zip_nextOf {k : Nat} {xs ys : Array Value} {x y : Value} {Q : Value → Shared → Prop} (D : ZipApart z TI TO i1 i2 l1 l2) (st : ZSt s.heap z TI TO i1 i2 l1 l2 k)
    (m1 : s.heap.IsList l1 xs) (m2 : s.heap.IsList l2 ys) (ex : xs[k]? = some x) (ey : ys[k]? = some y)
    (q : ∀ h', ZSt h' z TI TO i1 i2 l1 l2 (k + 1) → IsPair h' s.heap.objs.size x y → h'.objs.size = s.heap.objs.size + 1 →
      (∀ c o, c ≠ z → c ≠ TO → c ≠ i1 → c ≠ i2 → s.heap.get? c = some o → h'.get? c = some o) → Q (.ref s.heap.objs.size) { s with heap := h' }) :
    wpAny (model prog w) A (Builtin.SmallTypes.nextOf (.ref z)) Q E s := by
  unfold Builtin.SmallTypes.nextOf
  exact wpAny_bind (wpAny_callSpecial?_slot (name := Str.ofString "__next__") st.ty F.slot_zip_next (wpAny_call_entry F.slot_zip_next st.ty F.entry_zip_next
    (zip_any D st m1 m2 ex ey fun h' a1 a2 a3 a4 => wpAny_pure (q h' a1 a2 a3 a4)) (F.args_zip_next_1 _)))
theorem zip_nextOf_end {k : Nat} {xs ys : Array Value} {Q : Value → Shared → Prop} (hh : A.handled = none) (D : ZipApart z TI TO i1 i2 l1 l2) (st : ZSt s.heap z TI TO i1 i2 l1 l2 k)
    (m1 : s.heap.IsList l1 xs) (m2 : s.heap.IsList l2 ys) (ex : xs[k]? = none ∨ ys[k]? = none) (q : Ends4 s z TO i1 i2 E) : wpAny (model prog w) A (Builtin.SmallTypes.nextOf (.ref z)) Q E s := by
  unfold Builtin.SmallTypes.nextOf
  exact wpAny_bind (wpAny_callSpecial?_slot (name := Str.ofString "__next__") st.ty F.slot_zip_next (wpAny_call_entry F.slot_zip_next st.ty F.entry_zip_next
    (zip_end hh D st m1 m2 ex q) (F.args_zip_next_1 _)))
/-- a turn of enumerate over an iterator whose next lays an object -/
theorem enum_turn {it : Addr} {i : Nat} {old x : Value} {R : Heap → Prop} {Q : Option Value → Shared → Prop} (he : IsEnum s.heap e it i old)
    (hin : ∀ Q' E' : Value → Shared → Prop, (∀ h1, R h1 → IsEnum h1 e it i old → Q' x { s with heap := h1 }) → wpAny (model prog w) A.in1 (Builtin.SmallTypes.nextOf (.ref it)) Q' E' s)
    (q : ∀ h1 h', R h1 → IsEnumOut h' e it ((i : Int) + 1) x h1.objs.size → h'.get? h1.objs.size = some { cls := .type "tuple", data := .seq #[.int i s.toks, x] } → h'.objs.size = h1.objs.size + 1 →
      (∀ b o, b ≠ e → h1.get? b = some o → h'.get? b = some o) → Q (some (.ref h1.objs.size)) { s with heap := h', toks := s.toks + 1 }) :
    wpAny (model prog w) A (pyNext (.ref e)) Q E s := by
  have hT : s.TypeIs (.ref e) "enumerate" := ⟨_, he, rfl⟩
  unfold pyNext
  refine wpAny_bind (wpAny_attempt (wpAny_callSpecial?_slot (name := Str.ofString "__next__") hT F.slot_enumerate_next (wpAny_call_entry F.slot_enumerate_next hT F.entry_enumerate_next ?_ (F.args_enumerate_next_1 _))))
  obtain ⟨hp, g, d, tk, os⟩ := s
  show wpAny (model prog w) _ (field (.ref e) 2 >>= _) _ _ _
  refine wpAny_bind (wpAny_field he rfl (x := .ref it) rfl ?_)
  refine wpAny_bind (hin _ _ fun h1 r1 e1 => ?_)
  show wpAny (model prog w) _ (field (.ref e) 3 >>= _) _ _ ⟨h1, g, d, tk, os⟩
  refine wpAny_bind (wpAny_field e1 rfl (x := rawInt i) rfl ?_); show wpAny (model prog w) _ (field (.ref e) 4 >>= _) _ _ ⟨h1, g, d, tk, os⟩
  refine wpAny_bind (wpAny_field e1 rfl (x := .none) rfl ?_); show wpAny (model prog w) _ (mkInt i >>= _) _ _ ⟨h1, g, d, tk, os⟩
  refine wpAny_bind (wpAny_mkInt ?_); show wpAny (model prog w) _ (setField (.ref e) 3 (rawInt ((i : Int) + 1)) >>= _) _ _ ⟨h1, g, d, tk + 1, os⟩
  refine wpAny_bind (wpAny_setField_rec e1 (by simp) fun h2 e2 k2 => ?_)
  replace e2 : IsEnum h2 e it ((i : Int) + 1) old := e2
  replace k2 : Heap.SameBut e h1 h2 := k2
  show wpAny (model prog w) _ (setField (.ref e) 4 .none >>= _) _ _ ⟨h2, g, d, tk + 1, os⟩
  refine wpAny_bind (wpAny_setField_rec e2 (by simp) fun h3 e3 k3 => ?_)
  replace e3 : IsEnum h3 e it ((i : Int) + 1) old := e3
  replace k3 : Heap.SameBut e h2 h3 := k3
  show wpAny (model prog w) _ (newTuple [.int i tk, x] >>= _) _ _ ⟨h3, g, d, tk + 1, os⟩
  refine wpAny_bind (wpAny_newTuple ?_)
  have sz : h3.objs.size = h1.objs.size := by rw [k3.1, k2.1]
  have lt : e < h1.objs.size := Heap.lt_size e1
  have e4 : IsEnum (h3.push { cls := .type "tuple", data := .seq #[.int i tk, x] }) e it ((i : Int) + 1) old := Heap.get?_push_of_some _ e3
  have t4 : (h3.push { cls := .type "tuple", data := .seq #[.int i tk, x] }).get? h1.objs.size = some { cls := .type "tuple", data := .seq #[.int i tk, x] } := by rw [← sz]; exact Heap.get?_push_size _ rfl
  have z4 : (h3.push { cls := .type "tuple", data := .seq #[.int i tk, x] }).objs.size = h1.objs.size + 1 := by rw [Heap.size_push, sz]
  have u4 : ∀ b o, b ≠ e → h1.get? b = some o → (h3.push { cls := .type "tuple", data := .seq #[.int i tk, x] }).get? b = some o := fun b o n u => Heap.get?_push_of_some _ (k3.extBut b o n (k2.extBut b o n u))
  generalize h3.push { cls := .type "tuple", data := .seq #[.int i tk, x] } = h4 at e4 t4 z4 u4 ⊢
  show wpAny (model prog w) _ (Builtin.SmallTypes.ownedTupleIsFree (.ref e) >>= _) _ _ ⟨h4, g, d, tk + 1, os⟩
  rw [sz]
  refine wpAny_bind ?_
  unfold Builtin.SmallTypes.ownedTupleIsFree
  refine wpAny_bind (wpAny_field e4 rfl (x := .none) rfl (wpAny_pure ?_))
  simp only [if_true]
  refine wpAny_bind (wpAny_rule (wpAny_bind (wpAny_field e4 rfl (x := old) rfl (wpAny_bind (wpAny_setField_rec e4 (by simp) fun h5 e5 k5 => ?_)))))
  replace e5 : IsEnum h5 e it ((i : Int) + 1) x := e5
  replace k5 : Heap.SameBut e h4 h5 := k5
  show wpAny (model prog w) _ (Builtin.SmallTypes.ownedTupleHandOut (.ref e) (.ref h1.objs.size) >>= _) _ _ ⟨h5, g, d, tk + 1, os⟩
  refine wpAny_bind ?_
  unfold Builtin.SmallTypes.ownedTupleHandOut
  refine wpAny_bind (wpAny_setField_rec e5 (by simp) fun h6 e6 k6 => ?_)
  replace e6 : IsEnumOut h6 e it ((i : Int) + 1) x h1.objs.size := e6
  replace k6 : Heap.SameBut e h5 h6 := k6
  refine wpAny_setField_rec e6 (by simp) fun h7 e7 k7 => ?_
  replace e7 : IsEnumOut h7 e it ((i : Int) + 1) x h1.objs.size := e7
  replace k7 : Heap.SameBut e h6 h7 := k7
  have up : ∀ b o, b ≠ e → h4.get? b = some o → h7.get? b = some o := fun b o n u => k7.extBut b o n (k6.extBut b o n (k5.extBut b o n u))
  exact wpAny_bind (wpAny_letGo (wpAny_pure ⟨_, rfl, wpAny_pure (q h1 h7 r1 e7 (up _ _ (Nat.ne_of_gt lt) t4) (by rw [k7.1, k6.1, k5.1, z4]) fun b o n u => up b o n (u4 b o n u))⟩))
theorem enum_stop {it : Addr} {i : Nat} {old : Value} {R : Heap → Prop} {Q : Option Value → Shared → Prop} (he : IsEnum s.heap e it i old)
    (hin : ∀ Q' E' : Value → Shared → Prop, (∀ h1 x, R h1 → (∃ o, h1.get? x = some o ∧ o.cls = .type "StopIteration") → E' (.ref x) { s with heap := h1 }) → wpAny (model prog w) A.in1 (Builtin.SmallTypes.nextOf (.ref it)) Q' E' s)
    (q : ∀ h1, R h1 → Q none { s with heap := h1 }) : wpAny (model prog w) A (pyNext (.ref e)) Q E s := by
  have hT : s.TypeIs (.ref e) "enumerate" := ⟨_, he, rfl⟩
  unfold pyNext
  refine wpAny_bind (wpAny_attempt (wpAny_callSpecial?_slot (name := Str.ofString "__next__") hT F.slot_enumerate_next (wpAny_call_entry F.slot_enumerate_next hT F.entry_enumerate_next ?_ (F.args_enumerate_next_1 _))))
  show wpAny (model prog w) _ (field (.ref e) 2 >>= _) _ _ _
  refine wpAny_bind (wpAny_field he rfl (x := .ref it) rfl ?_)
  refine wpAny_bind (hin _ _ fun h1 x r1 ⟨o, ho, hc⟩ => ?_)
  refine wpAny_bind (wpAny_isInstance (T := "StopIteration") (b := true) ⟨o, ho, hc⟩ isSubtype_stop ?_)
  exact wpAny_pure (q h1 r1)
end
/-- the lists at a and b as they stand at each turn: the count with a pair of items -/
def Itez (K : PySem.W.Frag) (a b : Addr) : It :=
  ⟨fun i H => ∃ (xs ys : List V) (x y : V), SqL K H a xs ∧ SqL K H b ys ∧ xs[i]? = some x ∧ ys[i]? = some y,
    fun i H v H' => ∃ T U x y, v = .ref T ∧ H U = none ∧ H T = none ∧ T ≠ U ∧ H' = upd (upd H U (.tup [x, y])) T (.tup [.int (i : Nat), .ref U]) ∧ (∀ xs, SqL K H a xs → xs[i]? = some x) ∧ ∀ ys, SqL K H b ys → ys[i]? = some y,
    fun i H => ∃ xs ys : List V, SqL K H a xs ∧ SqL K H b ys ∧ (xs.length ≤ i ∨ ys.length ≤ i)⟩
structure EApart (e z TI TO i1 i2 : Addr) : Prop where
  ez : e ≠ z
  ei : e ≠ TI
  eo : e ≠ TO
  e1 : e ≠ i1
  e2 : e ≠ i2
theorem ZSt.keep {h h' : Heap} {z TI TO i1 i2 l1 l2 : Addr} {k : Nat} (st : ZSt h z TI TO i1 i2 l1 l2 k) (u : ∀ b, b = z ∨ b = TI ∨ b = TO ∨ b = i1 ∨ b = i2 → ∀ o, h.get? b = some o → h'.get? b = some o) : ZSt h' z TI TO i1 i2 l1 l2 k := by
  obtain ⟨⟨f0, f1, hz, hf⟩, ti, ⟨a, b, to⟩, g1, g2⟩ := st
  exact ⟨⟨f0, f1, u z (.inl rfl) _ hz, hf⟩, u TI (by simp) _ ti, ⟨a, b, u TO (by simp) _ to⟩, g1.at fun o x => u i1 (by simp) o x, g2.at fun o x => u i2 (by simp) o x⟩
theorem turn_ez {P : Program} {w : World} {K : PySem.W.Frag} {elts : List Expr} {kk : Nat} {tpos : Pos} {a b e z TI TO i1 i2 : Addr} (D : ZipApart z TI TO i1 i2 a b) (Z : EApart e z TI TO i1 i2) :
    Turn P w K (.Tuple elts kk tpos) (Itez K a b) [e, z, TI, TO, i1, i2] e (fun i h => (∃ old, IsEnum h e z ((i : Nat) : Int) old) ∧ ZSt h z TI TO i1 i2 a b i) where
  mem := by simp
  obj := fun i h st c hc => by
    obtain ⟨⟨old, he⟩, ⟨f0, f1, hz, hf⟩, hTI, ⟨x, y, hTO⟩, ⟨o1, e1, _, d1⟩, ⟨o2, e2, _, d2⟩⟩ := st
    have e' : c = e ∨ c = z ∨ c = TI ∨ c = TO ∨ c = i1 ∨ c = i2 := by simpa using hc
    rcases e' with q | q | q | q | q | q
    · rw [q]; exact ⟨_, he, fun v q => nomatch q⟩
    · rw [q]; exact ⟨_, hz, fun v q => nomatch q⟩
    · rw [q]; exact ⟨_, hTI, fun v q => nomatch q⟩
    · rw [q]; exact ⟨_, hTO, fun v q => nomatch q⟩
    · rw [q]; exact ⟨o1, e1, fun v q => by rw [d1] at q; cases q⟩
    · rw [q]; exact ⟨o2, e2, fun v q => by rw [d2] at q; cases q⟩
  keep := fun i h h' st k => by
    obtain ⟨⟨old, he⟩, hz⟩ := st
    refine ⟨⟨old, k e (by simp) _ he⟩, hz.keep fun c hc o u => k c ?_ o u⟩
    rcases hc with q | q | q | q | q <;> rw [q] <;> simp
  item := by
    intro X hP hw hK hc i pins s σ H E I hf st hg
    subst hP hw hK
    obtain ⟨⟨old, he⟩, hz⟩ := st
    obtain ⟨xs, ys, x, y, hqx, hqy, hx, hy⟩ := hg
    obtain ⟨its, rv, p, _⟩ := I.list hqx
    obtain ⟨its2, rv2, p2, _⟩ := I.list hqy
    obtain ⟨u, hu, ru⟩ := rv.get hx
    obtain ⟨u2, hu2, ru2⟩ := rv2.get hy
    have el : e < s.heap.objs.size := Heap.lt_size he
    refine enum_turn (x := .ref s.heap.objs.size) (R := fun h1 => ZSt h1 z TI TO i1 i2 a b (i + 1) ∧ IsPair h1 s.heap.objs.size u u2 ∧ h1.objs.size = s.heap.objs.size + 1 ∧ ∀ c o, c ≠ z → c ≠ TO → c ≠ i1 → c ≠ i2 → s.heap.get? c = some o → h1.get? c = some o) he (fun Q' E' hq => ?_) ?_
    · exact zip_nextOf D hz p.isList p2.isList (by simpa using hu) (by simpa using hu2) fun h1 a1 a2 a3 a4 => hq h1 ⟨a1, a2, a3, a4⟩ (a4 e _ Z.ez Z.eo Z.e1 Z.e2 he)
    rintro h1 h2 ⟨z1, t1, n1, k1⟩ he2 tt n2 k2
    refine ⟨_, rfl, wpAny_letOwnedTupleGo_enum (s := { s with heap := h2, toks := s.toks + 1 }) he2 fun h3 he3 sb => ?_⟩
    have I1 : Inv X pins σ (upd H s.heap.objs.size (.tup [x, y])) { s with heap := h1 } :=
      I.turnedNew (t' := s.toks) (ch := [z, TO, i1, i2]) (fun c o hc q => k1 c o (fun q' => hc (by simp [q'])) (fun q' => hc (by simp [q'])) (fun q' => hc (by simp [q'])) (fun q' => hc (by simp [q'])) q) (fun c hc => hf c (by
        have e' : c = z ∨ c = TO ∨ c = i1 ∨ c = i2 := by simpa using hc
        rcases e' with q | q | q | q <;> rw [q] <;> simp)) (Nat.le_refl _) ⟨by show 2 ≤ sizeLine; decide, [u, u2], .cons ru (.cons ru2 .nil), ⟨_, t1, rfl, _, rfl⟩⟩
    obtain ⟨f0, f1, f2, f3, f4, f5⟩ := hf e (by simp)
    have tt3 : h3.get? h1.objs.size = some { cls := .type "tuple", data := .seq #[.int i s.toks, .ref s.heap.objs.size] } := (sb.2 _ (Nat.ne_of_gt (by rw [n1]; exact Nat.lt_succ_of_lt el))).trans tt
    have I2 : Inv X pins σ (upd (upd H s.heap.objs.size (.tup [x, y])) h1.objs.size (.tup [.int (i : Nat), .ref s.heap.objs.size])) { s with heap := h3, toks := s.toks + 1 } :=
      I1.turnedNew (ch := [e]) (fun c o hc q => (sb.2 c (by simpa using hc)).trans (k2 c o (by simpa using hc) q)) (fun c hc => by
        rw [show c = e by simpa using hc]
        exact ⟨by rw [upd_ne (Nat.ne_of_lt el)]; exact f0, f1, f2, f3, f4, f5⟩) (Nat.le_refl _) ⟨by show 2 ≤ sizeLine; decide, [.int i s.toks, .ref s.heap.objs.size], .cons ⟨_, rfl⟩ (.cons rfl .nil), ⟨_, tt3, rfl, _, rfl⟩⟩
    have nn : h1.objs.size ≠ s.heap.objs.size := by rw [n1]; exact Nat.succ_ne_self _
    refine ⟨.ref h1.objs.size, _, I2, rfl, ⟨_, s.heap.objs.size, x, y, rfl, I.hok.fresh (Nat.le_refl _), I.hok.fresh (by rw [n1]; exact Nat.le_succ _), nn, rfl, fun l hl => by rw [I.list_inj hl hqx]; exact hx, fun l hl => by rw [I.list_inj hl hqy]; exact hy⟩, ⟨⟨.ref s.heap.objs.size, ?_⟩, z1.keep fun c hc o q => ?_⟩, fun c hc => ?_⟩
    · have e1 : ((i + 1 : Nat) : Int) = (i : Int) + 1 := by omega
      rw [e1]; exact he3
    · have ne : c ≠ e := by
        rcases hc with q | q | q | q | q <;> rw [q]
        · exact Z.ez.symm
        · exact Z.ei.symm
        · exact Z.eo.symm
        · exact Z.e1.symm
        · exact Z.e2.symm
      exact (sb.2 c ne).trans (k2 c o ne q)
    · have lt : c < s.heap.objs.size := by
        obtain ⟨⟨f0', f1', hz', _⟩, hTI, ⟨x', y', hTO⟩, ⟨o1, q1, _⟩, ⟨o2, q2, _⟩⟩ := hz
        have e' : c = e ∨ c = z ∨ c = TI ∨ c = TO ∨ c = i1 ∨ c = i2 := by simpa using hc
        rcases e' with q | q | q | q | q | q <;> rw [q]
        · exact el
        · exact Heap.lt_size hz'
        · exact Heap.lt_size hTI
        · exact Heap.lt_size hTO
        · exact Heap.lt_size q1
        · exact Heap.lt_size q2
      rw [upd_ne (Nat.ne_of_lt (by rw [n1]; exact Nat.lt_succ_of_lt lt)), upd_ne (Nat.ne_of_lt lt)]
      exact (hf c hc).1
  done := by
    intro X hP hw hK hc i pins s σ H E I hf st hg
    subst hP hw hK
    obtain ⟨⟨old, he⟩, hz⟩ := st
    obtain ⟨xs, ys, hqx, hqy, hend⟩ := hg
    obtain ⟨its, rv, p, _⟩ := I.list hqx
    obtain ⟨its2, rv2, p2, _⟩ := I.list hqy
    have l1 := rv.length
    have l2 := rv2.length
    have stop : its.toArray[i]? = none ∨ its2.toArray[i]? = none := by
      rcases hend with q | q
      · exact .inl (by simp; omega)
      · exact .inr (by simp; omega)
    refine enum_stop (R := fun h1 => ∀ c o, c ≠ z → c ≠ TO → c ≠ i1 → c ≠ i2 → s.heap.get? c = some o → h1.get? c = some o) he (fun Q' E' hq => ?_) ?_
    · exact zip_nextOf_end (I.ok.hd hc) D hz p.isList p2.isList stop fun h1 x k1 hx => hq h1 x k1 hx
    · intro h1 k1
      exact ⟨rfl, I.turnedL (t' := s.toks) (ch := [z, TO, i1, i2]) (fun c o hc q => k1 c o (fun q' => hc (by simp [q'])) (fun q' => hc (by simp [q'])) (fun q' => hc (by simp [q'])) (fun q' => hc (by simp [q'])) q) fun c hc => hf c (by
        have e' : c = z ∨ c = TO ∨ c = i1 ∨ c = i2 := by simpa using hc
        rcases e' with q | q | q | q <;> rw [q] <;> simp)⟩
  self := fun A i s Q E st h => let ⟨⟨_, he⟩, _⟩ := st; wpAny_pyIter_enum he h
open AutoSeq1 (wpAny_loadPart') in
theorem meets_enum_zip (z TI TO : Addr) : Meets (Builtin.«enumerate.__new__» ⟨[.type "enumerate", .ref z], []⟩) (fun _ R s => IsZip s.heap z TI TO .none ∧
    R (.ok (.ret (.ref s.heap.objs.size))) { s with heap := s.heap.push { cls := .type "enumerate", data := .fields #[.none, .bool false, .ref z, rawInt 0, .none, .none] } }) :=
  .of_wp fun prog w A R s h => by
    obtain ⟨hp, g, d, tk, os⟩ := s
    obtain ⟨hl, h⟩ := h
    have hsub := sub_enumerate
    have hZ : IsZip (Shared.heap ⟨hp, g, d, tk, os⟩) z TI TO .none := hl
    wp_walk using wpAny_loadPart' hl
    refine wpAny_stack_any fun st => wpAny_pure ?_
    split
    · rename_i c _ _ _ _ _
      cases (c == Value.type "enumerate") <;> (wp_walk using wpAny_loadPart' hl, wpAny_pyIter_zip hZ; exact ⟨_, rfl, h⟩)
    · wp_walk using wpAny_loadPart' hl, wpAny_pyIter_zip hZ
      exact ⟨_, rfl, h⟩
theorem call_enum_zip {prog : Program} {w : World} {A : Around} {E : Value → Shared → Prop} {s : Shared} {z TI TO : Addr} {Q : Value → Shared → Prop} (hz : IsZip s.heap z TI TO .none)
    (q : ∀ h', h'.objs.size = s.heap.objs.size + 1 → IsEnum h' s.heap.objs.size z 0 .none → (∀ b o, s.heap.get? b = some o → h'.get? b = some o) → Q (.ref s.heap.objs.size) { s with heap := h' }) :
    wpAny (model prog w) A (call (.type "enumerate") [.ref z]) Q E s := by
  refine callType_new F.called_enumerate (by decide) (F.typeCall_enumerate_1 _) (F.newCall_enumerate_1 _) (fun obj => F.args_object_init_2 obj _) F.entry_enumerate_new (meets_enum_zip z TI TO) ⟨hz, ?_⟩
  have he : IsEnum (s.heap.push { cls := .type "enumerate", data := .fields #[.none, .bool false, .ref z, rawInt 0, .none, .none] }) s.heap.objs.size z 0 .none := Heap.get?_push_size _ rfl
  exact ⟨⟨_, he, rfl⟩, q _ (Heap.size_push ..) he fun b o x => Heap.get?_push_of_some _ x⟩
def iEnumZip (K : PySem.W.Frag) (ta : TA) : TI := fun σ H R => ta σ H fun vs H1 => ∃ a b xs ys, vs = [.ref a, .ref b] ∧ SqL K H1 a xs ∧ SqL K H1 b ys ∧ R (Itez K a b) H1
theorem pi_enumZip {X : Cx} {e e2 : Expr} {ta : TA} {p pos p2 pos2 tpos : Pos} {elts : List Expr} {kk : Nat} (hg : Gl X "enumerate") (hm : X.mg "enumerate" = none) (hgz : Gl X "zip") (hmz : X.mg "zip" = none) (ha : PA X [e, e2] ta)
    (hs : starEach [e, e2] X.env = (false, eval e X.env) :: starEach [e2] X.env := by rfl) (hpl : (backTo pos2 (starEach [e2] X.env)).any (·.1) = false := by rfl)
    (hs1 : starEach [.Call (.Name "zip" p2) [e, e2] [] pos2] X.env = [(false, eval (.Call (.Name "zip" p2) [e, e2] [] pos2) X.env)] := by rfl) :
    PI X (.Tuple elts kk tpos) (.Call (.Name "enumerate" p) [.Call (.Name "zip" p2) [e, e2] [] pos2] [] pos) (iEnumZip X.K ta) := by
  refine ⟨fun pins s σ H R I h => ?_⟩
  refine Call_ (ld_blt I hg hm boot_enumerate (PyProof.Rows.callWith_type1 (args_cons (Call_ (ld_blt I hgz hmz PyProof.Rows.boot_zip (PyProof.Rows.callWith_type1 (thn (ha.run pos2 pins s σ H _ I h) fun us s1 ⟨vs, H1, I1, r1, q1⟩ => ?_) hs hpl))) hs1) hs1 rfl))
  obtain ⟨a, b, xs, ys, ex, hqx, hqy, q⟩ := q1
  subst ex
  cases r1 with
  | cons r rr =>
    cases rr with
    | cons r' rr =>
      cases rr
      cases r
      cases r'
      obtain ⟨its, rv, p1, _⟩ := I1.list hqx
      obtain ⟨its2, rv2, p2, _⟩ := I1.list hqy
      have la : a < s1.heap.objs.size := p1.lt
      have lb : b < s1.heap.objs.size := p2.lt
      refine call_zip_2 p1.isList p2.isList fun h' hz hTI hTO h1 h2 hsz hk => args_nil ?_
      refine call_enum_zip (s := { s1 with heap := h' }) hz fun h2' sz2 he kk2 => wpAny_pyIter_enum he ?_
      have I2 : Inv X pins σ H1 { s1 with heap := h2' } := I1.kept (t' := s1.toks) fun c o u => kk2 c o (hk c o u)
      have en : h'.objs.size = s1.heap.objs.size + 5 := hsz
      have ap : EApart h'.objs.size (s1.heap.objs.size + 4) (s1.heap.objs.size + 2) (s1.heap.objs.size + 3) s1.heap.objs.size (s1.heap.objs.size + 1) := by
        rw [en]
        constructor <;> first | exact Nat.ne_of_gt (Nat.add_lt_add_left (by decide) _) | exact Nat.ne_of_gt (Nat.lt_add_of_pos_right (by decide))
      refine ⟨h'.objs.size, [h'.objs.size, s1.heap.objs.size + 4, s1.heap.objs.size + 2, s1.heap.objs.size + 3, s1.heap.objs.size, s1.heap.objs.size + 1], _, _, H1, rfl, I2, turn_ez (PySem.W.ktu_apart s1.heap.objs.size a b la lb) ap,
        ⟨⟨_, he⟩, ⟨⟨_, _, kk2 _ _ hz, .inl ⟨rfl, rfl⟩⟩, kk2 _ _ hTI, ⟨_, _, kk2 _ _ hTO⟩, h1.at fun o x => kk2 _ o x, h2.at fun o x => kk2 _ o x⟩⟩, fun c hcm => ?_, q⟩
      have hle : s1.heap.objs.size ≤ c := by
        have e' : c = h'.objs.size ∨ c = s1.heap.objs.size + 4 ∨ c = s1.heap.objs.size + 2 ∨ c = s1.heap.objs.size + 3 ∨ c = s1.heap.objs.size ∨ c = s1.heap.objs.size + 1 := by simpa using hcm
        rcases e' with z | z | z | z | z | z
        · rw [z, en]; exact Nat.le_add_right _ _
        · rw [z]; exact Nat.le_add_right _ _
        · rw [z]; exact Nat.le_add_right _ _
        · rw [z]; exact Nat.le_add_right _ _
        · rw [z]; exact Nat.le_refl _
        · rw [z]; exact Nat.le_add_right _ _
      exact I1.fpOk hle (I1.hok.fresh hle)
end My
/-! Kit9: own classes, lists taken apart, enumerate(zip) walked, lists of anything said to be unlike. -/
namespace My
open PySem PySem.Spec PyProof.Rows L2
/-- C(..) of an own class -/
structure HasMk (P : Program) (w : World) (K : PySem.W.Frag) (mg : Str → Option Value) (base : Heap) (CX : CXT) (k : Nat) (x : Str) (ps : List Str) (sp : Sp) : Prop where
  ex : ∃ fd : FuncData, FnOk P w K mg base CX k (He.ma K (He.ga K x) "__init__") fd ps sp ∧ Binds K fd ps []
/-- o.m(..) of an own class -/
structure HasM (P : Program) (w : World) (K : PySem.W.Frag) (mg : Str → Option Value) (base : Heap) (CX : CXT) (k : Nat) (x m : Str) (ps : List Str) (sp : Sp) : Prop where
  ex : ∃ fd : FuncData, FnOk P w K mg base CX k (He.ma K (He.ga K x) m) fd ps sp ∧ Binds K fd ps []
/-- a def with defaults, all parameters written -/
theorem binds_full {K : PySem.W.Frag} {x qual : Str} {params : Arguments} {body : List Stmt} {scope : Scope} {dvs : List V} {kws : List (Str × V)} {f : Addr} {fd : FuncData} {ps : List Str} (F : FunD K x qual params body scope dvs kws f fd) (hd : dvs ≠ [])
    (h : ∀ (T : Addr) (kV doc pm : Value) (an : Option Addr) (cdv ct : Value) (us its : List Value), us.length = ps.length → its.length = dvs.length →
      ∃ k, bindArgs (PySem.W.fnOf x qual params body scope (.ref T) kV doc pm an cdv ct) ⟨us, []⟩ = seqItems? (.ref T) >>= k ∧ k (some its.toArray) = pure (ps.zip us)) : Binds K fd ps [] := by
  obtain ⟨ds, h1, h2⟩ := F.binds1 (ps := ps) ps.length dvs.length hd (by omega) fun T kV doc pm an cdv ct us its l1 l2 => by
    obtain ⟨k, e1, e2⟩ := h T kV doc pm an cdv ct us its l1 l2
    exact ⟨k, e1, by rw [e2, ← l2, List.drop_length, List.append_nil]⟩
  rw [List.drop_length] at h1
  cases h1
  exact h2
section
variable {K : PySem.W.Frag} {σ : L2.St} {H : Hp} {C : Addr} {f m : Str} {ta tb te : TE} {nx bk ct : L2.St → Hp → Prop} {rt Q : VK} {tr : TA} {sp : Sp} {E : XK} {v y : V}
def kMake (C : Addr) (sp : Sp) (E : XK) (Q : VK) : List V → Hp → Prop := fun vs H1 => ∀ x dx, H1 x = none → H1 dx = none → dx ≠ x → sp (.ref x :: vs) (upd (upd H1 dx (.own x)) x (.ins C dx [])) (fun v H2 => v = .non ∧ Q (.ref x) H2) E
theorem g_make (h : tr σ H (kMake C sp E Q)) : tMake C sp [] E tr σ H Q := by
  have e : (fun (vs : List V) (H1 : Hp) => ∀ x dx, H1 x = none → H1 dx = none → dx ≠ x → sp (.ref x :: (vs ++ [])) (upd (upd H1 dx (.own x)) x (.ins C dx [])) (fun v H2 => v = .non ∧ Q (.ref x) H2) E) = kMake C sp E Q := by
    funext vs H1
    rw [List.append_nil]
    rfl
  show tr σ H (fun (vs : List V) (H1 : Hp) => ∀ x dx, H1 x = none → H1 dx = none → dx ≠ x → sp (.ref x :: (vs ++ [])) (upd (upd H1 dx (.own x)) x (.ins C dx [])) (fun v H2 => v = .non ∧ Q (.ref x) H2) E)
  rw [e]
  exact h
theorem g_kMake {vs : List V} (q : ∀ x H2, H x = none → Step [] H H2 → (∃ dx, H2 x = some (.ins C dx [])) → sp (.ref x :: vs) H2 (fun v H3 => v = .non ∧ Q (.ref x) H3) E) : kMake C sp E Q vs H := fun x dx hx hd hne =>
  q x _ hx ((Step.new hd).trans (Step.new (by rw [upd_ne hne.symm]; exact hx))) ⟨dx, upd_same⟩
def kMeth (C : Addr) (m : Str) (sp : Sp) (tr : TA) (σ : L2.St) (E : XK) (Q : VK) : VK := fun x H1 => ∃ a dx fs, x = .ref a ∧ H1 a = some (.ins C dx fs) ∧ fs.lookup m = none ∧ tr σ H1 (fun vs H2 => sp (x :: vs) H2 Q E)
theorem g_meth (h : ta σ H (kMeth C m sp tr σ E Q)) : tMeth C m sp [] E ta tr σ H Q := by
  have e : (fun (x : V) (H1 : Hp) => ∃ a dx fs, x = .ref a ∧ H1 a = some (.ins C dx fs) ∧ fs.lookup m = none ∧ tr σ H1 fun vs H2 => sp (x :: (vs ++ [])) H2 Q E) = kMeth C m sp tr σ E Q := by
    funext x H1
    unfold kMeth
    have : (fun (vs : List V) (H2 : Hp) => sp (x :: (vs ++ [])) H2 Q E) = fun vs H2 => sp (x :: vs) H2 Q E := by
      funext vs H2
      rw [List.append_nil]
    rw [this]
  show ta σ H (fun (x : V) (H1 : Hp) => ∃ a dx fs, x = .ref a ∧ H1 a = some (.ins C dx fs) ∧ fs.lookup m = none ∧ tr σ H1 fun vs H2 => sp (x :: (vs ++ [])) H2 Q E)
  rw [e]
  exact h
theorem g_kMeth {a dx : Addr} {fs : List (Str × V)} (h : H a = some (.ins C dx fs)) (l : fs.lookup m = none) (q : tr σ H (fun vs H2 => sp (.ref a :: vs) H2 Q E)) : kMeth C m sp tr σ E Q (.ref a) H := ⟨a, dx, fs, rfl, h, l, q⟩
def kFld (K : PySem.W.Frag) (f : Str) (Q : VK) : VK := fun x H1 => ∃ a C dx fs v, x = .ref a ∧ H1 a = some (.ins C dx fs) ∧ Cls K C ∧ NoAttr K C f ∧ fs.lookup f = some v ∧ Q v H1
theorem g_fld (h : ta σ H (kFld K f Q)) : tFld K ta f σ H Q := h
theorem g_kFld {a dx : Addr} {fs : List (Str × V)} (h : H a = some (.ins C dx fs)) (c : Cls K C) (n : NoAttr K C f) (l : fs.lookup f = some v) (q : Q v H) : kFld K f Q (.ref a) H := ⟨a, C, dx, fs, v, rfl, h, c, n, l, q⟩
def kFldS (K : PySem.W.Frag) (f : Str) (nx : L2.St → Hp → Prop) (σ : L2.St) (y : V) : VK := fun x H2 => ∃ a C dx fs, x = .ref a ∧ H2 a = some (.ins C dx fs) ∧ Cls K C ∧ NoAttr K C f ∧ fs.length < 1000 ∧ nx σ (upd H2 a (.ins C dx (putF f y fs)))
theorem g_fldS (h : tb σ H (fun y H1 => ta σ H1 (kFldS K f nx σ y))) : sFld K ta tb f ⟨nx, rt, bk, ct⟩ σ H := h
theorem g_kFldS {a dx : Addr} {fs : List (Str × V)} (h : H a = some (.ins C dx fs)) (c : Cls K C) (n : NoAttr K C f) (l : fs.length < 1000) (q : ∀ H2, Step [a] H H2 → H2 a = some (.ins C dx (putF f y fs)) → nx σ H2) : kFldS K f nx σ y (.ref a) H :=
  ⟨a, C, dx, fs, rfl, h, c, n, l, q _ ((Step.refl [a] H).wr (List.mem_singleton.mpr rfl)) upd_same⟩
def kCh (r : R2) (tc : TE) (σ : L2.St) (y : V) (Q : VK) : VK := fun z H3 => ∃ k, z = .bl k ∧ if k = true then tc σ H3 (fun w H4 => r y w H4 Q) else Q (.bl false) H3
theorem g_chain {r r' : R2} {tc : TE} (h : ta σ H (fun x H1 => tb σ H1 (fun y H2 => r x y H2 (kCh r' tc σ y Q)))) : tChain r r' ta tb tc σ H Q := h
theorem g_kCh {r : R2} {tc : TE} {k : Bool} (h : if k = true then tc σ H (fun w H4 => r y w H4 Q) else Q (.bl false) H) : kCh r tc σ y Q (.bl k) H := ⟨k, rfl, h⟩
/-! a list taken apart -/
theorem g_lst2 {Q : L2.St → Hp → Prop} {a : Addr} {x y : V} {k l : Nat} (h : H a = some (.lst [x, y])) (q : Q ((σ.set k (some x)).set l (some y)) H) : gLst K 2 (gCons (gName k) (gCons (gName l) gNil)) (.ref a) σ H Q := ⟨a, _, rfl, SqL.of h, rfl, _, _, rfl, _, _, rfl, rfl, q⟩
/-! for i, (x, y) in enumerate(zip(xs, ys)) -/
def kEz (K : PySem.W.Frag) (R : WK) : List V → Hp → Prop := fun vs H1 => ∃ a b xs ys, vs = [.ref a, .ref b] ∧ SqL K H1 a xs ∧ SqL K H1 b ys ∧ R (Itez K a b) H1
theorem g_ez {R : WK} (h : tr σ H (kEz K R)) : iEnumZip K tr σ H R := h
theorem g_kEz {R : WK} {a b : Addr} {xs ys : List V} (h1 : H a = some (.lst xs)) (h2 : H b = some (.lst ys)) (q : R (Itez K a b) H) : kEz K R [.ref a, .ref b] H := ⟨a, b, xs, ys, rfl, SqL.of h1, SqL.of h2, q⟩
theorem wFor_ez {t : TS} {a b : Addr} {xs ys : List V} {k l m : Nat} (Pv : Nat → L2.St → Hp → Prop) (h0 : Pv 0 σ H) (hl : ∀ i σ H, i ≤ min xs.length ys.length → Pv i σ H → H a = some (.lst xs) ∧ H b = some (.lst ys))
    (hs : ∀ i x y σ H H2, xs[i]? = some x → ys[i]? = some y → Pv i σ H → Step [] H H2 → t ⟨Pv (i + 1), rt, nx, Pv (i + 1)⟩ (((σ.set k (some (.int i))).set l (some x)).set m (some y)) H2) (hd : ∀ σ H, Pv (min xs.length ys.length) σ H → nx σ H) :
    wFor (Itez K a b) (gTup K 2 (gCons (gName k) (gCons (gTup K 2 (gCons (gName l) (gCons (gName m) gNil))) gNil))) t ⟨nx, rt, bk, ct⟩ σ H :=
  wFor_gen (min xs.length ys.length) Pv h0 (fun i σ H hi p => ⟨xs, ys, xs[i]'(by omega), ys[i]'(by omega), SqL.of (hl i σ H (Nat.le_of_lt hi) p).1, SqL.of (hl i σ H (Nat.le_of_lt hi) p).2, List.getElem?_eq_getElem (by omega), List.getElem?_eq_getElem (by omega)⟩)
    (fun σ H p => ⟨xs, ys, SqL.of (hl _ σ H (Nat.le_refl _) p).1, SqL.of (hl _ σ H (Nat.le_refl _) p).2, by omega⟩) (fun i σ H x H' hi p yy => by
    obtain ⟨T, U, x, y, e3, hU, hT, hne, e4, f1, f2⟩ := yy
    subst e3 e4
    have st : Step [] H (upd (upd H U (.tup [x, y])) T (.tup [.int (i : Nat), .ref U])) := (Step.new hU).trans (Step.new (by rw [upd_ne hne]; exact hT))
    refine ⟨T, _, rfl, SqT.of upd_same, rfl, _, _, rfl, _, _, rfl, ⟨U, _, rfl, SqT.of (by rw [upd_ne hne.symm]; exact upd_same), rfl, _, _, rfl, _, _, rfl, rfl, ?_⟩⟩
    exact ⟨rfl, hs i x y σ H _ (f1 xs (SqL.of (hl i σ H (Nat.le_of_lt hi) p).1)) (f2 ys (SqL.of (hl i σ H (Nat.le_of_lt hi) p).2)) p st⟩) hd
theorem wDc_list {g : TG} {tt : TT} {tk tv : TE} {ws : List Nat} {a : Addr} {xs : List V} (q : ∀ D H2, H D = none → Step [] H H2 → H2 D = some (.dK []) → ∃ Pv : Nat → Hp → Prop, Pv 0 H2 ∧ (∀ i H, i ≤ xs.length → Pv i H → H a = some (.lst xs)) ∧ (∀ i x H, xs[i]? = some x → Pv i H → g x (wipe σ ws) H (kTurnD tt tk tv ws σ D (Pv (i + 1)))) ∧ (∀ H, Pv xs.length H → Q (.ref D) H)) : wDc (Itl K a) g tt tk tv ws σ Q H :=
  wDc_gen xs.length fun D H2 h1 h2 h3 => by
    obtain ⟨Pv, p0, hl, hs, hd⟩ := q D H2 h1 h2 h3
    refine ⟨Pv, p0, fun i H hi p => ⟨xs, xs[i], SqL.of (hl i H (Nat.le_of_lt hi) p), List.getElem?_eq_getElem hi⟩, fun H p => ⟨xs, SqL.of (hl _ H (Nat.le_refl _) p), Nat.le_refl _⟩, fun i H x H' hi p y => ?_, hd⟩
    obtain ⟨e, y⟩ := y
    subst e
    exact hs i x _ (y xs (SqL.of (hl i _ (Nat.le_of_lt hi) p))) p
/-! isinstance of a tuple of types -/
theorem g_isiT {x : V} {tp : Addr} {ts : List String} {a : String} {r : Bool} (ht : H tp = some (.tup (ts.map V.ty))) (ty : TyX K H x (.type a)) (e : ts.all (fun b => (kitB a b).isSome) = true := by decide +kernel) (e2 : ts.any (fun b => kitB a b == some true) = r := by decide +kernel) (q : Q (.bl r) H) : rIsiT K [x, .ref tp] H Q := by
  refine ⟨x, tp, ts.map V.ty, _, ts.map Value.type, r, rfl, ht, ?_, ty, ?_, q⟩
  · clear e e2 ht
    induction ts with
    | nil => exact .nil
    | cons b bs ih => exact .cons (.ty b) ih
  · clear ht q
    induction ts generalizing r with
    | nil => subst e2; exact kitAny_nil
    | cons b bs ih =>
      rw [List.all_cons, Bool.and_eq_true] at e
      cases hb : kitB a b with
      | none => rw [hb] at e; cases e.1
      | some k =>
        have ih2 := ih e.2 rfl
        rw [List.any_cons, hb] at e2
        cases k with
        | true =>
          have : r = true := by rw [← e2]; rfl
          subst this
          exact kitAny_cons (kit_ty hb) (fun z => nomatch z) fun _ => rfl
        | false =>
          have e3 : (bs.any fun b => kitB a b == some true) = r := by rw [← e2]; rfl
          rw [e3] at ih2
          exact kitAny_cons (kit_ty hb) (fun _ => ih2) fun z => nomatch z
end
/-! dicts with texts as keys -/
section
variable {β : Type} {q : Rp β} {H H' : Hp}
def rDS (q : Rp β) : Rp (List (Str × β)) := fun H v xs => ∃ a kvs, v = .ref a ∧ H a = some (.dK kvs) ∧ Paired (fun (p : Key × V) (x : Str × β) => p.1 = Sum.inr x.1 ∧ q H p.2 x.2) kvs xs
theorem mDS (n : Mono q) : Mono (rDS q) := fun H H' v xs e ⟨a, kvs, h1, h2, h3⟩ => ⟨a, kvs, h1, e _ _ h2, Pmap h3 fun v x ⟨z1, z2⟩ => ⟨z1, n H H' _ _ e z2⟩⟩
theorem dsKeys : ∀ {kvs : List (Key × V)} {xs : List (Str × β)}, Paired (fun (p : Key × V) (x : Str × β) => p.1 = Sum.inr x.1 ∧ q H p.2 x.2) kvs xs → kvs.map (·.1) = (xs.map (·.1)).map Sum.inr
  | _, _, .nil => rfl
  | _, _, .cons h t => by rw [List.map_cons, List.map_cons, List.map_cons, h.1, dsKeys t]
theorem dsNew : ∀ {kvs : List (Key × V)} {xs : List (Str × β)} {z : Str}, Paired (fun (p : Key × V) (x : Str × β) => p.1 = Sum.inr x.1 ∧ q H p.2 x.2) kvs xs → z ∉ xs.map (·.1) → valV kvs (Sum.inr z) = none
  | _, _, _, .nil, _ => rfl
  | (k, v) :: _, (j, x) :: _, z, .cons h t, hi => by
    have h1 : k = Sum.inr j := h.1
    rw [List.map_cons, List.mem_cons] at hi
    rw [valV_neg (by rw [h1]; exact fun y => hi (.inl (Sum.inr.inj y).symm))]
    exact dsNew t fun y => hi (.inr y)
theorem dsAt : ∀ {kvs : List (Key × V)} {xs : List (Str × β)} {z : Str} {x : β}, Paired (fun (p : Key × V) (x : Str × β) => p.1 = Sum.inr x.1 ∧ q H p.2 x.2) kvs xs → (xs.map (·.1)).Nodup → (z, x) ∈ xs → ∃ v, valV kvs (Sum.inr z) = some v ∧ q H v x
  | _, _, _, _, .nil, _, h => by cases h
  | (k, v) :: _, (j, y) :: _, z, x, .cons h t, hn, hm => by
    obtain ⟨h1, h2⟩ := h
    have h1 : k = Sum.inr j := h1
    subst h1
    rw [List.map_cons, List.nodup_cons] at hn
    rcases List.mem_cons.mp hm with e | hm
    · cases e
      exact ⟨v, valV_pos rfl, h2⟩
    · rw [valV_neg (fun e => hn.1 (List.mem_map.mpr ⟨(z, x), hm, (Sum.inr.inj e).symm⟩))]
      exact dsAt t hn.2 hm
end
def rSortedDS : List V → Hp → VK → Prop := fun xs H Q => ∃ (a : Addr) (kvs : List (Key × V)) (ks : List Str), xs = [.ref a] ∧ Rd H a (.dK kvs) ∧ kvs.map (·.1) = ks.map Sum.inr ∧ ks.length < 64 ∧
    ∀ ys p, ys.Perm ks → sortedS ys = true → H p = none → Q (.ref p) (upd H p (.lst (ys.map V.str)))
theorem cr_sortedDS {X : Cx} (hc : X.calm = true) : CallR X (.builtin "sorted") rSortedDS := call_sortedD hc
theorem g_sortedDS {H : Hp} {Q : VK} {p : Addr} {kvs : List (Key × V)} {ks : List Str} (h : Rd H p (.dK kvs)) (e : kvs.map (·.1) = ks.map Sum.inr) (hl : ks.length < 64) (q : ∀ (ys : List Str) p' H2, ys.Perm ks → sortedS ys = true → H p' = none → Step [] H H2 → H2 p' = some (.lst (ys.map V.str)) → Q (.ref p') H2) : rSortedDS [.ref p] H Q :=
  ⟨p, kvs, ks, rfl, h, e, hl, fun ys p' e1 e2 e3 => q ys p' _ e1 e2 e3 (Step.new e3) upd_same⟩
/-! != of two lists, their items compared within this program -/
section
variable {prog : Program} {w : World}
open AutoSeq1 (wpAny_loadPart') in
open PySem.SeqAt MeetsSeq MeetsSeq2 MeetsSeq3 in
theorem ne_walk (l b : Addr) (us vs : Array Value) (n n2 : Nat) (dd dd2 : Option Addr) (sl sl2 : Array (Option Value)) (hsz : us.size = vs.size) (e : Nat → Bool) (k : Nat) :
    ∀ i : Nat, us.size - i = k → MeetsIn prog w (Builtin.«list.__eq__.loop» ⟨[.ref l, .ref b, rawInt i, rawInt 3], []⟩)
      (fun A R s => s.heap.get? l = some { cls := .type "list", dict := dd, data := .seq us n, slots := sl } ∧ s.heap.get? b = some { cls := .type "list", dict := dd2, data := .seq vs n2, slots := sl2 } ∧
        (∀ j (h1 : j < us.size) (h2 : j < vs.size), EqIn prog w A.in1 s us[j] vs[j] (e j)) ∧ R (.ok (.ret (.bool (!((List.range us.size).drop i).all e)))) s) := by
  induction k with
  | zero =>
    intro i hk A R s h
    obtain ⟨hp, g, d, tk, os⟩ := s
    obtain ⟨hl, hb, he, h⟩ := h
    wp_walk using wpAny_loadPart' hl, wpAny_loadPart' hb
    have none1 : us[((i : Nat) : Int).toNat]? = none := by simp; omega
    have none2 : vs[((i : Nat) : Int).toNat]? = none := by simp; omega
    have nil : (List.range us.size).drop i = [] := by simp; omega
    rw [nil] at h
    rw [none1, none2]
    wp_walk using wpAny_loadPart' hl, wpAny_loadPart' hb
    show R (.ok (.ret (.bool (us.size != vs.size)))) _
    rw [hsz]
    simpa using h
  | succ k ih =>
    intro i hk A R s h
    obtain ⟨hp, g, d, tk, os⟩ := s
    obtain ⟨hl, hb, he, h⟩ := h
    wp_walk using wpAny_loadPart' hl, wpAny_loadPart' hb
    have lt1 : i < us.size := by omega
    have lt2 : i < vs.size := by omega
    have some1 : us[((i : Nat) : Int).toNat]? = some us[i] := by simp [lt1]
    have some2 : vs[((i : Nat) : Int).toNat]? = some vs[i] := by simp [lt2]
    have cut : (List.range us.size).drop i = i :: (List.range us.size).drop (i + 1) := by simp [List.drop_eq_getElem_cons, lt1]
    have cast : ((i : Int) + 1) = ((i + 1 : Nat) : Int) := by push_cast; rfl
    rw [cut, List.all_cons] at h
    rw [some1, some2]
    refine wpAny_bind (he i lt1 lt2 _ _ ?_)
    cases ei : e i with
    | true =>
      rw [ei] at h
      wp_walk
      rw [cast]
      exact ⟨plainId_quiet plain_eq_loop _, codeAny_builtin entry_eq_loop (by
        rw [Around.under_plainId plain_eq_loop _]
        exact ih (i + 1) (by omega) A R _ ⟨hl, hb, he, by simpa using h⟩)⟩
    | false =>
      rw [ei] at h
      wp_walk using wpAny_loadPart' hl, wpAny_loadPart' hb
      rw [some1, some2]
      wp_walk
      simpa using h
open AutoSeq1 (wpAny_loadPart') in
open PySem.SeqAt MeetsSeq MeetsSeq2 MeetsSeq3 in
theorem ne_start (l b : Addr) (us vs : Array Value) (n n2 : Nat) (dd dd2 : Option Addr) (sl sl2 : Array (Option Value)) (hsz : us.size = vs.size) (e : Nat → Bool) :
    MeetsIn prog w (Builtin.«list.__ne__» ⟨[.ref l, .ref b], []⟩)
      (fun A R s => s.heap.get? l = some { cls := .type "list", dict := dd, data := .seq us n, slots := sl } ∧ s.heap.get? b = some { cls := .type "list", dict := dd2, data := .seq vs n2, slots := sl2 } ∧
        (∀ j (h1 : j < us.size) (h2 : j < vs.size), EqIn prog w A.in1 s us[j] vs[j] (e j)) ∧ R (.ok (.ret (.bool (!(List.range us.size).all e)))) s) := by
  intro A R s h
  obtain ⟨hp, g, d, tk, os⟩ := s
  obtain ⟨hl, hb, he, h⟩ := h
  have f3 := AutoSeq1.sub_list_list
  have alike : ¬ (us.size != vs.size) = true := by simp [hsz]
  wp_walk using wpAny_loadPart' hl, wpAny_loadPart' hb
  exact ⟨plainId_quiet plain_eq_loop _, codeAny_builtin entry_eq_loop (by
    rw [Around.under_plainId plain_eq_loop _]
    exact ne_walk l b us vs n n2 dd dd2 sl sl2 hsz e _ 0 rfl A R _ ⟨hl, hb, he, by simpa using h⟩)⟩
theorem ne_listsIn {A : Around} {s : Shared} {E : Value → Shared → Prop} {l b : Addr} {us vs : Array Value} {e : Nat → Bool} {Q : Value → Shared → Prop} (hl : s.heap.IsList l us) (hb : s.heap.IsList b vs) (hsz : us.size = vs.size) (hu : A.units < cLine)
    (he : ∀ j (h1 : j < us.size) (h2 : j < vs.size), SeqAt.EqIn prog w A.in1 s us[j] vs[j] (e j)) (h : Q (.bool (!(List.range us.size).all e)) s) : wpAny (model prog w) A (compareOp .NotEq (.ref l) (.ref b)) Q E s := by
  obtain ⟨⟨cls, dd, data, sl⟩, ho, hc, n, hd⟩ := id hl
  obtain ⟨⟨cls2, dd2, data2, sl2⟩, ho2, hc2, n2, hd2⟩ := id hb
  simp only at hc hd hc2 hd2
  subst hc hd hc2 hd2
  exact wpAny_richCompare_same_room (T := "list") (op := .NotEq) ⟨_, ho, rfl⟩ ⟨_, ho2, rfl⟩ F.slot_list_ne (call_meetsIn F.slot_list_ne ⟨_, ho, rfl⟩ F.entry_list_ne (F.args_list_ne_2 _ _) (ne_start l b us vs n n2 dd dd2 sl sl2 hsz e)
    ⟨ho, ho2, he, show Value.bool (!(List.range us.size).all e) ≠ Value.notImplemented ∧ Q (.bool (!(List.range us.size).all e)) s from ⟨(fun x => nomatch x), h⟩⟩) hu
end
end My
/-! KitT: sets of texts counted, tuples sorted by their first text, own ==, defs as arguments. -/
namespace My
open PySem PySem.Spec PyProof.Rows L2
/-- how many unlike ones stand among the first i -/
def cntS (xs : List Str) : Nat → Nat
  | 0 => 0
  | i + 1 => if (xs.take i).any (· == xs.getD i Str.empty) = true then cntS xs i else cntS xs i + 1
theorem cntS_le (xs : List Str) : ∀ i, cntS xs i ≤ i
  | 0 => Nat.le_refl _
  | i + 1 => by
    have := cntS_le xs i
    unfold cntS
    split <;> omega
theorem cntS_nodup {xs : List Str} : ∀ i, i ≤ xs.length → (cntS xs i = i ↔ (xs.take i).Nodup)
  | 0, _ => by simp [cntS]
  | i + 1, h => by
    have ih := cntS_nodup (xs := xs) i (by omega)
    have le := cntS_le xs i
    have hi : i < xs.length := by omega
    have e : xs.getD i Str.empty = xs[i] := by simp [List.getD, hi]
    have et : xs.take (i + 1) = xs.take i ++ [xs[i]] := by rw [List.take_add_one, List.getElem?_eq_getElem hi]; rfl
    unfold cntS
    rw [e, et, List.nodup_append]
    by_cases hm : xs[i] ∈ xs.take i
    · have ha : (xs.take i).any (· == xs[i]) = true := List.any_eq_true.mpr ⟨_, hm, by simp⟩
      rw [if_pos ha]
      exact ⟨fun z => by omega, fun z => absurd rfl (z.2.2 _ hm _ (List.mem_singleton.mpr rfl))⟩
    · have ha : ¬ (xs.take i).any (· == xs[i]) = true := fun z => by
        obtain ⟨y, hy, ey⟩ := List.any_eq_true.mp z
        exact hm (by have : y = xs[i] := by simpa using ey
                     rw [← this]; exact hy)
      rw [if_neg ha]
      refine ⟨fun z => ⟨ih.mp (by omega), by simp, fun a ha b hb => ?_⟩, fun z => by rw [ih.mpr z.1]⟩
      rw [List.mem_singleton.mp hb]
      exact fun q => hm (q ▸ ha)
section
variable {prog : Program} {w : World} {A : Around} {R : Result → Shared → Prop} {I : Addr} {fp wr : List Addr} {G : Array GenState → Array GenState → Prop} {n : Nat} {P : Nat → Value → Prop} {St : Nat → Shared → Prop}
theorem set_walk (W : WalksS prog w A.in1 I fp wr G n P St) (S : Addr) (hSf : S ∉ fp) (xs : List Str) (hsz : xs.length = n) (hn : n + 1 < scanBound)
    (hval : ∀ i v, P i v → ∃ t, v = .str (xs.getD i Str.empty) t) :
    ∀ (k i : Nat) (s : Shared), n - i = k → i ≤ n → St i s → s.heap.SetOf (PySem.strKind prog w) S (fun k' => (xs.take i).any (· == k')) (cntS xs i) →
      (∀ s', Moved (S :: wr) G s s' → s'.heap.SetOf (PySem.strKind prog w) S (fun k' => (xs.take n).any (· == k')) (cntS xs n) → R (.ok (.ret .none)) s') →
      codeAny (model prog w) A (.builtin "set.update.loop" ⟨[.ref S, .ref I], []⟩) R s := by
  have hSw : S ∉ wr := fun h => hSf (W.sub _ h)
  have hsub : ∀ b ∈ wr, b ∈ S :: wr := fun b hb => List.mem_cons_of_mem _ hb
  intro k
  induction k with
  | zero =>
    intro i s hk hi hst hS hR
    have hin : i = n := by omega
    subst hin
    refine codeAny_builtin PyProof.Rows.F.entry_set_update_loop ?_
    rw [Around.under_plainId PyProof.Rows.F.plain_set_update_loop _]
    show wpAny (model prog w) A.in1 (pyNext (.ref I) >>= _) _ _ s
    refine wpAny_bind (W.done s _ _ hst fun s' hm => ?_)
    show wpAny (model prog w) A.in1 (ret Value.none) _ _ s'
    exact wpAny_pure (hR s' (hm.mono hsub) (let ⟨o, es, ep, t, ho, rest⟩ := hS; ⟨o, es, ep, t, hm.heap S _ hSw ho, rest⟩))
  | succ k ih =>
    intro i s hk hi hst hS hR
    have hlt : i < n := by omega
    refine codeAny_builtin PyProof.Rows.F.entry_set_update_loop ?_
    rw [Around.under_plainId PyProof.Rows.F.plain_set_update_loop _]
    show wpAny (model prog w) A.in1 (pyNext (.ref I) >>= _) _ _ s
    refine wpAny_bind (W.item i s _ _ hlt hst fun v s' hP hst' hm => ?_)
    obtain ⟨t, rfl⟩ := hval i v hP
    have hS' : s'.heap.SetOf (PySem.strKind prog w) S (fun k' => (xs.take i).any (· == k')) (cntS xs i) := let ⟨o, es, ep, tb, ho, rest⟩ := hS; ⟨o, es, ep, tb, hm.heap S _ hSw ho, rest⟩
    show wpAny (model prog w) A.in1 (holding [Value.str (xs.getD i Str.empty) t] (setAdd S (.str (xs.getD i Str.empty) t)) >>= _) _ _ s'
    refine wpAny_bind (wpAny_holding ?_)
    unfold setAdd
    refine wpAny_holding ?_
    refine wpAny_bind ((PySem.strKind prog w).pyHash (k := xs.getD i Str.empty) (strKind_is _ _ _ _) ?_)
    have hc := cntS_le xs i
    refine wpAny_setAddHashed_of (knd := PySem.strKind prog w) (s := { s' with toks := s'.toks + 1 }) (strKind_is _ _ _ _) rfl hS' (by omega) fun h' hsb hS2 => ?_
    have hSi : h'.SetOf (PySem.strKind prog w) S (fun k' => (xs.take (i + 1)).any (· == k')) (cntS xs (i + 1)) := by
      have hl : i < xs.length := by omega
      have et : xs.take (i + 1) = xs.take i ++ [xs.getD i Str.empty] := by
        rw [List.take_add_one, List.getElem?_eq_getElem hl]
        simp [List.getD, hl]
      refine SetOf_congr hS2 (fun k' => ?_) rfl
      rw [et, List.any_append]
      congr 1
      show decide (k' = xs.getD i Str.empty) = ([xs.getD i Str.empty].any (· == k'))
      generalize xs.getD i Str.empty = x
      by_cases e : k' = x
      · subst e; simp
      · have hb : (x == k') = false := by simpa [beq_iff_eq] using (fun h' : x = k' => e h'.symm)
        simp [hb, e]
    refine wpAny_pure ⟨plainId_quiet PyProof.Rows.F.plain_set_update_loop _, ih (i + 1) _ (by omega) hlt (W.frame _ s' _ _ hst' (Nat.le_succ _) fun b hb o e => ?_) hSi fun s'' hm'' hS'' => ?_⟩
    · rw [hsb.2 b (fun h : b = S => hSf (by rw [← h]; exact hb))]; exact e
    · refine hR s'' (Moved.trans W.gtrans ((hm.mono hsub).then_heap (Nat.le_succ _) fun b o hb e => ?_) hm'') hS''
      rw [hsb.2 b (fun h : b = S => hb (by rw [h]; exact List.mem_cons_self))]; exact e
end
section
variable {prog : Program} {w : World} {A : Around} {E : Value → Shared → Prop} {s : Shared}
set_option maxHeartbeats 3200000 in
theorem set_of_strs {l : Addr} {items : Array Value} {xs : List Str} {Q : Value → Shared → Prop} (hh : A.handled = none) (hl : s.heap.IsList l items) (hi : StrsAre items.toList xs) (hn : xs.length + 1 < scanBound)
    (q : ∀ (h' : Heap) (tk : Nat), h'.SetOf (PySem.strKind prog w) s.heap.objs.size (fun k' => (xs.take items.size).any (· == k')) (cntS xs items.size) →
      (∀ b o, b < s.heap.objs.size → s.heap.get? b = some o → h'.get? b = some o) → Q (.ref s.heap.objs.size) { s with heap := h', toks := tk }) : wpAny (model prog w) A (call (.type "set") [.ref l]) Q E s := by
  obtain ⟨c, tl, hmro⟩ := PySem.F.called_set.mro
  have hmade := PySem.F.called_set.made
  have hsub := PySem.F.called_set.sub
  refine wpAny_call (codeAny_of_tree ?_)
  show wpAny (model prog w) _ (callAny (.type "set") _) _ _ _
  refine wpAny_pure ⟨Code.quiet_builtin _ (by decide +kernel), codeAny_builtin PySem.F.entry_type_call ?_⟩
  rw [Around.under_plain (weight_type_call_type "set" [.ref l] []) rfl]
  have h1 := PySem.F.called_set.notType
  have h2 := PySem.F.called_set.canCreate
  have hct := PySem.F.typeCall_set_1 (.ref l)
  repeat (any_goals (first | assumption | wp_step))
  refine codeAny_mono (code_set_new_1 (.ref l) (E := E) (Q₁ := fun obj s₁ => ∃ led : Bool, obj = .ref s.heap.objs.size ∧ s₁ = { s with heap := s.heap.push { cls := .type "set", dict := none, data := .set #[] 0 (.fresh 0 0 led) } }) fun led => ⟨led, rfl, rfl⟩) fun r s₁ hr => ?_
  cases r with
  | error e => exact hr
  | ok fl =>
    cases fl with
    | ret obj =>
      obtain ⟨led, rfl, rfl⟩ := hr
      have hS : (s.heap.push { cls := .type "set", dict := none, data := .set #[] 0 (.fresh 0 0 led) }).get? s.heap.objs.size = some { cls := .type "set", dict := none, data := .set #[] 0 (.fresh 0 0 led) } := Heap.get?_push_size _ rfl
      have hT : Shared.TypeIs { s with heap := s.heap.push { cls := .type "set", dict := none, data := .set #[] 0 (.fresh 0 0 led) } } (.ref s.heap.objs.size) "set" := ⟨_, hS, rfl⟩
      have hli := PySem.F.called_set.init.lookup
      have hbi := PySem.F.called_set.init.bind (.ref s.heap.objs.size)
      repeat (any_goals (first | assumption | wp_step))
      refine codeAny_mono (codeAny_call_builtin (R := wants (fun r s₂ => r = .none ∧ ∃ h' tk, s₂ = { s with heap := h', toks := tk } ∧ h'.SetOf (PySem.strKind prog w) s.heap.objs.size (fun k' => (xs.take items.size).any (· == k')) (cntS xs items.size) ∧
          (∀ b o, b < s.heap.objs.size → s.heap.get? b = some o → h'.get? b = some o)) E) PySem.F.called_set.init.plain PySem.F.entry_set_init (check_set_init_1 hT ?_)) fun r₂ s₂ hr₂ => ?_
      · obtain ⟨⟨ocls, odict, odata, oslots⟩, hol, hcl, nl, hdl⟩ := hl
        simp only at hcl hdl
        subst hcl hdl
        have hol' : (s.heap.push { cls := .type "set", dict := none, data := .set #[] 0 (.fresh 0 0 led) }).get? l = some { cls := .type "list", dict := odict, data := .seq items nl, slots := oslots } := Heap.get?_push_of_some _ hol
        have hsls := PySem.F.sub_list_set
        have hslf := PySem.F.sub_list_frozenset
        have hne : (Value.type "list" == Value.type "dict") = false := by decide
        have hl1 : (s.heap.push { cls := .type "set", dict := none, data := .set #[] 0 (.fresh 0 0 led) }).IsList l items := ⟨_, hol', rfl, nl, rfl⟩
        unfold Builtin.«set.__init__» noKeywords Builtin.Frozenset.updateFrom
        generalize hPI : pyIter = PI
        wp_walk
        subst hPI
        refine wpAny_pyIter_list hl1 (wpAny_bind (wpAny_runValue ?_))
        have hlS : l < s.heap.objs.size := Heap.lt_size hol
        have hneI : l ≠ (s.heap.push { cls := .type "set", dict := none, data := .set #[] 0 (.fresh 0 0 led) }).objs.size := by
          rw [Heap.size_push]; exact Nat.ne_of_lt (Nat.lt_succ_of_lt hlS)
        have hSf : s.heap.objs.size ∉ [(s.heap.push { cls := .type "set", dict := none, data := .set #[] 0 (.fresh 0 0 led) }).objs.size, l] := by
          rw [Heap.size_push]; simp only [List.mem_cons, List.not_mem_nil, or_false, not_or]
          exact ⟨Nat.ne_of_lt (Nat.lt_succ_self _), Nat.ne_of_gt hlS⟩
        have hsz : xs.length = items.size := by rw [← StrsAre.len_eq hi, Array.length_toList]
        refine set_walk ((Walks.list (by simp [hh] : A.in1.in1.in1.handled = none) _ l hneI items).toS) s.heap.objs.size hSf xs hsz (by omega)
          (fun i v hv => SS.strs_at hi i v (by rw [Array.getElem?_toList]; exact hv)) (items.size - 0) 0 _ (by omega) (Nat.zero_le _) ⟨⟨_, Heap.get?_push_size _ rfl, rfl, rfl⟩, (hl1.push _)⟩ ?hS0 ?hR
        case hS0 =>
          have hget : ((s.heap.push { cls := .type "set", dict := none, data := .set #[] 0 (.fresh 0 0 led) }).push { cls := .type "list_iterator", data := .fields #[.ref l, .int 0 0] }).get? s.heap.objs.size = some { cls := .type "set", dict := none, data := .set #[] 0 (.fresh 0 0 led) } := Heap.get?_push_of_some _ hS
          exact SetOf_congr ((setObjOf_fresh (knd := PySem.strKind prog w) led).setOf hget (by unfold scanBound; omega)) (fun _ => rfl) rfl
        case hR =>
          intro s' hm hS'
          obtain ⟨h', g', d', tk', os'⟩ := s'
          have eg : g' = s.gens := hm.gens
          have ed : d' = s.drawn := hm.drawn
          have eo : os' = s.os := hm.os
          subst eg ed eo
          show wpAny (model prog w) _ _ _ _ _
          refine wpAny_pure ?_
          show wpAny (model prog w) _ (ret Value.none) _ _ _
          refine wpAny_pure ⟨rfl, h', tk', rfl, hS', fun b o hb e => hm.heap b o ?_ (Heap.get?_push_of_some _ (Heap.get?_push_of_some _ e))⟩
          simp only [List.mem_cons, List.not_mem_nil, or_false, not_or]
          exact ⟨Nat.ne_of_lt hb, by rw [Heap.size_push]; exact Nat.ne_of_lt (Nat.lt_succ_of_lt hb)⟩
      · cases r₂ with
        | error e => exact hr₂
        | ok fl₂ =>
          cases fl₂ with
          | ret r =>
            obtain ⟨rfl, h', tk, rfl, hS', hk'⟩ := hr₂
            repeat (any_goals (first | assumption | wp_step))
            exact q _ _ hS' hk'
          | _ => exact hr₂.elim
    | _ => exact hr.elim
end
/-- len(set(xs)), xs a list of texts -/
def tLenSetS (K : PySem.W.Frag) (ta : TE) : TE := fun σ H Q => ta σ H fun x H1 => ∃ l, ∃ xs : List Str, x = .ref l ∧ SqL K H1 l (xs.map V.str) ∧ xs.length ≤ 1000 ∧ Q (.int (cntS xs xs.length : Nat)) H1
theorem pe_lenSetS {X : Cx} {a : Expr} {ta : TE} {p p2 q pos : Pos} (hc : X.calm = true) (hg : Gl X "len") (hm : X.mg "len" = none) (hg2 : Gl X "set") (hm2 : X.mg "set" = none) (ha : PE X a ta)
    (na : starEach [a] X.env = (false, eval a X.env) :: starEach [] X.env := by rfl) : PE X (.Call (.Name "len" p) [.Call (.Name "set" p2) [a] [] q] [] pos) (tLenSetS X.K ta) := by
  refine ⟨fun pins s σ H Q I h => ?_⟩
  refine Call_ (ld_blt I hg hm boot_len (PyProof.Rows.callWith_builtin1 (PyProof.Rows.args_cons ?_ rfl) rfl rfl))
  refine Call_ (ld_blt I hg2 hm2 boot_set (PyProof.Rows.callWith_type1 (PyProof.Rows.args_cons (thn (ha.run pins s σ H _ I h) fun v s1 ⟨x, H1, I1, r1, q1⟩ => PyProof.Rows.args_nil ?_) na) na rfl))
  obtain ⟨l, xs, rfl, hq, h1, q1⟩ := q1
  cases r1
  obtain ⟨its, r, pl, hz⟩ := I1.list hq
  refine set_of_strs (xs := xs) (I1.ok.hd hc) pl.isList (by simpa using strsAre_of r) (by unfold scanBound; omega) fun h' tk hS hk => PyProof.Rows.args_nil ?_
  have hl : its.toArray.size = xs.length := by rw [List.size_toArray, ← r.length, List.length_map]
  rw [hl] at hS
  obtain ⟨o, es, ep, t, ho, hex, hd, _, _, _, hf, hn⟩ := hS
  have hcl := cntS_le xs xs.length
  have I2 : Inv X pins σ H1 { s1 with heap := h', toks := tk } := I1.kept fun b o e => hk b o (Heap.lt_size e) e
  exact call_len_set ho hex hd hf (by rw [hn]; omega) ⟨.int (cntS xs xs.length : Nat), H1, I2.tok _, ⟨_, by rw [hn]⟩, q1⟩
def kLenSetS (K : PySem.W.Frag) (Q : VK) : VK := fun x H1 => ∃ l, ∃ xs : List Str, x = .ref l ∧ SqL K H1 l (xs.map V.str) ∧ xs.length ≤ 1000 ∧ Q (.int (cntS xs xs.length : Nat)) H1
theorem g_lenSetS {K : PySem.W.Frag} {ta : TE} {σ : L2.St} {H : Hp} {Q : VK} (h : ta σ H (kLenSetS K Q)) : tLenSetS K ta σ H Q := h
theorem g_kLenSetS {K : PySem.W.Frag} {H : Hp} {Q : VK} {l : Addr} {xs : List Str} (h : H l = some (.lst (xs.map V.str))) (hl : xs.length ≤ 1000) (q : Q (.int (cntS xs xs.length : Nat)) H) : kLenSetS K Q (.ref l) H := ⟨l, xs, rfl, SqL.of h, hl, q⟩
end My
/-! KitU: sorted of data. -/
namespace My
open PySem PySem.Spec PyProof.Rows L2 PySem.W
/-- sorted(xs), the items alike data: (value, datum) -/
def rSortedC (K : PySem.W.Frag) : List V → Hp → VK → Prop := fun xs H Q => ∃ (a : Addr) (zs : List (V × PyData)), xs = [.ref a] ∧ SqL K H a (zs.map (·.1)) ∧ (∀ z ∈ zs, Dp K H z.1 z.2) ∧ AllAlike (zs.map (·.2)) ∧ Sortable (zs.map (·.2)) ∧ (∀ z ∈ zs, z.2.depth ≤ 50) ∧
  ∀ p, H p = none → Q (.ref p) (upd H p (.lst ((zs.mergeSort (dataLe false (·.2))).map (·.1))))
theorem each_of {R : Value → V × PyData → Prop} : ∀ {zs : List (V × PyData)} {us : List Value}, Vals (zs.map (·.1)) us → (∀ z ∈ zs, ∀ u, L2.RelV z.1 u → R u z) → EachIs R us zs
  | [], _, .nil, _ => .nil
  | z :: zs, _, .cons r t, h => .cons (h z (List.mem_cons_self ..) _ r) (each_of t fun z hz => h z (List.mem_cons_of_mem _ hz))
theorem vals_of {us : List Value} {zs : List (V × PyData)} (h : EachIs (fun u (z : V × PyData) => L2.RelV z.1 u) us zs) : Vals (zs.map (·.1)) us := by
  induction h with
  | nil => exact .nil
  | cons r _ ih => exact .cons r ih
theorem cr_sortedC {X : Cx} (hu : X.A.units + 64 < cLine) : CallR X (.builtin "sorted") (rSortedC X.K) := by
  intro pins s σ H vs us Q I r h
  obtain ⟨a, zs, rfl, hs, hd, h1, h2, h3, q⟩ := h
  obtain ⟨its, rv, hl, hz⟩ := I.list hs
  obtain ⟨u, rfl, ru⟩ := vals1 r
  obtain rfl : u = Value.ref a := ru
  have hlen : zs.length ≤ sizeLine := by rw [List.length_map] at hz; exact hz
  refine sorted_data (R := fun u (z : V × PyData) => L2.RelV z.1 u) (enc := fun z : V × PyData => z.2) (bs := zs) hl.isList (each_of rv fun z _ u ru => ru) (each_of rv fun z hz u ru => Dp.reads I z.2 z.1 u (hd z hz) ru) h1 h2 hlen (fun z hz => by have := h3 z hz; omega) fun out ho he => ?_
  have hn : H (s.heap.objs.size + 1) = none := I.hok.fresh (Nat.le_succ _)
  obtain ⟨n, hn2⟩ := sortedAll_at s.heap its out.toArray
  refine ⟨.ref (s.heap.objs.size + 1), upd H (s.heap.objs.size + 1) (.lst ((zs.mergeSort (dataLe false (·.2))).map (·.1))), I.laid (t' := s.toks) (fun b o e => sortedAll_old e) (Nat.le_succ _) ⟨?_, out, n, vals_of he, hn2⟩, rfl, q _ hn⟩
  rw [List.length_map, List.length_mergeSort]
  exact hlen
section
variable {K : PySem.W.Frag} {α : Type} {r : Rp α} {H : Hp} {Q : VK}
theorem P_zip {r : V → α → Prop} : ∀ {vs : List V} {xs : List α} {z : V × α}, Paired r vs xs → z ∈ vs.zip xs → r z.1 z.2
  | _, _, _, .nil, h => by cases h
  | _, _, z, .cons a t, h => by
    rw [List.zip_cons_cons] at h
    rcases List.mem_cons.mp h with rfl | h
    · exact a
    · exact P_zip t h
theorem P_mergeSort {r : V → α → Prop} {enc : α → PyData} {vs : List V} {xs : List α} (h : Paired r vs xs) : ∃ vs', Paired r vs' (xs.mergeSort (dataLe false enc)) ∧
    (((vs.zip xs).map fun z => (z.1, enc z.2)).mergeSort (dataLe false (·.2))).map (·.1) = vs' := by
  refine ⟨_, ?_, rfl⟩
  have e1 : (((vs.zip xs).mergeSort (dataLe false fun z => enc z.2)).map fun z => (z.1, enc z.2)) = ((vs.zip xs).map fun z => (z.1, enc z.2)).mergeSort (dataLe false (·.2)) := List.map_mergeSort fun a _ b _ => rfl
  have e2 : (((vs.zip xs).mergeSort (dataLe false fun z => enc z.2)).map fun z => z.2) = ((vs.zip xs).map fun z => z.2).mergeSort (dataLe false enc) := List.map_mergeSort fun a _ b _ => rfl
  have e3 : (vs.zip xs).map (fun z => z.2) = xs := List.map_snd_zip (by rw [P_len h]; exact Nat.le_refl _)
  rw [e3] at e2
  rw [← e1, ← e2, List.map_map]
  have all : ∀ z ∈ (vs.zip xs).mergeSort (dataLe false fun z => enc z.2), r z.1 z.2 := fun z hz => P_zip h ((List.mergeSort_perm _ _).mem_iff.mp hz)
  generalize (vs.zip xs).mergeSort (dataLe false fun z => enc z.2) = S at all
  induction S with
  | nil => exact .nil
  | cons z S ih => exact .cons (all z (List.mem_cons_self ..)) (ih fun y hy => all y (List.mem_cons_of_mem _ hy))
theorem g_sortedC {p : Addr} {vs : List V} {xs : List α} (c : Cod K r) (h : H p = some (.lst vs)) (hp : Paired (r H) vs xs) (hal : ∀ x y, alike (c.enc x) (c.enc y) = true) (hk : Sortable (xs.map c.enc)) (hd : c.dep ≤ 50)
    (q : ∀ p' H2 vs', H p' = none → Step [] H H2 → H2 p' = some (.lst vs') → Paired (r H) vs' (xs.mergeSort (dataLe false c.enc)) → Q (.ref p') H2) : rSortedC K [.ref p] H Q := by
  obtain ⟨vs', h1, h2⟩ := P_mergeSort (enc := c.enc) hp
  have e3 : ((vs.zip xs).map fun z => (z.1, c.enc z.2)).map (·.1) = vs := by
    rw [List.map_map]
    exact List.map_fst_zip (by rw [P_len hp]; exact Nat.le_refl _)
  have e4 : ((vs.zip xs).map fun z => (z.1, c.enc z.2)).map (·.2) = xs.map c.enc := by
    have e5 : (vs.zip xs).map (fun z => z.2) = xs := List.map_snd_zip (by rw [P_len hp]; exact Nat.le_refl _)
    rw [List.map_map]
    have : ((fun x : V × PyData => x.2) ∘ fun z : V × α => (z.1, c.enc z.2)) = c.enc ∘ fun z => z.2 := rfl
    rw [this, ← List.map_map, e5]
  refine ⟨p, (vs.zip xs).map fun z => (z.1, c.enc z.2), rfl, by rw [e3]; exact SqL.of h, fun z hz => ?_, by rw [e4]; exact AllAlike.of hal, by rw [e4]; exact hk, fun z hz => ?_, fun p' hp' => ?_⟩
  · obtain ⟨y, hy, rfl⟩ := List.mem_map.mp hz
    exact c.dp _ _ _ (P_zip hp hy)
  · obtain ⟨y, hy, rfl⟩ := List.mem_map.mp hz
    exact Nat.le_trans (c.hdep _) hd
  · rw [h2]
    exact q p' _ vs' hp' (Step.new hp') upd_same h1
end
theorem inj_nd {α β : Type} {f : α → β} : ∀ {l : List α} {a b : α}, (l.map f).Nodup → a ∈ l → b ∈ l → f a = f b → a = b
  | [], _, _, _, h, _, _ => by cases h
  | x :: r, a, b, hn, ha, hb, e => by
    rw [List.map_cons, List.nodup_cons] at hn
    rcases List.mem_cons.mp ha with ea | ha'
    · rcases List.mem_cons.mp hb with eb | hb'
      · rw [ea, eb]
      · exact (hn.1 (List.mem_map.mpr ⟨b, hb', by rw [← e, ea]⟩)).elim
    · rcases List.mem_cons.mp hb with eb | hb'
      · exact (hn.1 (List.mem_map.mpr ⟨a, ha', by rw [e, eb]⟩)).elim
      · exact inj_nd hn.2 ha' hb' e
theorem ltCps_of : ∀ {a b : List Nat}, a < b → ltCps a b = true
  | [], [], h => absurd h (List.lt_irrefl _)
  | [], _ :: _, _ => rfl
  | _ :: _, [], h => absurd h (List.not_lt_nil _)
  | a :: r, b :: t, h => by
    rcases List.cons_lt_cons_iff.mp h with h | ⟨h1, h2⟩
    · simp [ltCps, h]
    · simp [ltCps, h1, ltCps_of h2]
theorem rising_pw : ∀ (p : Str) (l : List Str), risingS p l = true → (p :: l).Pairwise (fun a b => cs a ≤ cs b)
  | p, [], _ => List.pairwise_singleton _ _
  | p, x :: r, h => by
    unfold risingS at h
    rw [Bool.and_eq_true, Bool.not_eq_true'] at h
    have ih := rising_pw x r h.2
    have h1 : cs p ≤ cs x := List.not_lt.mp fun z => by
      have : ltCps x.cps.toList p.cps.toList = true := ltCps_of z
      rw [this] at h
      cases h.1
    refine List.pairwise_cons.mpr ⟨fun y hy => ?_, ih⟩
    rcases List.mem_cons.mp hy with rfl | hy
    · exact h1
    · exact List.le_trans h1 ((List.pairwise_cons.mp ih).1 y hy)
theorem sorted_pw {l : List Str} (h : sortedS l = true) : l.Pairwise (fun a b => cs a ≤ cs b) := by
  cases l with
  | nil => exact .nil
  | cons p l => exact rising_pw p l h
theorem le_of_dataLe {x y : Str} {xs ys : List PyData} (h : dataLt (.tuple (.str y :: ys)) (.tuple (.str x :: xs)) = false) : cs x ≤ cs y := by
  rw [dataLt_tuple, dataLt_cons (by rfl)] at h
  by_cases e : PyData.eqv (.str y) (.str x) = true
  · have : y = x := by simpa [PyData.eqv] using e
    rw [this]
    exact List.le_refl _
  · rw [if_neg e, dataLt_str] at h
    exact List.not_lt.mp (of_decide_eq_false h)
/-- rows in order by their names, the names unlike: the one list that sorted makes -/
theorem rows_sorted {β : Type} {enc : Str × β → PyData} (he : ∀ x, ∃ l, enc x = .tuple (.str x.1 :: l)) {zs rows : List (Str × β)} (hp : zs.Perm rows) (hn : (rows.map (·.1)).Nodup) (hs : sortedS (zs.map (·.1)) = true) : zs = rows.mergeSort (dataLe false enc) := by
  have p2 := List.mergeSort_perm rows (dataLe false enc)
  have T := sortLe_total (listOrd itemOrd) false fun b : Str × β => keyToks (enc b)
  have w0 := sorted_pw hs
  rw [List.pairwise_map] at w0
  have w1 : zs.Pairwise (fun a b => cs a.1 ≤ cs b.1) := w0
  have w2 : (rows.mergeSort (dataLe false enc)).Pairwise (fun a b => cs a.1 ≤ cs b.1) := by
    have := sort_pairwise T rows
    refine this.imp fun {a b} h => ?_
    obtain ⟨la, ea⟩ := he a
    obtain ⟨lb, eb⟩ := he b
    have h : (!dataLt (enc b) (enc a)) = true := h
    rw [Bool.not_eq_true', ea, eb] at h
    exact le_of_dataLe h
  refine (hp.trans p2.symm).eq_of_pairwise (fun a b ha hb h1 h2 => ?_) w1 w2
  exact inj_nd hn (hp.mem_iff.mp ha) (p2.mem_iff.mp hb) (cs_inj (List.le_antisymm h1 h2))
end My
/-! KitV: texts put together and taken apart. -/
namespace My
open PySem PySem.Spec PyProof.Rows L2
section
variable {σ : L2.St} {H : Hp} {te : TE} {ts : List TE} {acc y : Str} {i : Int} {Q : VK}
def kFmt (Q : VK) : VK := fun x H1 => (∃ y : Str, x = .str y ∧ y.length ≤ sizeLine ∧ Q (.str y) H1) ∨ ∃ i : Int, x = .int i ∧ i.natAbs.log2 < 1920 ∧ Q (.str (toString i)) H1
theorem g_fmt (h : te σ H (kFmt Q)) : tFmt te σ H Q := h
theorem g_kFmtS (h : y.length ≤ sizeLine) (q : Q (.str y) H) : kFmt Q (.str y) H := .inl ⟨y, rfl, h, q⟩
theorem g_kFmtI (h : i.natAbs.log2 < 1920) (q : Q (.str (toString i)) H) : kFmt Q (.int i) H := .inr ⟨i, rfl, h, q⟩
def kJs (ts : List TE) (acc : Str) (σ : L2.St) (R : Str → Hp → Prop) : VK := fun x H1 => ∃ y : Str, x = .str y ∧ (acc ++ y).length ≤ sizeLine ∧ tJs ts (acc ++ y) σ H1 R
theorem g_js {R : Str → Hp → Prop} (h : te σ H (kJs ts acc σ R)) : tJs (te :: ts) acc σ H R := h
theorem g_jsN {R : Str → Hp → Prop} (h : R acc H) : tJs [] acc σ H R := h
theorem g_kJs {R : Str → Hp → Prop} (hl : (acc ++ y).length ≤ sizeLine) (h : tJs ts (acc ++ y) σ H R) : kJs ts acc σ R (.str y) H := ⟨y, rfl, hl, h⟩
def kMS (r : V → List V → Hp → VK → Prop) (te : TE) (σ : L2.St) (Q : VK) : VK := fun x H1 => (∃ a, x = .str a) ∧ te σ H1 fun y H2 => r x [y] H2 Q
theorem g_mS {to : TE} {r : V → List V → Hp → VK → Prop} (h : to σ H (kMS r te σ Q)) : L2.tM1 r to te σ H Q := h
theorem g_kMS {r : V → List V → Hp → VK → Prop} {a : Str} (h : te σ H fun y H2 => r (.str a) [y] H2 Q) : kMS r te σ Q (.str a) H := ⟨⟨a, rfl⟩, h⟩
end
theorem cs_app (a b : Str) : cs (a ++ b) = cs a ++ cs b := TL.tl_append a b
theorem len_app (a b : Str) : (a ++ b).length = a.length + b.length := by
  rw [← cs_len, ← cs_len, ← cs_len, cs_app, List.length_append]
/-- the text of a number -/
def numS (i : Int) : Str := SX.S (TL.numL i.toNat)
theorem tos {i : Int} (h : 0 ≤ i) : Str.ofString (toString i) = numS i := by
  obtain ⟨n, rfl⟩ := Int.eq_ofNat_of_zero_le h
  exact SX.num_S n
theorem cs_numS (i : Int) : cs (numS i) = TL.numL i.toNat := rfl
theorem numS_len {i : Int} {k : Nat} (hk : 0 < k) (h0 : 0 ≤ i) (h : i < 10 ^ k) : (numS i).length ≤ k := by
  rw [← cs_len, cs_numS]
  refine TL.numL_len hk ?_
  have : ((10 ^ k : Nat) : Int) = 10 ^ k := by rw [Int.natCast_pow]; rfl
  omega
theorem log_small {i : Int} (h0 : 0 ≤ i) (h : i < 10 ^ 60) : i.natAbs.log2 < 1920 := by
  have h1 : i.natAbs < 2 ^ 1920 := by
    have : (10 : Nat) ^ 60 < 2 ^ 1920 := by decide +kernel
    have h2 : ((10 ^ 60 : Nat) : Int) = 10 ^ 60 := by decide +kernel
    omega
  by_cases h2 : i.natAbs = 0
  · rw [h2]; decide
  · exact (Nat.log2_lt h2).mpr h1
/-! names and figures -/
def lowB (c : Nat) : Bool := decide (97 ≤ c) && decide (c ≤ 122)
def digB (c : Nat) : Bool := decide (48 ≤ c) && decide (c ≤ 57)
def nmB (z : Str) : Bool := decide (1 ≤ z.length) && (decide (z.length ≤ 8) && (cs z).all lowB)
def figB (m : Int) (z : Str) : Bool := !decide (z = "") && (decide ((z.length : Int) ≤ m) && ((cs z).all digB && (decide (z = "0") || !decide ((cs z).head? = some 48))))
def valS (z : Str) : Int := (NumText.digitsVal (cs z) : Nat)
theorem lowB_iff {c : Nat} : lowB c = true ↔ isLow c := by
  unfold lowB isLow
  rw [Bool.and_eq_true, decide_eq_true_eq, decide_eq_true_eq]
theorem nmB_iff {z : Str} : nmB z = true ↔ IsNm z := by
  unfold nmB
  rw [Bool.and_eq_true, Bool.and_eq_true, decide_eq_true_eq, decide_eq_true_eq, List.all_eq_true]
  constructor
  · rintro ⟨h1, h2, h3⟩
    exact ⟨h1, h2, fun c hc => lowB_iff.mp (h3 c hc)⟩
  · rintro h
    exact ⟨h.lo, h.hi, fun c hc => lowB_iff.mpr (h.low c hc)⟩
theorem letters_mem {c : Nat} : c ∈ cs ("abcdefghijklmnopqrstuvwxyz" : Str) ↔ lowB c = true := by
  have e : cs ("abcdefghijklmnopqrstuvwxyz" : Str) = (List.range 26).map (97 + ·) := by decide +kernel
  rw [e, List.mem_map, lowB_iff]
  constructor
  · rintro ⟨a, h, rfl⟩
    have := List.mem_range.mp h
    exact ⟨by omega, by omega⟩
  · rintro ⟨h1, h2⟩
    exact ⟨c - 97, List.mem_range.mpr (by omega), by omega⟩
theorem figures_mem {c : Nat} : c ∈ cs ("0123456789" : Str) ↔ digB c = true := by
  have e : cs ("0123456789" : Str) = (List.range 10).map (48 + ·) := by decide +kernel
  unfold digB
  rw [e, List.mem_map, Bool.and_eq_true, decide_eq_true_eq, decide_eq_true_eq]
  constructor
  · rintro ⟨a, h, rfl⟩
    have := List.mem_range.mp h
    exact ⟨by omega, by omega⟩
  · rintro ⟨h1, h2⟩
    exact ⟨c - 48, List.mem_range.mpr (by omega), by omega⟩
theorem dec_of {p : Prop} [Decidable p] {b : Bool} (h : p ↔ b = true) : decide p = b := by
  cases b with
  | true => exact decide_eq_true (h.mpr rfl)
  | false => exact decide_eq_false fun x => absurd (h.mp x) (by decide)
theorem letters_dec {c : Nat} : decide (c ∈ cs ("abcdefghijklmnopqrstuvwxyz" : Str)) = lowB c := dec_of letters_mem
theorem figures_dec {c : Nat} : decide (c ∈ cs ("0123456789" : Str)) = digB c := dec_of figures_mem
theorem dig_all {z : Str} (h : (cs z).all digB = true) : (cs z).all (fun c => decide (48 ≤ c) && decide (c ≤ 57)) = true := h
theorem int_of_fig {m : Int} {z : Str} (h : figB m z = true) (hm : m ≤ 640) : PySem.intText? z = some (valS z) ∧ z.length ≤ 640 := by
  unfold figB at h
  simp only [Bool.and_eq_true, Bool.not_eq_true', decide_eq_false_iff_not, decide_eq_true_eq] at h
  obtain ⟨h1, h2, h3, _⟩ := h
  have hl : z.length ≤ 640 := by omega
  have e : SX.S (cs z) = z := SX.S_tl z
  have := SX.int_S (a := cs z) h3 (fun e => h1 (by rw [← SX.S_tl z]; show SX.S (cs z) = _; rw [e]; decide +kernel)) (by rw [cs_len]; omega)
  rw [e] at this
  exact ⟨this, hl⟩
/-! words -/
def houseIn (w : Str) : Option (Str × Str × Int) :=
  if nmB (Txt.partition w "@").1 && (nmB (Txt.partition (Txt.partition w "@").2.2 "*").1 && (figB 4 (Txt.partition (Txt.partition w "@").2.2 "*").2.2 && decide (valS (Txt.partition (Txt.partition w "@").2.2 "*").2.2 ≤ 1000)))
  then some ((Txt.partition w "@").1, (Txt.partition (Txt.partition w "@").2.2 "*").1, valS (Txt.partition (Txt.partition w "@").2.2 "*").2.2) else none
def ticketIn (w : Str) : Option (Int × List Str) :=
  if figB 9 (Txt.partition w ":").1 && (decide ((Txt.split (Txt.partition w ":").2.2 ",").length ≤ 10) && (decide (Txt.split (Txt.partition w ":").2.2 ",").Nodup && (Txt.split (Txt.partition w ":").2.2 ",").all nmB))
  then some (valS (Txt.partition w ":").1, Txt.split (Txt.partition w ":").2.2 ",") else none
section
variable {α : Type}
def rises (lt : α → α → Bool) (found : List α) (r : α) : Bool := match found.getLast? with
  | none => true
  | some l => lt l r
def rowsAt (f : Str → Option α) (lt : α → α → Bool) : List α → Nat → List Str → Nat ⊕ List α
  | found, _, [] => .inr found
  | found, k, w :: ws => match f w with
    | none => .inl k
    | some r => if rises lt found r = true then rowsAt f lt (found ++ [r]) (k + 1) ws else .inl k
def rowsIn (f : Str → Option α) (lt : α → α → Bool) (t : Str) : Nat ⊕ List α := if t = "" then .inr [] else rowsAt f lt [] 0 (Txt.split t " ")
theorem rowsAt_bad {f : Str → Option α} {lt : α → α → Bool} {found : List α} {k : Nat} {w : Str} {ws : List Str} (h : f w = none) : rowsAt f lt found k (w :: ws) = .inl k := by
  unfold rowsAt; rw [h]
theorem rowsAt_some {f : Str → Option α} {lt : α → α → Bool} {found : List α} {k : Nat} {w : Str} {ws : List Str} {r : α} (h : f w = some r) : rowsAt f lt found k (w :: ws) = if rises lt found r = true then rowsAt f lt (found ++ [r]) (k + 1) ws else .inl k := by
  conv => lhs; unfold rowsAt
  rw [h]
end
end My
/-! KitO: what the head is asked besides: own classes are told by isinstance, a default that is the empty tuple. -/
namespace My
open PySem PySem.Spec PyProof.Rows L2
def ownTyB (K : PySem.W.Frag) (C : Addr) : Bool := He.eqO (PySem.W.findIn K (.ref C) "__class__") (some (some (.builtin "object.__class__"))) &&
  (He.eqO (PySem.W.specialIn K (.builtin "object.__class__") "__get__") (some (some (.builtin "getset_descriptor.__get__"))) &&
    (decide (PySem.W.takesIn K (.builtin "object.__class__") = some true) && decide (PySem.W.mroIn K C (.type "object") = some true)))
structure OwnTy (K : PySem.W.Frag) (C : Addr) : Prop where
  ha : PySem.W.findIn K (.ref C) "__class__" = some (some (.builtin "object.__class__"))
  hn : PySem.W.specialIn K (.builtin "object.__class__") "__get__" = some (some (.builtin "getset_descriptor.__get__"))
  ht : PySem.W.takesIn K (.builtin "object.__class__") = some true
  hm : PySem.W.mroIn K C (.type "object") = some true
theorem ownTyB_ok {K : PySem.W.Frag} {C : Addr} (h : ownTyB K C = true) : OwnTy K C := by
  unfold ownTyB at h
  rw [Bool.and_eq_true, Bool.and_eq_true, Bool.and_eq_true, decide_eq_true_eq, decide_eq_true_eq] at h
  exact ⟨He.eqO_ok h.1, He.eqO_ok h.2.1, h.2.2.1, h.2.2.2⟩
theorem OwnTy.ty {K : PySem.W.Frag} {C a dx : Addr} {fs : List (Str × V)} {H : Hp} (o : OwnTy K C) (c : Cls K C) (h : H a = some (.ins C dx fs)) : TyX K H (.ref a) (.ref C) := .base (.ins h c o.ha o.hn o.ht o.hm)
theorem g_isiOwn {K : PySem.W.Frag} {C a dx : Addr} {fs : List (Str × V)} {H : Hp} {Q : VK} (o : OwnTy K C) (c : Cls K C) (h : H a = some (.ins C dx fs)) (q : Q (.bl true) H) : rIsi K [.ref a, .ref C] H Q :=
  ⟨.ref a, .ref C, .ref C, .ref C, true, rfl, .own C, o.ty c h, by unfold PySem.W.kitOne; exact if_pos (by simp), q⟩
def noTupB (K : PySem.W.Frag) (a : Addr) : Bool := match K.lookup a with
  | some ⟨.type n, _, .seq its _, _⟩ => decide (n = "tuple") && decide (its.size = 0)
  | _ => false
theorem noTupB_ok {K : PySem.W.Frag} {a : Addr} {H : Hp} (h : noTupB K a = true) : SqT K H a [] := by
  unfold noTupB at h
  split at h
  · rename_i n d its m sl e
    rw [Bool.and_eq_true, decide_eq_true_eq, decide_eq_true_eq] at h
    obtain ⟨rfl, hs⟩ := h
    have : its = #[] := Array.eq_empty_of_size_eq_zero hs
    subst this
    exact .inr ⟨_, #[], m, e, rfl, rfl, by decide, .nil⟩
  · cases h
end My
/-! KitW: lists of items with a tuple inside, defs told through a name, no rows. -/
namespace My
open PySem PySem.Spec PyProof.Rows L2
section
variable {K : PySem.W.Frag} {σ : L2.St} {H : Hp} {Q : VK} {tt : TT} {te : TE} {ws : List Nat}
theorem wLc_itemsN {d : Addr} {o : Obj} {kvs : List (Key × V)} {k l m : Nat} (q : ∀ D H2, H D = none → Step [] H H2 → H2 D = some (.lst []) → ∃ Pv : Nat → Hp → Prop, Pv 0 H2 ∧ (∀ i H, i ≤ kvs.length → Pv i H → H d = some (.frz o (.dK kvs))) ∧
    (∀ i p H H2 T, kvs[i]? = some p → Pv i H → H T = none → Step [] H H2 → ∃ U x y, p.2 = .ref U ∧ H2 U = some (.tup [x, y]) ∧ kTurn tt te ws σ D (Pv (i + 1)) ((((wipe σ ws).set k (some (kV p.1))).set l (some x)).set m (some y)) H2) ∧ (∀ H, Pv kvs.length H → Q (.ref D) H)) :
    wLc (Iti d o kvs) (gTup K 2 (gCons (gName k) (gCons (gTup K 2 (gCons (gName l) (gCons (gName m) gNil))) gNil))) tt te ws σ Q H :=
  wLc_gen kvs.length fun D H2 h1 h2 h3 => by
    obtain ⟨Pv, p0, hl, hs, hd⟩ := q D H2 h1 h2 h3
    refine ⟨Pv, p0, fun i H hi p => ⟨hl i H (Nat.le_of_lt hi) p, hi⟩, fun H p => ⟨hl _ H (Nat.le_refl _) p, Nat.le_refl _⟩, fun i H x H' hi p y => ?_, hd⟩
    obtain ⟨T, k, v, e2, e3, hT, e4⟩ := y
    subst e3 e4
    obtain ⟨U, x, y, e5, hU, t⟩ := hs i (k, v) H (upd H T (.tup [kV k, v])) T e2 p hT (Step.new hT)
    have e5 : v = .ref U := e5
    subst e5
    exact ⟨T, _, rfl, SqT.of upd_same, rfl, _, _, rfl, _, _, rfl, ⟨U, _, rfl, SqT.of hU, rfl, _, _, rfl, _, _, rfl, rfl, rfl, t⟩⟩
theorem g_callL {i : Nat} {f : Addr} {sp : Sp} {E : XK} {tr : TA} (hs : σ[i]? = some (some (.ref f))) (h : tr σ H (fun vs H1 => sp vs H1 Q E)) : tCallL i f sp [] E tr σ H Q := by
  refine ⟨hs, ?_⟩
  have e : (fun vs H1 => sp (vs ++ []) H1 Q E) = fun vs H1 => sp vs H1 Q E := by
    funext vs H1
    rw [List.append_nil]
  rw [e]
  exact h
end
/-- C() of an own class with one default -/
structure HasMk0 (P : Program) (w : World) (K : PySem.W.Frag) (mg : Str → Option Value) (base : Heap) (CX : CXT) (k : Nat) (x : Str) (ps : List Str) (dvs : List V) (sp : Sp) : Prop where
  ex : ∃ fd : FuncData, FnOk P w K mg base CX k (He.ma K (He.ga K x) "__init__") fd ps sp ∧ ∃ ds, Vals dvs ds ∧ Binds K fd ps ds
theorem g_make0 {K : PySem.W.Frag} {σ : L2.St} {H : Hp} {Q : VK} {C : Addr} {sp : Sp} {E : XK} {dvs : List V} (q : ∀ x H2, H x = none → Step [] H H2 → (∃ dx, H2 x = some (.ins C dx [])) → sp (.ref x :: dvs) H2 (fun v H3 => v = .non ∧ Q (.ref x) H3) E) : tMake C sp dvs E tNil σ H Q := fun x dx hx hd hne =>
  q x _ hx ((Step.new hd).trans (Step.new (by rw [upd_ne hne.symm]; exact hx))) ⟨dx, upd_same⟩
/-- for .. in (): nothing -/
theorem wFor_none {K : PySem.W.Frag} {σ : L2.St} {H : Hp} {a : Addr} {g : TG} {t : TS} {nx bk ct : L2.St → Hp → Prop} {rt : VK} (h : SqT K H a []) (q : nx σ H) : wFor (Itt K a) g t ⟨nx, rt, bk, ct⟩ σ H :=
  wFor_gen 0 (fun _ σ' H' => σ' = σ ∧ H' = H) ⟨rfl, rfl⟩ (fun i _ _ hi _ => absurd hi (Nat.not_lt_zero _)) (fun σ' H' p => ⟨[], by rw [p.2]; exact h, Nat.le_refl _⟩) (fun i _ _ _ _ hi _ _ => absurd hi (Nat.not_lt_zero _)) fun σ' H' p => by rw [p.1, p.2]; exact q
/-! dicts alike, in whatever order -/
section
variable {K : PySem.W.Frag} {β : Type} {q : Rp β} {H : Hp}
theorem dd_core (c : Cod K q) {a b : Addr} {ks ls : List (Key × V)} (ha : H a = some (.dK ks)) (hb : H b = some (.dK ls)) (hl : ks.length = ls.length) (hall : ∀ p ∈ ks, ∃ v x, valV ls p.1 = some v ∧ c.ok x ∧ q H p.2 x ∧ q H v x)
    (hd : c.dep ≤ 64 := by exact Nat.le_of_ble_eq_true rfl) : ∃ ks ls, DDat K H (.ref a) (.ref b) ks ls (fun _ => true) ∧ (ks.length == ls.length && ks.all fun p => (valV ls p.1).isSome && true) = true := by
  refine ⟨ks, ls, ⟨a, b, rfl, rfl, ha, hb, fun k v u hm hl => ?_⟩, ?_⟩
  · obtain ⟨v', x, e1, o, q1, q2⟩ := hall _ hm
    have e1 : valV ls k = some v' := e1
    rw [e1] at hl
    cases hl
    exact ⟨c.enc x, c.enc x, c.dp _ _ _ q1, c.dp _ _ _ q2, c.shaped o hd, c.shaped o hd, (c.eqv _ _).mpr rfl⟩
  · rw [hl, beq_self_eq_true, Bool.true_and, List.all_eq_true]
    intro p hp
    obtain ⟨v', x, e1, _⟩ := hall _ hp
    rw [e1]; rfl
theorem lookI_mem : ∀ {xs : List (Int × β)} {i : Int} {x : β}, (xs.map (·.1)).Nodup → (i, x) ∈ xs → lookI xs i = some x
  | [], _, _, _, h => by cases h
  | p :: r, i, x, hn, h => by
    rw [List.map_cons, List.nodup_cons] at hn
    rcases List.mem_cons.mp h with e | h
    · subst e; exact lookI_pos rfl
    · rw [lookI_neg fun z => hn.1 (List.mem_map.mpr ⟨(i, x), h, z.symm⟩)]
      exact lookI_mem hn.2 h
theorem dd_perm (c : Cod K q) {u v : V} {xs ys : List (Int × β)} (h1 : rDI q H u xs) (h2 : rDI q H v ys) (hp : xs.Perm ys) (hok : ∀ p ∈ xs, c.ok p.2) (hn : (xs.map (·.1)).Nodup) (hd : c.dep ≤ 64 := by exact Nat.le_of_ble_eq_true rfl) :
    ∃ ks ls, DDat K H u v ks ls (fun _ => true) ∧ (ks.length == ls.length && ks.all fun p => (valV ls p.1).isSome && true) = true := by
  obtain ⟨a, ks, rfl, ha, pa⟩ := h1
  obtain ⟨b, ls, rfl, hb, pb⟩ := h2
  refine dd_core c ha hb (by rw [P_len pa, P_len pb, hp.length_eq]) (fun p hp' => ?_) hd
  obtain ⟨⟨i, x⟩, hx, hk, hv⟩ := P_mem1 pa hp'
  have hk : p.1 = Sum.inl i := hk
  rw [hk]
  have hl := lookI_mem ((hp.map (·.1)).nodup_iff.mp hn) (hp.mem_iff.mp hx)
  rcases kvs_look (i := i) pb with ⟨_, e2⟩ | ⟨v', x', e1, e2, e3⟩
  · rw [hl] at e2; cases e2
  · rw [hl] at e2
    cases e2
    exact ⟨v', x, e1, hok _ hx, hv, e3⟩
theorem g_nePerm (c : Cod K q) {Q : VK} {u v : V} {xs ys : List (Int × β)} (h1 : rDI q H u xs) (h2 : rDI q H v ys) (hp : xs.Perm ys) (hok : ∀ p ∈ xs, c.ok p.2) (hn : (xs.map (·.1)).Nodup) (k : Q (.bl false) H) (hd : c.dep ≤ 64 := by exact Nat.le_of_ble_eq_true rfl) : rNeDD K u v H Q := by
  obtain ⟨ks, ls, D, e⟩ := dd_perm c h1 h2 hp hok hn hd
  exact ⟨ks, ls, _, D, by rw [e]; exact k⟩
theorem g_eqDS (c : Cod K q) {Q : VK} {u v : V} {xs : List (Str × β)} (h1 : rDS q H u xs) (h2 : rDS q H v xs) (hok : ∀ p ∈ xs, c.ok p.2) (hn : (xs.map (·.1)).Nodup) (k : Q (.bl true) H) (hd : c.dep ≤ 64 := by exact Nat.le_of_ble_eq_true rfl) : rEqDD K u v H Q := by
  obtain ⟨a, ks, rfl, ha, pa⟩ := h1
  obtain ⟨b, ls, rfl, hb, pb⟩ := h2
  obtain ⟨ks, ls, D, e⟩ := dd_core (q := q) c ha hb (by rw [P_len pa, P_len pb]) (fun p hp' => by
    obtain ⟨⟨i, x⟩, hx, hk, hv⟩ := P_mem1 pa hp'
    have hk : p.1 = Sum.inr i := hk
    rw [hk]
    obtain ⟨v', e1, e2⟩ := dsAt pb hn hx
    exact ⟨v', x, e1, hok _ hx, hv, e2⟩) hd
  exact ⟨ks, ls, _, D, by rw [e]; exact k⟩
end
end My
/-! KitX: texts cut at one sign. -/
namespace My
open PySem PySem.Spec PyProof.Rows L2
theorem Step.ofExt {H H' : Hp} (e : Ext H H') : Step [] H H' := ⟨fun b o _ h => e b o h, fun b h => by
  cases h2 : H b with
  | none => rfl
  | some o => rw [e b o h2] at h; cases h⟩
theorem part_cases (c : Nat) (z : Str) : (∃ a b : Str, z = a ++ (⟨#[c]⟩ : Str) ++ b ∧ c ∉ cs a ∧ Txt.partition z ⟨#[c]⟩ = (a, ⟨#[c]⟩, b)) ∨ (c ∉ cs z ∧ Txt.partition z ⟨#[c]⟩ = (z, Str.empty, Str.empty)) := by
  have ey : TL.tl (⟨#[c]⟩ : Str) = c :: [] := rfl
  by_cases h : c ∈ cs z
  · obtain ⟨a, b, e, hn⟩ := List.eq_append_cons_of_mem h
    have ez : z = SX.S a ++ (⟨#[c]⟩ : Str) ++ SX.S b := by
      refine TL.ext_tl ?_
      show cs z = cs _
      rw [cs_app, cs_app, e, List.append_assoc]
      rfl
    refine .inl ⟨SX.S a, SX.S b, ez, hn, ?_⟩
    conv => lhs; rw [ez]
    exact TL.partition_app ey hn
  · exact .inr ⟨h, TL.partition_none ey h⟩
theorem part_len (c : Nat) (z : Str) : (Txt.partition z ⟨#[c]⟩).1.length ≤ z.length ∧ (Txt.partition z ⟨#[c]⟩).2.2.length ≤ z.length := by
  rcases part_cases c z with ⟨a, b, e, _, h⟩ | ⟨_, h⟩
  · rw [h]
    have := congrArg Str.length e
    rw [len_app, len_app] at this
    exact ⟨by show a.length ≤ _; omega, by show b.length ≤ _; omega⟩
  · rw [h]
    exact ⟨Nat.le_refl _, Nat.zero_le _⟩
theorem join_ex (c : Nat) : ∀ l : List Nat, ∃ ps : List (List Nat), ps ≠ [] ∧ (∀ p ∈ ps, c ∉ p) ∧ TL.joinL [c] ps = l
  | [] => ⟨[[]], by simp, by simp, rfl⟩
  | d :: l => by
    obtain ⟨ps, h1, h2, h3⟩ := join_ex c l
    by_cases e : d = c
    · subst e
      refine ⟨[] :: ps, by simp, fun p hp => ?_, ?_⟩
      · rcases List.mem_cons.mp hp with rfl | hp
        · simp
        · exact h2 p hp
      · cases ps with
        | nil => exact absurd rfl h1
        | cons p r =>
          show [] ++ ([d] ++ TL.joinL [d] (p :: r)) = d :: l
          rw [h3]; rfl
    · cases ps with
      | nil => exact absurd rfl h1
      | cons p r =>
        refine ⟨(d :: p) :: r, by simp, fun q hq => ?_, ?_⟩
        · rcases List.mem_cons.mp hq with rfl | hq
          · intro hm
            rcases List.mem_cons.mp hm with z | z
            · exact e z.symm
            · exact h2 p (List.mem_cons_self ..) z
          · exact h2 q (List.mem_cons_of_mem _ hq)
        · rw [← h3]
          cases r with
          | nil => rfl
          | cons y z => rfl
theorem joinL_len (c : Nat) : ∀ ps : List (List Nat), ps.length ≤ (TL.joinL [c] ps).length + 1 ∧ ∀ p ∈ ps, p.length ≤ (TL.joinL [c] ps).length
  | [] => ⟨by simp, by simp⟩
  | [p] => ⟨by simp, fun q hq => by rw [List.mem_singleton.mp hq]; exact Nat.le_refl _⟩
  | p :: q :: r => by
    obtain ⟨h1, h2⟩ := joinL_len c (q :: r)
    have e : (TL.joinL [c] (p :: q :: r)).length = p.length + (1 + (TL.joinL [c] (q :: r)).length) := by
      show (p ++ ([c] ++ TL.joinL [c] (q :: r))).length = _
      rw [List.length_append, List.length_append]; rfl
    refine ⟨by rw [List.length_cons]; omega, fun x hx => ?_⟩
    rcases List.mem_cons.mp hx with rfl | hx
    · omega
    · have := h2 x hx
      omega
structure CutAt (c : Nat) (z : Str) (ps : List Str) : Prop where
  ne : ps ≠ []
  free : ∀ p ∈ ps, c ∉ cs p
  join : Txt.join ⟨#[c]⟩ ps = z
  split : Txt.split z ⟨#[c]⟩ = ps
  many : ps.length ≤ z.length + 1
  len : ∀ p ∈ ps, p.length ≤ z.length
theorem cut_of {c : Nat} {z : Str} {ps : List Str} (hc : c < 256) (ne : ps ≠ []) (free : ∀ p ∈ ps, c ∉ cs p) (join : Txt.join ⟨#[c]⟩ ps = z) : CutAt c z ps := by
  have e : TL.tl z = TL.joinL [c] (ps.map TL.tl) := by
    rw [← join, TL.join_eq]
    exact TL.tl_join _ _
  obtain ⟨h1, h2⟩ := joinL_len c (ps.map TL.tl)
  have hz : z.length = (TL.joinL [c] (ps.map TL.tl)).length := by rw [← e]; exact (cs_len z).symm
  refine ⟨ne, free, join, ?_, ?_, fun p hp => ?_⟩
  · rw [← join]
    exact TL.split_join (s := c) (S := []) rfl (by simp [hc]) ne free
  · rw [List.length_map] at h1
    omega
  · have := h2 (TL.tl p) (List.mem_map.mpr ⟨p, hp, rfl⟩)
    rw [hz, ← cs_len]
    exact this
theorem cut_at (c : Nat) (z : Str) (hc : c < 256) : CutAt c z (Txt.split z ⟨#[c]⟩) := by
  obtain ⟨ps, h1, h2, h3⟩ := join_ex c (cs z)
  have hj : Txt.join ⟨#[c]⟩ (ps.map SX.S) = z := by
    refine TL.ext_tl ?_
    rw [TL.join_eq, TL.tl_join, SX.map_S_tl]
    exact h3
  have := cut_of (z := z) hc (by simpa using h1) (fun p hp => by obtain ⟨q, hq, rfl⟩ := List.mem_map.mp hp; exact h2 q hq) hj
  rw [this.split]
  exact this
theorem sum_le {B : Nat} : ∀ {ss : List Str}, (∀ s ∈ ss, s.length ≤ B) → (ss.map (·.length)).sum ≤ ss.length * B
  | [], _ => by simp
  | s :: r, h => by
    have h1 := h s (List.mem_cons_self ..)
    have h2 := sum_le (ss := r) fun x hx => h x (List.mem_cons_of_mem _ hx)
    rw [List.map_cons, List.sum_cons, List.length_cons, Nat.add_mul]
    omega
theorem empty_app (z : Str) : Str.empty ++ z = z := TL.ext_tl (by
  show cs _ = cs z
  rw [cs_app]; rfl)
theorem l_empty : Str.empty.length = 0 := rfl
theorem l_at : ("@" : Str).length = 1 := by decide +kernel
theorem l_star : ("*" : Str).length = 1 := by decide +kernel
theorem l_colon : (":" : Str).length = 1 := by decide +kernel
theorem l_comma : ("," : Str).length = 1 := by decide +kernel
theorem l_blank : (" " : Str).length = 1 := by decide +kernel
theorem l_slash : ("/" : Str).length = 1 := by decide +kernel
theorem l_gt : (">" : Str).length = 1 := by decide +kernel
theorem c_at : ("@" : Str) = ⟨#[64]⟩ := by decide +kernel
theorem c_star : ("*" : Str) = ⟨#[42]⟩ := by decide +kernel
theorem c_colon : (":" : Str) = ⟨#[58]⟩ := by decide +kernel
theorem c_comma : ("," : Str) = ⟨#[44]⟩ := by decide +kernel
theorem c_blank : (" " : Str) = ⟨#[32]⟩ := by decide +kernel
def rPart : V → List V → Hp → VK → Prop := fun x xs H Q => ∃ a b, x = .str a ∧ xs = [.str b] ∧ (b.length == 0) = false ∧ a.length ≤ sizeLine ∧
  ∀ p, H p = none → Q (.ref p) (upd H p (.tup [.str (Txt.partition a b).1, .str (Txt.partition a b).2.1, .str (Txt.partition a b).2.2]))
def rSplit : V → List V → Hp → VK → Prop := fun x xs H Q => ∃ a b, x = .str a ∧ xs = [.str b] ∧ (b.length == 0) = false ∧ a.length + 2 ≤ sizeLine ∧ rNewStrs (Txt.split a b) H Q
section
variable {X : Cx} {o e : Expr} {apos pos : Pos} {to te : TE}
theorem pe_partR (ho : PE X o to) (he : PE X e te) (hs : starEach [e] X.env = [(false, eval e X.env)] := by rfl) (hbase : attributeBase o "partition" X.env (eval o X.env) = eval o X.env := by rfl) (hline : (apos.endLine == pos.line) = true := by rfl) :
    PE X (.Call (.Attribute o "partition" apos) [e] [] pos) (L2.tM1 rPart to te) := pe_partition ho he hs hbase hline
theorem pe_splitR (ho : PE X o to) (he : PE X e te) (hs : starEach [e] X.env = [(false, eval e X.env)] := by rfl) (hbase : attributeBase o "split" X.env (eval o X.env) = eval o X.env := by rfl) (hline : (apos.endLine == pos.line) = true := by rfl) :
    PE X (.Call (.Attribute o "split" apos) [e] [] pos) (L2.tM1 rSplit to te) := pe_split ho he hs hbase hline
end
section
variable {K : PySem.W.Frag} {H : Hp} {Q : VK}
theorem g_partition {z y : Str} (hy : (y.length == 0) = false) (hl : z.length ≤ sizeLine) (q : ∀ p H2, H p = none → Step [] H H2 → H2 p = some (.tup [.str (Txt.partition z y).1, .str (Txt.partition z y).2.1, .str (Txt.partition z y).2.2]) → Q (.ref p) H2) :
    rPart (.str z) [.str y] H Q := ⟨z, y, rfl, rfl, hy, hl, fun p hp => q p _ hp (Step.new hp) upd_same⟩
theorem g_split {z y : Str} (hy : (y.length == 0) = false) (hl : z.length + 2 ≤ sizeLine) (q : ∀ p H2, H p = none → Step [] H H2 → H2 p = some (.lst ((Txt.split z y).map V.str)) → Q (.ref p) H2) :
    rSplit (.str z) [.str y] H Q := ⟨z, y, rfl, rfl, hy, hl, fun p hp => q p _ hp (Step.new hp) upd_same⟩
end
/-! the words of rows -/
def wordS (r : Str × Str × Int) : Str := r.1 ++ "@" ++ r.2.1 ++ "*" ++ numS r.2.2
def tickS (p : Int × List Str) : Str := numS p.1 ++ ":" ++ Txt.join "," p.2
def townS (rows : List (Str × Str × Int)) : Str := Txt.join " " (rows.map wordS)
theorem join_len {y : Str} {B : Nat} {ss : List Str} (hy : y.length ≤ 1) (h : ∀ s ∈ ss, s.length ≤ B) : (Txt.join y ss).length ≤ ss.length * (B + 1) := by
  rw [TL.join_eq, ← cs_len]
  have e : cs (Str.join y ss) = TL.joinL (cs y) (ss.map cs) := TL.tl_join y ss
  rw [e]
  have hy : (cs y).length ≤ 1 := by rw [cs_len]; exact hy
  generalize cs y = Y at *
  clear e
  induction ss with
  | nil => exact Nat.zero_le _
  | cons s r ih =>
    have h1 := h s (List.mem_cons_self ..)
    have ih := ih fun x hx => h x (List.mem_cons_of_mem _ hx)
    rw [← cs_len] at h1
    cases r with
    | nil =>
      show (cs s).length ≤ 1 * (B + 1)
      omega
    | cons t r =>
      show (cs s ++ (Y ++ TL.joinL Y ((t :: r).map cs))).length ≤ _
      rw [List.length_append, List.length_append, List.length_cons (a := s), Nat.add_mul]
      omega
theorem pe_joinRK {X : Cx} {e : Expr} {K : PySem.W.Frag} {to te : TE} (h : PE X e (L2.tM1 (rJoin X.K) to te)) (hK : X.K = K := by rfl) : PE X e (L2.tM1 (rJoin K) to te) := by subst hK; exact h
end My
/-! KitY: enumerate of a list; digits; what is read is good. -/
namespace My
open PySem PySem.Spec PyProof.Rows L2
theorem digits_bound : ∀ (n : Nat) (l : List Nat), l.length = n → l.all digB = true → NumText.digitsVal l < 10 ^ n
  | 0, l, h, _ => by
    rw [List.length_eq_zero_iff.mp h]
    decide
  | n + 1, l, h, ha => by
    have hne : l ≠ [] := fun e => by rw [e] at h; cases h
    have e := List.dropLast_concat_getLast hne
    rw [← e] at ha ⊢
    rw [List.all_append, Bool.and_eq_true] at ha
    have ih := digits_bound n l.dropLast (by rw [List.length_dropLast]; omega) ha.1
    have hd : digB (l.getLast hne) = true := by
      have := ha.2
      simpa using this
    unfold digB at hd
    rw [Bool.and_eq_true, decide_eq_true_eq, decide_eq_true_eq] at hd
    rw [NumText.digitsVal_snoc, Nat.pow_succ]
    omega
theorem valS_bound {m : Int} {z : Str} {k : Nat} (h : figB m z = true) (hm : m ≤ k) : 0 ≤ valS z ∧ valS z < 10 ^ k := by
  unfold figB at h
  simp only [Bool.and_eq_true, Bool.not_eq_true', decide_eq_false_iff_not, decide_eq_true_eq] at h
  obtain ⟨h1, h2, h3, _⟩ := h
  have b := digits_bound _ (cs z) rfl h3
  rw [cs_len] at b
  have hp : (10 : Nat) ^ z.length ≤ 10 ^ k := Nat.pow_le_pow_right (by decide) (by omega)
  have e : ((10 ^ k : Nat) : Int) = 10 ^ k := by rw [Int.natCast_pow]; rfl
  unfold valS
  omega
section
variable {K : PySem.W.Frag} {σ : L2.St} {H : Hp} {t : TS} {nx bk ct : L2.St → Hp → Prop} {rt : VK} {tr : TA}
def kEnum (K : PySem.W.Frag) (R : WK) : List V → Hp → Prop := fun vs H1 => ∃ a xs, vs = [.ref a] ∧ SqL K H1 a xs ∧ R (Ite K a) H1
theorem g_enum {R : WK} (h : tr σ H (kEnum K R)) : iEnum K tr σ H R := h
theorem g_kEnum {R : WK} {a : Addr} {xs : List V} (h : H a = some (.lst xs)) (q : R (Ite K a) H) : kEnum K R [.ref a] H := ⟨a, xs, rfl, SqL.of h, q⟩
theorem wFor_enum {a : Addr} {xs : List V} {k l : Nat} (Pv : Nat → L2.St → Hp → Prop) (h0 : Pv 0 σ H) (hl : ∀ i σ H, i ≤ xs.length → Pv i σ H → H a = some (.lst xs))
    (hs : ∀ i x σ H H2, xs[i]? = some x → Pv i σ H → Step [] H H2 → t ⟨Pv (i + 1), rt, nx, Pv (i + 1)⟩ ((σ.set k (some (.int (i : Nat)))).set l (some x)) H2) (hd : ∀ σ H, Pv xs.length σ H → nx σ H) :
    wFor (Ite K a) (gTup K 2 (gCons (gName k) (gCons (gName l) gNil))) t ⟨nx, rt, bk, ct⟩ σ H :=
  wFor_gen xs.length Pv h0 (fun i σ H hi p => ⟨xs, xs[i], SqL.of (hl i σ H (Nat.le_of_lt hi) p), List.getElem?_eq_getElem hi⟩) (fun σ H p => ⟨xs, SqL.of (hl _ σ H (Nat.le_refl _) p), Nat.le_refl _⟩) (fun i σ H x H' hi p yy => by
    obtain ⟨T, x, e3, hT, e4, f1⟩ := yy
    subst e3 e4
    exact ⟨T, _, rfl, SqT.of upd_same, rfl, _, _, rfl, _, _, rfl, rfl, hs i x σ H _ (f1 xs (SqL.of (hl i σ H (Nat.le_of_lt hi) p))) p (Step.new hT)⟩) hd
end
theorem at_last {α : Type} {xs : List α} {v : α} (h : xs.getLast? = some v) : atI xs (-1) = some v := by
  have hne : xs ≠ [] := fun e => by rw [e] at h; cases h
  have hl : 0 < xs.length := List.length_pos_iff.mpr hne
  unfold atI
  have e : ixN xs.length (-1) = some (xs.length - 1) := by
    unfold ixN
    rw [if_neg (by omega), if_pos (by omega)]
    congr 1
    omega
  rw [e]
  show xs[xs.length - 1]? = some v
  rw [← List.getLast?_eq_getElem?]
  exact h
end My
/-! KitZ: writings read back, what is read written. -/
namespace My
open PySem PySem.Spec PyProof.Rows L2
theorem part_app {c : Nat} {a b : Str} (h : c ∉ cs a) : Txt.partition (a ++ (⟨#[c]⟩ : Str) ++ b) ⟨#[c]⟩ = (a, ⟨#[c]⟩, b) := TL.partition_app (S := []) rfl h
theorem cs_zero : cs ("0" : Str) = [48] := by decide +kernel
theorem cs_no : cs ("" : Str) = [] := by decide +kernel
theorem numL_head : ∀ (n : Nat), 0 < n → (TL.numL n).head? ≠ some 48 := by
  intro n
  induction n using Nat.strongRecOn with
  | _ n ih =>
    intro hn
    by_cases h : n < 10
    · rw [TL.numL_lt h]
      intro e
      have := Option.some.inj e
      omega
    · rw [TL.numL_step (by omega), List.head?_append]
      have := ih (n / 10) (by omega) (by omega)
      cases e : (TL.numL (n / 10)).head? with
      | none => rw [List.head?_eq_none_iff] at e; exact absurd e (TL.numL_ne _)
      | some c => rw [e] at this; simpa using this
theorem fig_num {i m : Int} {k : Nat} (hk : 0 < k) (h0 : 0 ≤ i) (h : i < 10 ^ k) (hm : (k : Int) ≤ m) : figB m (numS i) = true ∧ valS (numS i) = i := by
  have e := cs_numS i
  have hl := numS_len hk h0 h
  constructor
  · unfold figB
    rw [e]
    have h1 : numS i ≠ "" := fun z => TL.numL_ne i.toNat (by rw [← e, z]; exact cs_no)
    have h3 : (TL.numL i.toNat).all digB = true := by
      rw [List.all_eq_true]
      intro c hc
      have := TL.numL_digits i.toNat c hc
      unfold digB
      rw [decide_eq_true this.1, decide_eq_true this.2]; rfl
    rw [decide_eq_false h1, decide_eq_true (show ((numS i).length : Int) ≤ m by omega), h3]
    by_cases hz : i = 0
    · have : numS i = "0" := cs_inj (by rw [e, hz, cs_zero]; rfl)
      rw [decide_eq_true this]; rfl
    · rw [decide_eq_false (numL_head i.toNat (by omega))]
      simp
  · unfold valS
    rw [e, TL.numL_val]
    omega
theorem num_fig {m : Int} {z : Str} (h : figB m z = true) : numS (valS z) = z := by
  unfold figB at h
  simp only [Bool.and_eq_true, Bool.or_eq_true, Bool.not_eq_true', decide_eq_false_iff_not, decide_eq_true_eq] at h
  obtain ⟨h1, _, h3, h4⟩ := h
  refine cs_inj ?_
  rw [cs_numS]
  unfold valS
  have ad : NumText.AllDigits (cs z) := by
    intro c hc
    have := List.all_eq_true.mp h3 c hc
    unfold digB at this
    rw [Bool.and_eq_true, decide_eq_true_eq, decide_eq_true_eq] at this
    exact this
  obtain ⟨c, r, ec⟩ : ∃ c r, cs z = c :: r := by
    cases e : cs z with
    | nil => exact absurd (cs_inj (by rw [e, cs_no])) h1
    | cons c r => exact ⟨c, r, rfl⟩
  have hx : r.length = 0 ∨ ∃ c' r', cs z = c' :: r' ∧ 49 ≤ c' := by
    rcases h4 with h4 | h4
    · left
      rw [h4, cs_zero] at ec
      cases ec; rfl
    · right
      refine ⟨c, r, ec, ?_⟩
      have h5 := (ad c (by rw [ec]; exact List.mem_cons_self ..)).1
      rw [ec] at h4
      have : c ≠ 48 := fun e => h4 (by rw [e]; rfl)
      omega
  have t := NumText.toDigits_digitsVal r.length (cs z) (by rw [ec]; rfl) ad hx
  show (Nat.toDigits 10 (NumText.digitsVal (cs z))).map Char.toNat = cs z
  rw [t, List.map_map]
  conv => rhs; rw [← List.map_id (cs z)]
  refine List.map_congr_left fun c hc => ?_
  have := ad c hc
  show (Char.ofNat c).toNat = c
  have hv : c.isValidChar := by left; omega
  rw [Char.ofNat, dif_pos hv]
  rfl
theorem low_free {z : Str} (h : IsNm z) {c : Nat} (hc : ¬ isLow c) : c ∉ cs z := fun hm => hc (h.low c hm)
theorem word_read {r : Str × Str × Int} (h1 : IsNm r.1) (h2 : IsNm r.2.1) (h3 : 0 ≤ r.2.2) (h4 : r.2.2 ≤ 1000) : houseIn (wordS r) = some r := by
  obtain ⟨nm, zn, hv⟩ := r
  have e1 : wordS (nm, zn, hv) = nm ++ (⟨#[64]⟩ : Str) ++ (zn ++ (⟨#[42]⟩ : Str) ++ numS hv) := by
    refine cs_inj ?_
    unfold wordS
    rw [c_at, c_star]
    simp only [cs_app, List.append_assoc]
  have p1 : Txt.partition (wordS (nm, zn, hv)) "@" = (nm, ⟨#[64]⟩, zn ++ (⟨#[42]⟩ : Str) ++ numS hv) := by
    rw [e1, c_at]
    exact part_app (low_free h1 (by unfold isLow; omega))
  have p2 : Txt.partition (zn ++ (⟨#[42]⟩ : Str) ++ numS hv) "*" = (zn, ⟨#[42]⟩, numS hv) := by
    rw [c_star]
    exact part_app (low_free h2 (by unfold isLow; omega))
  have f := fig_num (k := 4) (m := 4) (by decide) h3 (by have : hv ≤ 1000 := h4; omega) (by decide)
  unfold houseIn
  rw [p1]
  dsimp only
  rw [p2]
  dsimp only
  rw [if_pos, f.2]
  rw [nmB_iff.mpr h1, nmB_iff.mpr h2, f.1, f.2, decide_eq_true h4]
  rfl
theorem nm_no : nmB Str.empty = false := by decide +kernel
theorem word_back {w : Str} {r : Str × Str × Int} (h : houseIn w = some r) : wordS r = w := by
  unfold houseIn at h
  split at h
  · rename_i hc
    rw [Bool.and_eq_true, Bool.and_eq_true, Bool.and_eq_true, decide_eq_true_eq] at hc
    obtain ⟨h1, h2, h3, h4⟩ := hc
    rw [c_at, c_star] at *
    rcases part_cases 64 w with ⟨a, b, ew, _, p⟩ | ⟨_, p⟩
    · rw [p] at h h1 h2 h3 h4
      dsimp only at h h1 h2 h3 h4
      rcases part_cases 42 b with ⟨a2, b2, eb, _, p2⟩ | ⟨_, p2⟩
      · rw [p2] at h h2 h3 h4
        dsimp only at h h2 h3 h4
        cases h
        rw [ew, eb]
        unfold wordS
        rw [c_at, c_star]
        dsimp only
        rw [num_fig h3]
        refine cs_inj ?_
        simp only [cs_app, List.append_assoc]
      · rw [p2] at h3
        dsimp only at h3
        exact absurd h3 (by decide +kernel)
    · rw [p] at h2
      have e : Txt.partition Str.empty (⟨#[42]⟩ : Str) = (Str.empty, Str.empty, Str.empty) := by
        rcases part_cases 42 Str.empty with ⟨a, b, e, _, _⟩ | ⟨_, p⟩
        · have := congrArg Str.length e
          rw [len_app, len_app] at this
          exact absurd this (by rw [l_empty, show (⟨#[42]⟩ : Str).length = 1 from rfl]; omega)
        · exact p
      dsimp only at h2
      rw [e] at h2
      exact absurd h2 (by rw [nm_no]; decide)
  · cases h
theorem tick_read {p : Int × List Str} (t0 : 0 ≤ p.1) (t1 : p.1 < 10 ^ 9) (nd : p.2.Nodup) (nm : ∀ z ∈ p.2, IsNm z) (l0 : 1 ≤ p.2.length) (l1 : p.2.length ≤ 10) : ticketIn (tickS p) = some p := by
  obtain ⟨t, hs⟩ := p
  have p1 : Txt.partition (tickS (t, hs)) ":" = (numS t, ⟨#[58]⟩, Txt.join "," hs) := by
    unfold tickS
    rw [c_colon]
    exact part_app (by rw [cs_numS]; exact TL.numL_free (by omega))
  have f := fig_num (k := 9) (m := 9) (by decide) t0 t1 (by decide)
  have cu := cut_of (c := 44) (z := Txt.join "," hs) (ps := hs) (by decide) (List.length_pos_iff.mp l0) (fun z hz => low_free (nm z hz) (by unfold isLow; omega)) (by rw [c_comma])
  have sp := cu.split
  rw [← c_comma] at sp
  unfold ticketIn
  rw [p1]
  dsimp only
  rw [sp, if_pos, f.2]
  rw [f.1, decide_eq_true l1, decide_eq_true nd, List.all_eq_true.mpr fun z hz => nmB_iff.mpr (nm z hz)]
  rfl
theorem tick_back {w : Str} {p : Int × List Str} (h : ticketIn w = some p) : tickS p = w := by
  unfold ticketIn at h
  split at h
  · rename_i hc
    rw [Bool.and_eq_true, Bool.and_eq_true, Bool.and_eq_true] at hc
    obtain ⟨h1, h2, h3, h4⟩ := hc
    rw [c_colon] at *
    rcases part_cases 58 w with ⟨a, b, ew, _, pp⟩ | ⟨_, pp⟩
    · rw [pp] at h h1 h4
      dsimp only at h h1 h4
      cases h
      unfold tickS
      dsimp only
      have cu := (cut_at 44 b (by decide)).join
      rw [← c_comma] at cu
      rw [num_fig h1, cu, c_colon, ew]
    · rw [pp] at h4
      dsimp only at h4
      have e : Txt.split Str.empty "," = [Str.empty] := by decide +kernel
      rw [e] at h4
      exact absurd h4 (by decide +kernel)
  · cases h
variable {α : Type} {f : Str → Option α} {g : α → Str} {lt : α → α → Bool}
theorem rowsAt_read : ∀ {rows found : List α} {k : Nat}, (∀ r ∈ rows, f (g r) = some r) → (found ++ rows).Pairwise (fun a b => lt a b = true) → rowsAt f lt found k (rows.map g) = .inr (found ++ rows)
  | [], found, k, _, _ => by rw [List.append_nil]; rfl
  | r :: rs, found, k, hf, hp => by
    rw [List.map_cons, rowsAt_some (hf r (List.mem_cons_self ..)), if_pos]
    · rw [rowsAt_read (fun x hx => hf x (List.mem_cons_of_mem _ hx)) (by rw [List.append_assoc]; exact hp), List.append_assoc]; rfl
    · unfold rises
      cases e : found.getLast? with
      | none => rfl
      | some l => exact (List.pairwise_append.mp hp).2.2 l (List.mem_of_getLast? e) r (List.mem_cons_self ..)
theorem rowsIn_read {rows : List α} (hf : ∀ r ∈ rows, f (g r) = some r) (fr : ∀ r ∈ rows, 32 ∉ cs (g r)) (ne : ∀ r ∈ rows, g r ≠ "") (hp : rows.Pairwise (fun a b => lt a b = true)) : rowsIn f lt (Txt.join " " (rows.map g)) = .inr rows := by
  cases rows with
  | nil =>
    unfold rowsIn
    exact if_pos rfl
  | cons r rs =>
    have cu := cut_of (c := 32) (z := Txt.join " " ((r :: rs).map g)) (ps := (r :: rs).map g) (by decide) (by simp) (fun p hp => by obtain ⟨x, hx, rfl⟩ := List.mem_map.mp hp; exact fr x hx) (by rw [c_blank])
    have sp := cu.split
    rw [← c_blank] at sp
    unfold rowsIn
    rw [if_neg, sp]
    · exact rowsAt_read (found := []) hf hp
    · intro e
      have h := cu.len (g r) (by simp)
      rw [e] at h
      have h0 : (cs (g r)).length = 0 := by rw [cs_len]; exact Nat.le_zero.mp h
      exact ne r (List.mem_cons_self ..) (cs_inj (by rw [List.length_eq_zero_iff.mp h0, cs_no]))
theorem rowsAt_back (hb : ∀ w r, f w = some r → g r = w) : ∀ {ws : List Str} {found rows : List α} {k : Nat}, rowsAt f lt found k ws = .inr rows → rows.map g = found.map g ++ ws
  | [], found, rows, k, h => by cases h; rw [List.append_nil]
  | w :: ws, found, rows, k, h => by
    cases e : f w with
    | none => rw [rowsAt_bad e] at h; cases h
    | some r =>
      rw [rowsAt_some e] at h
      split at h
      · rw [rowsAt_back hb h, List.map_append, List.append_assoc, List.map_singleton, hb w r e]; rfl
      · cases h
theorem rowsIn_back (hb : ∀ w r, f w = some r → g r = w) {t : Str} {rows : List α} (h : rowsIn f lt t = .inr rows) : Txt.join " " (rows.map g) = t := by
  unfold rowsIn at h
  split at h
  · rename_i e
    cases h
    rw [e]; rfl
  · rw [rowsAt_back hb h]
    have := (cut_at 32 t (by decide)).join
    rw [← c_blank] at this
    exact this
end My
/-! KitE: a caught error that is held as a value. -/
namespace PySem.W
open PySem PySem.Spec PySem.Calls PyProof.Rows
section
variable {prog : Program} {w : World} {A : Around} {E : Value → Shared → Prop} {s : Shared} {K : Frag} {x D : Addr} {ox : Obj} {od : Option Obj}
theorem vFindData {C : Addr} {name : Str} {a g : Value} (hc : (clsIn K C).isSome = true) (hA : findIn K (.ref C) name = some (some a)) (hG : specialIn K a "__get__" = some (some g)) (hT : takesIn K a = some true) : findObj K C od name = some (.bind g a) := by
  obtain ⟨cd, h0⟩ := Option.isSome_iff_exists.mp hc
  unfold findObj
  rw [h0, Option.bind_some, hA, Option.bind_some]
  simp only [hG, hT, Option.bind_some]
structure VCls (K : Frag) (D : Addr) : Prop where
  ga : findIn K (.ref D) "__getattribute__" = some (some (.builtin "BaseException.__getattribute__"))
  gt : findIn K (.ref D) "__getattr__" = some none
  sb : subIn K (.ref D) (.type "BaseException") = some true
  dc : hasDictIn K D = true
  cl : findIn K (.ref D) "__class__" = some (some (.builtin "object.__class__"))
  sp : specialIn K (.builtin "object.__class__") "__get__" = some (some (.builtin "getset_descriptor.__get__"))
  tk : takesIn K (.builtin "object.__class__") = some true
  mr : mroIn K D (.type "object") = some true
theorem vKinClass (v : VCls K D) {Q : Option Value → Shared → Prop} (X : K.In s.heap) (I : InstAt s.heap x ox D od) (q : Q (some (.ref D)) { s with toks := s.toks + 1 }) : wpAny (model prog w) A (getAttr? (.ref x) "__class__") Q E s := by
  have ff : findObj K D od "__class__" = some (.bind (.builtin "getset_descriptor.__get__") (.builtin "object.__class__")) := vFindData (by obtain ⟨cd, hc, _⟩ := any_some v.dc; rw [hc]; rfl) v.cl v.sp v.tk
  obtain ⟨hp, g, d, t, os⟩ := s
  have k0 := I.type (M := model prog w)
  have k1 := looks_findIn (M := model prog w) X v.ga
  have k2 := looks_findIn (M := model prog w) X v.gt
  have k3 := looks_find (M := model prog w) X I ff
  have ks : Looks (model prog w) hp (isInstance (.ref x) (.type "BaseException")) true := k0.andThen (looks_subIn X v.sb)
  have n0 : (false && onTheHeap (Value.builtin "BaseException.__getattribute__")) = false := rfl
  have n2 : (Value.builtin "BaseException.__getattribute__" == Value.builtin "object.__getattribute__") = false := by decide +kernel
  have n1 : (onTheHeap (Value.ref D) && Value.builtin "BaseException.__getattribute__" == Value.builtin "object.__getattribute__") = false := by rw [n2]; rfl
  unfold getAttr? getAttrBy? getAttrBy
  refine wpAny_bind (wpAny_mkText (wpAny_bind (wpAny_attempt (wpAny_holding (wpAny_bind (k0.at (wpAny_bind (k1.at ?_))))))))
  show wpAny _ _ (if (onTheHeap (Value.ref D) && Value.builtin "BaseException.__getattribute__" == Value.builtin "object.__getattribute__") = true then _ else _) _ _ _
  rw [n1, if_neg Bool.false_ne_true]
  unfold getAttrByItsOwn hookBefore
  refine wpAny_bind ?_
  rw [if_pos (show onTheHeap (Value.ref D) = true from rfl)]
  refine k2.at ?_
  refine wpAny_bind (wpAny_attempt (wpAny_holding ?_))
  unfold callGetattribute
  rw [n0, if_neg Bool.false_ne_true]
  unfold boundAndCalled
  rw [PySem.F.excAttr_ValueError.ga.bind (.ref x)]
  refine wpAny_bind (wpAny_pure ?_)
  show wpAny _ _ (call (.builtin "BaseException.__getattribute__") [.ref x, .str "__class__" t]) _ _ _
  refine wpAny_call (codeAny_call_builtin PySem.F.excAttr_ValueError.ga.plain PySem.F.entry_bexc_ga ?_)
  refine @check_slot (model prog w) _ _ ⟨hp, g, d, t + 1, os⟩ "BaseException.__getattribute__" "BaseException" "__getattribute__" (.ref x) [.str "__class__" t] [] _ (by decide +kernel) (by decide +kernel) ks (PySem.F.args_bexc_ga (.ref x) (.str "__class__" t)) ?_
  unfold Builtin.«object.__getattribute__»
  refine wpAny_bind (wpAny_of_eq (a := ((Value.ref x : Value), [Value.str "__class__" t])) (by first | rfl | (simp only [slotArgs]; rfl)) ?_)
  refine wpAny_bind (wpAny_pure (wpAny_bind (k0.at (wpAny_bind (k3.at ?_)))))
  show wpAny _ _ (holding [Value.builtin "object.__class__"] (call (.builtin "getset_descriptor.__get__") [.builtin "object.__class__", .ref x, .ref D]) >>= ret) _ _ _
  refine wpAny_bind (wpAny_holding (wpAny_call (class_get (s := ⟨hp, g, d, t + 1, os⟩) (ox := ox) (od := od) X I v.mr ?_)))
  refine wpAny_pure ?_
  show wpAny _ _ (handedOut (.ref D)) _ _ _
  rw [handedOut_of (v := .ref D) rfl]
  first
    | exact wpAny_pure (wpAny_pure q)
    | exact wpAny_pure q
    | exact wpAny_pure (wpAny_bind (wpAny_pure (wpAny_pure q)))
theorem vKit (v : VCls K D) : KitX K (.ref x) (.ref D) (fun h => ∃ ox od, InstAt h x ox D od) where
  ty := fun _ _ _ ⟨_, _, I⟩ => I.type
  it := fun _ _ X _ => by
    obtain ⟨cdD, hcD, _⟩ := any_some v.dc
    unfold clsIn at hcD
    split at hcD
    · rename_i c' d' cd' sl' ho
      intro A' Q' E' s' k q
      unfold isType loadHead
      exact wpAny_bind (wpAny_loadPart (k _ _ (X _ _ ho)) (wpAny_pure q))
    · cases hcD
  ne := fun h tp dd its n sl X htp => by
    obtain ⟨cdD, hcD, _⟩ := any_some v.dc
    refine Bool.eq_false_iff.mpr fun q => ?_
    have e : D = tp := Value.ref.inj (beq_iff_eq.mp q)
    subst e
    unfold clsIn at hcD
    split at hcD
    · rename_i c' d' cd' sl' ho
      have z := (X _ _ ho).symm.trans htp
      cases z
    · cases hcD
  ca := fun X ⟨_, _, I⟩ k => vKinClass v X I k
end
end PySem.W
namespace My
open PySem PySem.Spec PyProof.Rows L2
def vclsB (K : PySem.W.Frag) (D : Addr) : Bool :=
  decide (PySem.W.findIn K (.ref D) "__getattribute__" = some (some (.builtin "BaseException.__getattribute__"))) && (decide (PySem.W.findIn K (.ref D) "__getattr__" = some none) && (decide (PySem.W.subIn K (.ref D) (.type "BaseException") = some true) && (PySem.W.hasDictIn K D &&
    (He.eqO (PySem.W.findIn K (.ref D) "__class__") (some (some (.builtin "object.__class__"))) && (He.eqO (PySem.W.specialIn K (.builtin "object.__class__") "__get__") (some (some (.builtin "getset_descriptor.__get__"))) &&
      (decide (PySem.W.takesIn K (.builtin "object.__class__") = some true) && decide (PySem.W.mroIn K D (.type "object") = some true)))))))
theorem vclsB_ok {K : PySem.W.Frag} {D : Addr} (h : vclsB K D = true) : PySem.W.VCls K D := by
  obtain ⟨h1, h⟩ := He.ba h
  obtain ⟨h2, h⟩ := He.ba h
  obtain ⟨h3, h⟩ := He.ba h
  obtain ⟨h4, h⟩ := He.ba h
  obtain ⟨h5, h⟩ := He.ba h
  obtain ⟨h6, h⟩ := He.ba h
  obtain ⟨h7, h8⟩ := He.ba h
  exact ⟨of_decide_eq_true h1, of_decide_eq_true h2, of_decide_eq_true h3, h4, He.eqO_ok h5, He.eqO_ok h6, of_decide_eq_true h7, of_decide_eq_true h8⟩
/-- a caught error of the class cls with the dict d, at a -/
def exV (cls : Value) (d : Option Addr) (a : Addr) : HO := .ext fun h => ∃ (oe : Obj) (vs : Array Value), h.get? a = some oe ∧ Zc cls d oe ∧ oe.data = .fields vs
section
variable {X : Cx} {pins : List (Addr × Obj)} {σ : L2.St} {H : Hp} {s : Shared}
theorem exV_at {P : Program} {w : World} {h : Heap} {a : Addr} {cls : Value} {d : Option Addr} (o : ObjOk P w H h a (exV cls d a)) : ∃ (oe : Obj) (vs : Array Value), h.get? a = some oe ∧ Zc cls d oe ∧ oe.data = .fields vs := o.1
theorem exV_ok {P : Program} {w : World} {h : Heap} {a : Addr} {cls : Value} {d : Option Addr} {oe : Obj} {vs : Array Value} (e : h.get? a = some oe) (z : Zc cls d oe) (dd : oe.data = .fields vs) : ObjOk P w H h a (exV cls d a) :=
  ⟨⟨oe, vs, e, z, dd⟩, ⟨oe, e⟩, fun _ _ ⟨o, v, q, r⟩ k => ⟨o, v, k o q, r⟩⟩
/-- an object that stands there and isn't tracked is tracked from now on -/
theorem track {a : Addr} {cls : Value} {d : Option Addr} {oe : Obj} {vs : Array Value} (I : Inv X pins σ H s) (n0 : X.s_0.heap.get? a = none) (e : s.heap.get? a = some oe) (z : Zc cls d oe) (dd : oe.data = .fields vs) (hn : H a = none) (nL : a ≠ X.env.locals)
    (np : ∀ p ∈ X.pn ++ pins, p.1 ≠ a) : Inv X pins σ (upd H a (exV cls d a)) s := by
  have ne0 : ∀ b o, X.s_0.heap.get? b = some o → b ≠ a := fun b o q h => by rw [h, n0] at q; cases q
  have neH : ∀ b u, H b = some u → b ≠ a := fun b u q h => by rw [h, hn] at q; cases q
  refine ⟨I.ok, I.os, I.bare, ⟨I.base.keep, I.base.slot, fun b o q n hx => ?_, I.base.there, fun b xs q => ?_, fun b o u q => ?_, fun b ps q => ?_⟩, I.loc, I.cell, ?_, fun y c q => ?_, fun p hp => ?_, fun b u q => ?_, I.len⟩
  · rw [upd_ne (ne0 b o q)]; exact I.base.free b o q n hx
  · have := I.base.tups b xs q
    rw [upd_ne (neH _ _ this)]; exact this
  · have := I.base.frzs b o u q
    rw [upd_ne (neH _ _ this)]; exact this
  · obtain ⟨m, this⟩ := I.base.tbls b ps q
    exact ⟨m, by rw [upd_ne (neH _ _ this)]; exact this⟩
  · rw [upd_ne (fun h => nL h.symm)]; exact I.free
  · rw [upd_ne (fun h => ?_)]
    · exact I.freeC y c q
    · obtain ⟨v, o, ho, hd⟩ := I.cell y c q
      rw [h, e] at ho
      cases ho
      rw [dd] at hd
      cases hd
  · obtain ⟨h1, h2, h3⟩ := I.pin p hp
    exact ⟨h1, by rw [upd_ne (np p hp)]; exact h2, h3⟩
  · by_cases hb : b = a
    · subst hb
      rw [upd_same] at q
      cases q
      exact exV_ok e z dd
    · rw [upd_ne hb] at q
      exact (I.hok b u q).stay (fun c v _ r => r) (fun c r => by rw [upd_ne (neH _ _ r)]; exact r) fun c xs r => by rw [upd_ne (neH _ _ r)]; exact r
end
/-- behind a suite whose error is held -/
def endsV (i : Nat) (a : Addr) (cls : Value) (d : Option Addr) (D : Ends) : Ends :=
  { nx := fun σ' H' => D.nx (σ'.set i none) (upd H' a (exV cls d a)), rt := fun v H' => D.rt v (upd H' a (exV cls d a)), bk := fun σ' H' => D.bk (σ'.set i none) (upd H' a (exV cls d a)), ct := fun σ' H' => D.ct (σ'.set i none) (upd H' a (exV cls d a)) }
def wHeld (K : PySem.W.Frag) (Wout : WX) (D : Ends) (c : Value) (i : Nat) (ts : Addr → Value → Option Addr → TS) : WX := fun cls d σ H => ∃ b, PySem.W.exmOne K cls c = some b ∧ (b = true → ∀ a, H a = none → ts a cls d (endsV i a cls d D) (σ.set i (some (.ref a))) H) ∧ (b = false → Wout cls d σ H)
section
variable {X : Cx} {body : List Stmt} {pos : Pos} {tb : WX → TS} {Wout : WX} {x n : Str} {i : Nat} {c : Value} {ts : Addr → Value → Option Addr → TS} {b0 : Stmt} {suite : List Stmt} {np pos' : Pos}
theorem ps_try_V (hs : X.stack = X.env :: X.outer) (hf : X.env.frame = some X.env.locals) (hN : X.N.Nodup) (tk : Takes X Wout)
    (hb : ∀ (W : WX) (pn : List (Addr × Obj)) (xe : Value → Shared → Prop), Takes (X.tr pn xe) W → PassesOwn (model X.prog X.w) X.A X.env xe → PSs (X.tr pn xe) body (tb W))
    (hi : X.N[i]? = some n) (hln : X.env.kindOf n = some .local) (hc : Names X x c)
    (hsu : ∀ (a : Addr) (oe : Obj) (cls : Value) (d : Option Addr) (pn : List (Addr × Obj)), Zc cls d oe → (∃ vs, oe.data = .fields vs) → PSs (X.suite a ((a, oe) :: pn)) (b0 :: suite) (ts a cls d)) (hx : X.ex = [] := by rfl) :
    PS X (.Try body [.ExceptHandler (some (.Name x np)) (some n) (b0 :: suite) pos'] [] [] pos) (fun D σ H => tb (wHeld X.K Wout D c i ts) D σ H) := by
  refine ⟨fun pins s σ H D I h => ?_⟩
  have ok := I.ok
  have hfr : X.A.frames = some (X.env :: X.outer) := by rw [ok.frames, hs]
  refine wpAny_Try_except ?_
  refine wpAny_mono ((hb (wHeld X.K Wout D c i ts) (X.pn ++ pins) (fun e s₁ => wpAny (model X.prog X.w) X.A (noteFrame e X.env) (fun _ s₂ => wpAny (model X.prog X.w) X.A (setFlight e none) (fun _ s₃ =>
    wpAny (model X.prog X.w) X.A (handleBy e X.env [.ExceptHandler (some (.Name x np)) (some n) (b0 :: suite) pos']) (SP X pins D) X.xe s₃) X.xe s₂) X.xe s₁) (fun u s' xx => ?_) PassesOwn.looking).run [] s σ H D (I.toTry _) h) (fun f s1 hsp => ?_) (fun e s1 he => he)
  · obtain ⟨a, B, sI, pins', σ', H', cls, d, rfl, J', nb, up, sky, na, os, ag, w⟩ := xx
    have J0 : Inv X pins σ' H' sI := J'.ofTry ok
    have J : Inv X pins σ' H' sI := J'.ofTry ok
    have sky' : Sky B (X.env :: X.outer) a (Zc cls d) X.env.locals s'.heap := by rw [← hs]; exact sky
    show wpAny (model X.prog X.w) X.A (noteFrame (.ref a) X.env) _ _ _
    refine Sky.land Zc.steady hfr hf sky' fun h3 fl3 up3 => ?_
    have J3 : Inv X pins σ' H' { s' with heap := h3 } := J.landed nb fl3.1 (up.trans up3) os ag
    obtain ⟨oe3, vs3, he3, hz3, hd3⟩ := fl3.there
    have notFr : ∀ {h : Heap} {o : Obj} {vs : Array Value}, h.FunFrames B (X.env :: X.outer) → h.get? a = some o → o.data = .fields vs → a ∉ frs (X.env :: X.outer) := fun {h o vs} ff e dd hm => by
      obtain ⟨_, o', e', hnf⟩ := ff.mem hm
      rw [e] at e'; cases e'
      exact hnf _ dd
    have nfr := notFr fl3.2.2.1 he3 hd3
    have nL : a ≠ X.env.locals := fun z => nfr (List.mem_filterMap.mpr ⟨X.env, List.mem_cons_self, by rw [hf, z]⟩)
    have nF : a ∉ X.fs := fun hm => by
      obtain ⟨e, he, q⟩ := List.mem_filterMap.mp hm
      exact nfr (List.mem_filterMap.mpr ⟨e, List.mem_cons_of_mem _ he, q⟩)
    have nI : sI.heap.get? a = none := by
      cases q : sI.heap.get? a with
      | none => rfl
      | some o =>
        have := nb a o q (by rw [hs]; exact nfr)
        rw [fl3.2.1] at this; cases this
    have n0 : X.s_0.heap.get? a = none := by
      cases q : X.s_0.heap.get? a with
      | none => rfl
      | some o =>
        obtain ⟨o', z⟩ := J0.base.there a o q (by rw [hx]; exact List.not_mem_nil)
        rw [nI] at z; cases z
    have npn : ∀ p ∈ X.pn ++ pins, p.1 ≠ a := fun p hp e => by
      have := (J0.pin p hp).1
      rw [e, nI] at this; cases this
    have S3 := J3.suite he3 hd3 na nL nF
    have LT : PySem.W.Looks (model X.prog X.w) h3 (typeOf (.ref a)) cls := fun A Q E s k q => wpAny_typeOf_ref (k _ _ he3) (by rw [hz3.1]; exact q)
    have test : ∀ {Q : Value → Shared → Prop} {E : Value → Shared → Prop}, Q c { s' with heap := h3 } → wpAny (model X.prog X.w) (X.A.mark (some (.ref a))) (eval (.Name x np) X.env) Q E { s' with heap := h3 } := fun {Q E} q => by
      obtain ⟨hg, hdbg, hm | ⟨hm, hv, hnn⟩⟩ := hc
      · exact ld_glob (X := X.suite a ((a, oe3) :: (X.pn ++ pins))) S3 hg hm q hdbg
      · exact ld_blt (X := X.suite a ((a, oe3) :: (X.pn ++ pins))) S3 hg hm hv q hnn hdbg
    obtain ⟨b, hb1, hyes, hno⟩ := w
    have hloc : Loc X.env.scope n := .inl hln
    refine wpAny_handleBy_cons (codeAny_handlers_test ?_) (by intro q; cases q)
    have LM := PySem.W.exm_one (M := model X.prog X.w) (J3.kIn) LT hb1
    refine test (LM.here ?_)
    cases b with
    | true =>
      refine codeAny_handlers_suite_as ?_
      refine HandSPX.lands_againZ fl3 fun h4 fl4 up4 => ?_
      have J4 : Inv X pins σ' H' { s' with heap := h4 } := J.landed nb fl4.1 ((up.trans up3).trans up4) os ag
      obtain ⟨oe4, vs4, he4, hz4, hd4⟩ := fl4.there
      have S4 := J4.suite he4 hd4 na nL nF
      refine store_ok (X := X.suite a ((a, oe4) :: (X.pn ++ pins))) (v := .ref a) S4 hN hi hloc rfl (fun s5 S5 => ?_) (.inr hln)
      refine wpAny_mono ((hsu a oe4 cls d (X.pn ++ pins) hz4 ⟨_, hd4⟩).run [] s5 _ H' _ S5 (hyes rfl a na)) (fun f s6 hsp => ?_) (fun _ _ z => False.elim z)
      have held : ∀ {σ6 : L2.St} {H6 : Hp}, Inv (X.suite a ((a, oe4) :: (X.pn ++ pins))) [] σ6 H6 s6 → Inv X pins σ6 (upd H6 a (exV cls d a)) s6 := fun {σ6 H6} S6 => by
        obtain ⟨g1, g2, _⟩ := S6.pin (a, oe4) (List.mem_append_left _ List.mem_cons_self)
        exact track (S6.unsuite ok) n0 g1 hz4 hd4 g2 nL npn
      have end_ : ∀ {σ6 : L2.St} {H6 : Hp} {Q : Shared → Prop}, Inv (X.suite a ((a, oe4) :: (X.pn ++ pins))) [] σ6 H6 s6 → (∀ s7, Inv X pins (σ6.set i none) (upd H6 a (exV cls d a)) s7 → Q s7) →
          wpAny (model X.prog X.w) X.A (do bindName X.env n .none; unbindBehindTheSuite X.env n pos') (fun _ s7 => Q s7) X.xe s6 := fun {σ6 H6 Q} S6 hq => gone_ok (held S6) hN hi hln hq
      cases f with
      | next =>
        obtain ⟨σ6, H6, S6, q6⟩ := hsp
        exact end_ S6 fun s7 J7 => ⟨_, _, J7, q6⟩
      | brk =>
        obtain ⟨σ6, H6, S6, q6⟩ := hsp
        exact end_ S6 fun s7 J7 => ⟨_, _, J7, q6⟩
      | cont =>
        obtain ⟨σ6, H6, S6, q6⟩ := hsp
        exact end_ S6 fun s7 J7 => ⟨_, _, J7, q6⟩
      | ret u =>
        obtain ⟨v6, σ6, H6, S6, r6, q6⟩ := hsp
        exact end_ S6 fun s7 J7 => ⟨_, _, _, J7, r6, q6⟩
    | false =>
      show wpAny _ X.A (handleBy (.ref a) X.env []) _ _ _
      refine wpAny_handleBy_nil ?_
      obtain ⟨k1, k2, k3, oe, vs, T, oT, ts', he, hz, hd, h1, hr⟩ := id fl3
      unfold PySem.passOn
      refine wpAny_bind (wpAny_field he hd h1 ?_)
      rw [if_neg (show ¬ ((Value.ref T == Value.none) = true) from by simp)]
      have fin : wpAny (model X.prog X.w) X.A (setFlight (.ref a) X.env.frame) (fun _ s4 => wpAny (model X.prog X.w) X.A (throw (.ref a) : Sem Flow) (SP X pins D) X.xe s4) X.xe { s' with heap := h3 } := by
        rw [hf]
        refine HandSPX.setFlight_upZ fl3 fun h4 hh4 up4 => wpAny_throw (tk _ _ ?_)
        exact ⟨a, B, sI, pins, σ', H', cls, d, rfl, J, nb, (up.trans up3).trans up4, .inr (.inr (by rw [hs]; exact hh4)), na, os, ag, hno rfl⟩
      first
        | exact wpAny_bind (wpAny_pure (wpAny_bind fin))
        | exact wpAny_bind fin
  · cases f with
    | next =>
      obtain ⟨σ', H', J', q⟩ := hsp
      exact wpAny_execs_nil ⟨σ', H', J'.ofTry ok, q⟩
    | brk =>
      obtain ⟨σ', H', J', q⟩ := hsp
      exact ⟨σ', H', J'.ofTry ok, q⟩
    | cont =>
      obtain ⟨σ', H', J', q⟩ := hsp
      exact ⟨σ', H', J'.ofTry ok, q⟩
    | ret u =>
      obtain ⟨v, σ', H', J', r, q⟩ := hsp
      exact ⟨v, σ', H', J'.ofTry ok, r, q⟩
end
/-! isinstance(v, C), isinstance(v, (C, ..)), v.f of such a value -/
/-- a caught error: its class, its dict, its fields -/
def ErrAt (H : Hp) (a D : Addr) (fs : List (Str × V)) : Prop := ∃ dd, H a = some (exV (.ref D) (some dd) a) ∧ H dd = some (.xd fs)
def rIsV (K : PySem.W.Frag) : List V → Hp → VK → Prop := fun xs H Q => ∃ (a D : Addr) (fs : List (Str × V)) (c : V) (cv : Value) (b : Bool), xs = [.ref a, c] ∧ ErrAt H a D fs ∧ PySem.W.VCls K D ∧ ClsV c cv ∧ PySem.W.kitOne K (.ref D) cv = some b ∧ Q (.bl b) H
def rIsVT (K : PySem.W.Frag) : List V → Hp → VK → Prop := fun xs H Q => ∃ (a D : Addr) (fs : List (Str × V)) (tp : Addr) (cs : List V) (us : List Value) (b : Bool), xs = [.ref a, .ref tp] ∧ ErrAt H a D fs ∧ PySem.W.VCls K D ∧ H tp = some (.tup cs) ∧ Paired ClsV cs us ∧ PySem.W.kitAny K (.ref D) us = some b ∧ Q (.bl b) H
def tXv (K : PySem.W.Frag) (f : Str) (te : TE) : TE := fun σ H Q => te σ H fun x H1 => ∃ (a D : Addr) (fs : List (Str × V)) (v : V), x = .ref a ∧ ErrAt H1 a D fs ∧ XfC K D ∧ PySem.W.findIn K (.ref D) f = some none ∧ fs.lookup f = some v ∧ Q v H1
section
variable {X : Cx} {pins : List (Addr × Obj)} {σ : L2.St} {H : Hp} {s : Shared}
theorem ErrAt.inst {a D : Addr} {fs : List (Str × V)} (h : ErrAt H a D fs) (I : Inv X pins σ H s) : ∃ ox od, PySem.W.InstAt s.heap a ox D (some od) ∧ ∀ n v, fs.lookup n = some v → ∃ u, PySem.W.lookIn n od = some (some u) ∧ RelV v u := by
  obtain ⟨dd, h1, h2⟩ := h
  obtain ⟨oe, vs, e, z, hv⟩ := exV_at (show ObjOk X.prog X.w H s.heap a (exV (.ref D) (some dd) a) from I.hok a _ h1)
  obtain ⟨mA, hns, hr⟩ := (show ObjOk X.prog X.w H s.heap dd (.xd fs) from I.hok dd _ h2)
  obtain ⟨od, ho, hl⟩ := lookIn_ns hns
  refine ⟨oe, od, ⟨e, z.1, by unfold PySem.W.notCls; rw [hv] <;> rfl, by rw [z.2]; exact ho⟩, fun n v l => ?_⟩
  obtain ⟨u, hu, ru⟩ := RelO.some_of (v := v) (o := mA n) (by rw [← l]; exact hr n)
  exact ⟨u, by rw [hl, hu], ru⟩
theorem call_isV : CallR X (.builtin "isinstance") (rIsV X.K) := by
  intro pins s σ H xs us Q I r h
  obtain ⟨a, D, fs, c, cv, b, rfl, he, v, k, e, q⟩ := h
  obtain ⟨u1, u2, rfl, r1, r2⟩ := vals2 r
  have e2 := k.eq r2
  subst e2
  obtain rfl : u1 = Value.ref a := r1
  obtain ⟨ox, od, J, _⟩ := he.inst I
  exact PySem.W.kia_one (PySem.W.vKit v) I.kIn ⟨ox, some od, J⟩ e (fun z => nomatch z) fun tk => ⟨.bl b, H, I.tok tk, rfl, q⟩
theorem call_isVT : CallR X (.builtin "isinstance") (rIsVT X.K) := by
  intro pins s σ H xs us Q I r h
  obtain ⟨a, D, fs, tp, cs, ws, b, rfl, he, v, hT, k, e, q⟩ := h
  obtain ⟨u1, u2, rfl, r1, r2⟩ := vals2 r
  cases (show u2 = Value.ref tp from r2)
  obtain rfl : u1 = Value.ref a := r1
  obtain ⟨ox, od, J, _⟩ := he.inst I
  obtain ⟨_, its, rv, o, h1, h2, n, h3⟩ := (show ObjOk X.prog X.w H s.heap tp (.tup cs) from I.hok tp _ hT)
  have e3 := ClsV.all k rv
  subst e3
  obtain ⟨oc, od', dt, sl⟩ := o
  simp only at h2 h3
  subst h2 h3
  exact PySem.W.kia_tup (PySem.W.vKit v) I.kIn ⟨ox, some od, J⟩ h1 e (fun z => nomatch z) fun tk => ⟨.bl b, H, I.tok tk, rfl, q⟩
theorem pe_xv {e : Expr} {te : TE} {pos : Pos} {n : Str} (he : PE X e te) (hb : attributeBase e n X.env (eval e X.env) = eval e X.env := by rfl) : PE X (.Attribute e n pos) (tXv X.K n te) := by
  refine ⟨fun pins s σ H Q I h => ?_⟩
  refine attr_of hb (thn (he.run pins s σ H _ I h) fun u s1 hh => ?_)
  obtain ⟨x, H1, I1, rx, a, D, fs, v, ex, hE, T, hno, l, q⟩ := hh
  subst ex
  obtain rfl : u = Value.ref a := rx
  obtain ⟨ox, od, J, hl⟩ := hE.inst I1
  obtain ⟨u, hu, ru⟩ := hl n v l
  exact HandSPX.exc_get I1.kIn J T.ga T.gg T.exC (PySem.W.findObj_own T.hdC hno rfl hu) (handed_of ru) ⟨v, H1, I1.tok _, ru, q⟩
end
section
variable {K : PySem.W.Frag} {σ : L2.St} {H : Hp} {Q : VK} {te : TE} {f : Str}
def kXv (K : PySem.W.Frag) (f : Str) (Q : VK) : VK := fun x H1 => ∃ (a D : Addr) (fs : List (Str × V)) (v : V), x = .ref a ∧ ErrAt H1 a D fs ∧ XfC K D ∧ PySem.W.findIn K (.ref D) f = some none ∧ fs.lookup f = some v ∧ Q v H1
theorem g_xv (h : te σ H (kXv K f Q)) : tXv K f te σ H Q := h
theorem g_kXv {a D : Addr} {fs : List (Str × V)} {v : V} (h : ErrAt H a D fs) (T : XfC K D) (hn : PySem.W.findIn K (.ref D) f = some none) (l : fs.lookup f = some v) (q : Q v H) : kXv K f Q (.ref a) H := ⟨a, D, fs, v, rfl, h, T, hn, l, q⟩
theorem g_isV {a D : Addr} {fs : List (Str × V)} {c : V} {cv : Value} {b : Bool} (h : ErrAt H a D fs) (v : PySem.W.VCls K D) (k : ClsV c cv) (e : PySem.W.kitOne K (.ref D) cv = some b) (q : Q (.bl b) H) : rIsV K [.ref a, c] H Q := ⟨a, D, fs, c, cv, b, rfl, h, v, k, e, q⟩
theorem g_isVT {a D tp : Addr} {fs : List (Str × V)} {cs : List V} {us : List Value} {b : Bool} (h : ErrAt H a D fs) (v : PySem.W.VCls K D) (ht : H tp = some (.tup cs)) (k : Paired ClsV cs us) (e : PySem.W.kitAny K (.ref D) us = some b) (q : Q (.bl b) H) : rIsVT K [.ref a, .ref tp] H Q := ⟨a, D, fs, tp, cs, us, b, rfl, h, v, ht, k, e, q⟩
/-- a held error stays where it is -/
theorem ErrAt.le {H H' : Hp} {a D : Addr} {fs : List (Str × V)} (h : ErrAt H a D fs) (e : Le H H') : ErrAt H' a D fs := by
  obtain ⟨dd, h1, h2⟩ := h
  exact ⟨dd, e _ _ h1, e _ _ h2⟩
end
end My
/-! KitF: insert, <= of numbers or of texts. -/
namespace My
open PySem PySem.Spec PyProof.Rows L2
section
variable {X : Cx} {H : Hp} {Q : VK} {xs : List V} {y : V} {i : Int} {p : Addr}
def rInsert : V → List V → Hp → VK → Prop := fun x vs H Q => ∃ (l : Addr) (xs : List V) (i : Int) (y : V), x = .ref l ∧ vs = [.int i, y] ∧ H l = some (.lst xs) ∧ xs.length < sizeLine ∧ 0 ≤ i ∧ i < 2 ^ 63 ∧ Q .non (upd H l (.lst (xs.take i.toNat ++ [y] ++ xs.drop i.toNat)))
theorem mt_insertR : MtR X "list.insert" rInsert := mt_insert
theorem g_insert (h : H p = some (.lst xs)) (hz : xs.length < sizeLine) (h0 : 0 ≤ i) (h1 : i < 2 ^ 63) (q : ∀ H2, Step [p] H H2 → H2 p = some (.lst (xs.take i.toNat ++ [y] ++ xs.drop i.toNat)) → Q .non H2) : rInsert (.ref p) [.int i, y] H Q :=
  ⟨p, xs, i, y, rfl, rfl, h, hz, h0, h1, q _ ((Step.refl [p] H).wr (List.mem_singleton.mpr rfl)) upd_same⟩
def rLeX : R2 := fun x y H Q => rI0 (fun i j => .bl (decide (i ≤ j))) x y H Q ∨ (∃ i j : Str, x = .str i ∧ y = .str j ∧ Q (.bl (!decide (j.cps.toList < i.cps.toList))) H)
theorem op_leX : OpR X (compareOp .LtE) rLeX := OpR.or op_le op_le_str
theorem g_ltS {a b : Str} (q : Q (.bl (decide (cs a < cs b))) H) : (fun (x y : V) (H : Hp) (Q : VK) => ∃ i j : Str, x = .str i ∧ y = .str j ∧ Q (.bl (decide (i.cps.toList < j.cps.toList))) H) (.str a) (.str b) H Q := ⟨a, b, rfl, rfl, q⟩
end
end My
local macro_rules | `(tactic| walk_at "go1") => `(tactic| first
  | with_reducible refine My.g_seq ?_
  | with_reducible refine My.g_set ?_
  | with_reducible refine My.g_var (by with_unfolding_all exact rfl) ?_
  | with_reducible refine My.g_c ?_
  | with_reducible refine My.g_op ?_
  | with_reducible refine My.g_I0 ?_
  | with_reducible refine My.g_cons ?_
  | with_reducible refine My.g_nil ?_
  | with_reducible refine My.g_call ?_
  | with_reducible refine My.g_CB ?_
  | with_reducible refine My.g_if ?_
  | with_reducible refine My.g_test ?_
  | with_reducible refine My.g_kB ?_
  | with_reducible refine My.g_ret ?_
  | with_reducible refine My.g_retN ?_
  | with_reducible refine My.g_drop ?_
  | with_reducible refine My.g_next ?_
  | with_reducible refine My.g_break ?_
  | with_reducible refine My.g_cont ?_
  | with_reducible refine My.g_asg ?_
  | with_reducible refine My.g_name ?_
  | with_reducible refine My.g_gsub ?_
  | with_reducible refine My.g_eqI ?_
  | with_reducible refine My.g_neI ?_
  | with_reducible refine My.g_eqS ?_
  | with_reducible refine My.g_neS ?_
  | with_reducible refine My.g_and ?_
  | with_reducible refine My.g_or ?_
  | with_reducible refine My.g_not ?_
  | with_reducible refine My.g_B ?_
  | with_reducible refine My.g_ifE ?_
  | with_reducible refine My.g_andV ?_
  | with_reducible refine My.g_orV ?_
  | with_reducible refine My.g_notV ?_
  | with_reducible refine My.g_kAnd ?_
  | with_reducible refine My.g_kOr ?_
  | with_reducible refine My.g_kNot ?_
  | with_reducible refine My.g_lst ?_
  | with_reducible refine My.g_tup ?_
  | with_reducible refine My.g_un ?_
  | with_reducible refine My.g_U ?_
  | with_reducible refine My.g_bm ?_
  | with_reducible refine My.g_sl ?_
  | with_reducible refine My.g_part ?_
  | with_reducible refine My.g_noPart ?_
  | with_reducible refine My.g_kI ?_
  | with_reducible refine My.g_dget ?_
  | with_reducible refine My.g_dget2 ?_
  | with_reducible refine My.g_dget1 ?_
  | with_reducible refine My.g_din ?_
  | with_reducible refine My.g_dnotin ?_
  | with_reducible refine My.g_dput ?_
  | with_reducible refine My.g_m1 ?_
  | with_reducible refine My.g_kM1 ?_
  | with_reducible refine My.g_for ?_
  | with_reducible refine My.g_lc ?_
  | with_reducible refine My.g_dc ?_
  | with_reducible refine My.g_rng1 ?_
  | with_reducible refine My.g_rng2 ?_
  | with_reducible refine My.g_list ?_
  | with_reducible refine My.g_str ?_
  | with_reducible refine My.g_kStr ?_
  | with_reducible refine My.g_keys ?_
  | with_reducible refine My.g_vals ?_
  | with_reducible refine My.g_items ?_
  | with_reducible refine My.g_yes ?_
  | with_reducible refine My.g_kTstT ?_
  | with_reducible refine My.g_kTstDT ?_
  | with_reducible refine My.g_kTurn (by with_unfolding_all exact rfl) ?_
  | with_reducible refine My.g_kTurnD (by with_unfolding_all exact rfl) ?_
  | with_reducible refine My.g_ixL (by with_unfolding_all assumption) (by first | with_unfolding_all exact rfl | assumption) ?_
  | with_reducible refine My.g_ixT (by with_unfolding_all assumption) (by first | with_unfolding_all exact rfl | assumption) ?_
  | with_reducible refine My.g_kBM (by with_unfolding_all assumption) ?_
  | with_reducible refine My.g_kList (by with_unfolding_all assumption) ?_
  | with_reducible refine My.g_modP (by with_unfolding_all first | decide | omega) ?_
  | with_reducible refine My.g_divP (by with_unfolding_all first | decide | omega) (by with_unfolding_all first | decide | omega) ?_
  | with_reducible refine My.g_mulP (by with_unfolding_all first | decide | omega) (by with_unfolding_all first | decide | omega) (by with_unfolding_all first | decide | omega) (by with_unfolding_all first | decide | omega) ?_
  | with_reducible refine My.g_powP (by with_unfolding_all first | decide | omega) (by with_unfolding_all first | decide | omega) (by with_unfolding_all first | decide | omega) (by with_unfolding_all first | decide | omega) ?_
  | with_reducible refine My.g_chain ?_
  | with_reducible refine My.g_kCh ?_
  | with_reducible refine My.g_make ?_
  | with_reducible refine My.g_meth ?_
  | with_reducible refine My.g_fld ?_
  | with_reducible refine My.g_fldS ?_
  | with_reducible refine My.g_ez ?_
  | with_reducible refine My.g_ost ?_
  | with_reducible refine My.g_mkO ?_
  | with_reducible refine My.g_callS ?_
  | with_reducible refine My.g_xf ?_
  | with_reducible refine My.g_xv ?_
  | with_reducible refine My.g_enum ?_
  | with_reducible refine My.g_max2 ?_
  | with_reducible refine My.g_min2 ?_
  | with_reducible refine My.g_lenL (by with_unfolding_all assumption) ?_
  | with_reducible refine My.g_lenLK (by with_unfolding_all assumption) ?_
  | with_reducible refine My.g_lenDi (by with_unfolding_all assumption) ?_
  | with_reducible refine My.g_kLst (by with_unfolding_all exact Nat.le_of_ble_eq_true rfl) ?_
  | with_reducible refine My.g_fmt ?_
  | with_reducible refine My.g_js ?_
  | with_reducible refine My.g_jsN ?_
  | with_reducible refine My.g_mS ?_
  | with_reducible refine My.g_kMS ?_
  | with_reducible refine My.g_callL (by with_unfolding_all exact rfl) ?_
  | with_reducible refine My.g_lenSetS ?_
  | with_reducible refine My.g_kTup (by with_unfolding_all exact Nat.le_of_ble_eq_true rfl) ?_)
local macro_rules | `(tactic| walk_at "go") => `(tactic| repeat walk_at "go1")
namespace My
open PySem PySem.Spec PyProof.Rows L2
def top (i : Nat) : Stmt := PySem.Challenge.pw_sherdhall_k92_texts_spoilt_anywhere.main.body.getD i (.Pass ⟨0, 0, 0, 0⟩)
abbrev s_NoName_init : Stmt := inClass (top 3) 0
theorem sc_NoName_init : FnScope ["self", "name"] ["self", "name"] (defScope s_NoName_init) := ⟨rfl, rfl, rfl, by decide +kernel, rfl, by decide +kernel, by decide +kernel⟩
abbrev N_NoName_init : List Str := ["self", "name"]
abbrev s_Taken_init : Stmt := inClass (top 4) 0
theorem sc_Taken_init : FnScope ["self", "name"] ["self", "name"] (defScope s_Taken_init) := ⟨rfl, rfl, rfl, by decide +kernel, rfl, by decide +kernel, by decide +kernel⟩
abbrev N_Taken_init : List Str := ["self", "name"]
abbrev s_NoWeight_init : Stmt := inClass (top 5) 0
theorem sc_NoWeight_init : FnScope ["self", "weight"] ["self", "weight"] (defScope s_NoWeight_init) := ⟨rfl, rfl, rfl, by decide +kernel, rfl, by decide +kernel, by decide +kernel⟩
abbrev N_NoWeight_init : List Str := ["self", "weight"]
abbrev s_NoText_init : Stmt := inClass (top 6) 0
theorem sc_NoText_init : FnScope ["self", "at"] ["self", "at"] (defScope s_NoText_init) := ⟨rfl, rfl, rfl, by decide +kernel, rfl, by decide +kernel, by decide +kernel⟩
abbrev N_NoText_init : List Str := ["self", "at"]
abbrev s_is_whole : Stmt := top 10
theorem sc_is_whole : FnScope ["thing"] ["thing"] (defScope s_is_whole) := ⟨rfl, rfl, rfl, by decide +kernel, rfl, by decide +kernel, by decide +kernel⟩
abbrev N_is_whole : List Str := ["thing"]
abbrev s_is_name : Stmt := top 11
theorem sc_is_name : FnScope ["thing", "sign"] ["thing"] (defScope s_is_name) := ⟨rfl, rfl, rfl, by decide +kernel, rfl, by decide +kernel, by decide +kernel⟩
abbrev N_is_name : List Str := ["thing", "sign"]
abbrev s_need_name : Stmt := top 12
theorem sc_need_name : FnScope ["name"] ["name"] (defScope s_need_name) := ⟨rfl, rfl, rfl, by decide +kernel, rfl, by decide +kernel, by decide +kernel⟩
abbrev N_need_name : List Str := ["name"]
abbrev s_is_weight : Stmt := top 15
theorem sc_is_weight : FnScope ["thing"] ["thing"] (defScope s_is_weight) := ⟨rfl, rfl, rfl, by decide +kernel, rfl, by decide +kernel, by decide +kernel⟩
abbrev N_is_weight : List Str := ["thing"]
abbrev s_Town_init : Stmt := inClass (top 16) 0
theorem sc_Town_init : FnScope ["self", "rows", "found", "name", "where", "heavy"] ["self", "rows"] (defScope s_Town_init) := ⟨rfl, rfl, rfl, by decide +kernel, rfl, by decide +kernel, by decide +kernel⟩
abbrev N_Town_init : List Str := ["self", "rows", "found", "name", "where", "heavy"]
abbrev s_Town_listed : Stmt := inClass (top 16) 4
theorem sc_Town_listed : FnScope ["self", "name", "where", "heavy"] ["self"] (defScope s_Town_listed) := ⟨rfl, rfl, rfl, by decide +kernel, rfl, by decide +kernel, by decide +kernel⟩
abbrev N_Town_listed : List Str := ["self", "name", "where", "heavy"]
abbrev s_is_figures : Stmt := top 21
theorem sc_is_figures : FnScope ["word", "most", "sign"] ["word", "most"] (defScope s_is_figures) := ⟨rfl, rfl, rfl, by decide +kernel, rfl, by decide +kernel, by decide +kernel⟩
abbrev N_is_figures : List Str := ["word", "most", "sign"]
abbrev s_show_town : Stmt := top 22
theorem sc_show_town : FnScope ["town", "name", "where", "heavy"] ["town"] (defScope s_show_town) := ⟨rfl, rfl, rfl, by decide +kernel, rfl, by decide +kernel, by decide +kernel⟩
abbrev N_show_town : List Str := ["town", "name", "where", "heavy"]
abbrev s_show_table : Stmt := top 23
theorem sc_show_table : FnScope ["table", "ticket"] ["table"] (defScope s_show_table) := ⟨rfl, rfl, rfl, by decide +kernel, rfl, by decide +kernel, by decide +kernel⟩
abbrev N_show_table : List Str := ["table", "ticket"]
abbrev s_house_in : Stmt := top 24
theorem sc_house_in : FnScope ["word", "name", "between", "further", "where", "star", "figures"] ["word"] (defScope s_house_in) := ⟨rfl, rfl, rfl, by decide +kernel, rfl, by decide +kernel, by decide +kernel⟩
abbrev N_house_in : List Str := ["word", "name", "between", "further", "where", "star", "figures"]
abbrev s_ticket_in : Stmt := top 25
theorem sc_ticket_in : FnScope ["word", "figures", "between", "further", "homes", "house"] ["word"] (defScope s_ticket_in) := ⟨rfl, rfl, rfl, by decide +kernel, rfl, by decide +kernel, by decide +kernel⟩
abbrev N_ticket_in : List Str := ["word", "figures", "between", "further", "homes", "house"]
abbrev s_rows_in : Stmt := top 26
theorem sc_rows_in : FnScope ["text", "word_in", "found", "at", "word", "row"] ["text", "word_in"] (defScope s_rows_in) := ⟨rfl, rfl, rfl, by decide +kernel, rfl, by decide +kernel, by decide +kernel⟩
abbrev N_rows_in : List Str := ["text", "word_in", "found", "at", "word", "row"]
abbrev s_read_town : Stmt := top 27
theorem sc_read_town : FnScope ["text"] ["text"] (defScope s_read_town) := ⟨rfl, rfl, rfl, by decide +kernel, rfl, by decide +kernel, by decide +kernel⟩
abbrev N_read_town : List Str := ["text"]
abbrev s_read_table : Stmt := top 28
theorem sc_read_table : FnScope ["text", "ticket", "homes"] ["text"] (defScope s_read_table) := ⟨rfl, rfl, rfl, by decide +kernel, rfl, by decide +kernel, by decide +kernel⟩
abbrev N_read_table : List Str := ["text", "ticket", "homes"]
abbrev s_w_cell_at : Stmt := top 30
theorem sc_w_cell_at : FnScope ["script", "k"] ["script", "k"] (defScope s_w_cell_at) := ⟨rfl, rfl, rfl, by decide +kernel, rfl, by decide +kernel, by decide +kernel⟩
abbrev N_w_cell_at : List Str := ["script", "k"]
abbrev s_w_pot : Stmt := top 31
theorem sc_w_pot : FnScope ["cell"] ["cell"] (defScope s_w_pot) := ⟨rfl, rfl, rfl, by decide +kernel, rfl, by decide +kernel, by decide +kernel⟩
abbrev N_w_pot : List Str := ["cell"]
abbrev s_w_pick : Stmt := top 32
theorem sc_w_pick : FnScope ["pot", "many", "found", "mixed"] ["pot", "many"] (defScope s_w_pick) := ⟨rfl, rfl, rfl, by decide +kernel, rfl, by decide +kernel, by decide +kernel⟩
abbrev N_w_pick : List Str := ["pot", "many", "found", "mixed"]
abbrev s_w_name : Stmt := top 33
theorem sc_w_name : FnScope ["pot", "letters", "size", "k"] ["pot"] (defScope s_w_name) := ⟨rfl, rfl, rfl, by decide +kernel, rfl, by decide +kernel, by decide +kernel⟩
abbrev N_w_name : List Str := ["pot", "letters", "size", "k"]
abbrev s_w_names : Stmt := top 34
theorem sc_w_names : FnScope ["pot", "many", "letters", "way", "found", "k", "one", "old", "spot"] ["pot", "many"] (defScope s_w_names) := ⟨rfl, rfl, rfl, by decide +kernel, rfl, by decide +kernel, by decide +kernel⟩
abbrev N_w_names : List Str := ["pot", "many", "letters", "way", "found", "k", "one", "old", "spot"]
abbrev s_w_is_name : Stmt := top 35
theorem sc_w_is_name : FnScope ["thing", "sign"] ["thing"] (defScope s_w_is_name) := ⟨rfl, rfl, rfl, by decide +kernel, rfl, by decide +kernel, by decide +kernel⟩
abbrev N_w_is_name : List Str := ["thing", "sign"]
abbrev s_w_mixed : Stmt := top 36
theorem sc_w_mixed : FnScope ["pot", "some", "left", "k"] ["pot", "some"] (defScope s_w_mixed) := ⟨rfl, rfl, rfl, by decide +kernel, rfl, by decide +kernel, by decide +kernel⟩
abbrev N_w_mixed : List Str := ["pot", "some", "left", "k"]
abbrev s_w_sign : Stmt := top 37
theorem sc_w_sign : FnScope ["pot", "some"] ["pot"] (defScope s_w_sign) := ⟨rfl, rfl, rfl, by decide +kernel, rfl, by decide +kernel, by decide +kernel⟩
abbrev N_w_sign : List Str := ["pot", "some"]
abbrev s_w_bent : Stmt := top 38
theorem sc_w_bent : FnScope ["pot", "text", "way", "spot", "words", "at_word", "word"] ["pot", "text"] (defScope s_w_bent) := ⟨rfl, rfl, rfl, by decide +kernel, rfl, by decide +kernel, by decide +kernel⟩
abbrev N_w_bent : List Str := ["pot", "text", "way", "spot", "words", "at_word", "word"]
abbrev s_w_figures : Stmt := top 39
theorem sc_w_figures : FnScope ["word", "most", "sign"] ["word", "most"] (defScope s_w_figures) := ⟨rfl, rfl, rfl, by decide +kernel, rfl, by decide +kernel, by decide +kernel⟩
abbrev N_w_figures : List Str := ["word", "most", "sign"]
abbrev s_w_town_word : Stmt := top 40
theorem sc_w_town_word : FnScope ["word", "name", "between", "rest", "area", "star", "heavy"] ["word"] (defScope s_w_town_word) := ⟨rfl, rfl, rfl, by decide +kernel, rfl, by decide +kernel, by decide +kernel⟩
abbrev N_w_town_word : List Str := ["word", "name", "between", "rest", "area", "star", "heavy"]
abbrev s_w_table_word : Stmt := top 41
theorem sc_w_table_word : FnScope ["word", "ticket", "between", "rest", "homes", "home"] ["word"] (defScope s_w_table_word) := ⟨rfl, rfl, rfl, by decide +kernel, rfl, by decide +kernel, by decide +kernel⟩
abbrev N_w_table_word : List Str := ["word", "ticket", "between", "rest", "homes", "home"]
abbrev s_w_wrong : Stmt := top 42
theorem sc_w_wrong : FnScope ["text", "is_town", "last", "words", "k", "key"] ["text", "is_town"] (defScope s_w_wrong) := ⟨rfl, rfl, rfl, by decide +kernel, rfl, by decide +kernel, by decide +kernel⟩
abbrev N_w_wrong : List Str := ["text", "is_town", "last", "words", "k", "key"]
abbrev s_w_asked : Stmt := top 43
theorem sc_w_asked : FnScope ["text", "is_town", "found", "caught", "e"] ["text", "is_town"] (defScope s_w_asked) := ⟨rfl, rfl, rfl, by decide +kernel, rfl, by decide +kernel, by decide +kernel⟩
abbrev N_w_asked : List Str := ["text", "is_town", "found", "caught", "e"]
abbrev s_w_text : Stmt := top 44
theorem sc_w_text : FnScope ["pot", "is_town", "words", "names", "name", "heavy", "number", "k", "homes", "some"] ["pot", "is_town"] (defScope s_w_text) := ⟨rfl, rfl, rfl, by decide +kernel, rfl, by decide +kernel, by decide +kernel⟩
abbrev N_w_text : List Str := ["pot", "is_town", "words", "names", "name", "heavy", "number", "k", "homes", "some"]
abbrev s_w_right : Stmt := top 45
theorem sc_w_right : FnScope ["pot", "is_town", "odd", "turns", "thing", "text", "k", "wrong", "found"] ["pot"] (defScope s_w_right) := ⟨rfl, rfl, rfl, by decide +kernel, rfl, by decide +kernel, by decide +kernel⟩
abbrev N_w_right : List Str := ["pot", "is_town", "odd", "turns", "thing", "text", "k", "wrong", "found"]
abbrev s_law : Stmt := top 46
theorem sc_law : FnScope ["script", "k"] ["script"] (defScope s_law) := ⟨rfl, rfl, rfl, by decide +kernel, rfl, by decide +kernel, by decide +kernel⟩
abbrev N_law : List Str := ["script", "k"]
def d_NoName_init : He.DefD := ⟨("NoName", some "__init__"), "__init__", "NoName.__init__", defArgs s_NoName_init, defBody s_NoName_init, defScope s_NoName_init, [], []⟩
def d_Taken_init : He.DefD := ⟨("Taken", some "__init__"), "__init__", "Taken.__init__", defArgs s_Taken_init, defBody s_Taken_init, defScope s_Taken_init, [], []⟩
def d_NoWeight_init : He.DefD := ⟨("NoWeight", some "__init__"), "__init__", "NoWeight.__init__", defArgs s_NoWeight_init, defBody s_NoWeight_init, defScope s_NoWeight_init, [], []⟩
def d_NoText_init : He.DefD := ⟨("NoText", some "__init__"), "__init__", "NoText.__init__", defArgs s_NoText_init, defBody s_NoText_init, defScope s_NoText_init, [], []⟩
def d_is_whole : He.DefD := ⟨("is_whole", none), "is_whole", "is_whole", defArgs s_is_whole, defBody s_is_whole, defScope s_is_whole, [], []⟩
def d_is_name : He.DefD := ⟨("is_name", none), "is_name", "is_name", defArgs s_is_name, defBody s_is_name, defScope s_is_name, [], []⟩
def d_need_name : He.DefD := ⟨("need_name", none), "need_name", "need_name", defArgs s_need_name, defBody s_need_name, defScope s_need_name, [], []⟩
def d_is_weight : He.DefD := ⟨("is_weight", none), "is_weight", "is_weight", defArgs s_is_weight, defBody s_is_weight, defScope s_is_weight, [], []⟩
def d_Town_init : He.DefD := ⟨("Town", some "__init__"), "__init__", "Town.__init__", defArgs s_Town_init, defBody s_Town_init, defScope s_Town_init, [.adr (He.dflAt ("Town", some "__init__") 0)], []⟩
def d_Town_listed : He.DefD := ⟨("Town", some "listed"), "listed", "Town.listed", defArgs s_Town_listed, defBody s_Town_listed, defScope s_Town_listed, [], []⟩
def d_is_figures : He.DefD := ⟨("is_figures", none), "is_figures", "is_figures", defArgs s_is_figures, defBody s_is_figures, defScope s_is_figures, [], []⟩
def d_show_town : He.DefD := ⟨("show_town", none), "show_town", "show_town", defArgs s_show_town, defBody s_show_town, defScope s_show_town, [], []⟩
def d_show_table : He.DefD := ⟨("show_table", none), "show_table", "show_table", defArgs s_show_table, defBody s_show_table, defScope s_show_table, [], []⟩
def d_house_in : He.DefD := ⟨("house_in", none), "house_in", "house_in", defArgs s_house_in, defBody s_house_in, defScope s_house_in, [], []⟩
def d_ticket_in : He.DefD := ⟨("ticket_in", none), "ticket_in", "ticket_in", defArgs s_ticket_in, defBody s_ticket_in, defScope s_ticket_in, [], []⟩
def d_rows_in : He.DefD := ⟨("rows_in", none), "rows_in", "rows_in", defArgs s_rows_in, defBody s_rows_in, defScope s_rows_in, [], []⟩
def d_read_town : He.DefD := ⟨("read_town", none), "read_town", "read_town", defArgs s_read_town, defBody s_read_town, defScope s_read_town, [], []⟩
def d_read_table : He.DefD := ⟨("read_table", none), "read_table", "read_table", defArgs s_read_table, defBody s_read_table, defScope s_read_table, [], []⟩
def d_w_cell_at : He.DefD := ⟨("_law_cell_at", none), "_law_cell_at", "_law_cell_at", defArgs s_w_cell_at, defBody s_w_cell_at, defScope s_w_cell_at, [], []⟩
def d_w_pot : He.DefD := ⟨("_law_pot", none), "_law_pot", "_law_pot", defArgs s_w_pot, defBody s_w_pot, defScope s_w_pot, [], []⟩
def d_w_pick : He.DefD := ⟨("_law_pick", none), "_law_pick", "_law_pick", defArgs s_w_pick, defBody s_w_pick, defScope s_w_pick, [], []⟩
def d_w_name : He.DefD := ⟨("_law_name", none), "_law_name", "_law_name", defArgs s_w_name, defBody s_w_name, defScope s_w_name, [], []⟩
def d_w_names : He.DefD := ⟨("_law_names", none), "_law_names", "_law_names", defArgs s_w_names, defBody s_w_names, defScope s_w_names, [], []⟩
def d_w_is_name : He.DefD := ⟨("_law_is_name", none), "_law_is_name", "_law_is_name", defArgs s_w_is_name, defBody s_w_is_name, defScope s_w_is_name, [], []⟩
def d_w_mixed : He.DefD := ⟨("_law_mixed", none), "_law_mixed", "_law_mixed", defArgs s_w_mixed, defBody s_w_mixed, defScope s_w_mixed, [], []⟩
def d_w_sign : He.DefD := ⟨("_law_sign", none), "_law_sign", "_law_sign", defArgs s_w_sign, defBody s_w_sign, defScope s_w_sign, [], []⟩
def d_w_bent : He.DefD := ⟨("_law_bent", none), "_law_bent", "_law_bent", defArgs s_w_bent, defBody s_w_bent, defScope s_w_bent, [], []⟩
def d_w_figures : He.DefD := ⟨("_law_figures", none), "_law_figures", "_law_figures", defArgs s_w_figures, defBody s_w_figures, defScope s_w_figures, [], []⟩
def d_w_town_word : He.DefD := ⟨("_law_town_word", none), "_law_town_word", "_law_town_word", defArgs s_w_town_word, defBody s_w_town_word, defScope s_w_town_word, [], []⟩
def d_w_table_word : He.DefD := ⟨("_law_table_word", none), "_law_table_word", "_law_table_word", defArgs s_w_table_word, defBody s_w_table_word, defScope s_w_table_word, [], []⟩
def d_w_wrong : He.DefD := ⟨("_law_wrong", none), "_law_wrong", "_law_wrong", defArgs s_w_wrong, defBody s_w_wrong, defScope s_w_wrong, [], []⟩
def d_w_asked : He.DefD := ⟨("_law_asked", none), "_law_asked", "_law_asked", defArgs s_w_asked, defBody s_w_asked, defScope s_w_asked, [], []⟩
def d_w_text : He.DefD := ⟨("_law_text", none), "_law_text", "_law_text", defArgs s_w_text, defBody s_w_text, defScope s_w_text, [], []⟩
def d_w_right : He.DefD := ⟨("_law_right", none), "_law_right", "_law_right", defArgs s_w_right, defBody s_w_right, defScope s_w_right, [], []⟩
def d_law : He.DefD := ⟨("law", none), "law", "law", defArgs s_law, defBody s_law, defScope s_law, [], []⟩
def fn : List He.DefD := [d_NoName_init, d_Taken_init, d_NoWeight_init, d_NoText_init, d_is_whole, d_is_name, d_need_name, d_is_weight, d_Town_init, d_Town_listed, d_is_figures, d_show_town, d_show_table, d_house_in, d_ticket_in, d_rows_in, d_read_town, d_read_table, d_w_cell_at, d_w_pot, d_w_pick, d_w_name, d_w_names, d_w_is_name, d_w_mixed, d_w_sign, d_w_bent, d_w_figures, d_w_town_word, d_w_table_word, d_w_wrong, d_w_asked, d_w_text, d_w_right, d_law]
def ck : List (PySem.W.Frag → Bool) := [fun K => He.Fa.ok K (.glo "is_whole"),
  fun K => He.Fa.ok K (.glo "is_name"),
  fun K => He.Fa.ok K (.glo "need_name"),
  fun K => He.Fa.ok K (.glo "is_weight"),
  fun K => He.Fa.ok K (.glo "is_figures"),
  fun K => He.Fa.ok K (.glo "show_town"),
  fun K => He.Fa.ok K (.glo "show_table"),
  fun K => He.Fa.ok K (.glo "house_in"),
  fun K => He.Fa.ok K (.glo "ticket_in"),
  fun K => He.Fa.ok K (.glo "rows_in"),
  fun K => He.Fa.ok K (.glo "read_town"),
  fun K => He.Fa.ok K (.glo "read_table"),
  fun K => He.Fa.ok K (.glo "_law_cell_at"),
  fun K => He.Fa.ok K (.glo "_law_pot"),
  fun K => He.Fa.ok K (.glo "_law_pick"),
  fun K => He.Fa.ok K (.glo "_law_name"),
  fun K => He.Fa.ok K (.glo "_law_names"),
  fun K => He.Fa.ok K (.glo "_law_is_name"),
  fun K => He.Fa.ok K (.glo "_law_mixed"),
  fun K => He.Fa.ok K (.glo "_law_sign"),
  fun K => He.Fa.ok K (.glo "_law_bent"),
  fun K => He.Fa.ok K (.glo "_law_figures"),
  fun K => He.Fa.ok K (.glo "_law_town_word"),
  fun K => He.Fa.ok K (.glo "_law_table_word"),
  fun K => He.Fa.ok K (.glo "_law_wrong"),
  fun K => He.Fa.ok K (.glo "_law_asked"),
  fun K => He.Fa.ok K (.glo "_law_text"),
  fun K => He.Fa.ok K (.glo "_law_right"),
  fun K => He.Fa.ok K (.glo "law"),
  fun K => He.Fa.ok K (.free "len"),
  fun K => He.Fa.ok K (.free "max"),
  fun K => He.Fa.ok K (.free "min"),
  fun K => He.Fa.ok K (.free "range"),
  fun K => He.Fa.ok K (.free "list"),
  fun K => He.Fa.ok K (.free "sorted"),
  fun K => He.Fa.ok K (.free "isinstance"),
  fun K => He.Fa.ok K (.free "dict"),
  fun K => He.Fa.ok K (.free "tuple"),
  fun K => He.Fa.ok K (.free "int"),
  fun K => He.Fa.ok K (.free "bool"),
  fun K => He.Fa.ok K (.free "str"),
  fun K => He.Fa.ok K (.free "all"),
  fun K => He.Fa.ok K (.free "any"),
  fun K => He.Fa.ok K (.free "enumerate"),
  fun K => He.Fa.ok K (.free "zip"),
  fun K => He.Fa.ok K (.free "set"),
  fun K => He.Fa.ok K (.free "ValueError"),
  fun K => He.Fa.ok K (.glo "NoName"),
  fun K => excB K (He.ga K "NoName") ["name"],
  fun K => He.Fa.ok K (.exm "NoName" "NoName" true),
  fun K => He.Fa.ok K (.exm "NoName" "Taken" false),
  fun K => He.Fa.ok K (.exm "NoName" "NoWeight" false),
  fun K => He.Fa.ok K (.exm "NoName" "NoText" false),
  fun K => He.Fa.ok K (.glo "Taken"),
  fun K => excB K (He.ga K "Taken") ["name"],
  fun K => He.Fa.ok K (.exm "Taken" "NoName" false),
  fun K => He.Fa.ok K (.exm "Taken" "Taken" true),
  fun K => He.Fa.ok K (.exm "Taken" "NoWeight" false),
  fun K => He.Fa.ok K (.exm "Taken" "NoText" false),
  fun K => He.Fa.ok K (.glo "NoWeight"),
  fun K => excB K (He.ga K "NoWeight") ["weight"],
  fun K => He.Fa.ok K (.exm "NoWeight" "NoName" false),
  fun K => He.Fa.ok K (.exm "NoWeight" "Taken" false),
  fun K => He.Fa.ok K (.exm "NoWeight" "NoWeight" true),
  fun K => He.Fa.ok K (.exm "NoWeight" "NoText" false),
  fun K => He.Fa.ok K (.glo "NoText"),
  fun K => excB K (He.ga K "NoText") ["at"],
  fun K => He.Fa.ok K (.exm "NoText" "NoName" false),
  fun K => He.Fa.ok K (.exm "NoText" "Taken" false),
  fun K => He.Fa.ok K (.exm "NoText" "NoWeight" false),
  fun K => He.Fa.ok K (.exm "NoText" "NoText" true),
  fun K => He.Fa.ok K (.glo "SherdError"),
  fun K => He.Fa.ok K (.exm "NoName" "SherdError" true),
  fun K => He.Fa.ok K (.exm "Taken" "SherdError" true),
  fun K => He.Fa.ok K (.exm "NoWeight" "SherdError" true),
  fun K => He.Fa.ok K (.exm "NoText" "SherdError" true),
  fun K => vclsB K (He.ga K "NoText"),
  fun K => decide (PySem.W.kitOne K (.ref (He.ga K "NoText")) (.ref (He.ga K "NoText")) = some true),
  fun K => decide (PySem.W.kitOne K (.ref (He.ga K "NoText")) (.ref (He.ga K "NoName")) = some false),
  fun K => decide (PySem.W.kitOne K (.ref (He.ga K "NoText")) (.ref (He.ga K "NoWeight")) = some false),
  fun K => decide (PySem.W.kitOne K (.ref (He.ga K "NoText")) (.ref (He.ga K "Taken")) = some false),
  fun K => decide (PySem.W.kitOne K (.ref (He.ga K "NoText")) (.type "ValueError") = some true),
  fun K => He.Fa.ok K (.glo "Town"),
  fun K => He.Fa.ok K (.cls "Town"),
  fun K => He.Fa.ok K (.mkr "Town"),
  fun K => He.Fa.ok K (.noat "Town" "by_name"),
  fun K => He.Fa.ok K (.meth "Town" "listed"),
  fun K => He.Fa.ok K (.str "LETTERS" "abcdefghijklmnopqrstuvwxyz"),
  fun K => He.Fa.ok K (.int "LONGEST" 8),
  fun K => He.Fa.ok K (.int "HEAVIEST" 1000),
  fun K => He.Fa.ok K (.str "FIGURES" "0123456789"),
  fun K => He.Fa.ok K (.int "MOST_FIGURES" 9),
  fun K => He.Fa.ok K (.int "MOST_HOMES" 10)]
structure Ctx (K : PySem.W.Frag) (mg : Str → Option Value) : Prop where
  ex : ∃ h : Heap, K.In h ∧ h.Ns mainGlobals mg
  c : SaysX ck fn K
section
variable {K : PySem.W.Frag} {mg : Str → Option Value}
theorem gl_is_whole (C : Ctx K mg) : mg "is_whole" = some (.ref (He.ga K "is_whole")) := let ⟨_, X, G⟩ := C.ex; He.glo_ok X G (C.c.fact 0 rfl)
theorem gl_is_name (C : Ctx K mg) : mg "is_name" = some (.ref (He.ga K "is_name")) := let ⟨_, X, G⟩ := C.ex; He.glo_ok X G (C.c.fact 1 rfl)
theorem gl_need_name (C : Ctx K mg) : mg "need_name" = some (.ref (He.ga K "need_name")) := let ⟨_, X, G⟩ := C.ex; He.glo_ok X G (C.c.fact 2 rfl)
theorem gl_is_weight (C : Ctx K mg) : mg "is_weight" = some (.ref (He.ga K "is_weight")) := let ⟨_, X, G⟩ := C.ex; He.glo_ok X G (C.c.fact 3 rfl)
theorem gl_is_figures (C : Ctx K mg) : mg "is_figures" = some (.ref (He.ga K "is_figures")) := let ⟨_, X, G⟩ := C.ex; He.glo_ok X G (C.c.fact 4 rfl)
theorem gl_show_town (C : Ctx K mg) : mg "show_town" = some (.ref (He.ga K "show_town")) := let ⟨_, X, G⟩ := C.ex; He.glo_ok X G (C.c.fact 5 rfl)
theorem gl_show_table (C : Ctx K mg) : mg "show_table" = some (.ref (He.ga K "show_table")) := let ⟨_, X, G⟩ := C.ex; He.glo_ok X G (C.c.fact 6 rfl)
theorem gl_house_in (C : Ctx K mg) : mg "house_in" = some (.ref (He.ga K "house_in")) := let ⟨_, X, G⟩ := C.ex; He.glo_ok X G (C.c.fact 7 rfl)
theorem gl_ticket_in (C : Ctx K mg) : mg "ticket_in" = some (.ref (He.ga K "ticket_in")) := let ⟨_, X, G⟩ := C.ex; He.glo_ok X G (C.c.fact 8 rfl)
theorem gl_rows_in (C : Ctx K mg) : mg "rows_in" = some (.ref (He.ga K "rows_in")) := let ⟨_, X, G⟩ := C.ex; He.glo_ok X G (C.c.fact 9 rfl)
theorem gl_read_town (C : Ctx K mg) : mg "read_town" = some (.ref (He.ga K "read_town")) := let ⟨_, X, G⟩ := C.ex; He.glo_ok X G (C.c.fact 10 rfl)
theorem gl_read_table (C : Ctx K mg) : mg "read_table" = some (.ref (He.ga K "read_table")) := let ⟨_, X, G⟩ := C.ex; He.glo_ok X G (C.c.fact 11 rfl)
theorem gl_w_cell_at (C : Ctx K mg) : mg "_law_cell_at" = some (.ref (He.ga K "_law_cell_at")) := let ⟨_, X, G⟩ := C.ex; He.glo_ok X G (C.c.fact 12 rfl)
theorem gl_w_pot (C : Ctx K mg) : mg "_law_pot" = some (.ref (He.ga K "_law_pot")) := let ⟨_, X, G⟩ := C.ex; He.glo_ok X G (C.c.fact 13 rfl)
theorem gl_w_pick (C : Ctx K mg) : mg "_law_pick" = some (.ref (He.ga K "_law_pick")) := let ⟨_, X, G⟩ := C.ex; He.glo_ok X G (C.c.fact 14 rfl)
theorem gl_w_name (C : Ctx K mg) : mg "_law_name" = some (.ref (He.ga K "_law_name")) := let ⟨_, X, G⟩ := C.ex; He.glo_ok X G (C.c.fact 15 rfl)
theorem gl_w_names (C : Ctx K mg) : mg "_law_names" = some (.ref (He.ga K "_law_names")) := let ⟨_, X, G⟩ := C.ex; He.glo_ok X G (C.c.fact 16 rfl)
theorem gl_w_is_name (C : Ctx K mg) : mg "_law_is_name" = some (.ref (He.ga K "_law_is_name")) := let ⟨_, X, G⟩ := C.ex; He.glo_ok X G (C.c.fact 17 rfl)
theorem gl_w_mixed (C : Ctx K mg) : mg "_law_mixed" = some (.ref (He.ga K "_law_mixed")) := let ⟨_, X, G⟩ := C.ex; He.glo_ok X G (C.c.fact 18 rfl)
theorem gl_w_sign (C : Ctx K mg) : mg "_law_sign" = some (.ref (He.ga K "_law_sign")) := let ⟨_, X, G⟩ := C.ex; He.glo_ok X G (C.c.fact 19 rfl)
theorem gl_w_bent (C : Ctx K mg) : mg "_law_bent" = some (.ref (He.ga K "_law_bent")) := let ⟨_, X, G⟩ := C.ex; He.glo_ok X G (C.c.fact 20 rfl)
theorem gl_w_figures (C : Ctx K mg) : mg "_law_figures" = some (.ref (He.ga K "_law_figures")) := let ⟨_, X, G⟩ := C.ex; He.glo_ok X G (C.c.fact 21 rfl)
theorem gl_w_town_word (C : Ctx K mg) : mg "_law_town_word" = some (.ref (He.ga K "_law_town_word")) := let ⟨_, X, G⟩ := C.ex; He.glo_ok X G (C.c.fact 22 rfl)
theorem gl_w_table_word (C : Ctx K mg) : mg "_law_table_word" = some (.ref (He.ga K "_law_table_word")) := let ⟨_, X, G⟩ := C.ex; He.glo_ok X G (C.c.fact 23 rfl)
theorem gl_w_wrong (C : Ctx K mg) : mg "_law_wrong" = some (.ref (He.ga K "_law_wrong")) := let ⟨_, X, G⟩ := C.ex; He.glo_ok X G (C.c.fact 24 rfl)
theorem gl_w_asked (C : Ctx K mg) : mg "_law_asked" = some (.ref (He.ga K "_law_asked")) := let ⟨_, X, G⟩ := C.ex; He.glo_ok X G (C.c.fact 25 rfl)
theorem gl_w_text (C : Ctx K mg) : mg "_law_text" = some (.ref (He.ga K "_law_text")) := let ⟨_, X, G⟩ := C.ex; He.glo_ok X G (C.c.fact 26 rfl)
theorem gl_w_right (C : Ctx K mg) : mg "_law_right" = some (.ref (He.ga K "_law_right")) := let ⟨_, X, G⟩ := C.ex; He.glo_ok X G (C.c.fact 27 rfl)
theorem gl_law (C : Ctx K mg) : mg "law" = some (.ref (He.ga K "law")) := let ⟨_, X, G⟩ := C.ex; He.glo_ok X G (C.c.fact 28 rfl)
theorem fr_len (C : Ctx K mg) : mg "len" = none := let ⟨_, X, G⟩ := C.ex; He.free_ok X G (C.c.fact 29 rfl)
theorem fr_max (C : Ctx K mg) : mg "max" = none := let ⟨_, X, G⟩ := C.ex; He.free_ok X G (C.c.fact 30 rfl)
theorem fr_min (C : Ctx K mg) : mg "min" = none := let ⟨_, X, G⟩ := C.ex; He.free_ok X G (C.c.fact 31 rfl)
theorem fr_range (C : Ctx K mg) : mg "range" = none := let ⟨_, X, G⟩ := C.ex; He.free_ok X G (C.c.fact 32 rfl)
theorem fr_list (C : Ctx K mg) : mg "list" = none := let ⟨_, X, G⟩ := C.ex; He.free_ok X G (C.c.fact 33 rfl)
theorem fr_sorted (C : Ctx K mg) : mg "sorted" = none := let ⟨_, X, G⟩ := C.ex; He.free_ok X G (C.c.fact 34 rfl)
theorem fr_isinstance (C : Ctx K mg) : mg "isinstance" = none := let ⟨_, X, G⟩ := C.ex; He.free_ok X G (C.c.fact 35 rfl)
theorem fr_dict (C : Ctx K mg) : mg "dict" = none := let ⟨_, X, G⟩ := C.ex; He.free_ok X G (C.c.fact 36 rfl)
theorem fr_tuple (C : Ctx K mg) : mg "tuple" = none := let ⟨_, X, G⟩ := C.ex; He.free_ok X G (C.c.fact 37 rfl)
theorem fr_int (C : Ctx K mg) : mg "int" = none := let ⟨_, X, G⟩ := C.ex; He.free_ok X G (C.c.fact 38 rfl)
theorem fr_bool (C : Ctx K mg) : mg "bool" = none := let ⟨_, X, G⟩ := C.ex; He.free_ok X G (C.c.fact 39 rfl)
theorem fr_str (C : Ctx K mg) : mg "str" = none := let ⟨_, X, G⟩ := C.ex; He.free_ok X G (C.c.fact 40 rfl)
theorem fr_all (C : Ctx K mg) : mg "all" = none := let ⟨_, X, G⟩ := C.ex; He.free_ok X G (C.c.fact 41 rfl)
theorem fr_any (C : Ctx K mg) : mg "any" = none := let ⟨_, X, G⟩ := C.ex; He.free_ok X G (C.c.fact 42 rfl)
theorem fr_enumerate (C : Ctx K mg) : mg "enumerate" = none := let ⟨_, X, G⟩ := C.ex; He.free_ok X G (C.c.fact 43 rfl)
theorem fr_zip (C : Ctx K mg) : mg "zip" = none := let ⟨_, X, G⟩ := C.ex; He.free_ok X G (C.c.fact 44 rfl)
theorem fr_set (C : Ctx K mg) : mg "set" = none := let ⟨_, X, G⟩ := C.ex; He.free_ok X G (C.c.fact 45 rfl)
theorem fr_ValueError (C : Ctx K mg) : mg "ValueError" = none := let ⟨_, X, G⟩ := C.ex; He.free_ok X G (C.c.fact 46 rfl)
theorem gl_NoName (C : Ctx K mg) : mg "NoName" = some (.ref (He.ga K "NoName")) := let ⟨_, X, G⟩ := C.ex; He.glo_ok X G (C.c.fact 47 rfl)
theorem ex_NoName (C : Ctx K mg) : ExcT K (He.ga K "NoName") ["name"] := excB_ok (C.c.fact 48 rfl)
theorem em_NoName_NoName (C : Ctx K mg) : PySem.W.exmOne K (.ref (He.ga K "NoName")) (.ref (He.ga K "NoName")) = some true := He.exm_ok (C.c.fact 49 rfl)
theorem em_NoName_Taken (C : Ctx K mg) : PySem.W.exmOne K (.ref (He.ga K "NoName")) (.ref (He.ga K "Taken")) = some false := He.exm_ok (C.c.fact 50 rfl)
theorem em_NoName_NoWeight (C : Ctx K mg) : PySem.W.exmOne K (.ref (He.ga K "NoName")) (.ref (He.ga K "NoWeight")) = some false := He.exm_ok (C.c.fact 51 rfl)
theorem em_NoName_NoText (C : Ctx K mg) : PySem.W.exmOne K (.ref (He.ga K "NoName")) (.ref (He.ga K "NoText")) = some false := He.exm_ok (C.c.fact 52 rfl)
theorem gl_Taken (C : Ctx K mg) : mg "Taken" = some (.ref (He.ga K "Taken")) := let ⟨_, X, G⟩ := C.ex; He.glo_ok X G (C.c.fact 53 rfl)
theorem ex_Taken (C : Ctx K mg) : ExcT K (He.ga K "Taken") ["name"] := excB_ok (C.c.fact 54 rfl)
theorem em_Taken_NoName (C : Ctx K mg) : PySem.W.exmOne K (.ref (He.ga K "Taken")) (.ref (He.ga K "NoName")) = some false := He.exm_ok (C.c.fact 55 rfl)
theorem em_Taken_Taken (C : Ctx K mg) : PySem.W.exmOne K (.ref (He.ga K "Taken")) (.ref (He.ga K "Taken")) = some true := He.exm_ok (C.c.fact 56 rfl)
theorem em_Taken_NoWeight (C : Ctx K mg) : PySem.W.exmOne K (.ref (He.ga K "Taken")) (.ref (He.ga K "NoWeight")) = some false := He.exm_ok (C.c.fact 57 rfl)
theorem em_Taken_NoText (C : Ctx K mg) : PySem.W.exmOne K (.ref (He.ga K "Taken")) (.ref (He.ga K "NoText")) = some false := He.exm_ok (C.c.fact 58 rfl)
theorem gl_NoWeight (C : Ctx K mg) : mg "NoWeight" = some (.ref (He.ga K "NoWeight")) := let ⟨_, X, G⟩ := C.ex; He.glo_ok X G (C.c.fact 59 rfl)
theorem ex_NoWeight (C : Ctx K mg) : ExcT K (He.ga K "NoWeight") ["weight"] := excB_ok (C.c.fact 60 rfl)
theorem em_NoWeight_NoName (C : Ctx K mg) : PySem.W.exmOne K (.ref (He.ga K "NoWeight")) (.ref (He.ga K "NoName")) = some false := He.exm_ok (C.c.fact 61 rfl)
theorem em_NoWeight_Taken (C : Ctx K mg) : PySem.W.exmOne K (.ref (He.ga K "NoWeight")) (.ref (He.ga K "Taken")) = some false := He.exm_ok (C.c.fact 62 rfl)
theorem em_NoWeight_NoWeight (C : Ctx K mg) : PySem.W.exmOne K (.ref (He.ga K "NoWeight")) (.ref (He.ga K "NoWeight")) = some true := He.exm_ok (C.c.fact 63 rfl)
theorem em_NoWeight_NoText (C : Ctx K mg) : PySem.W.exmOne K (.ref (He.ga K "NoWeight")) (.ref (He.ga K "NoText")) = some false := He.exm_ok (C.c.fact 64 rfl)
theorem gl_NoText (C : Ctx K mg) : mg "NoText" = some (.ref (He.ga K "NoText")) := let ⟨_, X, G⟩ := C.ex; He.glo_ok X G (C.c.fact 65 rfl)
theorem ex_NoText (C : Ctx K mg) : ExcT K (He.ga K "NoText") ["at"] := excB_ok (C.c.fact 66 rfl)
theorem em_NoText_NoName (C : Ctx K mg) : PySem.W.exmOne K (.ref (He.ga K "NoText")) (.ref (He.ga K "NoName")) = some false := He.exm_ok (C.c.fact 67 rfl)
theorem em_NoText_Taken (C : Ctx K mg) : PySem.W.exmOne K (.ref (He.ga K "NoText")) (.ref (He.ga K "Taken")) = some false := He.exm_ok (C.c.fact 68 rfl)
theorem em_NoText_NoWeight (C : Ctx K mg) : PySem.W.exmOne K (.ref (He.ga K "NoText")) (.ref (He.ga K "NoWeight")) = some false := He.exm_ok (C.c.fact 69 rfl)
theorem em_NoText_NoText (C : Ctx K mg) : PySem.W.exmOne K (.ref (He.ga K "NoText")) (.ref (He.ga K "NoText")) = some true := He.exm_ok (C.c.fact 70 rfl)
theorem gl_SherdError (C : Ctx K mg) : mg "SherdError" = some (.ref (He.ga K "SherdError")) := let ⟨_, X, G⟩ := C.ex; He.glo_ok X G (C.c.fact 71 rfl)
theorem em_NoName_SherdError (C : Ctx K mg) : PySem.W.exmOne K (.ref (He.ga K "NoName")) (.ref (He.ga K "SherdError")) = some true := He.exm_ok (C.c.fact 72 rfl)
theorem em_Taken_SherdError (C : Ctx K mg) : PySem.W.exmOne K (.ref (He.ga K "Taken")) (.ref (He.ga K "SherdError")) = some true := He.exm_ok (C.c.fact 73 rfl)
theorem em_NoWeight_SherdError (C : Ctx K mg) : PySem.W.exmOne K (.ref (He.ga K "NoWeight")) (.ref (He.ga K "SherdError")) = some true := He.exm_ok (C.c.fact 74 rfl)
theorem em_NoText_SherdError (C : Ctx K mg) : PySem.W.exmOne K (.ref (He.ga K "NoText")) (.ref (He.ga K "SherdError")) = some true := He.exm_ok (C.c.fact 75 rfl)
theorem vc_NoText (C : Ctx K mg) : PySem.W.VCls K (He.ga K "NoText") := vclsB_ok (C.c.fact 76 rfl)
theorem ki_NoText_NoText (C : Ctx K mg) : PySem.W.kitOne K (.ref (He.ga K "NoText")) (.ref (He.ga K "NoText")) = some true := of_decide_eq_true (C.c.fact 77 rfl)
theorem ki_NoText_NoName (C : Ctx K mg) : PySem.W.kitOne K (.ref (He.ga K "NoText")) (.ref (He.ga K "NoName")) = some false := of_decide_eq_true (C.c.fact 78 rfl)
theorem ki_NoText_NoWeight (C : Ctx K mg) : PySem.W.kitOne K (.ref (He.ga K "NoText")) (.ref (He.ga K "NoWeight")) = some false := of_decide_eq_true (C.c.fact 79 rfl)
theorem ki_NoText_Taken (C : Ctx K mg) : PySem.W.kitOne K (.ref (He.ga K "NoText")) (.ref (He.ga K "Taken")) = some false := of_decide_eq_true (C.c.fact 80 rfl)
theorem ki_NoText_ValueError (C : Ctx K mg) : PySem.W.kitOne K (.ref (He.ga K "NoText")) (.type "ValueError") = some true := of_decide_eq_true (C.c.fact 81 rfl)
theorem gl_Town (C : Ctx K mg) : mg "Town" = some (.ref (He.ga K "Town")) := let ⟨_, X, G⟩ := C.ex; He.glo_ok X G (C.c.fact 82 rfl)
theorem cl_Town (C : Ctx K mg) : Cls K (He.ga K "Town") := He.cls_ok (C.c.fact 83 rfl)
theorem mk_Town (C : Ctx K mg) : Mk K (He.ga K "Town") (He.ma K (He.ga K "Town") "__init__") := He.mkr_ok (C.c.fact 84 rfl)
theorem na_Town_by_name (C : Ctx K mg) : NoAttr K (He.ga K "Town") "by_name" := He.noat_ok (C.c.fact 85 rfl)
theorem mt_Town_listed (C : Ctx K mg) : Meth K (He.ga K "Town") "listed" (He.ma K (He.ga K "Town") "listed") := He.meth_ok (C.c.fact 86 rfl)
theorem ct_LETTERS (C : Ctx K mg) : ∃ t, mg "LETTERS" = some (.str "abcdefghijklmnopqrstuvwxyz" t) := let ⟨_, X, G⟩ := C.ex; He.str_ok X G (C.c.fact 87 rfl)
theorem ct_LONGEST (C : Ctx K mg) : ∃ t, mg "LONGEST" = some (.int 8 t) := let ⟨_, X, G⟩ := C.ex; He.int_ok X G (C.c.fact 88 rfl)
theorem ct_HEAVIEST (C : Ctx K mg) : ∃ t, mg "HEAVIEST" = some (.int 1000 t) := let ⟨_, X, G⟩ := C.ex; He.int_ok X G (C.c.fact 89 rfl)
theorem ct_FIGURES (C : Ctx K mg) : ∃ t, mg "FIGURES" = some (.str "0123456789" t) := let ⟨_, X, G⟩ := C.ex; He.str_ok X G (C.c.fact 90 rfl)
theorem ct_MOST_FIGURES (C : Ctx K mg) : ∃ t, mg "MOST_FIGURES" = some (.int 9 t) := let ⟨_, X, G⟩ := C.ex; He.int_ok X G (C.c.fact 91 rfl)
theorem ct_MOST_HOMES (C : Ctx K mg) : ∃ t, mg "MOST_HOMES" = some (.int 10 t) := let ⟨_, X, G⟩ := C.ex; He.int_ok X G (C.c.fact 92 rfl)
theorem fn_NoName_init (C : Ctx K mg) : ∃ fd, FunD K "__init__" "NoName.__init__" (defArgs s_NoName_init) (defBody s_NoName_init) (defScope s_NoName_init) (d_NoName_init.dvs K) (d_NoName_init.kws K) (He.fAd K ("NoName", some "__init__")) fd := C.c.def_ 0 (d := d_NoName_init) rfl
theorem fn_Taken_init (C : Ctx K mg) : ∃ fd, FunD K "__init__" "Taken.__init__" (defArgs s_Taken_init) (defBody s_Taken_init) (defScope s_Taken_init) (d_Taken_init.dvs K) (d_Taken_init.kws K) (He.fAd K ("Taken", some "__init__")) fd := C.c.def_ 1 (d := d_Taken_init) rfl
theorem fn_NoWeight_init (C : Ctx K mg) : ∃ fd, FunD K "__init__" "NoWeight.__init__" (defArgs s_NoWeight_init) (defBody s_NoWeight_init) (defScope s_NoWeight_init) (d_NoWeight_init.dvs K) (d_NoWeight_init.kws K) (He.fAd K ("NoWeight", some "__init__")) fd := C.c.def_ 2 (d := d_NoWeight_init) rfl
theorem fn_NoText_init (C : Ctx K mg) : ∃ fd, FunD K "__init__" "NoText.__init__" (defArgs s_NoText_init) (defBody s_NoText_init) (defScope s_NoText_init) (d_NoText_init.dvs K) (d_NoText_init.kws K) (He.fAd K ("NoText", some "__init__")) fd := C.c.def_ 3 (d := d_NoText_init) rfl
theorem fn_is_whole (C : Ctx K mg) : ∃ fd, FunD K "is_whole" "is_whole" (defArgs s_is_whole) (defBody s_is_whole) (defScope s_is_whole) (d_is_whole.dvs K) (d_is_whole.kws K) (He.fAd K ("is_whole", none)) fd := C.c.def_ 4 (d := d_is_whole) rfl
theorem fn_is_name (C : Ctx K mg) : ∃ fd, FunD K "is_name" "is_name" (defArgs s_is_name) (defBody s_is_name) (defScope s_is_name) (d_is_name.dvs K) (d_is_name.kws K) (He.fAd K ("is_name", none)) fd := C.c.def_ 5 (d := d_is_name) rfl
theorem fn_need_name (C : Ctx K mg) : ∃ fd, FunD K "need_name" "need_name" (defArgs s_need_name) (defBody s_need_name) (defScope s_need_name) (d_need_name.dvs K) (d_need_name.kws K) (He.fAd K ("need_name", none)) fd := C.c.def_ 6 (d := d_need_name) rfl
theorem fn_is_weight (C : Ctx K mg) : ∃ fd, FunD K "is_weight" "is_weight" (defArgs s_is_weight) (defBody s_is_weight) (defScope s_is_weight) (d_is_weight.dvs K) (d_is_weight.kws K) (He.fAd K ("is_weight", none)) fd := C.c.def_ 7 (d := d_is_weight) rfl
theorem fn_Town_init (C : Ctx K mg) : ∃ fd, FunD K "__init__" "Town.__init__" (defArgs s_Town_init) (defBody s_Town_init) (defScope s_Town_init) (d_Town_init.dvs K) (d_Town_init.kws K) (He.fAd K ("Town", some "__init__")) fd := C.c.def_ 8 (d := d_Town_init) rfl
theorem fn_Town_listed (C : Ctx K mg) : ∃ fd, FunD K "listed" "Town.listed" (defArgs s_Town_listed) (defBody s_Town_listed) (defScope s_Town_listed) (d_Town_listed.dvs K) (d_Town_listed.kws K) (He.fAd K ("Town", some "listed")) fd := C.c.def_ 9 (d := d_Town_listed) rfl
theorem fn_is_figures (C : Ctx K mg) : ∃ fd, FunD K "is_figures" "is_figures" (defArgs s_is_figures) (defBody s_is_figures) (defScope s_is_figures) (d_is_figures.dvs K) (d_is_figures.kws K) (He.fAd K ("is_figures", none)) fd := C.c.def_ 10 (d := d_is_figures) rfl
theorem fn_show_town (C : Ctx K mg) : ∃ fd, FunD K "show_town" "show_town" (defArgs s_show_town) (defBody s_show_town) (defScope s_show_town) (d_show_town.dvs K) (d_show_town.kws K) (He.fAd K ("show_town", none)) fd := C.c.def_ 11 (d := d_show_town) rfl
theorem fn_show_table (C : Ctx K mg) : ∃ fd, FunD K "show_table" "show_table" (defArgs s_show_table) (defBody s_show_table) (defScope s_show_table) (d_show_table.dvs K) (d_show_table.kws K) (He.fAd K ("show_table", none)) fd := C.c.def_ 12 (d := d_show_table) rfl
theorem fn_house_in (C : Ctx K mg) : ∃ fd, FunD K "house_in" "house_in" (defArgs s_house_in) (defBody s_house_in) (defScope s_house_in) (d_house_in.dvs K) (d_house_in.kws K) (He.fAd K ("house_in", none)) fd := C.c.def_ 13 (d := d_house_in) rfl
theorem fn_ticket_in (C : Ctx K mg) : ∃ fd, FunD K "ticket_in" "ticket_in" (defArgs s_ticket_in) (defBody s_ticket_in) (defScope s_ticket_in) (d_ticket_in.dvs K) (d_ticket_in.kws K) (He.fAd K ("ticket_in", none)) fd := C.c.def_ 14 (d := d_ticket_in) rfl
theorem fn_rows_in (C : Ctx K mg) : ∃ fd, FunD K "rows_in" "rows_in" (defArgs s_rows_in) (defBody s_rows_in) (defScope s_rows_in) (d_rows_in.dvs K) (d_rows_in.kws K) (He.fAd K ("rows_in", none)) fd := C.c.def_ 15 (d := d_rows_in) rfl
theorem fn_read_town (C : Ctx K mg) : ∃ fd, FunD K "read_town" "read_town" (defArgs s_read_town) (defBody s_read_town) (defScope s_read_town) (d_read_town.dvs K) (d_read_town.kws K) (He.fAd K ("read_town", none)) fd := C.c.def_ 16 (d := d_read_town) rfl
theorem fn_read_table (C : Ctx K mg) : ∃ fd, FunD K "read_table" "read_table" (defArgs s_read_table) (defBody s_read_table) (defScope s_read_table) (d_read_table.dvs K) (d_read_table.kws K) (He.fAd K ("read_table", none)) fd := C.c.def_ 17 (d := d_read_table) rfl
theorem fn_w_cell_at (C : Ctx K mg) : ∃ fd, FunD K "_law_cell_at" "_law_cell_at" (defArgs s_w_cell_at) (defBody s_w_cell_at) (defScope s_w_cell_at) (d_w_cell_at.dvs K) (d_w_cell_at.kws K) (He.fAd K ("_law_cell_at", none)) fd := C.c.def_ 18 (d := d_w_cell_at) rfl
theorem fn_w_pot (C : Ctx K mg) : ∃ fd, FunD K "_law_pot" "_law_pot" (defArgs s_w_pot) (defBody s_w_pot) (defScope s_w_pot) (d_w_pot.dvs K) (d_w_pot.kws K) (He.fAd K ("_law_pot", none)) fd := C.c.def_ 19 (d := d_w_pot) rfl
theorem fn_w_pick (C : Ctx K mg) : ∃ fd, FunD K "_law_pick" "_law_pick" (defArgs s_w_pick) (defBody s_w_pick) (defScope s_w_pick) (d_w_pick.dvs K) (d_w_pick.kws K) (He.fAd K ("_law_pick", none)) fd := C.c.def_ 20 (d := d_w_pick) rfl
theorem fn_w_name (C : Ctx K mg) : ∃ fd, FunD K "_law_name" "_law_name" (defArgs s_w_name) (defBody s_w_name) (defScope s_w_name) (d_w_name.dvs K) (d_w_name.kws K) (He.fAd K ("_law_name", none)) fd := C.c.def_ 21 (d := d_w_name) rfl
theorem fn_w_names (C : Ctx K mg) : ∃ fd, FunD K "_law_names" "_law_names" (defArgs s_w_names) (defBody s_w_names) (defScope s_w_names) (d_w_names.dvs K) (d_w_names.kws K) (He.fAd K ("_law_names", none)) fd := C.c.def_ 22 (d := d_w_names) rfl
theorem fn_w_is_name (C : Ctx K mg) : ∃ fd, FunD K "_law_is_name" "_law_is_name" (defArgs s_w_is_name) (defBody s_w_is_name) (defScope s_w_is_name) (d_w_is_name.dvs K) (d_w_is_name.kws K) (He.fAd K ("_law_is_name", none)) fd := C.c.def_ 23 (d := d_w_is_name) rfl
theorem fn_w_mixed (C : Ctx K mg) : ∃ fd, FunD K "_law_mixed" "_law_mixed" (defArgs s_w_mixed) (defBody s_w_mixed) (defScope s_w_mixed) (d_w_mixed.dvs K) (d_w_mixed.kws K) (He.fAd K ("_law_mixed", none)) fd := C.c.def_ 24 (d := d_w_mixed) rfl
theorem fn_w_sign (C : Ctx K mg) : ∃ fd, FunD K "_law_sign" "_law_sign" (defArgs s_w_sign) (defBody s_w_sign) (defScope s_w_sign) (d_w_sign.dvs K) (d_w_sign.kws K) (He.fAd K ("_law_sign", none)) fd := C.c.def_ 25 (d := d_w_sign) rfl
theorem fn_w_bent (C : Ctx K mg) : ∃ fd, FunD K "_law_bent" "_law_bent" (defArgs s_w_bent) (defBody s_w_bent) (defScope s_w_bent) (d_w_bent.dvs K) (d_w_bent.kws K) (He.fAd K ("_law_bent", none)) fd := C.c.def_ 26 (d := d_w_bent) rfl
theorem fn_w_figures (C : Ctx K mg) : ∃ fd, FunD K "_law_figures" "_law_figures" (defArgs s_w_figures) (defBody s_w_figures) (defScope s_w_figures) (d_w_figures.dvs K) (d_w_figures.kws K) (He.fAd K ("_law_figures", none)) fd := C.c.def_ 27 (d := d_w_figures) rfl
theorem fn_w_town_word (C : Ctx K mg) : ∃ fd, FunD K "_law_town_word" "_law_town_word" (defArgs s_w_town_word) (defBody s_w_town_word) (defScope s_w_town_word) (d_w_town_word.dvs K) (d_w_town_word.kws K) (He.fAd K ("_law_town_word", none)) fd := C.c.def_ 28 (d := d_w_town_word) rfl
theorem fn_w_table_word (C : Ctx K mg) : ∃ fd, FunD K "_law_table_word" "_law_table_word" (defArgs s_w_table_word) (defBody s_w_table_word) (defScope s_w_table_word) (d_w_table_word.dvs K) (d_w_table_word.kws K) (He.fAd K ("_law_table_word", none)) fd := C.c.def_ 29 (d := d_w_table_word) rfl
theorem fn_w_wrong (C : Ctx K mg) : ∃ fd, FunD K "_law_wrong" "_law_wrong" (defArgs s_w_wrong) (defBody s_w_wrong) (defScope s_w_wrong) (d_w_wrong.dvs K) (d_w_wrong.kws K) (He.fAd K ("_law_wrong", none)) fd := C.c.def_ 30 (d := d_w_wrong) rfl
theorem fn_w_asked (C : Ctx K mg) : ∃ fd, FunD K "_law_asked" "_law_asked" (defArgs s_w_asked) (defBody s_w_asked) (defScope s_w_asked) (d_w_asked.dvs K) (d_w_asked.kws K) (He.fAd K ("_law_asked", none)) fd := C.c.def_ 31 (d := d_w_asked) rfl
theorem fn_w_text (C : Ctx K mg) : ∃ fd, FunD K "_law_text" "_law_text" (defArgs s_w_text) (defBody s_w_text) (defScope s_w_text) (d_w_text.dvs K) (d_w_text.kws K) (He.fAd K ("_law_text", none)) fd := C.c.def_ 32 (d := d_w_text) rfl
theorem fn_w_right (C : Ctx K mg) : ∃ fd, FunD K "_law_right" "_law_right" (defArgs s_w_right) (defBody s_w_right) (defScope s_w_right) (d_w_right.dvs K) (d_w_right.kws K) (He.fAd K ("_law_right", none)) fd := C.c.def_ 33 (d := d_w_right) rfl
theorem fn_law (C : Ctx K mg) : ∃ fd, FunD K "law" "law" (defArgs s_law) (defBody s_law) (defScope s_law) (d_law.dvs K) (d_law.kws K) (He.fAd K ("law", none)) fd := C.c.def_ 34 (d := d_law) rfl
end

end My
namespace My
open PySem PySem.Spec PyProof.Rows L2
/-! the law's draws -/
def sp_w_cell_at (K : PySem.W.Frag) : Sp := fun vs H Q _ => ∃ (a : Addr) (ns : List Int) (k : Nat), vs = [.ref a, .int k] ∧ SqL K H a (ns.map V.int) ∧ ∀ z, Q (.int z) H
def sp_w_pot : Sp := fun vs H Q _ => ∃ (z : Int), vs = [.int z] ∧ ∀ a H', H a = none → Step [] H H' → PotAt H' a 0 → Q (.ref a) H'
def sp_w_pick : Sp := fun vs H Q _ => ∃ (a : Addr) (n : Int) (c : Nat), vs = [.ref a, .int n] ∧ 0 < n ∧ n < 2 ^ 128 ∧ PotAt H a c ∧ c < 2 ^ 60 ∧ ∀ (r : Int) H', 0 ≤ r → r < n → Step [a] H H' → PotAt H' a (c + 1) → Q (.int r) H'
theorem go_pick {H : Hp} {Q : VK} {E : XK} {a : Addr} {n : Int} {c : Nat} (hp : PotAt H a c) (h0 : 0 < n) (h1 : n < 2 ^ 128) (hc : c < 2 ^ 60) (q : ∀ (r : Int) H', 0 ≤ r → r < n → Step [a] H H' → PotAt H' a (c + 1) → Q (.int r) H') : sp_w_pick [.ref a, .int n] H Q E := ⟨a, n, c, rfl, h0, h1, hp, hc, q⟩
section
variable {P : Program} {w : World} {K : PySem.W.Frag} {mg : Str → Option Value} {base : Heap}
theorem ok_w_cell_at (C : Ctx K mg) : Has P w K mg base CX0 1 "_law_cell_at" ["script", "k"] (sp_w_cell_at K) := by
  obtain ⟨fd, F⟩ := fn_w_cell_at C
  refine ⟨⟨_, fd, ?_, gl_w_cell_at C, F.kp, F.bindsN fun _ _ _ _ _ _ us hl => match us, hl with | [_, _], _ => rfl⟩⟩
  refine F.ok (CX := CX0) sc_w_cell_at (fun vs H Q E h => ?_) (fun cdv A outer s H vs Q E hr h => ?_)
  · first | (obtain ⟨_, rfl, _⟩ := h; rfl; done) | (obtain ⟨_, _, rfl, _⟩ := h; rfl; done) | (obtain ⟨_, _, _, rfl, _⟩ := h; rfl; done) | (obtain ⟨_, _, _, _, rfl, _⟩ := h; rfl; done) | (obtain ⟨_, _, _, _, _, rfl, _⟩ := h; rfl; done) | (obtain ⟨_, _, _, _, _, _, rfl, _⟩ := h; rfl; done) | (obtain ⟨_, _, _, _, _, _, _, rfl, _⟩ := h; rfl; done) | (obtain ⟨_, _, _, _, _, _, _, _, rfl, _⟩ := h; rfl; done) | (obtain ⟨_, _, _, _, _, _, _, _, _, rfl, _⟩ := h; rfl; done) | (obtain ⟨_, _, _, _, _, _, _, _, _, _, rfl, _⟩ := h; rfl; done) | (obtain ⟨_, _, _, _, _, _, _, _, _, _, _, rfl, _⟩ := h; rfl; done) | (obtain ⟨_, _, _, _, _, _, _, _, _, _, _, _, rfl, _⟩ := h; rfl; done) | (rcases h with h | h <;> first | (obtain ⟨_, rfl, _⟩ := h; rfl; done) | (obtain ⟨_, _, rfl, _⟩ := h; rfl; done) | (obtain ⟨_, _, _, rfl, _⟩ := h; rfl; done) | (obtain ⟨_, _, _, _, rfl, _⟩ := h; rfl; done) | (obtain ⟨_, _, _, _, _, rfl, _⟩ := h; rfl; done) | (obtain ⟨_, _, _, _, _, _, rfl, _⟩ := h; rfl; done) | (obtain ⟨_, _, _, _, _, _, _, rfl, _⟩ := h; rfl; done) | (obtain ⟨_, _, _, _, _, _, _, _, rfl, _⟩ := h; rfl; done) | (obtain ⟨_, _, _, _, _, _, _, _, _, rfl, _⟩ := h; rfl; done) | (obtain ⟨_, _, _, _, _, _, _, _, _, _, rfl, _⟩ := h; rfl; done) | (obtain ⟨_, _, _, _, _, _, _, _, _, _, _, rfl, _⟩ := h; rfl; done) | (obtain ⟨_, _, _, _, _, _, _, _, _, _, _, _, rfl, _⟩ := h; rfl; done))
  have hu := hu_of hr
  refine ⟨_, PSs.nox (pss_cons (ps_if (pt_cmpR op_lt (pv 1) (pe_callB cr_lenL (by rfl) (fr_len C) PySem.boot_len (pa_cons (pv 0) pa_nil)) (nomark _)) (pss_one (ps_ret (pe_ix ix_list (pv 0) (pv 1) (fun _ _ => rfl)))) pss_nil)
    (pss_one (ps_ret pe_int))), ?_⟩
  obtain ⟨a, ns, k, rfl, hS, q⟩ := h
  walk_at "go"
  refine g_ite (fun hk => ?_) (fun hk => ?_)
  · walk_at "go"
    rw [List.length_map] at hk
    exact g_ixLK hS (at_nat (by rw [List.getElem?_map, List.getElem?_eq_getElem (by omega : k < ns.length)]; rfl)) (q _)
  · walk_at "go"
    exact q _
theorem ok_w_pot (C : Ctx K mg) : Has P w K mg base CX0 1 "_law_pot" ["cell"] sp_w_pot := by
  obtain ⟨fd, F⟩ := fn_w_pot C
  refine ⟨⟨_, fd, ?_, gl_w_pot C, F.kp, F.bindsN fun _ _ _ _ _ _ us hl => match us, hl with | [_], _ => rfl⟩⟩
  refine F.ok (CX := CX0) sc_w_pot (fun vs H Q E h => ?_) (fun cdv A outer s H vs Q E hr h => ?_)
  · first | (obtain ⟨_, rfl, _⟩ := h; rfl; done) | (obtain ⟨_, _, rfl, _⟩ := h; rfl; done) | (obtain ⟨_, _, _, rfl, _⟩ := h; rfl; done) | (obtain ⟨_, _, _, _, rfl, _⟩ := h; rfl; done) | (obtain ⟨_, _, _, _, _, rfl, _⟩ := h; rfl; done) | (obtain ⟨_, _, _, _, _, _, rfl, _⟩ := h; rfl; done) | (obtain ⟨_, _, _, _, _, _, _, rfl, _⟩ := h; rfl; done) | (obtain ⟨_, _, _, _, _, _, _, _, rfl, _⟩ := h; rfl; done) | (obtain ⟨_, _, _, _, _, _, _, _, _, rfl, _⟩ := h; rfl; done) | (obtain ⟨_, _, _, _, _, _, _, _, _, _, rfl, _⟩ := h; rfl; done) | (obtain ⟨_, _, _, _, _, _, _, _, _, _, _, rfl, _⟩ := h; rfl; done) | (obtain ⟨_, _, _, _, _, _, _, _, _, _, _, _, rfl, _⟩ := h; rfl; done) | (rcases h with h | h <;> first | (obtain ⟨_, rfl, _⟩ := h; rfl; done) | (obtain ⟨_, _, rfl, _⟩ := h; rfl; done) | (obtain ⟨_, _, _, rfl, _⟩ := h; rfl; done) | (obtain ⟨_, _, _, _, rfl, _⟩ := h; rfl; done) | (obtain ⟨_, _, _, _, _, rfl, _⟩ := h; rfl; done) | (obtain ⟨_, _, _, _, _, _, rfl, _⟩ := h; rfl; done) | (obtain ⟨_, _, _, _, _, _, _, rfl, _⟩ := h; rfl; done) | (obtain ⟨_, _, _, _, _, _, _, _, rfl, _⟩ := h; rfl; done) | (obtain ⟨_, _, _, _, _, _, _, _, _, rfl, _⟩ := h; rfl; done) | (obtain ⟨_, _, _, _, _, _, _, _, _, _, rfl, _⟩ := h; rfl; done) | (obtain ⟨_, _, _, _, _, _, _, _, _, _, _, rfl, _⟩ := h; rfl; done) | (obtain ⟨_, _, _, _, _, _, _, _, _, _, _, _, rfl, _⟩ := h; rfl; done))
  have hu := hu_of hr
  refine ⟨_, PSs.nox (pss_one (ps_ret (pe_lst (pa_cons (pe_callB (cr_max2 rfl) (by rfl) (fr_max C) (by decide +kernel) (pa_cons pe_int (pa_cons (pe_op op_sub (pv 0) (pe_op op_powP pe_int pe_int)) pa_nil))) (pa_cons (pe_op op_modP (pv 0) pe_int) (pa_cons pe_int pa_nil)))))), ?_⟩
  obtain ⟨z, rfl, q⟩ := h
  walk_at "go"
  intro p H2 hp st h2
  refine q p H2 hp st ⟨_, _, _, h2, by omega, Int.emod_nonneg _ (by decide), ?_, by omega, by omega⟩
  have := Int.emod_lt_of_pos z (show (0 : Int) < 170141183460469231731687303715884105727 by decide)
  omega
theorem ok_w_pick (C : Ctx K mg) : Has P w K mg base CX0 1 "_law_pick" ["pot", "many"] sp_w_pick := by
  obtain ⟨fd, F⟩ := fn_w_pick C
  refine ⟨⟨_, fd, ?_, gl_w_pick C, F.kp, F.bindsN fun _ _ _ _ _ _ us hl => match us, hl with | [_, _], _ => rfl⟩⟩
  refine F.ok (CX := CX0) sc_w_pick (fun vs H Q E h => ?_) (fun cdv A outer s H vs Q E hr h => ?_)
  · first | (obtain ⟨_, rfl, _⟩ := h; rfl; done) | (obtain ⟨_, _, rfl, _⟩ := h; rfl; done) | (obtain ⟨_, _, _, rfl, _⟩ := h; rfl; done) | (obtain ⟨_, _, _, _, rfl, _⟩ := h; rfl; done) | (obtain ⟨_, _, _, _, _, rfl, _⟩ := h; rfl; done) | (obtain ⟨_, _, _, _, _, _, rfl, _⟩ := h; rfl; done) | (obtain ⟨_, _, _, _, _, _, _, rfl, _⟩ := h; rfl; done) | (obtain ⟨_, _, _, _, _, _, _, _, rfl, _⟩ := h; rfl; done) | (obtain ⟨_, _, _, _, _, _, _, _, _, rfl, _⟩ := h; rfl; done) | (obtain ⟨_, _, _, _, _, _, _, _, _, _, rfl, _⟩ := h; rfl; done) | (obtain ⟨_, _, _, _, _, _, _, _, _, _, _, rfl, _⟩ := h; rfl; done) | (obtain ⟨_, _, _, _, _, _, _, _, _, _, _, _, rfl, _⟩ := h; rfl; done) | (rcases h with h | h <;> first | (obtain ⟨_, rfl, _⟩ := h; rfl; done) | (obtain ⟨_, _, rfl, _⟩ := h; rfl; done) | (obtain ⟨_, _, _, rfl, _⟩ := h; rfl; done) | (obtain ⟨_, _, _, _, rfl, _⟩ := h; rfl; done) | (obtain ⟨_, _, _, _, _, rfl, _⟩ := h; rfl; done) | (obtain ⟨_, _, _, _, _, _, rfl, _⟩ := h; rfl; done) | (obtain ⟨_, _, _, _, _, _, _, rfl, _⟩ := h; rfl; done) | (obtain ⟨_, _, _, _, _, _, _, _, rfl, _⟩ := h; rfl; done) | (obtain ⟨_, _, _, _, _, _, _, _, _, rfl, _⟩ := h; rfl; done) | (obtain ⟨_, _, _, _, _, _, _, _, _, _, rfl, _⟩ := h; rfl; done) | (obtain ⟨_, _, _, _, _, _, _, _, _, _, _, rfl, _⟩ := h; rfl; done) | (obtain ⟨_, _, _, _, _, _, _, _, _, _, _, _, rfl, _⟩ := h; rfl; done))
  have hu := hu_of hr
  refine ⟨_, PSs.nox (pss_cons (ps_if (pt_cmpR op_gt (pe_ix ix_list (pv 0) pe_int (fun _ _ => rfl)) pe_int (nomark _)) (pss_cons (ps_set (i := 2) sc_w_pick.nd rfl (Or.inl rfl) (pe_op op_modP (pe_ix ix_list (pv 0) pe_int (fun _ _ => rfl)) (pv 1)))
    (pss_cons (ps_asg (pe_op op_divP (pe_ix ix_list (pv 0) pe_int (fun _ _ => rfl)) (pv 1)) (pg_sub (pv 0) pe_int set_list))
    (pss_one (ps_ret (pv 2))))) pss_nil)
    (pss_cons (ps_asg (pe_op op_add (pe_ix ix_list (pv 0) pe_int (fun _ _ => rfl)) pe_int) (pg_sub (pv 0) pe_int set_list))
    (pss_cons (ps_set (i := 3) sc_w_pick.nd rfl (Or.inl rfl) (pe_op op_modP (pe_op op_powP (pe_op op_add (pe_op op_add (pe_ix ix_list (pv 0) pe_int (fun _ _ => rfl)) (pe_op op_mulP pe_int (pe_ix ix_list (pv 0) pe_int (fun _ _ => rfl)))) pe_int) pe_int) pe_int))
    (pss_cons (ps_set (i := 3) sc_w_pick.nd rfl (Or.inl rfl) (pe_op op_modP (pe_op op_powP (pe_op op_add (pv 3) (pe_op op_mulP pe_int (pe_ix ix_list (pv 0) pe_int (fun _ _ => rfl)))) pe_int) pe_int))
    (pss_one (ps_ret (pe_op op_modP (pe_op op_divP (pv 3) pe_int) (pv 1)))))))), ?_⟩
  obtain ⟨a, n, c, rfl, hn, hn2, ⟨p0, p1, p2, hp, h0, h1, h2, h3, h4⟩, hc, q⟩ := h
  walk_at "go"
  refine g_ite (fun hk => ?_) (fun hk => ?_)
  · walk_at "go"
    refine g_setL hp rfl fun H2 st e2 => ?_
    walk_at "go"
    exact q _ H2 (Int.emod_nonneg _ (by omega)) (Int.emod_lt_of_pos _ hn) st ⟨_, _, _, e2, Int.ediv_nonneg h0 (by omega), h1, h2, h3, by omega⟩
  · walk_at "go"
    refine g_setL hp rfl fun H2 st e2 => ?_
    have e2 : H2 a = some (HO.lst [V.int p0, V.int p1, V.int (p2 + 1)]) := e2
    walk_at "go"
    have b1 := Int.emod_nonneg ((p1 + 9176263 * (p2 + 1) + 57) ^ Int.toNat 3) (show (162259276829213363391578010288127 : Int) ≠ 0 by decide)
    have b2 := Int.emod_lt_of_pos ((p1 + 9176263 * (p2 + 1) + 57) ^ Int.toNat 3) (show (0 : Int) < 162259276829213363391578010288127 by decide)
    generalize (p1 + 9176263 * (p2 + 1) + 57) ^ Int.toNat 3 % 162259276829213363391578010288127 = z at b1 b2 ⊢
    walk_at "go"
    exact q _ H2 (Int.emod_nonneg _ (by omega)) (Int.emod_lt_of_pos _ hn) st ⟨_, _, _, e2, h0, h1, h2, by omega, by omega⟩
end

end My
namespace My
open PySem PySem.Spec PyProof.Rows L2
/-! names -/
def sp_w_name : Sp := fun vs H Q _ => ∃ (a : Addr) (c : Nat), vs = [.ref a] ∧ PotAt H a c ∧ c < 2 ^ 59 ∧ ∀ (z : Str) H', IsNm z → Step [a] H H' → PotAt H' a (c + 10) → Q (.str z) H'
theorem go_name {H : Hp} {Q : VK} {E : XK} {a : Addr} {c : Nat} (hp : PotAt H a c) (hc : c < 2 ^ 59) (q : ∀ (z : Str) H', IsNm z → Step [a] H H' → PotAt H' a (c + 10) → Q (.str z) H') : sp_w_name [.ref a] H Q E := ⟨a, c, rfl, hp, hc, q⟩
def sp_w_names : Sp := fun vs H Q _ => ∃ (a : Addr) (n : Int) (c : Nat), vs = [.ref a, .int n] ∧ 0 ≤ n ∧ n ≤ 100 ∧ PotAt H a c ∧ c < 2 ^ 58 ∧
  ∀ D (zs : List Str) H', H D = none → (zs.length : Int) ≤ n → zs.Nodup → (∀ z ∈ zs, IsNm z) → (0 < n → zs ≠ []) → Step [a] H H' → H' D = some (.lst (zs.map V.str)) → PotAt H' a (c + 1 + 13 * n.toNat) → Q (.ref D) H'
section
variable {P : Program} {w : World} {K : PySem.W.Frag} {mg : Str → Option Value} {base : Heap}
theorem ok_w_name (C : Ctx K mg) : Has P w K mg base CX0 2 "_law_name" ["pot"] sp_w_name := by
  obtain ⟨fd, F⟩ := fn_w_name C
  obtain ⟨f_w_pick, fd_w_pick, G_w_pick, mg_w_pick, kp_w_pick, b_w_pick⟩ := (ok_w_pick (P := P) (w := w) (base := base) C).ex
  refine ⟨⟨_, fd, ?_, gl_w_name C, F.kp, F.bindsN fun _ _ _ _ _ _ us hl => match us, hl with | [_], _ => rfl⟩⟩
  refine F.ok (CX := CX0) sc_w_name (fun vs H Q E h => ?_) (fun cdv A outer s H vs Q E hr h => ?_)
  · first | (obtain ⟨_, rfl, _⟩ := h; rfl; done) | (obtain ⟨_, _, rfl, _⟩ := h; rfl; done) | (obtain ⟨_, _, _, rfl, _⟩ := h; rfl; done) | (obtain ⟨_, _, _, _, rfl, _⟩ := h; rfl; done) | (obtain ⟨_, _, _, _, _, rfl, _⟩ := h; rfl; done) | (obtain ⟨_, _, _, _, _, _, rfl, _⟩ := h; rfl; done) | (obtain ⟨_, _, _, _, _, _, _, rfl, _⟩ := h; rfl; done) | (obtain ⟨_, _, _, _, _, _, _, _, rfl, _⟩ := h; rfl; done) | (obtain ⟨_, _, _, _, _, _, _, _, _, rfl, _⟩ := h; rfl; done) | (obtain ⟨_, _, _, _, _, _, _, _, _, _, rfl, _⟩ := h; rfl; done) | (obtain ⟨_, _, _, _, _, _, _, _, _, _, _, rfl, _⟩ := h; rfl; done) | (obtain ⟨_, _, _, _, _, _, _, _, _, _, _, _, rfl, _⟩ := h; rfl; done) | (rcases h with h | h <;> first | (obtain ⟨_, rfl, _⟩ := h; rfl; done) | (obtain ⟨_, _, rfl, _⟩ := h; rfl; done) | (obtain ⟨_, _, _, rfl, _⟩ := h; rfl; done) | (obtain ⟨_, _, _, _, rfl, _⟩ := h; rfl; done) | (obtain ⟨_, _, _, _, _, rfl, _⟩ := h; rfl; done) | (obtain ⟨_, _, _, _, _, _, rfl, _⟩ := h; rfl; done) | (obtain ⟨_, _, _, _, _, _, _, rfl, _⟩ := h; rfl; done) | (obtain ⟨_, _, _, _, _, _, _, _, rfl, _⟩ := h; rfl; done) | (obtain ⟨_, _, _, _, _, _, _, _, _, rfl, _⟩ := h; rfl; done) | (obtain ⟨_, _, _, _, _, _, _, _, _, _, rfl, _⟩ := h; rfl; done) | (obtain ⟨_, _, _, _, _, _, _, _, _, _, _, rfl, _⟩ := h; rfl; done) | (obtain ⟨_, _, _, _, _, _, _, _, _, _, _, _, rfl, _⟩ := h; rfl; done))
  have hu := hu_of hr
  refine ⟨_, PSs.nox (pss_cons (ps_set (i := 1) sc_w_name.nd rfl (Or.inr rfl) pe_str)
    (pss_cons (ps_set (i := 2) sc_w_name.nd rfl (Or.inl rfl) (pe_ix ix_list (pe_lst (pa_cons pe_int (pa_cons pe_int (pa_cons pe_int (pa_cons (pe_op op_add pe_int (pe_call G_w_pick (hr.mono (by decide)) rfl mg_w_pick kp_w_pick b_w_pick .nil pass0 (pa_cons (pv 0) (pa_cons pe_int pa_nil)))) pa_nil))))) (pe_call G_w_pick (hr.mono (by decide)) rfl mg_w_pick kp_w_pick b_w_pick .nil pass0 (pa_cons (pv 0) (pa_cons pe_int pa_nil))) (fun _ _ => rfl)))
    (pss_one (ps_ret (pe_joinR pe_str (pe_lc (own := [("k", 3)]) (g := (gName 3)) (tt := tYes) rfl sc_w_name.nd (pi_range1 rfl (fr_range C) (pa_cons (pv 2) pa_nil)) (blkOk_by (N := N_w_name) (sc := defScope s_w_name) (own := [("k", 3)]) (by decide +kernel)) (fun _ _ _ _ _ => (pg_name (i := 3) sc_w_name.nd rfl (Or.inl rfl))) (fun _ _ _ _ _ => pts_nil) (fun _ _ _ _ _ => (pe_ix ix_str (pv 1) (pe_call G_w_pick (hr.mono (by decide)) rfl mg_w_pick kp_w_pick b_w_pick .nil pass0 (pa_cons (pv 0) (pa_cons pe_int pa_nil))) (fun _ _ => rfl))))))))), ?_⟩
  obtain ⟨a, c, rfl, hp, hc, q⟩ := h
  walk_at "go"
  refine go_pick hp (by decide) (by decide) (by omega) fun r1 H1 r10 r11 s1 p1 => ?_
  walk_at "go"
  intro l H2 hl s2 e2
  have la : l ≠ a := (p1.ne hl).symm
  walk_at "go"
  refine go_pick (p1.step0 s2) (by decide) (by decide) (by omega) fun r2 H3 r20 r21 s3 p3 => ?_
  obtain ⟨m, hm, em⟩ := at4 (x0 := 1) (x1 := 2) (x2 := 8) (x3 := 1 + r1) r20 r21
  refine g_ixL (s3.at1 e2 la) em ?_
  have hm1 : 1 ≤ m ∧ m ≤ 8 := by omega
  walk_at "go"
  refine g_kRng1 (by omega) (by omega) ?_
  refine wLc_rng fun D H4 hD s4 e4 => ?_
  have aD : a ≠ D := p3.ne hD
  refine ⟨fun i H => ∃ ss : List Str, ss.length = i ∧ (∀ s ∈ ss, ∃ c, s = ⟨#[c]⟩ ∧ isLow c) ∧ H D = some (.lst (ss.map V.str)) ∧ PotAt H a (c + 2 + i) ∧ Step [a] H3 H, ⟨[], rfl, by simp, e4, p3.step0 s4, s4.up⟩, ?_, ?_⟩
  · rintro i H5 hi ⟨ss, h1, h2, h3, h4, h5⟩
    walk_at "go"
    refine go_pick h4 (by decide) (by decide) (by omega) fun r3 H6 r30 r31 s6 p6 => ?_
    obtain ⟨ch, hch, ech⟩ := letter_at r30 r31
    refine g_ixS letters_line ech ?_
    refine g_kEl (s6.at1 h3 aD.symm) (ltLine (by rw [List.length_map]; omega)) fun H7 s7 e7 => ?_
    refine ⟨ss ++ [⟨#[ch]⟩], by simp [h1], fun s hs => ?_, by rw [e7, List.map_append]; rfl, (p6.step1 s7 aD).mono (by omega), (h5.trans s6).via s7 hD⟩
    · rcases List.mem_append.mp hs with hs | hs
      · exact h2 s hs
      · exact ⟨ch, by simpa using hs, hch⟩
  · rintro H5 ⟨ss, h1, h2, h3, h4, h5⟩
    obtain ⟨f1, f2, f3⟩ := signs_flat h2
    have ee : cs ("" : Str) = [] := by decide +kernel
    refine g_join h3 ?_ ?_
    · rw [f3, ← cs_len, ee]
      simp
      omega
    · rw [TL.join_eq]
      exact q _ H5 (nm_of_signs h2 (by omega) (by omega)) (((s1.trans s2.up).trans s3).trans h5) (h4.mono (by omega))
theorem ok_w_names (C : Ctx K mg) : Has P w K mg base CX0 3 "_law_names" ["pot", "many"] sp_w_names := by
  obtain ⟨fd, F⟩ := fn_w_names C
  obtain ⟨f_w_pick, fd_w_pick, G_w_pick, mg_w_pick, kp_w_pick, b_w_pick⟩ := (ok_w_pick (P := P) (w := w) (base := base) C).ex
  obtain ⟨f_w_name, fd_w_name, G_w_name, mg_w_name, kp_w_name, b_w_name⟩ := (ok_w_name (P := P) (w := w) (base := base) C).ex
  refine ⟨⟨_, fd, ?_, gl_w_names C, F.kp, F.bindsN fun _ _ _ _ _ _ us hl => match us, hl with | [_, _], _ => rfl⟩⟩
  refine F.ok (CX := CX0) sc_w_names (fun vs H Q E h => ?_) (fun cdv A outer s H vs Q E hr h => ?_)
  · first | (obtain ⟨_, rfl, _⟩ := h; rfl; done) | (obtain ⟨_, _, rfl, _⟩ := h; rfl; done) | (obtain ⟨_, _, _, rfl, _⟩ := h; rfl; done) | (obtain ⟨_, _, _, _, rfl, _⟩ := h; rfl; done) | (obtain ⟨_, _, _, _, _, rfl, _⟩ := h; rfl; done) | (obtain ⟨_, _, _, _, _, _, rfl, _⟩ := h; rfl; done) | (obtain ⟨_, _, _, _, _, _, _, rfl, _⟩ := h; rfl; done) | (obtain ⟨_, _, _, _, _, _, _, _, rfl, _⟩ := h; rfl; done) | (obtain ⟨_, _, _, _, _, _, _, _, _, rfl, _⟩ := h; rfl; done) | (obtain ⟨_, _, _, _, _, _, _, _, _, _, rfl, _⟩ := h; rfl; done) | (obtain ⟨_, _, _, _, _, _, _, _, _, _, _, rfl, _⟩ := h; rfl; done) | (obtain ⟨_, _, _, _, _, _, _, _, _, _, _, _, rfl, _⟩ := h; rfl; done) | (rcases h with h | h <;> first | (obtain ⟨_, rfl, _⟩ := h; rfl; done) | (obtain ⟨_, _, rfl, _⟩ := h; rfl; done) | (obtain ⟨_, _, _, rfl, _⟩ := h; rfl; done) | (obtain ⟨_, _, _, _, rfl, _⟩ := h; rfl; done) | (obtain ⟨_, _, _, _, _, rfl, _⟩ := h; rfl; done) | (obtain ⟨_, _, _, _, _, _, rfl, _⟩ := h; rfl; done) | (obtain ⟨_, _, _, _, _, _, _, rfl, _⟩ := h; rfl; done) | (obtain ⟨_, _, _, _, _, _, _, _, rfl, _⟩ := h; rfl; done) | (obtain ⟨_, _, _, _, _, _, _, _, _, rfl, _⟩ := h; rfl; done) | (obtain ⟨_, _, _, _, _, _, _, _, _, _, rfl, _⟩ := h; rfl; done) | (obtain ⟨_, _, _, _, _, _, _, _, _, _, _, rfl, _⟩ := h; rfl; done) | (obtain ⟨_, _, _, _, _, _, _, _, _, _, _, _, rfl, _⟩ := h; rfl; done))
  have hu := hu_of hr
  refine ⟨_, PSs.nox (pss_cons (ps_set (i := 2) sc_w_names.nd rfl (Or.inl rfl) pe_str)
    (pss_cons (ps_set (i := 3) sc_w_names.nd rfl (Or.inl rfl) (pe_call G_w_pick (hr.mono (by decide)) rfl mg_w_pick kp_w_pick b_w_pick .nil pass0 (pa_cons (pv 0) (pa_cons pe_int pa_nil))))
    (pss_cons (ps_set (i := 4) sc_w_names.nd rfl (Or.inl rfl) (pe_lst pa_nil))
    (pss_cons (ps_for PassesOwn.never rfl (pi_range1 rfl (fr_range C) (pa_cons (pv 1) pa_nil)) (pg_name (i := 5) sc_w_names.nd rfl (Or.inl rfl))
    (pss_cons (ps_set (i := 6) sc_w_names.nd rfl (Or.inl rfl) (pe_call G_w_name (hr.mono (by decide)) rfl mg_w_name kp_w_name b_w_name .nil pass0 (pa_cons (pv 0) pa_nil)))
    (pss_cutM (ps_if (pt_cut (PW.pt (pw_and (pt_cmpR op_gt (pv 3) pe_int (nomark _)) (pw_and1 (pt_cmpR (op_neD hr.units) (pv 4) (pe_lst pa_nil) (nomark _)))))) (pss_cons (ps_set (i := 7) sc_w_names.nd rfl (Or.inl rfl) (pe_ix ix_list (pv 4) (pe_call G_w_pick (hr.mono (by decide)) rfl mg_w_pick kp_w_pick b_w_pick .nil pass0 (pa_cons (pv 0) (pa_cons (pe_callB cr_lenL (by rfl) (fr_len C) PySem.boot_len (pa_cons (pv 4) pa_nil)) pa_nil))) (fun _ _ => rfl)))
    (pss_cons (ps_set (i := 8) sc_w_names.nd rfl (Or.inl rfl) (pe_call G_w_pick (hr.mono (by decide)) rfl mg_w_pick kp_w_pick b_w_pick .nil pass0 (pa_cons (pv 0) (pa_cons (pe_callB cr_lenSt (by rfl) (fr_len C) PySem.boot_len (pa_cons (pv 7) pa_nil)) pa_nil))))
    (pss_one (ps_set (i := 6) sc_w_names.nd rfl (Or.inl rfl) (pe_slice sl_str (pe_op op_addS (pe_op op_addS (pe_slice sl_str (pv 7) po_none (po_some (pv 8))) (pe_ix ix_str (pv 2) (pe_call G_w_pick (hr.mono (by decide)) rfl mg_w_pick kp_w_pick b_w_pick .nil pass0 (pa_cons (pv 0) (pa_cons pe_int pa_nil))) (fun _ _ => rfl))) (pe_slice sl_str (pv 7) (po_some (pe_op op_sub (pe_op op_add (pv 8) pe_int) (pv 3))) po_none)) po_none (po_some pe_int)))))) pss_nil)
    (pss_one (ps_if (pt_cmpR op_notIn_seq (pv 6) (pv 4) (by rfl)) (pss_one (ps_expr (pe_bm PySem.F.plainAttrs_list PySem.F.slot_list_append PySem.F.type_list_append mt_append (pv 4) (pa_cons (pv 6) pa_nil)))) pss_nil)))))
    (pss_one (ps_ret (pv 4))))))), ?_⟩
  obtain ⟨a, n, c, rfl, hn0, hn1, hp, hc, q⟩ := h
  walk_at "go"
  refine go_pick hp (by decide) (by decide) (by omega) fun way H1 w0 w1 s1 p1 => ?_
  walk_at "go"
  intro D H2 hD s2 e2
  have aD : a ≠ D := p1.ne hD
  walk_at "go"
  refine g_kRng1 (by omega) (by omega) ?_
  refine wFor_rng (fun i σ H => ∃ (zs : List Str) (v5 v6 v7 v8 : Option V), σ = [some (.ref a), some (.int n), some (.str "abcdefghijklmnopqrstuvwxyz"), some (.int way), some (.ref D), v5, v6, v7, v8] ∧
    zs.length ≤ i ∧ zs.Nodup ∧ (∀ z ∈ zs, IsNm z) ∧ (0 < i → zs ≠ []) ∧ H D = some (.lst (zs.map V.str)) ∧ PotAt H a (c + 1 + 13 * i) ∧ Step [a] H1 H) ⟨[], _, _, _, _, rfl, Nat.le_refl _, List.nodup_nil, by simp, by omega, e2, p1.step0 s2, s2.up⟩ ?_ ?_
  · rintro i σ H3 hi ⟨zs, v5, v6, v7, v8, rfl, h1, h2, h3, h4, h5, h6, h7⟩
    walk_at "go"
    refine go_name h6 (by omega) fun one H4 n1 s4 p4 => ?_
    walk_at "go"
    refine g_cut (fun σ H => ∃ (z : Str) (v7 v8 : Option V), σ = [some (.ref a), some (.int n), some (.str "abcdefghijklmnopqrstuvwxyz"), some (.int way), some (.ref D), some (.int (0 + i)), some (.str z), v7, v8] ∧ IsNm z ∧
      H D = some (.lst (zs.map V.str)) ∧ PotAt H a (c + 1 + 13 * i + 13) ∧ Step [a] H1 H) ?_ ?_
    · have e4 := s4.at1 h5 aD.symm
      walk_at "go"
      refine g_tcut (fun b H => (b = true → 0 < way ∧ zs ≠ []) ∧ H D = some (.lst (zs.map V.str)) ∧ PotAt H a (c + 1 + 13 * i + 10) ∧ Step [a] H1 H) ?_ ?_
      · walk_at "go"
        refine g_ite (fun hw => ?_) (fun hw => ?_)
        · walk_at "go"
          intro l H5 hl s5 e5
          refine g_neC (cL cS) (rLS_of (s5.at0 e4)) (rLS_of (xs := []) e5) (fun x hx => (h3 x hx).ok) (by intro x hx; cases hx) ?_
          walk_at "go"
          exact ⟨fun hb => ⟨hw, by simpa using hb⟩, s5.at0 e4, p4.step0 s5, (h7.trans s4).trans s5.up⟩
        · exact ⟨fun hb => (nomatch hb), e4, p4, h7.trans s4⟩
      · rintro b H5 ⟨hb, e5, p5, s5⟩
        refine g_iteB (fun hb1 => ?_) (fun hb1 => ?_)
        · obtain ⟨hw, hz⟩ := hb hb1
          have hz0 : 0 < zs.length := List.length_pos_iff.mpr hz
          walk_at "go"
          rw [List.length_map]
          refine go_pick p5 (by omega) (by omega) (by omega) fun r1 H6 r10 r11 s6 p6 => ?_
          have e6 := s6.at1 e5 aD.symm
          obtain ⟨old, ho, eo⟩ := at_in (xs := zs) r10 r11
          have n2 := h3 old (List.mem_of_getElem? ho)
          refine g_ixL e6 (at_int r10 (by rw [List.getElem?_map, ho]; rfl)) ?_
          walk_at "go"
          refine g_lenSt (leLine (by have := n2.hi; omega)) ?_
          have n3 := n2.lo
          have n4 := n2.hi
          walk_at "go"
          refine go_pick p6 (by omega) (by omega) (by omega) fun r2 H7 r20 r21 s7 p7 => ?_
          walk_at "go"
          refine g_slS (leLine (by omega)) ?_
          walk_at "go"
          refine go_pick p7 (by decide) (by decide) (by omega) fun r3 H8 r30 r31 s8 p8 => ?_
          obtain ⟨ch, hch, ech⟩ := letter_at r30 r31
          refine g_ixS letters_line ech ?_
          have l1 := len_cut_le old none (some r2)
          refine g_addS (leLine (by rw [len_one]; omega)) ?_
          walk_at "go"
          refine g_slS (leLine (by omega)) ?_
          have l2 := len_cut_le old (some (r2 + 2 - way)) none
          refine g_addS (leLine (by rw [len_add, len_one]; omega)) ?_
          walk_at "go"
          refine g_slS (leLine (by rw [len_add, len_add, len_one]; omega)) ?_
          exact ⟨_, _, _, rfl, nm_turn n2 hch rfl, s8.at1 (s7.at1 e6 aD.symm) aD.symm, p8.mono (by omega), ((s5.trans s6).trans s7).trans s8⟩
        · walk_at "go"
          exact ⟨_, _, _, rfl, n1, e5, p5.mono (by omega), s5⟩
    · rintro σ H5 ⟨z, v7, v8, rfl, nz, e5, p5, s5⟩
      walk_at "go"
      refine g_notInS e5 ?_
      walk_at "go"
      refine g_iteN (fun hz => ?_) (fun hz => ?_)
      · walk_at "go"
        refine g_append e5 (ltLine (by rw [List.length_map]; omega)) fun H6 s6 e6 => ?_
        refine ⟨zs ++ [z], _, _, _, _, rfl, by simp; omega, nd_snoc h2 hz, fun y hy => ?_, by simp, by rw [e6, List.map_append]; rfl, (p5.step1 s6 aD).mono (by omega), s5.via s6 hD⟩
        rcases List.mem_append.mp hy with hy | hy
        · exact h3 y hy
        · rw [List.mem_singleton.mp hy]; exact nz
      · walk_at "go"
        exact ⟨zs, _, _, _, _, rfl, by omega, h2, h3, (fun _ q => by rw [q] at hz; cases hz), e5, p5.mono (by omega), s5⟩
  · rintro σ H3 ⟨zs, v5, v6, v7, v8, rfl, h1, h2, h3, h4, h5, h6, h7⟩
    walk_at "go"
    exact q D zs H3 (s1.fresh hD) (by omega) h2 h3 (fun z => h4 (by omega)) (s1.trans h7) h5 (h6.mono (by omega))
end

end My
namespace My
open PySem PySem.Spec PyProof.Rows L2
section
variable {P : Program} {w : World} {K : PySem.W.Frag} {mg : Str → Option Value} {base : Heap}
theorem ox_Taken (C : Ctx K mg) : HasX P w K mg base "Taken" ["name"] := by
  have T := ex_Taken C
  obtain ⟨fd, F⟩ := fn_Taken_init C
  refine ⟨⟨fd, ?_, F.bindsN fun _ _ _ _ _ _ us hl => match us, hl with | [_, _], _ => rfl⟩, T, gl_Taken C⟩
  refine F.ok (CX := CX0) sc_Taken_init (fun vs H Q E h => ?_) (fun cdv A outer s H vs Q E hr h => ?_)
  · obtain ⟨_, ws, rfl, l, _⟩ := h
    show ws.length + 1 = _
    rw [l]; rfl
  refine ⟨_, PSs.nox (pss_one (ps_ost (pv 0) (pv 1))), ?_⟩
  obtain ⟨a, ws, rfl, l, ha, q⟩ := h
  match ws, l with
  | [w0], _ =>
    walk_at "go"
    refine g_kOst1 T.ox (T.no _ (by decide)) ha fun dx H2 hd ne e1 e2 e3 => ?_
    exact q dx _ hd ne e1 e2 fun b h1 h2 => e3 b h1 h2
theorem ox_NoName (C : Ctx K mg) : HasX P w K mg base "NoName" ["name"] := by
  have T := ex_NoName C
  obtain ⟨fd, F⟩ := fn_NoName_init C
  refine ⟨⟨fd, ?_, F.bindsN fun _ _ _ _ _ _ us hl => match us, hl with | [_, _], _ => rfl⟩, T, gl_NoName C⟩
  refine F.ok (CX := CX0) sc_NoName_init (fun vs H Q E h => ?_) (fun cdv A outer s H vs Q E hr h => ?_)
  · obtain ⟨_, ws, rfl, l, _⟩ := h
    show ws.length + 1 = _
    rw [l]; rfl
  refine ⟨_, PSs.nox (pss_one (ps_ost (pv 0) (pv 1))), ?_⟩
  obtain ⟨a, ws, rfl, l, ha, q⟩ := h
  match ws, l with
  | [w0], _ =>
    walk_at "go"
    refine g_kOst1 T.ox (T.no _ (by decide)) ha fun dx H2 hd ne e1 e2 e3 => ?_
    exact q dx _ hd ne e1 e2 fun b h1 h2 => e3 b h1 h2
theorem ox_NoWeight (C : Ctx K mg) : HasX P w K mg base "NoWeight" ["weight"] := by
  have T := ex_NoWeight C
  obtain ⟨fd, F⟩ := fn_NoWeight_init C
  refine ⟨⟨fd, ?_, F.bindsN fun _ _ _ _ _ _ us hl => match us, hl with | [_, _], _ => rfl⟩, T, gl_NoWeight C⟩
  refine F.ok (CX := CX0) sc_NoWeight_init (fun vs H Q E h => ?_) (fun cdv A outer s H vs Q E hr h => ?_)
  · obtain ⟨_, ws, rfl, l, _⟩ := h
    show ws.length + 1 = _
    rw [l]; rfl
  refine ⟨_, PSs.nox (pss_one (ps_ost (pv 0) (pv 1))), ?_⟩
  obtain ⟨a, ws, rfl, l, ha, q⟩ := h
  match ws, l with
  | [w0], _ =>
    walk_at "go"
    refine g_kOst1 T.ox (T.no _ (by decide)) ha fun dx H2 hd ne e1 e2 e3 => ?_
    exact q dx _ hd ne e1 e2 fun b h1 h2 => e3 b h1 h2
theorem ox_NoText (C : Ctx K mg) : HasX P w K mg base "NoText" ["at"] := by
  have T := ex_NoText C
  obtain ⟨fd, F⟩ := fn_NoText_init C
  refine ⟨⟨fd, ?_, F.bindsN fun _ _ _ _ _ _ us hl => match us, hl with | [_, _], _ => rfl⟩, T, gl_NoText C⟩
  refine F.ok (CX := CX0) sc_NoText_init (fun vs H Q E h => ?_) (fun cdv A outer s H vs Q E hr h => ?_)
  · obtain ⟨_, ws, rfl, l, _⟩ := h
    show ws.length + 1 = _
    rw [l]; rfl
  refine ⟨_, PSs.nox (pss_one (ps_ost (pv 0) (pv 1))), ?_⟩
  obtain ⟨a, ws, rfl, l, ha, q⟩ := h
  match ws, l with
  | [w0], _ =>
    walk_at "go"
    refine g_kOst1 T.ox (T.no _ (by decide)) ha fun dx H2 hd ne e1 e2 e3 => ?_
    exact q dx _ hd ne e1 e2 fun b h1 h2 => e3 b h1 h2
end
def sp_is_whole : Sp := fun vs H Q _ => ∃ i : Int, vs = [.int i] ∧ Q (.bl true) H
def sp_is_name : Sp := fun vs H Q _ => ∃ z : Str, vs = [.str z] ∧ z.length ≤ 5000 ∧ ∀ H', Step [] H H' → Q (.bl (nmB z)) H'
def sp_need_name : Sp := fun vs H Q _ => ∃ z : Str, vs = [.str z] ∧ IsNm z ∧ ∀ H', Step [] H H' → Q .non H'
def sp_is_weight : Sp := fun vs H Q _ => ∃ i : Int, vs = [.int i] ∧ 0 ≤ i ∧ i ≤ 1000 ∧ Q (.bl true) H
def sp_is_figures : Sp := fun vs H Q _ => ∃ (z : Str) (m : Int), vs = [.str z, .int m] ∧ z.length ≤ 5000 ∧ ∀ H', Step [] H H' → Q (.bl (figB m z)) H'
theorem take_succ_map {α β : Type} {f : α → β} {l : List α} {i : Nat} {c : α} (h : l[i]? = some c) : (l.take i).map f ++ [f c] = (l.take (i + 1)).map f := by
  rw [List.take_add_one, h, List.map_append]; rfl
section
variable {P : Program} {w : World} {K : PySem.W.Frag} {mg : Str → Option Value} {base : Heap}
theorem ok_is_whole (C : Ctx K mg) : Has P w K mg base CX0 1 "is_whole" ["thing"] sp_is_whole := by
  obtain ⟨fd, F⟩ := fn_is_whole C
  refine ⟨⟨_, fd, ?_, gl_is_whole C, F.kp, F.bindsN fun _ _ _ _ _ _ us hl => match us, hl with | [_], _ => rfl⟩⟩
  refine F.ok (CX := CX0) sc_is_whole (fun vs H Q E h => ?_) (fun cdv A outer s H vs Q E hr h => ?_)
  · first | (obtain ⟨_, rfl, _⟩ := h; rfl; done) | (obtain ⟨_, _, rfl, _⟩ := h; rfl; done) | (obtain ⟨_, _, _, rfl, _⟩ := h; rfl; done) | (obtain ⟨_, _, _, _, rfl, _⟩ := h; rfl; done) | (obtain ⟨_, _, _, _, _, rfl, _⟩ := h; rfl; done) | (obtain ⟨_, _, _, _, _, _, rfl, _⟩ := h; rfl; done) | (obtain ⟨_, _, _, _, _, _, _, rfl, _⟩ := h; rfl; done) | (obtain ⟨_, _, _, _, _, _, _, _, rfl, _⟩ := h; rfl; done) | (obtain ⟨_, _, _, _, _, _, _, _, _, rfl, _⟩ := h; rfl; done) | (obtain ⟨_, _, _, _, _, _, _, _, _, _, rfl, _⟩ := h; rfl; done) | (obtain ⟨_, _, _, _, _, _, _, _, _, _, _, rfl, _⟩ := h; rfl; done) | (obtain ⟨_, _, _, _, _, _, _, _, _, _, _, _, rfl, _⟩ := h; rfl; done) | (rcases h with h | h <;> first | (obtain ⟨_, rfl, _⟩ := h; rfl; done) | (obtain ⟨_, _, rfl, _⟩ := h; rfl; done) | (obtain ⟨_, _, _, rfl, _⟩ := h; rfl; done) | (obtain ⟨_, _, _, _, rfl, _⟩ := h; rfl; done) | (obtain ⟨_, _, _, _, _, rfl, _⟩ := h; rfl; done) | (obtain ⟨_, _, _, _, _, _, rfl, _⟩ := h; rfl; done) | (obtain ⟨_, _, _, _, _, _, _, rfl, _⟩ := h; rfl; done) | (obtain ⟨_, _, _, _, _, _, _, _, rfl, _⟩ := h; rfl; done) | (obtain ⟨_, _, _, _, _, _, _, _, _, rfl, _⟩ := h; rfl; done) | (obtain ⟨_, _, _, _, _, _, _, _, _, _, rfl, _⟩ := h; rfl; done) | (obtain ⟨_, _, _, _, _, _, _, _, _, _, _, rfl, _⟩ := h; rfl; done) | (obtain ⟨_, _, _, _, _, _, _, _, _, _, _, _, rfl, _⟩ := h; rfl; done))
  have hu := hu_of hr
  refine ⟨_, PSs.nox (pss_one (ps_ret (pe_and (pe_callB call_isi (by rfl) (fr_isinstance C) (by decide +kernel) (pa_cons (pv 0) (pa_cons (pe_bltn (v := .ty "int") (by rfl) (fr_int C) (by decide +kernel) rfl) pa_nil))) (pe_one (pe_not (pe_callB call_isi (by rfl) (fr_isinstance C) (by decide +kernel) (pa_cons (pv 0) (pa_cons (pe_bltn (v := .ty "bool") (by rfl) (fr_bool C) (by decide +kernel) rfl) pa_nil)))))))), ?_⟩
  obtain ⟨i, rfl, q⟩ := h
  walk_at "go"
  refine g_isi (r := true) (.base (.int i)) (by decide +kernel) ?_
  refine g_kAnd (iteT ?_)
  walk_at "go"
  refine g_isi (r := false) (.base (.int i)) (by decide +kernel) ?_
  walk_at "go"
  exact q
theorem ok_is_name (C : Ctx K mg) : Has P w K mg base CX0 1 "is_name" ["thing"] sp_is_name := by
  obtain ⟨fd, F⟩ := fn_is_name C
  obtain ⟨t_LONGEST, m_LONGEST⟩ := ct_LONGEST C
  obtain ⟨t_LETTERS, m_LETTERS⟩ := ct_LETTERS C
  refine ⟨⟨_, fd, ?_, gl_is_name C, F.kp, F.bindsN fun _ _ _ _ _ _ us hl => match us, hl with | [_], _ => rfl⟩⟩
  refine F.ok (CX := CX0) sc_is_name (fun vs H Q E h => ?_) (fun cdv A outer s H vs Q E hr h => ?_)
  · first | (obtain ⟨_, rfl, _⟩ := h; rfl; done) | (obtain ⟨_, _, rfl, _⟩ := h; rfl; done) | (obtain ⟨_, _, _, rfl, _⟩ := h; rfl; done) | (obtain ⟨_, _, _, _, rfl, _⟩ := h; rfl; done) | (obtain ⟨_, _, _, _, _, rfl, _⟩ := h; rfl; done) | (obtain ⟨_, _, _, _, _, _, rfl, _⟩ := h; rfl; done) | (obtain ⟨_, _, _, _, _, _, _, rfl, _⟩ := h; rfl; done) | (obtain ⟨_, _, _, _, _, _, _, _, rfl, _⟩ := h; rfl; done) | (obtain ⟨_, _, _, _, _, _, _, _, _, rfl, _⟩ := h; rfl; done) | (obtain ⟨_, _, _, _, _, _, _, _, _, _, rfl, _⟩ := h; rfl; done) | (obtain ⟨_, _, _, _, _, _, _, _, _, _, _, rfl, _⟩ := h; rfl; done) | (obtain ⟨_, _, _, _, _, _, _, _, _, _, _, _, rfl, _⟩ := h; rfl; done) | (rcases h with h | h <;> first | (obtain ⟨_, rfl, _⟩ := h; rfl; done) | (obtain ⟨_, _, rfl, _⟩ := h; rfl; done) | (obtain ⟨_, _, _, rfl, _⟩ := h; rfl; done) | (obtain ⟨_, _, _, _, rfl, _⟩ := h; rfl; done) | (obtain ⟨_, _, _, _, _, rfl, _⟩ := h; rfl; done) | (obtain ⟨_, _, _, _, _, _, rfl, _⟩ := h; rfl; done) | (obtain ⟨_, _, _, _, _, _, _, rfl, _⟩ := h; rfl; done) | (obtain ⟨_, _, _, _, _, _, _, _, rfl, _⟩ := h; rfl; done) | (obtain ⟨_, _, _, _, _, _, _, _, _, rfl, _⟩ := h; rfl; done) | (obtain ⟨_, _, _, _, _, _, _, _, _, _, rfl, _⟩ := h; rfl; done) | (obtain ⟨_, _, _, _, _, _, _, _, _, _, _, rfl, _⟩ := h; rfl; done) | (obtain ⟨_, _, _, _, _, _, _, _, _, _, _, _, rfl, _⟩ := h; rfl; done))
  have hu := hu_of hr
  refine ⟨_, PSs.nox (pss_cons (ps_if (pt_cut (PW.pt (pw_or (pt_not (pt_val (pe_callB call_isi (by rfl) (fr_isinstance C) (by decide +kernel) (pa_cons (pv 0) (pa_cons (pe_bltn (v := .ty "str") (by rfl) (fr_str C) (by decide +kernel) rfl) pa_nil))))) (pw_or (pt_cmpR op_lt (pe_callB cr_lenSt (by rfl) (fr_len C) PySem.boot_len (pa_cons (pv 0) pa_nil)) pe_int (nomark _)) (pw_or1 (pt_cmpR op_gt (pe_callB cr_lenSt (by rfl) (fr_len C) PySem.boot_len (pa_cons (pv 0) pa_nil)) (pe_glob (v := .int 8) (by rfl) m_LONGEST ⟨_, rfl⟩) (nomark _))))))) (pss_one (ps_ret pe_bl)) pss_nil)
    (pss_one (ps_ret (pe_callB (cr_all rfl) (by rfl) (fr_all C) (by decide +kernel) (pa_cons (pe_lc (own := [("sign", 1)]) (g := (gName 1)) (tt := tYes) rfl sc_is_name.nd (pi_str (pv 0)) (blkOk_by (N := N_is_name) (sc := defScope s_is_name) (own := [("sign", 1)]) (by decide +kernel)) (fun _ _ _ _ _ => (pg_name (i := 1) sc_is_name.nd rfl (Or.inl rfl))) (fun _ _ _ _ _ => pts_nil) (fun _ _ _ _ _ => (pe_cmpR op_in_sign (pv 1) (pe_glob (v := .str "abcdefghijklmnopqrstuvwxyz") (by rfl) m_LETTERS ⟨_, rfl⟩) (by rfl)))) pa_nil))))), ?_⟩
  obtain ⟨z, rfl, hz, q⟩ := h
  walk_at "go"
  refine g_tcut (fun b H' => (b = true ↔ ¬ (1 ≤ z.length ∧ z.length ≤ 8)) ∧ H' = H) ?_ ?_
  · walk_at "go"
    refine g_isi (r := true) (.base (.str z)) (by decide +kernel) ?_
    walk_at "go"
    refine iteF ?_
    walk_at "go"
    refine g_lenSt (leLine (by omega)) ?_
    walk_at "go"
    refine g_ite (fun hb => ⟨?_, rfl⟩) (fun hb => ?_)
    · constructor
      · intro _; omega
      · intro _; rfl
    walk_at "go"
    refine g_lenSt (leLine (by omega)) ?_
    walk_at "go"
    exact ⟨by rw [decide_eq_true_eq]; omega, rfl⟩
  · rintro b H' ⟨hb, rfl⟩
    cases b with
    | true =>
      refine iteT ?_
      walk_at "go"
      have e : nmB z = false := by
        cases h : nmB z with
        | false => rfl
        | true =>
          have := nmB_iff.mp h
          exact absurd ⟨this.lo, this.hi⟩ (hb.mp rfl)
      rw [← e]
      exact q H' (Step.refl _ _)
    | false =>
      have hb : 1 ≤ z.length ∧ z.length ≤ 8 := Classical.byContradiction fun h => absurd (hb.mpr h) (by decide)
      refine iteF ?_
      walk_at "go"
      refine wLc_str fun D H2 hD s2 e2 => ?_
      refine ⟨fun i G => G D = some (.lst ((((cs z).take i).map lowB).map V.bl)) ∧ Step [] H' G, ⟨e2, s2⟩, ?_, ?_⟩
      · rintro i c H3 hc ⟨g1, g2⟩
        walk_at "go"
        have hi : i < z.cps.size := (Array.getElem?_eq_some_iff.mp hc).1
        have hm : (cs z)[i]? = some c := by
          show z.cps.toList[i]? = some c
          simpa using hc
        have hsz : z.cps.size = z.length := rfl
        refine ⟨c, _, rfl, rfl, ?_⟩
        have ed : decide (c ∈ cs ("abcdefghijklmnopqrstuvwxyz" : Str)) = lowB c := letters_dec
        have ed2 : decide (c ∈ ("abcdefghijklmnopqrstuvwxyz" : Str).cps.toList) = lowB c := ed
        rw [ed2]
        refine g_kEl g1 (ltLine (by rw [List.length_map, List.length_map, List.length_take]; omega)) fun H4 s4 e4 => ⟨?_, g2.via s4 hD⟩
        rw [e4, ← List.map_singleton, ← List.map_append, take_succ_map hm]
      · rintro H3 ⟨g1, g2⟩
        walk_at "go"
        refine g_all g1 ?_
        have e : (((cs z).take z.cps.size).map lowB).all id = nmB z := by
          rw [List.take_of_length_le (by rw [cs_len]; exact Nat.le_refl _), List.all_map]
          unfold nmB
          rw [decide_eq_true hb.1, decide_eq_true hb.2, Bool.true_and, Bool.true_and]
          rfl
        rw [e]
        exact q H3 g2
theorem ok_need_name (C : Ctx K mg) : Has P w K mg base CX0 3 "need_name" ["name"] sp_need_name := by
  obtain ⟨fd, F⟩ := fn_need_name C
  obtain ⟨f_is_name, fd_is_name, G_is_name, mg_is_name, kp_is_name, b_is_name⟩ := (ok_is_name (P := P) (w := w) (base := base) C).ex
  have X_NoName := ox_NoName (P := P) (w := w) (base := base) C
  obtain ⟨fd_NoName_init, G_NoName_init, b_NoName_init⟩ := X_NoName.ex
  refine ⟨⟨_, fd, ?_, gl_need_name C, F.kp, F.bindsN fun _ _ _ _ _ _ us hl => match us, hl with | [_], _ => rfl⟩⟩
  refine F.ok (CX := CX0) sc_need_name (fun vs H Q E h => ?_) (fun cdv A outer s H vs Q E hr h => ?_)
  · first | (obtain ⟨_, rfl, _⟩ := h; rfl; done) | (obtain ⟨_, _, rfl, _⟩ := h; rfl; done) | (obtain ⟨_, _, _, rfl, _⟩ := h; rfl; done) | (obtain ⟨_, _, _, _, rfl, _⟩ := h; rfl; done) | (obtain ⟨_, _, _, _, _, rfl, _⟩ := h; rfl; done) | (obtain ⟨_, _, _, _, _, _, rfl, _⟩ := h; rfl; done) | (obtain ⟨_, _, _, _, _, _, _, rfl, _⟩ := h; rfl; done) | (obtain ⟨_, _, _, _, _, _, _, _, rfl, _⟩ := h; rfl; done) | (obtain ⟨_, _, _, _, _, _, _, _, _, rfl, _⟩ := h; rfl; done) | (obtain ⟨_, _, _, _, _, _, _, _, _, _, rfl, _⟩ := h; rfl; done) | (obtain ⟨_, _, _, _, _, _, _, _, _, _, _, rfl, _⟩ := h; rfl; done) | (obtain ⟨_, _, _, _, _, _, _, _, _, _, _, _, rfl, _⟩ := h; rfl; done) | (rcases h with h | h <;> first | (obtain ⟨_, rfl, _⟩ := h; rfl; done) | (obtain ⟨_, _, rfl, _⟩ := h; rfl; done) | (obtain ⟨_, _, _, rfl, _⟩ := h; rfl; done) | (obtain ⟨_, _, _, _, rfl, _⟩ := h; rfl; done) | (obtain ⟨_, _, _, _, _, rfl, _⟩ := h; rfl; done) | (obtain ⟨_, _, _, _, _, _, rfl, _⟩ := h; rfl; done) | (obtain ⟨_, _, _, _, _, _, _, rfl, _⟩ := h; rfl; done) | (obtain ⟨_, _, _, _, _, _, _, _, rfl, _⟩ := h; rfl; done) | (obtain ⟨_, _, _, _, _, _, _, _, _, rfl, _⟩ := h; rfl; done) | (obtain ⟨_, _, _, _, _, _, _, _, _, _, rfl, _⟩ := h; rfl; done) | (obtain ⟨_, _, _, _, _, _, _, _, _, _, _, rfl, _⟩ := h; rfl; done) | (obtain ⟨_, _, _, _, _, _, _, _, _, _, _, _, rfl, _⟩ := h; rfl; done))
  have hu := hu_of hr
  refine ⟨_, PSs.nox (pss_one (ps_if (pt_not (pt_val (pe_call G_is_name (hr.mono (by decide)) rfl mg_is_name kp_is_name b_is_name .nil pass0 (pa_cons (pv 0) pa_nil)))) (pss_one (ps_raise rfl takes0 (pmk_oex X_NoName.tx.ox X_NoName.tx.ini X_NoName.tx.tI G_NoName_init (hr.mono (by decide)) b_NoName_init .nil pass0 rfl X_NoName.mg (pa_cons (pv 0) pa_nil)))) pss_nil)), ?_⟩
  obtain ⟨z, rfl, hz, q⟩ := h
  walk_at "go"
  refine ⟨z, rfl, by have := hz.hi; omega, fun H' s1 => ?_⟩
  rw [nmB_iff.mpr hz]
  walk_at "go"
  refine iteF ?_
  walk_at "go"
  exact q H' s1
theorem ok_is_weight (C : Ctx K mg) : Has P w K mg base CX0 2 "is_weight" ["thing"] sp_is_weight := by
  obtain ⟨fd, F⟩ := fn_is_weight C
  obtain ⟨f_is_whole, fd_is_whole, G_is_whole, mg_is_whole, kp_is_whole, b_is_whole⟩ := (ok_is_whole (P := P) (w := w) (base := base) C).ex
  obtain ⟨t_HEAVIEST, m_HEAVIEST⟩ := ct_HEAVIEST C
  refine ⟨⟨_, fd, ?_, gl_is_weight C, F.kp, F.bindsN fun _ _ _ _ _ _ us hl => match us, hl with | [_], _ => rfl⟩⟩
  refine F.ok (CX := CX0) sc_is_weight (fun vs H Q E h => ?_) (fun cdv A outer s H vs Q E hr h => ?_)
  · first | (obtain ⟨_, rfl, _⟩ := h; rfl; done) | (obtain ⟨_, _, rfl, _⟩ := h; rfl; done) | (obtain ⟨_, _, _, rfl, _⟩ := h; rfl; done) | (obtain ⟨_, _, _, _, rfl, _⟩ := h; rfl; done) | (obtain ⟨_, _, _, _, _, rfl, _⟩ := h; rfl; done) | (obtain ⟨_, _, _, _, _, _, rfl, _⟩ := h; rfl; done) | (obtain ⟨_, _, _, _, _, _, _, rfl, _⟩ := h; rfl; done) | (obtain ⟨_, _, _, _, _, _, _, _, rfl, _⟩ := h; rfl; done) | (obtain ⟨_, _, _, _, _, _, _, _, _, rfl, _⟩ := h; rfl; done) | (obtain ⟨_, _, _, _, _, _, _, _, _, _, rfl, _⟩ := h; rfl; done) | (obtain ⟨_, _, _, _, _, _, _, _, _, _, _, rfl, _⟩ := h; rfl; done) | (obtain ⟨_, _, _, _, _, _, _, _, _, _, _, _, rfl, _⟩ := h; rfl; done) | (rcases h with h | h <;> first | (obtain ⟨_, rfl, _⟩ := h; rfl; done) | (obtain ⟨_, _, rfl, _⟩ := h; rfl; done) | (obtain ⟨_, _, _, rfl, _⟩ := h; rfl; done) | (obtain ⟨_, _, _, _, rfl, _⟩ := h; rfl; done) | (obtain ⟨_, _, _, _, _, rfl, _⟩ := h; rfl; done) | (obtain ⟨_, _, _, _, _, _, rfl, _⟩ := h; rfl; done) | (obtain ⟨_, _, _, _, _, _, _, rfl, _⟩ := h; rfl; done) | (obtain ⟨_, _, _, _, _, _, _, _, rfl, _⟩ := h; rfl; done) | (obtain ⟨_, _, _, _, _, _, _, _, _, rfl, _⟩ := h; rfl; done) | (obtain ⟨_, _, _, _, _, _, _, _, _, _, rfl, _⟩ := h; rfl; done) | (obtain ⟨_, _, _, _, _, _, _, _, _, _, _, rfl, _⟩ := h; rfl; done) | (obtain ⟨_, _, _, _, _, _, _, _, _, _, _, _, rfl, _⟩ := h; rfl; done))
  have hu := hu_of hr
  refine ⟨_, PSs.nox (pss_one (ps_ret (pe_and (pe_call G_is_whole (hr.mono (by decide)) rfl mg_is_whole kp_is_whole b_is_whole .nil pass0 (pa_cons (pv 0) pa_nil)) (pe_one (pe_chain op_le op_le pe_int (pv 0) (pe_glob (v := .int 1000) (by rfl) m_HEAVIEST ⟨_, rfl⟩)))))), ?_⟩
  obtain ⟨i, rfl, h0, h1, q⟩ := h
  walk_at "go"
  refine ⟨i, rfl, ?_⟩
  refine g_kAnd (iteT ?_)
  walk_at "go"
  rw [decide_eq_true h0]
  refine iteT ?_
  walk_at "go"
  rw [decide_eq_true h1]
  exact q
theorem ok_is_figures (C : Ctx K mg) : Has P w K mg base CX0 1 "is_figures" ["word", "most"] sp_is_figures := by
  obtain ⟨fd, F⟩ := fn_is_figures C
  obtain ⟨t_FIGURES, m_FIGURES⟩ := ct_FIGURES C
  refine ⟨⟨_, fd, ?_, gl_is_figures C, F.kp, F.bindsN fun _ _ _ _ _ _ us hl => match us, hl with | [_, _], _ => rfl⟩⟩
  refine F.ok (CX := CX0) sc_is_figures (fun vs H Q E h => ?_) (fun cdv A outer s H vs Q E hr h => ?_)
  · first | (obtain ⟨_, rfl, _⟩ := h; rfl; done) | (obtain ⟨_, _, rfl, _⟩ := h; rfl; done) | (obtain ⟨_, _, _, rfl, _⟩ := h; rfl; done) | (obtain ⟨_, _, _, _, rfl, _⟩ := h; rfl; done) | (obtain ⟨_, _, _, _, _, rfl, _⟩ := h; rfl; done) | (obtain ⟨_, _, _, _, _, _, rfl, _⟩ := h; rfl; done) | (obtain ⟨_, _, _, _, _, _, _, rfl, _⟩ := h; rfl; done) | (obtain ⟨_, _, _, _, _, _, _, _, rfl, _⟩ := h; rfl; done) | (obtain ⟨_, _, _, _, _, _, _, _, _, rfl, _⟩ := h; rfl; done) | (obtain ⟨_, _, _, _, _, _, _, _, _, _, rfl, _⟩ := h; rfl; done) | (obtain ⟨_, _, _, _, _, _, _, _, _, _, _, rfl, _⟩ := h; rfl; done) | (obtain ⟨_, _, _, _, _, _, _, _, _, _, _, _, rfl, _⟩ := h; rfl; done) | (rcases h with h | h <;> first | (obtain ⟨_, rfl, _⟩ := h; rfl; done) | (obtain ⟨_, _, rfl, _⟩ := h; rfl; done) | (obtain ⟨_, _, _, rfl, _⟩ := h; rfl; done) | (obtain ⟨_, _, _, _, rfl, _⟩ := h; rfl; done) | (obtain ⟨_, _, _, _, _, rfl, _⟩ := h; rfl; done) | (obtain ⟨_, _, _, _, _, _, rfl, _⟩ := h; rfl; done) | (obtain ⟨_, _, _, _, _, _, _, rfl, _⟩ := h; rfl; done) | (obtain ⟨_, _, _, _, _, _, _, _, rfl, _⟩ := h; rfl; done) | (obtain ⟨_, _, _, _, _, _, _, _, _, rfl, _⟩ := h; rfl; done) | (obtain ⟨_, _, _, _, _, _, _, _, _, _, rfl, _⟩ := h; rfl; done) | (obtain ⟨_, _, _, _, _, _, _, _, _, _, _, rfl, _⟩ := h; rfl; done) | (obtain ⟨_, _, _, _, _, _, _, _, _, _, _, _, rfl, _⟩ := h; rfl; done))
  have hu := hu_of hr
  refine ⟨_, PSs.nox (pss_cons (ps_if (pt_cut (PW.pt (pw_or (pt_cmpR op_eq (pv 0) pe_str (nomark _)) (pw_or (pt_cmpR op_gt (pe_callB cr_lenSt (by rfl) (fr_len C) PySem.boot_len (pa_cons (pv 0) pa_nil)) (pv 1) (nomark _)) (pw_or1 (pt_val (pe_callB (cr_any rfl) (by rfl) (fr_any C) (by decide +kernel) (pa_cons (pe_lc (own := [("sign", 2)]) (g := (gName 2)) (tt := tYes) rfl sc_is_figures.nd (pi_str (pv 0)) (blkOk_by (N := N_is_figures) (sc := defScope s_is_figures) (own := [("sign", 2)]) (by decide +kernel)) (fun _ _ _ _ _ => (pg_name (i := 2) sc_is_figures.nd rfl (Or.inl rfl))) (fun _ _ _ _ _ => pts_nil) (fun _ _ _ _ _ => (pe_cmpR op_notIn_sign (pv 2) (pe_glob (v := .str "0123456789") (by rfl) m_FIGURES ⟨_, rfl⟩) (by rfl)))) pa_nil)))))))) (pss_one (ps_ret pe_bl)) pss_nil)
    (pss_one (ps_ret (pe_or (pe_cmpR op_eq (pv 0) pe_str (nomark _)) (pe_one (pe_cmpR op_ne (pe_ix ix_str (pv 0) pe_int (fun _ _ => rfl)) pe_str (nomark _))))))), ?_⟩
  obtain ⟨z, m, rfl, hz, q⟩ := h
  walk_at "go"
  refine g_tcut (fun b H' => (b = true ↔ ¬ (z ≠ "" ∧ (z.length : Int) ≤ m ∧ (cs z).all digB = true)) ∧ Step [] H H') ?_ ?_
  · walk_at "go"
    refine g_ite (fun hb => ⟨?_, Step.refl _ _⟩) (fun hb => ?_)
    · constructor
      · intro _ h; exact h.1 hb
      · intro _; rfl
    walk_at "go"
    refine g_lenSt (leLine (by omega)) ?_
    walk_at "go"
    refine g_ite (fun hb2 => ⟨?_, Step.refl _ _⟩) (fun hb2 => ?_)
    · constructor
      · intro _ h; omega
      · intro _; rfl
    walk_at "go"
    refine wLc_str fun D H2 hD s2 e2 => ?_
    refine ⟨fun i G => G D = some (.lst ((((cs z).take i).map fun c => !digB c).map V.bl)) ∧ Step [] H G, ⟨e2, s2⟩, ?_, ?_⟩
    · rintro i c H3 hc ⟨g1, g2⟩
      walk_at "go"
      have hi : i < z.cps.size := (Array.getElem?_eq_some_iff.mp hc).1
      have hm : (cs z)[i]? = some c := by
        show z.cps.toList[i]? = some c
        simpa using hc
      have hsz : z.cps.size = z.length := rfl
      refine ⟨c, _, rfl, rfl, ?_⟩
      have ed : decide (c ∈ cs ("0123456789" : Str)) = digB c := figures_dec
      have ed2 : decide (c ∈ ("0123456789" : Str).cps.toList) = digB c := ed
      rw [ed2]
      refine g_kEl g1 (ltLine (by rw [List.length_map, List.length_map, List.length_take]; omega)) fun H4 s4 e4 => ⟨?_, g2.via s4 hD⟩
      rw [e4, ← List.map_singleton, ← List.map_append, take_succ_map (f := fun c => !digB c) hm]
    · rintro H3 ⟨g1, g2⟩
      walk_at "go"
      refine g_any g1 ?_
      walk_at "go"
      refine ⟨?_, g2⟩
      rw [List.take_of_length_le (by rw [cs_len]; exact Nat.le_refl _), List.any_map]
      have e : (cs z).any (id ∘ fun c => !digB c) = !(cs z).all digB := by
        rw [List.not_all_eq_any_not]; rfl
      rw [e, Bool.not_eq_true']
      constructor
      · intro h1 h2; rw [h2.2.2] at h1; cases h1
      · intro h1
        cases h2 : (cs z).all digB with
        | false => rfl
        | true => exact absurd ⟨hb, by omega, h2⟩ h1
  · rintro b H' ⟨hb, s1⟩
    cases b with
    | true =>
      refine iteT ?_
      walk_at "go"
      have e : figB m z = false := by
        cases h : figB m z with
        | false => rfl
        | true =>
          unfold figB at h
          simp only [Bool.and_eq_true, Bool.not_eq_true', decide_eq_false_iff_not, decide_eq_true_eq] at h
          exact absurd ⟨h.1, h.2.1, h.2.2.1⟩ (hb.mp rfl)
      rw [← e]
      exact q H' s1
    | false =>
      have hb : z ≠ "" ∧ (z.length : Int) ≤ m ∧ (cs z).all digB = true := Classical.byContradiction fun h => absurd (hb.mpr h) (by decide)
      refine iteF ?_
      walk_at "go"
      have e0 : figB m z = (decide (z = "0") || !decide ((cs z).head? = some 48)) := by
        unfold figB
        rw [decide_eq_false hb.1, decide_eq_true hb.2.1, hb.2.2]
        simp
      refine g_ite (fun h0 => ?_) (fun h0 => ?_)
      · rw [decide_eq_true h0, Bool.true_or] at e0
        rw [← e0]
        exact q H' s1
      · walk_at "go"
        rw [decide_eq_false h0, Bool.false_or] at e0
        obtain ⟨c, cl, ec⟩ : ∃ c cl, cs z = c :: cl := by
          cases h : cs z with
          | nil => exact absurd (show z = "" from TL.ext_tl h) hb.1
          | cons c cl => exact ⟨c, cl, rfl⟩
        have e1 : atI z.cps.toList 0 = some c := by
          have : z.cps.toList = c :: cl := ec
          rw [this]; exact at_nat (k := 0) rfl
        refine g_ixS (leLine (by omega)) e1 ?_
        walk_at "go"
        have e2 : (!decide ((⟨#[c]⟩ : Str) = "0")) = figB m z := by
          rw [e0, ec]
          congr 1
          have : ((⟨#[c]⟩ : Str) = "0") ↔ ((c :: cl).head? = some 48) := by
            have e0 : ("0" : Str) = ⟨#[48]⟩ := by decide +kernel
            rw [e0]
            simp
          exact decide_eq_decide.mpr this
        rw [e2]
        exact q H' s1
end

end My
namespace My
open PySem PySem.Spec PyProof.Rows L2
/-! towns' rows, mixed lists, tickets -/
abbrev Row := Str × Str × Int
abbrev rRow : Rp Row := rP3 rS rS rI
theorem mRow : Mono rRow := mP3 mS mS mI
structure RowOk (r : Row) : Prop where
  nm : IsNm r.1
  zn : IsNm r.2.1
  w0 : 0 ≤ r.2.2
  w1 : r.2.2 ≤ 1000
def sp_w_houses : Sp := fun vs H Q _ => ∃ (a : Addr) (n : Int) (c : Nat), vs = [.ref a, .int n] ∧ 0 ≤ n ∧ n ≤ 30 ∧ PotAt H a c ∧ c < 2 ^ 57 ∧
  ∀ D (rows : List Row) H', H D = none → (rows.length : Int) ≤ n → (rows.map (·.1)).Nodup → (∀ r ∈ rows, RowOk r) → Step [a] H H' → rL rRow (hide [a] H') (.ref D) rows → PotAt H' a (c + 1000) → Q (.ref D) H'
def sp_w_mixed : Sp := fun vs H Q _ => ∃ (a l : Addr) (xs : List V) (c : Nat), vs = [.ref a, .ref l] ∧ H l = some (.lst xs) ∧ xs.length ≤ 1000 ∧ PotAt H a c ∧ c < 2 ^ 58 ∧
  ∀ D (ys : List V) H', H D = none → ys.Perm xs → Step [a] H H' → H' D = some (.lst ys) → PotAt H' a (c + xs.length) → Q (.ref D) H'
theorem at3 {x0 x1 x2 j : Int} (h0 : 0 ≤ j) (h1 : j < 3) : ∃ m : Int, (m = x0 ∨ m = x1 ∨ m = x2) ∧ atI [V.int x0, V.int x1, V.int x2] j = some (.int m) := by
  have : j = 0 ∨ j = 1 ∨ j = 2 := by omega
  rcases this with rfl | rfl | rfl
  · exact ⟨x0, by simp, rfl⟩
  · exact ⟨x1, by simp, rfl⟩
  · exact ⟨x2, by simp, rfl⟩
section
variable {P : Program} {w : World} {K : PySem.W.Frag} {mg : Str → Option Value} {base : Heap}
theorem ok_w_mixed (C : Ctx K mg) : Has P w K mg base CX0 2 "_law_mixed" ["pot", "some"] sp_w_mixed := by
  obtain ⟨fd, F⟩ := fn_w_mixed C
  obtain ⟨f_w_pick, fd_w_pick, G_w_pick, mg_w_pick, kp_w_pick, b_w_pick⟩ := (ok_w_pick (P := P) (w := w) (base := base) C).ex
  refine ⟨⟨_, fd, ?_, gl_w_mixed C, F.kp, F.bindsN fun _ _ _ _ _ _ us hl => match us, hl with | [_, _], _ => rfl⟩⟩
  refine F.ok (CX := CX0) sc_w_mixed (fun vs H Q E h => ?_) (fun cdv A outer s H vs Q E hr h => ?_)
  · first | (obtain ⟨_, rfl, _⟩ := h; rfl; done) | (obtain ⟨_, _, rfl, _⟩ := h; rfl; done) | (obtain ⟨_, _, _, rfl, _⟩ := h; rfl; done) | (obtain ⟨_, _, _, _, rfl, _⟩ := h; rfl; done) | (obtain ⟨_, _, _, _, _, rfl, _⟩ := h; rfl; done) | (obtain ⟨_, _, _, _, _, _, rfl, _⟩ := h; rfl; done) | (obtain ⟨_, _, _, _, _, _, _, rfl, _⟩ := h; rfl; done) | (obtain ⟨_, _, _, _, _, _, _, _, rfl, _⟩ := h; rfl; done) | (obtain ⟨_, _, _, _, _, _, _, _, _, rfl, _⟩ := h; rfl; done) | (obtain ⟨_, _, _, _, _, _, _, _, _, _, rfl, _⟩ := h; rfl; done) | (obtain ⟨_, _, _, _, _, _, _, _, _, _, _, rfl, _⟩ := h; rfl; done) | (obtain ⟨_, _, _, _, _, _, _, _, _, _, _, _, rfl, _⟩ := h; rfl; done) | (rcases h with h | h <;> first | (obtain ⟨_, rfl, _⟩ := h; rfl; done) | (obtain ⟨_, _, rfl, _⟩ := h; rfl; done) | (obtain ⟨_, _, _, rfl, _⟩ := h; rfl; done) | (obtain ⟨_, _, _, _, rfl, _⟩ := h; rfl; done) | (obtain ⟨_, _, _, _, _, rfl, _⟩ := h; rfl; done) | (obtain ⟨_, _, _, _, _, _, rfl, _⟩ := h; rfl; done) | (obtain ⟨_, _, _, _, _, _, _, rfl, _⟩ := h; rfl; done) | (obtain ⟨_, _, _, _, _, _, _, _, rfl, _⟩ := h; rfl; done) | (obtain ⟨_, _, _, _, _, _, _, _, _, rfl, _⟩ := h; rfl; done) | (obtain ⟨_, _, _, _, _, _, _, _, _, _, rfl, _⟩ := h; rfl; done) | (obtain ⟨_, _, _, _, _, _, _, _, _, _, _, rfl, _⟩ := h; rfl; done) | (obtain ⟨_, _, _, _, _, _, _, _, _, _, _, _, rfl, _⟩ := h; rfl; done))
  have hu := hu_of hr
  refine ⟨_, PSs.nox (pss_cons (ps_set (i := 2) sc_w_mixed.nd rfl (Or.inr rfl) (pe_callTy cr_listL (by rfl) (fr_list C) (by decide +kernel) (pa_cons (pv 1) pa_nil)))
    (pss_one (ps_ret (pe_lc (own := [("k", 3)]) (g := (gName 3)) (tt := tYes) rfl sc_w_mixed.nd (pi_range1 rfl (fr_range C) (pa_cons (pe_callB cr_lenL (by rfl) (fr_len C) PySem.boot_len (pa_cons (pv 1) pa_nil)) pa_nil)) (blkOk_by (N := N_w_mixed) (sc := defScope s_w_mixed) (own := [("k", 3)]) (by decide +kernel)) (fun _ _ _ _ _ => (pg_name (i := 3) sc_w_mixed.nd rfl (Or.inl rfl))) (fun _ _ _ _ _ => pts_nil) (fun _ _ _ _ _ => (pe_bmK (K := K) (pe_bm PySem.F.plainAttrs_list PySem.F.slot_list_pop PySem.F.type_list_pop mt_popAt (pv 2) (pa_cons (pe_call G_w_pick (hr.mono (by decide)) rfl mg_w_pick kp_w_pick b_w_pick .nil pass0 (pa_cons (pv 0) (pa_cons (pe_callB (kCall (K := K) (r := rLenL) cr_lenL) (by rfl) (fr_len C) PySem.boot_len (pa_cons (pv 2) pa_nil)) pa_nil))) pa_nil)))))))), ?_⟩
  obtain ⟨a, l, xs, c, rfl, hl, hz, hp, hc, q⟩ := h
  walk_at "go"
  refine g_listL hl fun lf H1 hlf s1 e1 => ?_
  have alf : a ≠ lf := hp.ne hlf
  walk_at "go"
  have l1 := s1.at0 hl
  walk_at "go"
  refine g_kRng1 (by omega) (by omega) ?_
  refine wLc_rng fun D H2 hD s2 e2 => ?_
  have p1 := hp.step0 s1
  have aD : a ≠ D := p1.ne hD
  have lD : lf ≠ D := ne_of_none e1 hD
  refine ⟨fun i H => ∃ ys zs : List V, H D = some (.lst ys) ∧ H lf = some (.lst zs) ∧ (ys ++ zs).Perm xs ∧ ys.length = i ∧ PotAt H a (c + i) ∧ Step [a, lf] H1 H, ⟨[], xs, e2, s2.at0 e1, List.Perm.refl _, rfl, p1.step0 s2, s2.up⟩, ?_, ?_⟩
  · rintro i H3 hi ⟨ys, zs, h1, h2, h3, h4, h5, h6⟩
    have hlen := h3.length_eq
    rw [List.length_append] at hlen
    have hi : i < xs.length := by omega
    walk_at "go"
    refine go_pick h5 (by omega) (by omega) (by omega) fun r H4 r0 r1 s4 p4 => ?_
    have lt : r.toNat < zs.length := by omega
    refine g_popAt (k := r.toNat) (s4.at1 h2 alf.symm) (by omega) (by omega) (seqIx_in r0 r1) (List.getElem?_eq_getElem lt) fun H5 s5 e5 => ?_
    have d5 := s5.at1 (s4.at1 h1 aD.symm) lD.symm
    refine g_kEl d5 (ltLine (by omega)) fun H6 s6 e6 => ?_
    refine ⟨_, _, e6, s6.at1 e5 lD, ?_, by simp [h4], ((p4.step1 s5 alf).step1 s6 aD).mono (by omega), ((h6.trans (s4.sub1 _ (by simp))).trans (s5.sub1 _ (by simp))).via s6 hD⟩
    refine List.Perm.trans ?_ h3
    rw [List.append_assoc]
    exact List.Perm.append_left _ (erase_perm lt)
  · rintro H3 ⟨ys, zs, h1, h2, h3, h4, h5, h6⟩
    have hlen := h3.length_eq
    rw [List.length_append] at hlen
    have hz0 : zs = [] := List.length_eq_zero_iff.mp (by omega)
    rw [hz0, List.append_nil] at h3
    exact q D ys H3 (s1.fresh hD) h3 ((s1.up.trans h6).drop2 hlf) h1 (h5.mono (by omega))
end
section
variable {P : Program} {w : World} {K : PySem.W.Frag} {mg : Str → Option Value} {base : Heap}
end

end My
namespace My
open PySem PySem.Spec PyProof.Rows L2
/-! towns -/
abbrev rSI : Rp (Str × Int) := rP2 rS rI
theorem mSI : Mono rSI := mP2 mS mI
def TownAt (K : PySem.W.Frag) (H : Hp) (t : Addr) (rows : List Row) : Prop := ∃ dx d : Addr, H t = some (.ins (He.ga K "Town") dx [("by_name", .ref d)]) ∧ rDS rSI H (.ref d) rows
theorem TownAt.le {K : PySem.W.Frag} {H H' : Hp} {t : Addr} {rows : List Row} (h : TownAt K H t rows) (e : Le H H') : TownAt K H' t rows := by
  obtain ⟨dx, d, h1, h2⟩ := h
  exact ⟨dx, d, e _ _ h1, mDS mSI _ _ _ _ e h2⟩
def sp_Town_init (K : PySem.W.Frag) : Sp := fun vs H Q _ => ∃ (t R dx : Addr) (rows : List Row), vs = [.ref t, .ref R] ∧ H t = some (.ins (He.ga K "Town") dx []) ∧ rL rRow H (.ref R) rows ∧ (∀ r ∈ rows, RowOk r) ∧ (rows.map (·.1)).Nodup ∧ rows.length ≤ 60 ∧
  ∀ (zs : List Row) H', zs.Perm rows → sortedS (zs.map (·.1)) = true → Step [t] H H' → TownAt K H' t zs → Q .non H'
def sp_Town_listed (K : PySem.W.Frag) : Sp := fun vs H Q _ => ∃ (t : Addr) (rows : List Row), vs = [.ref t] ∧ TownAt K H t rows ∧ rows.length ≤ 60 ∧
  ∀ l H', H l = none → Step [] H H' → rL rRow H' (.ref l) rows → Q (.ref l) H'
def cSI {K : PySem.W.Frag} : Cod K rSI := cP2 cS cI
section
variable {P : Program} {w : World} {K : PySem.W.Frag} {mg : Str → Option Value} {base : Heap}
theorem ok_Town_init (C : Ctx K mg) : HasMk P w K mg base CX0 4 "Town" ["self", "rows"] (sp_Town_init K) := by
  obtain ⟨fd, F⟩ := fn_Town_init C
  obtain ⟨f_need_name, fd_need_name, G_need_name, mg_need_name, kp_need_name, b_need_name⟩ := (ok_need_name (P := P) (w := w) (base := base) C).ex
  obtain ⟨f_is_weight, fd_is_weight, G_is_weight, mg_is_weight, kp_is_weight, b_is_weight⟩ := (ok_is_weight (P := P) (w := w) (base := base) C).ex
  have X_NoWeight := ox_NoWeight (P := P) (w := w) (base := base) C
  obtain ⟨fd_NoWeight_init, G_NoWeight_init, b_NoWeight_init⟩ := X_NoWeight.ex
  have X_Taken := ox_Taken (P := P) (w := w) (base := base) C
  obtain ⟨fd_Taken_init, G_Taken_init, b_Taken_init⟩ := X_Taken.ex
  refine ⟨⟨fd, ?_, binds_full F (by simp [d_Town_init, He.DefD.dvs]) fun _ _ _ _ _ _ _ us its hl hi => match us, hl, its, hi with | [_, _], _, [_], _ => ⟨_, rfl, rfl⟩⟩⟩
  refine F.ok (CX := CX0) sc_Town_init (fun vs H Q E h => ?_) (fun cdv A outer s H vs Q E hr h => ?_)
  · first | (obtain ⟨_, rfl, _⟩ := h; rfl) | (obtain ⟨_, _, rfl, _⟩ := h; rfl) | (obtain ⟨_, _, _, rfl, _⟩ := h; rfl) | (obtain ⟨_, _, _, _, rfl, _⟩ := h; rfl) | (obtain ⟨_, _, _, _, _, rfl, _⟩ := h; rfl) | (obtain ⟨_, _, _, _, _, _, rfl, _⟩ := h; rfl) | (obtain ⟨_, _, _, _, _, _, _, rfl, _⟩ := h; rfl) | (obtain ⟨_, _, _, _, _, _, _, _, rfl, _⟩ := h; rfl) | (obtain ⟨_, _, _, _, _, _, _, _, _, rfl, _⟩ := h; rfl) | (obtain ⟨_, _, _, _, _, _, _, _, _, _, rfl, _⟩ := h; rfl) | (obtain ⟨_, _, _, _, _, _, _, _, _, _, _, rfl, _⟩ := h; rfl) | (obtain ⟨_, _, _, _, _, _, _, _, _, _, _, _, rfl, _⟩ := h; rfl)
  have hu := hu_of hr
  refine ⟨_, PSs.nox (pss_cons (ps_set (i := 2) sc_Town_init.nd rfl (Or.inr rfl) pe_dnewK)
    (pss_cons (ps_for PassesOwn.never rfl (pi_list (pv 1)) (pg_tup rfl (pgs_cons (pg_name (i := 3) sc_Town_init.nd rfl (Or.inl rfl)) (pgs_cons (pg_name (i := 4) sc_Town_init.nd rfl (Or.inl rfl)) (pgs_cons (pg_name (i := 5) sc_Town_init.nd rfl (Or.inl rfl)) pgs_nil))))
    (pss_cons (ps_expr (pe_call G_need_name (hr.mono (by decide)) rfl mg_need_name kp_need_name b_need_name .nil pass0 (pa_cons (pv 3) pa_nil)))
    (pss_cons (ps_expr (pe_call G_need_name (hr.mono (by decide)) rfl mg_need_name kp_need_name b_need_name .nil pass0 (pa_cons (pv 4) pa_nil)))
    (pss_cons (ps_if (pt_not (pt_val (pe_call G_is_weight (hr.mono (by decide)) rfl mg_is_weight kp_is_weight b_is_weight .nil pass0 (pa_cons (pv 5) pa_nil)))) (pss_one (ps_raise rfl takes0 (pmk_oex X_NoWeight.tx.ox X_NoWeight.tx.ini X_NoWeight.tx.tI G_NoWeight_init (hr.mono (by decide)) b_NoWeight_init .nil pass0 rfl X_NoWeight.mg (pa_cons (pv 5) pa_nil)))) pss_nil)
    (pss_cons (ps_if (pt_cmp (pc_din hu (pv 3) (pv 2))) (pss_one (ps_raise rfl takes0 (pmk_oex X_Taken.tx.ox X_Taken.tx.ini X_Taken.tx.tI G_Taken_init (hr.mono (by decide)) b_Taken_init .nil pass0 rfl X_Taken.mg (pa_cons (pv 3) pa_nil)))) pss_nil)
    (pss_one (ps_dput hu (pv 2) (pv 3) (pe_tup (pa_cons (pv 4) (pa_cons (pv 5) pa_nil))) rfl)))))))
    (pss_one (ps_fld (pv 0) (pe_dc (own := [("name", 3)]) (g := (gName 3)) (tt := tYes) rfl sc_Town_init.nd (pi_list (pe_callB (cr_sortedDS rfl) (by rfl) (fr_sorted C) (by decide +kernel) (pa_cons (pv 2) pa_nil))) (blkOk_by (N := N_Town_init) (sc := defScope s_Town_init) (own := [("name", 3)]) (by decide +kernel)) (fun _ _ _ _ _ => (pg_name (i := 3) sc_Town_init.nd rfl (Or.inl rfl))) (fun _ _ _ _ _ => pts_nil) (fun _ _ _ _ _ => (pv 3)) (fun _ _ _ _ _ => (pe_dget hu (pv 2) (pv 3) (fun _ _ => rfl)))) rfl)))), ?_⟩
  obtain ⟨t, R, dx, rows, rfl, ht, hR, okr, nr, lr, q⟩ := h
  obtain ⟨_, rvs, ⟨⟩, hR1, hRp⟩ := id hR
  have tR : t ≠ R := fun e => by rw [e, hR1] at ht; cases ht
  walk_at "go"
  refine g_dnewK fun F1 H1 hF s1 e1 => ?_
  have tF : t ≠ F1 := ne_of_none ht hF
  walk_at "go"
  refine g_kList (s1.at0 hR1) (wFor_list (xs := rvs) (fun i σ H' => ∃ (kvs : List (Key × V)) (v3 v4 v5 : Option V), σ = [some (.ref t), some (.ref R), some (.ref F1), v3, v4, v5] ∧ H' F1 = some (.dK kvs) ∧
      Paired (fun (p : Key × V) (x : Row) => p.1 = Sum.inr x.1 ∧ rSI (hide [t, F1] H') p.2 x.2) kvs (rows.take i) ∧ Step [] H H') ⟨[], _, _, _, rfl, e1, .nil, s1⟩ ?_ ?_ ?_)
  · rintro i σ H2 _ ⟨kvs, v3, v4, v5, rfl, g1, g2, g3⟩
    exact g3.at0 hR1
  · rintro i x σ H2 hx ⟨kvs, v3, v4, v5, rfl, g1, g2, g3⟩
    obtain ⟨⟨nm, zn, hv⟩, hz, hr⟩ := P_get hRp hx
    obtain ⟨T, _, _, _, rfl, hT, rfl, rfl, rfl⟩ := hr
    dsimp only at hT
    have ok := okr _ (List.mem_of_getElem? hz)
    have hi : i < rows.length := (List.getElem?_eq_some_iff.mp hz).1
    refine g_tup3 (g3.at0 hT) ?_
    walk_at "go"
    refine ⟨nm, rfl, ok.nm, fun H3 s3 => ?_⟩
    walk_at "go"
    refine ⟨zn, rfl, ok.zn, fun H4 s4 => ?_⟩
    walk_at "go"
    refine ⟨hv, rfl, ok.w0, ok.w1, ?_⟩
    walk_at "go"
    refine iteF ?_
    have S4 := g3.trans (s3.trans s4)
    have d4 := s4.at0 (s3.at0 g1)
    walk_at "go"
    refine g_kDInS (.inl d4) ?_
    have hnew : nm ∉ (rows.take i).map (·.1) := fun hm => by
      rw [List.map_take] at hm
      obtain ⟨j, hj, ej⟩ := List.mem_iff_getElem.mp hm
      rw [List.length_take] at hj
      rw [List.getElem_take] at ej
      have e1 : (rows.map (·.1))[j]? = some nm := by rw [List.getElem?_eq_getElem (by omega), ej]
      have e2 : (rows.map (·.1))[i]? = some nm := by rw [List.getElem?_map, hz]; rfl
      have := nd_ix nr e1 e2
      omega
    have hv0 := dsNew g2 hnew
    rw [hv0]
    walk_at "go"
    refine iteF ?_
    walk_at "go"
    intro T2 H5 hT2 s5 e5
    walk_at "go"
    have d5 := s5.at0 d4
    have T2F : T2 ≠ F1 := fun e => by rw [e, d5] at e5; cases e5
    have T2t : T2 ≠ t := (ne_of_none (S4.at0 ht) hT2).symm
    have lk : kvs.length = i := by rw [P_len g2, List.length_take]; omega
    refine g_kDPutS d5 (ltLine (by omega)) fun H6 s6 e6 => ?_
    rw [putK_new _ hv0] at e6
    have hle : Le (hide [t, F1] H2) (hide [t, F1] H6) := (s3.hid0.trans (s4.hid0.trans s5.hid0)).trans (s6.hid (by simp))
    refine ⟨_, _, _, _, rfl, e6, ?_, (S4.trans s5).via s6 hF⟩
    rw [List.take_add_one, hz]
    exact P_snoc ⟨rfl, T2, _, _, rfl, hide_at (s6.at1 e5 T2F) (by simp [T2F, T2t]), rfl, rfl⟩ (Pmap g2 fun p x r => ⟨r.1, mSI _ _ _ _ hle r.2⟩)
  · rintro σ H2 ⟨kvs, v3, v4, v5, rfl, g1, g2, g3⟩
    rw [P_len hRp, List.take_length] at g2
    walk_at "go"
    refine g_sortedDS (.inl g1) (dsKeys g2) (by rw [List.length_map]; omega) fun ys L H3 hp hs hL s3 e3 => ?_
    walk_at "go"
    obtain ⟨zs, hzp, rfl⟩ := perm_map hp
    refine wDc_list (xs := (zs.map (·.1)).map V.str) fun D H4 hD s4 e4 => ?_
    have S3 := g3.trans s3
    have Dt : D ≠ t := (ne_of_none (S3.at0 ht) hD).symm
    have DF : D ≠ F1 := (ne_of_none (s3.at0 g1) hD).symm
    have DL : D ≠ L := (ne_of_none e3 hD).symm
    refine ⟨fun i H' => ∃ kvs', H' D = some (.dK kvs') ∧ Paired (fun (p : Key × V) (x : Row) => p.1 = Sum.inr x.1 ∧ rSI (hide [t, D] H') p.2 x.2) kvs' (zs.take i) ∧ Step [] H3 H', ⟨[], e4, .nil, s4⟩, ?_, ?_, ?_⟩
    · rintro i H5 _ ⟨kvs', g4, g5, g6⟩
      exact g6.at0 e3
    · rintro i x H5 hx ⟨kvs', g4, g5, g6⟩
      rw [List.map_map, List.getElem?_map, Option.map_eq_some_iff] at hx
      obtain ⟨⟨nm, zn, hv⟩, hz, rfl⟩ := hx
      have hi : i < zs.length := (List.getElem?_eq_some_iff.mp hz).1
      have hl := hzp.length_eq
      walk_at "go"
      obtain ⟨u, hu, ru⟩ := dsAt g2 nr (hzp.mem_iff.mp (List.mem_of_getElem? hz))
      refine g_kDGetS (.inl (g6.at0 (s3.at0 g1))) hu ?_
      have lk : kvs'.length = i := by rw [P_len g5, List.length_take]; omega
      refine g_kElDS g4 (ltLine (by omega)) fun H6 s6 e6 => ?_
      have nz : (zs.map (·.1)).Nodup := (hzp.map (·.1)).nodup_iff.mpr nr
      have hnew : nm ∉ (zs.take i).map (·.1) := fun hm => by
        rw [List.map_take] at hm
        obtain ⟨j, hj, ej⟩ := List.mem_iff_getElem.mp hm
        rw [List.length_take] at hj
        rw [List.getElem_take] at ej
        have e1 : (zs.map (·.1))[j]? = some nm := by rw [List.getElem?_eq_getElem (by omega), ej]
        have e2 : (zs.map (·.1))[i]? = some nm := by rw [List.getElem?_map, hz]; rfl
        have := nd_ix nz e1 e2
        omega
      rw [putK_new _ (dsNew g5 hnew)] at e6
      refine ⟨_, e6, ?_, g6.via s6 hD⟩
      rw [List.take_add_one, hz]
      have hle : Le (hide [t, D] H5) (hide [t, D] H6) := s6.hid (by simp)
      refine P_snoc ⟨rfl, mSI _ _ _ _ (fun b o h => ?_) ru⟩ (Pmap g5 fun p x r => ⟨r.1, mSI _ _ _ _ hle r.2⟩)
      have h1 := hide_le _ _ h
      have h2 : b ∉ [t, F1] := fun z => by rw [hide_in z] at h; cases h
      have h3 := (s3.trans g6).at0 h1
      have bD : b ≠ D := ne_of_none (s3.at0 h1) hD
      refine hide_at (s6.at1 h3 bD) ?_
      simp only [List.mem_cons, List.not_mem_nil, or_false, not_or] at h2 ⊢
      exact ⟨h2.1, bD⟩
    · rintro H5 ⟨kvs', g4, g5, g6⟩
      rw [List.map_map, List.length_map, List.take_length] at g5
      have S5 := S3.trans g6
      walk_at "go"
      refine g_kFldS (S5.at0 ht) (cl_Town C) (na_Town_by_name C) (by decide) fun H6 s6 e6 => ?_
      refine q zs H6 hzp hs (S5.up.trans s6) ⟨dx, D, e6, D, kvs', rfl, s6.at1 g4 Dt, Pmap g5 fun p x r => ⟨r.1, mSI _ _ _ _ (fun b o h => ?_) r.2⟩⟩
      have h1 := hide_le _ _ h
      have h2 : b ∉ [t, D] := fun z => by rw [hide_in z] at h; cases h
      exact s6.at1 h1 (by simp only [List.mem_cons, List.not_mem_nil, or_false, not_or] at h2; exact h2.1)
theorem ok_Town_listed (C : Ctx K mg) : HasM P w K mg base CX0 1 "Town" "listed" ["self"] (sp_Town_listed K) := by
  obtain ⟨fd, F⟩ := fn_Town_listed C
  refine ⟨⟨fd, ?_, F.bindsN fun _ _ _ _ _ _ us hl => match us, hl with | [_], _ => rfl⟩⟩
  refine F.ok (CX := CX0) sc_Town_listed (fun vs H Q E h => ?_) (fun cdv A outer s H vs Q E hr h => ?_)
  · first | (obtain ⟨_, rfl, _⟩ := h; rfl) | (obtain ⟨_, _, rfl, _⟩ := h; rfl) | (obtain ⟨_, _, _, rfl, _⟩ := h; rfl) | (obtain ⟨_, _, _, _, rfl, _⟩ := h; rfl) | (obtain ⟨_, _, _, _, _, rfl, _⟩ := h; rfl) | (obtain ⟨_, _, _, _, _, _, rfl, _⟩ := h; rfl) | (obtain ⟨_, _, _, _, _, _, _, rfl, _⟩ := h; rfl) | (obtain ⟨_, _, _, _, _, _, _, _, rfl, _⟩ := h; rfl) | (obtain ⟨_, _, _, _, _, _, _, _, _, rfl, _⟩ := h; rfl) | (obtain ⟨_, _, _, _, _, _, _, _, _, _, rfl, _⟩ := h; rfl) | (obtain ⟨_, _, _, _, _, _, _, _, _, _, _, rfl, _⟩ := h; rfl) | (obtain ⟨_, _, _, _, _, _, _, _, _, _, _, _, rfl, _⟩ := h; rfl)
  have hu := hu_of hr
  refine ⟨_, PSs.nox (pss_one (ps_ret (pe_lock (pe_lc (own := [("name", 1), ("where", 2), ("heavy", 3)]) (g := (gTup K 2 (gCons (gName 1) (gCons (gTup K 2 (gCons (gName 2) (gCons (gName 3) gNil))) gNil)))) (tt := tYes) rfl sc_Town_listed.nd (pi_items (pe_fld (pv 0) rfl)) (blkOk_by (N := N_Town_listed) (sc := defScope s_Town_listed) (own := [("name", 1), ("where", 2), ("heavy", 3)]) (by decide +kernel)) (fun _ _ _ _ _ => (pg_tup rfl (pgs_cons (pg_name (i := 1) sc_Town_listed.nd rfl (Or.inl rfl)) (pgs_cons (pg_tup rfl (pgs_cons (pg_name (i := 2) sc_Town_listed.nd rfl (Or.inl rfl)) (pgs_cons (pg_name (i := 3) sc_Town_listed.nd rfl (Or.inl rfl)) pgs_nil))) pgs_nil)))) (fun _ _ _ _ _ => pts_nil) (fun _ _ _ _ _ => (pe_tup (pa_cons (pv 1) (pa_cons (pv 2) (pa_cons (pv 3) pa_nil))))))))), ?_⟩
  obtain ⟨t, rows, rfl, ⟨dx, d, ht, hd⟩, hl, q⟩ := h
  obtain ⟨_, kvs, ⟨⟩, hd1, hdp⟩ := id hd
  have td : t ≠ d := fun e => by rw [e, hd1] at ht; cases ht
  walk_at "go"
  refine g_lockE hd1 fun od H1 s1 e1 => ?_
  walk_at "go"
  refine g_kFld (s1.at1 ht td) (cl_Town C) (na_Town_by_name C) rfl ?_
  refine g_kItems e1 (wLc_itemsN fun D H2 hD s2 e2 => ?_)
  have dD : d ≠ D := ne_of_none e1 hD
  refine ⟨fun i H' => ∃ vs, H' D = some (.lst vs) ∧ Paired (rRow (hide [d, D] H')) vs (rows.take i) ∧ H' d = some (.frz od (.dK kvs)) ∧ Step [d] H H', ⟨[], e2, .nil, s2.at0 e1, s1.trans s2.up⟩, ?_, ?_, ?_⟩
  · rintro i H3 _ ⟨vs, g1, g2, g3, g4⟩
    exact g3
  · rintro i p H3 H4 T hx ⟨vs, g1, g2, g3, g4⟩ hT s4
    obtain ⟨⟨nm, zn, hv⟩, hz, hk, hr⟩ := P_get hdp hx
    have hk : p.1 = Sum.inr nm := hk
    obtain ⟨U, _, _, eU, hU, rfl, rfl⟩ := hr
    have hi : i < rows.length := (List.getElem?_eq_some_iff.mp hz).1
    have Ud : U ≠ d := fun e => by rw [e, hd1] at hU; cases hU
    refine ⟨U, _, _, eU, (g4.trans s4.up).at1 hU Ud, ?_⟩
    rw [hk]
    walk_at "go"
    intro T2 H5 hT2 s5 e5
    have dD4 := s5.at0 (s4.at0 g1)
    have T2D : T2 ≠ D := fun e => by rw [e, dD4] at e5; cases e5
    have T2d : T2 ≠ d := (ne_of_none (s4.at0 g3) hT2).symm
    have lk : vs.length = i := by rw [P_len g2, List.length_take]; omega
    refine g_kEl dD4 (ltLine (by omega)) fun H6 s6 e6 => ?_
    have hle : Le (hide [d, D] H3) (hide [d, D] H6) := (s4.hid0.trans s5.hid0).trans (s6.hid (by simp))
    refine ⟨_, e6, ?_, s6.at1 (s5.at0 (s4.at0 g3)) dD, ((g4.trans s4.up).trans s5.up).via s6 (s1.fresh hD)⟩
    rw [List.take_add_one, hz]
    exact P_snoc ⟨T2, _, _, _, rfl, hide_at (s6.at1 e5 T2D) (by simp [T2D, T2d]), rfl, rfl, rfl⟩ (Pmap g2 fun v x r => mRow _ _ _ _ hle r)
  · rintro H5 ⟨vs, g1, g2, g3, g4⟩
    rw [P_len hdp, List.take_length] at g2
    refine g_lkV g3 fun H6 s6 e6 => ?_
    have S6 : Step [] H H6 := (g4.trans s6).back fun o e => by rw [hd1] at e; cases e; exact e6
    refine q D H6 (s1.fresh hD) S6 ⟨D, vs, rfl, s6.at1 g1 dD.symm, Pmap g2 fun v x r => mRow _ _ _ _ (fun b o h => ?_) r⟩
    have h1 := hide_le _ _ h
    have h2 : b ∉ [d, D] := fun z => by rw [hide_in z] at h; cases h
    exact s6.at1 h1 (by simp only [List.mem_cons, List.not_mem_nil, or_false, not_or] at h2; exact h2.1)
end

end My
namespace My
open PySem PySem.Spec PyProof.Rows L2
/-! texts written -/
abbrev Tb := List (Int × List Str)
abbrev rTb : Rp Tb := rDI (rL rS)
structure TkOk (p : Int × List Str) : Prop where
  t0 : 0 ≤ p.1
  t1 : p.1 < 10 ^ 9
  nd : p.2.Nodup
  nm : ∀ z ∈ p.2, IsNm z
  l0 : 1 ≤ p.2.length
  l1 : p.2.length ≤ 10
structure TbOk (xs : Tb) : Prop where
  nd : (xs.map (·.1)).Nodup
  nm : ∀ p ∈ xs, TkOk p
  len : xs.length ≤ 50
def srt (l : List Int) : List Int := l.mergeSort fun a b => decide (a ≤ b)
theorem eq_srt : ∀ {l1 l2 : List Int}, l1.Perm l2 → l1.Pairwise (· ≤ ·) → l2.Pairwise (· ≤ ·) → l1 = l2 := fun h h1 h2 => h.eq_of_pairwise (fun a b _ _ h3 h4 => Int.le_antisymm h3 h4) h1 h2
theorem srt_perm (l : List Int) : (srt l).Perm l := List.mergeSort_perm _ _
theorem srt_sorted (l : List Int) : (srt l).Pairwise (· ≤ ·) := by
  have h := List.pairwise_mergeSort (le := fun a b : Int => decide (a ≤ b)) (fun a b c h1 h2 => by simp only [decide_eq_true_eq] at *; omega) (fun a b => by simp only [Bool.or_eq_true, decide_eq_true_eq]; omega) l
  exact h.imp fun h => of_decide_eq_true h
theorem is_srt {l ks : List Int} (h : ks.Perm l) (hs : ks.Pairwise (· ≤ ·)) : ks = srt l := eq_srt (h.trans (srt_perm l).symm) hs (srt_sorted l)
def homesOf (xs : Tb) (k : Int) : List Str := (lookI xs k).getD []
def tableS (xs : Tb) : Str := Txt.join " " ((srt (xs.map (·.1))).map fun k => tickS (k, homesOf xs k))
def sp_show_town (K : PySem.W.Frag) : Sp := fun vs H Q _ => ∃ (t : Addr) (rows : List Row), vs = [.ref t] ∧ TownAt K H t rows ∧ rows.length ≤ 60 ∧ (∀ r ∈ rows, RowOk r) ∧ ∀ H', Step [] H H' → Q (.str (townS rows)) H'
def sp_show_table : Sp := fun vs H Q _ => ∃ (S : Addr) (xs : Tb), vs = [.ref S] ∧ rTb H (.ref S) xs ∧ TbOk xs ∧ ∀ H', Step [] H H' → Q (.str (tableS xs)) H'
theorem wordS_len {r : Row} (ok : RowOk r) : (wordS r).length ≤ 22 := by
  have h1 := ok.nm.hi
  have h2 := ok.zn.hi
  have h3 := numS_len (k := 4) (by decide) ok.w0 (by have := ok.w1; omega)
  unfold wordS
  rw [len_app, len_app, len_app, len_app, l_at, l_star]
  omega
theorem homes_len {hs : List Str} (nm : ∀ z ∈ hs, IsNm z) (l1 : hs.length ≤ 10) : (Txt.join "," hs).length ≤ 90 := by
  have := join_len (y := ",") (B := 8) (ss := hs) (by rw [l_comma]; exact Nat.le_refl _) fun z hz => (nm z hz).hi
  omega
theorem tickS_len {p : Int × List Str} (ok : TkOk p) : (tickS p).length ≤ 100 := by
  have h1 := numS_len (k := 9) (by decide) ok.t0 ok.t1
  have h2 := homes_len ok.nm ok.l1
  unfold tickS
  rw [len_app, len_app, l_colon]
  omega
section
variable {P : Program} {w : World} {K : PySem.W.Frag} {mg : Str → Option Value} {base : Heap}
theorem ok_show_town (C : Ctx K mg) : Has P w K mg base CX0 3 "show_town" ["town"] (sp_show_town K) := by
  obtain ⟨fd, F⟩ := fn_show_town C
  obtain ⟨fd_mt_Town_listed, G_mt_Town_listed, b_mt_Town_listed⟩ := (ok_Town_listed (P := P) (w := w) (base := base) C).ex
  refine ⟨⟨_, fd, ?_, gl_show_town C, F.kp, F.bindsN fun _ _ _ _ _ _ us hl => match us, hl with | [_], _ => rfl⟩⟩
  refine F.ok (CX := CX0) sc_show_town (fun vs H Q E h => ?_) (fun cdv A outer s H vs Q E hr h => ?_)
  · first | (obtain ⟨_, rfl, _⟩ := h; rfl; done) | (obtain ⟨_, _, rfl, _⟩ := h; rfl; done) | (obtain ⟨_, _, _, rfl, _⟩ := h; rfl; done) | (obtain ⟨_, _, _, _, rfl, _⟩ := h; rfl; done) | (obtain ⟨_, _, _, _, _, rfl, _⟩ := h; rfl; done) | (obtain ⟨_, _, _, _, _, _, rfl, _⟩ := h; rfl; done) | (obtain ⟨_, _, _, _, _, _, _, rfl, _⟩ := h; rfl; done) | (obtain ⟨_, _, _, _, _, _, _, _, rfl, _⟩ := h; rfl; done) | (obtain ⟨_, _, _, _, _, _, _, _, _, rfl, _⟩ := h; rfl; done) | (obtain ⟨_, _, _, _, _, _, _, _, _, _, rfl, _⟩ := h; rfl; done) | (obtain ⟨_, _, _, _, _, _, _, _, _, _, _, rfl, _⟩ := h; rfl; done) | (obtain ⟨_, _, _, _, _, _, _, _, _, _, _, _, rfl, _⟩ := h; rfl; done) | (rcases h with h | h <;> first | (obtain ⟨_, rfl, _⟩ := h; rfl; done) | (obtain ⟨_, _, rfl, _⟩ := h; rfl; done) | (obtain ⟨_, _, _, rfl, _⟩ := h; rfl; done) | (obtain ⟨_, _, _, _, rfl, _⟩ := h; rfl; done) | (obtain ⟨_, _, _, _, _, rfl, _⟩ := h; rfl; done) | (obtain ⟨_, _, _, _, _, _, rfl, _⟩ := h; rfl; done) | (obtain ⟨_, _, _, _, _, _, _, rfl, _⟩ := h; rfl; done) | (obtain ⟨_, _, _, _, _, _, _, _, rfl, _⟩ := h; rfl; done) | (obtain ⟨_, _, _, _, _, _, _, _, _, rfl, _⟩ := h; rfl; done) | (obtain ⟨_, _, _, _, _, _, _, _, _, _, rfl, _⟩ := h; rfl; done) | (obtain ⟨_, _, _, _, _, _, _, _, _, _, _, rfl, _⟩ := h; rfl; done) | (obtain ⟨_, _, _, _, _, _, _, _, _, _, _, _, rfl, _⟩ := h; rfl; done))
  have hu := hu_of hr
  refine ⟨_, PSs.nox (pss_one (ps_ret (pe_joinR pe_str (pe_lc (own := [("name", 1), ("where", 2), ("heavy", 3)]) (g := (gTup K 3 (gCons (gName 1) (gCons (gName 2) (gCons (gName 3) gNil))))) (tt := tYes) rfl sc_show_town.nd (pi_list (pe_meth0 (pv 0) (cl_Town C) (mt_Town_listed C) G_mt_Town_listed (hr.mono (by decide)) b_mt_Town_listed .nil pass0)) (blkOk_by (N := N_show_town) (sc := defScope s_show_town) (own := [("name", 1), ("where", 2), ("heavy", 3)]) (by decide +kernel)) (fun _ _ _ _ _ => (pg_tup rfl (pgs_cons (pg_name (i := 1) sc_show_town.nd rfl (Or.inl rfl)) (pgs_cons (pg_name (i := 2) sc_show_town.nd rfl (Or.inl rfl)) (pgs_cons (pg_name (i := 3) sc_show_town.nd rfl (Or.inl rfl)) pgs_nil))))) (fun _ _ _ _ _ => pts_nil) (fun _ _ _ _ _ => (pe_joined (PJ.cons (pe_fmt (pv 1)) (PJ.cons pe_str (PJ.cons (pe_fmt (pv 2)) (PJ.cons pe_str (PJ.cons (pe_fmt (pv 3)) PJ.nil))))))))))), ?_⟩
  obtain ⟨t, rows, rfl, ht, hl, ok, q⟩ := h
  obtain ⟨dx, d, ht1, hd⟩ := id ht
  walk_at "go"
  refine g_kMeth ht1 rfl ?_
  walk_at "go"
  refine ⟨t, rows, rfl, ht, hl, fun L H1 hL s1 hr1 => ?_⟩
  obtain ⟨_, vs, ⟨⟩, hL1, hLp⟩ := id hr1
  refine g_kList hL1 (wLc_list (xs := vs) fun D H2 hD s2 e2 => ?_)
  refine ⟨fun i H' => H' D = some (.lst (((rows.take i).map wordS).map V.str)) ∧ Step [] H1 H', ⟨e2, s2⟩, ?_, ?_, ?_⟩
  · rintro i H3 _ ⟨g1, g2⟩
    exact g2.at0 hL1
  · rintro i x H3 hx ⟨g1, g2⟩
    obtain ⟨⟨nm, zn, hv⟩, hz, T, _, _, _, rfl, hT, rfl, rfl, rfl⟩ := P_get hLp hx
    dsimp only at hT
    have o := ok _ (List.mem_of_getElem? hz)
    have h1 := o.nm.hi
    have h2 := o.zn.hi
    have h3 := numS_len (k := 4) (by decide) o.w0 (by have := o.w1; omega)
    have h4 := o.w0
    have h5 := o.w1
    dsimp only at h1 h2 h3 h4 h5
    refine g_tup3 (g2.at0 hT) ?_
    walk_at "go"
    refine g_kFmtS (leLine (by omega)) (g_kJs (leLine (by rw [len_app, l_empty]; omega)) ?_)
    walk_at "go"
    refine g_kJs (leLine (by rw [len_app, len_app, l_empty, l_at]; omega)) ?_
    walk_at "go"
    refine g_kFmtS (leLine (by omega)) (g_kJs (leLine (by rw [len_app, len_app, len_app, l_empty, l_at]; omega)) ?_)
    walk_at "go"
    refine g_kJs (leLine (by rw [len_app, len_app, len_app, len_app, l_empty, l_at, l_star]; omega)) ?_
    walk_at "go"
    refine g_kFmtI (log_small h4 (by omega)) ?_
    rw [tos h4]
    refine g_kJs (leLine (by rw [len_app, len_app, len_app, len_app, len_app, l_empty, l_at, l_star]; omega)) ?_
    walk_at "go"
    rw [empty_app]
    have lk : (rows.take i).length ≤ 60 := by rw [List.length_take]; omega
    refine g_kEl g1 (ltLine (by rw [List.length_map, List.length_map]; omega)) fun H4 s4 e4 => ⟨?_, g2.via s4 hD⟩
    rw [e4, List.take_add_one, hz, List.map_append, List.map_append]
    rfl
  · rintro H3 ⟨g1, g2⟩
    rw [P_len hLp, List.take_length] at g1
    refine g_join g1 ?_ ?_
    · have := sum_le (B := 22) (ss := rows.map wordS) fun s hs => by
        obtain ⟨r, hr, rfl⟩ := List.mem_map.mp hs
        exact wordS_len (ok r hr)
      rw [List.length_map] at this ⊢
      rw [l_blank]
      omega
    · exact q H3 (s1.trans g2)
theorem ok_show_table (C : Ctx K mg) : Has P w K mg base CX0 2 "show_table" ["table"] sp_show_table := by
  obtain ⟨fd, F⟩ := fn_show_table C
  refine ⟨⟨_, fd, ?_, gl_show_table C, F.kp, F.bindsN fun _ _ _ _ _ _ us hl => match us, hl with | [_], _ => rfl⟩⟩
  refine F.ok (CX := CX0) sc_show_table (fun vs H Q E h => ?_) (fun cdv A outer s H vs Q E hr h => ?_)
  · first | (obtain ⟨_, rfl, _⟩ := h; rfl; done) | (obtain ⟨_, _, rfl, _⟩ := h; rfl; done) | (obtain ⟨_, _, _, rfl, _⟩ := h; rfl; done) | (obtain ⟨_, _, _, _, rfl, _⟩ := h; rfl; done) | (obtain ⟨_, _, _, _, _, rfl, _⟩ := h; rfl; done) | (obtain ⟨_, _, _, _, _, _, rfl, _⟩ := h; rfl; done) | (obtain ⟨_, _, _, _, _, _, _, rfl, _⟩ := h; rfl; done) | (obtain ⟨_, _, _, _, _, _, _, _, rfl, _⟩ := h; rfl; done) | (obtain ⟨_, _, _, _, _, _, _, _, _, rfl, _⟩ := h; rfl; done) | (obtain ⟨_, _, _, _, _, _, _, _, _, _, rfl, _⟩ := h; rfl; done) | (obtain ⟨_, _, _, _, _, _, _, _, _, _, _, rfl, _⟩ := h; rfl; done) | (obtain ⟨_, _, _, _, _, _, _, _, _, _, _, _, rfl, _⟩ := h; rfl; done) | (rcases h with h | h <;> first | (obtain ⟨_, rfl, _⟩ := h; rfl; done) | (obtain ⟨_, _, rfl, _⟩ := h; rfl; done) | (obtain ⟨_, _, _, rfl, _⟩ := h; rfl; done) | (obtain ⟨_, _, _, _, rfl, _⟩ := h; rfl; done) | (obtain ⟨_, _, _, _, _, rfl, _⟩ := h; rfl; done) | (obtain ⟨_, _, _, _, _, _, rfl, _⟩ := h; rfl; done) | (obtain ⟨_, _, _, _, _, _, _, rfl, _⟩ := h; rfl; done) | (obtain ⟨_, _, _, _, _, _, _, _, rfl, _⟩ := h; rfl; done) | (obtain ⟨_, _, _, _, _, _, _, _, _, rfl, _⟩ := h; rfl; done) | (obtain ⟨_, _, _, _, _, _, _, _, _, _, rfl, _⟩ := h; rfl; done) | (obtain ⟨_, _, _, _, _, _, _, _, _, _, _, rfl, _⟩ := h; rfl; done) | (obtain ⟨_, _, _, _, _, _, _, _, _, _, _, _, rfl, _⟩ := h; rfl; done))
  have hu := hu_of hr
  refine ⟨_, PSs.nox (pss_one (ps_ret (pe_joinR pe_str (pe_lc (own := [("ticket", 1)]) (g := (gName 1)) (tt := tYes) rfl sc_show_table.nd (pi_list (pe_callB (cr_sortedDI rfl) (by rfl) (fr_sorted C) (by decide +kernel) (pa_cons (pv 0) pa_nil))) (blkOk_by (N := N_show_table) (sc := defScope s_show_table) (own := [("ticket", 1)]) (by decide +kernel)) (fun _ _ _ _ _ => (pg_name (i := 1) sc_show_table.nd rfl (Or.inl rfl))) (fun _ _ _ _ _ => pts_nil) (fun _ _ _ _ _ => (pe_op op_addS (pe_joined (PJ.cons (pe_fmt (pv 1)) (PJ.cons pe_str PJ.nil))) (pe_joinRK (K := K) (pe_joinR pe_str (pe_dget hu (pv 0) (pv 1) (fun _ _ => rfl)))))))))), ?_⟩
  obtain ⟨S, xs, rfl, hS, ok, q⟩ := h
  obtain ⟨_, kvs, ⟨⟩, hS1, hSp⟩ := id hS
  have hl := ok.len
  walk_at "go"
  refine g_sortedDI (.inl hS1) (kvs_keys hSp) (by rw [List.length_map]; omega) fun ks L H1 hp hs hL s1 e1 => ?_
  walk_at "go"
  have ek := is_srt hp hs
  have lk : ks.length = xs.length := by rw [hp.length_eq, List.length_map]
  refine wLc_list (xs := ks.map V.int) fun D H2 hD s2 e2 => ?_
  refine ⟨fun i H' => H' D = some (.lst (((ks.take i).map fun k => tickS (k, homesOf xs k)).map V.str)) ∧ Step [] H1 H', ⟨e2, s2⟩, ?_, ?_, ?_⟩
  · rintro i H3 _ ⟨g1, g2⟩
    exact g2.at0 e1
  · rintro i x H3 hx ⟨g1, g2⟩
    rw [List.getElem?_map, Option.map_eq_some_iff] at hx
    obtain ⟨k, hk, rfl⟩ := hx
    have hi : i < ks.length := (List.getElem?_eq_some_iff.mp hk).1
    have hm : k ∈ xs.map (·.1) := hp.mem_iff.mp (List.mem_of_getElem? hk)
    obtain ⟨⟨k', hs'⟩, hx, ekk⟩ := List.mem_map.mp hm
    have ekk : k' = k := ekk
    subst ekk
    have o := ok.nm _ hx
    have eh : homesOf xs k' = hs' := by unfold homesOf; rw [lookI_mem ok.nd hx]; rfl
    have h1 := numS_len (k := 9) (by decide) o.t0 o.t1
    have h2 := o.l1
    have t0 : 0 ≤ k' := o.t0
    have t1 : k' < 10 ^ 9 := o.t1
    dsimp only at h1 h2
    walk_at "go"
    refine g_kFmtI (log_small t0 (by omega)) ?_
    rw [tos t0]
    refine g_kJs (leLine (by rw [len_app, l_empty]; omega)) ?_
    walk_at "go"
    refine g_kJs (leLine (by rw [len_app, len_app, l_empty, l_colon]; omega)) ?_
    walk_at "go"
    rw [empty_app]
    rcases kvs_look (i := k') hSp with ⟨_, z⟩ | ⟨v, x', z1, z2, z3⟩
    · rw [lookI_mem ok.nd hx] at z; cases z
    rw [lookI_mem ok.nd hx] at z2
    cases z2
    obtain ⟨l, rfl, hl⟩ := rLS_at z3
    have S3 := s1.trans g2
    refine g_kDGet (.inl (S3.at0 hS1)) z1 ?_
    walk_at "go"
    have hj := homes_len o.nm o.l1
    dsimp only at hj
    refine g_join (S3.at0 hl) ?_ ?_
    · have := sum_le (B := 8) (ss := hs') fun s hs => (o.nm s hs).hi
      rw [l_comma]
      omega
    refine g_addS (leLine (by rw [len_app, l_colon]; omega)) ?_
    have lt : (ks.take i).length ≤ 50 := by rw [List.length_take]; omega
    refine g_kEl g1 (ltLine (by rw [List.length_map, List.length_map]; omega)) fun H4 s4 e4 => ⟨?_, g2.via s4 hD⟩
    rw [e4, List.take_add_one, hk, List.map_append, List.map_append]
    show _ = some (HO.lst (_ ++ [V.str (tickS (k', homesOf xs k'))]))
    rw [eh]
    rfl
  · rintro H3 ⟨g1, g2⟩
    rw [List.length_map, List.take_length, ek] at g1
    refine g_join g1 ?_ ?_
    · have := sum_le (B := 100) (ss := (srt (xs.map (·.1))).map fun k => tickS (k, homesOf xs k)) fun s hs => by
        obtain ⟨k, hk, rfl⟩ := List.mem_map.mp hs
        obtain ⟨p, hp, rfl⟩ := List.mem_map.mp ((srt_perm _).mem_iff.mp hk)
        have : homesOf xs p.1 = p.2 := by unfold homesOf; rw [lookI_mem ok.nd hp]; rfl
        rw [this]
        exact tickS_len (ok.nm p hp)
      rw [List.length_map, (srt_perm _).length_eq, List.length_map] at this ⊢
      rw [l_blank]
      omega
    · exact q H3 (s1.trans g2)
end

end My
namespace My
open PySem PySem.Spec PyProof.Rows L2
/-! words read -/
def sp_house_in (K : PySem.W.Frag) : Sp := fun vs H Q _ => ∃ z : Str, vs = [.str z] ∧ z.length ≤ 4000 ∧ (houseIn z = none → ∀ H', Step [] H H' → Q .non H') ∧ ∀ r T H', houseIn z = some r → H T = none → Step [] H H' → (∀ m : List Addr, (∀ a ∈ m, H a ≠ none) → rRow (hide m H') (.ref T) r) → Q (.ref T) H'
abbrev rTk : Rp (Int × List Str) := rP2 rI (rL rS)
def sp_ticket_in (K : PySem.W.Frag) : Sp := fun vs H Q _ => ∃ z : Str, vs = [.str z] ∧ z.length ≤ 4000 ∧ (ticketIn z = none → ∀ H', Step [] H H' → Q .non H') ∧ ∀ r T H', ticketIn z = some r → H T = none → Step [] H H' → (∀ m : List Addr, (∀ a ∈ m, H a ≠ none) → rTk (hide m H') (.ref T) r) → Q (.ref T) H'
def moveS (t p : Int) (o : Option Str) (to : Str) : Str := numS t ++ "/" ++ numS p ++ ":" ++ o.getD "-" ++ ">" ++ to
def sp_show_move : Sp := fun vs H Q _ => ∃ (T : Addr) (t p : Int) (o : Option Str) (to : Str), vs = [.ref T] ∧ H T = some (.tup [.int t, .int p, (match o with | none => V.non | some z => .str z), .str to]) ∧ 0 ≤ t ∧ t < 10 ^ 9 ∧ 0 ≤ p ∧ p < 10 ^ 9 ∧ (∀ z, o = some z → z.length ≤ 8) ∧ to.length ≤ 8 ∧ Q (.str (moveS t p o to)) H
theorem l_dash : ("-" : Str).length = 1 := by decide +kernel
section
variable {P : Program} {w : World} {K : PySem.W.Frag} {mg : Str → Option Value} {base : Heap}
theorem ok_house_in (C : Ctx K mg) : Has P w K mg base CX0 2 "house_in" ["word"] (sp_house_in K) := by
  obtain ⟨fd, F⟩ := fn_house_in C
  obtain ⟨f_is_figures, fd_is_figures, G_is_figures, mg_is_figures, kp_is_figures, b_is_figures⟩ := (ok_is_figures (P := P) (w := w) (base := base) C).ex
  obtain ⟨f_is_name, fd_is_name, G_is_name, mg_is_name, kp_is_name, b_is_name⟩ := (ok_is_name (P := P) (w := w) (base := base) C).ex
  obtain ⟨t_HEAVIEST, m_HEAVIEST⟩ := ct_HEAVIEST C
  refine ⟨⟨_, fd, ?_, gl_house_in C, F.kp, F.bindsN fun _ _ _ _ _ _ us hl => match us, hl with | [_], _ => rfl⟩⟩
  refine F.ok (CX := CX0) sc_house_in (fun vs H Q E h => ?_) (fun cdv A outer s H vs Q E hr h => ?_)
  · first | (obtain ⟨_, rfl, _⟩ := h; rfl; done) | (obtain ⟨_, _, rfl, _⟩ := h; rfl; done) | (obtain ⟨_, _, _, rfl, _⟩ := h; rfl; done) | (obtain ⟨_, _, _, _, rfl, _⟩ := h; rfl; done) | (obtain ⟨_, _, _, _, _, rfl, _⟩ := h; rfl; done) | (obtain ⟨_, _, _, _, _, _, rfl, _⟩ := h; rfl; done) | (obtain ⟨_, _, _, _, _, _, _, rfl, _⟩ := h; rfl; done) | (obtain ⟨_, _, _, _, _, _, _, _, rfl, _⟩ := h; rfl; done) | (obtain ⟨_, _, _, _, _, _, _, _, _, rfl, _⟩ := h; rfl; done) | (obtain ⟨_, _, _, _, _, _, _, _, _, _, rfl, _⟩ := h; rfl; done) | (obtain ⟨_, _, _, _, _, _, _, _, _, _, _, rfl, _⟩ := h; rfl; done) | (obtain ⟨_, _, _, _, _, _, _, _, _, _, _, _, rfl, _⟩ := h; rfl; done) | (rcases h with h | h <;> first | (obtain ⟨_, rfl, _⟩ := h; rfl; done) | (obtain ⟨_, _, rfl, _⟩ := h; rfl; done) | (obtain ⟨_, _, _, rfl, _⟩ := h; rfl; done) | (obtain ⟨_, _, _, _, rfl, _⟩ := h; rfl; done) | (obtain ⟨_, _, _, _, _, rfl, _⟩ := h; rfl; done) | (obtain ⟨_, _, _, _, _, _, rfl, _⟩ := h; rfl; done) | (obtain ⟨_, _, _, _, _, _, _, rfl, _⟩ := h; rfl; done) | (obtain ⟨_, _, _, _, _, _, _, _, rfl, _⟩ := h; rfl; done) | (obtain ⟨_, _, _, _, _, _, _, _, _, rfl, _⟩ := h; rfl; done) | (obtain ⟨_, _, _, _, _, _, _, _, _, _, rfl, _⟩ := h; rfl; done) | (obtain ⟨_, _, _, _, _, _, _, _, _, _, _, rfl, _⟩ := h; rfl; done) | (obtain ⟨_, _, _, _, _, _, _, _, _, _, _, _, rfl, _⟩ := h; rfl; done))
  have hu := hu_of hr
  refine ⟨_, PSs.nox (pss_cons (ps_asg (pe_partR (pv 0) pe_str) (pg_tup rfl (pgs_cons (pg_name (i := 1) sc_house_in.nd rfl (Or.inl rfl)) (pgs_cons (pg_name (i := 2) sc_house_in.nd rfl (Or.inl rfl)) (pgs_cons (pg_name (i := 3) sc_house_in.nd rfl (Or.inl rfl)) pgs_nil)))))
    (pss_cons (ps_asg (pe_partR (pv 3) pe_str) (pg_tup rfl (pgs_cons (pg_name (i := 4) sc_house_in.nd rfl (Or.inl rfl)) (pgs_cons (pg_name (i := 5) sc_house_in.nd rfl (Or.inl rfl)) (pgs_cons (pg_name (i := 6) sc_house_in.nd rfl (Or.inl rfl)) pgs_nil)))))
    (pss_cons (ps_if (pt_cut (PW.pt (pw_or (pt_not (pt_val (pe_call G_is_name (hr.mono (by decide)) rfl mg_is_name kp_is_name b_is_name .nil pass0 (pa_cons (pv 1) pa_nil)))) (pw_or (pt_not (pt_val (pe_call G_is_name (hr.mono (by decide)) rfl mg_is_name kp_is_name b_is_name .nil pass0 (pa_cons (pv 4) pa_nil)))) (pw_or (pt_not (pt_val (pe_call G_is_figures (hr.mono (by decide)) rfl mg_is_figures kp_is_figures b_is_figures .nil pass0 (pa_cons (pv 6) (pa_cons pe_int pa_nil))))) (pw_or1 (pt_cmpR op_gt (pe_callTy call_int_str (by rfl) (fr_int C) (by decide +kernel) (pa_cons (pv 6) pa_nil)) (pe_glob (v := .int 1000) (by rfl) m_HEAVIEST ⟨_, rfl⟩) (nomark _)))))))) (pss_one (ps_ret pe_non)) pss_nil)
    (pss_one (ps_ret (pe_tup (pa_cons (pv 1) (pa_cons (pv 4) (pa_cons (pe_callTy call_int_str (by rfl) (fr_int C) (by decide +kernel) (pa_cons (pv 6) pa_nil)) pa_nil))))))))), ?_⟩
  obtain ⟨z, rfl, hz, q0, q1⟩ := h
  walk_at "go"
  refine g_partition (by decide +kernel) (leLine (by omega)) fun T1 H1 hT1 s1 e1 => ?_
  refine g_tup3 e1 ?_
  have l1 := part_len 64 z
  rw [← c_at] at l1
  unfold houseIn at q0 q1
  generalize Txt.partition z "@" = p1 at *
  walk_at "go"
  refine g_partition (by decide +kernel) (leLine (by omega)) fun T2 H2 hT2 s2 e2 => ?_
  refine g_tup3 e2 ?_
  have l2 := part_len 42 p1.2.2
  rw [← c_star] at l2
  generalize Txt.partition p1.2.2 "*" = p2 at *
  walk_at "go"
  refine g_tcut (fun b H' => (b = true ↔ ¬ (nmB p1.1 = true ∧ nmB p2.1 = true ∧ figB 4 p2.2.2 = true ∧ valS p2.2.2 ≤ 1000)) ∧ Step [] H H') ?_ ?_
  · walk_at "go"
    refine ⟨_, rfl, by omega, fun H3 s3 => ?_⟩
    walk_at "go"
    have S3 := (s1.trans s2).trans s3
    cases h1 : nmB p1.1 with
    | false => exact iteT ⟨by simp, S3⟩
    | true =>
      refine iteF ?_
      walk_at "go"
      refine ⟨_, rfl, by omega, fun H4 s4 => ?_⟩
      walk_at "go"
      cases h2 : nmB p2.1 with
      | false => exact iteT ⟨by simp, S3.trans s4⟩
      | true =>
        refine iteF ?_
        walk_at "go"
        refine ⟨_, _, rfl, by omega, fun H5 s5 => ?_⟩
        walk_at "go"
        cases h3 : figB 4 p2.2.2 with
        | false => exact iteT ⟨by simp, (S3.trans s4).trans s5⟩
        | true =>
          refine iteF ?_
          walk_at "go"
          obtain ⟨i1, i2⟩ := int_of_fig h3 (by decide)
          refine ⟨_, _, rfl, i1, i2, ?_⟩
          walk_at "go"
          exact ⟨by simp, (S3.trans s4).trans s5⟩
  · rintro b H3 ⟨hb, s3⟩
    cases b with
    | true =>
      refine iteT ?_
      walk_at "go"
      refine q0 (if_neg fun h => ?_) H3 s3
      rw [Bool.and_eq_true, Bool.and_eq_true, Bool.and_eq_true, decide_eq_true_eq] at h
      exact hb.mp rfl h
    | false =>
      have hb := Classical.byContradiction fun h => absurd (hb.mpr h) (by decide)
      refine iteF ?_
      walk_at "go"
      obtain ⟨i1, i2⟩ := int_of_fig hb.2.2.1 (by decide)
      refine ⟨_, _, rfl, i1, i2, ?_⟩
      walk_at "go"
      intro T H4 hT s4 e4
      refine q1 _ T H4 (if_pos ?_) (s3.fresh hT) (s3.trans s4) fun m hm => ⟨T, _, _, _, rfl, hide_at e4 fun h => hm T h (s3.fresh hT), rfl, rfl, rfl⟩
      rw [hb.1, hb.2.1, hb.2.2.1, decide_eq_true hb.2.2.2]
      rfl
theorem ok_ticket_in (C : Ctx K mg) : Has P w K mg base CX0 2 "ticket_in" ["word"] (sp_ticket_in K) := by
  obtain ⟨fd, F⟩ := fn_ticket_in C
  obtain ⟨f_is_figures, fd_is_figures, G_is_figures, mg_is_figures, kp_is_figures, b_is_figures⟩ := (ok_is_figures (P := P) (w := w) (base := base) C).ex
  obtain ⟨f_is_name, fd_is_name, G_is_name, mg_is_name, kp_is_name, b_is_name⟩ := (ok_is_name (P := P) (w := w) (base := base) C).ex
  obtain ⟨t_MOST_HOMES, m_MOST_HOMES⟩ := ct_MOST_HOMES C
  obtain ⟨t_MOST_FIGURES, m_MOST_FIGURES⟩ := ct_MOST_FIGURES C
  refine ⟨⟨_, fd, ?_, gl_ticket_in C, F.kp, F.bindsN fun _ _ _ _ _ _ us hl => match us, hl with | [_], _ => rfl⟩⟩
  refine F.ok (CX := CX0) sc_ticket_in (fun vs H Q E h => ?_) (fun cdv A outer s H vs Q E hr h => ?_)
  · first | (obtain ⟨_, rfl, _⟩ := h; rfl; done) | (obtain ⟨_, _, rfl, _⟩ := h; rfl; done) | (obtain ⟨_, _, _, rfl, _⟩ := h; rfl; done) | (obtain ⟨_, _, _, _, rfl, _⟩ := h; rfl; done) | (obtain ⟨_, _, _, _, _, rfl, _⟩ := h; rfl; done) | (obtain ⟨_, _, _, _, _, _, rfl, _⟩ := h; rfl; done) | (obtain ⟨_, _, _, _, _, _, _, rfl, _⟩ := h; rfl; done) | (obtain ⟨_, _, _, _, _, _, _, _, rfl, _⟩ := h; rfl; done) | (obtain ⟨_, _, _, _, _, _, _, _, _, rfl, _⟩ := h; rfl; done) | (obtain ⟨_, _, _, _, _, _, _, _, _, _, rfl, _⟩ := h; rfl; done) | (obtain ⟨_, _, _, _, _, _, _, _, _, _, _, rfl, _⟩ := h; rfl; done) | (obtain ⟨_, _, _, _, _, _, _, _, _, _, _, _, rfl, _⟩ := h; rfl; done) | (rcases h with h | h <;> first | (obtain ⟨_, rfl, _⟩ := h; rfl; done) | (obtain ⟨_, _, rfl, _⟩ := h; rfl; done) | (obtain ⟨_, _, _, rfl, _⟩ := h; rfl; done) | (obtain ⟨_, _, _, _, rfl, _⟩ := h; rfl; done) | (obtain ⟨_, _, _, _, _, rfl, _⟩ := h; rfl; done) | (obtain ⟨_, _, _, _, _, _, rfl, _⟩ := h; rfl; done) | (obtain ⟨_, _, _, _, _, _, _, rfl, _⟩ := h; rfl; done) | (obtain ⟨_, _, _, _, _, _, _, _, rfl, _⟩ := h; rfl; done) | (obtain ⟨_, _, _, _, _, _, _, _, _, rfl, _⟩ := h; rfl; done) | (obtain ⟨_, _, _, _, _, _, _, _, _, _, rfl, _⟩ := h; rfl; done) | (obtain ⟨_, _, _, _, _, _, _, _, _, _, _, rfl, _⟩ := h; rfl; done) | (obtain ⟨_, _, _, _, _, _, _, _, _, _, _, _, rfl, _⟩ := h; rfl; done))
  have hu := hu_of hr
  refine ⟨_, PSs.nox (pss_cons (ps_asg (pe_partR (pv 0) pe_str) (pg_tup rfl (pgs_cons (pg_name (i := 1) sc_ticket_in.nd rfl (Or.inl rfl)) (pgs_cons (pg_name (i := 2) sc_ticket_in.nd rfl (Or.inl rfl)) (pgs_cons (pg_name (i := 3) sc_ticket_in.nd rfl (Or.inl rfl)) pgs_nil)))))
    (pss_cons (ps_set (i := 4) sc_ticket_in.nd rfl (Or.inl rfl) (pe_splitR (pv 3) pe_str))
    (pss_cons (ps_if (pt_cut (PW.pt (pw_or (pt_not (pt_val (pe_call G_is_figures (hr.mono (by decide)) rfl mg_is_figures kp_is_figures b_is_figures .nil pass0 (pa_cons (pv 1) (pa_cons (pe_glob (v := .int 9) (by rfl) m_MOST_FIGURES ⟨_, rfl⟩) pa_nil))))) (pw_or (pt_cmpR op_gt (pe_callB cr_lenL (by rfl) (fr_len C) PySem.boot_len (pa_cons (pv 4) pa_nil)) (pe_glob (v := .int 10) (by rfl) m_MOST_HOMES ⟨_, rfl⟩) (nomark _)) (pw_or1 (pt_cmpR op_lt (pe_lenSetS rfl (by rfl) (fr_len C) (by rfl) (fr_set C) (pv 4)) (pe_callB cr_lenL (by rfl) (fr_len C) PySem.boot_len (pa_cons (pv 4) pa_nil)) (nomark _))))))) (pss_one (ps_ret pe_non)) pss_nil)
    (pss_cons (ps_if (pt_not (pt_val (pe_callB (cr_all rfl) (by rfl) (fr_all C) (by decide +kernel) (pa_cons (pe_lc (own := [("house", 5)]) (g := (gName 5)) (tt := tYes) rfl sc_ticket_in.nd (pi_list (pv 4)) (blkOk_by (N := N_ticket_in) (sc := defScope s_ticket_in) (own := [("house", 5)]) (by decide +kernel)) (fun _ _ _ _ _ => (pg_name (i := 5) sc_ticket_in.nd rfl (Or.inl rfl))) (fun _ _ _ _ _ => pts_nil) (fun _ _ _ _ _ => (pe_call G_is_name (hr.mono (by decide)) rfl mg_is_name kp_is_name b_is_name .nil pass0 (pa_cons (pv 5) pa_nil)))) pa_nil)))) (pss_one (ps_ret pe_non)) pss_nil)
    (pss_one (ps_ret (pe_tup (pa_cons (pe_callTy call_int_str (by rfl) (fr_int C) (by decide +kernel) (pa_cons (pv 1) pa_nil)) (pa_cons (pv 4) pa_nil))))))))), ?_⟩
  obtain ⟨z, rfl, hz, q0, q1⟩ := h
  walk_at "go"
  refine g_partition (by decide +kernel) (leLine (by omega)) fun T1 H1 hT1 s1 e1 => ?_
  refine g_tup3 e1 ?_
  have l1 := part_len 58 z
  rw [← c_colon] at l1
  unfold ticketIn at q0 q1
  generalize Txt.partition z ":" = p1 at *
  walk_at "go"
  refine g_split (by decide +kernel) (leLine (by omega)) fun L H2 hL s2 e2 => ?_
  have cu := cut_at 44 p1.2.2 (by decide)
  rw [← c_comma] at cu
  have hm := cu.many
  have hln := cu.len
  clear cu
  generalize Txt.split p1.2.2 "," = hs at *
  walk_at "go"
  refine g_tcut (fun b H' => (b = true ↔ ¬ (figB 9 p1.1 = true ∧ hs.length ≤ 10 ∧ hs.Nodup)) ∧ Step [] H2 H') ?_ ?_
  · walk_at "go"
    refine ⟨_, _, rfl, by omega, fun H3 s3 => ?_⟩
    walk_at "go"
    cases h1 : figB 9 p1.1 with
    | false => exact iteT ⟨by simp, s3⟩
    | true =>
      refine iteF ?_
      have e3 := s3.at0 e2
      walk_at "go"
      rw [List.length_map]
      refine g_ite (fun hb => ⟨?_, s3⟩) (fun hb => ?_)
      · constructor
        · intro _ h; omega
        · intro _; rfl
      walk_at "go"
      refine g_kLenSetS e3 (by omega) ?_
      walk_at "go"
      rw [List.length_map]
      refine ⟨?_, s3⟩
      rw [decide_eq_true_eq]
      have c1 := cntS_le hs hs.length
      have c2 := cntS_nodup (xs := hs) hs.length (Nat.le_refl _)
      rw [List.take_length] at c2
      constructor
      · intro h1 h2
        have := c2.mpr h2.2.2
        omega
      · intro h1
        have : ¬ cntS hs hs.length = hs.length := fun e => h1 ⟨rfl, by omega, c2.mp e⟩
        omega
  · rintro b H3 ⟨hb, s3⟩
    have S3 := (s1.trans s2).trans s3
    cases b with
    | true =>
      refine iteT ?_
      walk_at "go"
      refine q0 (if_neg fun h => ?_) H3 S3
      rw [Bool.and_eq_true, Bool.and_eq_true, Bool.and_eq_true, decide_eq_true_eq, decide_eq_true_eq] at h
      exact hb.mp rfl ⟨h.1, h.2.1, h.2.2.1⟩
    | false =>
      have hb := Classical.byContradiction fun h => absurd (hb.mpr h) (by decide)
      obtain ⟨b1, b2, b3⟩ := hb
      refine iteF ?_
      have e3 := s3.at0 e2
      walk_at "go"
      refine wLc_list (xs := hs.map V.str) fun D H4 hD s4 e4 => ?_
      refine ⟨fun i H' => H' D = some (.lst (((hs.take i).map nmB).map V.bl)) ∧ Step [] H3 H', ⟨e4, s4⟩, ?_, ?_, ?_⟩
      · rintro i H5 _ ⟨g1, g2⟩
        exact g2.at0 e3
      · rintro i x H5 hx ⟨g1, g2⟩
        rw [List.getElem?_map, Option.map_eq_some_iff] at hx
        obtain ⟨y, hy, rfl⟩ := hx
        have hi : i < hs.length := (List.getElem?_eq_some_iff.mp hy).1
        walk_at "go"
        refine ⟨y, rfl, by have := hln y (List.mem_of_getElem? hy); omega, fun H6 s6 => ?_⟩
        have lt : (hs.take i).length ≤ 10 := by rw [List.length_take]; omega
        refine g_kEl (s6.at0 g1) (ltLine (by rw [List.length_map, List.length_map]; omega)) fun H7 s7 e7 => ⟨?_, (g2.trans s6).via s7 hD⟩
        rw [e7, ← List.map_singleton, ← List.map_append, take_succ_map hy]
      · rintro H5 ⟨g1, g2⟩
        rw [List.length_map, List.take_length] at g1
        walk_at "go"
        refine g_all g1 ?_
        have ea : (hs.map nmB).all id = hs.all nmB := by rw [List.all_map]; rfl
        rw [ea]
        walk_at "go"
        have S5 := S3.trans g2
        cases h4 : hs.all nmB with
        | false =>
          refine iteT ?_
          walk_at "go"
          refine q0 (if_neg fun h => ?_) H5 S5
          rw [Bool.and_eq_true, Bool.and_eq_true, Bool.and_eq_true, h4] at h
          exact absurd h.2.2.2 (by decide)
        | true =>
          refine iteF ?_
          walk_at "go"
          obtain ⟨i1, i2⟩ := int_of_fig b1 (by decide)
          refine ⟨_, _, rfl, i1, i2, ?_⟩
          walk_at "go"
          intro T H6 hT s6 e6
          refine q1 _ T H6 (if_pos ?_) (S5.fresh hT) (S5.trans s6) fun m hm => ⟨T, _, _, rfl, hide_at e6 fun h => hm T h (S5.fresh hT), rfl, rLS_of (hide_at (s6.at0 (g2.at0 e3)) fun h => hm L h (s1.fresh hL))⟩
          rw [b1, decide_eq_true b2, decide_eq_true b3, h4]
          rfl
end

end My
namespace My
open PySem PySem.Spec PyProof.Rows L2
/-! rows read -/
def ltH (a b : Row) : Bool := decide (cs a.1 < cs b.1)
def ltT (a b : Int × List Str) : Bool := decide (a.1 < b.1)
theorem houseIn_ok {w : Str} {r : Row} (h : houseIn w = some r) : RowOk r := by
  unfold houseIn at h
  split at h
  · rename_i hc
    rw [Bool.and_eq_true, Bool.and_eq_true, Bool.and_eq_true, decide_eq_true_eq] at hc
    cases h
    have := valS_bound (k := 4) hc.2.2.1 (by decide)
    exact ⟨nmB_iff.mp hc.1, nmB_iff.mp hc.2.1, this.1, hc.2.2.2⟩
  · cases h
theorem ticketIn_ok {w : Str} {r : Int × List Str} (h : ticketIn w = some r) : TkOk r := by
  unfold ticketIn at h
  split at h
  · rename_i hc
    rw [Bool.and_eq_true, Bool.and_eq_true, Bool.and_eq_true, decide_eq_true_eq, decide_eq_true_eq, List.all_eq_true] at hc
    cases h
    have := valS_bound (k := 9) hc.1 (by decide)
    have cu := cut_at 44 (Txt.partition w ":").2.2 (by decide)
    rw [← c_comma] at cu
    exact ⟨this.1, this.2, hc.2.2.1, fun z hz => nmB_iff.mp (hc.2.2.2 z hz), List.length_pos_iff.mpr cu.ne, hc.2.1⟩
  · cases h
theorem rowsAt_pw {α : Type} {f : Str → Option α} {lt : α → α → Bool} (tr : ∀ a b c, lt a b = true → lt b c = true → lt a c = true) : ∀ {ws : List Str} {found rows : List α} {k : Nat}, rowsAt f lt found k ws = .inr rows → found.Pairwise (fun a b => lt a b = true) → rows.Pairwise (fun a b => lt a b = true)
  | [], found, rows, k, h, hp => by cases h; exact hp
  | w :: ws, found, rows, k, h, hp => by
    cases e : f w with
    | none => rw [rowsAt_bad e] at h; cases h
    | some r =>
      rw [rowsAt_some e] at h
      split at h
      · rename_i hr
        refine rowsAt_pw tr h ?_
        rw [List.pairwise_append]
        refine ⟨hp, List.pairwise_singleton _ _, fun a ha b hb => ?_⟩
        rw [List.mem_singleton.mp hb]
        unfold rises at hr
        cases e2 : found.getLast? with
        | none =>
          rw [List.getLast?_eq_none_iff] at e2
          rw [e2] at ha
          cases ha
        | some l =>
          rw [e2] at hr
          obtain ⟨ys, rfl⟩ := List.getLast?_eq_some_iff.mp e2
          rcases List.mem_append.mp ha with ha | ha
          · exact tr a l r ((List.pairwise_append.mp hp).2.2 a ha l (List.mem_singleton.mpr rfl)) hr
          · rw [List.mem_singleton.mp ha]; exact hr
      · cases h
theorem rowsIn_pw {α : Type} {f : Str → Option α} {lt : α → α → Bool} (tr : ∀ a b c, lt a b = true → lt b c = true → lt a c = true) {t : Str} {rows : List α} (h : rowsIn f lt t = .inr rows) : rows.Pairwise (fun a b => lt a b = true) := by
  unfold rowsIn at h
  split at h
  · cases h; exact List.Pairwise.nil
  · exact rowsAt_pw tr h List.Pairwise.nil
theorem rowsAt_ok {α : Type} {f : Str → Option α} {lt : α → α → Bool} {p : α → Prop} (hf : ∀ w r, f w = some r → p r) : ∀ {ws : List Str} {found rows : List α} {k : Nat}, rowsAt f lt found k ws = .inr rows → (∀ r ∈ found, p r) → (∀ r ∈ rows, p r) ∧ rows.length = found.length + ws.length
  | [], found, rows, k, h, hp => by cases h; exact ⟨hp, rfl⟩
  | w :: ws, found, rows, k, h, hp => by
    cases e : f w with
    | none => rw [rowsAt_bad e] at h; cases h
    | some r =>
      rw [rowsAt_some e] at h
      split at h
      · have := rowsAt_ok hf h fun x hx => by
          rcases List.mem_append.mp hx with hx | hx
          · exact hp x hx
          · rw [List.mem_singleton.mp hx]; exact hf w r e
        refine ⟨this.1, this.2.trans ?_⟩
        simp only [List.length_append, List.length_cons, List.length_nil]; omega
      · cases h
theorem rowsIn_ok {α : Type} {f : Str → Option α} {lt : α → α → Bool} {p : α → Prop} (hf : ∀ w r, f w = some r → p r) {t : Str} {rows : List α} (h : rowsIn f lt t = .inr rows) : (∀ r ∈ rows, p r) ∧ (t ≠ "" → rows.length = (Txt.split t " ").length) ∧ rows.length ≤ (Txt.split t " ").length := by
  unfold rowsIn at h
  split at h
  · rename_i e
    cases h
    exact ⟨by simp, fun z => absurd e z, Nat.zero_le _⟩
  · have := rowsAt_ok hf h (by simp)
    rw [List.length_nil, Nat.zero_add] at this
    exact ⟨this.1, fun _ => this.2, Nat.le_of_eq this.2⟩
theorem ltH_tr (a b c : Row) (h1 : ltH a b = true) (h2 : ltH b c = true) : ltH a c = true := by
  unfold ltH at *
  rw [decide_eq_true_eq] at *
  exact List.lt_trans h1 h2
theorem ltT_tr (a b c : Int × List Str) (h1 : ltT a b = true) (h2 : ltT b c = true) : ltT a c = true := by
  unfold ltT at *
  rw [decide_eq_true_eq] at *
  omega
theorem mTk : Mono rTk := mP2 mI (mL mS)
def cRow {K : PySem.W.Frag} : Cod K rRow := cP3 cS cS cI
def cTk {K : PySem.W.Frag} : Cod K rTk := cP2 cI (cL cS)
theorem RowOk.ok {K : PySem.W.Frag} {r : Row} (h : RowOk r) : (cRow (K := K)).ok r := ⟨h.nm.ok, h.zn.ok, trivial⟩
theorem TkOk.ok {K : PySem.W.Frag} {r : Int × List Str} (h : TkOk r) : (cTk (K := K)).ok r := ⟨trivial, fun z hz => (h.nm z hz).ok⟩
def sp_rows_in_h (K : PySem.W.Frag) : Sp := fun vs H Q E => (∃ (v : V) (a : String), vs = [v, .ref (He.ga K "house_in")] ∧ TyX K H v (.type a) ∧ kitB a "str" = some false ∧ ∀ d H', H d = none → Step [] H H' → H' d = some (.xd [("at", .non)]) → E (.ref (He.ga K "NoText")) (some d) H') ∨ ∃ t : Str, vs = [.str t, .ref (He.ga K "house_in")] ∧ t.length ≤ 4000 ∧
  (∀ l rows H', rowsIn houseIn ltH t = .inr rows → H l = none → Step [] H H' → rL rRow H' (.ref l) rows → Q (.ref l) H') ∧
  (∀ (k : Nat) d H', rowsIn houseIn ltH t = .inl k → H d = none → Step [] H H' → H' d = some (.xd [("at", .int k)]) → E (.ref (He.ga K "NoText")) (some d) H')
section
variable {P : Program} {w : World} {K : PySem.W.Frag} {mg : Str → Option Value} {base : Heap}
theorem ok_rows_in_h (C : Ctx K mg) : Has P w K mg base (L2.CX P w) 4 "rows_in" ["text", "word_in"] (sp_rows_in_h K) := by
  obtain ⟨fd, F⟩ := fn_rows_in C
  obtain ⟨f_house_in, fd_house_in, G_house_in, mg_house_in, kp_house_in, b_house_in⟩ := (ok_house_in (P := P) (w := w) (base := base) C).ex
  have X_NoText := ox_NoText (P := P) (w := w) (base := base) C
  obtain ⟨fd_NoText_init, G_NoText_init, b_NoText_init⟩ := X_NoText.ex
  refine ⟨⟨_, fd, ?_, gl_rows_in C, F.kp, F.bindsN fun _ _ _ _ _ _ us hl => match us, hl with | [_, _], _ => rfl⟩⟩
  refine F.ok (CX := L2.CX P w) sc_rows_in (fun vs H Q E h => ?_) (fun cdv A outer s H vs Q E hr h => ?_)
  · first | (obtain ⟨_, rfl, _⟩ := h; rfl; done) | (obtain ⟨_, _, rfl, _⟩ := h; rfl; done) | (obtain ⟨_, _, _, rfl, _⟩ := h; rfl; done) | (obtain ⟨_, _, _, _, rfl, _⟩ := h; rfl; done) | (obtain ⟨_, _, _, _, _, rfl, _⟩ := h; rfl; done) | (obtain ⟨_, _, _, _, _, _, rfl, _⟩ := h; rfl; done) | (obtain ⟨_, _, _, _, _, _, _, rfl, _⟩ := h; rfl; done) | (obtain ⟨_, _, _, _, _, _, _, _, rfl, _⟩ := h; rfl; done) | (obtain ⟨_, _, _, _, _, _, _, _, _, rfl, _⟩ := h; rfl; done) | (obtain ⟨_, _, _, _, _, _, _, _, _, _, rfl, _⟩ := h; rfl; done) | (obtain ⟨_, _, _, _, _, _, _, _, _, _, _, rfl, _⟩ := h; rfl; done) | (obtain ⟨_, _, _, _, _, _, _, _, _, _, _, _, rfl, _⟩ := h; rfl; done) | (rcases h with h | h <;> first | (obtain ⟨_, rfl, _⟩ := h; rfl; done) | (obtain ⟨_, _, rfl, _⟩ := h; rfl; done) | (obtain ⟨_, _, _, rfl, _⟩ := h; rfl; done) | (obtain ⟨_, _, _, _, rfl, _⟩ := h; rfl; done) | (obtain ⟨_, _, _, _, _, rfl, _⟩ := h; rfl; done) | (obtain ⟨_, _, _, _, _, _, rfl, _⟩ := h; rfl; done) | (obtain ⟨_, _, _, _, _, _, _, rfl, _⟩ := h; rfl; done) | (obtain ⟨_, _, _, _, _, _, _, _, rfl, _⟩ := h; rfl; done) | (obtain ⟨_, _, _, _, _, _, _, _, _, rfl, _⟩ := h; rfl; done) | (obtain ⟨_, _, _, _, _, _, _, _, _, _, rfl, _⟩ := h; rfl; done) | (obtain ⟨_, _, _, _, _, _, _, _, _, _, _, rfl, _⟩ := h; rfl; done) | (obtain ⟨_, _, _, _, _, _, _, _, _, _, _, _, rfl, _⟩ := h; rfl; done))
  have hu := hu_of hr
  refine ⟨_, (pss_cons (ps_if (pt_not (pt_val (pe_callB call_isi (by rfl) (fr_isinstance C) (by decide +kernel) (pa_cons (pv 0) (pa_cons (pe_bltn (v := .ty "str") (by rfl) (fr_str C) (by decide +kernel) rfl) pa_nil))))) (pss_one (ps_raise rfl (takes_of rfl rfl rfl rfl) (pmk_oex X_NoText.tx.ox X_NoText.tx.ini X_NoText.tx.tI G_NoText_init (hr.mono (by decide)) b_NoText_init .nil pass0 rfl X_NoText.mg (pa_cons pe_non pa_nil)))) pss_nil)
    (pss_cons (ps_set (i := 2) sc_rows_in.nd rfl (Or.inl rfl) (pe_lst pa_nil))
    (pss_cutM (ps_if (pt_cmpR op_ne (pv 0) pe_str (nomark _)) (pss_one (ps_for (passes_of rfl) rfl (pi_enum (by rfl) (fr_enumerate C) (pa_cons (pe_splitR (pv 0) pe_str) pa_nil)) (pg_tup rfl (pgs_cons (pg_name (i := 3) sc_rows_in.nd rfl (Or.inl rfl)) (pgs_cons (pg_name (i := 4) sc_rows_in.nd rfl (Or.inl rfl)) pgs_nil)))
    (pss_cons (ps_set (i := 5) sc_rows_in.nd rfl (Or.inl rfl) (pe_callL (i := 1) G_house_in (hr.mono (by decide)) rfl (Or.inl rfl) kp_house_in b_house_in .nil pass0 (pa_cons (pv 4) pa_nil)))
    (pss_cons (ps_if (pt_cut (PW.pt (pw_or (pt_cmpR op_isN (pv 5) pe_non (nomark _)) (pw_or1 (pt_cut (PW.pt (pw_and (pt_cmpR (op_neD hr.units) (pv 2) (pe_lst pa_nil) (nomark _)) (pw_and1 (pt_cmpR op_ge_str (pe_ix ix_tup (pe_ix ix_list (pv 2) (pe_un un_neg pe_int) (fun _ _ => rfl)) pe_int (fun _ _ => rfl)) (pe_ix ix_tup (pv 5) pe_int (fun _ _ => rfl)) (nomark _)))))))))) (pss_one (ps_raise rfl (takes_of rfl rfl rfl rfl) (pmk_oex X_NoText.tx.ox X_NoText.tx.ini X_NoText.tx.tI G_NoText_init (hr.mono (by decide)) b_NoText_init .nil pass0 rfl X_NoText.mg (pa_cons (pv 3) pa_nil)))) pss_nil)
    (pss_one (ps_expr (pe_bm PySem.F.plainAttrs_list PySem.F.slot_list_append PySem.F.type_list_append mt_append (pv 2) (pa_cons (pv 5) pa_nil)))))))) pss_nil)
    (pss_one (ps_ret (pv 2)))))), ?_⟩
  rcases h with ⟨v, a, rfl, tyv, nos, qe⟩ | ⟨t, rfl, ht, qo, qe⟩
  · walk_at "go"
    refine g_isi (r := false) tyv nos ?_
    walk_at "go"
    refine iteT ?_
    walk_at "go"
    exact g_kMkO rfl (Nat.le_of_ble_eq_true rfl) fun d H8 hd t8 e8 => qe d H8 hd t8 e8
  have ef : f_house_in = He.ga K "house_in" := by
    have := mg_house_in.symm.trans (gl_house_in C)
    cases this
    rfl
  walk_at "go"
  refine g_isi (r := true) (.base (.str t)) (by decide +kernel) ?_
  walk_at "go"
  refine iteF ?_
  walk_at "go"
  intro F H1 hF s1 e1
  walk_at "go"
  refine g_cut (fun σ H' => ∃ (found : List Row) (vs : List V) (v3 v4 v5 : Option V), σ = [some (.str t), some (.ref (He.ga K "house_in")), some (.ref F), v3, v4, v5] ∧ rowsIn houseIn ltH t = .inr found ∧ H' F = some (.lst vs) ∧ Paired (rRow (hide [F] H')) vs found ∧ Step [] H H') ?_ ?_
  · walk_at "go"
    by_cases he : t = ""
    · rw [decide_eq_true he]
      refine iteF ?_
      walk_at "go"
      exact ⟨[], [], none, none, none, rfl, by unfold rowsIn; rw [if_pos he], e1, .nil, s1⟩
    · rw [decide_eq_false he]
      refine iteT ?_
      walk_at "go"
      try refine g_enum ?_
      walk_at "go"
      refine g_split (by decide +kernel) (leLine (by omega)) fun W H2 hW s2 e2 => ?_
      have cu := cut_at 32 t (by decide)
      rw [← c_blank] at cu
      have er : rowsIn houseIn ltH t = rowsAt houseIn ltH [] 0 (Txt.split t " ") := by unfold rowsIn; rw [if_neg he]
      have hlen := cu.len
      have hmany := cu.many
      clear cu
      generalize Txt.split t " " = ws at *
      have FW : F ≠ W := ne_of_none e1 hW
      walk_at "go"
      refine g_kEnum e2 (wFor_enum (xs := ws.map V.str) (fun i σ H' => ∃ (found : List Row) (vs : List V) (v3 v4 v5 : Option V), σ = [some (.str t), some (.ref (He.ga K "house_in")), some (.ref F), v3, v4, v5] ∧ rowsAt houseIn ltH [] 0 ws = rowsAt houseIn ltH found i (ws.drop i) ∧ found.length = i ∧ (∀ r ∈ found, RowOk r) ∧ H' F = some (.lst vs) ∧ Paired (rRow (hide [F] H')) vs found ∧ Step [] H H' ∧ H' W = some (.lst (ws.map V.str)))
        ⟨[], [], none, none, none, rfl, rfl, rfl, by simp, s2.at0 e1, .nil, s1.trans s2, e2⟩ ?_ ?_ ?_)
      · rintro i σ H3 _ ⟨found, vs, v3, v4, v5, rfl, g1, g2, g3, g4, g5, g6, g7⟩
        exact g7
      · rintro i x σ H3 H4 hx ⟨found, vs, v3, v4, v5, rfl, g1, g2, g3, g4, g5, g6, g7⟩ s4
        rw [List.getElem?_map, Option.map_eq_some_iff] at hx
        obtain ⟨wd, hwd, rfl⟩ := hx
        have hd : ws.drop i = wd :: ws.drop (i + 1) := by
          obtain ⟨hi, e⟩ := List.getElem?_eq_some_iff.mp hwd
          rw [List.drop_eq_getElem_cons hi, e]
        have hi := (List.getElem?_eq_some_iff.mp hwd).1
        rw [hd] at g1
        rw [← ef]
        walk_at "go"
        have S4 := g6.trans s4
        refine ⟨wd, rfl, by have := hlen wd (List.mem_of_getElem? hwd); omega, fun hn H5 s5 => ?_, fun r T H5 hs hT s5 hr => ?_⟩
        · walk_at "go"
          refine g_tcut (fun b H' => b = true ∧ H' = H5) ?_ ?_
          · walk_at "go"
            refine ⟨rfl, ?_⟩
            walk_at "go"
            exact iteT ⟨rfl, rfl⟩
          · rintro b H' ⟨rfl, rfl⟩
            refine iteT ?_
            walk_at "go"
            refine g_kMkO rfl (Nat.le_of_ble_eq_true rfl) fun d H8 hd t8 e8 => ?_
            exact qe i d H8 (by rw [er, g1, rowsAt_bad hn]) ((S4.trans s5).fresh hd) ((S4.trans s5).trans t8) e8
        · walk_at "go"
          have F5 := s5.at0 (s4.at0 g4)
          refine g_tcut (fun b H' => b = !rises ltH found r ∧ Step [] H5 H') ?_ ?_
          · walk_at "go"
            refine ⟨rfl, ?_⟩
            walk_at "go"
            refine iteF ?_
            walk_at "go"
            refine g_tcut (fun b H' => b = !rises ltH found r ∧ Step [] H5 H') ?_ (fun b H' h => h)
            walk_at "go"
            intro E0' H6 hE s6 e6
            have F6 := s6.at0 F5
            have hP : Paired (rRow H6) vs found := Pmap g5 fun v x r => mRow _ _ _ _ (fun b o h => s6.at0 (s5.at0 (s4.at0 (hide_le _ _ h)))) r
            refine g_neC (cL cRow) (x := found) (y := []) ⟨F, vs, rfl, F6, hP⟩ ⟨E0', [], rfl, e6, .nil⟩ (fun r hr => (g3 r hr).ok) (by intro r hr; cases hr) ?_
            walk_at "go"
            cases ef : found with
            | nil =>
              rw [decide_eq_true rfl]
              refine iteF ⟨by rfl, s6⟩
            | cons r0 fr =>
              rw [← ef]
              have hne : found ≠ [] := by rw [ef]; exact List.cons_ne_nil _ _
              rw [decide_eq_false hne]
              refine iteT ?_
              walk_at "go"
              have hlast : found.getLast? = some (found.getLast hne) := List.getLast?_eq_some_getLast hne
              generalize found.getLast hne = l at hlast
              have hv : ∃ v, vs.getLast? = some v ∧ rRow H6 v l := by
                rw [List.getLast?_eq_getElem?] at hlast ⊢
                have hl := P_len hP
                have h0 : found.length - 1 < vs.length := by have := List.length_pos_iff.mpr hne; omega
                rw [hl]
                refine ⟨vs[found.length - 1], List.getElem?_eq_getElem h0, ?_⟩
                obtain ⟨y, hy, hr⟩ := P_get hP (List.getElem?_eq_getElem h0)
                rw [hlast] at hy
                cases hy
                exact hr
              obtain ⟨v, hv1, hv2⟩ := hv
              refine g_ixL F6 (at_last hv1) ?_
              have hri : rises ltH found r = ltH l r := by unfold rises; rw [hlast]
              have hr6 := mRow _ _ _ _ (fun b o h => s6.at0 (hide_le _ _ h)) (hr [] (by simp))
              rw [hri]
              obtain ⟨T1, _, _, _, rfl, hT1, rfl, rfl, rfl⟩ := hv2
              obtain ⟨T2, _, _, _, e2', hT2, rfl, rfl, rfl⟩ := hr6
              cases e2'
              walk_at "go"
              refine ⟨_, _, rfl, rfl, ?_⟩
              walk_at "go"
              exact ⟨rfl, s6⟩
          · rintro b H6 ⟨rfl, s6⟩
            have S6 := (S4.trans s5).trans s6
            cases hri : rises ltH found r with
            | false =>
              refine iteT ?_
              walk_at "go"
              refine g_kMkO rfl (Nat.le_of_ble_eq_true rfl) fun d H8 hd t8 e8 => ?_
              exact qe i d H8 (by rw [er, g1, rowsAt_some hs, if_neg (by rw [hri]; decide)]) (S6.fresh hd) (S6.trans t8) e8
            | true =>
              refine iteF ?_
              have d6 := s6.at0 F5
              walk_at "go"
              have lv := P_len g5
              refine g_append d6 (ltLine (by omega)) fun H7 t7 e7 => ?_
              have hle : Le (hide [F] H3) (hide [F] H7) := (s4.hid0.trans (s5.hid0.trans s6.hid0)).trans (t7.hid (by simp))
              rw [ef]
              refine ⟨found ++ [r], _, _, _, _, rfl, by rw [g1, rowsAt_some hs, if_pos hri], by rw [List.length_append, List.length_singleton, g2], fun x hx => ?_, e7, ?_, S6.via t7 hF, t7.at1 (s6.at0 (s5.at0 (s4.at0 g7))) FW.symm⟩
              · rcases List.mem_append.mp hx with hx | hx
                · exact g3 x hx
                · rw [List.mem_singleton.mp hx]; exact houseIn_ok hs
              · exact P_snoc (mRow _ _ _ _ (s6.hid0.trans (t7.hid (by simp))) (hr [F] fun a ha => by rw [List.mem_singleton.mp ha, s4.at0 g4]; simp)) (Pmap g5 fun v x r => mRow _ _ _ _ hle r)
      · rintro σ H3 ⟨found, vs, v3, v4, v5, rfl, g1, g2, g3, g4, g5, g6, g7⟩
        walk_at "go"
        rw [List.length_map, List.drop_length] at g1
        exact ⟨found, vs, _, _, _, rfl, er.trans g1, g4, g5, g6⟩
  · rintro σ H3 ⟨found, vs, v3, v4, v5, rfl, g1, g4, g5, g6⟩
    walk_at "go"
    exact qo F found H3 g1 hF g6 ⟨F, vs, rfl, g4, Pmap g5 fun v x r => mRow _ _ _ _ (fun b o h => hide_le _ _ h) r⟩
end
def sp_rows_in_t (K : PySem.W.Frag) : Sp := fun vs H Q E => (∃ (v : V) (a : String), vs = [v, .ref (He.ga K "ticket_in")] ∧ TyX K H v (.type a) ∧ kitB a "str" = some false ∧ ∀ d H', H d = none → Step [] H H' → H' d = some (.xd [("at", .non)]) → E (.ref (He.ga K "NoText")) (some d) H') ∨ ∃ t : Str, vs = [.str t, .ref (He.ga K "ticket_in")] ∧ t.length ≤ 4000 ∧
  (∀ l rows H', rowsIn ticketIn ltT t = .inr rows → H l = none → Step [] H H' → rL rTk H' (.ref l) rows → Q (.ref l) H') ∧
  (∀ (k : Nat) d H', rowsIn ticketIn ltT t = .inl k → H d = none → Step [] H H' → H' d = some (.xd [("at", .int k)]) → E (.ref (He.ga K "NoText")) (some d) H')
section
variable {P : Program} {w : World} {K : PySem.W.Frag} {mg : Str → Option Value} {base : Heap}
theorem ok_rows_in_t (C : Ctx K mg) : Has P w K mg base (L2.CX P w) 4 "rows_in" ["text", "word_in"] (sp_rows_in_t K) := by
  obtain ⟨fd, F⟩ := fn_rows_in C
  obtain ⟨f_ticket_in, fd_ticket_in, G_ticket_in, mg_ticket_in, kp_ticket_in, b_ticket_in⟩ := (ok_ticket_in (P := P) (w := w) (base := base) C).ex
  have X_NoText := ox_NoText (P := P) (w := w) (base := base) C
  obtain ⟨fd_NoText_init, G_NoText_init, b_NoText_init⟩ := X_NoText.ex
  refine ⟨⟨_, fd, ?_, gl_rows_in C, F.kp, F.bindsN fun _ _ _ _ _ _ us hl => match us, hl with | [_, _], _ => rfl⟩⟩
  refine F.ok (CX := L2.CX P w) sc_rows_in (fun vs H Q E h => ?_) (fun cdv A outer s H vs Q E hr h => ?_)
  · first | (obtain ⟨_, rfl, _⟩ := h; rfl; done) | (obtain ⟨_, _, rfl, _⟩ := h; rfl; done) | (obtain ⟨_, _, _, rfl, _⟩ := h; rfl; done) | (obtain ⟨_, _, _, _, rfl, _⟩ := h; rfl; done) | (obtain ⟨_, _, _, _, _, rfl, _⟩ := h; rfl; done) | (obtain ⟨_, _, _, _, _, _, rfl, _⟩ := h; rfl; done) | (obtain ⟨_, _, _, _, _, _, _, rfl, _⟩ := h; rfl; done) | (obtain ⟨_, _, _, _, _, _, _, _, rfl, _⟩ := h; rfl; done) | (obtain ⟨_, _, _, _, _, _, _, _, _, rfl, _⟩ := h; rfl; done) | (obtain ⟨_, _, _, _, _, _, _, _, _, _, rfl, _⟩ := h; rfl; done) | (obtain ⟨_, _, _, _, _, _, _, _, _, _, _, rfl, _⟩ := h; rfl; done) | (obtain ⟨_, _, _, _, _, _, _, _, _, _, _, _, rfl, _⟩ := h; rfl; done) | (rcases h with h | h <;> first | (obtain ⟨_, rfl, _⟩ := h; rfl; done) | (obtain ⟨_, _, rfl, _⟩ := h; rfl; done) | (obtain ⟨_, _, _, rfl, _⟩ := h; rfl; done) | (obtain ⟨_, _, _, _, rfl, _⟩ := h; rfl; done) | (obtain ⟨_, _, _, _, _, rfl, _⟩ := h; rfl; done) | (obtain ⟨_, _, _, _, _, _, rfl, _⟩ := h; rfl; done) | (obtain ⟨_, _, _, _, _, _, _, rfl, _⟩ := h; rfl; done) | (obtain ⟨_, _, _, _, _, _, _, _, rfl, _⟩ := h; rfl; done) | (obtain ⟨_, _, _, _, _, _, _, _, _, rfl, _⟩ := h; rfl; done) | (obtain ⟨_, _, _, _, _, _, _, _, _, _, rfl, _⟩ := h; rfl; done) | (obtain ⟨_, _, _, _, _, _, _, _, _, _, _, rfl, _⟩ := h; rfl; done) | (obtain ⟨_, _, _, _, _, _, _, _, _, _, _, _, rfl, _⟩ := h; rfl; done))
  have hu := hu_of hr
  refine ⟨_, (pss_cons (ps_if (pt_not (pt_val (pe_callB call_isi (by rfl) (fr_isinstance C) (by decide +kernel) (pa_cons (pv 0) (pa_cons (pe_bltn (v := .ty "str") (by rfl) (fr_str C) (by decide +kernel) rfl) pa_nil))))) (pss_one (ps_raise rfl (takes_of rfl rfl rfl rfl) (pmk_oex X_NoText.tx.ox X_NoText.tx.ini X_NoText.tx.tI G_NoText_init (hr.mono (by decide)) b_NoText_init .nil pass0 rfl X_NoText.mg (pa_cons pe_non pa_nil)))) pss_nil)
    (pss_cons (ps_set (i := 2) sc_rows_in.nd rfl (Or.inl rfl) (pe_lst pa_nil))
    (pss_cutM (ps_if (pt_cmpR op_ne (pv 0) pe_str (nomark _)) (pss_one (ps_for (passes_of rfl) rfl (pi_enum (by rfl) (fr_enumerate C) (pa_cons (pe_splitR (pv 0) pe_str) pa_nil)) (pg_tup rfl (pgs_cons (pg_name (i := 3) sc_rows_in.nd rfl (Or.inl rfl)) (pgs_cons (pg_name (i := 4) sc_rows_in.nd rfl (Or.inl rfl)) pgs_nil)))
    (pss_cons (ps_set (i := 5) sc_rows_in.nd rfl (Or.inl rfl) (pe_callL (i := 1) G_ticket_in (hr.mono (by decide)) rfl (Or.inl rfl) kp_ticket_in b_ticket_in .nil pass0 (pa_cons (pv 4) pa_nil)))
    (pss_cons (ps_if (pt_cut (PW.pt (pw_or (pt_cmpR op_isN (pv 5) pe_non (nomark _)) (pw_or1 (pt_cut (PW.pt (pw_and (pt_cmpR (op_neD hr.units) (pv 2) (pe_lst pa_nil) (nomark _)) (pw_and1 (pt_cmpR op_ge (pe_ix ix_tup (pe_ix ix_list (pv 2) (pe_un un_neg pe_int) (fun _ _ => rfl)) pe_int (fun _ _ => rfl)) (pe_ix ix_tup (pv 5) pe_int (fun _ _ => rfl)) (nomark _)))))))))) (pss_one (ps_raise rfl (takes_of rfl rfl rfl rfl) (pmk_oex X_NoText.tx.ox X_NoText.tx.ini X_NoText.tx.tI G_NoText_init (hr.mono (by decide)) b_NoText_init .nil pass0 rfl X_NoText.mg (pa_cons (pv 3) pa_nil)))) pss_nil)
    (pss_one (ps_expr (pe_bm PySem.F.plainAttrs_list PySem.F.slot_list_append PySem.F.type_list_append mt_append (pv 2) (pa_cons (pv 5) pa_nil)))))))) pss_nil)
    (pss_one (ps_ret (pv 2)))))), ?_⟩
  rcases h with ⟨v, a, rfl, tyv, nos, qe⟩ | ⟨t, rfl, ht, qo, qe⟩
  · walk_at "go"
    refine g_isi (r := false) tyv nos ?_
    walk_at "go"
    refine iteT ?_
    walk_at "go"
    exact g_kMkO rfl (Nat.le_of_ble_eq_true rfl) fun d H8 hd t8 e8 => qe d H8 hd t8 e8
  have ef : f_ticket_in = He.ga K "ticket_in" := by
    have := mg_ticket_in.symm.trans (gl_ticket_in C)
    cases this
    rfl
  walk_at "go"
  refine g_isi (r := true) (.base (.str t)) (by decide +kernel) ?_
  walk_at "go"
  refine iteF ?_
  walk_at "go"
  intro F H1 hF s1 e1
  walk_at "go"
  refine g_cut (fun σ H' => ∃ (found : List (Int × List Str)) (vs : List V) (v3 v4 v5 : Option V), σ = [some (.str t), some (.ref (He.ga K "ticket_in")), some (.ref F), v3, v4, v5] ∧ rowsIn ticketIn ltT t = .inr found ∧ H' F = some (.lst vs) ∧ Paired (rTk (hide [F] H')) vs found ∧ Step [] H H') ?_ ?_
  · walk_at "go"
    by_cases he : t = ""
    · rw [decide_eq_true he]
      refine iteF ?_
      walk_at "go"
      exact ⟨[], [], none, none, none, rfl, by unfold rowsIn; rw [if_pos he], e1, .nil, s1⟩
    · rw [decide_eq_false he]
      refine iteT ?_
      walk_at "go"
      try refine g_enum ?_
      walk_at "go"
      refine g_split (by decide +kernel) (leLine (by omega)) fun W H2 hW s2 e2 => ?_
      have cu := cut_at 32 t (by decide)
      rw [← c_blank] at cu
      have er : rowsIn ticketIn ltT t = rowsAt ticketIn ltT [] 0 (Txt.split t " ") := by unfold rowsIn; rw [if_neg he]
      have hlen := cu.len
      have hmany := cu.many
      clear cu
      generalize Txt.split t " " = ws at *
      have FW : F ≠ W := ne_of_none e1 hW
      walk_at "go"
      refine g_kEnum e2 (wFor_enum (xs := ws.map V.str) (fun i σ H' => ∃ (found : List (Int × List Str)) (vs : List V) (v3 v4 v5 : Option V), σ = [some (.str t), some (.ref (He.ga K "ticket_in")), some (.ref F), v3, v4, v5] ∧ rowsAt ticketIn ltT [] 0 ws = rowsAt ticketIn ltT found i (ws.drop i) ∧ found.length = i ∧ (∀ r ∈ found, TkOk r) ∧ H' F = some (.lst vs) ∧ Paired (rTk (hide [F] H')) vs found ∧ Step [] H H' ∧ H' W = some (.lst (ws.map V.str)))
        ⟨[], [], none, none, none, rfl, rfl, rfl, by simp, s2.at0 e1, .nil, s1.trans s2, e2⟩ ?_ ?_ ?_)
      · rintro i σ H3 _ ⟨found, vs, v3, v4, v5, rfl, g1, g2, g3, g4, g5, g6, g7⟩
        exact g7
      · rintro i x σ H3 H4 hx ⟨found, vs, v3, v4, v5, rfl, g1, g2, g3, g4, g5, g6, g7⟩ s4
        rw [List.getElem?_map, Option.map_eq_some_iff] at hx
        obtain ⟨wd, hwd, rfl⟩ := hx
        have hd : ws.drop i = wd :: ws.drop (i + 1) := by
          obtain ⟨hi, e⟩ := List.getElem?_eq_some_iff.mp hwd
          rw [List.drop_eq_getElem_cons hi, e]
        have hi := (List.getElem?_eq_some_iff.mp hwd).1
        rw [hd] at g1
        rw [← ef]
        walk_at "go"
        have S4 := g6.trans s4
        refine ⟨wd, rfl, by have := hlen wd (List.mem_of_getElem? hwd); omega, fun hn H5 s5 => ?_, fun r T H5 hs hT s5 hr => ?_⟩
        · walk_at "go"
          refine g_tcut (fun b H' => b = true ∧ H' = H5) ?_ ?_
          · walk_at "go"
            refine ⟨rfl, ?_⟩
            walk_at "go"
            exact iteT ⟨rfl, rfl⟩
          · rintro b H' ⟨rfl, rfl⟩
            refine iteT ?_
            walk_at "go"
            refine g_kMkO rfl (Nat.le_of_ble_eq_true rfl) fun d H8 hd t8 e8 => ?_
            exact qe i d H8 (by rw [er, g1, rowsAt_bad hn]) ((S4.trans s5).fresh hd) ((S4.trans s5).trans t8) e8
        · walk_at "go"
          have F5 := s5.at0 (s4.at0 g4)
          refine g_tcut (fun b H' => b = !rises ltT found r ∧ Step [] H5 H') ?_ ?_
          · walk_at "go"
            refine ⟨rfl, ?_⟩
            walk_at "go"
            refine iteF ?_
            walk_at "go"
            refine g_tcut (fun b H' => b = !rises ltT found r ∧ Step [] H5 H') ?_ (fun b H' h => h)
            walk_at "go"
            intro E0' H6 hE s6 e6
            have F6 := s6.at0 F5
            have hP : Paired (rTk H6) vs found := Pmap g5 fun v x r => mTk _ _ _ _ (fun b o h => s6.at0 (s5.at0 (s4.at0 (hide_le _ _ h)))) r
            refine g_neC (cL cTk) (x := found) (y := []) ⟨F, vs, rfl, F6, hP⟩ ⟨E0', [], rfl, e6, .nil⟩ (fun r hr => (g3 r hr).ok) (by intro r hr; cases hr) ?_
            walk_at "go"
            cases ef : found with
            | nil =>
              rw [decide_eq_true rfl]
              refine iteF ⟨by rfl, s6⟩
            | cons r0 fr =>
              rw [← ef]
              have hne : found ≠ [] := by rw [ef]; exact List.cons_ne_nil _ _
              rw [decide_eq_false hne]
              refine iteT ?_
              walk_at "go"
              have hlast : found.getLast? = some (found.getLast hne) := List.getLast?_eq_some_getLast hne
              generalize found.getLast hne = l at hlast
              have hv : ∃ v, vs.getLast? = some v ∧ rTk H6 v l := by
                rw [List.getLast?_eq_getElem?] at hlast ⊢
                have hl := P_len hP
                have h0 : found.length - 1 < vs.length := by have := List.length_pos_iff.mpr hne; omega
                rw [hl]
                refine ⟨vs[found.length - 1], List.getElem?_eq_getElem h0, ?_⟩
                obtain ⟨y, hy, hr⟩ := P_get hP (List.getElem?_eq_getElem h0)
                rw [hlast] at hy
                cases hy
                exact hr
              obtain ⟨v, hv1, hv2⟩ := hv
              refine g_ixL F6 (at_last hv1) ?_
              have hri : rises ltT found r = ltT l r := by unfold rises; rw [hlast]
              have hr6 := mTk _ _ _ _ (fun b o h => s6.at0 (hide_le _ _ h)) (hr [] (by simp))
              rw [hri]
              obtain ⟨T1, _, _, rfl, hT1, rfl, _⟩ := hv2
              obtain ⟨T2, _, _, e2', hT2, rfl, _⟩ := hr6
              cases e2'
              walk_at "go"
              refine ⟨?_, s6⟩
              unfold ltT
              by_cases h : l.1 < r.1
              · rw [decide_eq_true h, decide_eq_false (by omega)]; rfl
              · rw [decide_eq_false h, decide_eq_true (by omega)]; rfl
          · rintro b H6 ⟨rfl, s6⟩
            have S6 := (S4.trans s5).trans s6
            cases hri : rises ltT found r with
            | false =>
              refine iteT ?_
              walk_at "go"
              refine g_kMkO rfl (Nat.le_of_ble_eq_true rfl) fun d H8 hd t8 e8 => ?_
              exact qe i d H8 (by rw [er, g1, rowsAt_some hs, if_neg (by rw [hri]; decide)]) (S6.fresh hd) (S6.trans t8) e8
            | true =>
              refine iteF ?_
              have d6 := s6.at0 F5
              walk_at "go"
              have lv := P_len g5
              refine g_append d6 (ltLine (by omega)) fun H7 t7 e7 => ?_
              have hle : Le (hide [F] H3) (hide [F] H7) := (s4.hid0.trans (s5.hid0.trans s6.hid0)).trans (t7.hid (by simp))
              rw [ef]
              refine ⟨found ++ [r], _, _, _, _, rfl, by rw [g1, rowsAt_some hs, if_pos hri], by rw [List.length_append, List.length_singleton, g2], fun x hx => ?_, e7, ?_, S6.via t7 hF, t7.at1 (s6.at0 (s5.at0 (s4.at0 g7))) FW.symm⟩
              · rcases List.mem_append.mp hx with hx | hx
                · exact g3 x hx
                · rw [List.mem_singleton.mp hx]; exact ticketIn_ok hs
              · exact P_snoc (mTk _ _ _ _ (s6.hid0.trans (t7.hid (by simp))) (hr [F] fun a ha => by rw [List.mem_singleton.mp ha, s4.at0 g4]; simp)) (Pmap g5 fun v x r => mTk _ _ _ _ hle r)
      · rintro σ H3 ⟨found, vs, v3, v4, v5, rfl, g1, g2, g3, g4, g5, g6, g7⟩
        walk_at "go"
        rw [List.length_map, List.drop_length] at g1
        exact ⟨found, vs, _, _, _, rfl, er.trans g1, g4, g5, g6⟩
  · rintro σ H3 ⟨found, vs, v3, v4, v5, rfl, g1, g4, g5, g6⟩
    walk_at "go"
    exact qo F found H3 g1 hF g6 ⟨F, vs, rfl, g4, Pmap g5 fun v x r => mTk _ _ _ _ (fun b o h => hide_le _ _ h) r⟩
end

end My
namespace My
open PySem PySem.Spec PyProof.Rows L2
/-! towns and tables read -/
def sp_read_town (K : PySem.W.Frag) : Sp := fun vs H Q E => (∃ (v : V) (a : String), vs = [v] ∧ TyX K H v (.type a) ∧ kitB a "str" = some false ∧ ∀ d H', H d = none → Step [] H H' → H' d = some (.xd [("at", .non)]) → E (.ref (He.ga K "NoText")) (some d) H') ∨ ∃ t : Str, vs = [.str t] ∧ t.length ≤ 4000 ∧ (Txt.split t " ").length ≤ 60 ∧
  (∀ T rows zs H', rowsIn houseIn ltH t = .inr rows → H T = none → Step [] H H' → zs.Perm rows → sortedS (zs.map (·.1)) = true → TownAt K H' T zs → Q (.ref T) H') ∧
  (∀ (k : Nat) d H', rowsIn houseIn ltH t = .inl k → H d = none → Step [] H H' → H' d = some (.xd [("at", .int k)]) → E (.ref (He.ga K "NoText")) (some d) H')
def sp_read_table (K : PySem.W.Frag) : Sp := fun vs H Q E => (∃ (v : V) (a : String), vs = [v] ∧ TyX K H v (.type a) ∧ kitB a "str" = some false ∧ ∀ d H', H d = none → Step [] H H' → H' d = some (.xd [("at", .non)]) → E (.ref (He.ga K "NoText")) (some d) H') ∨ ∃ t : Str, vs = [.str t] ∧ t.length ≤ 4000 ∧
  (∀ D rows H', rowsIn ticketIn ltT t = .inr rows → H D = none → Step [] H H' → rTb H' (.ref D) rows → Q (.ref D) H') ∧
  (∀ (k : Nat) d H', rowsIn ticketIn ltT t = .inl k → H d = none → Step [] H H' → H' d = some (.xd [("at", .int k)]) → E (.ref (He.ga K "NoText")) (some d) H')
theorem nd_of_ltH {rows : List Row} (h : rows.Pairwise (fun a b => ltH a b = true)) : (rows.map (·.1)).Nodup := by
  rw [List.nodup_iff_pairwise_ne, List.pairwise_map]
  refine h.imp fun {a b} hab e => ?_
  unfold ltH at hab
  rw [decide_eq_true_eq, e] at hab
  exact List.lt_irrefl _ hab
theorem nd_of_ltT {rows : Tb} (h : rows.Pairwise (fun a b => ltT a b = true)) : (rows.map (·.1)).Nodup := by
  rw [List.nodup_iff_pairwise_ne, List.pairwise_map]
  refine h.imp fun {a b} hab e => ?_
  unfold ltT at hab
  rw [decide_eq_true_eq, e] at hab
  omega
theorem find_new {β : Type} : ∀ {kvs : List (Key × V)} {xs : List (Int × β)} {q : V → β → Prop} {i : Int}, Paired (fun (p : Key × V) (x : Int × β) => p.1 = Sum.inl x.1 ∧ q p.2 x.2) kvs xs → i ∉ xs.map (·.1) → valV kvs (Sum.inl i) = none
  | _, _, _, _, .nil, _ => rfl
  | (k, v) :: _, (j, x) :: _, q, i, .cons h t, hi => by
    have h1 : k = Sum.inl j := h.1
    rw [List.map_cons, List.mem_cons] at hi
    rw [valV_neg (by rw [h1]; exact fun z => hi (.inl (Sum.inl.inj z).symm))]
    exact find_new t fun z => hi (.inr z)
section
variable {P : Program} {w : World} {K : PySem.W.Frag} {mg : Str → Option Value} {base : Heap}
theorem ok_read_town (C : Ctx K mg) : Has P w K mg base (L2.CX P w) 6 "read_town" ["text"] (sp_read_town K) := by
  obtain ⟨fd, F⟩ := fn_read_town C
  obtain ⟨f_rows_in, fd_rows_in, G_rows_in, mg_rows_in, kp_rows_in, b_rows_in⟩ := (ok_rows_in_h (P := P) (w := w) (base := base) C).ex
  obtain ⟨fd_mk_Town, G_mk_Town, b_mk_Town⟩ := (ok_Town_init (P := P) (w := w) (base := base) C).ex
  refine ⟨⟨_, fd, ?_, gl_read_town C, F.kp, F.bindsN fun _ _ _ _ _ _ us hl => match us, hl with | [_], _ => rfl⟩⟩
  refine F.ok (CX := L2.CX P w) sc_read_town (fun vs H Q E h => ?_) (fun cdv A outer s H vs Q E hr h => ?_)
  · first | (obtain ⟨_, rfl, _⟩ := h; rfl; done) | (obtain ⟨_, _, rfl, _⟩ := h; rfl; done) | (obtain ⟨_, _, _, rfl, _⟩ := h; rfl; done) | (obtain ⟨_, _, _, _, rfl, _⟩ := h; rfl; done) | (obtain ⟨_, _, _, _, _, rfl, _⟩ := h; rfl; done) | (obtain ⟨_, _, _, _, _, _, rfl, _⟩ := h; rfl; done) | (obtain ⟨_, _, _, _, _, _, _, rfl, _⟩ := h; rfl; done) | (obtain ⟨_, _, _, _, _, _, _, _, rfl, _⟩ := h; rfl; done) | (obtain ⟨_, _, _, _, _, _, _, _, _, rfl, _⟩ := h; rfl; done) | (obtain ⟨_, _, _, _, _, _, _, _, _, _, rfl, _⟩ := h; rfl; done) | (obtain ⟨_, _, _, _, _, _, _, _, _, _, _, rfl, _⟩ := h; rfl; done) | (obtain ⟨_, _, _, _, _, _, _, _, _, _, _, _, rfl, _⟩ := h; rfl; done) | (rcases h with h | h <;> first | (obtain ⟨_, rfl, _⟩ := h; rfl; done) | (obtain ⟨_, _, rfl, _⟩ := h; rfl; done) | (obtain ⟨_, _, _, rfl, _⟩ := h; rfl; done) | (obtain ⟨_, _, _, _, rfl, _⟩ := h; rfl; done) | (obtain ⟨_, _, _, _, _, rfl, _⟩ := h; rfl; done) | (obtain ⟨_, _, _, _, _, _, rfl, _⟩ := h; rfl; done) | (obtain ⟨_, _, _, _, _, _, _, rfl, _⟩ := h; rfl; done) | (obtain ⟨_, _, _, _, _, _, _, _, rfl, _⟩ := h; rfl; done) | (obtain ⟨_, _, _, _, _, _, _, _, _, rfl, _⟩ := h; rfl; done) | (obtain ⟨_, _, _, _, _, _, _, _, _, _, rfl, _⟩ := h; rfl; done) | (obtain ⟨_, _, _, _, _, _, _, _, _, _, _, rfl, _⟩ := h; rfl; done) | (obtain ⟨_, _, _, _, _, _, _, _, _, _, _, _, rfl, _⟩ := h; rfl; done))
  have hu := hu_of hr
  refine ⟨_, (pss_one (ps_ret (pe_make (mk_Town C) G_mk_Town (hr.mono (by decide)) rfl (gl_Town C) b_mk_Town .nil pass0 (pa_cons (pe_callS G_rows_in (hr.mono (by decide)) rfl mg_rows_in kp_rows_in b_rows_in (fun σ => passAt (takes_of rfl rfl rfl rfl) σ) (pa_cons (pv 0) (pa_cons (pe_glob (v := .ref (He.ga K "house_in")) (by rfl) (gl_house_in C) rfl) pa_nil))) pa_nil)))), ?_⟩
  rcases h with ⟨v, a, rfl, tyv, nos, qe⟩ | ⟨t, rfl, ht, hw, qo, qe⟩
  · walk_at "go"
    exact .inl ⟨v, a, rfl, tyv, nos, qe⟩
  walk_at "go"
  refine .inr ⟨t, rfl, ht, fun l rows H1 hr hl s1 hrows => ?_, fun k d H1 hk hd s1 e1 => qe k d H1 hk hd s1 e1⟩
  have okr := rowsIn_ok (p := RowOk) (fun w r h => houseIn_ok h) hr
  refine g_kMake fun x H2 hx s2 ⟨dx, hX⟩ => ?_
  exact ⟨x, l, dx, rows, rfl, hX, mL mRow _ _ _ _ s2.le hrows, okr.1, nd_of_ltH (rowsIn_pw ltH_tr hr), by omega, fun zs H3 hp hs s3 tw => ⟨rfl, qo x rows zs H3 hr (s1.fresh hx) ((s1.trans s2).via s3 (s1.fresh hx)) hp hs tw⟩⟩
theorem ok_read_table (C : Ctx K mg) : Has P w K mg base (L2.CX P w) 5 "read_table" ["text"] (sp_read_table K) := by
  obtain ⟨fd, F⟩ := fn_read_table C
  obtain ⟨f_rows_in, fd_rows_in, G_rows_in, mg_rows_in, kp_rows_in, b_rows_in⟩ := (ok_rows_in_t (P := P) (w := w) (base := base) C).ex
  refine ⟨⟨_, fd, ?_, gl_read_table C, F.kp, F.bindsN fun _ _ _ _ _ _ us hl => match us, hl with | [_], _ => rfl⟩⟩
  refine F.ok (CX := L2.CX P w) sc_read_table (fun vs H Q E h => ?_) (fun cdv A outer s H vs Q E hr h => ?_)
  · first | (obtain ⟨_, rfl, _⟩ := h; rfl; done) | (obtain ⟨_, _, rfl, _⟩ := h; rfl; done) | (obtain ⟨_, _, _, rfl, _⟩ := h; rfl; done) | (obtain ⟨_, _, _, _, rfl, _⟩ := h; rfl; done) | (obtain ⟨_, _, _, _, _, rfl, _⟩ := h; rfl; done) | (obtain ⟨_, _, _, _, _, _, rfl, _⟩ := h; rfl; done) | (obtain ⟨_, _, _, _, _, _, _, rfl, _⟩ := h; rfl; done) | (obtain ⟨_, _, _, _, _, _, _, _, rfl, _⟩ := h; rfl; done) | (obtain ⟨_, _, _, _, _, _, _, _, _, rfl, _⟩ := h; rfl; done) | (obtain ⟨_, _, _, _, _, _, _, _, _, _, rfl, _⟩ := h; rfl; done) | (obtain ⟨_, _, _, _, _, _, _, _, _, _, _, rfl, _⟩ := h; rfl; done) | (obtain ⟨_, _, _, _, _, _, _, _, _, _, _, _, rfl, _⟩ := h; rfl; done) | (rcases h with h | h <;> first | (obtain ⟨_, rfl, _⟩ := h; rfl; done) | (obtain ⟨_, _, rfl, _⟩ := h; rfl; done) | (obtain ⟨_, _, _, rfl, _⟩ := h; rfl; done) | (obtain ⟨_, _, _, _, rfl, _⟩ := h; rfl; done) | (obtain ⟨_, _, _, _, _, rfl, _⟩ := h; rfl; done) | (obtain ⟨_, _, _, _, _, _, rfl, _⟩ := h; rfl; done) | (obtain ⟨_, _, _, _, _, _, _, rfl, _⟩ := h; rfl; done) | (obtain ⟨_, _, _, _, _, _, _, _, rfl, _⟩ := h; rfl; done) | (obtain ⟨_, _, _, _, _, _, _, _, _, rfl, _⟩ := h; rfl; done) | (obtain ⟨_, _, _, _, _, _, _, _, _, _, rfl, _⟩ := h; rfl; done) | (obtain ⟨_, _, _, _, _, _, _, _, _, _, _, rfl, _⟩ := h; rfl; done) | (obtain ⟨_, _, _, _, _, _, _, _, _, _, _, _, rfl, _⟩ := h; rfl; done))
  have hu := hu_of hr
  refine ⟨_, (pss_one (ps_ret (pe_dc (own := [("ticket", 1), ("homes", 2)]) (g := (gTup K 2 (gCons (gName 1) (gCons (gName 2) gNil)))) (tt := tYes) rfl sc_read_table.nd (pi_list (pe_callS G_rows_in (hr.mono (by decide)) rfl mg_rows_in kp_rows_in b_rows_in (fun σ => passAt (takes_of rfl rfl rfl rfl) σ) (pa_cons (pv 0) (pa_cons (pe_glob (v := .ref (He.ga K "ticket_in")) (by rfl) (gl_ticket_in C) rfl) pa_nil)))) (blkOk_by (N := N_read_table) (sc := defScope s_read_table) (own := [("ticket", 1), ("homes", 2)]) (by decide +kernel)) (fun _ _ _ _ _ => (pg_tup rfl (pgs_cons (pg_name (i := 1) sc_read_table.nd rfl (Or.inl rfl)) (pgs_cons (pg_name (i := 2) sc_read_table.nd rfl (Or.inl rfl)) pgs_nil)))) (fun _ _ _ _ _ => pts_nil) (fun _ _ _ _ _ => (pv 1)) (fun _ _ _ _ _ => (pv 2))))), ?_⟩
  rcases h with ⟨v, a, rfl, tyv, nos, qe⟩ | ⟨t, rfl, ht, qo, qe⟩
  · walk_at "go"
    exact .inl ⟨v, a, rfl, tyv, nos, qe⟩
  walk_at "go"
  refine .inr ⟨t, rfl, ht, fun l rows H1 hr hl s1 hrows => ?_, fun k d H1 hk hd s1 e1 => qe k d H1 hk hd s1 e1⟩
  have okr := rowsIn_ok (p := TkOk) (fun w r h => ticketIn_ok h) hr
  obtain ⟨_, vs, ⟨⟩, hl1, hlp⟩ := id hrows
  have cu := cut_at 32 t (by decide)
  rw [← c_blank] at cu
  have hm := cu.many
  have nr := nd_of_ltT (rowsIn_pw ltT_tr hr)
  refine g_kList hl1 (wDc_list (xs := vs) fun D H2 hD s2 e2 => ?_)
  refine ⟨fun i H' => ∃ kvs, H' D = some (.dK kvs) ∧ Paired (fun (p : Key × V) (x : Int × List Str) => p.1 = Sum.inl x.1 ∧ rL rS (hide [D] H') p.2 x.2) kvs (rows.take i) ∧ Step [] H1 H', ⟨[], e2, .nil, s2⟩, ?_, ?_, ?_⟩
  · rintro i H3 _ ⟨kvs, g1, g2, g3⟩
    exact g3.at0 hl1
  · rintro i x H3 hx ⟨kvs, g1, g2, g3⟩
    obtain ⟨⟨k, hs⟩, hz, T, _, b, rfl, hT, rfl, hb⟩ := P_get hlp hx
    dsimp only at hT
    have hi : i < rows.length := (List.getElem?_eq_some_iff.mp hz).1
    refine g_tup2 (g3.at0 hT) ?_
    walk_at "go"
    have lk : kvs.length = i := by rw [P_len g2, List.length_take]; omega
    have hnew : k ∉ (rows.take i).map (·.1) := fun hm => by
      rw [List.map_take] at hm
      obtain ⟨j, hj, ej⟩ := List.mem_iff_getElem.mp hm
      rw [List.length_take] at hj
      rw [List.getElem_take] at ej
      have e1 : (rows.map (·.1))[j]? = some k := by rw [List.getElem?_eq_getElem (by omega), ej]
      have e2 : (rows.map (·.1))[i]? = some k := by rw [List.getElem?_map, hz]; rfl
      have := nd_ix nr e1 e2
      omega
    refine g_kElD g1 (ltLine (by omega)) fun H6 s6 e6 => ?_
    rw [putK_new _ (find_new g2 hnew)] at e6
    refine ⟨_, e6, ?_, g3.via s6 hD⟩
    rw [List.take_add_one, hz]
    have hle : Le (hide [D] H3) (hide [D] H6) := s6.hid (by simp)
    exact P_snoc ⟨rfl, mL mS _ _ _ _ (fun b o h => hide_at (s6.at1 (g3.at0 h) (ne_of_none h hD)) (by simpa using ne_of_none h hD)) hb⟩ (Pmap g2 fun p x r => ⟨r.1, mL mS _ _ _ _ hle r.2⟩)
  · rintro H3 ⟨kvs, g1, g2, g3⟩
    rw [P_len hlp, List.take_length] at g2
    exact qo D rows H3 hr (s1.fresh hD) (s1.trans g3) ⟨D, kvs, rfl, g1, Pmap g2 fun p x r => ⟨r.1, mL mS _ _ _ _ (fun b o h => hide_le _ _ h) r.2⟩⟩
end

end My
namespace My
open PySem PySem.Spec PyProof.Rows L2
/-! the law's own reading -/
def TOk (z : Str) : Prop := ∀ c ∈ cs z, c < 1114112
theorem TOk.add {a b : Str} (h1 : TOk a) (h2 : TOk b) : TOk (a ++ b) := fun c hc => by
  rw [cs_app] at hc
  rcases List.mem_append.mp hc with hc | hc
  · exact h1 c hc
  · exact h2 c hc
theorem TOk.low {a : Str} (h : ∀ c ∈ cs a, c < 128) : TOk a := fun c hc => by have := h c hc; omega
theorem IsNm.tok {z : Str} (h : IsNm z) : TOk z := fun c hc => by have := h.low c hc; unfold isLow at this; omega
theorem tok_num (i : Int) : TOk (numS i) := fun c hc => by
  rw [cs_numS] at hc
  have := TL.numL_digits _ c hc
  omega
def wds (z : Str) : Nat := (cs z).count 32
theorem wds_add (a b : Str) : wds (a ++ b) = wds a + wds b := by unfold wds; rw [cs_app, List.count_append]
theorem joinL_count : ∀ {ps : List (List Nat)}, ps ≠ [] → (∀ p ∈ ps, 32 ∉ p) → (TL.joinL [32] ps).count 32 + 1 = ps.length
  | [], h, _ => absurd rfl h
  | [p], _, h => by
    show p.count 32 + 1 = 1
    rw [List.count_eq_zero.mpr (h p (List.mem_cons_self ..))]
  | p :: q :: r, _, h => by
    have ih := joinL_count (ps := q :: r) (by simp) fun x hx => h x (List.mem_cons_of_mem _ hx)
    show (p ++ ([32] ++ TL.joinL [32] (q :: r))).count 32 + 1 = _
    rw [List.count_append, List.count_append, List.count_eq_zero.mpr (h p (List.mem_cons_self ..)), List.length_cons]
    simp only [List.count_cons_self, List.count_nil]
    omega
theorem joinL_tot : ∀ {ps : List (List Nat)}, ps ≠ [] → (TL.joinL [32] ps).length + 1 = (ps.map fun p => p.length + 1).sum
  | [], h => absurd rfl h
  | [p], _ => by simp [TL.joinL]
  | p :: q :: r, _ => by
    have ih := joinL_tot (ps := q :: r) (by simp)
    show (p ++ ([32] ++ TL.joinL [32] (q :: r))).length + 1 = _
    rw [List.map_cons, List.sum_cons, ← ih, List.length_append, List.length_append]
    simp only [List.length_singleton]
    omega
theorem cs_join (ws : List Str) : cs (Txt.join " " ws) = TL.joinL [32] (ws.map cs) := by
  rw [TL.join_eq, c_blank]
  exact TL.tl_join _ _
theorem split_wds (t : Str) : (Txt.split t " ").length = wds t + 1 := by
  have cu := cut_at 32 t (by decide)
  rw [← c_blank] at cu
  have h1 := joinL_count (ps := (Txt.split t " ").map cs) (by simpa using cu.ne) fun p hp => by
    obtain ⟨q, hq, rfl⟩ := List.mem_map.mp hp
    exact cu.free q hq
  have hj := cu.join
  rw [← c_blank] at hj
  rw [← cs_join, hj, List.length_map] at h1
  exact h1.symm
theorem join_wds {ws : List Str} (fr : ∀ p ∈ ws, 32 ∉ cs p) : wds (Txt.join " " ws) ≤ ws.length - 1 := by
  cases ws with
  | nil => exact Nat.zero_le _
  | cons w r =>
    have h1 := joinL_count (ps := (w :: r).map cs) (by simp) fun p hp => by
      obtain ⟨q, hq, rfl⟩ := List.mem_map.mp hp
      exact fr q hq
    rw [← cs_join, List.length_map] at h1
    show (cs _).count 32 ≤ _
    omega
theorem join_tot (ws : List Str) : (Txt.join " " ws).length ≤ (ws.map fun p => p.length + 1).sum := by
  cases ws with
  | nil => exact Nat.zero_le _
  | cons w r =>
    have h1 := joinL_tot (ps := (w :: r).map cs) (by simp)
    rw [← cs_join, cs_len, List.map_map] at h1
    have e : ((fun p : List Nat => p.length + 1) ∘ cs) = fun p : Str => p.length + 1 := by funext p; simp only [Function.comp, cs_len]
    rw [e] at h1
    omega
theorem joinL_mem : ∀ {ps : List (List Nat)} {c : Nat}, c ∈ TL.joinL [32] ps → c = 32 ∨ ∃ p ∈ ps, c ∈ p
  | [], c, h => by cases h
  | [p], c, h => .inr ⟨p, List.mem_cons_self .., h⟩
  | p :: q :: r, c, h => by
    have h : c ∈ p ++ ([32] ++ TL.joinL [32] (q :: r)) := h
    rcases List.mem_append.mp h with h | h
    · exact .inr ⟨p, List.mem_cons_self .., h⟩
    · rcases List.mem_append.mp h with h | h
      · exact .inl (List.mem_singleton.mp h)
      · rcases joinL_mem h with h | ⟨x, hx, h⟩
        · exact .inl h
        · exact .inr ⟨x, List.mem_cons_of_mem _ hx, h⟩
theorem join_tok {ws : List Str} (h : ∀ p ∈ ws, TOk p) : TOk (Txt.join " " ws) := fun c hc => by
  rw [cs_join] at hc
  rcases joinL_mem hc with rfl | ⟨p, hp, hc⟩
  · omega
  · obtain ⟨q, hq, rfl⟩ := List.mem_map.mp hp
    exact h q hq c hc
theorem split_tok {t : Str} (h : TOk t) : ∀ p ∈ Txt.split t " ", TOk p := fun p hp c hc => by
  have cu := cut_at 32 t (by decide)
  rw [← c_blank] at cu
  refine h c ?_
  have hj := cu.join
  rw [← c_blank] at hj
  rw [← hj, cs_join]
  have key : ∀ (ps : List (List Nat)) (q : List Nat), q ∈ ps → c ∈ q → c ∈ TL.joinL [32] ps := by
    intro ps
    induction ps with
    | nil => intro q hq; cases hq
    | cons p0 r ih =>
      intro q hq hcq
      cases r with
      | nil => rw [List.mem_singleton.mp hq] at hcq; exact hcq
      | cons p1 r =>
        show c ∈ p0 ++ ([32] ++ TL.joinL [32] (p1 :: r))
        rcases List.mem_cons.mp hq with rfl | hq
        · exact List.mem_append_left _ hcq
        · exact List.mem_append_right _ (List.mem_append_right _ (ih q hq hcq))
  exact key _ (cs p) (List.mem_map.mpr ⟨p, hp, rfl⟩) hc
theorem cs_to (z : Str) {k : Int} (h : 0 ≤ k) : cs (cutS z none (some k)) = (cs z).take k.toNat := by
  rw [cs_cut]
  show ((cs z).drop 0).take ((if k < 0 then (k + (z.length : Int)).toNat else min k.toNat z.length) - 0) = _
  rw [if_neg (by omega), List.drop_zero, Nat.sub_zero, List.take_eq_take_iff, cs_len]
  omega
theorem cs_from (z : Str) {k : Int} (h : 0 ≤ k) : cs (cutS z (some k) none) = (cs z).drop k.toNat := by
  rw [cs_cut]
  show ((cs z).drop (if k < 0 then (k + (z.length : Int)).toNat else min k.toNat z.length)).take (z.length - (if k < 0 then (k + (z.length : Int)).toNat else min k.toNat z.length)) = _
  rw [if_neg (by omega), List.take_of_length_le (by rw [List.length_drop, cs_len]; omega)]
  by_cases hl : k.toNat ≤ z.length
  · rw [Nat.min_eq_left hl]
  · rw [Nat.min_eq_right (by omega), List.drop_of_length_le (by rw [cs_len]; omega), List.drop_of_length_le (by rw [cs_len]; omega)]
theorem count_drop_le (l : List Nat) {a b : Nat} (h : a ≤ b) : (l.drop b).count 32 ≤ (l.drop a).count 32 := by
  have e : l.drop b = (l.drop a).drop (b - a) := by rw [List.drop_drop]; congr 1; omega
  rw [e]
  exact (List.drop_sublist _ _).count_le _
def sgn (c : Nat) : Str := ⟨#[c]⟩
theorem rS_sgn {H : Hp} {D : Addr} {l : List Nat} (h : H D = some (.lst ((l.map sgn).map V.str))) : rL rS H (.ref D) (l.map sgn) := rLS_of h
theorem tok_sgn {c : Nat} (h : c < 1114112) : StrOk (sgn c) := strOk_low fun d hd => by
  have : d = c := by simpa [cs, sgn] using hd
  omega
theorem filt_succ {p : Nat → Bool} {l : List Nat} {i c : Nat} (h : l[i]? = some c) : ((l.take (i + 1)).filter p) = (l.take i).filter p ++ (if p c = true then [c] else []) := by
  rw [List.take_add_one, h, List.filter_append]
  congr 1
  by_cases hp : p c = true
  · rw [if_pos hp]; exact List.filter_cons_of_pos hp
  · rw [if_neg hp]; exact List.filter_cons_of_neg hp
theorem filt_nil {p : Nat → Bool} {l : List Nat} : decide ((l.filter fun c => !p c).map sgn = []) = l.all p := by
  cases e : l.all p with
  | true =>
    rw [List.all_eq_true] at e
    rw [decide_eq_true_eq, List.map_eq_nil_iff, List.filter_eq_nil_iff]
    intro c hc; rw [e c hc]; decide
  | false =>
    rw [decide_eq_false_iff_not, List.map_eq_nil_iff, List.filter_eq_nil_iff]
    intro h
    have : l.all p = true := by
      rw [List.all_eq_true]
      intro c hc
      have := h c hc
      cases q : p c with
      | true => rfl
      | false => rw [q] at this; exact absurd rfl this
    rw [e] at this; cases this
def keyH (w : Str) : Option Str := (houseIn w).map (·.1)
def keyT (w : Str) : Option Int := (ticketIn w).map (·.1)
def sp_w_is_name : Sp := fun vs H Q _ => ∃ z : Str, vs = [.str z] ∧ z.length ≤ 5000 ∧ TOk z ∧ ∀ H', Step [] H H' → Q (.bl (nmB z)) H'
def sp_w_figures : Sp := fun vs H Q _ => ∃ (z : Str) (m : Int), vs = [.str z, .int m] ∧ z.length ≤ 5000 ∧ TOk z ∧ ∀ H', Step [] H H' → Q (.bl (figB m z)) H'
def sp_w_sign : Sp := fun vs H Q _ => ∃ (a : Addr) (c : Nat), vs = [.ref a] ∧ PotAt H a c ∧ c < 2 ^ 58 ∧ ∀ d H', d < 128 → Step [a] H H' → PotAt H' a (c + 2) → Q (.str (sgn d)) H'
def sp_w_bent : Sp := fun vs H Q _ => ∃ (a : Addr) (t : Str) (c : Nat), vs = [.ref a, .str t] ∧ PotAt H a c ∧ c < 2 ^ 57 ∧ TOk t ∧ t.length ≤ 3000 ∧
  ∀ t' H', TOk t' → t'.length ≤ 2 * t.length + 2 → wds t' ≤ wds t + 1 → Step [a] H H' → PotAt H' a (c + 10) → Q (.str t') H'
def sp_w_town_word : Sp := fun vs H Q _ => ∃ z : Str, vs = [.str z] ∧ z.length ≤ 4000 ∧ TOk z ∧ ∀ H', Step [] H H' → Q (oV V.str (keyH z)) H'
def sp_w_table_word : Sp := fun vs H Q _ => ∃ z : Str, vs = [.str z] ∧ z.length ≤ 4000 ∧ TOk z ∧ ∀ H', Step [] H H' → Q (oV V.int (keyT z)) H'
theorem lt_one {c d : Nat} : decide ([c] < [d]) = decide (c < d) := decide_eq_decide.mpr (by
  rw [List.cons_lt_cons_iff]
  constructor
  · rintro (h | ⟨_, h⟩)
    · exact h
    · exact absurd h (by simp)
  · exact .inl)
theorem cs_a : ("a" : Str).cps.toList = [97] := by decide +kernel
theorem cs_z : ("z" : Str).cps.toList = [122] := by decide +kernel
section
variable {P : Program} {w : World} {K : PySem.W.Frag} {mg : Str → Option Value} {base : Heap}
theorem ok_w_is_name (C : Ctx K mg) : Has P w K mg base CX0 1 "_law_is_name" ["thing"] sp_w_is_name := by
  obtain ⟨fd, F⟩ := fn_w_is_name C
  refine ⟨⟨_, fd, ?_, gl_w_is_name C, F.kp, F.bindsN fun _ _ _ _ _ _ us hl => match us, hl with | [_], _ => rfl⟩⟩
  refine F.ok (CX := CX0) sc_w_is_name (fun vs H Q E h => ?_) (fun cdv A outer s H vs Q E hr h => ?_)
  · first | (obtain ⟨_, rfl, _⟩ := h; rfl; done) | (obtain ⟨_, _, rfl, _⟩ := h; rfl; done) | (obtain ⟨_, _, _, rfl, _⟩ := h; rfl; done) | (obtain ⟨_, _, _, _, rfl, _⟩ := h; rfl; done) | (obtain ⟨_, _, _, _, _, rfl, _⟩ := h; rfl; done) | (obtain ⟨_, _, _, _, _, _, rfl, _⟩ := h; rfl; done) | (obtain ⟨_, _, _, _, _, _, _, rfl, _⟩ := h; rfl; done) | (obtain ⟨_, _, _, _, _, _, _, _, rfl, _⟩ := h; rfl; done) | (obtain ⟨_, _, _, _, _, _, _, _, _, rfl, _⟩ := h; rfl; done) | (obtain ⟨_, _, _, _, _, _, _, _, _, _, rfl, _⟩ := h; rfl; done) | (obtain ⟨_, _, _, _, _, _, _, _, _, _, _, rfl, _⟩ := h; rfl; done) | (obtain ⟨_, _, _, _, _, _, _, _, _, _, _, _, rfl, _⟩ := h; rfl; done) | (rcases h with h | h <;> first | (obtain ⟨_, rfl, _⟩ := h; rfl; done) | (obtain ⟨_, _, rfl, _⟩ := h; rfl; done) | (obtain ⟨_, _, _, rfl, _⟩ := h; rfl; done) | (obtain ⟨_, _, _, _, rfl, _⟩ := h; rfl; done) | (obtain ⟨_, _, _, _, _, rfl, _⟩ := h; rfl; done) | (obtain ⟨_, _, _, _, _, _, rfl, _⟩ := h; rfl; done) | (obtain ⟨_, _, _, _, _, _, _, rfl, _⟩ := h; rfl; done) | (obtain ⟨_, _, _, _, _, _, _, _, rfl, _⟩ := h; rfl; done) | (obtain ⟨_, _, _, _, _, _, _, _, _, rfl, _⟩ := h; rfl; done) | (obtain ⟨_, _, _, _, _, _, _, _, _, _, rfl, _⟩ := h; rfl; done) | (obtain ⟨_, _, _, _, _, _, _, _, _, _, _, rfl, _⟩ := h; rfl; done) | (obtain ⟨_, _, _, _, _, _, _, _, _, _, _, _, rfl, _⟩ := h; rfl; done))
  have hu := hu_of hr
  refine ⟨_, PSs.nox (pss_one (ps_ret (pe_and (pe_cmpR op_lt pe_int (pe_callB cr_lenSt (by rfl) (fr_len C) PySem.boot_len (pa_cons (pv 0) pa_nil)) (nomark _)) (pe_and (pe_cmpR op_lt (pe_callB cr_lenSt (by rfl) (fr_len C) PySem.boot_len (pa_cons (pv 0) pa_nil)) pe_int (nomark _)) (pe_one (pe_cmpR (op_eqD hr.units) (pe_lc (own := [("sign", 1)]) (g := (gName 1)) rfl sc_w_is_name.nd (pi_str (pv 0)) (blkOk_by (N := N_w_is_name) (sc := defScope s_w_is_name) (own := [("sign", 1)]) (by decide +kernel)) (fun _ _ _ _ _ => (pg_name (i := 1) sc_w_is_name.nd rfl (Or.inl rfl))) (fun _ _ _ _ _ => (pts_one (pt_cut (PW.pt (pw_or (pt_cmpR op_lt_str (pv 1) pe_str (nomark _)) (pw_or1 (pt_cmpR op_gt_str (pv 1) pe_str (nomark _)))))))) (fun _ _ _ _ _ => (pv 1))) (pe_lst pa_nil) (nomark _))))))), ?_⟩
  obtain ⟨z, rfl, hz, tk, q⟩ := h
  walk_at "go"
  refine g_lenSt (leLine (by omega)) ?_
  walk_at "go"
  unfold nmB at q
  by_cases h1 : 1 ≤ z.length
  · rw [decide_eq_true h1] at q
    rw [decide_eq_true (show (0 : Int) < (z.length : Nat) by omega)]
    refine iteT ?_
    walk_at "go"
    refine g_lenSt (leLine (by omega)) ?_
    walk_at "go"
    by_cases h2 : z.length ≤ 8
    · rw [decide_eq_true h2] at q
      rw [decide_eq_true (show ((z.length : Nat) : Int) < 9 by omega)]
      refine iteT ?_
      walk_at "go"
      refine wLc_str fun D H2 hD s2 e2 => ?_
      refine ⟨fun i G => G D = some (.lst (((((cs z).take i).filter fun c => !lowB c).map sgn).map V.str)) ∧ Step [] H G, ⟨e2, s2⟩, ?_, ?_⟩
      · rintro i c H3 hc ⟨g1, g2⟩
        walk_at "go"
        have hi : i < z.cps.size := (Array.getElem?_eq_some_iff.mp hc).1
        have hm : (cs z)[i]? = some c := by
          show z.cps.toList[i]? = some c
          simpa using hc
        have hsz : z.cps.size = z.length := rfl
        refine g_tcut (fun b H' => b = !lowB c ∧ H' = H3) ?_ ?_
        · walk_at "go"
          refine ⟨_, _, rfl, rfl, ?_⟩
          walk_at "go"
          rw [cs_a]
          show (if decide ([c] < [97]) = true then _ else _)
          rw [lt_one]
          unfold lowB
          by_cases h3 : c < 97
          · rw [decide_eq_true h3]
            refine iteT ⟨?_, rfl⟩
            rw [decide_eq_false (by omega)]; rfl
          · rw [decide_eq_false h3]
            refine iteF ?_
            walk_at "go"
            refine ⟨_, _, rfl, rfl, ?_⟩
            walk_at "go"
            rw [cs_z]
            show decide ([122] < [c]) = _ ∧ _
            rw [lt_one]
            refine ⟨?_, rfl⟩
            rw [decide_eq_true (show 97 ≤ c by omega), Bool.true_and]
            by_cases h4 : c ≤ 122
            · rw [decide_eq_true h4, decide_eq_false (by omega)]; rfl
            · rw [decide_eq_false h4, decide_eq_true (by omega)]; rfl
        · rintro b H' ⟨rfl, rfl⟩
          refine g_kTst ?_
          have lk : (((cs z).take i).filter fun c => !lowB c).length ≤ i := Nat.le_trans (List.length_filter_le _ _) (by rw [List.length_take]; omega)
          cases hb : lowB c with
          | true =>
            refine iteF ?_
            refine ⟨?_, g2⟩
            rw [filt_succ hm, hb, if_neg (show ¬ (!true) = true from by decide), List.append_nil]
            exact g1
          | false =>
            refine iteT ?_
            walk_at "go"
            refine g_kEl g1 (ltLine (by rw [List.length_map, List.length_map]; omega)) fun H4 s4 e4 => ⟨?_, g2.via s4 hD⟩
            rw [filt_succ hm, hb, e4, if_pos (show (!false) = true from rfl), List.map_append, List.map_append]
            rfl
      · rintro H3 ⟨g1, g2⟩
        rw [List.take_of_length_le (by rw [cs_len]; exact Nat.le_refl _)] at g1
        walk_at "go"
        intro E H4 hE s4 e4
        refine g_eqC (cL cS) (x := ((cs z).filter fun c => !lowB c).map sgn) (y := []) (rS_sgn (s4.at0 g1)) (rL_nil e4) (fun y hy => ?_) (by intro y hy; cases hy) ?_
        · obtain ⟨c, hc, rfl⟩ := List.mem_map.mp hy
          exact tok_sgn (tk c (List.mem_filter.mp hc).1)
        · rw [filt_nil]
          exact q H4 (g2.trans s4)
    · rw [decide_eq_false h2] at q
      rw [decide_eq_false (show ¬ ((z.length : Nat) : Int) < 9 by omega)]
      exact iteF (q H (Step.refl _ _))
  · rw [decide_eq_false h1] at q
    rw [decide_eq_false (show ¬ (0 : Int) < (z.length : Nat) by omega)]
    exact iteF (q H (Step.refl _ _))
theorem ok_w_figures (C : Ctx K mg) : Has P w K mg base CX0 1 "_law_figures" ["word", "most"] sp_w_figures := by
  obtain ⟨fd, F⟩ := fn_w_figures C
  refine ⟨⟨_, fd, ?_, gl_w_figures C, F.kp, F.bindsN fun _ _ _ _ _ _ us hl => match us, hl with | [_, _], _ => rfl⟩⟩
  refine F.ok (CX := CX0) sc_w_figures (fun vs H Q E h => ?_) (fun cdv A outer s H vs Q E hr h => ?_)
  · first | (obtain ⟨_, rfl, _⟩ := h; rfl; done) | (obtain ⟨_, _, rfl, _⟩ := h; rfl; done) | (obtain ⟨_, _, _, rfl, _⟩ := h; rfl; done) | (obtain ⟨_, _, _, _, rfl, _⟩ := h; rfl; done) | (obtain ⟨_, _, _, _, _, rfl, _⟩ := h; rfl; done) | (obtain ⟨_, _, _, _, _, _, rfl, _⟩ := h; rfl; done) | (obtain ⟨_, _, _, _, _, _, _, rfl, _⟩ := h; rfl; done) | (obtain ⟨_, _, _, _, _, _, _, _, rfl, _⟩ := h; rfl; done) | (obtain ⟨_, _, _, _, _, _, _, _, _, rfl, _⟩ := h; rfl; done) | (obtain ⟨_, _, _, _, _, _, _, _, _, _, rfl, _⟩ := h; rfl; done) | (obtain ⟨_, _, _, _, _, _, _, _, _, _, _, rfl, _⟩ := h; rfl; done) | (obtain ⟨_, _, _, _, _, _, _, _, _, _, _, _, rfl, _⟩ := h; rfl; done) | (rcases h with h | h <;> first | (obtain ⟨_, rfl, _⟩ := h; rfl; done) | (obtain ⟨_, _, rfl, _⟩ := h; rfl; done) | (obtain ⟨_, _, _, rfl, _⟩ := h; rfl; done) | (obtain ⟨_, _, _, _, rfl, _⟩ := h; rfl; done) | (obtain ⟨_, _, _, _, _, rfl, _⟩ := h; rfl; done) | (obtain ⟨_, _, _, _, _, _, rfl, _⟩ := h; rfl; done) | (obtain ⟨_, _, _, _, _, _, _, rfl, _⟩ := h; rfl; done) | (obtain ⟨_, _, _, _, _, _, _, _, rfl, _⟩ := h; rfl; done) | (obtain ⟨_, _, _, _, _, _, _, _, _, rfl, _⟩ := h; rfl; done) | (obtain ⟨_, _, _, _, _, _, _, _, _, _, rfl, _⟩ := h; rfl; done) | (obtain ⟨_, _, _, _, _, _, _, _, _, _, _, rfl, _⟩ := h; rfl; done) | (obtain ⟨_, _, _, _, _, _, _, _, _, _, _, _, rfl, _⟩ := h; rfl; done))
  have hu := hu_of hr
  refine ⟨_, PSs.nox (pss_cons (ps_if (pt_cut (PW.pt (pw_or (pt_cmpR op_eq (pv 0) pe_str (nomark _)) (pw_or (pt_cmpR op_gt (pe_callB cr_lenSt (by rfl) (fr_len C) PySem.boot_len (pa_cons (pv 0) pa_nil)) (pv 1) (nomark _)) (pw_or1 (pt_cmpR (op_neD hr.units) (pe_lc (own := [("sign", 2)]) (g := (gName 2)) rfl sc_w_figures.nd (pi_str (pv 0)) (blkOk_by (N := N_w_figures) (sc := defScope s_w_figures) (own := [("sign", 2)]) (by decide +kernel)) (fun _ _ _ _ _ => (pg_name (i := 2) sc_w_figures.nd rfl (Or.inl rfl))) (fun _ _ _ _ _ => (pts_one (pt_cmpR op_notIn_sign (pv 2) pe_str (by rfl)))) (fun _ _ _ _ _ => (pv 2))) (pe_lst pa_nil) (nomark _))))))) (pss_one (ps_ret pe_bl)) pss_nil)
    (pss_one (ps_ret (pe_or (pe_cmpR op_eq (pv 0) pe_str (nomark _)) (pe_one (pe_cmpR op_ne (pe_ix ix_str (pv 0) pe_int (fun _ _ => rfl)) pe_str (nomark _))))))), ?_⟩
  obtain ⟨z, m, rfl, hz, tk, q⟩ := h
  walk_at "go"
  refine g_tcut (fun b H' => (b = true ↔ ¬ (z ≠ "" ∧ (z.length : Int) ≤ m ∧ (cs z).all digB = true)) ∧ Step [] H H') ?_ ?_
  · walk_at "go"
    refine g_ite (fun hb => ⟨?_, Step.refl _ _⟩) (fun hb => ?_)
    · constructor
      · intro _ h; exact h.1 hb
      · intro _; rfl
    walk_at "go"
    refine g_lenSt (leLine (by omega)) ?_
    walk_at "go"
    refine g_ite (fun hb2 => ⟨?_, Step.refl _ _⟩) (fun hb2 => ?_)
    · constructor
      · intro _ h; omega
      · intro _; rfl
    walk_at "go"
    refine wLc_str fun D H2 hD s2 e2 => ?_
    refine ⟨fun i G => G D = some (.lst (((((cs z).take i).filter fun c => !digB c).map sgn).map V.str)) ∧ Step [] H G, ⟨e2, s2⟩, ?_, ?_⟩
    · rintro i c H3 hc ⟨g1, g2⟩
      walk_at "go"
      have hi : i < z.cps.size := (Array.getElem?_eq_some_iff.mp hc).1
      have hm : (cs z)[i]? = some c := by
        show z.cps.toList[i]? = some c
        simpa using hc
      have hsz : z.cps.size = z.length := rfl
      refine ⟨c, _, rfl, rfl, ?_⟩
      have ed : decide (c ∈ cs ("0123456789" : Str)) = digB c := figures_dec
      have ed2 : decide (c ∈ ("0123456789" : Str).cps.toList) = digB c := ed
      rw [ed2]
      walk_at "go"
      have lk : (((cs z).take i).filter fun c => !digB c).length ≤ i := Nat.le_trans (List.length_filter_le _ _) (by rw [List.length_take]; omega)
      refine g_kTst ?_
      cases hb : digB c with
      | true =>
        refine iteF ?_
        refine ⟨?_, g2⟩
        rw [filt_succ hm, hb, if_neg (show ¬ (!true) = true from by decide), List.append_nil]
        exact g1
      | false =>
        refine iteT ?_
        walk_at "go"
        refine g_kEl g1 (ltLine (by rw [List.length_map, List.length_map]; omega)) fun H4 s4 e4 => ⟨?_, g2.via s4 hD⟩
        rw [filt_succ hm, hb, e4, if_pos (show (!false) = true from rfl), List.map_append, List.map_append]
        rfl
    · rintro H3 ⟨g1, g2⟩
      rw [List.take_of_length_le (by rw [cs_len]; exact Nat.le_refl _)] at g1
      walk_at "go"
      intro E H4 hE s4 e4
      refine g_neC (cL cS) (x := ((cs z).filter fun c => !digB c).map sgn) (y := []) (rS_sgn (s4.at0 g1)) (rL_nil e4) (fun y hy => ?_) (by intro y hy; cases hy) ?_
      · obtain ⟨c, hc, rfl⟩ := List.mem_map.mp hy
        exact tok_sgn (tk c (List.mem_filter.mp hc).1)
      · walk_at "go"
        rw [filt_nil]
        refine ⟨?_, g2.trans s4⟩
        cases h2 : (cs z).all digB with
        | false =>
          constructor
          · intro _ h; exact absurd h.2.2 (by decide)
          · intro _; rfl
        | true =>
          constructor
          · intro h; cases h
          · intro h; exact absurd ⟨hb, by omega, rfl⟩ h
  · rintro b H' ⟨hb, s1⟩
    cases b with
    | true =>
      refine iteT ?_
      walk_at "go"
      have e : figB m z = false := by
        cases h : figB m z with
        | false => rfl
        | true =>
          unfold figB at h
          simp only [Bool.and_eq_true, Bool.not_eq_true', decide_eq_false_iff_not, decide_eq_true_eq] at h
          exact absurd ⟨h.1, h.2.1, h.2.2.1⟩ (hb.mp rfl)
      rw [← e]
      exact q H' s1
    | false =>
      have hb : z ≠ "" ∧ (z.length : Int) ≤ m ∧ (cs z).all digB = true := Classical.byContradiction fun h => absurd (hb.mpr h) (by decide)
      refine iteF ?_
      walk_at "go"
      have e0 : figB m z = (decide (z = "0") || !decide ((cs z).head? = some 48)) := by
        unfold figB
        rw [decide_eq_false hb.1, decide_eq_true hb.2.1, hb.2.2]
        simp
      refine g_ite (fun h0 => ?_) (fun h0 => ?_)
      · rw [decide_eq_true h0, Bool.true_or] at e0
        rw [← e0]
        exact q H' s1
      · walk_at "go"
        rw [decide_eq_false h0, Bool.false_or] at e0
        obtain ⟨c, cl, ec⟩ : ∃ c cl, cs z = c :: cl := by
          cases h : cs z with
          | nil => exact absurd (show z = "" from TL.ext_tl h) hb.1
          | cons c cl => exact ⟨c, cl, rfl⟩
        have e1 : atI z.cps.toList 0 = some c := by
          have : z.cps.toList = c :: cl := ec
          rw [this]; exact at_nat (k := 0) rfl
        refine g_ixS (leLine (by omega)) e1 ?_
        walk_at "go"
        have e2 : (!decide ((⟨#[c]⟩ : Str) = "0")) = figB m z := by
          rw [e0, ec]
          congr 1
          have : ((⟨#[c]⟩ : Str) = "0") ↔ ((c :: cl).head? = some 48) := by
            have e0 : ("0" : Str) = ⟨#[48]⟩ := by decide +kernel
            rw [e0]
            simp
          exact decide_eq_decide.mpr this
        rw [e2]
        exact q H' s1
end

end My
namespace My
open PySem PySem.Spec PyProof.Rows L2
/-! signs, bends, words read by the law -/
theorem go_sign {H H1 : Hp} {Q : VK} {z : Str} {r : Int} (hl : z.length ≤ sizeLine) (ha : ∀ c ∈ cs z, c < 128) (r0 : 0 ≤ r) (r1 : r < (z.length : Nat)) (q : ∀ d, d < 128 → Q (.str (sgn d)) H) : rIxS (.str z) (.int r) H Q := by
  have l : r.toNat < (cs z).length := by rw [cs_len]; omega
  have e : atI z.cps.toList r = some (cs z)[r.toNat] := at_int r0 (List.getElem?_eq_getElem l)
  exact g_ixS hl e (q _ (ha _ (List.getElem_mem l)))
def texS (t : Str) (ps : List Str) : Prop := CutAt 32 t ps
theorem erase_map {α β : Type} {f : α → β} : ∀ {l : List α} {k : Nat}, (l.map f).eraseIdx k = (l.eraseIdx k).map f
  | [], _ => rfl
  | _ :: _, 0 => rfl
  | _ :: r, k + 1 => by
    simp only [List.map_cons, List.eraseIdx_cons_succ, erase_map (l := r)]
theorem tok_no : TOk Str.empty := fun c hc => by cases hc
theorem tot_erase : ∀ {ws : List Str} {k : Nat}, ((ws.eraseIdx k).map fun p => p.length + 1).sum ≤ (ws.map fun p => p.length + 1).sum
  | [], _ => by simp
  | w :: r, 0 => by simp only [List.eraseIdx_cons_zero, List.map_cons, List.sum_cons]; omega
  | w :: r, k + 1 => by
    have := tot_erase (ws := r) (k := k)
    simp only [List.eraseIdx_cons_succ, List.map_cons, List.sum_cons]; omega
theorem tot_ins {ws : List Str} {w : Str} {k : Nat} : ((ws.take k ++ [w] ++ ws.drop k).map fun p => p.length + 1).sum = (ws.map fun p => p.length + 1).sum + (w.length + 1) := by
  have e : (ws.map fun p => p.length + 1).sum = ((ws.take k ++ ws.drop k).map fun p => p.length + 1).sum := by rw [List.take_append_drop]
  rw [e]
  simp only [List.map_append, List.sum_append, List.map_cons, List.map_nil, List.sum_cons, List.sum_nil]
  omega
theorem tot_split (t : Str) : ((Txt.split t " ").map fun p => p.length + 1).sum = t.length + 1 := by
  have cu := cut_at 32 t (by decide)
  rw [← c_blank] at cu
  have hj := cu.join
  rw [← c_blank] at hj
  have h1 := joinL_tot (ps := (Txt.split t " ").map cs) (by simpa using cu.ne)
  rw [← cs_join, hj, cs_len, List.map_map] at h1
  have e : ((fun p : List Nat => p.length + 1) ∘ cs) = fun p : Str => p.length + 1 := by funext p; simp only [Function.comp, cs_len]
  rw [e] at h1
  exact h1.symm
theorem tot_mem : ∀ {ws : List Str} {w : Str}, w ∈ ws → w.length + 1 ≤ (ws.map fun p => p.length + 1).sum
  | a :: r, w, h => by
    rw [List.map_cons, List.sum_cons]
    rcases List.mem_cons.mp h with rfl | h
    · omega
    · have := tot_mem h; omega
theorem split_free (t : Str) : ∀ p ∈ Txt.split t " ", 32 ∉ cs p := by
  have cu := cut_at 32 t (by decide)
  rw [← c_blank] at cu
  exact cu.free
section
variable {P : Program} {w : World} {K : PySem.W.Frag} {mg : Str → Option Value} {base : Heap}
theorem ok_w_sign (C : Ctx K mg) : Has P w K mg base CX0 2 "_law_sign" ["pot"] sp_w_sign := by
  obtain ⟨fd, F⟩ := fn_w_sign C
  obtain ⟨f_w_pick, fd_w_pick, G_w_pick, mg_w_pick, kp_w_pick, b_w_pick⟩ := (ok_w_pick (P := P) (w := w) (base := base) C).ex
  refine ⟨⟨_, fd, ?_, gl_w_sign C, F.kp, F.bindsN fun _ _ _ _ _ _ us hl => match us, hl with | [_], _ => rfl⟩⟩
  refine F.ok (CX := CX0) sc_w_sign (fun vs H Q E h => ?_) (fun cdv A outer s H vs Q E hr h => ?_)
  · first | (obtain ⟨_, rfl, _⟩ := h; rfl; done) | (obtain ⟨_, _, rfl, _⟩ := h; rfl; done) | (obtain ⟨_, _, _, rfl, _⟩ := h; rfl; done) | (obtain ⟨_, _, _, _, rfl, _⟩ := h; rfl; done) | (obtain ⟨_, _, _, _, _, rfl, _⟩ := h; rfl; done) | (obtain ⟨_, _, _, _, _, _, rfl, _⟩ := h; rfl; done) | (obtain ⟨_, _, _, _, _, _, _, rfl, _⟩ := h; rfl; done) | (obtain ⟨_, _, _, _, _, _, _, _, rfl, _⟩ := h; rfl; done) | (obtain ⟨_, _, _, _, _, _, _, _, _, rfl, _⟩ := h; rfl; done) | (obtain ⟨_, _, _, _, _, _, _, _, _, _, rfl, _⟩ := h; rfl; done) | (obtain ⟨_, _, _, _, _, _, _, _, _, _, _, rfl, _⟩ := h; rfl; done) | (obtain ⟨_, _, _, _, _, _, _, _, _, _, _, _, rfl, _⟩ := h; rfl; done) | (rcases h with h | h <;> first | (obtain ⟨_, rfl, _⟩ := h; rfl; done) | (obtain ⟨_, _, rfl, _⟩ := h; rfl; done) | (obtain ⟨_, _, _, rfl, _⟩ := h; rfl; done) | (obtain ⟨_, _, _, _, rfl, _⟩ := h; rfl; done) | (obtain ⟨_, _, _, _, _, rfl, _⟩ := h; rfl; done) | (obtain ⟨_, _, _, _, _, _, rfl, _⟩ := h; rfl; done) | (obtain ⟨_, _, _, _, _, _, _, rfl, _⟩ := h; rfl; done) | (obtain ⟨_, _, _, _, _, _, _, _, rfl, _⟩ := h; rfl; done) | (obtain ⟨_, _, _, _, _, _, _, _, _, rfl, _⟩ := h; rfl; done) | (obtain ⟨_, _, _, _, _, _, _, _, _, _, rfl, _⟩ := h; rfl; done) | (obtain ⟨_, _, _, _, _, _, _, _, _, _, _, rfl, _⟩ := h; rfl; done) | (obtain ⟨_, _, _, _, _, _, _, _, _, _, _, _, rfl, _⟩ := h; rfl; done))
  have hu := hu_of hr
  refine ⟨_, PSs.nox (pss_cons (ps_if (pt_cmpR op_eq (pe_call G_w_pick (hr.mono (by decide)) rfl mg_w_pick kp_w_pick b_w_pick .nil pass0 (pa_cons (pv 0) (pa_cons pe_int pa_nil))) pe_int (nomark _)) (pss_one (ps_ret (pe_ix ix_str pe_str (pe_call G_w_pick (hr.mono (by decide)) rfl mg_w_pick kp_w_pick b_w_pick .nil pass0 (pa_cons (pv 0) (pa_cons pe_int pa_nil))) (fun _ _ => rfl)))) pss_nil)
    (pss_cons (ps_set (i := 1) sc_w_sign.nd rfl (Or.inl rfl) pe_str)
    (pss_one (ps_ret (pe_ix ix_str (pv 1) (pe_call G_w_pick (hr.mono (by decide)) rfl mg_w_pick kp_w_pick b_w_pick .nil pass0 (pa_cons (pv 0) (pa_cons (pe_callB cr_lenSt (by rfl) (fr_len C) PySem.boot_len (pa_cons (pv 1) pa_nil)) pa_nil))) (fun _ _ => rfl)))))), ?_⟩
  obtain ⟨a, c, rfl, hp, hc, q⟩ := h
  walk_at "go"
  refine go_pick hp (by decide) (by decide) (by omega) fun r1 H1 r10 r11 s1 p1 => ?_
  walk_at "go"
  refine g_ite (fun _ => ?_) (fun _ => ?_)
  · walk_at "go"
    refine go_pick p1 (by decide) (by decide) (by omega) fun r2 H2 r20 r21 s2 p2 => ?_
    have ln : (" @*:,0123456789az" : Str).length = 17 := by decide +kernel
    exact go_sign (H1 := H) (by decide +kernel) (by decide +kernel) r20 (by rw [ln]; exact r21) fun d hd => q d H2 hd (s1.trans s2) p2
  · walk_at "go"
    refine g_lenSt (by decide +kernel) ?_
    walk_at "go"
    refine go_pick p1 ?_ ?_ (by omega) fun r2 H2 r20 r21 s2 p2 => ?_
    · decide +kernel
    · decide +kernel
    exact go_sign (H1 := H) (by decide +kernel) (by decide +kernel) r20 r21 fun d hd => q d H2 hd (s1.trans s2) p2
theorem ok_w_bent (C : Ctx K mg) : Has P w K mg base CX0 3 "_law_bent" ["pot", "text"] sp_w_bent := by
  obtain ⟨fd, F⟩ := fn_w_bent C
  obtain ⟨f_w_pick, fd_w_pick, G_w_pick, mg_w_pick, kp_w_pick, b_w_pick⟩ := (ok_w_pick (P := P) (w := w) (base := base) C).ex
  obtain ⟨f_w_sign, fd_w_sign, G_w_sign, mg_w_sign, kp_w_sign, b_w_sign⟩ := (ok_w_sign (P := P) (w := w) (base := base) C).ex
  refine ⟨⟨_, fd, ?_, gl_w_bent C, F.kp, F.bindsN fun _ _ _ _ _ _ us hl => match us, hl with | [_, _], _ => rfl⟩⟩
  refine F.ok (CX := CX0) sc_w_bent (fun vs H Q E h => ?_) (fun cdv A outer s H vs Q E hr h => ?_)
  · first | (obtain ⟨_, rfl, _⟩ := h; rfl; done) | (obtain ⟨_, _, rfl, _⟩ := h; rfl; done) | (obtain ⟨_, _, _, rfl, _⟩ := h; rfl; done) | (obtain ⟨_, _, _, _, rfl, _⟩ := h; rfl; done) | (obtain ⟨_, _, _, _, _, rfl, _⟩ := h; rfl; done) | (obtain ⟨_, _, _, _, _, _, rfl, _⟩ := h; rfl; done) | (obtain ⟨_, _, _, _, _, _, _, rfl, _⟩ := h; rfl; done) | (obtain ⟨_, _, _, _, _, _, _, _, rfl, _⟩ := h; rfl; done) | (obtain ⟨_, _, _, _, _, _, _, _, _, rfl, _⟩ := h; rfl; done) | (obtain ⟨_, _, _, _, _, _, _, _, _, _, rfl, _⟩ := h; rfl; done) | (obtain ⟨_, _, _, _, _, _, _, _, _, _, _, rfl, _⟩ := h; rfl; done) | (obtain ⟨_, _, _, _, _, _, _, _, _, _, _, _, rfl, _⟩ := h; rfl; done) | (rcases h with h | h <;> first | (obtain ⟨_, rfl, _⟩ := h; rfl; done) | (obtain ⟨_, _, rfl, _⟩ := h; rfl; done) | (obtain ⟨_, _, _, rfl, _⟩ := h; rfl; done) | (obtain ⟨_, _, _, _, rfl, _⟩ := h; rfl; done) | (obtain ⟨_, _, _, _, _, rfl, _⟩ := h; rfl; done) | (obtain ⟨_, _, _, _, _, _, rfl, _⟩ := h; rfl; done) | (obtain ⟨_, _, _, _, _, _, _, rfl, _⟩ := h; rfl; done) | (obtain ⟨_, _, _, _, _, _, _, _, rfl, _⟩ := h; rfl; done) | (obtain ⟨_, _, _, _, _, _, _, _, _, rfl, _⟩ := h; rfl; done) | (obtain ⟨_, _, _, _, _, _, _, _, _, _, rfl, _⟩ := h; rfl; done) | (obtain ⟨_, _, _, _, _, _, _, _, _, _, _, rfl, _⟩ := h; rfl; done) | (obtain ⟨_, _, _, _, _, _, _, _, _, _, _, _, rfl, _⟩ := h; rfl; done))
  have hu := hu_of hr
  refine ⟨_, PSs.nox (pss_cons (ps_set (i := 2) sc_w_bent.nd rfl (Or.inl rfl) (pe_call G_w_pick (hr.mono (by decide)) rfl mg_w_pick kp_w_pick b_w_pick .nil pass0 (pa_cons (pv 0) (pa_cons pe_int pa_nil))))
    (pss_cons (ps_set (i := 3) sc_w_bent.nd rfl (Or.inl rfl) (pe_call G_w_pick (hr.mono (by decide)) rfl mg_w_pick kp_w_pick b_w_pick .nil pass0 (pa_cons (pv 0) (pa_cons (pe_op op_add (pe_callB cr_lenSt (by rfl) (fr_len C) PySem.boot_len (pa_cons (pv 1) pa_nil)) pe_int) pa_nil))))
    (pss_cons (ps_if (pt_cmpR op_lt (pv 2) pe_int (nomark _)) (pss_one (ps_ret (pe_op op_addS (pe_op op_addS (pe_slice sl_str (pv 1) po_none (po_some (pv 3))) (pe_ix ix_list (pe_lst (pa_cons pe_str (pa_cons (pe_call G_w_sign (hr.mono (by decide)) rfl mg_w_sign kp_w_sign b_w_sign .nil pass0 (pa_cons (pv 0) pa_nil)) pa_nil))) (pe_callTy call_int1 (by rfl) (fr_int C) (by decide +kernel) (pa_cons (pe_cmpR op_gt (pv 2) pe_int (nomark _)) pa_nil)) (fun _ _ => rfl))) (pe_slice sl_str (pv 1) (po_some (pe_op op_add (pv 3) (pe_callTy call_int1 (by rfl) (fr_int C) (by decide +kernel) (pa_cons (pe_cmpR op_lt (pv 2) pe_int (nomark _)) pa_nil)))) po_none)))) pss_nil)
    (pss_cons (ps_set (i := 4) sc_w_bent.nd rfl (Or.inl rfl) (pe_splitR (pv 1) pe_str))
    (pss_cons (ps_set (i := 5) sc_w_bent.nd rfl (Or.inl rfl) (pe_call G_w_pick (hr.mono (by decide)) rfl mg_w_pick kp_w_pick b_w_pick .nil pass0 (pa_cons (pv 0) (pa_cons (pe_callB cr_lenL (by rfl) (fr_len C) PySem.boot_len (pa_cons (pv 4) pa_nil)) pa_nil))))
    (pss_cons (ps_set (i := 6) sc_w_bent.nd rfl (Or.inl rfl) (pe_ix ix_list (pv 4) (pv 5) (fun _ _ => rfl)))
    (pss_cutM (ps_if (pt_cut (PW.pt (pw_or (pt_cmpR op_eq (pv 2) pe_int (nomark _)) (pw_or1 (pt_cmpR op_eq (pv 2) pe_int (nomark _)))))) (pss_one (ps_expr (pe_bm PySem.F.plainAttrs_list PySem.F.slot_list_pop PySem.F.type_list_pop mt_popAt (pv 4) (pa_cons (pv 5) pa_nil)))) pss_nil)
    (pss_cutM (ps_if (pt_cut (PW.pt (pw_or (pt_cmpR op_eq (pv 2) pe_int (nomark _)) (pw_or1 (pt_cmpR op_eq (pv 2) pe_int (nomark _)))))) (pss_one (ps_expr (pe_bm PySem.F.plainAttrs_list PySem.F.slot_list_insert PySem.F.type_list_insert mt_insertR (pv 4) (pa_cons (pe_call G_w_pick (hr.mono (by decide)) rfl mg_w_pick kp_w_pick b_w_pick .nil pass0 (pa_cons (pv 0) (pa_cons (pe_op op_add (pe_callB cr_lenL (by rfl) (fr_len C) PySem.boot_len (pa_cons (pv 4) pa_nil)) pe_int) pa_nil))) (pa_cons (pv 6) pa_nil))))) pss_nil)
    (pss_one (ps_ret (pe_joinR pe_str (pv 4)))))))))))), ?_⟩
  obtain ⟨a, t, c, rfl, hp, hc, tk, ht, q⟩ := h
  walk_at "go"
  refine go_pick hp (by decide) (by decide) (by omega) fun way H1 w0 w1 s1 p1 => ?_
  walk_at "go"
  refine g_lenSt (leLine (by omega)) ?_
  walk_at "go"
  refine go_pick p1 (by omega) (by omega) (by omega) fun sp H2 sp0 sp1 s2 p2 => ?_
  walk_at "go"
  refine g_ite (fun hw => ?_) (fun hw => ?_)
  · walk_at "go"
    refine g_slS (leLine (by omega)) ?_
    walk_at "go"
    refine ⟨a, _, rfl, p2, by omega, fun d H3 hd s3 p3 => ?_⟩
    walk_at "go"
    intro L H4 hL s4 e4
    walk_at "go"
    refine .inr ⟨_, rfl, ?_⟩
    obtain ⟨m, hm, em⟩ : ∃ m : Str, (m = "" ∨ m = sgn d) ∧ atI [V.str "", V.str (sgn d)] (b2i (decide (0 < way))) = some (.str m) := by
      by_cases h : 0 < way
      · rw [decide_eq_true h]; exact ⟨sgn d, .inr rfl, rfl⟩
      · rw [decide_eq_false h]; exact ⟨"", .inl rfl, rfl⟩
    refine g_ixL e4 em ?_
    have l1 : (cutS t none (some sp)).length ≤ t.length := len_cut_le _ _ _
    have l2 : m.length ≤ 1 := by
      rcases hm with rfl | rfl
      · exact Nat.le_of_ble_eq_true rfl
      · exact Nat.le_refl _
    refine g_addS (leLine (by omega)) ?_
    walk_at "go"
    refine .inr ⟨_, rfl, ?_⟩
    walk_at "go"
    have hb : 0 ≤ (if decide (way < 2) = true then (1 : Int) else 0) := by cases decide (way < 2) <;> decide
    generalize (if decide (way < 2) = true then (1 : Int) else 0) = bb at hb ⊢
    refine g_slS (leLine (by omega)) ?_
    have l3 : (cutS t (some (sp + bb)) none).length ≤ t.length := len_cut_le _ _ _
    refine g_addS (leLine (by rw [len_app]; omega)) ?_
    have mt : TOk m := by
      rcases hm with rfl | rfl
      · exact fun c hc => by rw [cs_no] at hc; cases hc
      · exact fun c hc => by
          have : c = d := by simpa [cs, sgn] using hc
          omega
    have hm1 : wds m ≤ 1 := by
      unfold wds
      exact Nat.le_trans List.count_le_length (by rw [cs_len]; exact l2)
    refine q _ H4 ((TOk.add (fun c hc => tk c (mem_cut hc)) mt).add fun c hc => tk c (mem_cut hc)) (by rw [len_app, len_app]; omega) ?_ (((s1.trans s2).trans s3).trans s4.up) ((p3.step0 s4).mono (by omega))
    rw [wds_add, wds_add]
    unfold wds at hm1 ⊢
    rw [cs_to t sp0, cs_from t (by omega)]
    have c1 := count_drop_le (cs t) (show sp.toNat ≤ (sp + bb).toNat by omega)
    have c2 : (cs t).count 32 = ((cs t).take sp.toNat).count 32 + ((cs t).drop sp.toNat).count 32 := by rw [← List.count_append, List.take_append_drop]
    omega
  · walk_at "go"
    refine g_split (by decide +kernel) (leLine (by omega)) fun L H3 hL s3 e3 => ?_
    have tot := tot_split t
    have fr := split_free t
    have tks := split_tok tk
    have many := split_wds t
    have lmem : ∀ x ∈ Txt.split t " ", x.length + 1 ≤ t.length + 1 := fun x hx => by rw [← tot]; exact tot_mem hx
    have hwd : wds t ≤ t.length := Nat.le_trans List.count_le_length (by rw [cs_len]; exact Nat.le_refl _)
    generalize Txt.split t " " = ws at *
    walk_at "go"
    rw [List.length_map]
    have aL : a ≠ L := p2.ne hL
    refine go_pick (p2.step0 s3) (by omega) (by omega) (by omega) fun at_ H4 at0 at1 s4 p4 => ?_
    have e4 := s4.at1 e3 aL.symm
    obtain ⟨wd, hwd1, hwd2⟩ := at_in (xs := ws) at0 at1
    walk_at "go"
    refine g_ixL e4 (at_int at0 (by rw [List.getElem?_map, hwd1]; rfl)) ?_
    have hwm := List.mem_of_getElem? hwd1
    have hwl := lmem wd hwm
    walk_at "go"
    have S4 : Step [a] H H4 := ((s1.trans s2).trans s3.up).trans s4
    refine g_cut (fun σ H' => ∃ us : List Str, σ = [some (.ref a), some (.str t), some (.int way), some (.int sp), some (.ref L), some (.int at_), some (.str wd)] ∧ H' L = some (.lst (us.map V.str)) ∧ (∀ x ∈ us, x ∈ ws) ∧ us.length ≤ ws.length ∧ (us.map fun p => p.length + 1).sum ≤ t.length + 1 ∧ Step [a] H H' ∧ PotAt H' a (c + 4)) ?_ ?_
    · walk_at "go"
      refine g_tcut (fun b H' => H' = H4) ?_ ?_
      · walk_at "go"
        refine g_ite (fun _ => rfl) fun _ => ?_
        walk_at "go"
        rfl
      · rintro b H' rfl
        cases b with
        | true =>
          refine iteT ?_
          walk_at "go"
          have lt : at_.toNat < ws.length := by omega
          refine g_popAt (k := at_.toNat) e4 (by omega) (by omega) (by rw [List.length_map]; exact seqIx_in at0 at1) (by rw [List.getElem?_map, List.getElem?_eq_getElem lt]; rfl) fun H5 s5 e5 => ?_
          refine ⟨ws.eraseIdx at_.toNat, rfl, by rw [e5, erase_map], fun x hx => List.mem_of_mem_eraseIdx hx, by rw [List.length_eraseIdx]; split <;> omega, Nat.le_trans tot_erase (Nat.le_of_eq tot), S4.via s5 ((s1.trans s2).fresh hL), (p4.step1 s5 aL).mono (by omega)⟩
        | false =>
          refine iteF ?_
          walk_at "go"
          exact ⟨ws, rfl, e4, fun x hx => hx, Nat.le_refl _, Nat.le_of_eq tot, S4, p4.mono (by omega)⟩
    · rintro σ H5 ⟨us, rfl, e5, hu1, hu2, hu3, S5, p5⟩
      walk_at "go"
      refine g_cut (fun σ H' => ∃ us : List Str, σ = [some (.ref a), some (.str t), some (.int way), some (.int sp), some (.ref L), some (.int at_), some (.str wd)] ∧ H' L = some (.lst (us.map V.str)) ∧ (∀ x ∈ us, x ∈ ws) ∧ us.length ≤ ws.length + 1 ∧ (us.map fun p => p.length + 1).sum ≤ 2 * t.length + 2 ∧ Step [a] H H' ∧ PotAt H' a (c + 6)) ?_ ?_
      · walk_at "go"
        refine g_tcut (fun b H' => H' = H5) ?_ ?_
        · walk_at "go"
          refine g_ite (fun _ => rfl) fun _ => ?_
          walk_at "go"
          rfl
        · rintro b H' rfl
          cases b with
          | true =>
            refine iteT ?_
            walk_at "go"
            rw [List.length_map]
            refine go_pick p5 (by omega) (by omega) (by omega) fun ri H6 ri0 ri1 s6 p6 => ?_
            walk_at "go"
            refine g_insert (s6.at1 e5 aL.symm) (ltLine (by rw [List.length_map]; omega)) ri0 (by omega) fun H7 s7 e7 => ?_
            refine ⟨us.take ri.toNat ++ [wd] ++ us.drop ri.toNat, rfl, by rw [e7]; simp only [List.map_append, List.map_take, List.map_drop, List.map_cons, List.map_nil], fun x hx => ?_, ?_, ?_, (S5.trans s6).via s7 ((s1.trans s2).fresh hL), (p6.step1 s7 aL).mono (by omega)⟩
            · simp only [List.mem_append, List.mem_singleton] at hx
              rcases hx with (hx | rfl) | hx
              · exact hu1 x (List.mem_of_mem_take hx)
              · exact hwm
              · exact hu1 x (List.mem_of_mem_drop hx)
            · simp only [List.length_append, List.length_take, List.length_drop, List.length_singleton]; omega
            · rw [tot_ins]; omega
          | false =>
            refine iteF ?_
            walk_at "go"
            exact ⟨us, rfl, e5, hu1, by omega, by omega, S5, p5.mono (by omega)⟩
      · rintro σ H6 ⟨xs, rfl, e6, hx1, hx2, hx3, S6, p6⟩
        walk_at "go"
        refine g_join e6 ?_ ?_
        · rw [l_blank]
          have : (xs.map (·.length)).sum ≤ xs.length * 3000 := sum_le fun s hs => by have := lmem s (hx1 s hs); omega
          omega
        · refine q _ H6 (join_tok fun x hx => tks x (hx1 x hx)) (Nat.le_trans (join_tot xs) (by omega)) (Nat.le_trans (join_wds fun x hx => fr x (hx1 x hx)) (by omega)) S6 (p6.mono (by omega))
theorem ok_w_town_word (C : Ctx K mg) : Has P w K mg base CX0 2 "_law_town_word" ["word"] sp_w_town_word := by
  obtain ⟨fd, F⟩ := fn_w_town_word C
  obtain ⟨f_w_is_name, fd_w_is_name, G_w_is_name, mg_w_is_name, kp_w_is_name, b_w_is_name⟩ := (ok_w_is_name (P := P) (w := w) (base := base) C).ex
  obtain ⟨f_w_figures, fd_w_figures, G_w_figures, mg_w_figures, kp_w_figures, b_w_figures⟩ := (ok_w_figures (P := P) (w := w) (base := base) C).ex
  refine ⟨⟨_, fd, ?_, gl_w_town_word C, F.kp, F.bindsN fun _ _ _ _ _ _ us hl => match us, hl with | [_], _ => rfl⟩⟩
  refine F.ok (CX := CX0) sc_w_town_word (fun vs H Q E h => ?_) (fun cdv A outer s H vs Q E hr h => ?_)
  · first | (obtain ⟨_, rfl, _⟩ := h; rfl; done) | (obtain ⟨_, _, rfl, _⟩ := h; rfl; done) | (obtain ⟨_, _, _, rfl, _⟩ := h; rfl; done) | (obtain ⟨_, _, _, _, rfl, _⟩ := h; rfl; done) | (obtain ⟨_, _, _, _, _, rfl, _⟩ := h; rfl; done) | (obtain ⟨_, _, _, _, _, _, rfl, _⟩ := h; rfl; done) | (obtain ⟨_, _, _, _, _, _, _, rfl, _⟩ := h; rfl; done) | (obtain ⟨_, _, _, _, _, _, _, _, rfl, _⟩ := h; rfl; done) | (obtain ⟨_, _, _, _, _, _, _, _, _, rfl, _⟩ := h; rfl; done) | (obtain ⟨_, _, _, _, _, _, _, _, _, _, rfl, _⟩ := h; rfl; done) | (obtain ⟨_, _, _, _, _, _, _, _, _, _, _, rfl, _⟩ := h; rfl; done) | (obtain ⟨_, _, _, _, _, _, _, _, _, _, _, _, rfl, _⟩ := h; rfl; done) | (rcases h with h | h <;> first | (obtain ⟨_, rfl, _⟩ := h; rfl; done) | (obtain ⟨_, _, rfl, _⟩ := h; rfl; done) | (obtain ⟨_, _, _, rfl, _⟩ := h; rfl; done) | (obtain ⟨_, _, _, _, rfl, _⟩ := h; rfl; done) | (obtain ⟨_, _, _, _, _, rfl, _⟩ := h; rfl; done) | (obtain ⟨_, _, _, _, _, _, rfl, _⟩ := h; rfl; done) | (obtain ⟨_, _, _, _, _, _, _, rfl, _⟩ := h; rfl; done) | (obtain ⟨_, _, _, _, _, _, _, _, rfl, _⟩ := h; rfl; done) | (obtain ⟨_, _, _, _, _, _, _, _, _, rfl, _⟩ := h; rfl; done) | (obtain ⟨_, _, _, _, _, _, _, _, _, _, rfl, _⟩ := h; rfl; done) | (obtain ⟨_, _, _, _, _, _, _, _, _, _, _, rfl, _⟩ := h; rfl; done) | (obtain ⟨_, _, _, _, _, _, _, _, _, _, _, _, rfl, _⟩ := h; rfl; done))
  have hu := hu_of hr
  refine ⟨_, PSs.nox (pss_cons (ps_asg (pe_partR (pv 0) pe_str) (pg_tup rfl (pgs_cons (pg_name (i := 1) sc_w_town_word.nd rfl (Or.inl rfl)) (pgs_cons (pg_name (i := 2) sc_w_town_word.nd rfl (Or.inl rfl)) (pgs_cons (pg_name (i := 3) sc_w_town_word.nd rfl (Or.inl rfl)) pgs_nil)))))
    (pss_cons (ps_asg (pe_partR (pv 3) pe_str) (pg_tup rfl (pgs_cons (pg_name (i := 4) sc_w_town_word.nd rfl (Or.inl rfl)) (pgs_cons (pg_name (i := 5) sc_w_town_word.nd rfl (Or.inl rfl)) (pgs_cons (pg_name (i := 6) sc_w_town_word.nd rfl (Or.inl rfl)) pgs_nil)))))
    (pss_cons (ps_if (pt_cut (PW.pt (pw_or (pt_cmpR op_eq (pv 2) pe_str (nomark _)) (pw_or (pt_cmpR op_eq (pv 5) pe_str (nomark _)) (pw_or (pt_not (pt_val (pe_call G_w_is_name (hr.mono (by decide)) rfl mg_w_is_name kp_w_is_name b_w_is_name .nil pass0 (pa_cons (pv 1) pa_nil)))) (pw_or1 (pt_not (pt_val (pe_call G_w_is_name (hr.mono (by decide)) rfl mg_w_is_name kp_w_is_name b_w_is_name .nil pass0 (pa_cons (pv 4) pa_nil)))))))))) (pss_one (ps_ret pe_non)) pss_nil)
    (pss_cons (ps_if (pt_cut (PW.pt (pw_or (pt_not (pt_val (pe_call G_w_figures (hr.mono (by decide)) rfl mg_w_figures kp_w_figures b_w_figures .nil pass0 (pa_cons (pv 6) (pa_cons pe_int pa_nil))))) (pw_or1 (pt_cmpR op_gt (pe_callTy call_int_str (by rfl) (fr_int C) (by decide +kernel) (pa_cons (pv 6) pa_nil)) pe_int (nomark _)))))) (pss_one (ps_ret pe_non)) pss_nil)
    (pss_one (ps_ret (pv 1))))))), ?_⟩
  obtain ⟨z, rfl, hz, tk, q⟩ := h
  walk_at "go"
  refine g_partition (by decide +kernel) (leLine (by omega)) fun T1 H1 hT1 s1 e1 => ?_
  refine g_tup3 e1 ?_
  unfold keyH houseIn at q
  have l1 := part_len 64 z
  have k1 := part_cases 64 z
  rw [← c_at] at l1 k1
  generalize Txt.partition z "@" = p1 at *
  have tk1 : TOk p1.1 ∧ TOk p1.2.2 ∧ (p1.2.1 = "" → p1.2.2 = "") := by
    rcases k1 with ⟨x, y, e, _, rfl⟩ | ⟨_, rfl⟩
    · refine ⟨fun c hc => tk c ?_, fun c hc => tk c ?_, fun h => ?_⟩
      · rw [e, cs_app, cs_app]; exact List.mem_append_left _ (List.mem_append_left _ hc)
      · rw [e, cs_app, cs_app]; exact List.mem_append_right _ hc
      · have := congrArg Str.length h
        exact absurd this (by rw [l_at]; decide)
    · exact ⟨tk, tok_no, fun _ => rfl⟩
  walk_at "go"
  refine g_partition (by decide +kernel) (leLine (by omega)) fun T2 H2 hT2 s2 e2 => ?_
  refine g_tup3 e2 ?_
  have l2 := part_len 42 p1.2.2
  have k2 := part_cases 42 p1.2.2
  rw [← c_star] at l2 k2
  have ke : p1.2.2 = "" → Txt.partition p1.2.2 "*" = (Str.empty, Str.empty, Str.empty) := fun h => by rw [h]; decide +kernel
  generalize Txt.partition p1.2.2 "*" = p2 at *
  have tk2 : TOk p2.1 ∧ TOk p2.2.2 ∧ (p2.2.1 = "" → p2.2.2 = "") := by
    rcases k2 with ⟨x, y, e, _, rfl⟩ | ⟨_, rfl⟩
    · refine ⟨fun c hc => tk1.2.1 c ?_, fun c hc => tk1.2.1 c ?_, fun h => ?_⟩
      · rw [e, cs_app, cs_app]; exact List.mem_append_left _ (List.mem_append_left _ hc)
      · rw [e, cs_app, cs_app]; exact List.mem_append_right _ hc
      · have := congrArg Str.length h
        exact absurd this (by rw [l_star]; decide)
    · exact ⟨tk1.2.1, tok_no, fun _ => rfl⟩
  clear k1 k2
  have fe : figB 4 "" = false := by decide +kernel
  have ne : nmB "" = false := by decide +kernel
  walk_at "go"
  refine g_tcut (fun b H' => (b = true ↔ ¬ (nmB p1.1 = true ∧ nmB p2.1 = true ∧ p2.2.1 ≠ "")) ∧ Step [] H H') ?_ ?_
  · walk_at "go"
    have S2 := s1.trans s2
    refine g_ite (fun hb => ⟨?_, S2⟩) (fun hb => ?_)
    · constructor
      · intro _ h
        have := ke (tk1.2.2 hb)
        rw [this] at h
        exact h.2.2 rfl
      · intro _; rfl
    walk_at "go"
    refine g_ite (fun hb2 => ⟨?_, S2⟩) (fun hb2 => ?_)
    · constructor
      · intro _ h; exact h.2.2 hb2
      · intro _; rfl
    walk_at "go"
    refine ⟨_, rfl, by omega, tk1.1, fun H3 s3 => ?_⟩
    walk_at "go"
    cases h1 : nmB p1.1 with
    | false => exact iteT ⟨by simp, S2.trans s3⟩
    | true =>
      refine iteF ?_
      walk_at "go"
      refine ⟨_, rfl, by omega, tk2.1, fun H4 s4 => ?_⟩
      walk_at "go"
      refine ⟨?_, (S2.trans s3).trans s4⟩
      cases h2 : nmB p2.1 with
      | false => simp
      | true => simp [hb2]
  · rintro b H3 ⟨hb, s3⟩
    cases b with
    | true =>
      refine iteT ?_
      walk_at "go"
      rw [if_neg] at q
      · exact q H3 s3
      · intro h
        rw [Bool.and_eq_true, Bool.and_eq_true, Bool.and_eq_true, decide_eq_true_eq] at h
        refine hb.mp rfl ⟨h.1, h.2.1, fun e => ?_⟩
        rw [tk2.2.2 e, fe] at h
        exact absurd h.2.2.1 (by decide)
    | false =>
      have hb := Classical.byContradiction fun h => absurd (hb.mpr h) (by decide)
      refine iteF ?_
      walk_at "go"
      refine g_tcut (fun b H' => (b = true ↔ ¬ (figB 4 p2.2.2 = true ∧ valS p2.2.2 ≤ 1000)) ∧ Step [] H H') ?_ ?_
      · walk_at "go"
        refine ⟨_, _, rfl, by omega, tk2.2.1, fun H4 s4 => ?_⟩
        walk_at "go"
        cases h3 : figB 4 p2.2.2 with
        | false => exact iteT ⟨by simp, s3.trans s4⟩
        | true =>
          refine iteF ?_
          walk_at "go"
          obtain ⟨i1, i2⟩ := int_of_fig h3 (by decide)
          refine ⟨_, _, rfl, i1, i2, ?_⟩
          walk_at "go"
          exact ⟨by simp, s3.trans s4⟩
      · rintro b H4 ⟨hb4, s4⟩
        cases b with
        | true =>
          refine iteT ?_
          walk_at "go"
          rw [if_neg] at q
          · exact q H4 s4
          · intro h
            rw [Bool.and_eq_true, Bool.and_eq_true, Bool.and_eq_true, decide_eq_true_eq] at h
            exact hb4.mp rfl h.2.2
        | false =>
          have hb4 := Classical.byContradiction fun h => absurd (hb4.mpr h) (by decide)
          refine iteF ?_
          walk_at "go"
          rw [if_pos (by rw [hb.1, hb.2.1, hb4.1, decide_eq_true hb4.2]; rfl)] at q
          exact q H4 s4
theorem ok_w_table_word (C : Ctx K mg) : Has P w K mg base CX0 2 "_law_table_word" ["word"] sp_w_table_word := by
  obtain ⟨fd, F⟩ := fn_w_table_word C
  obtain ⟨f_w_figures, fd_w_figures, G_w_figures, mg_w_figures, kp_w_figures, b_w_figures⟩ := (ok_w_figures (P := P) (w := w) (base := base) C).ex
  obtain ⟨f_w_is_name, fd_w_is_name, G_w_is_name, mg_w_is_name, kp_w_is_name, b_w_is_name⟩ := (ok_w_is_name (P := P) (w := w) (base := base) C).ex
  refine ⟨⟨_, fd, ?_, gl_w_table_word C, F.kp, F.bindsN fun _ _ _ _ _ _ us hl => match us, hl with | [_], _ => rfl⟩⟩
  refine F.ok (CX := CX0) sc_w_table_word (fun vs H Q E h => ?_) (fun cdv A outer s H vs Q E hr h => ?_)
  · first | (obtain ⟨_, rfl, _⟩ := h; rfl; done) | (obtain ⟨_, _, rfl, _⟩ := h; rfl; done) | (obtain ⟨_, _, _, rfl, _⟩ := h; rfl; done) | (obtain ⟨_, _, _, _, rfl, _⟩ := h; rfl; done) | (obtain ⟨_, _, _, _, _, rfl, _⟩ := h; rfl; done) | (obtain ⟨_, _, _, _, _, _, rfl, _⟩ := h; rfl; done) | (obtain ⟨_, _, _, _, _, _, _, rfl, _⟩ := h; rfl; done) | (obtain ⟨_, _, _, _, _, _, _, _, rfl, _⟩ := h; rfl; done) | (obtain ⟨_, _, _, _, _, _, _, _, _, rfl, _⟩ := h; rfl; done) | (obtain ⟨_, _, _, _, _, _, _, _, _, _, rfl, _⟩ := h; rfl; done) | (obtain ⟨_, _, _, _, _, _, _, _, _, _, _, rfl, _⟩ := h; rfl; done) | (obtain ⟨_, _, _, _, _, _, _, _, _, _, _, _, rfl, _⟩ := h; rfl; done) | (rcases h with h | h <;> first | (obtain ⟨_, rfl, _⟩ := h; rfl; done) | (obtain ⟨_, _, rfl, _⟩ := h; rfl; done) | (obtain ⟨_, _, _, rfl, _⟩ := h; rfl; done) | (obtain ⟨_, _, _, _, rfl, _⟩ := h; rfl; done) | (obtain ⟨_, _, _, _, _, rfl, _⟩ := h; rfl; done) | (obtain ⟨_, _, _, _, _, _, rfl, _⟩ := h; rfl; done) | (obtain ⟨_, _, _, _, _, _, _, rfl, _⟩ := h; rfl; done) | (obtain ⟨_, _, _, _, _, _, _, _, rfl, _⟩ := h; rfl; done) | (obtain ⟨_, _, _, _, _, _, _, _, _, rfl, _⟩ := h; rfl; done) | (obtain ⟨_, _, _, _, _, _, _, _, _, _, rfl, _⟩ := h; rfl; done) | (obtain ⟨_, _, _, _, _, _, _, _, _, _, _, rfl, _⟩ := h; rfl; done) | (obtain ⟨_, _, _, _, _, _, _, _, _, _, _, _, rfl, _⟩ := h; rfl; done))
  have hu := hu_of hr
  refine ⟨_, PSs.nox (pss_cons (ps_asg (pe_partR (pv 0) pe_str) (pg_tup rfl (pgs_cons (pg_name (i := 1) sc_w_table_word.nd rfl (Or.inl rfl)) (pgs_cons (pg_name (i := 2) sc_w_table_word.nd rfl (Or.inl rfl)) (pgs_cons (pg_name (i := 3) sc_w_table_word.nd rfl (Or.inl rfl)) pgs_nil)))))
    (pss_cons (ps_set (i := 4) sc_w_table_word.nd rfl (Or.inl rfl) (pe_splitR (pv 3) pe_str))
    (pss_cons (ps_if (pt_cut (PW.pt (pw_or (pt_cmpR op_eq (pv 2) pe_str (nomark _)) (pw_or (pt_not (pt_val (pe_call G_w_figures (hr.mono (by decide)) rfl mg_w_figures kp_w_figures b_w_figures .nil pass0 (pa_cons (pv 1) (pa_cons pe_int pa_nil))))) (pw_or (pt_cmpR op_gt (pe_callB cr_lenL (by rfl) (fr_len C) PySem.boot_len (pa_cons (pv 4) pa_nil)) pe_int (nomark _)) (pw_or1 (pt_cmpR op_lt (pe_lenSetS rfl (by rfl) (fr_len C) (by rfl) (fr_set C) (pv 4)) (pe_callB cr_lenL (by rfl) (fr_len C) PySem.boot_len (pa_cons (pv 4) pa_nil)) (nomark _)))))))) (pss_one (ps_ret pe_non)) pss_nil)
    (pss_cons (ps_if (pt_cmpR (op_neD hr.units) (pe_lc (own := [("home", 5)]) (g := (gName 5)) rfl sc_w_table_word.nd (pi_list (pv 4)) (blkOk_by (N := N_w_table_word) (sc := defScope s_w_table_word) (own := [("home", 5)]) (by decide +kernel)) (fun _ _ _ _ _ => (pg_name (i := 5) sc_w_table_word.nd rfl (Or.inl rfl))) (fun _ _ _ _ _ => (pts_one (pt_not (pt_val (pe_call G_w_is_name (hr.mono (by decide)) rfl mg_w_is_name kp_w_is_name b_w_is_name .nil pass0 (pa_cons (pv 5) pa_nil)))))) (fun _ _ _ _ _ => (pv 5))) (pe_lst pa_nil) (nomark _)) (pss_one (ps_ret pe_non)) pss_nil)
    (pss_one (ps_ret (pe_callTy call_int_str (by rfl) (fr_int C) (by decide +kernel) (pa_cons (pv 1) pa_nil)))))))), ?_⟩
  obtain ⟨z, rfl, hz, tk, q⟩ := h
  walk_at "go"
  refine g_partition (by decide +kernel) (leLine (by omega)) fun T1 H1 hT1 s1 e1 => ?_
  refine g_tup3 e1 ?_
  unfold keyT ticketIn at q
  have l1 := part_len 58 z
  have k1 := part_cases 58 z
  rw [← c_colon] at l1 k1
  generalize Txt.partition z ":" = p1 at *
  have tk1 : TOk p1.1 ∧ TOk p1.2.2 ∧ (p1.2.1 = "" → p1.2.2 = "") := by
    rcases k1 with ⟨x, y, e, _, rfl⟩ | ⟨_, rfl⟩
    · refine ⟨fun c hc => tk c ?_, fun c hc => tk c ?_, fun h => ?_⟩
      · rw [e, cs_app, cs_app]; exact List.mem_append_left _ (List.mem_append_left _ hc)
      · rw [e, cs_app, cs_app]; exact List.mem_append_right _ hc
      · have := congrArg Str.length h
        exact absurd this (by rw [l_colon]; decide)
    · exact ⟨tk, tok_no, fun _ => rfl⟩
  clear k1
  walk_at "go"
  refine g_split (by decide +kernel) (leLine (by omega)) fun L H2 hL s2 e2 => ?_
  have cu := cut_at 44 p1.2.2 (by decide)
  rw [← c_comma] at cu
  have hm := cu.many
  have hln := cu.len
  have hjn := cu.join
  have ke : p1.2.2 = "" → (Txt.split p1.2.2 ",").all nmB = false := fun h => by rw [h]; decide +kernel
  have tkh : ∀ x ∈ Txt.split p1.2.2 ",", TOk x := fun x hx c hc => by
    refine tk1.2.1 c ?_
    rw [← hjn]
    have hx2 : c ∈ cs x := hc
    have key : ∀ (ps : List (List Nat)) (q : List Nat), q ∈ ps → c ∈ q → c ∈ TL.joinL [44] ps := by
      intro ps
      induction ps with
      | nil => intro q hq; cases hq
      | cons p0 r ih =>
        intro q hq hcq
        cases r with
        | nil => rw [List.mem_singleton.mp hq] at hcq; exact hcq
        | cons p1 r =>
          show c ∈ p0 ++ ([44] ++ TL.joinL [44] (p1 :: r))
          rcases List.mem_cons.mp hq with rfl | hq
          · exact List.mem_append_left _ hcq
          · exact List.mem_append_right _ (List.mem_append_right _ (ih q hq hcq))
    have ej : cs (Txt.join ⟨#[44]⟩ (Txt.split p1.2.2 ",")) = TL.joinL [44] ((Txt.split p1.2.2 ",").map cs) := by
      rw [TL.join_eq]; exact TL.tl_join _ _
    rw [ej]
    exact key _ (cs x) (List.mem_map.mpr ⟨x, hx, rfl⟩) hc
  clear cu hjn
  generalize Txt.split p1.2.2 "," = hs at *
  walk_at "go"
  refine g_tcut (fun b H' => (b = true ↔ ¬ (p1.2.1 ≠ "" ∧ figB 9 p1.1 = true ∧ hs.length ≤ 10 ∧ hs.Nodup)) ∧ Step [] H2 H') ?_ ?_
  · walk_at "go"
    refine g_ite (fun hb => ⟨?_, Step.refl _ _⟩) (fun hb0 => ?_)
    · constructor
      · intro _ h; exact h.1 hb
      · intro _; rfl
    walk_at "go"
    refine ⟨_, _, rfl, by omega, tk1.1, fun H3 s3 => ?_⟩
    walk_at "go"
    cases h1 : figB 9 p1.1 with
    | false => exact iteT ⟨by simp, s3⟩
    | true =>
      refine iteF ?_
      have e3 := s3.at0 e2
      walk_at "go"
      rw [List.length_map]
      refine g_ite (fun hb => ⟨?_, s3⟩) (fun hb => ?_)
      · constructor
        · intro _ h; omega
        · intro _; rfl
      walk_at "go"
      refine g_kLenSetS e3 (by omega) ?_
      walk_at "go"
      rw [List.length_map]
      refine ⟨?_, s3⟩
      rw [decide_eq_true_eq]
      have c1 := cntS_le hs hs.length
      have c2 := cntS_nodup (xs := hs) hs.length (Nat.le_refl _)
      rw [List.take_length] at c2
      constructor
      · intro h1 h2
        have := c2.mpr h2.2.2.2
        omega
      · intro h1
        have : ¬ cntS hs hs.length = hs.length := fun e => h1 ⟨hb0, rfl, by omega, c2.mp e⟩
        omega
  · rintro b H3 ⟨hb, s3⟩
    have S3 := (s1.trans s2).trans s3
    cases b with
    | true =>
      refine iteT ?_
      walk_at "go"
      rw [if_neg] at q
      · exact q H3 S3
      · intro h
        rw [Bool.and_eq_true, Bool.and_eq_true, Bool.and_eq_true, decide_eq_true_eq, decide_eq_true_eq] at h
        refine hb.mp rfl ⟨fun e => ?_, h.1, h.2.1, h.2.2.1⟩
        rw [ke (tk1.2.2 e)] at h
        exact absurd h.2.2.2 (by decide)
    | false =>
      have hb := Classical.byContradiction fun h => absurd (hb.mpr h) (by decide)
      obtain ⟨b0, b1, b2, b3⟩ := hb
      refine iteF ?_
      have e3 := s3.at0 e2
      walk_at "go"
      refine wLc_list (xs := hs.map V.str) fun D H4 hD s4 e4 => ?_
      refine ⟨fun i H' => H' D = some (.lst (((hs.take i).filter fun x => !nmB x).map V.str)) ∧ Step [] H3 H', ⟨e4, s4⟩, ?_, ?_, ?_⟩
      · rintro i H5 _ ⟨g1, g2⟩
        exact g2.at0 e3
      · rintro i x H5 hx ⟨g1, g2⟩
        rw [List.getElem?_map, Option.map_eq_some_iff] at hx
        obtain ⟨y, hy, rfl⟩ := hx
        have hi : i < hs.length := (List.getElem?_eq_some_iff.mp hy).1
        walk_at "go"
        refine ⟨y, rfl, by have := hln y (List.mem_of_getElem? hy); omega, tkh y (List.mem_of_getElem? hy), fun H6 s6 => ?_⟩
        walk_at "go"
        refine g_kTst ?_
        have ef : (hs.take (i + 1)).filter (fun x => !nmB x) = (hs.take i).filter (fun x => !nmB x) ++ (if (!nmB y) = true then [y] else []) := by
          rw [List.take_add_one, hy, List.filter_append]
          congr 1
          cases hq : nmB y <;> simp [hq]
        have lt : ((hs.take i).filter fun x => !nmB x).length ≤ 10 := Nat.le_trans (List.length_filter_le _ _) (by rw [List.length_take]; omega)
        cases h4 : nmB y with
        | true =>
          refine iteF ⟨?_, g2.trans s6⟩
          rw [ef, h4, if_neg (show ¬ (!true) = true from by decide), List.append_nil]
          exact s6.at0 g1
        | false =>
          refine iteT ?_
          walk_at "go"
          refine g_kEl (s6.at0 g1) (ltLine (by rw [List.length_map]; omega)) fun H7 s7 e7 => ⟨?_, (g2.trans s6).via s7 hD⟩
          rw [e7, ef, h4, if_pos (show (!false) = true from rfl), List.map_append]
          rfl
      · rintro H5 ⟨g1, g2⟩
        rw [List.length_map, List.take_length] at g1
        walk_at "go"
        intro E H6 hE s6 e6
        refine g_neC (cL cS) (x := hs.filter fun x => !nmB x) (y := []) (rLS_of (s6.at0 g1)) (rL_nil e6) (fun y hy => strOk_low (tkh y (List.mem_filter.mp hy).1)) (by intro y hy; cases hy) ?_
        walk_at "go"
        have S5 := (S3.trans g2).trans s6
        have ea : decide (hs.filter (fun x => !nmB x) = []) = hs.all nmB := by
          cases h4 : hs.all nmB with
          | true =>
            rw [List.all_eq_true] at h4
            rw [decide_eq_true_eq, List.filter_eq_nil_iff]
            intro x hx; rw [h4 x hx]; decide
          | false =>
            rw [decide_eq_false_iff_not, List.filter_eq_nil_iff]
            intro hh
            have : hs.all nmB = true := by
              rw [List.all_eq_true]
              intro x hx
              have := hh x hx
              cases qq : nmB x with
              | true => rfl
              | false => rw [qq] at this; exact absurd rfl this
            rw [h4] at this; cases this
        rw [ea]
        cases h4 : hs.all nmB with
        | false =>
          refine iteT ?_
          walk_at "go"
          rw [if_neg] at q
          · exact q H6 S5
          · intro h
            rw [Bool.and_eq_true, Bool.and_eq_true, Bool.and_eq_true, h4] at h
            exact absurd h.2.2.2 (by decide)
        | true =>
          refine iteF ?_
          walk_at "go"
          obtain ⟨i1, i2⟩ := int_of_fig b1 (by decide)
          refine ⟨_, _, rfl, i1, i2, ?_⟩
          rw [if_pos (by rw [b1, decide_eq_true b2, decide_eq_true b3, h4]; rfl)] at q
          exact q H6 S5
end

end My
namespace My
open PySem PySem.Spec PyProof.Rows L2
/-! what is wrong, what is asked, texts, right -/
def vlt : V → V → Bool
  | .str x, .str y => decide (cs x < cs y)
  | .int x, .int y => decide (x < y)
  | _, _ => false
def lastOk (last : Option V) (x : V) : Bool := match last with
  | none => true
  | some l => vlt l x
def wAt (F : Str → Option V) : Option V → Nat → List Str → Int
  | _, _, [] => -1
  | last, k, w :: ws => match F w with
    | none => k
    | some x => if lastOk last x = true then wAt F (some x) (k + 1) ws else k
def keyF (b : Bool) (w : Str) : Option V := if b = true then (keyH w).map V.str else (keyT w).map V.int
def foundI {α : Type} : Nat ⊕ α → Int
  | .inl j => j
  | .inr _ => -1
def wrongI (b : Bool) (t : Str) : Int := if t = "" then -1 else wAt (keyF b) none 0 (Txt.split t " ")
theorem wAt_bad {F : Str → Option V} {last : Option V} {k : Nat} {w : Str} {ws : List Str} (h : F w = none) : wAt F last k (w :: ws) = k := by
  unfold wAt; rw [h]
theorem wAt_some {F : Str → Option V} {last : Option V} {k : Nat} {w : Str} {ws : List Str} {x : V} (h : F w = some x) : wAt F last k (w :: ws) = if lastOk last x = true then wAt F (some x) (k + 1) ws else k := by
  rw [wAt, h]
theorem wAt_rows {α : Type} {f : Str → Option α} {lt : α → α → Bool} {kv : α → V} {F : Str → Option V} (hF : ∀ w, F w = (f w).map kv) (hl : ∀ a b, vlt (kv a) (kv b) = lt a b) :
    ∀ (ws : List Str) (found : List α) (k : Nat), wAt F (found.getLast?.map kv) k ws = foundI (rowsAt f lt found k ws)
  | [], found, k => rfl
  | w :: ws, found, k => by
    cases e : f w with
    | none =>
      rw [rowsAt_bad e, wAt_bad (by rw [hF, e]; rfl)]; rfl
    | some r =>
      rw [rowsAt_some e, wAt_some (x := kv r) (by rw [hF, e]; rfl)]
      have e2 : lastOk (found.getLast?.map kv) (kv r) = rises lt found r := by
        unfold rises
        cases found.getLast? with
        | none => rfl
        | some l => exact hl l r
      rw [e2]
      cases rises lt found r with
      | false => rfl
      | true =>
        have := wAt_rows hF hl ws (found ++ [r]) (k + 1)
        rw [List.getLast?_concat] at this
        exact this
theorem wrongH (t : Str) : wrongI true t = foundI (rowsIn houseIn ltH t) := by
  unfold wrongI rowsIn
  split
  · rfl
  · exact wAt_rows (f := houseIn) (lt := ltH) (kv := fun r => V.str r.1) (F := keyF true) (fun w => by unfold keyF keyH; rw [if_pos rfl, Option.map_map]; rfl) (fun a b => rfl) (Txt.split t " ") [] 0
theorem wrongT (t : Str) : wrongI false t = foundI (rowsIn ticketIn ltT t) := by
  unfold wrongI rowsIn
  split
  · rfl
  · exact wAt_rows (f := ticketIn) (lt := ltT) (kv := fun r => V.int r.1) (F := keyF false) (fun w => by unfold keyF keyT; rw [if_neg (by decide), Option.map_map]; rfl) (fun a b => rfl) (Txt.split t " ") [] 0
def sp_w_wrong : Sp := fun vs H Q _ => ∃ (t : Str) (b : Bool), vs = [.str t, .bl b] ∧ t.length ≤ 4000 ∧ TOk t ∧ ∀ H', Step [] H H' → Q (.int (wrongI b t)) H'
def sp_w_asked (K : PySem.W.Frag) : Sp := fun vs H Q _ => ∃ (v : V) (b : Bool), vs = [v, .bl b] ∧
  ((∃ a : String, TyX K H v (.type a) ∧ kitB a "str" = some false ∧ ∀ T H', H T = none → Step [] H H' → H' T = some (.tup [.str "no", .non, .bl true]) → Q (.ref T) H') ∨
    ∃ t : Str, v = .str t ∧ t.length ≤ 4000 ∧ wds t ≤ 40 ∧ (wrongI b t = -1 → ∀ H', Step [] H H' → Q (.str t) H') ∧
      ∀ k : Nat, wrongI b t = k → ∀ T H', H T = none → Step [] H H' → H' T = some (.tup [.str "no", .int k, .bl true]) → Q (.ref T) H')
def sp_w_text : Sp := fun vs H Q _ => ∃ (a : Addr) (b : Bool) (c : Nat), vs = [.ref a, .bl b] ∧ PotAt H a c ∧ c < 2 ^ 56 ∧ ∀ t H', TOk t → t.length ≤ 450 → wds t ≤ 5 → Step [a] H H' → PotAt H' a (c + 2000) → Q (.str t) H'
theorem pw_sorted {zs : List Row} (hp : zs.Pairwise (fun a b => ltH a b = true)) : sortedS (zs.map (·.1)) = true → True := fun _ => trivial
theorem rows_same {zs rows : List Row} (hp : zs.Perm rows) (hs : sortedS (zs.map (·.1)) = true) (hr : rows.Pairwise (fun a b => ltH a b = true)) : zs = rows := by
  have nd := nd_of_ltH hr
  have nz : (zs.map (·.1)).Nodup := (hp.map (·.1)).nodup_iff.mpr nd
  have h1 := sorted_pw hs
  rw [List.pairwise_map] at h1
  have hz : zs.Pairwise (fun a b => ltH a b = true) := by
    rw [List.nodup_iff_pairwise_ne, List.pairwise_map] at nz
    refine (h1.and nz).imp fun {a b} h => ?_
    unfold ltH
    rw [decide_eq_true_eq]
    exact Std.lt_of_le_of_ne h.1 fun e => h.2 (cs_inj e)
  exact hp.eq_of_pairwise (fun a b _ _ h3 h4 => by
    unfold ltH at h3 h4
    rw [decide_eq_true_eq] at h3 h4
    exact absurd (List.lt_trans h3 h4) (List.lt_irrefl _)) hz hr
theorem srtT_of {xs : Tb} (hr : xs.Pairwise (fun a b => ltT a b = true)) : tableS xs = Txt.join " " (xs.map tickS) := by
  have nd := nd_of_ltT hr
  have ek : srt (xs.map (·.1)) = xs.map (·.1) := by
    refine (is_srt (List.Perm.refl _) ?_).symm
    rw [List.pairwise_map]
    refine hr.imp fun {a b} h => ?_
    unfold ltT at h
    rw [decide_eq_true_eq] at h
    omega
  unfold tableS
  rw [ek, List.map_map]
  congr 1
  refine List.map_congr_left fun p hp => ?_
  show tickS (p.1, homesOf xs p.1) = tickS p
  unfold homesOf
  rw [lookI_mem nd hp]; rfl
def rOI : Rp (Option Int) := fun _ v s => v = oV V.int s
def cOI {K : PySem.W.Frag} : Cod K rOI := ⟨encO .int, fun _ => True, fun o _ => by
  cases o with
  | none => simp [encO, PyData.canLay0]
  | some x => simp [encO, PyData.canLay0], 0, fun o => by cases o <;> simp [encO, PyData.depth], fun x y => by cases x <;> cases y <;> simp [encO, PyData.eqv], fun _ v o h => by
  cases o with
  | none => rw [show v = V.non from h]; exact .non
  | some x => rw [show v = V.int x from h]; exact .int _⟩
abbrev rAns : Rp (Str × Option Int × Bool) := rP3 rS rOI rB
def cAns {K : PySem.W.Frag} : Cod K rAns := cP3 cS cOI cB
theorem no_ok : StrOk ("no" : Str) := by unfold StrOk; decide +kernel
section
variable {P : Program} {w : World} {K : PySem.W.Frag} {mg : Str → Option Value} {base : Heap}
theorem ok_w_wrong (C : Ctx K mg) : Has P w K mg base CX0 3 "_law_wrong" ["text", "is_town"] sp_w_wrong := by
  obtain ⟨fd, F⟩ := fn_w_wrong C
  obtain ⟨f_w_table_word, fd_w_table_word, G_w_table_word, mg_w_table_word, kp_w_table_word, b_w_table_word⟩ := (ok_w_table_word (P := P) (w := w) (base := base) C).ex
  obtain ⟨f_w_town_word, fd_w_town_word, G_w_town_word, mg_w_town_word, kp_w_town_word, b_w_town_word⟩ := (ok_w_town_word (P := P) (w := w) (base := base) C).ex
  refine ⟨⟨_, fd, ?_, gl_w_wrong C, F.kp, F.bindsN fun _ _ _ _ _ _ us hl => match us, hl with | [_, _], _ => rfl⟩⟩
  refine F.ok (CX := CX0) sc_w_wrong (fun vs H Q E h => ?_) (fun cdv A outer s H vs Q E hr h => ?_)
  · first | (obtain ⟨_, rfl, _⟩ := h; rfl; done) | (obtain ⟨_, _, rfl, _⟩ := h; rfl; done) | (obtain ⟨_, _, _, rfl, _⟩ := h; rfl; done) | (obtain ⟨_, _, _, _, rfl, _⟩ := h; rfl; done) | (obtain ⟨_, _, _, _, _, rfl, _⟩ := h; rfl; done) | (obtain ⟨_, _, _, _, _, _, rfl, _⟩ := h; rfl; done) | (obtain ⟨_, _, _, _, _, _, _, rfl, _⟩ := h; rfl; done) | (obtain ⟨_, _, _, _, _, _, _, _, rfl, _⟩ := h; rfl; done) | (obtain ⟨_, _, _, _, _, _, _, _, _, rfl, _⟩ := h; rfl; done) | (obtain ⟨_, _, _, _, _, _, _, _, _, _, rfl, _⟩ := h; rfl; done) | (obtain ⟨_, _, _, _, _, _, _, _, _, _, _, rfl, _⟩ := h; rfl; done) | (obtain ⟨_, _, _, _, _, _, _, _, _, _, _, _, rfl, _⟩ := h; rfl; done) | (rcases h with h | h <;> first | (obtain ⟨_, rfl, _⟩ := h; rfl; done) | (obtain ⟨_, _, rfl, _⟩ := h; rfl; done) | (obtain ⟨_, _, _, rfl, _⟩ := h; rfl; done) | (obtain ⟨_, _, _, _, rfl, _⟩ := h; rfl; done) | (obtain ⟨_, _, _, _, _, rfl, _⟩ := h; rfl; done) | (obtain ⟨_, _, _, _, _, _, rfl, _⟩ := h; rfl; done) | (obtain ⟨_, _, _, _, _, _, _, rfl, _⟩ := h; rfl; done) | (obtain ⟨_, _, _, _, _, _, _, _, rfl, _⟩ := h; rfl; done) | (obtain ⟨_, _, _, _, _, _, _, _, _, rfl, _⟩ := h; rfl; done) | (obtain ⟨_, _, _, _, _, _, _, _, _, _, rfl, _⟩ := h; rfl; done) | (obtain ⟨_, _, _, _, _, _, _, _, _, _, _, rfl, _⟩ := h; rfl; done) | (obtain ⟨_, _, _, _, _, _, _, _, _, _, _, _, rfl, _⟩ := h; rfl; done))
  have hu := hu_of hr
  refine ⟨_, PSs.nox (pss_cons (ps_set (i := 2) sc_w_wrong.nd rfl (Or.inl rfl) pe_non)
    (pss_cons (ps_if (pt_cmpR op_eq (pv 0) pe_str (nomark _)) (pss_one (ps_ret (pe_un un_neg pe_int))) pss_nil)
    (pss_cons (ps_set (i := 3) sc_w_wrong.nd rfl (Or.inl rfl) (pe_splitR (pv 0) pe_str))
    (pss_cons (ps_for PassesOwn.never rfl (pi_range1 rfl (fr_range C) (pa_cons (pe_callB cr_lenL (by rfl) (fr_len C) PySem.boot_len (pa_cons (pv 3) pa_nil)) pa_nil)) (pg_name (i := 4) sc_w_wrong.nd rfl (Or.inl rfl))
    (pss_cons (ps_set (i := 5) sc_w_wrong.nd rfl (Or.inl rfl) (pe_call G_w_table_word (hr.mono (by decide)) rfl mg_w_table_word kp_w_table_word b_w_table_word .nil pass0 (pa_cons (pe_ix ix_list (pv 3) (pv 4) (fun _ _ => rfl)) pa_nil)))
    (pss_cutM (ps_if (pt_val (pv 1)) (pss_one (ps_set (i := 5) sc_w_wrong.nd rfl (Or.inl rfl) (pe_call G_w_town_word (hr.mono (by decide)) rfl mg_w_town_word kp_w_town_word b_w_town_word .nil pass0 (pa_cons (pe_ix ix_list (pv 3) (pv 4) (fun _ _ => rfl)) pa_nil)))) pss_nil)
    (pss_cons (ps_if (pt_cut (PW.pt (pw_or (pt_cmpR op_isN (pv 5) pe_non (nomark _)) (pw_or1 (pt_cut (PW.pt (pw_and (pt_cmpR op_notN (pv 2) pe_non (nomark _)) (pw_and1 (pt_cmpR op_leX (pv 5) (pv 2) (nomark _)))))))))) (pss_one (ps_ret (pv 4))) pss_nil)
    (pss_one (ps_set (i := 2) sc_w_wrong.nd rfl (Or.inl rfl) (pv 5)))))))
    (pss_one (ps_ret (pe_un un_neg pe_int))))))), ?_⟩
  obtain ⟨t, b, rfl, ht, tk, q⟩ := h
  walk_at "go"
  unfold wrongI at q
  refine g_ite (fun h0 => ?_) (fun h0 => ?_)
  · walk_at "go"
    rw [if_pos h0] at q
    exact q H (Step.refl _ _)
  rw [if_neg h0] at q
  walk_at "go"
  refine g_split (by decide +kernel) (leLine (by omega)) fun L H1 hL s1 e1 => ?_
  have tks := split_tok tk
  have many := split_wds t
  have cu := cut_at 32 t (by decide)
  rw [← c_blank] at cu
  have hln := cu.len
  have hmn := cu.many
  clear cu many
  generalize Txt.split t " " = ws at *
  walk_at "go"
  rw [List.length_map]
  refine g_kRng1 (by omega) (by omega) ?_
  refine wFor_rng (fun i σ H' => ∃ (last : Option V) (v4 v5 : Option V), σ = [some (.str t), some (.bl b), some (oV id last), some (.ref L), v4, v5] ∧ (∀ l, last = some l → ∃ w, keyF b w = some l) ∧ wAt (keyF b) none 0 ws = wAt (keyF b) last i (ws.drop i) ∧ Step [] H H' ∧ H' L = some (.lst (ws.map V.str)))
    ⟨none, none, none, rfl, (by intro l hl; cases hl), rfl, s1, e1⟩ ?_ ?_
  · rintro i σ H2 hi ⟨last, v4, v5, rfl, hlast, g1, g2, g3⟩
    have hi : i < ws.length := by omega
    have hw := List.getElem?_eq_getElem hi
    generalize ws[i] = wd at hw
    have hd : ws.drop i = wd :: ws.drop (i + 1) := by
      obtain ⟨_, e⟩ := List.getElem?_eq_some_iff.mp hw
      rw [List.drop_eq_getElem_cons hi, e]
    have hwm := List.mem_of_getElem? hw
    have hwl := hln wd hwm
    rw [hd] at g1
    walk_at "go"
    rw [Int.zero_add]
    refine g_ixL g3 (at_nat (by rw [List.getElem?_map, hw]; rfl)) ?_
    walk_at "go"
    refine ⟨wd, rfl, by omega, tks wd hwm, fun H3 s3 => ?_⟩
    walk_at "go"
    refine g_cut (fun σ H' => σ = [some (.str t), some (.bl b), some (oV id last), some (.ref L), some (.int i), some (oV id (keyF b wd))] ∧ Step [] H H' ∧ H' L = some (.lst (ws.map V.str))) ?_ ?_
    · cases b with
      | true =>
        walk_at "go"
        refine iteT ?_
        walk_at "go"
        refine g_ixL (s3.at0 g3) (at_nat (by rw [List.getElem?_map, hw]; rfl)) ?_
        walk_at "go"
        refine ⟨wd, rfl, by omega, tks wd hwm, fun H4 s4 => ?_⟩
        walk_at "go"
        refine ⟨?_, (g2.trans s3).trans s4, s4.at0 (s3.at0 g3)⟩
        have : oV V.str (keyH wd) = oV id (keyF true wd) := by unfold keyF; rw [if_pos rfl]; cases keyH wd <;> rfl
        rw [this]; rfl
      | false =>
        walk_at "go"
        refine iteF ?_
        walk_at "go"
        refine ⟨?_, g2.trans s3, s3.at0 g3⟩
        have : oV V.int (keyT wd) = oV id (keyF false wd) := by unfold keyF; rw [if_neg (by decide)]; cases keyT wd <;> rfl
        rw [this]; rfl
    · rintro σ H4 ⟨rfl, s4, e4⟩
      walk_at "go"
      refine g_tcut (fun r H' => H' = H4 ∧ r = (match keyF b wd with | none => true | some x => !lastOk last x)) ?_ ?_
      · walk_at "go"
        cases hk : keyF b wd with
        | none =>
          refine ⟨rfl, ?_⟩
          walk_at "go"
          exact iteT ⟨rfl, rfl⟩
        | some x =>
          have hx : decide (oV id (some x) = V.non) = false := by
            refine decide_eq_false fun h => ?_
            unfold keyF at hk
            cases b with
            | true =>
              rw [if_pos rfl] at hk
              obtain ⟨z, _, rfl⟩ := Option.map_eq_some_iff.mp hk
              cases h
            | false =>
              rw [if_neg (by decide)] at hk
              obtain ⟨z, _, rfl⟩ := Option.map_eq_some_iff.mp hk
              cases h
          refine ⟨rfl, ?_⟩
          walk_at "go"
          rw [hx]
          refine iteF ?_
          walk_at "go"
          refine g_tcut (fun r H' => H' = H4 ∧ r = !lastOk last x) ?_ (fun r H' h => h)
          walk_at "go"
          cases hl : last with
          | none =>
            refine ⟨rfl, ?_⟩
            walk_at "go"
            exact iteF ⟨rfl, rfl⟩
          | some l =>
            obtain ⟨w2, hw2⟩ := hlast l hl
            unfold keyF at hw2 hk
            cases b with
            | true =>
              rw [if_pos rfl] at hw2 hk
              obtain ⟨z, _, rfl⟩ := Option.map_eq_some_iff.mp hw2
              obtain ⟨y, _, rfl⟩ := Option.map_eq_some_iff.mp hk
              refine ⟨rfl, ?_⟩
              walk_at "go"
              refine iteT ?_
              walk_at "go"
              refine .inr ⟨y, z, rfl, rfl, ?_⟩
              walk_at "go"
              exact ⟨rfl, rfl⟩
            | false =>
              rw [if_neg (by decide)] at hw2 hk
              obtain ⟨z, _, rfl⟩ := Option.map_eq_some_iff.mp hw2
              obtain ⟨y, _, rfl⟩ := Option.map_eq_some_iff.mp hk
              refine ⟨rfl, ?_⟩
              walk_at "go"
              refine iteT ?_
              walk_at "go"
              refine .inl ⟨y, z, rfl, rfl, ?_⟩
              walk_at "go"
              refine ⟨rfl, ?_⟩
              show _ = !decide (z < y)
              by_cases h : y ≤ z
              · rw [decide_eq_true h, decide_eq_false (by omega)]; rfl
              · rw [decide_eq_false h, decide_eq_true (by omega)]; rfl
      · rintro r H5 ⟨rfl, hr⟩
        cases hk : keyF b wd with
        | none =>
          rw [hk] at hr
          subst hr
          refine iteT ?_
          walk_at "go"
          rw [g1, wAt_bad hk] at q
          exact q H5 s4
        | some x =>
          rw [hk] at hr
          have hr : r = !lastOk last x := hr
          rw [wAt_some hk] at g1
          cases hlo : lastOk last x with
          | false =>
            rw [hlo] at hr g1
            subst hr
            refine iteT ?_
            walk_at "go"
            rw [g1, if_neg (by decide)] at q
            exact q H5 s4
          | true =>
            rw [hlo] at hr g1
            subst hr
            refine iteF ?_
            walk_at "go"
            rw [if_pos rfl] at g1
            exact ⟨some x, _, _, rfl, fun l hl => by cases hl; exact ⟨wd, hk⟩, g1, s4, e4⟩
  · rintro σ H2 ⟨last, v4, v5, rfl, hlast, g1, g2, g3⟩
    have e : ((ws.length : Nat) : Int).toNat = ws.length := by omega
    rw [e, List.drop_length] at g1
    walk_at "go"
    rw [g1] at q
    exact q H2 g2
theorem ok_w_asked (C : Ctx K mg) : Has P w K mg base CX0 7 "_law_asked" ["text", "is_town"] (sp_w_asked K) := by
  obtain ⟨fd, F⟩ := fn_w_asked C
  obtain ⟨f_show_town, fd_show_town, G_show_town, mg_show_town, kp_show_town, b_show_town⟩ := (ok_show_town (P := P) (w := w) (base := base) C).ex
  obtain ⟨f_read_town, fd_read_town, G_read_town, mg_read_town, kp_read_town, b_read_town⟩ := (ok_read_town (P := P) (w := w) (base := base) C).ex
  obtain ⟨f_show_table, fd_show_table, G_show_table, mg_show_table, kp_show_table, b_show_table⟩ := (ok_show_table (P := P) (w := w) (base := base) C).ex
  obtain ⟨f_read_table, fd_read_table, G_read_table, mg_read_table, kp_read_table, b_read_table⟩ := (ok_read_table (P := P) (w := w) (base := base) C).ex
  refine ⟨⟨_, fd, ?_, gl_w_asked C, F.kp, F.bindsN fun _ _ _ _ _ _ us hl => match us, hl with | [_, _], _ => rfl⟩⟩
  refine F.ok (CX := CX0) sc_w_asked (fun vs H Q E h => ?_) (fun cdv A outer s H vs Q E hr h => ?_)
  · first | (obtain ⟨_, rfl, _⟩ := h; rfl; done) | (obtain ⟨_, _, rfl, _⟩ := h; rfl; done) | (obtain ⟨_, _, _, rfl, _⟩ := h; rfl; done) | (obtain ⟨_, _, _, _, rfl, _⟩ := h; rfl; done) | (obtain ⟨_, _, _, _, _, rfl, _⟩ := h; rfl; done) | (obtain ⟨_, _, _, _, _, _, rfl, _⟩ := h; rfl; done) | (obtain ⟨_, _, _, _, _, _, _, rfl, _⟩ := h; rfl; done) | (obtain ⟨_, _, _, _, _, _, _, _, rfl, _⟩ := h; rfl; done) | (obtain ⟨_, _, _, _, _, _, _, _, _, rfl, _⟩ := h; rfl; done) | (obtain ⟨_, _, _, _, _, _, _, _, _, _, rfl, _⟩ := h; rfl; done) | (obtain ⟨_, _, _, _, _, _, _, _, _, _, _, rfl, _⟩ := h; rfl; done) | (obtain ⟨_, _, _, _, _, _, _, _, _, _, _, _, rfl, _⟩ := h; rfl; done) | (rcases h with h | h <;> first | (obtain ⟨_, rfl, _⟩ := h; rfl; done) | (obtain ⟨_, _, rfl, _⟩ := h; rfl; done) | (obtain ⟨_, _, _, rfl, _⟩ := h; rfl; done) | (obtain ⟨_, _, _, _, rfl, _⟩ := h; rfl; done) | (obtain ⟨_, _, _, _, _, rfl, _⟩ := h; rfl; done) | (obtain ⟨_, _, _, _, _, _, rfl, _⟩ := h; rfl; done) | (obtain ⟨_, _, _, _, _, _, _, rfl, _⟩ := h; rfl; done) | (obtain ⟨_, _, _, _, _, _, _, _, rfl, _⟩ := h; rfl; done) | (obtain ⟨_, _, _, _, _, _, _, _, _, rfl, _⟩ := h; rfl; done) | (obtain ⟨_, _, _, _, _, _, _, _, _, _, rfl, _⟩ := h; rfl; done) | (obtain ⟨_, _, _, _, _, _, _, _, _, _, _, rfl, _⟩ := h; rfl; done) | (obtain ⟨_, _, _, _, _, _, _, _, _, _, _, _, rfl, _⟩ := h; rfl; done))
  have hu := hu_of hr
  refine ⟨_, PSs.nox (pss_cons (ps_set (i := 2) sc_w_asked.nd rfl (Or.inl rfl) pe_non)
    (pss_cons (ps_set (i := 3) sc_w_asked.nd rfl (Or.inl rfl) pe_non)
    (pss_cutM (ps_try_V (i := 4) rfl rfl sc_w_asked.nd takes0 (fun W pn xe tk ppt => (pss_one (ps_if (pt_val (pv 1)) (pss_one (ps_set (i := 2) sc_w_asked.nd rfl (Or.inl rfl) (pe_call G_show_town (hr.mono (by decide)) rfl mg_show_town kp_show_town b_show_town .nil pass0 (pa_cons (pe_callS G_read_town (hr.mono (by decide)) rfl mg_read_town kp_read_town b_read_town (fun σ => passAt tk σ) (pa_cons (pv 0) pa_nil)) pa_nil)))) (pss_one (ps_set (i := 2) sc_w_asked.nd rfl (Or.inl rfl) (pe_call G_show_table (hr.mono (by decide)) rfl mg_show_table kp_show_table b_show_table .nil pass0 (pa_cons (pe_callS G_read_table (hr.mono (by decide)) rfl mg_read_table kp_read_table b_read_table (fun σ => passAt tk σ) (pa_cons (pv 0) pa_nil)) pa_nil)))))))
    rfl rfl ⟨rfl, by decide, .inl (gl_SherdError C)⟩ (fun a oe cls d pn hz hf => (pss_one (ps_set (i := 3) sc_w_asked.nd rfl (Or.inl rfl) (pv 4)))))
    (pss_cons (ps_if (pt_cmpR op_isN (pv 3) pe_non (nomark _)) (pss_one (ps_ret (pv 2))) pss_nil)
    (pss_cons (ps_if (pt_cut (PW.pt (pw_or (pt_not (pt_val (pe_callB call_isV (by rfl) (fr_isinstance C) (by decide +kernel) (pa_cons (pv 3) (pa_cons (pe_glob (v := .ref (He.ga K "NoText")) (by rfl) (gl_NoText C) rfl) pa_nil))))) (pw_or1 (pt_val (pe_callB call_isVT (by rfl) (fr_isinstance C) (by decide +kernel) (pa_cons (pv 3) (pa_cons (pe_tup (pa_cons (pe_glob (v := .ref (He.ga K "NoName")) (by rfl) (gl_NoName C) rfl) (pa_cons (pe_glob (v := .ref (He.ga K "NoWeight")) (by rfl) (gl_NoWeight C) rfl) (pa_cons (pe_glob (v := .ref (He.ga K "Taken")) (by rfl) (gl_Taken C) rfl) pa_nil)))) pa_nil)))))))) (pss_one (ps_ret (pe_tup (pa_cons pe_str (pa_cons pe_non pa_nil))))) pss_nil)
    (pss_one (ps_ret (pe_tup (pa_cons pe_str (pa_cons (pe_xv (pv 3)) (pa_cons (pe_callB call_isV (by rfl) (fr_isinstance C) (by decide +kernel) (pa_cons (pv 3) (pa_cons (pe_bltn (v := .ty "ValueError") (by rfl) (fr_ValueError C) (by decide +kernel) rfl) pa_nil))) pa_nil))))))))))), ?_⟩
  obtain ⟨v, b, rfl, hh⟩ := h
  walk_at "go"
  refine g_cut (fun σ H' => (∃ t : Str, v = .str t ∧ wrongI b t = -1 ∧ σ = [some v, some (.bl b), some (.str t), some .non, none] ∧ Step [] H H') ∨
    (∃ (a : Addr) (x : V), ((∃ k : String, TyX K H v (.type k) ∧ kitB k "str" = some false ∧ x = .non) ∨ ∃ (t : Str) (k : Nat), v = .str t ∧ wrongI b t = k ∧ x = .int k) ∧ σ = [some v, some (.bl b), some .non, some (.ref a), none] ∧ ErrAt H' a (He.ga K "NoText") [("at", x)] ∧ Step [] H H')) ?_ ?_
  · have err : ∀ (x : V) (d : Addr) (H' : Hp), ((∃ k : String, TyX K H v (.type k) ∧ kitB k "str" = some false ∧ x = .non) ∨ ∃ (t : Str) (k : Nat), v = .str t ∧ wrongI b t = k ∧ x = .int k) → H d = none → Step [] H H' → H' d = some (.xd [("at", x)]) → True := fun _ _ _ _ _ _ _ => trivial
    cases b with
    | true =>
      walk_at "go"
      refine iteT ?_
      walk_at "go"
      rcases hh with ⟨k, tyv, nos, _⟩ | ⟨t, rfl, ht, hw, _, _⟩
      · refine .inl ⟨v, k, rfl, tyv, nos, fun d H1 hd s1 e1 => ⟨true, em_NoText_SherdError C, fun _ a ha => ?_, fun z => by cases z⟩⟩
        walk_at "go"
        have ad : a ≠ d := fun z => by rw [z, e1] at ha; cases ha
        exact .inr ⟨a, .non, .inl ⟨k, tyv, nos, rfl⟩, rfl, ⟨d, upd_same, by rw [upd_ne ad.symm]; exact e1⟩, s1.add ha⟩
      · have hsp := split_wds t
        refine .inr ⟨t, rfl, ht, by omega, fun T rows zs H1 hr hT s1 hp hs tw => ?_, fun k d H1 hk hd s1 e1 => ⟨true, em_NoText_SherdError C, fun _ a ha => ?_, fun z => by cases z⟩⟩
        · have okr := rowsIn_ok (p := RowOk) (fun w r h => houseIn_ok h) hr
          have ez := rows_same hp hs (rowsIn_pw ltH_tr hr)
          subst ez
          refine ⟨T, zs, rfl, tw, by omega, okr.1, fun H2 s2 => ?_⟩
          walk_at "go"
          have et : townS zs = t := rowsIn_back (g := wordS) (fun w r h => word_back h) hr
          rw [et]
          exact .inl ⟨t, rfl, by rw [wrongH, hr]; rfl, rfl, s1.trans s2⟩
        · walk_at "go"
          have ad : a ≠ d := fun z => by rw [z, e1] at ha; cases ha
          exact .inr ⟨a, .int k, .inr ⟨t, k, rfl, by rw [wrongH, hk]; rfl, rfl⟩, rfl, ⟨d, upd_same, by rw [upd_ne ad.symm]; exact e1⟩, s1.add ha⟩
    | false =>
      walk_at "go"
      refine iteF ?_
      walk_at "go"
      rcases hh with ⟨k, tyv, nos, _⟩ | ⟨t, rfl, ht, hw, _, _⟩
      · refine .inl ⟨v, k, rfl, tyv, nos, fun d H1 hd s1 e1 => ⟨true, em_NoText_SherdError C, fun _ a ha => ?_, fun z => by cases z⟩⟩
        walk_at "go"
        have ad : a ≠ d := fun z => by rw [z, e1] at ha; cases ha
        exact .inr ⟨a, .non, .inl ⟨k, tyv, nos, rfl⟩, rfl, ⟨d, upd_same, by rw [upd_ne ad.symm]; exact e1⟩, s1.add ha⟩
      · have hsp := split_wds t
        refine .inr ⟨t, rfl, ht, fun D rows H1 hr hD s1 hD1 => ?_, fun k d H1 hk hd s1 e1 => ⟨true, em_NoText_SherdError C, fun _ a ha => ?_, fun z => by cases z⟩⟩
        · have okr := rowsIn_ok (p := TkOk) (fun w r h => ticketIn_ok h) hr
          have pw := rowsIn_pw ltT_tr hr
          refine ⟨D, rows, rfl, hD1, ⟨nd_of_ltT pw, okr.1, by omega⟩, fun H2 s2 => ?_⟩
          walk_at "go"
          have et : tableS rows = t := (srtT_of pw).trans (rowsIn_back (g := tickS) (fun w r h => tick_back h) hr)
          rw [et]
          exact .inl ⟨t, rfl, by rw [wrongT, hr]; rfl, rfl, s1.trans s2⟩
        · walk_at "go"
          have ad : a ≠ d := fun z => by rw [z, e1] at ha; cases ha
          exact .inr ⟨a, .int k, .inr ⟨t, k, rfl, by rw [wrongT, hk]; rfl, rfl⟩, rfl, ⟨d, upd_same, by rw [upd_ne ad.symm]; exact e1⟩, s1.add ha⟩
  · rintro σ H1 (⟨t, ev, ew, rfl, s1⟩ | ⟨a, x, hx, rfl, he, s1⟩)
    · walk_at "go"
      refine ⟨rfl, ?_⟩
      walk_at "go"
      refine iteT ?_
      walk_at "go"
      rcases hh with ⟨k, tyv, nos, _⟩ | ⟨t2, e2, ht, hw, qo, _⟩
      · subst ev
        cases tyv with
        | base h =>
          cases h
          exact absurd nos (by decide +kernel)
      · rw [e2] at ev
        cases ev
        exact qo ew H1 s1
    · walk_at "go"
      refine ⟨rfl, ?_⟩
      walk_at "go"
      refine iteF ?_
      walk_at "go"
      refine g_tcut (fun b H' => b = false ∧ Step [] H1 H') ?_ ?_
      · walk_at "go"
        refine g_isV he (vc_NoText C) (.own _) (ki_NoText_NoText C) ?_
        walk_at "go"
        refine iteF ?_
        walk_at "go"
        intro T H2 hT s2 e2
        refine g_isVT (he.le s2.le0) (vc_NoText C) e2 (us := [.ref (He.ga K "NoName"), .ref (He.ga K "NoWeight"), .ref (He.ga K "Taken")]) (.cons (.own _) (.cons (.own _) (.cons (.own _) .nil))) (b := false) ?_ ?_
        · show PySem.W.kitAny K (.ref (He.ga K "NoText")) [.ref (He.ga K "NoName"), .ref (He.ga K "NoWeight"), .ref (He.ga K "Taken")] = some false
          simp only [PySem.W.kitAny, ki_NoText_NoName C, ki_NoText_NoWeight C, ki_NoText_Taken C]
        · walk_at "go"
          exact ⟨rfl, s2⟩
      · rintro b' H2 ⟨rfl, s2⟩
        refine iteF ?_
        have he2 := he.le s2.le0
        walk_at "go"
        refine g_kXv he2 (ox_NoText (P := P) (w := w) (base := base) C).tx.xf ((ox_NoText (P := P) (w := w) (base := base) C).tx.no "at" (by decide)) rfl ?_
        walk_at "go"
        refine g_isV he2 (vc_NoText C) (.ty _) (ki_NoText_ValueError C) ?_
        walk_at "go"
        intro T H3 hT s3 e3
        have S3 := (s1.trans s2).trans s3
        rcases hh with ⟨k, tyv, nos, qn⟩ | ⟨t2, e2, ht, hw, _, qe⟩
        · rcases hx with ⟨_, _, _, rfl⟩ | ⟨t, k2, ev, _, _⟩
          · exact qn T H3 ((s1.trans s2).fresh hT) S3 e3
          · subst ev
            cases tyv with
            | base h =>
              cases h
              exact absurd nos (by decide +kernel)
        · rcases hx with ⟨k, tyv, nos, rfl⟩ | ⟨t, k2, ev, ew, rfl⟩
          · subst e2
            cases tyv with
            | base h =>
              cases h
              exact absurd nos (by decide +kernel)
          · rw [e2] at ev
            cases ev
            exact qe k2 ew T H3 ((s1.trans s2).fresh hT) S3 e3
theorem ok_w_text (C : Ctx K mg) : Has P w K mg base CX0 4 "_law_text" ["pot", "is_town"] sp_w_text := by
  obtain ⟨fd, F⟩ := fn_w_text C
  obtain ⟨f_w_names, fd_w_names, G_w_names, mg_w_names, kp_w_names, b_w_names⟩ := (ok_w_names (P := P) (w := w) (base := base) C).ex
  obtain ⟨f_w_pick, fd_w_pick, G_w_pick, mg_w_pick, kp_w_pick, b_w_pick⟩ := (ok_w_pick (P := P) (w := w) (base := base) C).ex
  obtain ⟨f_w_name, fd_w_name, G_w_name, mg_w_name, kp_w_name, b_w_name⟩ := (ok_w_name (P := P) (w := w) (base := base) C).ex
  refine ⟨⟨_, fd, ?_, gl_w_text C, F.kp, F.bindsN fun _ _ _ _ _ _ us hl => match us, hl with | [_, _], _ => rfl⟩⟩
  refine F.ok (CX := CX0) sc_w_text (fun vs H Q E h => ?_) (fun cdv A outer s H vs Q E hr h => ?_)
  · first | (obtain ⟨_, rfl, _⟩ := h; rfl; done) | (obtain ⟨_, _, rfl, _⟩ := h; rfl; done) | (obtain ⟨_, _, _, rfl, _⟩ := h; rfl; done) | (obtain ⟨_, _, _, _, rfl, _⟩ := h; rfl; done) | (obtain ⟨_, _, _, _, _, rfl, _⟩ := h; rfl; done) | (obtain ⟨_, _, _, _, _, _, rfl, _⟩ := h; rfl; done) | (obtain ⟨_, _, _, _, _, _, _, rfl, _⟩ := h; rfl; done) | (obtain ⟨_, _, _, _, _, _, _, _, rfl, _⟩ := h; rfl; done) | (obtain ⟨_, _, _, _, _, _, _, _, _, rfl, _⟩ := h; rfl; done) | (obtain ⟨_, _, _, _, _, _, _, _, _, _, rfl, _⟩ := h; rfl; done) | (obtain ⟨_, _, _, _, _, _, _, _, _, _, _, rfl, _⟩ := h; rfl; done) | (obtain ⟨_, _, _, _, _, _, _, _, _, _, _, _, rfl, _⟩ := h; rfl; done) | (rcases h with h | h <;> first | (obtain ⟨_, rfl, _⟩ := h; rfl; done) | (obtain ⟨_, _, rfl, _⟩ := h; rfl; done) | (obtain ⟨_, _, _, rfl, _⟩ := h; rfl; done) | (obtain ⟨_, _, _, _, rfl, _⟩ := h; rfl; done) | (obtain ⟨_, _, _, _, _, rfl, _⟩ := h; rfl; done) | (obtain ⟨_, _, _, _, _, _, rfl, _⟩ := h; rfl; done) | (obtain ⟨_, _, _, _, _, _, _, rfl, _⟩ := h; rfl; done) | (obtain ⟨_, _, _, _, _, _, _, _, rfl, _⟩ := h; rfl; done) | (obtain ⟨_, _, _, _, _, _, _, _, _, rfl, _⟩ := h; rfl; done) | (obtain ⟨_, _, _, _, _, _, _, _, _, _, rfl, _⟩ := h; rfl; done) | (obtain ⟨_, _, _, _, _, _, _, _, _, _, _, rfl, _⟩ := h; rfl; done) | (obtain ⟨_, _, _, _, _, _, _, _, _, _, _, _, rfl, _⟩ := h; rfl; done))
  have hu := hu_of hr
  refine ⟨_, PSs.nox (pss_cons (ps_set (i := 2) sc_w_text.nd rfl (Or.inl rfl) (pe_lst pa_nil))
    (pss_cons (ps_set (i := 3) sc_w_text.nd rfl (Or.inl rfl) (pe_callB cr_sortedS (by rfl) (fr_sorted C) (by decide +kernel) (pa_cons (pe_call G_w_names (hr.mono (by decide)) rfl mg_w_names kp_w_names b_w_names .nil pass0 (pa_cons (pv 0) (pa_cons (pe_call G_w_pick (hr.mono (by decide)) rfl mg_w_pick kp_w_pick b_w_pick .nil pass0 (pa_cons (pv 0) (pa_cons pe_int pa_nil))) pa_nil))) pa_nil)))
    (pss_cons (ps_for PassesOwn.never rfl (pi_list (pv 3)) (pg_name (i := 4) sc_w_text.nd rfl (Or.inl rfl))
    (pss_cons (ps_set (i := 5) sc_w_text.nd rfl (Or.inl rfl) (pe_ix ix_list (pe_lst (pa_cons pe_str (pa_cons pe_str (pa_cons pe_str (pa_cons pe_str (pa_cons pe_str (pa_cons (pe_callTy call_str_int (by rfl) (fr_str C) (by decide +kernel) (pa_cons (pe_call G_w_pick (hr.mono (by decide)) rfl mg_w_pick kp_w_pick b_w_pick .nil pass0 (pa_cons (pv 0) (pa_cons pe_int pa_nil))) pa_nil)) (pa_cons pe_str (pa_cons pe_str pa_nil))))))))) (pe_call G_w_pick (hr.mono (by decide)) rfl mg_w_pick kp_w_pick b_w_pick .nil pass0 (pa_cons (pv 0) (pa_cons pe_int pa_nil))) (fun _ _ => rfl)))
    (pss_one (ps_expr (pe_bm PySem.F.plainAttrs_list PySem.F.slot_list_append PySem.F.type_list_append mt_append (pv 2) (pa_cons (pe_op op_addS (pe_op op_addS (pe_op op_addS (pe_op op_addS (pv 4) pe_str) (pe_call G_w_name (hr.mono (by decide)) rfl mg_w_name kp_w_name b_w_name .nil pass0 (pa_cons (pv 0) pa_nil))) pe_str) (pv 5)) pa_nil))))))
    (pss_cons (ps_if (pt_val (pv 1)) (pss_one (ps_ret (pe_joinR pe_str (pv 2)))) pss_nil)
    (pss_cons (ps_set (i := 2) sc_w_text.nd rfl (Or.inl rfl) (pe_lst pa_nil))
    (pss_cons (ps_set (i := 6) sc_w_text.nd rfl (Or.inl rfl) (pe_call G_w_pick (hr.mono (by decide)) rfl mg_w_pick kp_w_pick b_w_pick .nil pass0 (pa_cons (pv 0) (pa_cons pe_int pa_nil))))
    (pss_cons (ps_for PassesOwn.never rfl (pi_range1 rfl (fr_range C) (pa_cons (pe_call G_w_pick (hr.mono (by decide)) rfl mg_w_pick kp_w_pick b_w_pick .nil pass0 (pa_cons (pv 0) (pa_cons pe_int pa_nil))) pa_nil)) (pg_name (i := 7) sc_w_text.nd rfl (Or.inl rfl))
    (pss_cons (ps_set (i := 8) sc_w_text.nd rfl (Or.inl rfl) (pe_call G_w_names (hr.mono (by decide)) rfl mg_w_names kp_w_names b_w_names .nil pass0 (pa_cons (pv 0) (pa_cons (pe_ix ix_list (pe_lst (pa_cons pe_int (pa_cons pe_int (pa_cons pe_int (pa_cons pe_int (pa_cons (pe_op op_add pe_int (pe_call G_w_pick (hr.mono (by decide)) rfl mg_w_pick kp_w_pick b_w_pick .nil pass0 (pa_cons (pv 0) (pa_cons pe_int pa_nil)))) pa_nil)))))) (pe_call G_w_pick (hr.mono (by decide)) rfl mg_w_pick kp_w_pick b_w_pick .nil pass0 (pa_cons (pv 0) (pa_cons pe_int pa_nil))) (fun _ _ => rfl)) pa_nil))))
    (pss_cons (ps_set (i := 9) sc_w_text.nd rfl (Or.inl rfl) (pe_lst (pa_cons (pe_callTy call_str_int (by rfl) (fr_str C) (by decide +kernel) (pa_cons (pv 6) pa_nil)) (pa_cons (pe_callTy call_str_int (by rfl) (fr_str C) (by decide +kernel) (pa_cons (pv 6) pa_nil)) (pa_cons (pe_callTy call_str_int (by rfl) (fr_str C) (by decide +kernel) (pa_cons (pv 6) pa_nil)) (pa_cons (pe_op op_addS pe_str (pe_callTy call_str_int (by rfl) (fr_str C) (by decide +kernel) (pa_cons (pv 6) pa_nil))) (pa_cons pe_str (pa_cons pe_str pa_nil))))))))
    (pss_cons (ps_expr (pe_bm PySem.F.plainAttrs_list PySem.F.slot_list_append PySem.F.type_list_append mt_append (pv 2) (pa_cons (pe_op op_addS (pe_op op_addS (pe_ix ix_list (pv 9) (pe_call G_w_pick (hr.mono (by decide)) rfl mg_w_pick kp_w_pick b_w_pick .nil pass0 (pa_cons (pv 0) (pa_cons pe_int pa_nil))) (fun _ _ => rfl)) pe_str) (pe_joinR pe_str (pv 8))) pa_nil)))
    (pss_one (ps_set (i := 6) sc_w_text.nd rfl (Or.inl rfl) (pe_op op_add (pe_op op_add (pv 6) pe_int) (pe_call G_w_pick (hr.mono (by decide)) rfl mg_w_pick kp_w_pick b_w_pick .nil pass0 (pa_cons (pv 0) (pa_cons pe_int pa_nil))))))))))
    (pss_one (ps_ret (pe_joinR pe_str (pv 2))))))))))), ?_⟩
  obtain ⟨a, b, c, rfl, hp, hc, q⟩ := h
  walk_at "go"
  intro W H1 hW s1 e1
  walk_at "go"
  refine go_pick (hp.step0 s1) (by decide) (by decide) (by omega) fun r1 H2 r10 r11 s2 p2 => ?_
  walk_at "go"
  refine ⟨a, r1, _, rfl, by omega, by omega, p2, by omega, fun L zs H3 hL lz nz nmz _ s3 eL p3 => ?_⟩
  have p3 := p3.mono (show c + 1 + 1 + 13 * r1.toNat ≤ c + 80 by omega)
  walk_at "go"
  refine g_sortedS eL (by omega) fun ys M H4 hys _ hM s4 e4 => ?_
  have aW : a ≠ W := hp.ne hW
  have aM : a ≠ M := p3.ne hM
  have ly := hys.length_eq
  have nmy : ∀ z ∈ ys, IsNm z := fun z hz => nmz z (hys.mem_iff.mp hz)
  have W4 := s4.at0 (s3.at1 (s2.at1 e1 aW.symm) aW.symm)
  have WM : W ≠ M := ne_of_none (s3.at1 (s2.at1 e1 aW.symm) aW.symm) hM
  have S4 : Step [a] H H4 := (s1.up.trans s2).trans (s3.trans s4.up)
  walk_at "go"
  refine wFor_list (xs := ys.map V.str) (fun i σ H' => ∃ (ws : List Str) (v4 v5 v6 v7 v8 v9 : Option V), σ = [some (.ref a), some (.bl b), some (.ref W), some (.ref M), v4, v5, v6, v7, v8, v9] ∧ v6 = none ∧ v7 = none ∧ v8 = none ∧ v9 = none ∧ H' W = some (.lst (ws.map V.str)) ∧ ws.length = i ∧ (∀ z ∈ ws, TOk z ∧ z.length ≤ 22 ∧ 32 ∉ cs z) ∧ PotAt H' a (c + 80 + 20 * i) ∧ Step [a] H H' ∧ H' M = some (.lst (ys.map V.str)))
    ⟨[], none, none, none, none, none, none, rfl, rfl, rfl, rfl, rfl, W4, rfl, by simp, p3.step0 s4, S4, e4⟩ ?_ ?_ ?_
  · rintro i σ H5 _ ⟨ws, v4, v5, v6, v7, v8, v9, rfl, _, _, _, _, g1, g2, g3, g4, g5, g6⟩
    exact g6
  · rintro i x σ H5 hx ⟨ws, v4, v5, v6, v7, v8, v9, rfl, rfl, rfl, rfl, rfl, g1, g2, g3, g4, g5, g6⟩
    rw [List.getElem?_map, Option.map_eq_some_iff] at hx
    obtain ⟨z, hz, rfl⟩ := hx
    have hi : i < ys.length := (List.getElem?_eq_some_iff.mp hz).1
    have nz := nmy z (List.mem_of_getElem? hz)
    walk_at "go"
    refine go_pick g4 (by decide) (by decide) (by omega) fun r2 H6 r20 r21 s6 p6 => ?_
    walk_at "go"
    refine ⟨r2, rfl, log_small r20 (by omega), ?_⟩
    rw [tos r20]
    walk_at "go"
    intro N H7 hN s7 e7
    walk_at "go"
    refine go_pick (p6.step0 s7) (by decide) (by decide) (by omega) fun r3 H8 r30 r31 s8 p8 => ?_
    have aN : a ≠ N := p6.ne hN
    have n2 := numS_len (k := 4) (i := r2) (by decide) r20 (by omega)
    have hv : ∃ y : Str, atI [V.str "1000", V.str "1001", V.str "0", V.str "00", V.str "07", V.str (numS r2), V.str "999", V.str "1"] r3 = some (.str y) ∧ TOk y ∧ y.length ≤ 4 ∧ 32 ∉ cs y := by
      have h8 : r3 = 0 ∨ r3 = 1 ∨ r3 = 2 ∨ r3 = 3 ∨ r3 = 4 ∨ r3 = 5 ∨ r3 = 6 ∨ r3 = 7 := by omega
      rcases h8 with rfl | rfl | rfl | rfl | rfl | rfl | rfl | rfl
      · exact ⟨_, rfl, TOk.low (by decide +kernel), by decide +kernel, by decide +kernel⟩
      · exact ⟨_, rfl, TOk.low (by decide +kernel), by decide +kernel, by decide +kernel⟩
      · exact ⟨_, rfl, TOk.low (by decide +kernel), by decide +kernel, by decide +kernel⟩
      · exact ⟨_, rfl, TOk.low (by decide +kernel), by decide +kernel, by decide +kernel⟩
      · exact ⟨_, rfl, TOk.low (by decide +kernel), by decide +kernel, by decide +kernel⟩
      · exact ⟨_, rfl, tok_num r2, n2, by rw [cs_numS]; exact TL.numL_free (by omega)⟩
      · exact ⟨_, rfl, TOk.low (by decide +kernel), by decide +kernel, by decide +kernel⟩
      · exact ⟨_, rfl, TOk.low (by decide +kernel), by decide +kernel, by decide +kernel⟩
    obtain ⟨y, ey, ty, ly4, fy⟩ := hv
    refine g_ixL (s8.at1 e7 aN.symm) ey ?_
    have hz8 := nz.hi
    have W8 := ((s6.trans s7.up).trans s8).at1 g1 aW.symm
    walk_at "go"
    refine g_addS (leLine (by rw [l_at]; omega)) ?_
    walk_at "go"
    refine go_name p8 (by omega) fun z2 H9 nz2 s9 p9 => ?_
    have hz28 := nz2.hi
    refine g_addS (leLine (by simp only [len_app, l_at]; omega)) ?_
    walk_at "go"
    refine g_addS (leLine (by simp only [len_app, l_at, l_star]; omega)) ?_
    walk_at "go"
    refine g_addS (leLine (by simp only [len_app, l_at, l_star]; omega)) ?_
    have S9 : Step [a] H5 H9 := ((s6.trans s7.up).trans s8).trans s9
    have W9 := S9.at1 g1 aW.symm
    walk_at "go"
    refine g_append W9 (ltLine (by rw [List.length_map]; omega)) fun H10 s10 e10 => ?_
    refine ⟨ws ++ [z ++ "@" ++ z2 ++ "*" ++ y], _, _, none, none, none, none, rfl, rfl, rfl, rfl, rfl, by rw [e10, List.map_append]; rfl, by rw [List.length_append, g2]; rfl, fun x hx => ?_, (p9.step1 s10 aW).mono (by omega), (g5.trans S9).via s10 hW, s10.at1 (S9.at1 g6 aM.symm) WM.symm⟩
    rcases List.mem_append.mp hx with hx | hx
    · exact g3 x hx
    · rw [List.mem_singleton.mp hx]
      refine ⟨(((nz.tok.add (TOk.low (by decide +kernel))).add nz2.tok).add (TOk.low (by decide +kernel))).add ty, by simp only [len_app, l_at, l_star]; omega, ?_⟩
      rw [c_at, c_star]
      simp only [cs_app, List.mem_append, not_or]
      exact ⟨⟨⟨⟨low_free nz (by unfold isLow; omega), by decide⟩, low_free nz2 (by unfold isLow; omega)⟩, by decide⟩, fy⟩
  · rintro σ H5 ⟨ws, v4, v5, v6, v7, v8, v9, rfl, rfl, rfl, rfl, rfl, g1, g2, g3, g4, g5, g6⟩
    rw [List.length_map] at g2 g4
    walk_at "go"
    cases b with
    | true =>
      refine iteT ?_
      walk_at "go"
      have hj := join_len (y := " ") (B := 22) (ss := ws) (by rw [l_blank]; exact Nat.le_refl _) fun z hz => (g3 z hz).2.1
      refine g_join g1 ?_ ?_
      · rw [l_blank]
        have := sum_le (B := 22) (ss := ws) fun z hz => (g3 z hz).2.1
        omega
      · have hw := join_wds (ws := ws) fun z hz => (g3 z hz).2.2
        exact q _ H5 (join_tok fun z hz => (g3 z hz).1) (by omega) (by omega) g5 (g4.mono (by omega))
    | false =>
      refine iteF ?_
      clear g1 g3 W4
      walk_at "go"
      intro W2 H6 hW2 s6 e6
      walk_at "go"
      refine go_pick (g4.step0 s6) (by decide) (by decide) (by omega) fun n0 H7 n00 n01 s7 p7 => ?_
      have aW2 : a ≠ W2 := g4.ne hW2
      walk_at "go"
      refine go_pick p7 (by decide) (by decide) (by omega) fun m H8 m0 m1 s8 p8 => ?_
      walk_at "go"
      refine g_kRng1 (by omega) (by omega) ?_
      have S8 : Step [a] H H8 := (g5.trans s6.up).trans (s7.trans s8)
      refine wFor_rng (fun i σ H' => ∃ (ws : List Str) (n : Int) (v3 v4 v5 v7 v8 v9 : Option V), σ = [some (.ref a), some (.bl false), some (.ref W2), v3, v4, v5, some (.int n), v7, v8, v9] ∧ 0 ≤ n ∧ n ≤ 3 + 13 * i ∧ H' W2 = some (.lst (ws.map V.str)) ∧ ws.length = i ∧ (∀ z ∈ ws, TOk z ∧ z.length ≤ 110 ∧ 32 ∉ cs z) ∧ PotAt H' a (c + 300 + 200 * i) ∧ Step [a] H H')
        ⟨[], n0, _, _, _, _, _, _, rfl, n00, by omega, s8.at1 (s7.at1 e6 aW2.symm) aW2.symm, rfl, by simp, p8.mono (by omega), S8⟩ ?_ ?_
      · rintro i σ H9 hi ⟨us, n, v3, v4, v5, v7, v8, v9, rfl, hn0, hn1, f1, f2, f3, f4, f5⟩
        have hi : i < 4 := by omega
        walk_at "go"
        refine go_pick f4 (by decide) (by decide) (by omega) fun r1 H10 r10 r11 s10 p10 => ?_
        walk_at "go"
        intro N H11 hN s11 e11
        walk_at "go"
        refine go_pick (p10.step0 s11) (by decide) (by decide) (by omega) fun r2 H12 r20 r21 s12 p12 => ?_
        have aN : a ≠ N := p10.ne hN
        obtain ⟨k, hk, ek⟩ : ∃ k : Int, (1 ≤ k ∧ k ≤ 11) ∧ atI [V.int 1, V.int 2, V.int 10, V.int 11, V.int (1 + r1)] r2 = some (.int k) := by
          have h5 : r2 = 0 ∨ r2 = 1 ∨ r2 = 2 ∨ r2 = 3 ∨ r2 = 4 := by omega
          rcases h5 with rfl | rfl | rfl | rfl | rfl
          · exact ⟨1, by omega, rfl⟩
          · exact ⟨2, by omega, rfl⟩
          · exact ⟨10, by omega, rfl⟩
          · exact ⟨11, by omega, rfl⟩
          · exact ⟨1 + r1, by omega, rfl⟩
        refine g_ixL (s12.at1 e11 aN.symm) ek ?_
        walk_at "go"
        refine ⟨a, k, _, rfl, by omega, by omega, p12, by omega, fun X xs H13 hX lx nx nmx _ s13 eX p13 => ?_⟩
        have p13 := p13.mono (show c + 300 + 200 * i + 1 + 1 + 1 + 13 * k.toNat ≤ c + 300 + 200 * i + 150 by omega)
        have aX : a ≠ X := p12.ne hX
        have n2 := numS_len (k := 2) (i := n) (by decide) hn0 (by omega)
        have ln := log_small hn0 (show n < 10 ^ 60 by omega)
        walk_at "go"
        refine ⟨n, rfl, ln, ?_⟩
        rw [tos hn0]
        walk_at "go"
        refine ⟨n, rfl, ln, ?_⟩
        rw [tos hn0]
        walk_at "go"
        refine ⟨n, rfl, ln, ?_⟩
        rw [tos hn0]
        walk_at "go"
        refine ⟨n, rfl, ln, ?_⟩
        rw [tos hn0]
        have l0 : ("0" : Str).length = 1 := by decide +kernel
        refine g_addS (leLine (by rw [l0]; omega)) ?_
        walk_at "go"
        intro Y H14 hY s14 e14
        have W14 := (((s10.trans s11.up).trans s12).trans (s13.trans s14.up)).at1 f1 aW2.symm
        walk_at "go"
        refine go_pick (p13.step0 s14) (by decide) (by decide) (by omega) fun r3 H15 r30 r31 s15 p15 => ?_
        have aY : a ≠ Y := p13.ne hY
        have fn : 32 ∉ cs (numS n) := by rw [cs_numS]; exact TL.numL_free (by omega)
        have hv : ∃ y : Str, atI [V.str (numS n), V.str (numS n), V.str (numS n), V.str ("0" ++ numS n), V.str "999999999", V.str "1000000000"] r3 = some (.str y) ∧ TOk y ∧ y.length ≤ 10 ∧ 32 ∉ cs y := by
          have h6 : r3 = 0 ∨ r3 = 1 ∨ r3 = 2 ∨ r3 = 3 ∨ r3 = 4 ∨ r3 = 5 := by omega
          rcases h6 with rfl | rfl | rfl | rfl | rfl | rfl
          · exact ⟨_, rfl, tok_num n, by omega, fn⟩
          · exact ⟨_, rfl, tok_num n, by omega, fn⟩
          · exact ⟨_, rfl, tok_num n, by omega, fn⟩
          · refine ⟨_, rfl, TOk.add (TOk.low (by decide +kernel)) (tok_num n), by rw [len_app, l0]; omega, ?_⟩
            rw [cs_app, List.mem_append, not_or]
            exact ⟨by decide +kernel, fn⟩
          · exact ⟨_, rfl, TOk.low (by decide +kernel), by decide +kernel, by decide +kernel⟩
          · exact ⟨_, rfl, TOk.low (by decide +kernel), by decide +kernel, by decide +kernel⟩
        obtain ⟨y, ey, ty, ly10, fy⟩ := hv
        refine g_ixL (s15.at1 e14 aY.symm) ey ?_
        have S15 : Step [a] H9 H15 := (((s10.trans s11.up).trans s12).trans s13).trans (s14.up.trans s15)
        have W15 := S15.at1 f1 aW2.symm
        walk_at "go"
        refine g_addS (leLine (by rw [l_colon]; omega)) ?_
        walk_at "go"
        have hjx := join_len (y := ",") (B := 8) (ss := xs) (by rw [l_comma]; exact Nat.le_refl _) fun z hz => (nmx z hz).hi
        refine g_join (s15.at1 (s14.at0 eX) aX.symm) ?_ ?_
        · rw [l_comma]
          have := sum_le (B := 8) (ss := xs) fun z hz => (nmx z hz).hi
          omega
        refine g_addS (leLine (by simp only [len_app, l_colon]; omega)) ?_
        walk_at "go"
        refine g_append W15 (ltLine (by rw [List.length_map]; omega)) fun H16 s16 e16 => ?_
        walk_at "go"
        refine go_pick (p15.step1 s16 aW2) (by decide) (by decide) (by omega) fun r4 H17 r40 r41 s17 p17 => ?_
        walk_at "go"
        refine ⟨us ++ [y ++ ":" ++ Txt.join "," xs], n + 1 + r4, _, _, _, _, _, _, rfl, by omega, by omega, by rw [s17.at1 e16 aW2.symm, List.map_append]; rfl, by rw [List.length_append, f2]; rfl, fun x hx => ?_, p17.mono (by omega), ((f5.trans S15).via s16 (g5.fresh hW2)).trans s17⟩
        rcases List.mem_append.mp hx with hx | hx
        · exact f3 x hx
        · rw [List.mem_singleton.mp hx]
          have jm : ∀ d ∈ cs (Txt.join "," xs), d = 44 ∨ isLow d := by
            intro d hd
            have ej : cs (Txt.join "," xs) = TL.joinL [44] (xs.map cs) := by
              rw [TL.join_eq, c_comma]; exact TL.tl_join _ _
            rw [ej] at hd
            have key : ∀ (ps : List (List Nat)), d ∈ TL.joinL [44] ps → d = 44 ∨ ∃ p ∈ ps, d ∈ p := by
              intro ps
              induction ps with
              | nil => intro h; cases h
              | cons p0 r ih =>
                intro h
                cases r with
                | nil => exact .inr ⟨p0, List.mem_cons_self .., h⟩
                | cons p1 r =>
                  have h : d ∈ p0 ++ ([44] ++ TL.joinL [44] (p1 :: r)) := h
                  rcases List.mem_append.mp h with h | h
                  · exact .inr ⟨p0, List.mem_cons_self .., h⟩
                  · rcases List.mem_append.mp h with h | h
                    · exact .inl (List.mem_singleton.mp h)
                    · rcases ih h with h | ⟨x, hx, h⟩
                      · exact .inl h
                      · exact .inr ⟨x, List.mem_cons_of_mem _ hx, h⟩
            rcases key _ hd with h | ⟨p, hp, h⟩
            · exact .inl h
            · obtain ⟨z, hz, rfl⟩ := List.mem_map.mp hp
              exact .inr ((nmx z hz).low d h)
          refine ⟨(ty.add (TOk.low (by decide +kernel))).add fun d hd => ?_, by simp only [len_app, l_colon]; omega, ?_⟩
          · rcases jm d hd with h | h
            · omega
            · unfold isLow at h; omega
          · rw [c_colon]
            simp only [cs_app, List.mem_append, not_or]
            refine ⟨⟨fy, by decide⟩, fun h => ?_⟩
            rcases jm 32 h with h | h
            · omega
            · unfold isLow at h; omega
      · rintro σ H9 ⟨us, n, v3, v4, v5, v7, v8, v9, rfl, hn0, hn1, f1, f2, f3, f4, f5⟩
        walk_at "go"
        have hj := join_len (y := " ") (B := 110) (ss := us) (by rw [l_blank]; exact Nat.le_refl _) fun z hz => (f3 z hz).2.1
        refine g_join f1 ?_ ?_
        · rw [l_blank]
          have := sum_le (B := 110) (ss := us) fun z hz => (f3 z hz).2.1
          omega
        · have hw := join_wds (ws := us) fun z hz => (f3 z hz).2.2
          exact q _ H9 (join_tok fun z hz => (f3 z hz).1) (by omega) (by omega) f5 (f4.mono (by omega))
end

end My
namespace My
open PySem PySem.Spec PyProof.Rows L2
/-! right -/
def sp_w_right : Sp := fun vs H Q _ => ∃ (a : Addr) (c : Nat), vs = [.ref a] ∧ PotAt H a c ∧ c < 2 ^ 40 ∧ ∀ H', Step [a] H H' → Q (.bl true) H'
theorem foundI_pos {α : Type} (x : Nat ⊕ α) : foundI x = -1 ∨ ∃ k : Nat, foundI x = k := by
  cases x with
  | inl k => exact .inr ⟨k, rfl⟩
  | inr _ => exact .inl rfl
theorem wrongI_pos (b : Bool) (t : Str) : wrongI b t = -1 ∨ ∃ k : Nat, wrongI b t = k := by
  cases b with
  | true => rw [wrongH]; exact foundI_pos _
  | false => rw [wrongT]; exact foundI_pos _
section
variable {P : Program} {w : World} {K : PySem.W.Frag} {mg : Str → Option Value} {base : Heap}
theorem ok_w_right (C : Ctx K mg) : Has P w K mg base CX0 8 "_law_right" ["pot"] sp_w_right := by
  obtain ⟨fd, F⟩ := fn_w_right C
  obtain ⟨f_w_pick, fd_w_pick, G_w_pick, mg_w_pick, kp_w_pick, b_w_pick⟩ := (ok_w_pick (P := P) (w := w) (base := base) C).ex
  obtain ⟨f_w_asked, fd_w_asked, G_w_asked, mg_w_asked, kp_w_asked, b_w_asked⟩ := (ok_w_asked (P := P) (w := w) (base := base) C).ex
  obtain ⟨f_w_text, fd_w_text, G_w_text, mg_w_text, kp_w_text, b_w_text⟩ := (ok_w_text (P := P) (w := w) (base := base) C).ex
  obtain ⟨f_w_bent, fd_w_bent, G_w_bent, mg_w_bent, kp_w_bent, b_w_bent⟩ := (ok_w_bent (P := P) (w := w) (base := base) C).ex
  obtain ⟨f_w_wrong, fd_w_wrong, G_w_wrong, mg_w_wrong, kp_w_wrong, b_w_wrong⟩ := (ok_w_wrong (P := P) (w := w) (base := base) C).ex
  refine ⟨⟨_, fd, ?_, gl_w_right C, F.kp, F.bindsN fun _ _ _ _ _ _ us hl => match us, hl with | [_], _ => rfl⟩⟩
  refine F.ok (CX := CX0) sc_w_right (fun vs H Q E h => ?_) (fun cdv A outer s H vs Q E hr h => ?_)
  · first | (obtain ⟨_, rfl, _⟩ := h; rfl; done) | (obtain ⟨_, _, rfl, _⟩ := h; rfl; done) | (obtain ⟨_, _, _, rfl, _⟩ := h; rfl; done) | (obtain ⟨_, _, _, _, rfl, _⟩ := h; rfl; done) | (obtain ⟨_, _, _, _, _, rfl, _⟩ := h; rfl; done) | (obtain ⟨_, _, _, _, _, _, rfl, _⟩ := h; rfl; done) | (obtain ⟨_, _, _, _, _, _, _, rfl, _⟩ := h; rfl; done) | (obtain ⟨_, _, _, _, _, _, _, _, rfl, _⟩ := h; rfl; done) | (obtain ⟨_, _, _, _, _, _, _, _, _, rfl, _⟩ := h; rfl; done) | (obtain ⟨_, _, _, _, _, _, _, _, _, _, rfl, _⟩ := h; rfl; done) | (obtain ⟨_, _, _, _, _, _, _, _, _, _, _, rfl, _⟩ := h; rfl; done) | (obtain ⟨_, _, _, _, _, _, _, _, _, _, _, _, rfl, _⟩ := h; rfl; done) | (rcases h with h | h <;> first | (obtain ⟨_, rfl, _⟩ := h; rfl; done) | (obtain ⟨_, _, rfl, _⟩ := h; rfl; done) | (obtain ⟨_, _, _, rfl, _⟩ := h; rfl; done) | (obtain ⟨_, _, _, _, rfl, _⟩ := h; rfl; done) | (obtain ⟨_, _, _, _, _, rfl, _⟩ := h; rfl; done) | (obtain ⟨_, _, _, _, _, _, rfl, _⟩ := h; rfl; done) | (obtain ⟨_, _, _, _, _, _, _, rfl, _⟩ := h; rfl; done) | (obtain ⟨_, _, _, _, _, _, _, _, rfl, _⟩ := h; rfl; done) | (obtain ⟨_, _, _, _, _, _, _, _, _, rfl, _⟩ := h; rfl; done) | (obtain ⟨_, _, _, _, _, _, _, _, _, _, rfl, _⟩ := h; rfl; done) | (obtain ⟨_, _, _, _, _, _, _, _, _, _, _, rfl, _⟩ := h; rfl; done) | (obtain ⟨_, _, _, _, _, _, _, _, _, _, _, _, rfl, _⟩ := h; rfl; done))
  have hu := hu_of hr
  refine ⟨_, PSs.nox (pss_cons (ps_set (i := 1) sc_w_right.nd rfl (Or.inl rfl) (pe_cmpR op_eq (pe_call G_w_pick (hr.mono (by decide)) rfl mg_w_pick kp_w_pick b_w_pick .nil pass0 (pa_cons (pv 0) (pa_cons pe_int pa_nil))) pe_int (nomark _)))
    (pss_cons (ps_set (i := 2) sc_w_right.nd rfl (Or.inl rfl) (pe_call G_w_pick (hr.mono (by decide)) rfl mg_w_pick kp_w_pick b_w_pick .nil pass0 (pa_cons (pv 0) (pa_cons pe_int pa_nil))))
    (pss_cons (ps_set (i := 3) sc_w_right.nd rfl (Or.inl rfl) (pe_call G_w_pick (hr.mono (by decide)) rfl mg_w_pick kp_w_pick b_w_pick .nil pass0 (pa_cons (pv 0) (pa_cons pe_int pa_nil))))
    (pss_cons (ps_if (pt_cmpR op_eq (pv 2) pe_int (nomark _)) (pss_cons (ps_set (i := 4) sc_w_right.nd rfl (Or.inl rfl) (pe_ix ix_list (pe_lst (pa_cons pe_non (pa_cons pe_int (pa_cons (pe_lst pa_nil) (pa_cons pe_dnewK (pa_cons pe_bl (pa_cons (pe_tup (pa_cons pe_str pa_nil)) (pa_cons (pe_lst (pa_cons pe_str pa_nil)) (pa_cons pe_int pa_nil))))))))) (pe_call G_w_pick (hr.mono (by decide)) rfl mg_w_pick kp_w_pick b_w_pick .nil pass0 (pa_cons (pv 0) (pa_cons pe_int pa_nil))) (fun _ _ => rfl)))
    (pss_one (ps_ret (pe_cmpR (op_eqX (unit2 hr)) (pe_call G_w_asked (hr.mono (by decide)) rfl mg_w_asked kp_w_asked b_w_asked .nil pass0 (pa_cons (pv 4) (pa_cons (pv 1) pa_nil))) (pe_tup (pa_cons pe_str (pa_cons pe_non (pa_cons pe_bl pa_nil)))) (nomark _))))) pss_nil)
    (pss_cons (ps_set (i := 5) sc_w_right.nd rfl (Or.inl rfl) (pe_call G_w_text (hr.mono (by decide)) rfl mg_w_text kp_w_text b_w_text .nil pass0 (pa_cons (pv 0) (pa_cons (pv 1) pa_nil))))
    (pss_cons (ps_for PassesOwn.never rfl (pi_range1 rfl (fr_range C) (pa_cons (pv 3) pa_nil)) (pg_name (i := 6) sc_w_right.nd rfl (Or.inl rfl))
    (pss_one (ps_set (i := 5) sc_w_right.nd rfl (Or.inl rfl) (pe_call G_w_bent (hr.mono (by decide)) rfl mg_w_bent kp_w_bent b_w_bent .nil pass0 (pa_cons (pv 0) (pa_cons (pv 5) pa_nil))))))
    (pss_cons (ps_set (i := 7) sc_w_right.nd rfl (Or.inl rfl) (pe_call G_w_wrong (hr.mono (by decide)) rfl mg_w_wrong kp_w_wrong b_w_wrong .nil pass0 (pa_cons (pv 5) (pa_cons (pv 1) pa_nil))))
    (pss_cons (ps_set (i := 8) sc_w_right.nd rfl (Or.inl rfl) (pe_call G_w_asked (hr.mono (by decide)) rfl mg_w_asked kp_w_asked b_w_asked .nil pass0 (pa_cons (pv 5) (pa_cons (pv 1) pa_nil))))
    (pss_cons (ps_if (pt_cmpR op_lt (pv 7) pe_int (nomark _)) (pss_one (ps_ret (pe_and (pe_callB call_isi (by rfl) (fr_isinstance C) (by decide +kernel) (pa_cons (pv 8) (pa_cons (pe_bltn (v := .ty "str") (by rfl) (fr_str C) (by decide +kernel) rfl) pa_nil))) (pe_one (pe_cmpR op_eq (pv 8) (pv 5) (nomark _)))))) pss_nil)
    (pss_one (ps_ret (pe_and (pe_cmpR (op_eqX (unit2 hr)) (pv 8) (pe_tup (pa_cons pe_str (pa_cons (pv 7) (pa_cons pe_bl pa_nil)))) (nomark _)) (pe_one (pe_not (pe_callB call_isi (by rfl) (fr_isinstance C) (by decide +kernel) (pa_cons (pe_ix ix_tup (pv 8) pe_int (fun _ _ => rfl)) (pa_cons (pe_bltn (v := .ty "bool") (by rfl) (fr_bool C) (by decide +kernel) rfl) pa_nil))))))))))))))))), ?_⟩
  obtain ⟨a, c, rfl, hp, hc, q⟩ := h
  walk_at "go"
  refine go_pick hp (by decide) (by decide) (by omega) fun r1 H1 r10 r11 s1 p1 => ?_
  walk_at "go"
  generalize decide (r1 = 0) = b
  refine go_pick p1 (by decide) (by decide) (by omega) fun r2 H2 r20 r21 s2 p2 => ?_
  walk_at "go"
  refine go_pick p2 (by decide) (by decide) (by omega) fun r3 H3 r30 r31 s3 p3 => ?_
  have S3 := (s1.trans s2).trans s3
  walk_at "go"
  refine g_ite (fun _ => ?_) (fun _ => ?_)
  · walk_at "go"
    intro L1 H4 hL1 s4 e4
    walk_at "go"
    refine g_dnewK fun D1 H5 hD1 s5 e5 => ?_
    walk_at "go"
    intro T1 H6 hT1 s6 e6
    walk_at "go"
    intro L2 H7 hL2 s7 e7
    walk_at "go"
    intro L3 H8 hL3 s8 e8
    walk_at "go"
    have S8 := (s4.trans s5).trans ((s6.trans s7).trans s8)
    refine go_pick (p3.step0 S8) (by decide) (by decide) (by omega) fun r4 H9 r40 r41 s9 p9 => ?_
    have aL3 : a ≠ L3 := (p3.step0 ((s4.trans s5).trans (s6.trans s7))).ne hL3
    have aL1 : a ≠ L1 := p3.ne hL1
    have aD1 : a ≠ D1 := (p3.step0 s4).ne hD1
    have aT1 : a ≠ T1 := (p3.step0 (s4.trans s5)).ne hT1
    have aL2 : a ≠ L2 := (p3.step0 ((s4.trans s5).trans s6)).ne hL2
    have hv : ∃ (v : V) (k : String), atI [V.non, V.int 0, V.ref L1, V.ref D1, V.bl true, V.ref T1, V.ref L2, V.int 7] r4 = some v ∧ TyX K H9 v (.type k) ∧ kitB k "str" = some false := by
      have h8 : r4 = 0 ∨ r4 = 1 ∨ r4 = 2 ∨ r4 = 3 ∨ r4 = 4 ∨ r4 = 5 ∨ r4 = 6 ∨ r4 = 7 := by omega
      rcases h8 with rfl | rfl | rfl | rfl | rfl | rfl | rfl | rfl
      · exact ⟨_, _, rfl, .base .non, by decide +kernel⟩
      · exact ⟨_, _, rfl, .base (.int _), by decide +kernel⟩
      · exact ⟨_, _, rfl, .base (.lst (s9.at1 ((s5.trans ((s6.trans s7).trans s8)).at0 e4) aL1.symm)), by decide +kernel⟩
      · exact ⟨_, _, rfl, .base (.dK (s9.at1 (((s6.trans s7).trans s8).at0 e5) aD1.symm)), by decide +kernel⟩
      · exact ⟨_, _, rfl, .base (.bl _), by decide +kernel⟩
      · exact ⟨_, _, rfl, .base (.tup (s9.at1 ((s7.trans s8).at0 e6) aT1.symm)), by decide +kernel⟩
      · exact ⟨_, _, rfl, .base (.lst (s9.at1 (s8.at0 e7) aL2.symm)), by decide +kernel⟩
      · exact ⟨_, _, rfl, .base (.int _), by decide +kernel⟩
    obtain ⟨v, k, ev, tyv, nos⟩ := hv
    refine g_ixL (s9.at1 e8 aL3.symm) ev ?_
    walk_at "go"
    refine ⟨v, b, rfl, .inl ⟨k, tyv, nos, fun T H10 hT s10 e10 => ?_⟩⟩
    walk_at "go"
    intro U H11 hU s11 e11
    refine .inl (g_eqC (cAns) (x := (("no" : Str), none, true)) (y := (("no" : Str), none, true)) ⟨T, _, _, _, rfl, s11.at0 e10, rfl, rfl, rfl⟩ ⟨U, _, _, _, rfl, e11, rfl, rfl, rfl⟩ ⟨no_ok, trivial, trivial⟩ ⟨no_ok, trivial, trivial⟩ ?_)
    rw [decide_eq_true rfl]
    exact q H11 ((S3.trans S8.up).trans (s9.trans (s10.trans s11).up))
  · walk_at "go"
    refine ⟨a, b, _, rfl, p3, by omega, fun t0 H4 tk0 l0 w0 s4 p4 => ?_⟩
    walk_at "go"
    refine g_kRng1 (by omega) (by omega) ?_
    refine wFor_rng (fun i σ H' => ∃ (t : Str) (v6 : Option V), σ = [some (.ref a), some (.bl b), some (.int r2), some (.int r3), none, some (.str t), v6, none, none] ∧ TOk t ∧ t.length ≤ [450, 902, 1806, 3614].getD i 0 ∧ wds t ≤ 5 + i ∧ PotAt H' a (c + 2003 + 20 * i) ∧ Step [a] H H')
      ⟨t0, none, rfl, tk0, l0, w0, p4.mono (by omega), S3.trans s4⟩ ?_ ?_
    · rintro i σ H5 hi ⟨t, v6, rfl, g1, g2, g3, g4, g5⟩
      have hi : i < 3 := by omega
      have h3 : i = 0 ∨ i = 1 ∨ i = 2 := by omega
      walk_at "go"
      refine ⟨a, t, _, rfl, g4, by omega, g1, by rcases h3 with rfl | rfl | rfl <;> exact Nat.le_trans g2 (by decide), fun t' H6 tk' l' w' s6 p6 => ?_⟩
      walk_at "go"
      refine ⟨t', _, rfl, tk', ?_, by omega, p6.mono (by omega), g5.trans s6⟩
      rcases h3 with rfl | rfl | rfl
      · have g2 : t.length ≤ 450 := g2
        show t'.length ≤ 902; omega
      · have g2 : t.length ≤ 902 := g2
        show t'.length ≤ 1806; omega
      · have g2 : t.length ≤ 1806 := g2
        show t'.length ≤ 3614; omega
    · rintro σ H5 ⟨t, v6, rfl, g1, g2, g3, g4, g5⟩
      have h4 : r3.toNat = 0 ∨ r3.toNat = 1 ∨ r3.toNat = 2 ∨ r3.toNat = 3 := by omega
      have lt : t.length ≤ 4000 := by rcases h4 with h | h | h | h <;> rw [h] at g2 <;> exact Nat.le_trans g2 (by decide)
      walk_at "go"
      refine ⟨t, b, rfl, lt, g1, fun H6 s6 => ?_⟩
      walk_at "go"
      refine ⟨.str t, b, rfl, .inr ⟨t, rfl, lt, by omega, fun hw H7 s7 => ?_, fun k hw T H7 hT s7 e7 => ?_⟩⟩
      · walk_at "go"
        rw [hw]
        refine iteT ?_
        walk_at "go"
        refine g_isi (r := true) (.base (.str _)) (by decide +kernel) ?_
        refine g_kAnd (iteT ?_)
        walk_at "go"
        rw [decide_eq_true rfl]
        exact q H7 (g5.trans (s6.trans s7).up)
      · walk_at "go"
        rw [hw, decide_eq_false (show ¬ ((k : Nat) : Int) < 0 by omega)]
        refine iteF ?_
        walk_at "go"
        intro U H8 hU s8 e8
        refine .inl (g_eqC (cAns) (x := (("no" : Str), some (k : Int), true)) (y := (("no" : Str), some (k : Int), true)) ⟨T, _, _, _, rfl, s8.at0 e7, rfl, rfl, rfl⟩ ⟨U, _, _, _, rfl, e8, rfl, rfl, rfl⟩ ⟨no_ok, trivial, trivial⟩ ⟨no_ok, trivial, trivial⟩ ?_)
        refine g_kAnd ?_
        rw [decide_eq_true rfl]
        refine iteT ?_
        walk_at "go"
        refine g_ixT (s8.at0 e7) (v := .int k) rfl ?_
        walk_at "go"
        refine g_isi (r := false) (.base (.int _)) (by decide +kernel) ?_
        walk_at "go"
        exact q H8 (g5.trans ((s6.trans s7).trans s8).up)
end

end My
namespace My
open PySem PySem.Spec PyProof.Rows L2
/-! the law -/
theorem sq_step0 {K : PySem.W.Frag} {H H' : Hp} {a : Addr} {xs : List V} (h : SqL K H a xs) (s : Step [] H H') : SqL K H' a xs := by
  rcases h with (h | ⟨o, h⟩) | h
  · exact .inl (.inl (s.at0 h))
  · exact .inl (.inr ⟨o, s.at0 h⟩)
  · exact .inr h
def sp_law (K : PySem.W.Frag) : Sp := fun vs H Q _ => ∃ (p : Addr) (ns : List Int), vs = [.ref p] ∧ SqL K H p (ns.map V.int) ∧ ∀ H', Q (.bl true) H'
section
variable {P : Program} {w : World} {K : PySem.W.Frag} {mg : Str → Option Value} {base : Heap}
theorem ok_law (C : Ctx K mg) {fd : FuncData} (F : FunD K "law" "law" (defArgs s_law) (defBody s_law) (defScope s_law) [] [] (He.fAd K ("law", none)) fd) : FnOk P w K mg base CX0 9 (He.fAd K ("law", none)) fd ["script"] (sp_law K) := by
  obtain ⟨f_w_right, fd_w_right, G_w_right, mg_w_right, kp_w_right, b_w_right⟩ := (ok_w_right (P := P) (w := w) (base := base) C).ex
  obtain ⟨f_w_pot, fd_w_pot, G_w_pot, mg_w_pot, kp_w_pot, b_w_pot⟩ := (ok_w_pot (P := P) (w := w) (base := base) C).ex
  obtain ⟨f_w_cell_at, fd_w_cell_at, G_w_cell_at, mg_w_cell_at, kp_w_cell_at, b_w_cell_at⟩ := (ok_w_cell_at (P := P) (w := w) (base := base) C).ex
  refine F.ok (CX := CX0) sc_law (fun vs H Q E h => ?_) (fun cdv A outer s H vs Q E hr h => ?_)
  · obtain ⟨_, _, rfl, _⟩ := h
    rfl
  have hu := hu_of hr
  refine ⟨_, PSs.nox (pss_cons (ps_for PassesOwn.never rfl (pi_range1 rfl (fr_range C) (pa_cons (pe_callB (cr_max2 rfl) (by rfl) (fr_max C) (by decide +kernel) (pa_cons pe_int (pa_cons (pe_callB (cr_min2 rfl) (by rfl) (fr_min C) (by decide +kernel) (pa_cons pe_int (pa_cons (pe_callB cr_lenL (by rfl) (fr_len C) PySem.boot_len (pa_cons (pv 0) pa_nil)) pa_nil))) pa_nil))) pa_nil)) (pg_name (i := 1) sc_law.nd rfl (Or.inl rfl))
    (pss_one (ps_if (pt_not (pt_val (pe_call G_w_right (hr.mono (by decide)) rfl mg_w_right kp_w_right b_w_right .nil pass0 (pa_cons (pe_call G_w_pot (hr.mono (by decide)) rfl mg_w_pot kp_w_pot b_w_pot .nil pass0 (pa_cons (pe_call G_w_cell_at (hr.mono (by decide)) rfl mg_w_cell_at kp_w_cell_at b_w_cell_at .nil pass0 (pa_cons (pv 0) (pa_cons (pv 1) pa_nil))) pa_nil)) pa_nil)))) (pss_one (ps_ret pe_bl)) pss_nil)))
    (pss_one (ps_ret pe_bl))), ?_⟩
  obtain ⟨p, ns, rfl, hS, q⟩ := h
  walk_at "go"
  refine g_kRng1 (by omega) (by omega) ?_
  refine wFor_rng (fun i σ H' => ∃ v1 : Option V, σ = [some (.ref p), v1] ∧ SqL K H' p (ns.map V.int)) ⟨_, rfl, hS⟩ ?_ ?_
  · rintro i σ H1 hi ⟨v1, rfl, h1⟩
    simp only [Int.zero_add]
    walk_at "go"
    refine ⟨p, ns, i, rfl, h1, fun z => ?_⟩
    walk_at "go"
    refine ⟨z, rfl, fun b H2 hb s2 p2 => ?_⟩
    walk_at "go"
    refine ⟨b, 0, rfl, p2, by decide, fun H3 s3 => ?_⟩
    walk_at "go"
    refine iteF ?_
    walk_at "go"
    exact ⟨_, rfl, sq_step0 h1 (s2.via s3 hb)⟩
  · rintro σ H1 ⟨v1, rfl, h1⟩
    walk_at "go"
    exact q H1
end

end My
namespace My
open PySem PySem.Spec PyProof.Rows L2
/-! the head -/
abbrev Rw : PySem.W.OpenRow := PySem.W.OpenLaw.row PySem.Challenge.rw_sherdhall_k92_texts_spoilt_anywhere
abbrev hk : PySem.W.Hook := hookX 4 ck fn
def ob (s : PySem.W.SharedT) : AlX := obsXG 4 ck fn (HandSHeadRun.getT s)
theorem ob_eq (s : PySem.W.SharedT) : ob s = hk.obs s.abs := obsXG_eq (HandSHeadRun.getT_eq s)
def loose0 : List Str := ["_wall", "SherdError", "NoName", "Taken", "NoWeight", "NoText", "LETTERS", "LONGEST", "is_whole", "is_name", "need_name", "HEAVIEST", "is_weight", "Town", "FIGURES", "MOST_FIGURES", "MOST_HOMES", "is_figures", "show_town", "show_table", "house_in", "ticket_in", "rows_in", "read_town", "read_table", "_law_cell_at", "_law_pot", "_law_pick", "_law_name", "_law_names"]
def loose1 : List Str := ["_law_is_name", "_law_mixed", "_law_sign", "_law_bent", "_law_figures", "_law_town_word", "_law_table_word", "_law_wrong", "_law_asked", "_law_text", "_law_right"]
def loose : List Str := loose0 ++ loose1
theorem run (w : World) : HandSHeadRun.RunEq Rw (PySem.W.view Rw.prog [46]) hk ob 4000 loose w := by
  intro os
  kernel_rfl

end My
namespace My
open PySem PySem.Spec PyProof.Rows L2
theorem facts {P : Program} {w : World} {K : PySem.W.Frag} {h : Heap} {mg : Str → Option Value} {f : Addr} (X : K.In h) (G : h.Ns mainGlobals mg) (hfa : mg ("law" : Str) = some (.ref f)) (c : SaysX ck fn K) :
    ∃ fd : FuncData, (∀ (s : Shared) (v : Value), BindsTo s fd ⟨[v], []⟩ [("script", v)]) ∧ ∀ base : Heap, K.In base → base.Ns mainGlobals mg → FnOk P w K mg base CX0 9 f fd ["script"] (sp_law K) := by
  have C : Ctx K mg := ⟨⟨_, X, G⟩, c⟩
  obtain ⟨fd, F⟩ := fn_law C
  have e := hfa.symm.trans (gl_law C)
  cases e
  have b := FunD.bindsA (ps := ["script"]) F fun _ _ _ _ _ _ us hl => match us, hl with | [_], _ => rfl
  exact ⟨fd, fun s v => b s [v] rfl, fun base _ _ => ok_law C F⟩
end My
open PySem PySem.W PySem.Calls PyProof.Rows
theorem PySem.Challenge.cw_sherdhall_k92_texts_spoilt_anywhere_holds : PySem.Challenge.rw_sherdhall_k92_texts_spoilt_anywhere.Holds := by
  w_on; o_law
  refine HandSHeadRun.head_any (r := OpenLaw.row PySem.Challenge.rw_sherdhall_k92_texts_spoilt_anywhere) (q := view (OpenLaw.row PySem.Challenge.rw_sherdhall_k92_texts_spoilt_anywhere).prog [46]) (H := My.hk) (ob := My.ob) (M := 4000) (loose := My.loose) (d := HandSHeadRun.topDef (OpenLaw.row PySem.Challenge.rw_sherdhall_k92_texts_spoilt_anywhere).prog 46) (kwd := []) My.ob_eq
    (by kernel_rfl) (fun s => by kernel_rfl) My.run (by kernel_rfl) (by kernel_rfl) (by kernel_rfl) (by rfl) (by first | assumption | decide +kernel) (by decide +kernel) ⟨rfl, rfl, rfl, rfl, rfl, by decide +kernel⟩ ?hw ?hc
  case hw => w_witness2
  case hc =>
    refine L2.walk_ofE (l := PySem.Challenge.rw_sherdhall_k92_texts_spoilt_anywhere) (n := 63) (k := 9) (x := "script") (CX := L2.CX0) rfl (by decide) (by kernel_rfl) ⟨rfl, by decide, by decide⟩ ?F (fun _ _ _ _ z => z)
    intro w mg fa h Y G hmg0
    obtain ⟨K, KX, c⟩ := Y
    have hmg : mg ("law" : PySem.Str) = some (.ref fa) := by
      have e : (HandSHeadRun.topDef (OpenLaw.row PySem.Challenge.rw_sherdhall_k92_texts_spoilt_anywhere).prog 46).name = ("law" : PySem.Str) := by kernel_rfl
      rw [← e]
      exact hmg0
    obtain ⟨fd, hb, hF⟩ := My.facts (P := (PySem.Challenge.rw_sherdhall_k92_texts_spoilt_anywhere).prog) (w := w) KX G hmg c
    exact ⟨K, fd, My.sp_law K, KX, hb, fun H a ns hl _ hS => ⟨a, ns, rfl, hS, fun _ => rfl⟩, hF⟩
namespace My

end My
