import PyProof.Rows.All
import Wide.All
import OpenK.AllK
import Wide.FinOn
import HandS.ForMost
import HandS.Head0
import HandS.Head1
import HandS.Head2
import HandS.Head3
import HandS.HeadEnd
import HandS.HeadHook1
import HandS.HeadHook2
import HandS.Defaults
import HandS.Exc
import HandS.ExcInit
import HandS.Wide
import HandS.TryMany
import HandS.DictComp
import HandS.WordsExc
import HandS.IsInst
import HandS.DeepEq
import HandS.DictEq
import HandS.More
import HandS.ExcField
import HandS.Sort
import HandS.TryOnly
import HandS.SortOrd
import HandS.SortRule
import HandS.Strs
import HandS.CallLocal
import HandS.SlotsOwn
import HandS.FStr
import HandS.OwnEq
import HandS.TupLe
import HandS.Codes
import KE.KEqNest
import KE.KDictZip
import KE.SortData
import HandS.ExcIs
import HandS.ExcValue
import HandS.DictTup
import PyProof.DictMoreH
import HandS.Flow
import KE.KDictWalk
import HandS.Deep
import HandS.MakeKwOnly
import KE.DataMinMax
import HandS.SortInts
import HandS.Conv
import PySem.Challenge.RW_sherdhall_k80_whole_as_few_rounds_as_can
set_option Elab.async false
set_option linter.all false
set_option maxRecDepth 100000
set_option maxHeartbeats 4000000
/-! Kit: the head by facts, heaps in steps, the rules that lack. -/
namespace My
open PySem PySem.Spec PyProof.Rows L2
/-! ### facts by a Hook -/
abbrev AlX : Type := Bool × List He.FnW
def obsX (ck : List (PySem.W.Frag → Bool)) (fn : List He.DefD) (K : PySem.W.Frag) : AlX := ((ck.all fun f => f K) && fn.all fun d => d.ok K, fn.map fun d => He.fnW K d.at_)
def valX (fn : List He.DefD) : AlX := (true, fn.map He.DefD.val)
def SaysX (ck : List (PySem.W.Frag → Bool)) (fn : List He.DefD) (K : PySem.W.Frag) : Prop := obsX ck fn K = valX fn
def obsXG (n : Nat) (ck : List (PySem.W.Frag → Bool)) (fn : List He.DefD) (g : Addr → Option Obj) : AlX := obsX ck fn (He.frG g (He.asD g n))
def hookX (n : Nat) (ck : List (PySem.W.Frag → Bool)) (fn : List He.DefD) : PySem.W.Hook where
  α := AlX
  obs := fun s => obsXG n ck fn s.heap.get?
  val := fun _ => valX fn
  says := fun _ h => ∃ K : PySem.W.Frag, K.In h ∧ SaysX ck fn K
  of := fun _ _ e => ⟨_, He.frG_in, e⟩
  keeps := fun _ _ _ ⟨K, hK, c⟩ k => ⟨K, PySem.W.Frag.In.keeps hK k, c⟩
theorem obsXG_eq {n : Nat} {ck : List (PySem.W.Frag → Bool)} {fn : List He.DefD} {g : Addr → Option Obj} {s : Shared} (h : ∀ a, g a = s.heap.get? a) : obsXG n ck fn g = (hookX n ck fn).obs s := by
  have e : g = s.heap.get? := funext h
  rw [e] <;> rfl
section
variable {ck : List (PySem.W.Frag → Bool)} {fn : List He.DefD} {K : PySem.W.Frag}
theorem SaysX.fact (c : SaysX ck fn K) (i : Nat) {f : PySem.W.Frag → Bool} (h : ck[i]? = some f := by rfl) : f K = true := by
  have c1 := (He.ba (show ((ck.all fun f => f K) && fn.all fun d => d.ok K) = true from congrArg (fun z : AlX => z.1) c)).1
  exact List.all_eq_true.mp c1 f (List.mem_of_getElem? h)
theorem SaysX.def_ (c : SaysX ck fn K) (i : Nat) {d : He.DefD} (h : fn[i]? = some d := by rfl) : ∃ fd, FunD K d.name d.qual d.params d.body d.scope (d.dvs K) (d.kws K) (He.fAd K d.at_) fd := by
  have c2 := (He.ba (show ((ck.all fun f => f K) && fn.all fun d => d.ok K) = true from congrArg (fun z : AlX => z.1) c)).2
  have e : fn.map (fun d => He.fnW K d.at_) = fn.map He.DefD.val := congrArg (fun z : AlX => z.2) c
  have e2 : (fn.map fun d => He.fnW K d.at_)[i]? = (fn.map He.DefD.val)[i]? := by rw [e]
  rw [List.getElem?_map, List.getElem?_map, h] at e2
  exact He.DefD.funD (Option.some.inj e2) (List.all_eq_true.mp c2 d (List.mem_of_getElem? h))
end
/-- a def of the module as its callers see it -/
structure Has (P : Program) (w : World) (K : PySem.W.Frag) (mg : Str → Option Value) (base : Heap) (CX : CXT) (k : Nat) (x : Str) (ps : List Str) (sp : Sp) : Prop where
  ex : ∃ (f : Addr) (fd : FuncData), FnOk P w K mg base CX k f fd ps sp ∧ mg x = some (.ref f) ∧ PySem.W.keepIn K (.ref f) = true ∧ Binds K fd ps []
/-! ### own exceptions -/
/-- an own exception class, somewhere under ValueError -/
structure ExcT (K : PySem.W.Frag) (C : Addr) (fs : List Str) : Prop where
  ox : OexC K C
  xf : XfC K C
  no : ∀ f ∈ fs, PySem.W.findIn K (.ref C) f = some none
  ini : PySem.W.findIn K (.ref C) "__init__" = some (some (.ref (He.ma K C "__init__")))
  tI : PySem.W.typeIn K (.ref (He.ma K C "__init__")) = some (.type "function")
def excShape (K : PySem.W.Frag) (C : Addr) : Bool := match K.lookup C with
  | some ⟨.type "type", _, .cls cd, sl⟩ => (match cd.mro, sl.toList with
    | .ref C' :: bm, [_, _, _, _, some (.builtin n), _] => C' == C && (n == "ValueError.__new__" && (!cd.hasDel && (cd.hasDict && PySem.HandSPX.refsVE bm)))
    | _, _ => false)
  | _ => false
theorem excShape_ok {K : PySem.W.Frag} {C : Addr} (q : excShape K C = true) : ∃ nm q N bs bm sn sub ab col dd k0 k1 k2 k3 k5, K.lookup C = some (excClassObj nm q C N bs bm true sn sub ab col dd k0 k1 k2 k3 k5 "ValueError.__new__") ∧ PySem.HandSPX.refsVE bm = true := by
  unfold excShape at q
  split at q
  · rename_i dd cd sl ho
    split at q
    · rename_i C' bm k0 k1 k2 k3 n k5 hm hs
      simp only [Bool.and_eq_true, beq_iff_eq, Bool.not_eq_true'] at q
      obtain ⟨rfl, rfl, hdel, hdict, hb⟩ := q
      obtain ⟨nm, bs, mro, ns, qn, hd, sn, sub, ab, col, del⟩ := cd
      dsimp only at hm hdel hdict
      subst hm hdel hdict
      have hsl : sl = #[k0, k1, k2, k3, some (.builtin "ValueError.__new__"), k5] := by
        obtain ⟨l⟩ := sl
        simp only at hs
        rw [hs]
      subst hsl
      exact ⟨nm, qn, ns, bs, bm, sn, sub, ab, col, dd, k0, k1, k2, k3, k5, ho, hb⟩
    · cases q
  · cases q
def excB (K : PySem.W.Frag) (C : Addr) (fs : List Str) : Bool :=
  excShape K C && (He.eqO (PySem.W.findIn K (.ref C) "__setattr__") (some (some (.builtin "object.__setattr__"))) && (decide (PySem.W.subIn K (.ref C) (.type "BaseException") = some true) &&
    (decide (PySem.W.typeIn K (.ref C) = some (.type "type")) && (PySem.W.keepIn K (.ref C) && (xfB K C && ((fs.all fun f => He.eqO (PySem.W.findIn K (.ref C) f) (some none)) &&
    (He.eqO (PySem.W.findIn K (.ref C) "__init__") (some (some (.ref (He.ma K C "__init__")))) && decide (PySem.W.typeIn K (.ref (He.ma K C "__init__")) = some (.type "function")))))))))
theorem excB_ok {K : PySem.W.Frag} {C : Addr} {fs : List Str} (h : excB K C fs = true) : ExcT K C fs := by
  obtain ⟨h1, h⟩ := He.ba h
  obtain ⟨h2, h⟩ := He.ba h
  obtain ⟨h3, h⟩ := He.ba h
  obtain ⟨h4, h⟩ := He.ba h
  obtain ⟨h5, h⟩ := He.ba h
  obtain ⟨h6, h⟩ := He.ba h
  obtain ⟨h7, h⟩ := He.ba h
  obtain ⟨h8, h9⟩ := He.ba h
  exact ⟨⟨excShape_ok h1, He.eqO_ok h2, of_decide_eq_true h3, of_decide_eq_true h4, h5⟩, xfB_ok h6, fun f hf => He.eqO_ok (List.all_eq_true.mp h7 f hf), He.eqO_ok h8, of_decide_eq_true h9⟩
/-! ### several clauses, each with a name or without one -/
/-- behind a suite the name is gone -/
def endsAs (o : Option Nat) (D : Ends) : Ends := match o with
  | none => D
  | some i => { nx := fun σ' H' => D.nx (σ'.set i none) H', rt := D.rt, bk := fun σ' H' => D.bk (σ'.set i none) H', ct := fun σ' H' => D.ct (σ'.set i none) H' }
def slotAs (o : Option Nat) (a : Addr) (σ : L2.St) : L2.St := match o with
  | none => σ
  | some i => σ.set i (some (.ref a))
abbrev Cl := Value × Option Nat × (Addr → Value → Option Addr → TS)
def wManyA (K : PySem.W.Frag) (Wout : WX) (D : Ends) : List Cl → WX
  | [] => Wout
  | (c, o, ts) :: r => fun cls d σ H => ∃ b, PySem.W.exmOne K cls c = some b ∧ (b = true → ∀ a, H a = none → ts a cls d (endsAs o D) (slotAs o a σ) H) ∧ (b = false → wManyA K Wout D r cls d σ H)
inductive HdsA (X : Cx) : List ExceptHandler → List Cl → Prop
  | nil : HdsA X [] []
  | cons {x : Str} {c : Value} {ts : Addr → Value → Option Addr → TS} {b0 : Stmt} {suite : List Stmt} {np pos' : Pos} {hds : List ExceptHandler} {l : List Cl} (hc : Names X x c)
      (hsu : ∀ (a : Addr) (oe : Obj) (cls : Value) (d : Option Addr) (pn : List (Addr × Obj)), Zc cls d oe → (∃ vs, oe.data = .fields vs) → PSs (X.suite a ((a, oe) :: pn)) (b0 :: suite) (ts a cls d)) (r : HdsA X hds l) :
      HdsA X (.ExceptHandler (some (.Name x np)) none (b0 :: suite) pos' :: hds) ((c, none, ts) :: l)
  | consAs {x n : Str} {i : Nat} {c : Value} {ts : Addr → Value → Option Addr → TS} {b0 : Stmt} {suite : List Stmt} {np pos' : Pos} {hds : List ExceptHandler} {l : List Cl} (hi : X.N[i]? = some n) (hln : X.env.kindOf n = some .local) (hc : Names X x c)
      (hsu : ∀ (a : Addr) (oe : Obj) (cls : Value) (d : Option Addr) (pn : List (Addr × Obj)), Zc cls d oe → (∃ vs, oe.data = .fields vs) → PSs (X.suite a ((a, oe) :: pn)) (b0 :: suite) (ts a cls d)) (r : HdsA X hds l) :
      HdsA X (.ExceptHandler (some (.Name x np)) (some n) (b0 :: suite) pos' :: hds) ((c, some i, ts) :: l)
section
variable {X : Cx} {body : List Stmt} {h0 : ExceptHandler} {hds : List ExceptHandler} {l : List Cl} {pos : Pos} {tb : WX → TS} {Wout : WX}
theorem ps_try_A (hs : X.stack = X.env :: X.outer) (hf : X.env.frame = some X.env.locals) (hN : X.N.Nodup) (tk : Takes X Wout)
    (hb : ∀ (W : WX) (pn : List (Addr × Obj)) (xe : Value → Shared → Prop), Takes (X.tr pn xe) W → PassesOwn (model X.prog X.w) X.A X.env xe → PSs (X.tr pn xe) body (tb W))
    (hh : HdsA X (h0 :: hds) l) : PS X (.Try body (h0 :: hds) [] [] pos) (fun D σ H => tb (wManyA X.K Wout D l) D σ H) := by
  refine ⟨fun pins s σ H D I h => ?_⟩
  have ok := I.ok
  have hfr : X.A.frames = some (X.env :: X.outer) := by rw [ok.frames, hs]
  refine wpAny_Try_except ?_
  refine wpAny_mono ((hb (wManyA X.K Wout D l) (X.pn ++ pins) (fun e s₁ => wpAny (model X.prog X.w) X.A (noteFrame e X.env) (fun _ s₂ => wpAny (model X.prog X.w) X.A (setFlight e none) (fun _ s₃ =>
    wpAny (model X.prog X.w) X.A (handleBy e X.env (h0 :: hds)) (SP X pins D) X.xe s₃) X.xe s₂) X.xe s₁) (fun u s' xx => ?_) PassesOwn.looking).run [] s σ H D (I.toTry _) h) (fun f s1 hsp => ?_) (fun e s1 he => he)
  · obtain ⟨a, B, sI, pins', σ', H', cls, d, rfl, J', nb, up, sky, na, os, ag, w⟩ := xx
    have J : Inv X pins σ' H' sI := J'.ofTry ok
    have sky' : Sky B (X.env :: X.outer) a (Zc cls d) X.env.locals s'.heap := by rw [← hs]; exact sky
    show wpAny (model X.prog X.w) X.A (noteFrame (.ref a) X.env) _ _ _
    refine Sky.land Zc.steady hfr hf sky' fun h3 fl3 up3 => ?_
    have J3 : Inv X pins σ' H' { s' with heap := h3 } := J.landed nb fl3.1 (up.trans up3) os ag
    obtain ⟨oe3, vs3, he3, hz3, hd3⟩ := fl3.there
    have notFr : ∀ {h : Heap} {o : Obj} {vs : Array Value}, h.FunFrames B (X.env :: X.outer) → h.get? a = some o → o.data = .fields vs → a ∉ frs (X.env :: X.outer) := fun {h o vs} ff e dd hm => by
      obtain ⟨_, o', e', hnf⟩ := ff.mem hm
      rw [e] at e'; cases e'
      exact hnf _ dd
    have nfr := notFr fl3.2.2.1 he3 hd3
    have nL : a ≠ X.env.locals := fun z => nfr (List.mem_filterMap.mpr ⟨X.env, List.mem_cons_self, by rw [hf, z]⟩)
    have nF : a ∉ X.fs := fun hm => by
      obtain ⟨e, he, q⟩ := List.mem_filterMap.mp hm
      exact nfr (List.mem_filterMap.mpr ⟨e, List.mem_cons_of_mem _ he, q⟩)
    have S3 := J3.suite he3 hd3 na nL nF
    have LT : PySem.W.Looks (model X.prog X.w) h3 (typeOf (.ref a)) cls := fun A Q E s k q => wpAny_typeOf_ref (k _ _ he3) (by rw [hz3.1]; exact q)
    have test : ∀ {x : Str} {c : Value} {np : Pos} {Q : Value → Shared → Prop} {E : Value → Shared → Prop}, Names X x c → Q c { s' with heap := h3 } → wpAny (model X.prog X.w) (X.A.mark (some (.ref a))) (eval (.Name x np) X.env) Q E { s' with heap := h3 } := fun {x c np Q E} hc q => by
      obtain ⟨hg, hdbg, hm | ⟨hm, hv, hnn⟩⟩ := hc
      · exact ld_glob (X := X.suite a ((a, oe3) :: (X.pn ++ pins))) S3 hg hm q hdbg
      · exact ld_blt (X := X.suite a ((a, oe3) :: (X.pn ++ pins))) S3 hg hm hv q hnn hdbg
    have go : ∀ {hds' : List ExceptHandler} {l' : List Cl}, HdsA X hds' l' → wManyA X.K Wout D l' cls d σ' H' →
        wpAny (model X.prog X.w) X.A (handleBy (.ref a) X.env hds') (SP X pins D) X.xe { s' with heap := h3 } := by
      intro hds' l' hk
      induction hk with
      | nil =>
        intro w
        refine wpAny_handleBy_nil ?_
        obtain ⟨k1, k2, k3, oe, vs, T, oT, ts', he, hz, hd, h1, hr⟩ := id fl3
        unfold PySem.passOn
        refine wpAny_bind (wpAny_field he hd h1 ?_)
        rw [if_neg (show ¬ ((Value.ref T == Value.none) = true) from by simp)]
        have fin : wpAny (model X.prog X.w) X.A (setFlight (.ref a) X.env.frame) (fun _ s4 => wpAny (model X.prog X.w) X.A (throw (.ref a) : Sem Flow) (SP X pins D) X.xe s4) X.xe { s' with heap := h3 } := by
          rw [hf]
          refine HandSPX.setFlight_upZ fl3 fun h4 hh4 up4 => wpAny_throw (tk _ _ ?_)
          exact ⟨a, B, sI, pins, σ', H', cls, d, rfl, J, nb, (up.trans up3).trans up4, .inr (.inr (by rw [hs]; exact hh4)), na, os, ag, w⟩
        first
          | exact wpAny_bind (wpAny_pure (wpAny_bind fin))
          | exact wpAny_bind fin
      | @cons x c ts b0 suite np pos' hds2 l2 hc hsu r ih =>
        intro w
        obtain ⟨b, hb1, hyes, hno⟩ := w
        refine wpAny_handleBy_cons (codeAny_handlers_test ?_) (by intro q; cases q)
        have LM := PySem.W.exm_one (M := model X.prog X.w) (J3.kIn) LT hb1
        refine test hc (LM.here ?_)
        cases b with
        | true =>
          refine codeAny_handlers_suite ?_
          refine HandSPX.lands_againZ fl3 fun h4 fl4 up4 => ?_
          have J4 : Inv X pins σ' H' { s' with heap := h4 } := J.landed nb fl4.1 ((up.trans up3).trans up4) os ag
          obtain ⟨oe4, vs4, he4, hz4, hd4⟩ := fl4.there
          have S4 := J4.suite he4 hd4 na nL nF
          refine wpAny_mono ((hsu a oe4 cls d (X.pn ++ pins) hz4 ⟨_, hd4⟩).run [] _ _ H' _ S4 (hyes rfl a na)) (fun f s6 hsp => ?_) (fun _ _ z => False.elim z)
          cases f with
          | next =>
            obtain ⟨σ6, H6, S6, q6⟩ := hsp
            exact ⟨_, _, S6.unsuite ok, q6⟩
          | brk =>
            obtain ⟨σ6, H6, S6, q6⟩ := hsp
            exact ⟨_, _, S6.unsuite ok, q6⟩
          | cont =>
            obtain ⟨σ6, H6, S6, q6⟩ := hsp
            exact ⟨_, _, S6.unsuite ok, q6⟩
          | ret u =>
            obtain ⟨v6, σ6, H6, S6, r6, q6⟩ := hsp
            exact ⟨_, _, _, S6.unsuite ok, r6, q6⟩
        | false =>
          show wpAny _ X.A (handleBy (.ref a) X.env hds2) _ _ _
          exact ih (hno rfl)
      | @consAs x n i c ts b0 suite np pos' hds2 l2 hi hln hc hsu r ih =>
        intro w
        obtain ⟨b, hb1, hyes, hno⟩ := w
        have hloc : Loc X.env.scope n := .inl hln
        refine wpAny_handleBy_cons (codeAny_handlers_test ?_) (by intro q; cases q)
        have LM := PySem.W.exm_one (M := model X.prog X.w) (J3.kIn) LT hb1
        refine test hc (LM.here ?_)
        cases b with
        | true =>
          refine codeAny_handlers_suite_as ?_
          refine HandSPX.lands_againZ fl3 fun h4 fl4 up4 => ?_
          have J4 : Inv X pins σ' H' { s' with heap := h4 } := J.landed nb fl4.1 ((up.trans up3).trans up4) os ag
          obtain ⟨oe4, vs4, he4, hz4, hd4⟩ := fl4.there
          have S4 := J4.suite he4 hd4 na nL nF
          refine store_ok (X := X.suite a ((a, oe4) :: (X.pn ++ pins))) (v := .ref a) S4 hN hi hloc rfl (fun s5 S5 => ?_) (.inr hln)
          refine wpAny_mono ((hsu a oe4 cls d (X.pn ++ pins) hz4 ⟨_, hd4⟩).run [] s5 _ H' _ S5 (hyes rfl a na)) (fun f s6 hsp => ?_) (fun _ _ z => False.elim z)
          have end_ : ∀ {σ6 : L2.St} {H6 : Hp} {Q : Shared → Prop}, Inv (X.suite a ((a, oe4) :: (X.pn ++ pins))) [] σ6 H6 s6 → (∀ s7, Inv X pins (σ6.set i none) H6 s7 → Q s7) →
              wpAny (model X.prog X.w) X.A (do bindName X.env n .none; unbindBehindTheSuite X.env n pos') (fun _ s7 => Q s7) X.xe s6 := fun {σ6 H6 Q} S6 hq => gone_ok (S6.unsuite ok) hN hi hln hq
          cases f with
          | next =>
            obtain ⟨σ6, H6, S6, q6⟩ := hsp
            exact end_ S6 fun s7 J7 => ⟨_, _, J7, q6⟩
          | brk =>
            obtain ⟨σ6, H6, S6, q6⟩ := hsp
            exact end_ S6 fun s7 J7 => ⟨_, _, J7, q6⟩
          | cont =>
            obtain ⟨σ6, H6, S6, q6⟩ := hsp
            exact end_ S6 fun s7 J7 => ⟨_, _, J7, q6⟩
          | ret u =>
            obtain ⟨v6, σ6, H6, S6, r6, q6⟩ := hsp
            exact end_ S6 fun s7 J7 => ⟨_, _, _, J7, r6, q6⟩
        | false =>
          show wpAny _ X.A (handleBy (.ref a) X.env hds2) _ _ _
          exact ih (hno rfl)
    exact go hh w
  · cases f with
    | next =>
      obtain ⟨σ', H', J', q⟩ := hsp
      exact wpAny_execs_nil ⟨σ', H', J'.ofTry ok, q⟩
    | brk =>
      obtain ⟨σ', H', J', q⟩ := hsp
      exact ⟨σ', H', J'.ofTry ok, q⟩
    | cont =>
      obtain ⟨σ', H', J', q⟩ := hsp
      exact ⟨σ', H', J'.ofTry ok, q⟩
    | ret u =>
      obtain ⟨v, σ', H', J', r, q⟩ := hsp
      exact ⟨v, σ', H', J'.ofTry ok, r, q⟩
end
/-! ### powers of great ints -/
section
variable {X : Cx}
def CPowW (i j : Int) : Prop := 0 ≤ j ∧ (Builtin.Int.intBits i : Int) * j ≤ 2 ^ 27
theorem op_powW : OpR X (binaryOp .Pow) (rI CPowW fun i j => .int (i ^ j.toNat)) := opI fun _ _ _ _ _ _ _ hc q => pow_int hc.1 hc.2 q
end
theorem powW_ok {i j : Int} {a : Nat} (h : i.natAbs < 2 ^ a) (ha : 0 < a) (h0 : 0 ≤ j) (h1 : (a : Int) * j ≤ 2 ^ 27) : CPowW i j := by
  refine ⟨h0, Int.le_trans (Int.mul_le_mul_of_nonneg_right ?_ h0) h1⟩
  have x := PySem.Flt.log2_lt_of ha h
  unfold Builtin.Int.intBits
  split <;> omega
end My
/-! Kit2: heaps in steps; what a value stands for. -/
namespace My
open PySem PySem.Spec PyProof.Rows L2
/-- every tracked object stands -/
def Le (H H' : Hp) : Prop := ∀ b o, H b = some o → H' b = some o
theorem Le.refl (H : Hp) : Le H H := fun _ _ h => h
theorem Le.trans {H H1 H2 : Hp} (a : Le H H1) (b : Le H1 H2) : Le H H2 := fun c o h => b c o (a c o h)
theorem Le.free {H H' : Hp} (e : Le H H') {l : Addr} (h : H' l = none) : H l = none := by
  cases q : H l with
  | none => rfl
  | some o => rw [e l o q] at h; cases h
theorem Le.new {H : Hp} {p : Addr} {o : HO} (h : H p = none) : Le H (upd H p o) := fun a u e => by
  rw [upd_ne (ne_of_none e h)]
  exact e
/-- .. an object that H does not know may change -/
theorem Le.mut {H H' : Hp} {p : Addr} {o : HO} (e : Le H H') (h : H p = none) : Le H (upd H' p o) := fun a u ha => by
  rw [upd_ne (ne_of_none ha h)]
  exact e a u ha
/-- the heap but the objects at m -/
def hide (m : List Addr) (H : Hp) : Hp := fun b => if b ∈ m then none else H b
theorem hide_le {m : List Addr} {H : Hp} : Le (hide m H) H := fun b o h => by
  unfold hide at h
  split at h
  · cases h
  · exact h
theorem hide_in {m : List Addr} {H : Hp} {b : Addr} (h : b ∈ m) : hide m H b = none := if_pos h
theorem hide_out {m : List Addr} {H : Hp} {b : Addr} (h : b ∉ m) : hide m H b = H b := if_neg h
theorem hide_nil {H : Hp} : hide [] H = H := funext fun _ => if_neg (by simp)
theorem hide_cons {m : List Addr} {H : Hp} {a : Addr} : Le (hide (a :: m) H) (hide m H) := fun b o h => by
  unfold hide at h ⊢
  split at h
  · cases h
  · rename_i n
    rw [if_neg fun z => n (List.mem_cons_of_mem _ z)]
    exact h
theorem hide_sub {m m' : List Addr} {H : Hp} (s : ∀ b ∈ m, b ∈ m') : Le (hide m' H) (hide m H) := fun b o h => by
  unfold hide at h ⊢
  split at h
  · cases h
  · rename_i n
    rw [if_neg fun z => n (s b z)]
    exact h
/-- from H to H' only the objects at m may have changed; what is tracked is tracked -/
structure Step (m : List Addr) (H H' : Hp) : Prop where
  keep : ∀ b o, b ∉ m → H b = some o → H' b = some o
  live : ∀ b, H' b = none → H b = none
section
variable {m m' : List Addr} {H H1 H2 : Hp} {a p b : Addr} {o u : HO}
theorem Step.refl (m : List Addr) (H : Hp) : Step m H H := ⟨fun _ _ _ h => h, fun _ h => h⟩
theorem Step.trans (x : Step m H H1) (y : Step m H1 H2) : Step m H H2 := ⟨fun b o n h => y.keep b o n (x.keep b o n h), fun b h => x.live b (y.live b h)⟩
theorem Step.mono (x : Step m H H1) (s : ∀ b ∈ m, b ∈ m') : Step m' H H1 := ⟨fun b o n h => x.keep b o (fun z => n (s b z)) h, x.live⟩
theorem Step.up (x : Step [] H H1) : Step m H H1 := x.mono fun _ z => nomatch z
theorem Step.le (x : Step m H H1) : Le (hide m H) (hide m H1) := fun b o h => by
  unfold hide at h ⊢
  split at h
  · cases h
  · rename_i n
    rw [if_neg n]
    exact x.keep b o n h
theorem Step.le0 (x : Step [] H H1) : Le H H1 := fun b o h => x.keep b o (by simp) h
theorem Step.at (x : Step m H H1) (h : H b = some o) (n : b ∉ m) : H1 b = some o := x.keep b o n h
/-- an object laid anew -/
theorem Step.new (h : H p = none) : Step m H (upd H p o) := ⟨fun b u _ e => Le.new h b u e, fun b e => by
  by_cases hb : b = p
  · rw [hb, upd_same] at e; cases e
  · rwa [upd_ne hb] at e⟩
theorem Step.add (x : Step m H H1) (h : H1 p = none) : Step m H (upd H1 p o) := x.trans (Step.new h)
/-- an object that H does not know may change -/
theorem Step.mut (x : Step m H H1) (h : H p = none) : Step m H (upd H1 p o) := ⟨fun b u n e => by
    rw [upd_ne (ne_of_none e h)]
    exact x.keep b u n e, fun b e => by
  by_cases hb : b = p
  · rw [hb, upd_same] at e; cases e
  · rw [upd_ne hb] at e; exact x.live b e⟩
/-- one of m's objects is changed -/
theorem Step.wr (x : Step m H H1) (h : p ∈ m) : Step m H (upd H1 p o) := ⟨fun b u n e => by
    rw [upd_ne fun z => n (by rw [z]; exact h)]
    exact x.keep b u n e, fun b e => by
  by_cases hb : b = p
  · rw [hb, upd_same] at e; cases e
  · rw [upd_ne hb] at e; exact x.live b e⟩
/-- what was new and changed is new to H all the same -/
theorem Step.drop (x : Step (p :: m) H H1) (h : H p = none) : Step m H H1 := ⟨fun b o n e => x.keep b o (fun z => (List.mem_cons.mp z).elim (ne_of_none e h) n) e, x.live⟩
theorem Step.fresh (x : Step m H H1) (h : H1 b = none) : H b = none := x.live b h
theorem Step.ne (x : Step m H H1) (h : H b = some o) (hp : H1 p = none) : b ≠ p := ne_of_none h (x.live p hp)
end
section
variable {H H1 : Hp} {a b : Addr} {o : HO}
theorem Step.at0 (x : Step [] H H1) (h : H b = some o) : H1 b = some o := x.keep b o (by simp) h
theorem Step.at1 (x : Step [a] H H1) (h : H b = some o) (n : b ≠ a) : H1 b = some o := x.keep b o (by simpa using n) h
theorem Step.at2 {c : Addr} (x : Step [a, c] H H1) (h : H b = some o) (n : b ≠ a) (m : b ≠ c) : H1 b = some o := x.keep b o (by simp [n, m]) h
/-- an object new to H is changed -/
theorem Step.via {H2 : Hp} {m : List Addr} (x : Step m H H1) (y : Step [b] H1 H2) (h : H b = none) : Step m H H2 := ⟨fun c o n e => y.at1 (x.keep c o n e) (ne_of_none e h), fun c e => x.live c (y.live c e)⟩
theorem Step.and1 {H2 : Hp} {m : List Addr} (x : Step m H H1) (y : Step [b] H1 H2) (h : b ∈ m) : Step m H H2 := x.trans (y.mono fun c hc => by rw [List.mem_singleton.mp hc]; exact h)
theorem Step.drop2 {p : Addr} (x : Step [a, p] H H1) (h : H p = none) : Step [a] H H1 := ⟨fun c o n e => x.keep c o (by
    have := ne_of_none e h
    simp only [List.mem_singleton] at n
    simp [n, this]) e, x.live⟩
theorem Step.sub1 (x : Step [b] H H1) (m : List Addr) (h : b ∈ m) : Step m H H1 := x.mono fun c hc => by rw [List.mem_singleton.mp hc]; exact h
end
theorem Step.hid {H H1 : Hp} {b : Addr} {m : List Addr} (x : Step [b] H H1) (h : b ∈ m) : Le (hide m H) (hide m H1) := (x.sub1 m h).le
theorem Step.hid0 {H H1 : Hp} {m : List Addr} (x : Step [] H H1) : Le (hide m H) (hide m H1) := (x.up (m := m)).le
theorem hide_at {m : List Addr} {H : Hp} {b : Addr} {o : HO} (h : H b = some o) (n : b ∉ m) : hide m H b = some o := by rw [hide_out n]; exact h
/-! ### what a value stands for -/
abbrev Rp (α : Type) := Hp → V → α → Prop
def Mono {α : Type} (r : Rp α) : Prop := ∀ H H' v x, Le H H' → r H v x → r H' v x
def rI : Rp Int := fun _ v i => v = .int i
def rS : Rp Str := fun _ v s => v = .str s
def rB : Rp Bool := fun _ v s => v = .bl s
def oV {α : Type} (f : α → V) : Option α → V
  | none => .non
  | some x => f x
def rOS : Rp (Option Str) := fun _ v s => v = oV V.str s
def All2 {α : Type} (r : V → α → Prop) : List V → List α → Prop := Paired r
def rL {α : Type} (r : Rp α) : Rp (List α) := fun H v xs => ∃ a vs, v = .ref a ∧ H a = some (.lst vs) ∧ Paired (r H) vs xs
/-- a tuple by its places -/
def rT (f : Hp → List V → Prop) : Hp → V → Prop := fun H v => ∃ a vs, v = .ref a ∧ H a = some (.tup vs) ∧ f H vs
def rP2 {α β : Type} (r : Rp α) (q : Rp β) : Rp (α × β) := fun H v x => ∃ a u w, v = .ref a ∧ H a = some (.tup [u, w]) ∧ r H u x.1 ∧ q H w x.2
def rP3 {α β γ : Type} (r : Rp α) (q : Rp β) (s : Rp γ) : Rp (α × β × γ) := fun H v x => ∃ a u w z, v = .ref a ∧ H a = some (.tup [u, w, z]) ∧ r H u x.1 ∧ q H w x.2.1 ∧ s H z x.2.2
def rP4 {α β γ δ : Type} (r : Rp α) (q : Rp β) (s : Rp γ) (t : Rp δ) : Rp (α × β × γ × δ) := fun H v x => ∃ a u w z y, v = .ref a ∧ H a = some (.tup [u, w, z, y]) ∧ r H u x.1 ∧ q H w x.2.1 ∧ s H z x.2.2.1 ∧ t H y x.2.2.2
/-- a dict with numbers as keys -/
def rDI {β : Type} (q : Rp β) : Rp (List (Int × β)) := fun H v xs => ∃ a kvs, v = .ref a ∧ H a = some (.dK kvs) ∧ Paired (fun (p : Key × V) (x : Int × β) => p.1 = Sum.inl x.1 ∧ q H p.2 x.2) kvs xs
section
variable {α β γ δ : Type} {r : Rp α} {q : Rp β} {s : Rp γ} {t : Rp δ} {H H' : Hp}
theorem Pmap {α β : Type} {F G : α → β → Prop} {l1 : List α} {l2 : List β} (h : Paired F l1 l2) (f : ∀ a b, F a b → G a b) : Paired G l1 l2 := Paired.mapP h f
theorem mI : Mono rI := fun _ _ _ _ _ h => h
theorem mS : Mono rS := fun _ _ _ _ _ h => h
theorem mB : Mono rB := fun _ _ _ _ _ h => h
theorem mOS : Mono rOS := fun _ _ _ _ _ h => h
theorem mL (m : Mono r) : Mono (rL r) := fun H H' v x e ⟨a, vs, h1, h2, h3⟩ => ⟨a, vs, h1, e _ _ h2, Pmap h3 fun v x z => m H H' v x e z⟩
theorem mP2 (m : Mono r) (n : Mono q) : Mono (rP2 r q) := fun H H' v x e ⟨a, u, w, h1, h2, h3, h4⟩ => ⟨a, u, w, h1, e _ _ h2, m H H' _ _ e h3, n H H' _ _ e h4⟩
theorem mP3 (m : Mono r) (n : Mono q) (k : Mono s) : Mono (rP3 r q s) := fun H H' v x e ⟨a, u, w, z, h1, h2, h3, h4, h5⟩ => ⟨a, u, w, z, h1, e _ _ h2, m H H' _ _ e h3, n H H' _ _ e h4, k H H' _ _ e h5⟩
theorem mP4 (m : Mono r) (n : Mono q) (k : Mono s) (l : Mono t) : Mono (rP4 r q s t) := fun H H' v x e ⟨a, u, w, z, y, h1, h2, h3, h4, h5, h6⟩ => ⟨a, u, w, z, y, h1, e _ _ h2, m H H' _ _ e h3, n H H' _ _ e h4, k H H' _ _ e h5, l H H' _ _ e h6⟩
theorem mDI (n : Mono q) : Mono (rDI q) := fun H H' v x e ⟨a, kvs, h1, h2, h3⟩ => ⟨a, kvs, h1, e _ _ h2, Pmap h3 fun v x ⟨z1, z2⟩ => ⟨z1, n H H' _ _ e z2⟩⟩
/-- pairs by places -/
theorem P_get {F : α → β → Prop} : ∀ {l1 : List α} {l2 : List β} {i : Nat} {x : α}, Paired F l1 l2 → l1[i]? = some x → ∃ y, l2[i]? = some y ∧ F x y
  | _, _, _, _, .nil, e => by simp at e
  | _, _, 0, _, .cons r _, e => by simp at e; subst e; exact ⟨_, rfl, r⟩
  | _, _, i + 1, x, .cons _ t, e => by
    obtain ⟨u, h1, h2⟩ := P_get (i := i) (x := x) t (by simpa using e)
    exact ⟨u, by simpa using h1, h2⟩
theorem P_get2 {F : α → β → Prop} : ∀ {l1 : List α} {l2 : List β} {i : Nat} {y : β}, Paired F l1 l2 → l2[i]? = some y → ∃ x, l1[i]? = some x ∧ F x y
  | _, _, _, _, .nil, e => by simp at e
  | _, _, 0, _, .cons r _, e => by simp at e; subst e; exact ⟨_, rfl, r⟩
  | _, _, i + 1, x, .cons _ t, e => by
    obtain ⟨u, h1, h2⟩ := P_get2 (i := i) (y := x) t (by simpa using e)
    exact ⟨u, by simpa using h1, h2⟩
theorem P_snoc {F : α → β → Prop} {x : α} {y : β} (q : F x y) : ∀ {l1 : List α} {l2 : List β}, Paired F l1 l2 → Paired F (l1 ++ [x]) (l2 ++ [y])
  | _, _, .nil => .cons q .nil
  | _, _, .cons r t => .cons r (P_snoc q t)
theorem P_len {F : α → β → Prop} {l1 : List α} {l2 : List β} (h : Paired F l1 l2) : l1.length = l2.length := Paired.length h
/-- pairs that are a map -/
theorem P_map {f : β → α} : ∀ {l2 : List β}, Paired (fun x y => x = f y) (l2.map f) l2
  | [] => .nil
  | _ :: _ => .cons rfl P_map
theorem P_eq {f : β → α} : ∀ {l1 : List α} {l2 : List β}, Paired (fun x y => x = f y) l1 l2 → l1 = l2.map f
  | _, _, .nil => rfl
  | _, _, .cons e t => by rw [e, P_eq t, List.map_cons]
theorem rL_nil {a : Addr} (h : H a = some (.lst [])) : rL r H (.ref a) [] := ⟨a, [], rfl, h, .nil⟩
theorem rL_len {v : V} {xs : List α} (h : rL r H v xs) : ∃ a vs, v = .ref a ∧ H a = some (.lst vs) ∧ vs.length = xs.length := by
  obtain ⟨a, vs, e, h1, h2⟩ := h
  exact ⟨a, vs, e, h1, P_len h2⟩
theorem rLS_of {a : Addr} {xs : List Str} (h : H a = some (.lst (xs.map V.str))) : rL rS H (.ref a) xs := ⟨a, _, rfl, h, P_map (f := V.str)⟩
theorem rLI_of {a : Addr} {xs : List Int} (h : H a = some (.lst (xs.map V.int))) : rL rI H (.ref a) xs := ⟨a, _, rfl, h, P_map (f := V.int)⟩
theorem rLS_at {v : V} {xs : List Str} (h : rL rS H v xs) : ∃ a, v = .ref a ∧ H a = some (.lst (xs.map V.str)) := by
  obtain ⟨a, vs, rfl, h1, h2⟩ := h
  exact ⟨a, rfl, by rw [h1, P_eq (f := V.str) h2]⟩
theorem rLI_at {v : V} {xs : List Int} (h : rL rI H v xs) : ∃ a, v = .ref a ∧ H a = some (.lst (xs.map V.int)) := by
  obtain ⟨a, vs, rfl, h1, h2⟩ := h
  exact ⟨a, rfl, by rw [h1, P_eq (f := V.int) h2]⟩
end
theorem erase_perm {α : Type} : ∀ {xs : List α} {k : Nat} (h : k < xs.length), (xs[k] :: xs.eraseIdx k).Perm xs
  | [], _, h => absurd h (Nat.not_lt_zero _)
  | _ :: _, 0, _ => List.Perm.refl _
  | x :: xs, k + 1, h => (List.Perm.swap x (xs[k]'(Nat.lt_of_succ_lt_succ h)) (xs.eraseIdx k)).trans ((erase_perm (xs := xs) (Nat.lt_of_succ_lt_succ h)).cons x)
/-- what is a permutation of a map is a map of a permutation -/
theorem perm_map {α β : Type} {f : α → β} : ∀ {ys : List β} {xs : List α}, ys.Perm (xs.map f) → ∃ zs : List α, zs.Perm xs ∧ ys = zs.map f := by
  intro ys xs h
  generalize hw : xs.map f = ws at h
  induction h generalizing xs with
  | nil => exact ⟨[], by rw [List.map_eq_nil_iff.mp hw], rfl⟩
  | @cons x l1 l2 _ ih =>
    cases xs with
    | nil => cases hw
    | cons y r =>
      obtain ⟨e1, e2⟩ := List.cons.inj hw
      obtain ⟨zs, hz, e⟩ := ih e2
      exact ⟨y :: zs, hz.cons y, by rw [List.map_cons, e1, e]⟩
  | swap x y l =>
    cases xs with
    | nil => cases hw
    | cons a r =>
      cases r with
      | nil => cases hw
      | cons b r =>
        obtain ⟨e1, e2⟩ := List.cons.inj hw
        obtain ⟨e2, e3⟩ := List.cons.inj e2
        exact ⟨b :: a :: r, List.Perm.swap a b r, by rw [List.map_cons, List.map_cons, e1, e2, e3]⟩
  | trans _ _ ih1 ih2 =>
    obtain ⟨z1, h1, e1⟩ := ih2 hw
    obtain ⟨z2, h2, e2⟩ := ih1 e1.symm
    exact ⟨z2, h2.trans h1, e2⟩
theorem perm_ints {ys : List V} {ns : List Int} (h : ys.Perm (ns.map V.int)) : ∃ zs : List Int, zs.Perm ns ∧ ys = zs.map V.int := perm_map h
theorem perm_strs {ys : List V} {ns : List Str} (h : ys.Perm (ns.map V.str)) : ∃ zs : List Str, zs.Perm ns ∧ ys = zs.map V.str := perm_map h
theorem sub_len {α : Type} [BEq α] [LawfulBEq α] : ∀ {l1 l2 : List α}, l1.Nodup → (∀ x ∈ l1, x ∈ l2) → l1.length ≤ l2.length
  | [], _, _, _ => Nat.zero_le _
  | x :: r, l2, hn, hs => by
    obtain ⟨h1, h2⟩ := List.nodup_cons.mp hn
    have hx := hs x (List.mem_cons_self ..)
    have ih := sub_len (l1 := r) (l2 := l2.erase x) h2 fun y hy => (List.mem_erase_of_ne (fun e => h1 (by rw [← e]; exact hy))).mpr (hs y (List.mem_cons_of_mem _ hy))
    have l := List.length_erase_of_mem hx
    have : 0 < l2.length := List.length_pos_of_mem hx
    rw [List.length_cons]
    omega
theorem cutV_to {xs : List V} {n : Int} (h : 0 ≤ n) : cutV xs none (some n) = xs.take n.toNat := by
  unfold cutV
  show (xs.drop 0).take ((if n < 0 then (n + (xs.length : Int)).toNat else min n.toNat xs.length) - 0) = _
  rw [if_neg (by omega), List.drop_zero, Nat.sub_zero, List.take_eq_take_iff]
  omega
theorem cutV_from {xs : List V} {n : Int} (h : 0 ≤ n) : cutV xs (some n) none = xs.drop n.toNat := by
  unfold cutV
  show (xs.drop (if n < 0 then (n + (xs.length : Int)).toNat else min n.toNat xs.length)).take (xs.length - (if n < 0 then (n + (xs.length : Int)).toNat else min n.toNat xs.length)) = _
  rw [if_neg (by omega), List.take_of_length_le (by rw [List.length_drop]; omega)]
  by_cases hl : n.toNat ≤ xs.length
  · rw [Nat.min_eq_left hl]
  · rw [Nat.min_eq_right (by omega), List.drop_of_length_le (Nat.le_refl _), List.drop_of_length_le (by omega)]
/-! ### the pot of a law's draws -/
def PotAt (H : Hp) (a : Addr) (c : Nat) : Prop := ∃ p0 p1 p2 : Int, H a = some (.lst [.int p0, .int p1, .int p2]) ∧ 0 ≤ p0 ∧ 0 ≤ p1 ∧ p1 < 2 ^ 128 ∧ 0 ≤ p2 ∧ p2 ≤ (c : Int)
theorem PotAt.mono {H : Hp} {a : Addr} {c c' : Nat} (h : PotAt H a c) (l : c ≤ c') : PotAt H a c' := by
  obtain ⟨p0, p1, p2, h1, h2, h3, h4, h5, h6⟩ := h
  exact ⟨p0, p1, p2, h1, h2, h3, h4, h5, by omega⟩
theorem PotAt.keep {H H' : Hp} {a : Addr} {c : Nat} (h : PotAt H a c) (k : ∀ o, H a = some o → H' a = some o) : PotAt H' a c := by
  obtain ⟨p0, p1, p2, h1, h2⟩ := h
  exact ⟨p0, p1, p2, k _ h1, h2⟩
theorem PotAt.upd {H : Hp} {a p : Addr} {c : Nat} {o : HO} (h : PotAt H a c) (n : a ≠ p) : PotAt (upd H p o) a c := h.keep fun _ e => by rw [upd_ne n]; exact e
theorem PotAt.ne {H : Hp} {a p : Addr} {c : Nat} (h : PotAt H a c) (n : H p = none) : a ≠ p := by
  obtain ⟨p0, p1, p2, h1, h2⟩ := h
  exact ne_of_none h1 n
theorem PotAt.step0 {H H' : Hp} {a : Addr} {c : Nat} (h : PotAt H a c) (x : Step [] H H') : PotAt H' a c := h.keep fun _ e => x.at0 e
theorem PotAt.step1 {H H' : Hp} {a b : Addr} {c : Nat} (h : PotAt H a c) (x : Step [b] H H') (n : a ≠ b) : PotAt H' a c := h.keep fun _ e => x.at1 e n
theorem ltLine {n : Nat} (h : n ≤ 100000) : n < sizeLine := Nat.lt_of_le_of_lt h (by decide)
theorem leLine {n : Nat} (h : n ≤ 100000) : n ≤ sizeLine := Nat.le_of_lt (ltLine h)
/-! names and single signs -/
abbrev cs (z : Str) : List Nat := z.cps.toList
theorem cs_len (z : Str) : (cs z).length = z.length := by simp [cs, Str.length]
theorem cs_inj {a b : Str} (h : cs a = cs b) : a = b := by
  obtain ⟨x⟩ := a
  obtain ⟨y⟩ := b
  have : x.toList = y.toList := h
  rw [Array.toList_inj] at this
  rw [this]
theorem cs_add (a b : Str) : cs (a ++ b) = cs a ++ cs b := by
  show ((a.cps ++ b.cps)).toList = _
  simp
theorem cs_cut (z : Str) (lo hi : Option Int) : cs (cutS z lo hi) = ((cs z).drop (HT.sIx z.length 0 lo)).take (HT.sIx z.length z.length hi - HT.sIx z.length 0 lo) := by
  unfold cutS cs
  simp
theorem cs_join0 : ∀ ys : List Str, cs (Str.join ("" : Str) ys) = (ys.map cs).flatten
  | [] => rfl
  | [x] => by simp [Str.join]
  | x :: y :: r => by
    show cs (x ++ ("" : Str) ++ Str.join ("" : Str) (y :: r)) = _
    have e : cs ("" : Str) = [] := by decide +kernel
    rw [cs_add, cs_add, e, cs_join0 (y :: r)]
    simp
def isLow (c : Nat) : Prop := 97 ≤ c ∧ c ≤ 122
structure IsNm (z : Str) : Prop where
  lo : 1 ≤ z.length
  hi : z.length ≤ 8
  low : ∀ c ∈ cs z, isLow c
theorem letters_low : ∀ c ∈ cs ("abcdefghijklmnopqrstuvwxyz" : Str), isLow c := by
  unfold isLow
  decide +kernel
theorem letters_len : (cs ("abcdefghijklmnopqrstuvwxyz" : Str)).length = 26 := by decide +kernel
theorem letters_line : ("abcdefghijklmnopqrstuvwxyz" : Str).length ≤ sizeLine := by decide +kernel
theorem letter_at {i : Int} (h0 : 0 ≤ i) (h1 : i < 26) : ∃ c, isLow c ∧ atI (cs ("abcdefghijklmnopqrstuvwxyz" : Str)) i = some c := by
  have l : i.toNat < (cs ("abcdefghijklmnopqrstuvwxyz" : Str)).length := by rw [letters_len]; omega
  refine ⟨(cs ("abcdefghijklmnopqrstuvwxyz" : Str))[i.toNat], letters_low _ (List.getElem_mem l), ?_⟩
  have e : i = ((i.toNat : Nat) : Int) := by omega
  conv => lhs; rw [e]
  exact atI_nat (List.getElem?_eq_getElem l)
/-- a list of single signs -/
theorem signs_flat : ∀ {ss : List Str}, (∀ s ∈ ss, ∃ c, s = ⟨#[c]⟩ ∧ isLow c) → (∀ c ∈ (ss.map cs).flatten, isLow c) ∧ ((ss.map cs).flatten).length = ss.length ∧ (ss.map (·.length)).sum = ss.length
  | [], _ => ⟨by simp, rfl, rfl⟩
  | s :: r, h => by
    obtain ⟨c, rfl, hc⟩ := h s (List.mem_cons_self ..)
    obtain ⟨h1, h2, h3⟩ := signs_flat (ss := r) fun s hs => h s (List.mem_cons_of_mem _ hs)
    refine ⟨fun d hd => ?_, ?_, ?_⟩
    · rw [List.map_cons, List.flatten_cons] at hd
      rcases List.mem_append.mp hd with hd | hd
      · have : d = c := by simpa [cs] using hd
        rw [this]; exact hc
      · exact h1 d hd
    · rw [List.map_cons, List.flatten_cons, List.length_append, h2]
      simp [cs]; omega
    · rw [List.map_cons, List.sum_cons, h3]
      simp [Str.length]; omega
theorem nm_of_signs {ss : List Str} (h : ∀ s ∈ ss, ∃ c, s = ⟨#[c]⟩ ∧ isLow c) (h1 : 1 ≤ ss.length) (h2 : ss.length ≤ 8) : IsNm (Str.join ("" : Str) ss) := by
  obtain ⟨e1, e2, e3⟩ := signs_flat h
  have l : (Str.join ("" : Str) ss).length = ss.length := by rw [← cs_len, cs_join0, e2]
  exact ⟨by omega, by omega, by rw [cs_join0]; exact e1⟩
theorem mem_cut {z : Str} {lo hi : Option Int} {c : Nat} (h : c ∈ cs (cutS z lo hi)) : c ∈ cs z := by
  rw [cs_cut] at h
  exact List.mem_of_mem_drop (List.mem_of_mem_take h)
theorem len_add (a b : Str) : (a ++ b).length = a.length + b.length := by rw [← cs_len, ← cs_len, ← cs_len, cs_add, List.length_append]
theorem len_cut_le (z : Str) (lo hi : Option Int) : (cutS z lo hi).length ≤ z.length := by
  rw [← cs_len, ← cs_len, cs_cut, List.length_take, List.length_drop]
  omega
theorem len_cut_to (z : Str) {k : Int} (h : 0 ≤ k) : (cutS z none (some k)).length = min k.toNat z.length := by
  rw [← cs_len, cs_cut, List.length_take, List.length_drop, cs_len]
  show min ((if k < 0 then (k + (z.length : Int)).toNat else min k.toNat z.length) - 0) (z.length - 0) = _
  rw [if_neg (by omega)]
  omega
theorem len_one {c : Nat} : (⟨#[c]⟩ : Str).length = 1 := rfl
/-- a name with one letter put in or exchanged -/
theorem nm_turn {old : Str} {lo hi : Option Int} {k : Int} {c : Nat} (h : IsNm old) (hc : isLow c) (h8 : k = 8) : IsNm (cutS (cutS old none lo ++ (⟨#[c]⟩ : Str) ++ cutS old hi none) none (some k)) := by
  subst h8
  have l : (cutS (cutS old none lo ++ (⟨#[c]⟩ : Str) ++ cutS old hi none) none (some 8)).length = min 8 (cutS old none lo ++ (⟨#[c]⟩ : Str) ++ cutS old hi none).length := len_cut_to _ (by decide)
  have l2 : (cutS old none lo ++ (⟨#[c]⟩ : Str) ++ cutS old hi none).length = (cutS old none lo).length + 1 + (cutS old hi none).length := by rw [len_add, len_add, len_one]
  refine ⟨by omega, by omega, fun d hd => ?_⟩
  have hd := mem_cut hd
  rw [cs_add, cs_add] at hd
  rcases List.mem_append.mp hd with hd | hd
  · rcases List.mem_append.mp hd with hd | hd
    · exact h.low d (mem_cut hd)
    · have : d = c := by simpa [cs] using hd
      rw [this]; exact hc
  · exact h.low d (mem_cut hd)
theorem at4 {x0 x1 x2 x3 j : Int} (h0 : 0 ≤ j) (h1 : j < 4) : ∃ m : Int, (m = x0 ∨ m = x1 ∨ m = x2 ∨ m = x3) ∧ atI [V.int x0, V.int x1, V.int x2, V.int x3] j = some (.int m) := by
  have : j = 0 ∨ j = 1 ∨ j = 2 ∨ j = 3 := by omega
  rcases this with rfl | rfl | rfl | rfl
  · exact ⟨x0, by simp, rfl⟩
  · exact ⟨x1, by simp, rfl⟩
  · exact ⟨x2, by simp, rfl⟩
  · exact ⟨x3, by simp, rfl⟩
end My
/-! Kit3: going through a reading, head by head. -/
namespace My
open PySem PySem.Spec PyProof.Rows L2
section
variable {K : PySem.W.Frag} {σ : L2.St} {H H1 : Hp} {Q : VK} {ta tb te tc : TE} {tA tB' : TT} {t u : TS} {nx bk ct : L2.St → Hp → Prop} {rt : VK} {v x y : V} {i j : Int} {xs ys : List V} {QT : Bool → Hp → Prop} {QA : List V → Hp → Prop} {tr : TA}
theorem g_seq (h : t ⟨u ⟨nx, rt, bk, ct⟩, rt, bk, ct⟩ σ H) : tSeq t u ⟨nx, rt, bk, ct⟩ σ H := h
theorem g_next (h : nx σ H) : tNext ⟨nx, rt, bk, ct⟩ σ H := h
theorem g_break (h : bk σ H) : tBreak ⟨nx, rt, bk, ct⟩ σ H := h
theorem g_cont (h : ct σ H) : tCont ⟨nx, rt, bk, ct⟩ σ H := h
theorem g_ret (h : te σ H rt) : tRet te ⟨nx, rt, bk, ct⟩ σ H := h
theorem g_retN (h : rt .non H) : tRetN ⟨nx, rt, bk, ct⟩ σ H := h
theorem g_drop (h : te σ H (fun _ H1 => nx σ H1)) : tDrop te ⟨nx, rt, bk, ct⟩ σ H := h
theorem g_set {k : Nat} (h : te σ H (fun x H1 => nx (σ.set k (some x)) H1)) : tAsg te (gName k) ⟨nx, rt, bk, ct⟩ σ H := h
theorem g_asg {g : TG} (h : te σ H (fun x H1 => g x σ H1 nx)) : tAsg te g ⟨nx, rt, bk, ct⟩ σ H := h
theorem g_name {k : Nat} {Q : L2.St → Hp → Prop} (h : Q (σ.set k (some x)) H) : gName k x σ H Q := h
theorem g_if (h : tA σ H (fun b H1 => if b = true then t ⟨nx, rt, bk, ct⟩ σ H1 else u ⟨nx, rt, bk, ct⟩ σ H1)) : tIfS tA t u ⟨nx, rt, bk, ct⟩ σ H := h
theorem g_ifE (h : tA σ H (fun b H1 => if b = true then ta σ H1 Q else tb σ H1 Q)) : tIf tA ta tb σ H Q := h
theorem g_op {r : R2} (h : ta σ H (fun x H1 => tb σ H1 (fun y H2 => r x y H2 Q))) : tOp r ta tb σ H Q := h
theorem g_un {r : V → Hp → VK → Prop} (h : ta σ H (fun x H1 => r x H1 Q)) : tUn r ta σ H Q := h
theorem g_var {k : Nat} (h : σ[k]? = some (some v)) (q : Q v H) : tVar k σ H Q := ⟨v, h, q⟩
theorem g_c (q : Q v H) : tC v σ H Q := q
theorem g_nil (q : QA [] H) : tNil σ H QA := q
theorem g_cons (h : ta σ H (fun x H1 => tr σ H1 (fun xs H2 => QA (x :: xs) H2))) : tCons ta tr σ H QA := h
theorem g_CB {r : List V → Hp → VK → Prop} (h : tr σ H (fun vs H1 => r vs H1 Q)) : tCB r tr σ H Q := h
theorem g_call {sp : Sp} {E : XK} (h : tr σ H (fun vs H1 => sp vs H1 Q E)) : tCall sp [] E tr σ H Q := by
  have e : (fun (vs : List V) (H1 : Hp) => sp (vs ++ []) H1 Q E) = fun vs H1 => sp vs H1 Q E := by
    funext vs H1
    rw [List.append_nil]
  show tr σ H (fun vs H1 => sp (vs ++ []) H1 Q E)
  rw [e]
  exact h
/-- a bool comes -/
def kB (Q : Bool → Hp → Prop) : VK := fun x H' => ∃ k, x = .bl k ∧ Q k H'
theorem g_kB {b : Bool} (q : QT b H) : kB QT (.bl b) H := ⟨b, rfl, q⟩
theorem g_test (h : te σ H (kB QT)) : tTest te σ H QT := h
theorem g_B (h : te σ H (kB QT)) : tB te σ H QT := h
theorem g_and (h : tA σ H (fun c H1 => if c = true then tB' σ H1 QT else QT false H1)) : tAnd tA tB' σ H QT := h
theorem g_or (h : tA σ H (fun c H1 => if c = true then QT true H1 else tB' σ H1 QT)) : tOr tA tB' σ H QT := h
theorem g_not (h : tA σ H (fun c H1 => QT (!c) H1)) : tNot tA σ H QT := h
def kAnd (tb : TE) (σ : L2.St) (Q : VK) : VK := fun x H1 => ∃ c, x = .bl c ∧ if c = true then tb σ H1 Q else Q (.bl false) H1
def kOr (tb : TE) (σ : L2.St) (Q : VK) : VK := fun x H1 => ∃ c, x = .bl c ∧ if c = true then Q (.bl true) H1 else tb σ H1 Q
theorem g_andV (h : ta σ H (kAnd tb σ Q)) : tAndV ta tb σ H Q := h
theorem g_orV (h : ta σ H (kOr tb σ Q)) : tOrV ta tb σ H Q := h
theorem g_kAnd {c : Bool} (h : if c = true then tb σ H Q else Q (.bl false) H) : kAnd tb σ Q (.bl c) H := ⟨c, rfl, h⟩
theorem g_kOr {c : Bool} (h : if c = true then Q (.bl true) H else tb σ H Q) : kOr tb σ Q (.bl c) H := ⟨c, rfl, h⟩
def kNot (Q : VK) : VK := fun x H1 => ∃ c, x = .bl c ∧ Q (.bl (!c)) H1
theorem g_notV (h : ta σ H (kNot Q)) : tNotV ta σ H Q := h
theorem g_kNot {c : Bool} (h : Q (.bl (!c)) H) : kNot Q (.bl c) H := ⟨c, rfl, h⟩
theorem g_I0 {g : Int → Int → V} (q : Q (g i j) H) : rI0 g (.int i) (.int j) H Q := ⟨i, j, rfl, rfl, q⟩
theorem g_I {C : Int → Int → Prop} {g : Int → Int → V} (c : C i j) (q : Q (g i j) H) : L2.rI C g (.int i) (.int j) H Q := ⟨i, j, rfl, rfl, c, q⟩
theorem g_U {g : Int → V} (q : Q (g i) H) : rU g (.int i) H Q := ⟨i, rfl, q⟩
theorem g_eq (s : scal x y = true) (q : Q (.bl (decide (x = y))) H) : rEq x y H Q := ⟨s, q⟩
theorem g_ne (s : scal x y = true) (q : Q (.bl (!decide (x = y))) H) : rNe x y H Q := ⟨s, q⟩
theorem g_eqI (q : Q (.bl (decide (i = j))) H) : rEq (.int i) (.int j) H Q := ⟨rfl, by
  have e : decide (V.int i = V.int j) = decide (i = j) := by by_cases h : i = j <;> simp [h]
  rw [e]
  exact q⟩
theorem g_neI (q : Q (.bl (!decide (i = j))) H) : rNe (.int i) (.int j) H Q := ⟨rfl, by
  have e : decide (V.int i = V.int j) = decide (i = j) := by by_cases h : i = j <;> simp [h]
  rw [e]
  exact q⟩
theorem g_eqS {a b : Str} (q : Q (.bl (decide (a = b))) H) : rEq (.str a) (.str b) H Q := ⟨rfl, by
  have e : decide (V.str a = V.str b) = decide (a = b) := by by_cases h : a = b <;> simp [h]
  rw [e]
  exact q⟩
theorem g_neS {a b : Str} (q : Q (.bl (!decide (a = b))) H) : rNe (.str a) (.str b) H Q := ⟨rfl, by
  have e : decide (V.str a = V.str b) = decide (a = b) := by by_cases h : a = b <;> simp [h]
  rw [e]
  exact q⟩
theorem g_ite {p : Prop} [Decidable p] {A B : Prop} (h1 : p → A) (h2 : ¬ p → B) : if decide p = true then A else B := by
  by_cases h : p
  · rw [if_pos (decide_eq_true h)]; exact h1 h
  · rw [if_neg (by simp [h])]; exact h2 h
theorem g_iteN {p : Prop} [Decidable p] {A B : Prop} (h1 : ¬ p → A) (h2 : p → B) : if (!decide p) = true then A else B := by
  by_cases h : p
  · rw [if_neg (by simp [h])]; exact h2 h
  · rw [if_pos (by simp [h])]; exact h1 h
theorem g_iteB {b : Bool} {A B : Prop} (h1 : b = true → A) (h2 : b = false → B) : if b = true then A else B := by
  cases b with
  | true => exact iteT (h1 rfl)
  | false => exact iteF (h2 rfl)
theorem g_iteNB {b : Bool} {A B : Prop} (h1 : b = false → A) (h2 : b = true → B) : if (!b) = true then A else B := by
  cases b with
  | false => exact iteT (h1 rfl)
  | true => exact iteF (h2 rfl)
/-! displays -/
def kLst (Q : VK) : List V → Hp → Prop := fun xs H1 => xs.length ≤ sizeLine ∧ ∀ p, H1 p = none → Q (.ref p) (upd H1 p (.lst xs))
def kTup (Q : VK) : List V → Hp → Prop := fun xs H1 => xs.length ≤ sizeLine ∧ ∀ p, H1 p = none → Q (.ref p) (upd H1 p (.tup xs))
theorem g_lst (h : tr σ H (kLst Q)) : tLst tr σ H Q := h
theorem g_tup (h : tr σ H (kTup Q)) : tTup tr σ H Q := h
theorem g_kLst (hl : xs.length ≤ sizeLine) (q : ∀ p H2, H p = none → Step [] H H2 → H2 p = some (.lst xs) → Q (.ref p) H2) : kLst Q xs H := ⟨hl, fun p hp => q p _ hp (Step.new hp) upd_same⟩
theorem g_kTup (hl : xs.length ≤ sizeLine) (q : ∀ p H2, H p = none → Step [] H H2 → H2 p = some (.tup xs) → Q (.ref p) H2) : kTup Q xs H := ⟨hl, fun p hp => q p _ hp (Step.new hp) upd_same⟩
theorem g_dnewK (q : ∀ p H2, H p = none → Step [] H H2 → H2 p = some (.dK []) → Q (.ref p) H2) : tDNewK σ H Q := fun p hp => q p _ hp (Step.new hp) upd_same
/-! items -/
theorem g_ixL {p : Addr} (h : H p = some (.lst xs)) (e : atI xs i = some v) (q : Q v H) : rIxL K (.ref p) (.int i) H Q := ⟨p, xs, i, v, rfl, rfl, SqL.of h, e, q⟩
theorem g_ixLK {p : Addr} (h : SqL K H p xs) (e : atI xs i = some v) (q : Q v H) : rIxL K (.ref p) (.int i) H Q := ⟨p, xs, i, v, rfl, rfl, h, e, q⟩
theorem g_ixT {p : Addr} (h : H p = some (.tup xs)) (e : atI xs i = some v) (q : Q v H) : rIxT K (.ref p) (.int i) H Q := ⟨p, xs, i, v, rfl, rfl, SqT.of h, e, q⟩
theorem g_ixS {z : Str} {c : Nat} (hl : z.length ≤ sizeLine) (e : atI z.cps.toList i = some c) (q : Q (.str ⟨#[c]⟩) H) : rIxS (.str z) (.int i) H Q := ⟨z, i, c, rfl, rfl, hl, e, q⟩
theorem at_nat {α : Type} {xs : List α} {k : Nat} {v : α} (h : xs[k]? = some v) : atI xs (k : Int) = some v := atI_nat h
theorem at_int {α : Type} {xs : List α} {i : Int} {v : α} (h0 : 0 ≤ i) (h : xs[i.toNat]? = some v) : atI xs i = some v := by
  have e : i = ((i.toNat : Nat) : Int) := by omega
  rw [e]
  exact atI_nat h
theorem at_in {α : Type} {xs : List α} {i : Int} (h0 : 0 ≤ i) (h : i < (xs.length : Int)) : ∃ v, xs[i.toNat]? = some v ∧ atI xs i = some v := by
  have l : i.toNat < xs.length := by omega
  exact ⟨xs[i.toNat], List.getElem?_eq_getElem l, at_int h0 (List.getElem?_eq_getElem l)⟩
theorem ixN_in {n : Nat} {i : Int} (h0 : 0 ≤ i) (h : i < (n : Int)) : ixN n i = some i.toNat := by
  unfold ixN
  rw [if_pos h0, if_pos h]
theorem seqIx_in {n : Nat} {i : Int} (h0 : 0 ≤ i) (h : i < (n : Int)) : seqIndex? i n = some i.toNat := (ixN_seq (ixN_in h0 h)).1
/-- o[i] = v, the list of a name -/
theorem g_gsub {ts : TSet} {Q : L2.St → Hp → Prop} (h : ta σ H (fun o H1 => tb σ H1 (fun k H2 => ts o k v H2 (fun H3 => Q σ H3)))) : gSub ta tb ts v σ H Q := h
theorem g_setL {p : Addr} {k : Nat} {QH : Hp → Prop} (h : H p = some (.lst xs)) (e : ixN xs.length i = some k) (q : ∀ H2, Step [p] H H2 → H2 p = some (.lst (xs.set k v)) → QH H2) : rSetL (.ref p) (.int i) v H QH :=
  ⟨p, xs, i, k, rfl, rfl, h, e, q _ ((Step.refl [p] H).wr (List.mem_singleton.mpr rfl)) upd_same⟩
/-! methods of lists -/
theorem g_bmL {p : Addr} {r : V → List V → Hp → VK → Prop} (h : H p = some (.lst xs)) (q : tr σ H (fun vs H2 => r (.ref p) vs H2 Q)) (hv : ta σ H (fun x H1 => x = .ref p ∧ H1 = H) → True := fun _ => trivial) (e : ∀ Q', Q' (.ref p) H → ta σ H Q') : tBM K "list" r ta tr σ H Q := by
  refine e _ ⟨.inl ⟨rfl, xs, SqL.of h⟩, q⟩
def kBM (K : PySem.W.Frag) (T : String) (r : V → List V → Hp → VK → Prop) (tr : TA) (σ : L2.St) (Q : VK) : VK := fun x H1 => tyV K T x H1 ∧ tr σ H1 (fun vs H2 => r x vs H2 Q)
theorem g_bm {T : String} {r : V → List V → Hp → VK → Prop} (h : ta σ H (kBM K T r tr σ Q)) : tBM K T r ta tr σ H Q := h
theorem g_kBM {p : Addr} {r : V → List V → Hp → VK → Prop} (h : H p = some (.lst xs)) (q : tr σ H (fun vs H2 => r (.ref p) vs H2 Q)) : kBM K "list" r tr σ Q (.ref p) H := ⟨.inl ⟨rfl, xs, SqL.of h⟩, q⟩
theorem g_append {p : Addr} (h : H p = some (.lst xs)) (hz : xs.length < sizeLine) (q : ∀ H2, Step [p] H H2 → H2 p = some (.lst (xs ++ [y])) → Q .non H2) : rAppend (.ref p) [y] H Q :=
  ⟨p, xs, y, rfl, rfl, h, hz, q _ ((Step.refl [p] H).wr (List.mem_singleton.mpr rfl)) upd_same⟩
theorem g_extend {p b : Addr} (h : H p = some (.lst xs)) (h2 : H b = some (.lst ys)) (hz : xs.length + ys.length ≤ sizeLine) (q : ∀ H2, Step [p] H H2 → H2 p = some (.lst (xs ++ ys)) → Q .non H2) : rExtend (.ref p) [.ref b] H Q :=
  ⟨p, b, xs, ys, rfl, rfl, h, h2, hz, q _ ((Step.refl [p] H).wr (List.mem_singleton.mpr rfl)) upd_same⟩
theorem g_popAt {p : Addr} {k : Nat} (h : H p = some (.lst xs)) (h0 : -(2 ^ 63) ≤ i) (h1 : i < 2 ^ 63) (e : seqIndex? i xs.length = some k) (ey : xs[k]? = some y) (q : ∀ H2, Step [p] H H2 → H2 p = some (.lst (xs.eraseIdx k)) → Q y H2) : rPopAt (.ref p) [.int i] H Q :=
  ⟨p, xs, i, k, y, rfl, rfl, h, h0, h1, e, ey, q _ ((Step.refl [p] H).wr (List.mem_singleton.mpr rfl)) upd_same⟩
/-! slices -/
theorem g_sl {r : V → Option Int → Option Int → Hp → VK → Prop} {tl th : TO} (h : ta σ H (fun x H1 => tl σ H1 (fun l H2 => th σ H2 (fun u H3 => r x l u H3 Q)))) : tSl r ta tl th σ H Q := h
def kI (Q : Option Int → Hp → Prop) : VK := fun x H1 => ∃ i, x = .int i ∧ Q (some i) H1
theorem g_part {Q : Option Int → Hp → Prop} (h : ta σ H (kI Q)) : tPart ta σ H Q := h
theorem g_kI {Q : Option Int → Hp → Prop} (h : Q (some i) H) : kI Q (.int i) H := ⟨i, rfl, h⟩
theorem g_noPart {Q : Option Int → Hp → Prop} (h : Q none H) : tNoPart σ H Q := h
theorem g_slL {p : Addr} {lo hi : Option Int} (h : H p = some (.lst xs)) (q : ∀ p' H2, H p' = none → Step [] H H2 → H2 p' = some (.lst (cutV xs lo hi)) → Q (.ref p') H2) : rSlL K (.ref p) lo hi H Q := ⟨p, xs, rfl, SqL.of h, fun p' hp => q p' _ hp (Step.new hp) upd_same⟩
theorem g_slS {z : Str} {lo hi : Option Int} (hl : z.length ≤ sizeLine) (q : Q (.str (cutS z lo hi)) H) : rSlS (.str z) lo hi H Q := ⟨z, rfl, hl, q⟩
theorem g_cat {p b : Addr} (h : H p = some (.lst xs)) (h2 : H b = some (.lst ys)) (hz : xs.length + ys.length ≤ sizeLine) (q : ∀ p' H2, H p' = none → Step [] H H2 → H2 p' = some (.lst (xs ++ ys)) → Q (.ref p') H2) : rCat (.ref p) (.ref b) H Q :=
  ⟨p, b, xs, ys, rfl, rfl, h, h2, hz, fun p' hp => q p' _ hp (Step.new hp) upd_same⟩
theorem g_inL {p : Addr} {neg : Bool} (h : H p = some (.lst xs)) (fx : flatV x = true) (fs : xs.all flatV = true) (q : Q (.bl (if neg then !inV x xs else inV x xs)) H) : rIn K neg x (.ref p) H Q := ⟨p, xs, rfl, .inl (SqL.of h), fx, fs, q⟩
theorem g_inT {p : Addr} {neg : Bool} (h : H p = some (.tup xs)) (fx : flatV x = true) (fs : xs.all flatV = true) (q : Q (.bl (if neg then !inV x xs else inV x xs)) H) : rIn K neg x (.ref p) H Q := ⟨p, xs, rfl, .inr (SqT.of h), fx, fs, q⟩
/-- text in a list of texts -/
theorem inV_str (z : Str) (ss : List Str) : inV (.str z) (ss.map V.str) = decide (z ∈ ss) := by
  induction ss with
  | nil => rfl
  | cons a r ih =>
    have e : inV (.str z) ((a :: r).map V.str) = (eqV (.str a) (.str z) || inV (.str z) (r.map V.str)) := rfl
    have e2 : eqV (.str a) (.str z) = decide (a = z) := by
      show decide (a = z) = _
      rfl
    rw [e, ih, e2]
    by_cases h : z = a
    · subst h; simp
    · have h2 : ¬ a = z := fun q => h q.symm
      simp [h, h2]
theorem flat_strs (ss : List Str) : (ss.map V.str).all flatV = true := by
  rw [List.all_eq_true]
  intro x hx
  obtain ⟨s, _, rfl⟩ := List.mem_map.mp hx
  rfl
theorem g_inS {p : Addr} {z : Str} {ss : List Str} (h : H p = some (.lst (ss.map V.str))) (q : Q (.bl (decide (z ∈ ss))) H) : rIn K false (.str z) (.ref p) H Q := g_inL h rfl (flat_strs ss) (by
  rw [inV_str]
  exact q)
theorem g_notInS {p : Addr} {z : Str} {ss : List Str} (h : H p = some (.lst (ss.map V.str))) (q : Q (.bl (!decide (z ∈ ss))) H) : rIn K true (.str z) (.ref p) H Q := g_inL h rfl (flat_strs ss) (by
  rw [inV_str]
  exact q)
/-! dicts -/
def kDGet (Q : VK) (x : V) : VK := fun y H2 => ∃ a v, x = .ref a ∧ DGet H2 a y (some v) ∧ Q v H2
theorem g_dget (h : ta σ H (fun x H1 => tb σ H1 (kDGet Q x))) : tDGet ta tb σ H Q := h
theorem g_kDGet {p : Addr} {kvs : List (Key × V)} (h : Rd H p (.dK kvs)) (e : valV kvs (Sum.inl i) = some v) (q : Q v H) : kDGet Q (.ref p) (.int i) H := ⟨p, v, rfl, .inl ⟨kvs, Sum.inl i, h, rfl, e.symm⟩, q⟩
theorem g_kDGetS {p : Addr} {kvs : List (Key × V)} {z : Str} (h : Rd H p (.dK kvs)) (e : valV kvs (Sum.inr z) = some v) (q : Q v H) : kDGet Q (.ref p) (.str z) H := ⟨p, v, rfl, .inl ⟨kvs, Sum.inr z, h, rfl, e.symm⟩, q⟩
def kDIn (Q : VK) (y : V) : VK := fun x H2 => ∃ a o, x = .ref a ∧ DGet H2 a y o ∧ Q (.bl o.isSome) H2
def kDNotIn (Q : VK) (y : V) : VK := fun x H2 => ∃ a o, x = .ref a ∧ DGet H2 a y o ∧ Q (.bl (!o.isSome)) H2
theorem g_din (h : ta σ H (fun y H1 => tb σ H1 (kDIn Q y))) : tDIn ta tb σ H Q := h
theorem g_dnotin (h : ta σ H (fun y H1 => tb σ H1 (kDNotIn Q y))) : tDNotIn ta tb σ H Q := h
theorem g_kDIn {p : Addr} {kvs : List (Key × V)} (h : Rd H p (.dK kvs)) (q : Q (.bl (valV kvs (Sum.inl i)).isSome) H) : kDIn Q (.int i) (.ref p) H := ⟨p, _, rfl, .inl ⟨kvs, Sum.inl i, h, rfl, rfl⟩, q⟩
theorem g_kDNotIn {p : Addr} {kvs : List (Key × V)} (h : Rd H p (.dK kvs)) (q : Q (.bl (!(valV kvs (Sum.inl i)).isSome)) H) : kDNotIn Q (.int i) (.ref p) H := ⟨p, _, rfl, .inl ⟨kvs, Sum.inl i, h, rfl, rfl⟩, q⟩
theorem g_kDInS {p : Addr} {kvs : List (Key × V)} {z : Str} (h : Rd H p (.dK kvs)) (q : Q (.bl (valV kvs (Sum.inr z)).isSome) H) : kDIn Q (.str z) (.ref p) H := ⟨p, _, rfl, .inl ⟨kvs, Sum.inr z, h, rfl, rfl⟩, q⟩
theorem g_kDNotInS {p : Addr} {kvs : List (Key × V)} {z : Str} (h : Rd H p (.dK kvs)) (q : Q (.bl (!(valV kvs (Sum.inr z)).isSome)) H) : kDNotIn Q (.str z) (.ref p) H := ⟨p, _, rfl, .inl ⟨kvs, Sum.inr z, h, rfl, rfl⟩, q⟩
/-- d[k] = v -/
def kDPut (nx : L2.St → Hp → Prop) (σ : L2.St) (v x : V) : VK := fun y H3 => ∃ a H4, x = .ref a ∧ DPut H3 a y v H4 ∧ nx σ H4
theorem g_dput (h : tc σ H (fun v H1 => ta σ H1 (fun x H2 => tb σ H2 (kDPut nx σ v x)))) : sDPut ta tb tc ⟨nx, rt, bk, ct⟩ σ H := h
theorem g_kDPut {p : Addr} {kvs : List (Key × V)} (h : H p = some (.dK kvs)) (hl : kvs.length < sizeLine) (q : ∀ H2, Step [p] H H2 → H2 p = some (.dK (putK kvs (Sum.inl i) v)) → nx σ H2) : kDPut nx σ v (.ref p) (.int i) H :=
  ⟨p, _, rfl, DPut.k (k := Sum.inl i) h hl, q _ ((Step.refl [p] H).wr (List.mem_singleton.mpr rfl)) upd_same⟩
theorem g_kDPutS {p : Addr} {kvs : List (Key × V)} {z : Str} (h : H p = some (.dK kvs)) (hl : kvs.length < sizeLine) (q : ∀ H2, Step [p] H H2 → H2 p = some (.dK (putK kvs (Sum.inr z) v)) → nx σ H2) : kDPut nx σ v (.ref p) (.str z) H :=
  ⟨p, _, rfl, DPut.k (k := Sum.inr z) h hl, q _ ((Step.refl [p] H).wr (List.mem_singleton.mpr rfl)) upd_same⟩
/-! texts' methods -/
def kM1 (r : V → List V → Hp → VK → Prop) (te : TE) (σ : L2.St) (Q : VK) : VK := fun x H1 => (∃ a, x = .str a) ∧ te σ H1 (fun y H2 => r x [y] H2 Q)
theorem g_m1 {r : V → List V → Hp → VK → Prop} (h : ta σ H (kM1 r te σ Q)) : tM1 r ta te σ H Q := h
theorem g_kM1 {r : V → List V → Hp → VK → Prop} {z : Str} (h : te σ H (fun y H2 => r (.str z) [y] H2 Q)) : kM1 r te σ Q (.str z) H := ⟨⟨z, rfl⟩, h⟩
end
/-! loops: an invariant by the turn, the slots, the heap -/
theorem Step.back {m : List Addr} {H H1 : Hp} {d : Addr} (x : Step (d :: m) H H1) (e : ∀ o, H d = some o → H1 d = some o) : Step m H H1 := ⟨fun b o n h => by
  by_cases hb : b = d
  · subst hb; exact e o h
  · exact x.keep b o (fun z => (List.mem_cons.mp z).elim hb n) h, x.live⟩
section
variable {K : PySem.W.Frag} {σ : L2.St} {H : Hp} {Q : VK} {tl td : TE} {t : TS} {nx bk ct : L2.St → Hp → Prop} {rt : VK} {tr : TA} {g : TG} {tt : TT} {te tk tv : TE} {ws : List Nat}
/-- the loop itself, whatever is walked -/
def wFor (J : It) (g : TG) (t : TS) (D : Ends) (σ : L2.St) (H : Hp) : Prop := ∃ W : Nat → Nat → L2.St → Hp → Prop, (∃ m, W 0 m σ H) ∧ ∀ i m σ H, W i m σ H →
  (J.stop i H ∧ D.nx σ H) ∨ (J.go i H ∧ ∃ N : L2.St → Hp → Prop, (∀ σ' H', N σ' H' → ∃ m', m' < m ∧ W (i + 1) m' σ' H') ∧ ∀ x H', J.yld i H x H' → g x σ H' fun σ2 H2 => t { D with nx := N, ct := N, bk := D.nx } σ2 H2)
theorem wFor_gen {J : It} (n : Nat) (Pv : Nat → L2.St → Hp → Prop) (h0 : Pv 0 σ H) (hg : ∀ i σ H, i < n → Pv i σ H → J.go i H) (hst : ∀ σ H, Pv n σ H → J.stop n H)
    (hs : ∀ i σ H x H', i < n → Pv i σ H → J.yld i H x H' → g x σ H' fun σ2 H2 => t ⟨Pv (i + 1), rt, nx, Pv (i + 1)⟩ σ2 H2) (hd : ∀ σ H, Pv n σ H → nx σ H) : wFor J g t ⟨nx, rt, bk, ct⟩ σ H := by
  refine ⟨fun i m σ H => m = n - i ∧ i ≤ n ∧ Pv i σ H, ⟨n, by simp, Nat.zero_le _, h0⟩, ?_⟩
  rintro i m σ H ⟨rfl, hi, p⟩
  by_cases hlt : i < n
  · exact .inr ⟨hg i σ H hlt p, Pv (i + 1), fun σ' H' p' => ⟨n - (i + 1), by omega, rfl, hlt, p'⟩, fun x H' y => hs i σ H x H' hlt p y⟩
  · have e : i = n := by omega
    subst e
    exact .inl ⟨hst σ H p, hd σ H p⟩
/-- a comprehension's turn -/
def kEl (D : Addr) (Nx : Hp → Prop) : VK := fun y H4 => ∃ acc, H4 D = some (.lst acc) ∧ acc.length < sizeLine ∧ Nx (upd H4 D (.lst (acc ++ [y])))
theorem g_kEl {D : Addr} {Nx : Hp → Prop} {y : V} {acc : List V} (h : H D = some (.lst acc)) (hz : acc.length < sizeLine) (q : ∀ H5, Step [D] H H5 → H5 D = some (.lst (acc ++ [y])) → Nx H5) : kEl D Nx y H :=
  ⟨acc, h, hz, q _ ((Step.refl [D] H).wr (List.mem_singleton.mpr rfl)) upd_same⟩
def kTst (te : TE) (σ2 : L2.St) (D : Addr) (Nx : Hp → Prop) : Bool → Hp → Prop := fun b H3 => if b = true then te σ2 H3 (kEl D Nx) else Nx H3
theorem g_kTst {D : Addr} {Nx : Hp → Prop} {b : Bool} (h : if b = true then te σ H (kEl D Nx) else Nx H) : kTst te σ D Nx b H := h
theorem g_kTstT {D : Addr} {Nx : Hp → Prop} (h : te σ H (kEl D Nx)) : kTst te σ D Nx true H := iteT h
def kTurn (tt : TT) (te : TE) (ws : List Nat) (σ : L2.St) (D : Addr) (Nx : Hp → Prop) : L2.St → Hp → Prop := fun σ2 H2 => wipe σ2 ws = wipe σ ws ∧ tt σ2 H2 (kTst te σ2 D Nx)
theorem g_kTurn {D : Addr} {Nx : Hp → Prop} {σ2 : L2.St} (e : wipe σ2 ws = wipe σ ws) (h : tt σ2 H (kTst te σ2 D Nx)) : kTurn tt te ws σ D Nx σ2 H := ⟨e, h⟩
theorem g_yes {Q : Bool → Hp → Prop} (h : Q true H) : tYes σ H Q := h
def wLc (J : It) (g : TG) (tt : TT) (te : TE) (ws : List Nat) (σ : L2.St) (Q : VK) (H1 : Hp) : Prop := ∀ D, H1 D = none → ∃ W : Nat → Nat → Hp → Prop, (∃ m, W 0 m (upd H1 D (.lst []))) ∧ ∀ i m H, W i m H →
  (J.stop i H ∧ Q (.ref D) H) ∨ (J.go i H ∧ ∃ Nx : Hp → Prop, (∀ H', Nx H' → ∃ m', m' < m ∧ W (i + 1) m' H') ∧ ∀ x H', J.yld i H x H' → g x (wipe σ ws) H' (kTurn tt te ws σ D Nx))
theorem wLc_gen {J : It} (n : Nat) (q : ∀ D H2, H D = none → Step [] H H2 → H2 D = some (.lst []) → ∃ Pv : Nat → Hp → Prop, Pv 0 H2 ∧ (∀ i H, i < n → Pv i H → J.go i H) ∧ (∀ H, Pv n H → J.stop n H) ∧
    (∀ i H x H', i < n → Pv i H → J.yld i H x H' → g x (wipe σ ws) H' (kTurn tt te ws σ D (Pv (i + 1)))) ∧ (∀ H, Pv n H → Q (.ref D) H)) : wLc J g tt te ws σ Q H := by
  intro D hD
  obtain ⟨Pv, h0, hg, hst, hs, hd⟩ := q D _ hD (Step.new hD) upd_same
  refine ⟨fun i m H => m = n - i ∧ i ≤ n ∧ Pv i H, ⟨n, by simp, Nat.zero_le _, h0⟩, ?_⟩
  rintro i m H ⟨rfl, hi, p⟩
  by_cases hlt : i < n
  · exact .inr ⟨hg i H hlt p, Pv (i + 1), fun H' p' => ⟨n - (i + 1), by omega, rfl, hlt, p'⟩, fun x H' y => hs i H x H' hlt p y⟩
  · have e : i = n := by omega
    subst e
    exact .inl ⟨hst H p, hd H p⟩
/-- a dict comprehension's turn -/
def kElD (D : Addr) (Nx : Hp → Prop) (y : V) : VK := fun z H5 => ∃ kvs k, y = kV k ∧ H5 D = some (.dK kvs) ∧ kvs.length < sizeLine ∧ Nx (upd H5 D (.dK (putK kvs k z)))
theorem g_kElD {D : Addr} {Nx : Hp → Prop} {z : V} {i : Int} {kvs : List (Key × V)} (h : H D = some (.dK kvs)) (hz : kvs.length < sizeLine) (q : ∀ H5, Step [D] H H5 → H5 D = some (.dK (putK kvs (Sum.inl i) z)) → Nx H5) : kElD D Nx (.int i) z H :=
  ⟨kvs, Sum.inl i, rfl, h, hz, q _ ((Step.refl [D] H).wr (List.mem_singleton.mpr rfl)) upd_same⟩
theorem g_kElDS {D : Addr} {Nx : Hp → Prop} {z : V} {i : Str} {kvs : List (Key × V)} (h : H D = some (.dK kvs)) (hz : kvs.length < sizeLine) (q : ∀ H5, Step [D] H H5 → H5 D = some (.dK (putK kvs (Sum.inr i) z)) → Nx H5) : kElD D Nx (.str i) z H :=
  ⟨kvs, Sum.inr i, rfl, h, hz, q _ ((Step.refl [D] H).wr (List.mem_singleton.mpr rfl)) upd_same⟩
def kTstD (tk tv : TE) (σ2 : L2.St) (D : Addr) (Nx : Hp → Prop) : Bool → Hp → Prop := fun b H3 => if b = true then tk σ2 H3 (fun y H4 => tv σ2 H4 (kElD D Nx y)) else Nx H3
theorem g_kTstD {D : Addr} {Nx : Hp → Prop} {b : Bool} (h : if b = true then tk σ H (fun y H4 => tv σ H4 (kElD D Nx y)) else Nx H) : kTstD tk tv σ D Nx b H := h
theorem g_kTstDT {D : Addr} {Nx : Hp → Prop} (h : tk σ H (fun y H4 => tv σ H4 (kElD D Nx y))) : kTstD tk tv σ D Nx true H := iteT h
def kTurnD (tt : TT) (tk tv : TE) (ws : List Nat) (σ : L2.St) (D : Addr) (Nx : Hp → Prop) : L2.St → Hp → Prop := fun σ2 H2 => wipe σ2 ws = wipe σ ws ∧ tt σ2 H2 (kTstD tk tv σ2 D Nx)
theorem g_kTurnD {D : Addr} {Nx : Hp → Prop} {σ2 : L2.St} (e : wipe σ2 ws = wipe σ ws) (h : tt σ2 H (kTstD tk tv σ2 D Nx)) : kTurnD tt tk tv ws σ D Nx σ2 H := ⟨e, h⟩
def wDc (J : It) (g : TG) (tt : TT) (tk tv : TE) (ws : List Nat) (σ : L2.St) (Q : VK) (H1 : Hp) : Prop := ∀ D, H1 D = none → ∃ W : Nat → Nat → Hp → Prop, (∃ m, W 0 m (upd H1 D (.dK []))) ∧ ∀ i m H, W i m H →
  (J.stop i H ∧ Q (.ref D) H) ∨ (J.go i H ∧ ∃ Nx : Hp → Prop, (∀ H', Nx H' → ∃ m', m' < m ∧ W (i + 1) m' H') ∧ ∀ x H', J.yld i H x H' → g x (wipe σ ws) H' (kTurnD tt tk tv ws σ D Nx))
theorem wDc_gen {J : It} (n : Nat) (q : ∀ D H2, H D = none → Step [] H H2 → H2 D = some (.dK []) → ∃ Pv : Nat → Hp → Prop, Pv 0 H2 ∧ (∀ i H, i < n → Pv i H → J.go i H) ∧ (∀ H, Pv n H → J.stop n H) ∧
    (∀ i H x H', i < n → Pv i H → J.yld i H x H' → g x (wipe σ ws) H' (kTurnD tt tk tv ws σ D (Pv (i + 1)))) ∧ (∀ H, Pv n H → Q (.ref D) H)) : wDc J g tt tk tv ws σ Q H := by
  intro D hD
  obtain ⟨Pv, h0, hg, hst, hs, hd⟩ := q D _ hD (Step.new hD) upd_same
  refine ⟨fun i m H => m = n - i ∧ i ≤ n ∧ Pv i H, ⟨n, by simp, Nat.zero_le _, h0⟩, ?_⟩
  rintro i m H ⟨rfl, hi, p⟩
  by_cases hlt : i < n
  · exact .inr ⟨hg i H hlt p, Pv (i + 1), fun H' p' => ⟨n - (i + 1), by omega, rfl, hlt, p'⟩, fun x H' y => hs i H x H' hlt p y⟩
  · have e : i = n := by omega
    subst e
    exact .inl ⟨hst H p, hd H p⟩
/-- the three as one: what is to be done with a walk -/
abbrev WK := It → Hp → Prop
theorem g_for {wi : TI} (h : wi σ H (fun J H1 => wFor J g t ⟨nx, rt, bk, ct⟩ σ H1)) : tFor wi g t ⟨nx, rt, bk, ct⟩ σ H := h
theorem g_lc {wi : TI} (h : wi σ H (fun J H1 => wLc J g tt te ws σ Q H1)) : tLc wi g tt te ws σ H Q := h
theorem g_dc {wi : TI} (h : wi σ H (fun J H1 => wDc J g tt tk tv ws σ Q H1)) : tDc wi g tt tk tv ws σ H Q := h
/-! the walks -/
def kRng1 (R : WK) : List V → Hp → Prop := fun vs H1 => ∃ j : Int, vs = [.int j] ∧ -(2 ^ 62) ≤ j ∧ j < 2 ^ 62 ∧ R (Itr 0 j.toNat) H1
def kRng2 (R : WK) : List V → Hp → Prop := fun vs H1 => ∃ i j : Int, vs = [.int i, .int j] ∧ (-(2 ^ 62) ≤ i ∧ i < 2 ^ 62 ∧ -(2 ^ 62) ≤ j ∧ j < 2 ^ 62) ∧ R (Itr i (j - i).toNat) H1
theorem g_rng1 {R : WK} (h : tr σ H (kRng1 R)) : iRng1 tr σ H R := h
theorem g_rng2 {R : WK} (h : tr σ H (kRng2 R)) : iRng2 tr σ H R := h
theorem g_kRng1 {R : WK} {n : Int} (h1 : -(2 ^ 62) ≤ n) (h2 : n < 2 ^ 62) (q : R (Itr 0 n.toNat) H) : kRng1 R [.int n] H := ⟨n, rfl, h1, h2, q⟩
theorem g_kRng2 {R : WK} {i j : Int} (h1 : -(2 ^ 62) ≤ i) (h2 : i < 2 ^ 62) (h3 : -(2 ^ 62) ≤ j) (h4 : j < 2 ^ 62) (q : R (Itr i (j - i).toNat) H) : kRng2 R [.int i, .int j] H := ⟨i, j, rfl, ⟨h1, h2, h3, h4⟩, q⟩
theorem wFor_rng {k : Nat} {lo : Int} {n : Nat} (Pv : Nat → L2.St → Hp → Prop) (h0 : Pv 0 σ H) (hs : ∀ i σ H, i < n → Pv i σ H → t ⟨Pv (i + 1), rt, nx, Pv (i + 1)⟩ (σ.set k (some (.int (lo + (i : Int))))) H) (hd : ∀ σ H, Pv n σ H → nx σ H) : wFor (Itr lo n) (gName k) t ⟨nx, rt, bk, ct⟩ σ H :=
  wFor_gen n Pv h0 (fun i _ _ hi _ => hi) (fun _ _ _ => Nat.le_refl _) (fun i σ H x H' hi p y => by
    obtain ⟨e1, e2⟩ := y
    subst e1 e2
    exact hs i σ _ hi p) hd
theorem wLc_rng {k : Nat} {lo : Int} {n : Nat} (q : ∀ D H2, H D = none → Step [] H H2 → H2 D = some (.lst []) → ∃ Pv : Nat → Hp → Prop, Pv 0 H2 ∧ (∀ i H, i < n → Pv i H → kTurn tt te ws σ D (Pv (i + 1)) ((wipe σ ws).set k (some (.int (lo + (i : Int))))) H) ∧ (∀ H, Pv n H → Q (.ref D) H)) : wLc (Itr lo n) (gName k) tt te ws σ Q H :=
  wLc_gen n fun D H2 h1 h2 h3 => by
    obtain ⟨Pv, p0, hs, hd⟩ := q D H2 h1 h2 h3
    refine ⟨Pv, p0, fun i _ hi _ => hi, fun _ _ => Nat.le_refl _, fun i H x H' hi p y => ?_, hd⟩
    obtain ⟨e1, e2⟩ := y
    subst e1 e2
    exact hs i _ hi p
def kList (K : PySem.W.Frag) (R : WK) : VK := fun x H1 => ∃ a, x = .ref a ∧ (∃ xs, SqL K H1 a xs) ∧ R (Itl K a) H1
theorem g_list {R : WK} (h : tl σ H (kList K R)) : iList K tl σ H R := h
theorem g_kList {R : WK} {a : Addr} {xs : List V} (h : H a = some (.lst xs)) (q : R (Itl K a) H) : kList K R (.ref a) H := ⟨a, rfl, ⟨xs, SqL.of h⟩, q⟩
/-- a list that the turns leave as it is -/
theorem wFor_list {a : Addr} {xs : List V} (Pv : Nat → L2.St → Hp → Prop) (h0 : Pv 0 σ H) (hl : ∀ i σ H, i ≤ xs.length → Pv i σ H → H a = some (.lst xs))
    (hs : ∀ i x σ H, xs[i]? = some x → Pv i σ H → g x σ H (fun σ2 H2 => t ⟨Pv (i + 1), rt, nx, Pv (i + 1)⟩ σ2 H2)) (hd : ∀ σ H, Pv xs.length σ H → nx σ H) : wFor (Itl K a) g t ⟨nx, rt, bk, ct⟩ σ H :=
  wFor_gen xs.length Pv h0 (fun i σ H hi p => ⟨xs, xs[i], SqL.of (hl i σ H (Nat.le_of_lt hi) p), List.getElem?_eq_getElem hi⟩) (fun σ H p => ⟨xs, SqL.of (hl _ σ H (Nat.le_refl _) p), Nat.le_refl _⟩) (fun i σ H x H' hi p y => by
    obtain ⟨e, y⟩ := y
    subst e
    exact hs i x σ _ (y xs (SqL.of (hl i σ _ (Nat.le_of_lt hi) p))) p) hd
theorem wLc_list {a : Addr} {xs : List V} (q : ∀ D H2, H D = none → Step [] H H2 → H2 D = some (.lst []) → ∃ Pv : Nat → Hp → Prop, Pv 0 H2 ∧ (∀ i H, i ≤ xs.length → Pv i H → H a = some (.lst xs)) ∧ (∀ i x H, xs[i]? = some x → Pv i H → g x (wipe σ ws) H (kTurn tt te ws σ D (Pv (i + 1)))) ∧ (∀ H, Pv xs.length H → Q (.ref D) H)) : wLc (Itl K a) g tt te ws σ Q H :=
  wLc_gen xs.length fun D H2 h1 h2 h3 => by
    obtain ⟨Pv, p0, hl, hs, hd⟩ := q D H2 h1 h2 h3
    refine ⟨Pv, p0, fun i H hi p => ⟨xs, xs[i], SqL.of (hl i H (Nat.le_of_lt hi) p), List.getElem?_eq_getElem hi⟩, fun H p => ⟨xs, SqL.of (hl _ H (Nat.le_refl _) p), Nat.le_refl _⟩, fun i H x H' hi p y => ?_, hd⟩
    obtain ⟨e, y⟩ := y
    subst e
    exact hs i x _ (y xs (SqL.of (hl i _ (Nat.le_of_lt hi) p))) p
/-- a text, sign by sign -/
def kStr (R : WK) : VK := fun v H1 => ∃ x, v = .str x ∧ R (Its x) H1
theorem g_str {R : WK} (h : tl σ H (kStr R)) : iStr tl σ H R := h
theorem g_kStr {R : WK} {z : Str} (q : R (Its z) H) : kStr R (.str z) H := ⟨z, rfl, q⟩
theorem wFor_str {z : Str} {k : Nat} (Pv : Nat → L2.St → Hp → Prop) (h0 : Pv 0 σ H) (hs : ∀ i c σ H, z.cps[i]? = some c → Pv i σ H → t ⟨Pv (i + 1), rt, nx, Pv (i + 1)⟩ (σ.set k (some (.str ⟨#[c]⟩))) H) (hd : ∀ σ H, Pv z.cps.size σ H → nx σ H) : wFor (Its z) (gName k) t ⟨nx, rt, bk, ct⟩ σ H :=
  wFor_gen z.cps.size Pv h0 (fun i _ _ hi _ => hi) (fun _ _ _ => Nat.le_refl _) (fun i σ H x H' hi p y => by
    obtain ⟨e1, c, e2, e3⟩ := y
    subst e1 e3
    exact hs i c σ _ e2 p) hd
theorem wLc_str {z : Str} {k : Nat} (q : ∀ D H2, H D = none → Step [] H H2 → H2 D = some (.lst []) → ∃ Pv : Nat → Hp → Prop, Pv 0 H2 ∧ (∀ i c H, z.cps[i]? = some c → Pv i H → kTurn tt te ws σ D (Pv (i + 1)) ((wipe σ ws).set k (some (.str ⟨#[c]⟩))) H) ∧ (∀ H, Pv z.cps.size H → Q (.ref D) H)) : wLc (Its z) (gName k) tt te ws σ Q H :=
  wLc_gen z.cps.size fun D H2 h1 h2 h3 => by
    obtain ⟨Pv, p0, hs, hd⟩ := q D H2 h1 h2 h3
    refine ⟨Pv, p0, fun i _ hi _ => hi, fun _ _ => Nat.le_refl _, fun i H x H' hi p y => ?_, hd⟩
    obtain ⟨e1, c, e2, e3⟩ := y
    subst e1 e3
    exact hs i c _ e2 p
/-! a dict under a lock -/
def lk (d : Addr) (od : Obj) (kvs : List (Key × V)) (f : L2.St → Hp → Prop) : L2.St → Hp → Prop := fun σ' H' => H' d = some (.frz od (.dK kvs)) ∧ f σ' (upd H' d (.dK kvs))
def lkV (d : Addr) (od : Obj) (kvs : List (Key × V)) (f : VK) : VK := fun v H' => H' d = some (.frz od (.dK kvs)) ∧ f v (upd H' d (.dK kvs))
theorem g_lock {d : Addr} {kvs : List (Key × V)} (h : H d = some (.dK kvs)) (q : ∀ od H2, Step [d] H H2 → H2 d = some (.frz od (.dK kvs)) → t ⟨lk d od kvs nx, lkV d od kvs rt, lk d od kvs bk, lk d od kvs ct⟩ σ H2) : tLock t ⟨nx, rt, bk, ct⟩ σ H :=
  ⟨d, .dK kvs, h, trivial, fun od => q od _ ((Step.refl [d] H).wr (List.mem_singleton.mpr rfl)) upd_same⟩
theorem g_lockE {d : Addr} {kvs : List (Key × V)} (h : H d = some (.dK kvs)) (q : ∀ od H2, Step [d] H H2 → H2 d = some (.frz od (.dK kvs)) → te σ H2 (lkV d od kvs Q)) : tLockE te σ H Q :=
  ⟨d, .dK kvs, h, trivial, fun od => q od _ ((Step.refl [d] H).wr (List.mem_singleton.mpr rfl)) upd_same⟩
theorem g_lk {d : Addr} {od : Obj} {kvs : List (Key × V)} {f : L2.St → Hp → Prop} (h : H d = some (.frz od (.dK kvs))) (q : ∀ H2, Step [d] H H2 → H2 d = some (.dK kvs) → f σ H2) : lk d od kvs f σ H := ⟨h, q _ ((Step.refl [d] H).wr (List.mem_singleton.mpr rfl)) upd_same⟩
theorem g_lkV {d : Addr} {od : Obj} {kvs : List (Key × V)} {f : VK} {v : V} (h : H d = some (.frz od (.dK kvs))) (q : ∀ H2, Step [d] H H2 → H2 d = some (.dK kvs) → f v H2) : lkV d od kvs f v H := ⟨h, q _ ((Step.refl [d] H).wr (List.mem_singleton.mpr rfl)) upd_same⟩
def kKeys (R : WK) : VK := fun x H1 => ∃ d o, x = .ref d ∧ ((∃ kvs, H1 d = some (.frz o (.dK kvs)) ∧ R (Itk d o kvs) H1) ∨ ∃ kvs, H1 d = some (.frz o (.dT kvs)) ∧ R (Itkt d o kvs) H1)
def kVals (R : WK) : VK := fun x H1 => ∃ d o kvs, x = .ref d ∧ H1 d = some (.frz o (.dK kvs)) ∧ R (Itd d o kvs) H1
def kItems (R : WK) : VK := fun x H1 => ∃ d o kvs, x = .ref d ∧ H1 d = some (.frz o (.dK kvs)) ∧ R (Iti d o kvs) H1
theorem g_keys {R : WK} (h : td σ H (kKeys R)) : iKeys td σ H R := h
theorem g_vals {R : WK} (h : td σ H (kVals R)) : iVals td σ H R := h
theorem g_items {R : WK} (h : td σ H (kItems R)) : iItems td σ H R := h
theorem g_kKeys {R : WK} {d : Addr} {o : Obj} {kvs : List (Key × V)} (h : H d = some (.frz o (.dK kvs))) (q : R (Itk d o kvs) H) : kKeys R (.ref d) H := ⟨d, o, rfl, .inl ⟨kvs, h, q⟩⟩
theorem g_kVals {R : WK} {d : Addr} {o : Obj} {kvs : List (Key × V)} (h : H d = some (.frz o (.dK kvs))) (q : R (Itd d o kvs) H) : kVals R (.ref d) H := ⟨d, o, kvs, rfl, h, q⟩
theorem g_kItems {R : WK} {d : Addr} {o : Obj} {kvs : List (Key × V)} (h : H d = some (.frz o (.dK kvs))) (q : R (Iti d o kvs) H) : kItems R (.ref d) H := ⟨d, o, kvs, rfl, h, q⟩
theorem wFor_keys {d : Addr} {o : Obj} {kvs : List (Key × V)} {k : Nat} (Pv : Nat → L2.St → Hp → Prop) (h0 : Pv 0 σ H) (hl : ∀ i σ H, i ≤ kvs.length → Pv i σ H → H d = some (.frz o (.dK kvs)))
    (hs : ∀ i p σ H, kvs[i]? = some p → Pv i σ H → t ⟨Pv (i + 1), rt, nx, Pv (i + 1)⟩ (σ.set k (some (kV p.1))) H) (hd : ∀ σ H, Pv kvs.length σ H → nx σ H) : wFor (Itk d o kvs) (gName k) t ⟨nx, rt, bk, ct⟩ σ H :=
  wFor_gen kvs.length Pv h0 (fun i σ H hi p => ⟨hl i σ H (Nat.le_of_lt hi) p, hi⟩) (fun σ H p => ⟨hl _ σ H (Nat.le_refl _) p, Nat.le_refl _⟩) (fun i σ H x H' hi p y => by
    obtain ⟨e1, k, v, e2, e3⟩ := y
    subst e1 e3
    exact hs i (k, v) σ _ e2 p) hd
theorem wFor_vals {d : Addr} {o : Obj} {kvs : List (Key × V)} {k : Nat} (Pv : Nat → L2.St → Hp → Prop) (h0 : Pv 0 σ H) (hl : ∀ i σ H, i ≤ kvs.length → Pv i σ H → H d = some (.frz o (.dK kvs)))
    (hs : ∀ i p σ H, kvs[i]? = some p → Pv i σ H → t ⟨Pv (i + 1), rt, nx, Pv (i + 1)⟩ (σ.set k (some p.2)) H) (hd : ∀ σ H, Pv kvs.length σ H → nx σ H) : wFor (Itd d o kvs) (gName k) t ⟨nx, rt, bk, ct⟩ σ H :=
  wFor_gen kvs.length Pv h0 (fun i σ H hi p => ⟨hl i σ H (Nat.le_of_lt hi) p, hi⟩) (fun σ H p => ⟨hl _ σ H (Nat.le_refl _) p, Nat.le_refl _⟩) (fun i σ H x H' hi p y => by
    obtain ⟨e1, k, e2⟩ := y
    subst e1
    exact hs i (k, x) σ _ e2 p) hd
/-- items: each pair a new tuple, taken apart -/
theorem wFor_items {d : Addr} {o : Obj} {kvs : List (Key × V)} {k l : Nat} (Pv : Nat → L2.St → Hp → Prop) (h0 : Pv 0 σ H) (hl : ∀ i σ H, i ≤ kvs.length → Pv i σ H → H d = some (.frz o (.dK kvs)))
    (hs : ∀ i p σ H H2 T, kvs[i]? = some p → Pv i σ H → H T = none → Step [] H H2 → H2 T = some (.tup [kV p.1, p.2]) → t ⟨Pv (i + 1), rt, nx, Pv (i + 1)⟩ ((σ.set k (some (kV p.1))).set l (some p.2)) H2) (hd : ∀ σ H, Pv kvs.length σ H → nx σ H) :
    wFor (Iti d o kvs) (gTup K 2 (gCons (gName k) (gCons (gName l) gNil))) t ⟨nx, rt, bk, ct⟩ σ H :=
  wFor_gen kvs.length Pv h0 (fun i σ H hi p => ⟨hl i σ H (Nat.le_of_lt hi) p, hi⟩) (fun σ H p => ⟨hl _ σ H (Nat.le_refl _) p, Nat.le_refl _⟩) (fun i σ H x H' hi p y => by
    obtain ⟨T, k, v, e2, e3, hT, e4⟩ := y
    subst e3 e4
    exact ⟨T, _, rfl, SqT.of upd_same, rfl, _, _, rfl, _, _, rfl, rfl, hs i (k, v) σ H _ T e2 p hT (Step.new hT) upd_same⟩) hd
theorem wDc_items {d : Addr} {o : Obj} {kvs : List (Key × V)} {k l : Nat} (q : ∀ D H2, H D = none → Step [] H H2 → H2 D = some (.dK []) → ∃ Pv : Nat → Hp → Prop, Pv 0 H2 ∧ (∀ i H, i ≤ kvs.length → Pv i H → H d = some (.frz o (.dK kvs))) ∧
    (∀ i p H H2 T, kvs[i]? = some p → Pv i H → H T = none → Step [] H H2 → H2 T = some (.tup [kV p.1, p.2]) → kTurnD tt tk tv ws σ D (Pv (i + 1)) (((wipe σ ws).set k (some (kV p.1))).set l (some p.2)) H2) ∧ (∀ H, Pv kvs.length H → Q (.ref D) H)) :
    wDc (Iti d o kvs) (gTup K 2 (gCons (gName k) (gCons (gName l) gNil))) tt tk tv ws σ Q H :=
  wDc_gen kvs.length fun D H2 h1 h2 h3 => by
    obtain ⟨Pv, p0, hl, hs, hd⟩ := q D H2 h1 h2 h3
    refine ⟨Pv, p0, fun i H hi p => ⟨hl i H (Nat.le_of_lt hi) p, hi⟩, fun H p => ⟨hl _ H (Nat.le_refl _) p, Nat.le_refl _⟩, fun i H x H' hi p y => ?_, hd⟩
    obtain ⟨T, k, v, e2, e3, hT, e4⟩ := y
    subst e3 e4
    exact ⟨T, _, rfl, SqT.of upd_same, rfl, _, _, rfl, _, _, rfl, rfl, hs i (k, v) H _ T e2 p hT (Step.new hT) upd_same⟩
theorem wDc_rng {k : Nat} {lo : Int} {n : Nat} (q : ∀ D H2, H D = none → Step [] H H2 → H2 D = some (.dK []) → ∃ Pv : Nat → Hp → Prop, Pv 0 H2 ∧ (∀ i H, i < n → Pv i H → kTurnD tt tk tv ws σ D (Pv (i + 1)) ((wipe σ ws).set k (some (.int (lo + (i : Int))))) H) ∧ (∀ H, Pv n H → Q (.ref D) H)) : wDc (Itr lo n) (gName k) tt tk tv ws σ Q H :=
  wDc_gen n fun D H2 h1 h2 h3 => by
    obtain ⟨Pv, p0, hs, hd⟩ := q D H2 h1 h2 h3
    refine ⟨Pv, p0, fun i _ hi _ => hi, fun _ _ => Nat.le_refl _, fun i H x H' hi p y => ?_, hd⟩
    obtain ⟨e1, e2⟩ := y
    subst e1 e2
    exact hs i _ hi p
end
/-! a tuple taken apart -/
section
variable {K : PySem.W.Frag} {σ : L2.St} {H : Hp} {Q : L2.St → Hp → Prop}
theorem g_tup2 {a : Addr} {x y : V} {k l : Nat} (h : H a = some (.tup [x, y])) (q : Q ((σ.set k (some x)).set l (some y)) H) : gTup K 2 (gCons (gName k) (gCons (gName l) gNil)) (.ref a) σ H Q := ⟨a, _, rfl, SqT.of h, rfl, _, _, rfl, _, _, rfl, rfl, q⟩
theorem g_tup3 {a : Addr} {x y z : V} {k l m : Nat} (h : H a = some (.tup [x, y, z])) (q : Q (((σ.set k (some x)).set l (some y)).set m (some z)) H) : gTup K 3 (gCons (gName k) (gCons (gName l) (gCons (gName m) gNil))) (.ref a) σ H Q := ⟨a, _, rfl, SqT.of h, rfl, _, _, rfl, _, _, rfl, _, _, rfl, rfl, q⟩
theorem g_tup4 {a : Addr} {x y z w : V} {k l m n : Nat} (h : H a = some (.tup [x, y, z, w])) (q : Q ((((σ.set k (some x)).set l (some y)).set m (some z)).set n (some w)) H) : gTup K 4 (gCons (gName k) (gCons (gName l) (gCons (gName m) (gCons (gName n) gNil)))) (.ref a) σ H Q := ⟨a, _, rfl, SqT.of h, rfl, _, _, rfl, _, _, rfl, _, _, rfl, _, _, rfl, rfl, q⟩
end
end My
/-! Kit4: named readings for operators and built-in calls. -/
namespace My
open PySem PySem.Spec PyProof.Rows L2
section
variable {X : Cx} {K : PySem.W.Frag} {H : Hp} {Q : VK} {i j : Int} {xs ys : List V} {p : Addr}
def rModP : R2 := fun x y H Q => ∃ i j, x = .int i ∧ y = .int j ∧ 0 < j ∧ Q (.int (i % j)) H
theorem op_modP : OpR X (binaryOp .Mod) rModP := by
  intro pins s σ H x y v u Q I rx ry h
  obtain ⟨i, j, e1, e2, hj, q⟩ := h
  exact op_modN pins s σ H x y v u Q I rx ry ⟨i, j, e1, e2, by omega, by show Q (.int (i.fmod j)) H; rw [Int.fmod_eq_emod_of_nonneg i (by omega)]; exact q⟩
theorem g_modP (h : 0 < j) (q : Q (.int (i % j)) H) : rModP (.int i) (.int j) H Q := ⟨i, j, rfl, rfl, h, q⟩
def rDivP : R2 := fun x y H Q => ∃ i j, x = .int i ∧ y = .int j ∧ CDivW i j ∧ Q (.int (i / j)) H
theorem op_divP : OpR X (binaryOp .FloorDiv) rDivP := op_fdivW
theorem g_divP (h : 0 < j) (h2 : j < 2 ^ 250) (q : Q (.int (i / j)) H) : rDivP (.int i) (.int j) H Q := ⟨i, j, rfl, rfl, wide_div (b := 250) h (by omega) (by decide) (by decide), q⟩
def rMulP : R2 := fun x y H Q => ∃ i j, x = .int i ∧ y = .int j ∧ CMulW i j ∧ Q (.int (i * j)) H
theorem op_mulP : OpR X (binaryOp .Mult) rMulP := op_mulW
theorem g_mulP (h1 : -(2 ^ 250) < i) (h2 : i < 2 ^ 250) (h3 : -(2 ^ 250) < j) (h4 : j < 2 ^ 250) (q : Q (.int (i * j)) H) : rMulP (.int i) (.int j) H Q :=
  ⟨i, j, rfl, rfl, wide_mul (a := 250) (b := 250) (by omega) (by omega) (by decide) (by decide) (by decide), q⟩
def rPowP : R2 := fun x y H Q => ∃ i j, x = .int i ∧ y = .int j ∧ CPowW i j ∧ Q (.int (i ^ j.toNat)) H
theorem op_powP : OpR X (binaryOp .Pow) rPowP := op_powW
theorem g_powP (h1 : -(2 ^ 250) < i) (h2 : i < 2 ^ 250) (h3 : 0 ≤ j) (h4 : j ≤ 1000) (q : Q (.int (i ^ j.toNat)) H) : rPowP (.int i) (.int j) H Q :=
  ⟨i, j, rfl, rfl, powW_ok (a := 250) (by omega) (by decide) h3 (by omega), q⟩
/-! len -/
def rLenL (K : PySem.W.Frag) : List V → Hp → VK → Prop := fun xs H Q => ∃ p ys, xs = [.ref p] ∧ (SqL K H p ys ∨ SqT K H p ys) ∧ Q (.int ys.length) H
theorem cr_lenL : CallR X (.builtin "len") (rLenL X.K) := call_len_seq
theorem g_lenL (h : H p = some (.lst xs)) (q : Q (.int (xs.length : Nat)) H) : rLenL K [.ref p] H Q := ⟨p, xs, rfl, .inl (SqL.of h), q⟩
theorem g_lenLK (h : SqL K H p xs) (q : Q (.int (xs.length : Nat)) H) : rLenL K [.ref p] H Q := ⟨p, xs, rfl, .inl h, q⟩
theorem g_lenT (h : H p = some (.tup xs)) (q : Q (.int (xs.length : Nat)) H) : rLenL K [.ref p] H Q := ⟨p, xs, rfl, .inr (SqT.of h), q⟩
def rLenSt : List V → Hp → VK → Prop := fun xs H Q => ∃ z : Str, xs = [.str z] ∧ z.length ≤ sizeLine ∧ Q (.int z.length) H
theorem cr_lenSt : CallR X (.builtin "len") rLenSt := call_len_str
theorem g_lenSt {z : Str} (hl : z.length ≤ sizeLine) (q : Q (.int (z.length : Nat)) H) : rLenSt [.str z] H Q := ⟨z, rfl, hl, q⟩
def rLenDi : List V → Hp → VK → Prop := fun xs H Q => ∃ a kvs, xs = [V.ref a] ∧ H a = some (.dK kvs) ∧ Q (.int kvs.length) H
theorem cr_lenDi : CallR X (.builtin "len") rLenDi := call_lenD
theorem g_lenDi {kvs : List (Key × V)} (h : H p = some (.dK kvs)) (q : Q (.int (kvs.length : Nat)) H) : rLenDi [.ref p] H Q := ⟨p, kvs, rfl, h, q⟩
/-! least, greatest of two -/
def rMax2 : List V → Hp → VK → Prop := fun xs H Q => ∃ i j, xs = [.int i, .int j] ∧ Q (.int (if j > i then j else i)) H
def rMin2 : List V → Hp → VK → Prop := fun xs H Q => ∃ i j, xs = [.int i, .int j] ∧ Q (.int (if j < i then j else i)) H
theorem cr_max2 (hc : X.calm = true) : CallR X (.builtin "max") rMax2 := call_max2 hc
theorem cr_min2 (hc : X.calm = true) : CallR X (.builtin "min") rMin2 := call_min2 hc
theorem g_max2 (q : Q (.int (max i j)) H) : rMax2 [.int i, .int j] H Q := ⟨i, j, rfl, by
  have e : (if j > i then j else i) = max i j := by
    rw [Int.max_def]
    split <;> split <;> omega
  rw [e]
  exact q⟩
theorem g_min2 (q : Q (.int (min i j)) H) : rMin2 [.int i, .int j] H Q := ⟨i, j, rfl, by
  have e : (if j < i then j else i) = min i j := by
    rw [Int.min_def]
    split <;> split <;> omega
  rw [e]
  exact q⟩
/-! sums, tests of lists -/
theorem g_sum {ns : List Int} (h : H p = some (.lst (ns.map V.int))) (q : Q (.int ns.sum) H) : rSum K [.ref p] H Q := ⟨p, ns, rfl, SqL.of h, q⟩
theorem g_all {bs : List Bool} (h : H p = some (.lst (bs.map V.bl))) (q : Q (.bl (bs.all id)) H) : rAll K [.ref p] H Q := ⟨p, bs, rfl, SqL.of h, q⟩
theorem g_any {bs : List Bool} (h : H p = some (.lst (bs.map V.bl))) (q : Q (.bl (bs.any id)) H) : rAny K [.ref p] H Q := ⟨p, bs, rfl, SqL.of h, q⟩
theorem g_sortedI {ns : List Int} (h : H p = some (.lst (ns.map V.int))) (hl : ns.length < 64) (q : ∀ (ns' : List Int) p' H2, ns'.Perm ns → ns'.Pairwise (· ≤ ·) → H p' = none → Step [] H H2 → H2 p' = some (.lst (ns'.map V.int)) → Q (.ref p') H2) : rSorted K [.ref p] H Q :=
  ⟨p, ns, rfl, SqL.of h, hl, fun ns' p' e1 e2 e3 => q ns' p' _ e1 e2 e3 (Step.new e3) upd_same⟩
theorem g_sortedS {ss : List Str} (h : H p = some (.lst (ss.map V.str))) (hl : ss.length < 64) (q : ∀ (ys : List Str) p' H2, ys.Perm ss → sortedS ys = true → H p' = none → Step [] H H2 → H2 p' = some (.lst (ys.map V.str)) → Q (.ref p') H2) : rSortedS K [.ref p] H Q :=
  ⟨p, ss, rfl, SqL.of h, hl, fun ns' p' e1 e2 e3 => q ns' p' _ e1 e2 e3 (Step.new e3) upd_same⟩
/-- sorted of a dict of numbers -/
def rSortedDI : List V → Hp → VK → Prop := fun xs H Q => ∃ (a : Addr) (kvs : List (Key × V)) (ks : List Int), xs = [.ref a] ∧ Rd H a (.dK kvs) ∧ kvs.map (·.1) = ks.map Sum.inl ∧ ks.length < 64 ∧ ∀ (ys : List Int) (p : Addr), ys.Perm ks → ys.Pairwise (· ≤ ·) → H p = none → Q (.ref p) (upd H p (.lst (ys.map V.int)))
theorem cr_sortedDI (hc : X.calm = true) : CallR X (.builtin "sorted") rSortedDI := call_sortedDI hc
theorem g_sortedDI {kvs : List (Key × V)} {ks : List Int} (h : Rd H p (.dK kvs)) (e : kvs.map (·.1) = ks.map Sum.inl) (hl : ks.length < 64) (q : ∀ (ns' : List Int) p' H2, ns'.Perm ks → ns'.Pairwise (· ≤ ·) → H p' = none → Step [] H H2 → H2 p' = some (.lst (ns'.map V.int)) → Q (.ref p') H2) : rSortedDI [.ref p] H Q :=
  ⟨p, kvs, ks, rfl, h, e, hl, fun ns' p' e1 e2 e3 => q ns' p' _ e1 e2 e3 (Step.new e3) upd_same⟩
/-! list(..) -/
def rListL (K : PySem.W.Frag) : List V → Hp → VK → Prop := fun xs H Q => ∃ p ys, xs = [.ref p] ∧ (SqL K H p ys ∨ SqT K H p ys) ∧ ∀ l, H l = none → Q (.ref l) (upd H l (.lst ys))
theorem cr_listL : CallR X (.type "list") (rListL X.K) := call_list_of
theorem g_listL (h : H p = some (.lst xs)) (q : ∀ l H2, H l = none → Step [] H H2 → H2 l = some (.lst xs) → Q (.ref l) H2) : rListL K [.ref p] H Q := ⟨p, xs, rfl, .inl (SqL.of h), fun l hl => q l _ hl (Step.new hl) upd_same⟩
theorem g_listT (h : H p = some (.tup xs)) (q : ∀ l H2, H l = none → Step [] H H2 → H2 l = some (.lst xs) → Q (.ref l) H2) : rListL K [.ref p] H Q := ⟨p, xs, rfl, .inr (SqT.of h), fun l hl => q l _ hl (Step.new hl) upd_same⟩
def rListDi : List V → Hp → VK → Prop := fun xs H Q => ∃ (a : Addr) (kvs : List (Key × V)), xs = [.ref a] ∧ Rd H a (.dK kvs) ∧ ∀ p, H p = none → Q (.ref p) (upd H p (.lst (kvs.map fun kv => kV kv.1)))
theorem cr_listDi (hc : X.calm = true) : CallR X (.type "list") rListDi := call_listD hc
theorem g_listDi {kvs : List (Key × V)} (h : Rd H p (.dK kvs)) (q : ∀ l H2, H l = none → Step [] H H2 → H2 l = some (.lst (kvs.map fun kv => kV kv.1)) → Q (.ref l) H2) : rListDi [.ref p] H Q := ⟨p, kvs, rfl, h, fun l hl => q l _ hl (Step.new hl) upd_same⟩
/-! join -/
def rJoin (K : PySem.W.Frag) : V → List V → Hp → VK → Prop := fun x xs H Q => ∃ a p, ∃ ys : List Str, x = .str a ∧ xs = [.ref p] ∧ (SqL K H p (ys.map V.str) ∨ SqT K H p (ys.map V.str)) ∧ (ys.map (·.length)).sum + ys.length * a.length ≤ 16777216 ∧ Q (.str (Txt.join a ys)) H
theorem mt_joinR : MtR X "str.join" (rJoin X.K) := mt_join
theorem g_join {z : Str} {ss : List Str} (h : H p = some (.lst (ss.map V.str))) (hl : (ss.map (·.length)).sum + ss.length * z.length ≤ 16777216) (q : Q (.str (Txt.join z ss)) H) : rJoin K (.str z) [.ref p] H Q := ⟨z, p, ss, rfl, rfl, .inl (SqL.of h), hl, q⟩
end
section
variable {X : Cx} {o e : Expr} {apos pos : Pos} {to te : TE}
theorem pe_joinR (ho : PE X o to) (he : PE X e te) (hs : starEach [e] X.env = [(false, eval e X.env)] := by rfl) (hbase : attributeBase o "join" X.env (eval o X.env) = eval o X.env := by rfl) (hline : (apos.endLine == pos.line) = true := by rfl) : PE X (.Call (.Attribute o "join" apos) [e] [] pos) (tM1 (rJoin X.K) to te) := pe_join ho he hs hbase hline
end
/-! words between: what follows is shown once -/
section
variable {X : Cx} {st : Stmt} {rest : List Stmt} {t u : TS} {e : Expr} {te : TE} {tt : TT} {σ : L2.St} {H : Hp} {Q : VK} {QT : Bool → Hp → Prop} {nx bk ct : L2.St → Hp → Prop} {rt : VK}
def tCutM (t u : TS) : TS := fun D σ H => ∃ Mid : L2.St → Hp → Prop, t ⟨Mid, D.rt, D.bk, D.ct⟩ σ H ∧ ∀ σ' H', Mid σ' H' → u D σ' H'
theorem pss_cutM (h1 : PS X st t) (h2 : PSs X rest u) : PSs X (st :: rest) (tCutM t u) := by
  refine ⟨fun pins s σ H D I h => ?_⟩
  obtain ⟨Mid, hm, hu⟩ := h
  refine wpAny_execs_cons (thn (h1.run pins s σ H ⟨Mid, D.rt, D.bk, D.ct⟩ I hm) fun f s1 q => ?_)
  cases f with
  | next =>
    obtain ⟨σ', H', I', q⟩ := q
    exact h2.run pins s1 σ' H' D I' (hu σ' H' q)
  | ret v => exact q
  | brk => exact q
  | cont => exact q
theorem g_cut (Mid : L2.St → Hp → Prop) (h1 : t ⟨Mid, rt, bk, ct⟩ σ H) (h2 : ∀ σ' H', Mid σ' H' → u ⟨nx, rt, bk, ct⟩ σ' H') : tCutM t u ⟨nx, rt, bk, ct⟩ σ H := ⟨Mid, h1, h2⟩
def tTCut (tt : TT) : TT := fun σ H Q => ∃ Mid : Bool → Hp → Prop, tt σ H Mid ∧ ∀ b H', Mid b H' → Q b H'
theorem pt_cut (h : PT X e tt) : PT X e (tTCut tt) := by
  refine ⟨fun pins s σ H Q I hq => ?_⟩
  obtain ⟨Mid, hm, hu⟩ := hq
  exact thn (h.run pins s σ H Mid I hm) fun b s1 ⟨H1, I1, q⟩ => ⟨H1, I1, hu b H1 q⟩
theorem g_tcut (Mid : Bool → Hp → Prop) (h1 : tt σ H Mid) (h2 : ∀ b H', Mid b H' → QT b H') : tTCut tt σ H QT := ⟨Mid, h1, h2⟩
def tECut (te : TE) : TE := fun σ H Q => ∃ Mid : V → Hp → Prop, te σ H Mid ∧ ∀ b H', Mid b H' → Q b H'
theorem pe_cut (h : PE X e te) : PE X e (tECut te) := by
  refine ⟨fun pins s σ H Q I hq => ?_⟩
  obtain ⟨Mid, hm, hu⟩ := hq
  exact thn (h.run pins s σ H Mid I hm) fun b s1 ⟨v, H1, I1, r, q⟩ => ⟨v, H1, I1, r, hu v H1 q⟩
theorem g_ecut (Mid : V → Hp → Prop) (h1 : te σ H Mid) (h2 : ∀ b H', Mid b H' → Q b H') : tECut te σ H Q := ⟨Mid, h1, h2⟩
def rAddS : R2 := fun x y H Q => ∃ i j, x = .str i ∧ y = .str j ∧ i.length + j.length ≤ sizeLine ∧ Q (.str (i ++ j)) H
theorem op_addS : OpR X (binaryOp .Add) rAddS := op_add_str
theorem g_addS {a b : Str} (hl : a.length + b.length ≤ sizeLine) (q : Q (.str (a ++ b)) H) : rAddS (.str a) (.str b) H Q := ⟨a, b, rfl, rfl, hl, q⟩
/-! == of data -/
theorem g_eqD {K : PySem.W.Frag} {x y : V} {d e : PyData} (h1 : Dp K H x d) (h2 : Dp K H y e) (s1 : SeqAt.shaped d = true) (s2 : SeqAt.shaped e = true) (q : Q (.bl (PyData.eqv d e)) H) : rEqD K x y H Q := ⟨d, e, h1, h2, s1, s2, q⟩
theorem g_neD {K : PySem.W.Frag} {x y : V} {d e : PyData} (h1 : Dp K H x d) (h2 : Dp K H y e) (s1 : SeqAt.shaped d = true) (s2 : SeqAt.shaped e = true) (q : Q (.bl (!PyData.eqv d e)) H) : rNeD K x y H Q := ⟨d, e, h1, h2, s1, s2, q⟩
end
/-! within a comprehension's block: the written part named outright -/
section
variable {X : Cx} {K : PySem.W.Frag} {e : Expr}
theorem kIx {r : PySem.W.Frag → R2} (h : IxR X (r X.K)) (hK : X.K = K := by rfl) : IxR X (r K) := by subst hK; exact h
theorem kSl {r : PySem.W.Frag → V → Option Int → Option Int → Hp → VK → Prop} (h : SlR X (r X.K)) (hK : X.K = K := by rfl) : SlR X (r K) := by subst hK; exact h
theorem kOp {f : Value → Value → Sem Value} {r : PySem.W.Frag → R2} (h : OpR X f (r X.K)) (hK : X.K = K := by rfl) : OpR X f (r K) := by subst hK; exact h
theorem kIn {f : Value → Value → Sem Value} {b : Bool} (h : OpR X f (rIn X.K b)) (hK : X.K = K := by rfl) : OpR X f (rIn K b) := by subst hK; exact h
theorem kCall {f : Value} {r : PySem.W.Frag → List V → Hp → VK → Prop} (h : CallR X f (r X.K)) (hK : X.K = K := by rfl) : CallR X f (r K) := by subst hK; exact h
theorem pe_bmK {T : String} {r : V → List V → Hp → VK → Prop} {to : TE} {t : TA} (h : PE X e (tBM X.K T r to t)) (hK : X.K = K := by rfl) : PE X e (tBM K T r to t) := by subst hK; exact h
theorem pe_bm0K {T : String} {r : V → List V → Hp → VK → Prop} {to : TE} (h : PE X e (tBM0 X.K T r to)) (hK : X.K = K := by rfl) : PE X e (tBM0 K T r to) := by subst hK; exact h
theorem pe_fldK {ta : TE} {f : Str} (h : PE X e (tFld X.K ta f)) (hK : X.K = K := by rfl) : PE X e (tFld K ta f) := by subst hK; exact h
theorem pi_listK {tg : Expr} {tl : TE} (h : PI X tg e (iList X.K tl)) (hK : X.K = K := by rfl) : PI X tg e (iList K tl) := by subst hK; exact h
end
/-! d.get(k, x) -/
section
variable {σ : L2.St} {H : Hp} {Q : VK} {td ty tx : TE} {p : Addr} {kvs : List (Key × V)} {i : Int} {z : V}
def kDG2b (Q : VK) (a : Addr) (y : V) : VK := fun z H3 => ∃ o, DGet H3 a y o ∧ Q (o.getD z) H3
def kDG2 (ty tx : TE) (σ : L2.St) (Q : VK) : VK := fun x H1 => ∃ a, x = .ref a ∧ IsD H1 a ∧ ty σ H1 fun y H2 => tx σ H2 (kDG2b Q a y)
theorem g_dget2 (h : td σ H (kDG2 ty tx σ Q)) : tDGet2 td ty tx σ H Q := h
theorem g_kDG2 (h : Rd H p (.dK kvs)) (q : ty σ H (fun y H2 => tx σ H2 (kDG2b Q p y))) : kDG2 ty tx σ Q (.ref p) H := ⟨p, rfl, .inl ⟨kvs, h⟩, q⟩
theorem g_kDG2b (h : Rd H p (.dK kvs)) (q : Q ((valV kvs (Sum.inl i)).getD z) H) : kDG2b Q p (.int i) z H := ⟨_, .inl ⟨kvs, Sum.inl i, h, rfl, rfl⟩, q⟩
theorem g_kDG2bS {s : Str} (h : Rd H p (.dK kvs)) (q : Q ((valV kvs (Sum.inr s)).getD z) H) : kDG2b Q p (.str s) z H := ⟨_, .inl ⟨kvs, Sum.inr s, h, rfl, rfl⟩, q⟩
def kDG1 (Q : VK) (a : Addr) : VK := fun y H2 => ∃ o, DGet H2 a y o ∧ Q (o.getD .non) H2
def kDG1a (ty : TE) (σ : L2.St) (Q : VK) : VK := fun x H1 => ∃ a, x = .ref a ∧ IsD H1 a ∧ ty σ H1 (kDG1 Q a)
theorem g_dget1 (h : td σ H (kDG1a ty σ Q)) : tDGet1 td ty σ H Q := h
theorem g_kDG1a (h : Rd H p (.dK kvs)) (q : ty σ H (kDG1 Q p)) : kDG1a ty σ Q (.ref p) H := ⟨p, rfl, .inl ⟨kvs, h⟩, q⟩
theorem g_kDG1 (h : Rd H p (.dK kvs)) (q : Q ((valV kvs (Sum.inl i)).getD .non) H) : kDG1 Q p (.int i) H := ⟨_, .inl ⟨kvs, Sum.inl i, h, rfl, rfl⟩, q⟩
end
end My
/-! Kit5: == of data, of dicts of data. -/
namespace My
open PySem PySem.Spec PyProof.Rows L2
/-! ### codecs: how a value reads as plain data -/
structure Cod {α : Type} (K : PySem.W.Frag) (r : Rp α) where
  enc : α → PyData
  ok : α → Prop
  lay : ∀ x, ok x → (enc x).canLay0 = true
  dep : Nat
  hdep : ∀ x, (enc x).depth ≤ dep
  eqv : ∀ x y, PyData.eqv (enc x) (enc y) = true ↔ x = y
  dp : ∀ H v x, r H v x → Dp K H v (enc x)
def StrOk (z : Str) : Prop := PyData.strOk z = true
theorem strOk_low {z : Str} (h : ∀ c ∈ cs z, c < 1114112) : StrOk z := by
  unfold StrOk PyData.strOk
  rw [← Array.all_toList, List.all_eq_true]
  intro c hc
  exact decide_eq_true (h c hc)
theorem IsNm.ok {z : Str} (h : IsNm z) : StrOk z := strOk_low fun c hc => by
  have := h.low c hc
  unfold isLow at this
  omega
theorem eqvAll_iff {α : Type} {f : α → PyData} (he : ∀ x y, PyData.eqv (f x) (f y) = true ↔ x = y) : ∀ xs ys : List α, PyData.eqvAll (xs.map f) (ys.map f) = true ↔ xs = ys
  | [], [] => by simp [PyData.eqvAll]
  | [], _ :: _ => by simp [PyData.eqvAll]
  | _ :: _, [] => by simp [PyData.eqvAll]
  | x :: xs, y :: ys => by
    simp only [List.map_cons, PyData.eqvAll, Bool.and_eq_true, he x y, eqvAll_iff he xs ys, List.cons.injEq]
theorem layAll {α : Type} {f : α → PyData} : ∀ {xs : List α}, (∀ x ∈ xs, (f x).canLay0 = true) → PyData.canLayAll0 (xs.map f) = true
  | [], _ => by simp [PyData.canLayAll0]
  | x :: xs, h => by
    simp only [List.map_cons, PyData.canLayAll0, Bool.and_eq_true]
    exact ⟨h x (List.mem_cons_self ..), layAll fun y hy => h y (List.mem_cons_of_mem _ hy)⟩
theorem depAll {α : Type} {f : α → PyData} {d : Nat} (h : ∀ x, (f x).depth ≤ d) : ∀ xs : List α, PyData.depthAll (xs.map f) ≤ d
  | [] => by simp [PyData.depthAll]
  | x :: xs => by
    simp only [List.map_cons, PyData.depthAll]
    exact Nat.max_le.mpr ⟨h x, depAll h xs⟩
theorem dpAll {α : Type} {K : PySem.W.Frag} {H : Hp} {f : α → PyData} {r : V → α → Prop} (h : ∀ v x, r v x → Dp K H v (f x)) : ∀ {vs : List V} {xs : List α}, Paired r vs xs → DpAll K H vs (xs.map f)
  | _, _, .nil => .nil
  | _, _, .cons a t => .cons (h _ _ a) (dpAll h t)
section
variable {K : PySem.W.Frag} {α β γ δ : Type} {r : Rp α} {q : Rp β} {s : Rp γ} {t : Rp δ}
def cI : Cod K rI := ⟨.int, fun _ => True, fun _ _ => by simp [PyData.canLay0], 0, fun _ => by simp [PyData.depth], fun x y => by simp [PyData.eqv], fun _ _ _ h => by rw [show _ = V.int _ from h]; exact .int _⟩
def cB : Cod K rB := ⟨.bool, fun _ => True, fun _ _ => by simp [PyData.canLay0], 0, fun _ => by simp [PyData.depth], fun x y => by simp [PyData.eqv], fun _ _ _ h => by rw [show _ = V.bl _ from h]; exact .bl _⟩
def cS : Cod K rS := ⟨.str, StrOk, fun _ h => by simpa [PyData.canLay0, StrOk] using h, 0, fun _ => by simp [PyData.depth], fun x y => by simp [PyData.eqv], fun _ _ _ h => by rw [show _ = V.str _ from h]; exact .str _⟩
def encO {α : Type} (f : α → PyData) : Option α → PyData
  | none => .none
  | some x => f x
def cOS : Cod K rOS := ⟨encO .str, fun o => ∀ x, o = some x → StrOk x, fun o h => by
  cases o with
  | none => simp [encO, PyData.canLay0]
  | some x => simpa [encO, PyData.canLay0, StrOk] using h x rfl, 0, fun o => by cases o <;> simp [encO, PyData.depth], fun x y => by cases x <;> cases y <;> simp [encO, PyData.eqv], fun _ v o h => by
  cases o with
  | none => rw [show v = V.non from h]; exact .non
  | some x => rw [show v = V.str x from h]; exact .str _⟩
def cL (c : Cod K r) : Cod K (rL r) := ⟨fun xs => .list (xs.map c.enc), fun xs => ∀ x ∈ xs, c.ok x, fun xs h => by
  simp only [PyData.canLay0]
  exact layAll fun x hx => c.lay x (h x hx), c.dep + 1, fun xs => by
  simp only [PyData.depth]
  exact Nat.succ_le_succ (depAll c.hdep xs), fun x y => by
  simp only [PyData.eqv]
  exact eqvAll_iff c.eqv x y, fun H v x h => by
  obtain ⟨a, vs, rfl, h1, h2⟩ := h
  exact .lst (SqL.of h1) (dpAll (c.dp H) h2)⟩
def cP2 (c : Cod K r) (d : Cod K q) : Cod K (rP2 r q) := ⟨fun x => .tuple [c.enc x.1, d.enc x.2], fun x => c.ok x.1 ∧ d.ok x.2, fun x h => by
  simp [PyData.canLay0, PyData.canLayAll0, c.lay _ h.1, d.lay _ h.2], max c.dep d.dep + 1, fun x => by
  have h1 := c.hdep x.1
  have h2 := d.hdep x.2
  simp only [PyData.depth, PyData.depthAll]
  omega, fun x y => by
  obtain ⟨x1, x2⟩ := x
  obtain ⟨y1, y2⟩ := y
  simp [PyData.eqv, PyData.eqvAll, c.eqv, d.eqv], fun H v x h => by
  obtain ⟨a, u, w, rfl, h1, h2, h3⟩ := h
  exact .tup (SqT.of h1) (.cons (c.dp _ _ _ h2) (.cons (d.dp _ _ _ h3) .nil))⟩
def cP3 (c : Cod K r) (d : Cod K q) (e : Cod K s) : Cod K (rP3 r q s) := ⟨fun x => .tuple [c.enc x.1, d.enc x.2.1, e.enc x.2.2], fun x => c.ok x.1 ∧ d.ok x.2.1 ∧ e.ok x.2.2, fun x h => by
  simp [PyData.canLay0, PyData.canLayAll0, c.lay _ h.1, d.lay _ h.2.1, e.lay _ h.2.2], max (max c.dep d.dep) e.dep + 1, fun x => by
  have h1 := c.hdep x.1
  have h2 := d.hdep x.2.1
  have h3 := e.hdep x.2.2
  simp only [PyData.depth, PyData.depthAll]
  omega, fun x y => by
  obtain ⟨x1, x2, x3⟩ := x
  obtain ⟨y1, y2, y3⟩ := y
  simp [PyData.eqv, PyData.eqvAll, c.eqv, d.eqv, e.eqv], fun H v x h => by
  obtain ⟨a, u, w, z, rfl, h1, h2, h3, h4⟩ := h
  exact .tup (SqT.of h1) (.cons (c.dp _ _ _ h2) (.cons (d.dp _ _ _ h3) (.cons (e.dp _ _ _ h4) .nil)))⟩
def cP4 (c : Cod K r) (d : Cod K q) (e : Cod K s) (f : Cod K t) : Cod K (rP4 r q s t) := ⟨fun x => .tuple [c.enc x.1, d.enc x.2.1, e.enc x.2.2.1, f.enc x.2.2.2], fun x => c.ok x.1 ∧ d.ok x.2.1 ∧ e.ok x.2.2.1 ∧ f.ok x.2.2.2, fun x h => by
  simp [PyData.canLay0, PyData.canLayAll0, c.lay _ h.1, d.lay _ h.2.1, e.lay _ h.2.2.1, f.lay _ h.2.2.2], max (max c.dep d.dep) (max e.dep f.dep) + 1, fun x => by
  have h1 := c.hdep x.1
  have h2 := d.hdep x.2.1
  have h3 := e.hdep x.2.2.1
  have h4 := f.hdep x.2.2.2
  simp only [PyData.depth, PyData.depthAll]
  omega, fun x y => by
  obtain ⟨x1, x2, x3, x4⟩ := x
  obtain ⟨y1, y2, y3, y4⟩ := y
  simp [PyData.eqv, PyData.eqvAll, c.eqv, d.eqv, e.eqv, f.eqv], fun H v x h => by
  obtain ⟨a, u, w, z, y, rfl, h1, h2, h3, h4, h5⟩ := h
  exact .tup (SqT.of h1) (.cons (c.dp _ _ _ h2) (.cons (d.dp _ _ _ h3) (.cons (e.dp _ _ _ h4) (.cons (f.dp _ _ _ h5) .nil))))⟩
theorem Cod.shaped (c : Cod K r) {x : α} (h : c.ok x) (hd : c.dep ≤ 64 := by exact Nat.le_of_ble_eq_true rfl) : SeqAt.shaped (c.enc x) = true := by
  unfold SeqAt.shaped
  rw [Bool.and_eq_true]
  exact ⟨c.lay x h, decide_eq_true (Nat.le_trans (c.hdep x) hd)⟩
theorem Cod.dec (c : Cod K r) [DecidableEq α] (x y : α) : PyData.eqv (c.enc x) (c.enc y) = decide (x = y) := by
  have := c.eqv x y
  by_cases h : x = y
  · rw [this.mpr h, decide_eq_true h]
  · rw [decide_eq_false h]
    cases e : PyData.eqv (c.enc x) (c.enc y) with
    | false => rfl
    | true => exact absurd (this.mp e) h
/-- x == y, x != y of data with one codec -/
theorem g_eqC [DecidableEq α] {H : Hp} {Q : VK} {u v : V} {x y : α} (c : Cod K r) (h1 : r H u x) (h2 : r H v y) (o1 : c.ok x) (o2 : c.ok y) (q : Q (.bl (decide (x = y))) H) (hd : c.dep ≤ 64 := by exact Nat.le_of_ble_eq_true rfl) : rEqD K u v H Q :=
  g_eqD (c.dp _ _ _ h1) (c.dp _ _ _ h2) (c.shaped o1 hd) (c.shaped o2 hd) (by rw [c.dec]; exact q)
theorem g_neC [DecidableEq α] {H : Hp} {Q : VK} {u v : V} {x y : α} (c : Cod K r) (h1 : r H u x) (h2 : r H v y) (o1 : c.ok x) (o2 : c.ok y) (q : Q (.bl (!decide (x = y))) H) (hd : c.dep ≤ 64 := by exact Nat.le_of_ble_eq_true rfl) : rNeD K u v H Q :=
  g_neD (c.dp _ _ _ h1) (c.dp _ _ _ h2) (c.shaped o1 hd) (c.shaped o2 hd) (by rw [c.dec]; exact q)
end
/-! ### == of two dicts whose values are data -/
section
variable {X : Cx}
/-- e: whether the values under a key are alike -/
def DDat (K : PySem.W.Frag) (H : Hp) (x y : V) (ks ls : List (Key × V)) (e : Key → Bool) : Prop := ∃ a b, x = .ref a ∧ y = .ref b ∧ H a = some (.dK ks) ∧ H b = some (.dK ls) ∧
  ∀ k v u, (k, v) ∈ ks → valV ls k = some u → ∃ d d', Dp K H v d ∧ Dp K H u d' ∧ SeqAt.shaped d = true ∧ SeqAt.shaped d' = true ∧ PyData.eqv d d' = e k
def rEqDD (K : PySem.W.Frag) : R2 := fun x y H Q => ∃ ks ls e, DDat K H x y ks ls e ∧ Q (.bl (ks.length == ls.length && ks.all fun p => (valV ls p.1).isSome && e p.1)) H
def rNeDD (K : PySem.W.Frag) : R2 := fun x y H Q => ∃ ks ls e, DDat K H x y ks ls e ∧ Q (.bl (!(ks.length == ls.length && ks.all fun p => (valV ls p.1).isSome && e p.1))) H
theorem P_mem2 {α β : Type} {F : α → β → Prop} : ∀ {l1 : List α} {l2 : List β} {y : β}, Paired F l1 l2 → y ∈ l2 → ∃ x, x ∈ l1 ∧ F x y
  | _, _, _, .nil, h => by cases h
  | _, _, _, .cons r t, h => by
    rcases List.mem_cons.mp h with rfl | h
    · exact ⟨_, List.mem_cons_self .., r⟩
    · obtain ⟨x, h1, h2⟩ := P_mem2 t h
      exact ⟨x, List.mem_cons_of_mem _ h1, h2⟩
theorem P_mem1 {α β : Type} {F : α → β → Prop} : ∀ {l1 : List α} {l2 : List β} {x : α}, Paired F l1 l2 → x ∈ l1 → ∃ y, y ∈ l2 ∧ F x y
  | _, _, _, .nil, h => by cases h
  | _, _, _, .cons r t, h => by
    rcases List.mem_cons.mp h with rfl | h
    · exact ⟨_, List.mem_cons_self .., r⟩
    · obtain ⟨x, h1, h2⟩ := P_mem1 t h
      exact ⟨x, List.mem_cons_of_mem _ h1, h2⟩
theorem dd_all {ls : List (Key × V)} {vb : List (Key × Value)} {e : Key → Bool} (rb : KV ls vb) : ∀ {ks : List (Key × V)} {va : List (Key × Value)}, KV ks va → (va.all fun p => (valueAt vb p.1).isSome && e p.1) = (ks.all fun p => (valV ls p.1).isSome && e p.1)
  | _, _, .nil => rfl
  | (k, v) :: ks, (k', u) :: va, .cons h t => by
    obtain ⟨h1, _⟩ := h
    have h1 : k = k' := h1
    subst h1
    rw [List.all_cons, List.all_cons, dd_all rb t, (RelO.isSome_eq (rb.val k)).symm]
theorem dd_in {pins : List (Addr × Obj)} {σ : L2.St} {H : Hp} {s : Shared} {ks ls : List (Key × V)} {va vb : List (Key × Value)} {e : Key → Bool} (hu : X.A.in1.in1.units + 64 < cLine) (I : Inv X pins σ H s) (ra : KV ks va) (rb : KV ls vb)
    (hd : ∀ k v u, (k, v) ∈ ks → valV ls k = some u → ∃ d d', Dp X.K H v d ∧ Dp X.K H u d' ∧ SeqAt.shaped d = true ∧ SeqAt.shaped d' = true ∧ PyData.eqv d d' = e k) :
    ∀ k v y, (k, v) ∈ va → valueAt vb k = some y → SeqAt.EqIn X.prog X.w X.A.in1 s v y (e k) := by
  intro k v y hm hv
  obtain ⟨⟨k', v'⟩, hm', hk, hr⟩ := P_mem2 ra hm
  have hk : k' = k := hk
  subst hk
  have rr := rb.val k'
  rw [hv] at rr
  cases hu' : valV ls k' with
  | none => rw [hu'] at rr; exact (show False from rr).elim
  | some u =>
    rw [hu'] at rr
    have rr : RelV u y := rr
    obtain ⟨d, d', h1, h2, s1, s2, e1⟩ := hd k' v' u hm' hu'
    obtain ⟨as, r1⟩ := Dp.reads I d v' v h1 hr
    obtain ⟨bs, r2⟩ := Dp.reads I d' u y h2 rr
    have q := SeqAt.eqAt_reads d d' X.A.in1 s v y as bs r1 r2 (SeqAt.canLay_of_shaped s1) (SeqAt.canLay_of_shaped s2) (SeqAt.room_of_shaped s1 (by have : X.A.in1.in1.units = X.A.in1.units + 1 := rfl; omega))
    rw [e1] at q
    exact q.inModel X.prog X.w
theorem op_eqDD (hu : X.A.units + 64 + 2 < cLine) : OpR X (compareOp .Eq) (rEqDD X.K) := by
  intro pins s σ H x y v u Q I rx ry h
  obtain ⟨ks, ls, e, ⟨a, b, rfl, rfl, ea, eb, hd⟩, q⟩ := h
  obtain rfl : v = Value.ref a := rx
  obtain rfl : u = Value.ref b := ry
  obtain ⟨_, ya, va, ra, da⟩ := (show ObjOk X.prog X.w H s.heap a (.dK ks) from I.hok a _ ea)
  obtain ⟨_, yb, vb, rb, db⟩ := (show ObjOk X.prog X.w H s.heap b (.dK ls) from I.hok b _ eb)
  refine PySem.W.keq_eqIn (knd := mixKind X.prog X.w) ya yb da db (by omega) (fun _ => PySem.W.KeqHitsIn.of va (dd_in (by show X.A.units + 1 + 1 + 64 < cLine; omega) I ra rb hd)) ⟨.bl _, H, I, rfl, ?_⟩
  rw [dd_all rb ra, ← ra.length, ← rb.length]
  exact q
theorem keq_neIn {prog : Program} {w : World} {K : Type} [DecidableEq K] {knd : KeyKind prog w K} {A : Around} {E : Value → Shared → Prop} {s : Shared} {a b : Addr} {ka kb : List (K × Value)} {r : Bool} {Q : Value → Shared → Prop} (ha : (a == sysModules) = false) (hb : (b == sysModules) = false)
    (da : s.heap.DictOf knd a ka) (db : s.heap.DictOf knd b kb) (hu : A.units < cLine) (hits : ka.length = kb.length → PySem.W.KeqHitsIn prog w A.in1 s kb ka r) (h : Q (.bool (!(ka.length == kb.length && r))) s) :
    wpAny (model prog w) A (compareOp .NotEq (.ref a) (.ref b)) Q E s := by
  refine wpAny_richCompare_same_room (op := .NotEq) da.typeIs db.typeIs PySem.F.slot_dict_ne (wpAny_call_entry PySem.F.slot_dict_ne da.typeIs PySem.F.entry_dict_ne ?_ (PySem.F.args_dict_ne_2 _ _)) hu
  show wpAny _ _ (Builtin.Dict.dictSlotArgs "__ne__" ⟨[.ref a, .ref b], []⟩ >>= _) _ _ s
  refine wpAny_bind ?_
  unfold Builtin.Dict.dictSlotArgs
  refine wpAny_bind (wpAny_notOrdered_dict da.typeIs ?_)
  show wpAny _ _ (pure (Value.ref a, Value.ref b)) _ _ s
  refine wpAny_pure ?_
  refine wpAny_bind (wpAny_isInstance (T := "dict") db.typeIs PySem.F.sub_dict_dict ?_)
  simp only [Bool.not_true, Bool.false_eq_true, if_false]
  refine wpAny_bind (wpAny_pure (wpAny_bind (wpAny_pure ?_)))
  refine wpAny_bind (PySem.W.keq_samePairsIn ha hb da db hits ?_)
  refine wpAny_pure ⟨_, rfl, ?_, ?_⟩
  · exact fun x => nomatch x
  · simpa using h
theorem op_neDD (hu : X.A.units + 64 + 2 < cLine) : OpR X (compareOp .NotEq) (rNeDD X.K) := by
  intro pins s σ H x y v u Q I rx ry h
  obtain ⟨ks, ls, e, ⟨a, b, rfl, rfl, ea, eb, hd⟩, q⟩ := h
  obtain rfl : v = Value.ref a := rx
  obtain rfl : u = Value.ref b := ry
  obtain ⟨_, ya, va, ra, da⟩ := (show ObjOk X.prog X.w H s.heap a (.dK ks) from I.hok a _ ea)
  obtain ⟨_, yb, vb, rb, db⟩ := (show ObjOk X.prog X.w H s.heap b (.dK ls) from I.hok b _ eb)
  refine keq_neIn (knd := mixKind X.prog X.w) ya yb da db (by omega) (fun _ => PySem.W.KeqHitsIn.of va (dd_in (by show X.A.units + 1 + 1 + 64 < cLine; omega) I ra rb hd)) ⟨.bl _, H, I, rfl, ?_⟩
  rw [dd_all rb ra, ← ra.length, ← rb.length]
  exact q
theorem OpR.or {f : Value → Value → Sem Value} {r r' : R2} (h : OpR X f r) (h' : OpR X f r') : OpR X f (fun x y H Q => r x y H Q ∨ r' x y H Q) := by
  intro pins s σ H x y v u Q I rx ry hq
  rcases hq with hq | hq
  · exact h pins s σ H x y v u Q I rx ry hq
  · exact h' pins s σ H x y v u Q I rx ry hq
def rEqX (K : PySem.W.Frag) : R2 := fun x y H Q => rEqD K x y H Q ∨ rEqDD K x y H Q
def rNeX (K : PySem.W.Frag) : R2 := fun x y H Q => rNeD K x y H Q ∨ rNeDD K x y H Q
theorem op_eqX (hu : X.A.units + 64 + 2 < cLine) : OpR X (compareOp .Eq) (rEqX X.K) := OpR.or (op_eqD (by omega)) (op_eqDD hu)
theorem op_neX (hu : X.A.units + 64 + 2 < cLine) : OpR X (compareOp .NotEq) (rNeX X.K) := OpR.or (op_neD (by omega)) (op_neDD hu)
end
theorem nodup_map_of {α β : Type} {f : α → β} (hf : ∀ a b, f a = f b → a = b) : ∀ {l : List α}, l.Nodup → (l.map f).Nodup
  | [], _ => List.nodup_nil
  | a :: r, h => by
    obtain ⟨h1, h2⟩ := List.nodup_cons.mp h
    rw [List.map_cons]
    refine List.nodup_cons.mpr ⟨fun m => ?_, nodup_map_of hf h2⟩
    obtain ⟨b, hb, e⟩ := List.mem_map.mp m
    exact h1 (by rw [← hf _ _ e]; exact hb)
theorem valV_of_mem {κ : Type} [DecidableEq κ] : ∀ {kvs : List (κ × V)} {k : κ} {v : V}, (kvs.map (·.1)).Nodup → (k, v) ∈ kvs → valV kvs k = some v
  | [], _, _, _, h => by cases h
  | p :: r, k, v, hn, h => by
    rw [List.map_cons, List.nodup_cons] at hn
    rcases List.mem_cons.mp h with e | h
    · subst e; exact valV_pos rfl
    · rw [valV_neg fun z => hn.1 (List.mem_map.mpr ⟨(k, v), h, z.symm⟩)]
      exact valV_of_mem hn.2 h
/-! dicts of numbers to data -/
section
variable {K : PySem.W.Frag} {β : Type} {q : Rp β} {H : Hp}
def lookI (xs : List (Int × β)) (i : Int) : Option β := (xs.find? fun p => decide (p.1 = i)).map (·.2)
theorem lookI_nil {i : Int} : lookI ([] : List (Int × β)) i = none := rfl
theorem lookI_pos {p : Int × β} {r : List (Int × β)} {i : Int} (e : p.1 = i) : lookI (p :: r) i = some p.2 := by simp [lookI, List.find?_cons, e]
theorem lookI_neg {p : Int × β} {r : List (Int × β)} {i : Int} (e : ¬ p.1 = i) : lookI (p :: r) i = lookI r i := by simp [lookI, List.find?_cons, e]
theorem kvs_look : ∀ {kvs : List (Key × V)} {xs : List (Int × β)} {i : Int}, Paired (fun (p : Key × V) (x : Int × β) => p.1 = Sum.inl x.1 ∧ q H p.2 x.2) kvs xs → (valV kvs (Sum.inl i) = none ∧ lookI xs i = none) ∨ ∃ v x, valV kvs (Sum.inl i) = some v ∧ lookI xs i = some x ∧ q H v x
  | _, _, _, .nil => .inl ⟨rfl, rfl⟩
  | (k, v) :: kvs, (j, x) :: xs, i, .cons h t => by
    obtain ⟨h1, h2⟩ := h
    have h1 : k = Sum.inl j := h1
    subst h1
    by_cases e : j = i
    · subst e
      exact .inr ⟨v, x, valV_pos rfl, lookI_pos rfl, h2⟩
    · rw [valV_neg (show ¬ (Sum.inl j : Key) = Sum.inl i from fun z => e (Sum.inl.inj z)), lookI_neg e]
      exact kvs_look t
theorem kvs_keys : ∀ {kvs : List (Key × V)} {xs : List (Int × β)}, Paired (fun (p : Key × V) (x : Int × β) => p.1 = Sum.inl x.1 ∧ q H p.2 x.2) kvs xs → kvs.map (·.1) = (xs.map (·.1)).map Sum.inl
  | _, _, .nil => rfl
  | _, _, .cons h t => by rw [List.map_cons, List.map_cons, List.map_cons, h.1, kvs_keys t]
/-- two such dicts, said to be alike -/
theorem dd_same (c : Cod K q) [DecidableEq β] {u v : V} {xs : List (Int × β)} (h1 : rDI q H u xs) (h2 : rDI q H v xs) (hok : ∀ p ∈ xs, c.ok p.2) (hn : (xs.map (·.1)).Nodup) (hd : c.dep ≤ 64 := by exact Nat.le_of_ble_eq_true rfl) :
    ∃ ks ls, DDat K H u v ks ls (fun _ => true) ∧ (ks.length == ls.length && ks.all fun p => (valV ls p.1).isSome && true) = true := by
  obtain ⟨a, ks, rfl, ha, pa⟩ := h1
  obtain ⟨b, ls, rfl, hb, pb⟩ := h2
  refine ⟨ks, ls, ⟨a, b, rfl, rfl, ha, hb, fun k v u hm hl => ?_⟩, ?_⟩
  · obtain ⟨⟨i, x⟩, hx, hk, hv⟩ := P_mem1 pa hm
    have hk : k = Sum.inl i := hk
    subst hk
    rcases kvs_look (i := i) pb with ⟨e1, _⟩ | ⟨v', x', e1, e2, e3⟩
    · rw [e1] at hl; cases hl
    · rw [e1] at hl
      cases hl
      have ex : x' = x := by
        have : lookI xs i = some x := by
          clear e2 e1 pb pa hv hm hok
          induction xs with
          | nil => cases hx
          | cons p r ih =>
            rw [List.map_cons, List.nodup_cons] at hn
            rcases List.mem_cons.mp hx with e | hx
            · subst e; exact lookI_pos rfl
            · rw [lookI_neg fun z => hn.1 (List.mem_map.mpr ⟨(i, x), hx, z.symm⟩)]
              exact ih hn.2 hx
        rw [this] at e2
        exact (Option.some.inj e2).symm
      subst ex
      have o := hok _ hx
      exact ⟨c.enc x', c.enc x', c.dp _ _ _ hv, c.dp _ _ _ e3, c.shaped o hd, c.shaped o hd, (c.eqv _ _).mpr rfl⟩
  · rw [P_len pa, P_len pb, beq_self_eq_true, Bool.true_and, List.all_eq_true]
    intro p hp
    obtain ⟨⟨i, x⟩, hx, hk, hv⟩ := P_mem1 pa hp
    rw [hk]
    rcases kvs_look (i := i) pb with ⟨_, e2⟩ | ⟨v', x', e1, e2, e3⟩
    · exfalso
      clear hn hok pa pb ha hb hp hk hv
      induction xs with
      | nil => cases hx
      | cons p r ih =>
        by_cases z : p.1 = i
        · rw [lookI_pos z] at e2; cases e2
        · rw [lookI_neg z] at e2
          rcases List.mem_cons.mp hx with e | hx
          · exact z (by rw [← e])
          · exact ih hx e2
    · rw [e1]; rfl
theorem g_eqDD (c : Cod K q) [DecidableEq β] {Q : VK} {u v : V} {xs : List (Int × β)} (h1 : rDI q H u xs) (h2 : rDI q H v xs) (hok : ∀ p ∈ xs, c.ok p.2) (hn : (xs.map (·.1)).Nodup) (k : Q (.bl true) H) (hd : c.dep ≤ 64 := by exact Nat.le_of_ble_eq_true rfl) : rEqDD K u v H Q := by
  obtain ⟨ks, ls, D, e⟩ := dd_same c h1 h2 hok hn hd
  exact ⟨ks, ls, _, D, by rw [e]; exact k⟩
theorem g_neDD (c : Cod K q) [DecidableEq β] {Q : VK} {u v : V} {xs : List (Int × β)} (h1 : rDI q H u xs) (h2 : rDI q H v xs) (hok : ∀ p ∈ xs, c.ok p.2) (hn : (xs.map (·.1)).Nodup) (k : Q (.bl false) H) (hd : c.dep ≤ 64 := by exact Nat.le_of_ble_eq_true rfl) : rNeDD K u v H Q := by
  obtain ⟨ks, ls, D, e⟩ := dd_same c h1 h2 hok hn hd
  exact ⟨ks, ls, _, D, by rw [e]; exact k⟩
end
end My
/-! Kit6: own exceptions made, raised, caught. -/
namespace My
open PySem PySem.Spec PyProof.Rows L2
/-- __init__ of an own exception: self.f = f, one after the other -/
def spI (C : Addr) (fs : List Str) : Sp := fun vs H Q _ => ∃ (a : Addr) (ws : List V), vs = .ref a :: ws ∧ ws.length = fs.length ∧ H a = some (exo a C none) ∧
  ∀ dx H2, H dx = none → dx ≠ a → H2 a = some (exo a C (some dx)) → H2 dx = some (exd dx (fs.zip ws).reverse) → (∀ b, b ≠ a → b ≠ dx → H2 b = H b) → Q .non H2
/-- what is known of an own exception class -/
structure HasX (P : Program) (w : World) (K : PySem.W.Frag) (mg : Str → Option Value) (base : Heap) (x : Str) (fs : List Str) : Prop where
  ex : ∃ fd : FuncData, FnOk P w K mg base CX0 1 (He.ma K (He.ga K x) "__init__") fd ("self" :: fs) (spI (He.ga K x) fs) ∧ Binds K fd ("self" :: fs) []
  tx : ExcT K (He.ga K x) fs
  mg : mg x = some (.ref (He.ga K x))
section
variable {K : PySem.W.Frag} {σ : L2.St} {H : Hp} {C : Addr} {f f1 f2 f3 : Str} {to te : TE} {nx bk ct : L2.St → Hp → Prop} {rt : VK} {tr : TA}
def kOst (K : PySem.W.Frag) (f : Str) (nx : L2.St → Hp → Prop) (σ : L2.St) (y : V) : VK := fun x H2 => ∃ a C : Addr, x = .ref a ∧ OexC K C ∧ PySem.W.findIn K (.ref C) f = some none ∧
  ((H2 a = some (exo a C none) ∧ ∀ dx, H2 dx = none → dx ≠ a → nx σ (upd (upd H2 dx (exd dx [(f, y)])) a (exo a C (some dx)))) ∨
    ∃ (dx : Addr) (fs : List (Str × V)), H2 a = some (exo a C (some dx)) ∧ H2 dx = some (exd dx fs) ∧ fs.length ≤ 900 ∧ nx σ (upd H2 dx (exd dx ((f, y) :: fs))))
theorem g_ost (h : te σ H (fun y H1 => to σ H1 (kOst K f nx σ y))) : tOst K f to te ⟨nx, rt, bk, ct⟩ σ H := h
theorem g_kOst1 {y : V} {a : Addr} (T : OexC K C) (n : PySem.W.findIn K (.ref C) f = some none) (h : H a = some (exo a C none)) (q : ∀ dx H2, H dx = none → dx ≠ a → H2 a = some (exo a C (some dx)) → H2 dx = some (exd dx [(f, y)]) → (∀ b, b ≠ a → b ≠ dx → H2 b = H b) → nx σ H2) : kOst K f nx σ y (.ref a) H :=
  ⟨a, C, rfl, T, n, .inl ⟨h, fun dx hd hne => q dx _ hd hne upd_same (by rw [upd_ne hne, upd_same]) fun b h1 h2 => by rw [upd_ne h1, upd_ne h2]⟩⟩
theorem g_kOst2 {y : V} {a dx : Addr} {fs : List (Str × V)} (T : OexC K C) (n : PySem.W.findIn K (.ref C) f = some none) (h : H a = some (exo a C (some dx))) (hd : H dx = some (exd dx fs)) (hne : dx ≠ a) (hl : fs.length ≤ 900)
    (q : ∀ H2, H2 a = some (exo a C (some dx)) → H2 dx = some (exd dx ((f, y) :: fs)) → (∀ b, b ≠ dx → H2 b = H b) → nx σ H2) : kOst K f nx σ y (.ref a) H :=
  ⟨a, C, rfl, T, n, .inr ⟨dx, fs, h, hd, hl, q _ (by rw [upd_ne hne.symm]; exact h) upd_same fun b hb => upd_ne hb⟩⟩
/-- C(e, ..) that is raised -/
def kMkO (C : Addr) (fs : List Str) (Q : XK) : List V → Hp → Prop := fun vs H1 => vs.length ≤ 1000 ∧ ∀ a, H1 a = none → spI C fs (.ref a :: (vs ++ [])) (upd H1 a (exo a C none))
  (fun v H2 => v = .non ∧ ∃ (d : Addr) (fs : List (Str × V)), H2 a = some (exo a C (some d)) ∧ H2 d = some (exd d fs) ∧ H1 d = none ∧ Q (.ref C) (some d) (upd (del H2 a) d (.xd fs))) (fun _ _ _ => False)
theorem g_mkO {fs : List Str} {Q : XK} (h : tr σ H (kMkO C fs Q)) : tMkO C (spI C fs) [] tr σ H Q := h
theorem g_kMkO {fs : List Str} {Q : XK} {ws : List V} (hl : ws.length = fs.length) (h9 : ws.length ≤ 900) (q : ∀ d H2, H d = none → Step [] H H2 → H2 d = some (.xd (fs.zip ws).reverse) → Q (.ref C) (some d) H2) : kMkO C fs Q ws H := by
  refine ⟨by omega, fun a ha => ⟨a, ws, by rw [List.append_nil], hl, upd_same, fun dx H2 hdx hne e1 e2 e3 => ⟨rfl, dx, _, e1, e2, ?_, ?_⟩⟩⟩
  · rwa [upd_ne hne] at hdx
  · have hdx : H dx = none := by rwa [upd_ne hne] at hdx
    refine q dx _ hdx ⟨fun b o _ h => ?_, fun b h => ?_⟩ upd_same
    · have h1 := ne_of_none h ha
      have h2 := ne_of_none h hdx
      rw [upd_ne h2, del_ne h1, e3 b h1 h2, upd_ne h1]
      exact h
    · by_cases h2 : b = dx
      · rw [h2, upd_same] at h; cases h
      · rw [upd_ne h2] at h
        by_cases h1 : b = a
        · rw [h1]; exact ha
        · rwa [del_ne h1, e3 b h1 h2, upd_ne h1] at h
theorem g_callS {sp : Sp} {E : L2.St → XK} {Q : VK} (h : tr σ H (fun vs H1 => sp vs H1 Q (E σ))) : tCallS sp E tr σ H Q := h
/-- err.f -/
def kXf (a : Addr) (cls : Value) (d : Option Addr) (C : Addr) (f : Str) (Q : VK) : VK := fun x H1 => x = .ref a ∧ cls = .ref C ∧ ∃ (dd : Addr) (fs : List (Str × V)) (v : V), d = some dd ∧ H1 dd = some (.xd fs) ∧ fs.lookup f = some v ∧ Q v H1
theorem g_xf {a : Addr} {cls : Value} {d : Option Addr} {Q : VK} (h : te σ H (kXf a cls d C f Q)) : tXf a cls d C f te σ H Q := h
theorem g_kXf {a dd : Addr} {fs : List (Str × V)} {v : V} {Q : VK} (h : H dd = some (.xd fs)) (e : fs.lookup f = some v) (q : Q v H) : kXf a (.ref C) (some dd) C f Q (.ref a) H := ⟨rfl, rfl, dd, fs, v, rfl, h, e, q⟩
end
/-! name = {.. for ..} on one line, the name a local -/
section
variable {X : Cx}
theorem ps_setDc {i : Nat} {y : Str} {py : Pos} {kx vx tg iter : Expr} {ifs : List Expr} {scope : Scope} {own : List (Str × Nat)} {pos spos : Pos} {wi : TI} {g : TG} {tt : TT} {tk tv : TE} (hc : X.calm = true) (hN : X.N.Nodup) (hy : X.N[i]? = some y) (hyl : X.env.scope.names.lookup y = some .local)
    (hsw : swapsWith (.DictComp kx vx [⟨tg, iter, ifs, 0⟩] scope pos) (some (.Name y py)) spos.line X.env = pure true) (hi : PI X tg iter wi) (ok : BlkOk X.N X.env.scope scope own)
    (hg : ∀ (s : Shared) (H : Hp) (C : Addr) (cl : List (Str × Addr)) (fp : List Addr), PG (X.blk s H scope (compEnvC scope cl C X.env) fp) tg g) (ht : ∀ (s : Shared) (H : Hp) (C : Addr) (cl : List (Str × Addr)) (fp : List Addr), PTs (X.blk s H scope (compEnvC scope cl C X.env) fp) ifs tt)
    (hk : ∀ (s : Shared) (H : Hp) (C : Addr) (cl : List (Str × Addr)) (fp : List Addr), PE (X.blk s H scope (compEnvC scope cl C X.env) fp) kx tk)
    (he : ∀ (s : Shared) (H : Hp) (C : Addr) (cl : List (Str × Addr)) (fp : List Addr), PE (X.blk s H scope (compEnvC scope cl C X.env) fp) vx tv) (hs : ∀ x, foldedSetIterable iter X.env x = pure x := by intro _; rfl) :
    PS X (.Assign [.Name y py] (.DictComp kx vx [⟨tg, iter, ifs, 0⟩] scope pos) spos) (tAsg (tDc wi g tt tk tv (own.map (·.2))) (gName i)) := by
  refine ⟨fun pins s σ H D I h => ?_⟩
  rw [exec_Assign_Name_used _ _ _ _ hsw]
  refine wpAny_bind (wpAny_standAt (wpAny_bind ?_))
  show wpAny _ X.A (do let _ ← comprehension (.DictComp kx vx [⟨tg, iter, ifs, 0⟩] scope pos) scope X.env (firstIterPos [⟨tg, iter, ifs, 0⟩] pos) newDict false (eval iter X.env) (some (assign (.Name y py) X.env))) _ _ s
  have h : tDc wi g tt tk tv (own.map (·.2)) σ H (fun x H1 => gName i x σ H1 D.nx) := h
  refine wpAny_bind (thn (dc_core (Qf := fun _ s' => SP X pins D .next s') hc hN I hi ok hg ht hk he hs h fun L C s' m H' I' q hn f => ?_) fun _ s' hq => wpAny_pure (wpAny_pure hq))
  show wpAny _ _ (assign (.Name y py) X.env (.ref L)) _ _ _
  refine wpAny_assign_Name (store_ok2 (v := V.ref L) I' hN hy (.inl hyl) rfl (fun s2 I2 ⟨a, sb, ha⟩ => ?_) (.inr hyl))
  obtain ⟨f0, f1, f2, f3, f4, f5⟩ := f
  have haC : C ≠ a := by
    rcases ha with z | z
    · rw [z]; exact f1
    · exact fun e => f4 y a z e.symm
  refine ⟨m, hn.sameBut sb haC, fun h3 sb3 => ?_⟩
  exact ⟨_, H', I2.turned (t' := s2.toks) (fun b o hb e => (sb3.2 b hb).trans e) f0 f1 f3 f4 f5, q⟩
theorem sw_trueD {kx vx : Expr} {gs : List Comprehension} {scope : Scope} {pos py : Pos} {y : Str} {l : Nat} {env : Env} (hk : env.scope.kind = .function) (hy : env.scope.names.lookup y = some .local) (hl : (py.line == pos.line) = true)
    (ha : (scope.names.any fun (n, k) => n == y && (k == .local || k == .cell)) = false) : swapsWith (.DictComp kx vx gs scope pos) (some (.Name y py)) l env = pure true := by
  have ky : env.kindOf y = some .local := hy
  have hb : env.blockKind = .function := by unfold Env.blockKind; rw [hk]; rfl
  unfold swapsWith
  simp only [hb, ky, ha, Expr.pos, hl]
  rfl
end
theorem unit2 {k : Nat} {A : Around} (hr : Room k A) : A.units + 64 + 2 < cLine := by
  have := hr.un
  omega
end My
/-! Kit7: ranges as values, isinstance. -/
namespace My
open PySem PySem.Spec PyProof.Rows L2
section
variable {X : Cx} {K : PySem.W.Frag} {H : Hp} {Q : VK} {i j : Int} {p : Addr}
def rRngV : List V → Hp → VK → Prop := fun vs H Q => ∃ j, vs = [V.int j] ∧ ∀ p, H p = none → Q (.ref p) (upd H p (.rng 0 j))
theorem cr_rngV : CallR X (.type "range") rRngV := by
  intro pins s σ H vs us Q I r h
  obtain ⟨j, rfl, q⟩ := h
  obtain ⟨u1, rfl, ri⟩ := vals1 r
  obtain ⟨t, rfl⟩ := ri
  refine call_range_1 ⟨.ref s.heap.objs.size, upd H s.heap.objs.size (.rng 0 j), I.laid (t' := s.toks + 1 + 1) (fun b o e => Heap.get?_push_of_some _ e) (Nat.le_refl _) ?_, rfl, q _ (I.hok.fresh (Nat.le_refl _))⟩
  exact ⟨s.toks, t, s.toks + 1, Heap.get?_push_size _ rfl⟩
theorem g_rngV (q : ∀ p H2, H p = none → Step [] H H2 → H2 p = some (.rng 0 j) → Q (.ref p) H2) : rRngV [.int j] H Q := ⟨j, rfl, fun p hp => q p _ hp (Step.new hp) upd_same⟩
def rInRng (neg : Bool) : R2 := fun x y H Q => ∃ i a lo hi, x = V.int i ∧ y = V.ref a ∧ H a = some (.rng lo hi) ∧ Q (.bl (if neg then !decide (lo ≤ i ∧ i < hi) else decide (lo ≤ i ∧ i < hi))) H
theorem op_inRng : OpR X (compareOp .In) (rInRng false) := op_in_rng
theorem op_notInRng : OpR X (compareOp .NotIn) (rInRng true) := by
  intro pins s σ H x y v u Q I rx ry h
  obtain ⟨i, a, lo, hi, rfl, rfl, ha, q⟩ := h
  obtain ⟨k, rfl⟩ := rx
  obtain rfl : u = Value.ref a := ry
  obtain ⟨t1, t2, t3, ho⟩ := I.hok a _ ha
  show wpAny _ _ (do return Value.bool (!(← contains (Value.ref a) (Value.int i k)))) _ _ s
  refine wpAny_bind (wpAny_contains_slot (T := "range") ⟨_, ho, rfl⟩ F.slot_range_contains (call_meets F.slot_range_contains ⟨_, ho, rfl⟩ F.entry_range_contains (F.args_range_contains_2 _ _) (q_contains a lo hi i t1 t2 t3 k)
    ⟨ho, wpAny_truthy_bool (wpAny_pure ⟨.bl _, H, I, rfl, ?_⟩)⟩))
  rw [place1]
  exact q
theorem g_inRng {lo hi : Int} (h : H p = some (.rng lo hi)) (q : Q (.bl (decide (lo ≤ i ∧ i < hi))) H) : rInRng false (.int i) (.ref p) H Q := ⟨i, p, lo, hi, rfl, rfl, h, q⟩
theorem g_notInRng {lo hi : Int} (h : H p = some (.rng lo hi)) (q : Q (.bl (!decide (lo ≤ i ∧ i < hi))) H) : rInRng true (.int i) (.ref p) H Q := ⟨i, p, lo, hi, rfl, rfl, h, q⟩
/-! isinstance -/
theorem g_isi {x : V} {a b : String} {r : Bool} (ty : TyX K H x (.type a)) (e : kitB a b = some r := by decide +kernel) (q : Q (.bl r) H) : rIsi K [x, .ty b] H Q := ⟨x, _, _, _, r, rfl, .ty b, ty, kit_ty e, q⟩
theorem g_isiDD {kvs : List (Key × V)} (h : H p = some (.dK kvs)) (q : Q (.bl true) H) : rIsi K [.ref p, .ty "dict"] H Q := g_isi (.base (.dK h)) (by decide +kernel) q
theorem g_isiDT {kvs : List (Key × V)} (h : H p = some (.dK kvs)) (q : Q (.bl false) H) : rIsi K [.ref p, .ty "tuple"] H Q := g_isi (.base (.dK h)) (by decide +kernel) q
theorem g_isiTT {xs : List V} (h : H p = some (.tup xs)) (q : Q (.bl true) H) : rIsi K [.ref p, .ty "tuple"] H Q := g_isi (.base (.tup h)) (by decide +kernel) q
theorem g_isiTD {xs : List V} (h : H p = some (.tup xs)) (q : Q (.bl false) H) : rIsi K [.ref p, .ty "dict"] H Q := g_isi (.base (.tup h)) (by decide +kernel) q
end
end My
/-! Kit8: enumerate(zip(xs, ys)) of two lists. -/
namespace My
open PySem PySem.Spec PyProof.Rows L2
section
variable {prog : Program} {w : World} {A : Around} {E : Value → Shared → Prop} {s : Shared} {z TI TO i1 i2 l1 l2 e : Addr}
abbrev IsZ (h : Heap) (z TI TO : Addr) (f0 f1 : Value) : Prop := h.get? z = some { cls := .type "zip", dict := none, data := .fields #[f0, f1, .bool false, .ref TI, .ref TO], slots := #[] }
/-- the pair given out ahead is free: as at the first turn -/
theorem zip_free {k1 k2 : Nat} {xs ys : Array Value} {x y a b f0 f1 : Value} {Q : Value → Shared → Prop} (D : ZipApart z TI TO i1 i2 l1 l2)
    (fr : ∀ Q' : Bool → Shared → Prop, Q' true s → wpAny (model prog w) A (Builtin.SmallTypes.ownedTupleIsFree (.ref z)) Q' E s)
    (hz : IsZ s.heap z TI TO f0 f1) (hI : IsPair s.heap TI (.ref i1) (.ref i2)) (hO : IsPair s.heap TO a b) (g1 : s.heap.IsListIter i1 l1 k1) (g2 : s.heap.IsListIter i2 l2 k2)
    (m1 : s.heap.IsList l1 xs) (m2 : s.heap.IsList l2 ys) (ex : xs[k1]? = some x) (ey : ys[k2]? = some y)
    (q : ∀ h', IsZ h' z TI TO (rawInt s.heap.objs.size) (.bool false) → IsPair h' TO x y → h'.IsListIter i1 l1 (k1 + 1) → h'.IsListIter i2 l2 (k2 + 1) → IsPair h' s.heap.objs.size x y → h'.objs.size = s.heap.objs.size + 1 →
      (∀ c o, c ≠ z → c ≠ TO → c ≠ i1 → c ≠ i2 → s.heap.get? c = some o → h'.get? c = some o) → Q (.ref s.heap.objs.size) { s with heap := h' }) :
    wpAny (model prog w) A (Builtin.«zip.__next__» ⟨[.ref z], []⟩) (fun fin s' => ∃ v, fin = .done (.ret v) ∧ Q v s') E s := by
  show wpAny (model prog w) A (field (.ref z) 2 >>= _) _ E s
  refine wpAny_bind (wpAny_field hz rfl (x := .bool false) rfl ?_); show wpAny (model prog w) A (field (.ref z) 3 >>= _) _ E s
  refine wpAny_bind (wpAny_field hz rfl (x := .ref TI) rfl (wpAny_bind (wpAny_seqItems hI rfl ?_))); show wpAny (model prog w) A (Builtin.SmallTypes.ownedTupleIsFree (.ref z) >>= _) _ E s
  refine wpAny_bind (fr _ ?_); simp only [if_true]
  refine wpAny_bind (wpAny_rule (wpAny_bind (wpAny_field hz rfl (x := .ref TO) rfl (wpAny_bind (wpAny_setField_rec hz (by simp) fun ha za ka => ?_)))))
  replace za : IsZ ha z TI TO .ellipsis f1 := za
  refine wpAny_bind ?_; simp only [List.zipIdx_cons, List.zipIdx_nil, List.forIn_cons, List.forIn_nil]
  refine wpAny_bind (wpAny_bind (wpAny_onRaise ?_)); show wpAny (model prog w) A (Builtin.SmallTypes.nextOf (.ref i1) >>= _) _ _ _
  refine wpAny_bind (wpAny_nextOf_list_item (g1.extBut ka.extBut D.i1z) (m1.extBut ka.extBut D.l1z) ex fun hb g1b kb => wpAny_pure ?_)
  have Ob : IsPair hb TO a b := kb.extBut TO _ D.TOi1 (ka.extBut TO _ D.TOz hO)
  refine wpAny_bind (wpAny_seqItems Ob rfl (wpAny_bind (wpAny_updateSeq_pair Ob fun hc Oc kc => ?_)))
  replace Oc : IsPair hc TO x b := Oc
  refine wpAny_bind (wpAny_letGo (wpAny_pure (wpAny_bind (wpAny_bind (wpAny_onRaise ?_))))); show wpAny (model prog w) A (Builtin.SmallTypes.nextOf (.ref i2) >>= _) _ _ _
  refine wpAny_bind (wpAny_nextOf_list_item (((g2.extBut ka.extBut D.i2z).extBut kb.extBut D.i12.symm).extBut kc.extBut D.TOi2.symm) (((m2.extBut ka.extBut D.l2z).extBut kb.extBut D.l2i1).extBut kc.extBut D.l2TO) ey fun hd g2d kd => wpAny_pure ?_)
  have Od : IsPair hd TO x b := kd.extBut TO _ D.TOi2 Oc
  refine wpAny_bind (wpAny_seqItems Od rfl (wpAny_bind (wpAny_updateSeq_pair Od fun he Oe ke => ?_)))
  replace Oe : IsPair he TO x y := Oe
  refine wpAny_bind (wpAny_letGo (wpAny_pure (wpAny_pure (wpAny_bind (wpAny_seqItems Oe rfl (wpAny_bind (wpAny_newTuple ?_)))))))
  have sz : he.objs.size = s.heap.objs.size := by rw [ke.1, kd.1, kc.1, kb.1, ka.1]
  have ze : IsZ he z TI TO .ellipsis f1 := ke.extBut z _ D.TOz.symm (kd.extBut z _ D.i2z.symm (kc.extBut z _ D.TOz.symm (kb.extBut z _ D.i1z.symm za)))
  have kk : ∀ c o, c ≠ z → c ≠ TO → c ≠ i1 → c ≠ i2 → s.heap.get? c = some o → he.get? c = some o := fun c o n1 n2 n3 n4 u => ke.extBut c o n2 (kd.extBut c o n4 (kc.extBut c o n2 (kb.extBut c o n3 (ka.extBut c o n1 u))))
  have g1e : he.IsListIter i1 l1 (k1 + 1) := ((g1b.extBut kc.extBut D.TOi1.symm).extBut kd.extBut D.i12).extBut ke.extBut D.TOi1.symm
  have g2e : he.IsListIter i2 l2 (k2 + 1) := g2d.extBut ke.extBut D.TOi2.symm
  have zlt : z < he.objs.size := Heap.lt_size ze
  show wpAny (model prog w) A (Builtin.SmallTypes.ownedTupleHandOut (.ref z) (.ref he.objs.size) >>= _) _ E _
  refine wpAny_bind ?_
  unfold Builtin.SmallTypes.ownedTupleHandOut
  have zf : IsZ (he.push { cls := .type "tuple", data := .seq #[x, y] }) z TI TO .ellipsis f1 := Heap.get?_push_of_some _ ze
  refine wpAny_bind (wpAny_setField_rec zf (by simp) fun hg zg kg => ?_)
  replace zg : IsZ hg z TI TO (rawInt he.objs.size) f1 := zg
  refine wpAny_setField_rec zg (by simp) fun hi zi ki => ?_
  replace zi : IsZ hi z TI TO (rawInt he.objs.size) (.bool false) := zi
  have up : ∀ c o, c ≠ z → he.get? c = some o → hi.get? c = some o := fun c o n1 u => ki.extBut c o n1 (kg.extBut c o n1 (Heap.get?_push_of_some _ u))
  have Ti : IsPair hi he.objs.size x y := ki.extBut _ _ (Nat.ne_of_gt zlt) (kg.extBut _ _ (Nat.ne_of_gt zlt) (Heap.get?_push_size _ rfl))
  have si : hi.objs.size = he.objs.size + 1 := by rw [ki.1, kg.1, Heap.size_push]
  rw [sz] at zi Ti si
  refine wpAny_pure ⟨_, rfl, ?_⟩
  show Q (.ref he.objs.size) _
  rw [sz]
  exact q hi zi (up TO _ D.TOz Oe) (g1e.at fun o u => up i1 o D.i1z u) (g2e.at fun o u => up i2 o D.i2z u) Ti si fun c o n1 n2 n3 n4 u => up c o n1 (kk c o n1 n2 n3 n4 u)
/-- what is known of such a zip -/
structure ZSt (h : Heap) (z TI TO i1 i2 l1 l2 : Addr) (k : Nat) : Prop where
  zp : ∃ f0 f1, IsZ h z TI TO f0 f1 ∧ ((f0 = .none ∧ f1 = .bool false) ∨ ∃ (T : Addr) (f : Bool), f0 = rawInt T ∧ f1 = .bool f)
  ti : IsPair h TI (.ref i1) (.ref i2)
  to : ∃ a b, IsPair h TO a b
  g1 : h.IsListIter i1 l1 k
  g2 : h.IsListIter i2 l2 k
theorem not_alive {a : Addr} {Q : Option Obj → Shared → Prop} (ho : s.heap.get? a = none) (h : Q none s) : wpAny (model prog w) A (loadIfAlive a) Q E s := by
  have k : Q (s.heap.get? a) s := by rw [ho]; exact h
  exact fun _ _ _ => k
theorem gone_is_free {T : Addr} {f1 : Value} (hz : IsZ s.heap z TI TO (rawInt T) f1) (hT : s.heap.get? T = none) (Q' : Bool → Shared → Prop) (h : Q' true s) : wpAny (model prog w) A (Builtin.SmallTypes.ownedTupleIsFree (.ref z)) Q' E s := by
  unfold Builtin.SmallTypes.ownedTupleIsFree
  refine wpAny_bind (wpAny_field hz rfl (x := rawInt T) rfl ?_); show wpAny (model prog w) A (loadIfAlive ((T : Int).toNat) >>= _) _ E s
  rw [Int.toNat_natCast]
  refine wpAny_bind (not_alive hT ?_)
  exact wpAny_pure h
theorem none_is_free {f1 : Value} (hz : IsZ s.heap z TI TO .none f1) (Q' : Bool → Shared → Prop) (h : Q' true s) : wpAny (model prog w) A (Builtin.SmallTypes.ownedTupleIsFree (.ref z)) Q' E s := by
  unfold Builtin.SmallTypes.ownedTupleIsFree
  exact wpAny_bind (wpAny_field hz rfl (x := .none) rfl (wpAny_pure h))
theorem zip_any {k : Nat} {xs ys : Array Value} {x y : Value} {Q : Value → Shared → Prop} (D : ZipApart z TI TO i1 i2 l1 l2) (st : ZSt s.heap z TI TO i1 i2 l1 l2 k)
    (m1 : s.heap.IsList l1 xs) (m2 : s.heap.IsList l2 ys) (ex : xs[k]? = some x) (ey : ys[k]? = some y)
    (q : ∀ h', ZSt h' z TI TO i1 i2 l1 l2 (k + 1) → IsPair h' s.heap.objs.size x y → h'.objs.size = s.heap.objs.size + 1 →
      (∀ c o, c ≠ z → c ≠ TO → c ≠ i1 → c ≠ i2 → s.heap.get? c = some o → h'.get? c = some o) → Q (.ref s.heap.objs.size) { s with heap := h' }) :
    wpAny (model prog w) A (Builtin.«zip.__next__» ⟨[.ref z], []⟩) (fun fin s' => ∃ v, fin = .done (.ret v) ∧ Q v s') E s := by
  obtain ⟨⟨f0, f1, hz, hf⟩, ti, ⟨a, b, to⟩, g1, g2⟩ := st
  have fresh : ∀ fr : (∀ Q' : Bool → Shared → Prop, Q' true s → wpAny (model prog w) A (Builtin.SmallTypes.ownedTupleIsFree (.ref z)) Q' E s), wpAny (model prog w) A (Builtin.«zip.__next__» ⟨[.ref z], []⟩) (fun fin s' => ∃ v, fin = .done (.ret v) ∧ Q v s') E s := fun fr =>
    zip_free D fr hz ti to g1 g2 m1 m2 ex ey fun h' a1 a2 a3 a4 a5 a6 a7 => q h' ⟨⟨_, _, a1, .inr ⟨_, _, rfl, rfl⟩⟩, a7 _ _ D.TIz D.TITO D.TIi1 D.TIi2 ti, ⟨_, _, a2⟩, a3, a4⟩ a5 a6 a7
  rcases hf with ⟨rfl, rfl⟩ | ⟨T, f, rfl, rfl⟩
  · exact fresh fun Q' hq => none_is_free hz Q' hq
  · cases hT : s.heap.get? T with
    | none => exact fresh fun Q' hq => gone_is_free hz hT Q' hq
    | some oT => exact zip_next_item_held D hz hT ti g1 g2 m1 m2 ex ey fun h' a1 a3 a4 a5 a6 a7 => q h' ⟨⟨_, _, a1, .inr ⟨_, _, rfl, rfl⟩⟩, a7 _ _ D.TIz D.TIi1 D.TIi2 ti, ⟨_, _, a7 _ _ D.TOz D.TOi1 D.TOi2 to⟩, a3, a4⟩ a5 a6 fun c o n1 n2 n3 n4 u => a7 c o n1 n3 n4 u
abbrev Ends4 (s : Shared) (z TO i1 i2 : Addr) (E : Value → Shared → Prop) : Prop := ∀ h' x, (∀ c o, c ≠ z → c ≠ TO → c ≠ i1 → c ≠ i2 → s.heap.get? c = some o → h'.get? c = some o) → (∃ o, h'.get? x = some o ∧ o.cls = .type "StopIteration") → E (.ref x) { s with heap := h' }
theorem zip_free_end {k : Nat} {xs ys : Array Value} {a b f0 f1 : Value} {Q : Fin → Shared → Prop} (hh : A.handled = none) (D : ZipApart z TI TO i1 i2 l1 l2)
    (fr : ∀ Q' : Bool → Shared → Prop, Q' true s → wpAny (model prog w) A (Builtin.SmallTypes.ownedTupleIsFree (.ref z)) Q' E s)
    (hz : IsZ s.heap z TI TO f0 f1) (hI : IsPair s.heap TI (.ref i1) (.ref i2)) (hO : IsPair s.heap TO a b) (g1 : s.heap.IsListIter i1 l1 k) (g2 : s.heap.IsListIter i2 l2 k)
    (m1 : s.heap.IsList l1 xs) (m2 : s.heap.IsList l2 ys) (ex : xs[k]? = none ∨ ys[k]? = none) (q : Ends4 s z TO i1 i2 E) : wpAny (model prog w) A (Builtin.«zip.__next__» ⟨[.ref z], []⟩) Q E s := by
  show wpAny (model prog w) A (field (.ref z) 2 >>= _) _ E s
  refine wpAny_bind (wpAny_field hz rfl (x := .bool false) rfl ?_); show wpAny (model prog w) A (field (.ref z) 3 >>= _) _ E s
  refine wpAny_bind (wpAny_field hz rfl (x := .ref TI) rfl (wpAny_bind (wpAny_seqItems hI rfl ?_))); show wpAny (model prog w) A (Builtin.SmallTypes.ownedTupleIsFree (.ref z) >>= _) _ E s
  refine wpAny_bind (fr _ ?_); simp only [if_true]
  refine wpAny_bind (wpAny_rule (wpAny_bind (wpAny_field hz rfl (x := .ref TO) rfl (wpAny_bind (wpAny_setField_rec hz (by simp) fun ha za ka => ?_)))))
  replace za : IsZ ha z TI TO .ellipsis f1 := za
  refine wpAny_bind ?_; simp only [List.zipIdx_cons, List.zipIdx_nil, List.forIn_cons, List.forIn_nil]
  refine wpAny_bind (wpAny_bind (wpAny_onRaise ?_)); show wpAny (model prog w) A (Builtin.SmallTypes.nextOf (.ref i1) >>= _) _ _ _
  have g1a := g1.extBut ka.extBut D.i1z
  have m1a := m1.extBut ka.extBut D.l1z
  cases e1 : xs[k]? with
  | none =>
    refine wpAny_bind (wpAny_nextOf_list_end hh g1a m1a e1 fun hb x kb hx => ?_)
    obtain ⟨ob, hob, cb⟩ := hx
    have zb : IsZ hb z TI TO .ellipsis f1 := kb z _ D.i1z.symm za
    have nz : x ≠ z := fun u => by subst u; rw [zb] at hob; cases hob; simp at cb
    exact wpAny_setField_rec zb (by simp) fun hc _ kc => q hc x (fun c o n1 _ n3 _ u => kc.extBut c o n1 (kb c o n3 (ka.extBut c o n1 u))) ⟨ob, kc.extBut x _ nz hob, cb⟩
  | some u1 =>
    have e2 : ys[k]? = none := by
      rcases ex with ex | ex
      · rw [e1] at ex; cases ex
      · exact ex
    refine wpAny_bind (wpAny_nextOf_list_item g1a m1a e1 fun hb g1b kb => wpAny_pure ?_)
    have Ob : IsPair hb TO a b := kb.extBut TO _ D.TOi1 (ka.extBut TO _ D.TOz hO)
    refine wpAny_bind (wpAny_seqItems Ob rfl (wpAny_bind (wpAny_updateSeq_pair Ob fun hc Oc kc => ?_)))
    refine wpAny_bind (wpAny_letGo (wpAny_pure (wpAny_bind (wpAny_bind (wpAny_onRaise ?_))))); show wpAny (model prog w) A (Builtin.SmallTypes.nextOf (.ref i2) >>= _) _ _ _
    refine wpAny_bind (wpAny_nextOf_list_end hh (((g2.extBut ka.extBut D.i2z).extBut kb.extBut D.i12.symm).extBut kc.extBut D.TOi2.symm) (((m2.extBut ka.extBut D.l2z).extBut kb.extBut D.l2i1).extBut kc.extBut D.l2TO) e2 fun hd x kd hx => ?_)
    obtain ⟨ob, hob, cb⟩ := hx
    have zd : IsZ hd z TI TO .ellipsis f1 := kd z _ D.i2z.symm (kc.extBut z _ D.TOz.symm (kb.extBut z _ D.i1z.symm za))
    have nz : x ≠ z := fun u => by subst u; rw [zd] at hob; cases hob; simp at cb
    exact wpAny_setField_rec zd (by simp) fun hf _ kf => q hf x (fun c o n1 n2 n3 n4 u => kf.extBut c o n1 (kd c o n4 (kc.extBut c o n2 (kb.extBut c o n3 (ka.extBut c o n1 u))))) ⟨ob, kf.extBut x _ nz hob, cb⟩
theorem zip_end {k : Nat} {xs ys : Array Value} {Q : Fin → Shared → Prop} (hh : A.handled = none) (D : ZipApart z TI TO i1 i2 l1 l2) (st : ZSt s.heap z TI TO i1 i2 l1 l2 k)
    (m1 : s.heap.IsList l1 xs) (m2 : s.heap.IsList l2 ys) (ex : xs[k]? = none ∨ ys[k]? = none) (q : Ends4 s z TO i1 i2 E) : wpAny (model prog w) A (Builtin.«zip.__next__» ⟨[.ref z], []⟩) Q E s := by
  obtain ⟨⟨f0, f1, hz, hf⟩, ti, ⟨a, b, to⟩, g1, g2⟩ := st
  rcases hf with ⟨rfl, rfl⟩ | ⟨T, f, rfl, rfl⟩
  · exact zip_free_end hh D (fun Q' hq => none_is_free hz Q' hq) hz ti to g1 g2 m1 m2 ex q
  · cases hT : s.heap.get? T with
    | none => exact zip_free_end hh D (fun Q' hq => gone_is_free hz hT Q' hq) hz ti to g1 g2 m1 m2 ex q
    | some oT => exact zip_next_end_held hh D hz hT ti g1 g2 m1 m2 ex fun h' x n hx => q h' x (fun c o n1 _ n3 n4 u => n c o n1 n3 n4 u) hx
theorem ZSt.ty {k : Nat} (st : ZSt s.heap z TI TO i1 i2 l1 l2 k) : s.TypeIs (.ref z) "zip" := by
  obtain ⟨f0, f1, hz, _⟩ := st.zp
  exact ⟨_, hz, rfl⟩
theorem zip_nextOf {k : Nat} {xs ys : Array Value} {x y : Value} {Q : Value → Shared → Prop} (D : ZipApart z TI TO i1 i2 l1 l2) (st : ZSt s.heap z TI TO i1 i2 l1 l2 k)
    (m1 : s.heap.IsList l1 xs) (m2 : s.heap.IsList l2 ys) (ex : xs[k]? = some x) (ey : ys[k]? = some y)
    (q : ∀ h', ZSt h' z TI TO i1 i2 l1 l2 (k + 1) → IsPair h' s.heap.objs.size x y → h'.objs.size = s.heap.objs.size + 1 →
      (∀ c o, c ≠ z → c ≠ TO → c ≠ i1 → c ≠ i2 → s.heap.get? c = some o → h'.get? c = some o) → Q (.ref s.heap.objs.size) { s with heap := h' }) :
    wpAny (model prog w) A (Builtin.SmallTypes.nextOf (.ref z)) Q E s := by
  unfold Builtin.SmallTypes.nextOf
  exact wpAny_bind (wpAny_callSpecial?_slot (name := Str.ofString "__next__") st.ty F.slot_zip_next (wpAny_call_entry F.slot_zip_next st.ty F.entry_zip_next
    (zip_any D st m1 m2 ex ey fun h' a1 a2 a3 a4 => wpAny_pure (q h' a1 a2 a3 a4)) (F.args_zip_next_1 _)))
theorem zip_nextOf_end {k : Nat} {xs ys : Array Value} {Q : Value → Shared → Prop} (hh : A.handled = none) (D : ZipApart z TI TO i1 i2 l1 l2) (st : ZSt s.heap z TI TO i1 i2 l1 l2 k)
    (m1 : s.heap.IsList l1 xs) (m2 : s.heap.IsList l2 ys) (ex : xs[k]? = none ∨ ys[k]? = none) (q : Ends4 s z TO i1 i2 E) : wpAny (model prog w) A (Builtin.SmallTypes.nextOf (.ref z)) Q E s := by
  unfold Builtin.SmallTypes.nextOf
  exact wpAny_bind (wpAny_callSpecial?_slot (name := Str.ofString "__next__") st.ty F.slot_zip_next (wpAny_call_entry F.slot_zip_next st.ty F.entry_zip_next
    (zip_end hh D st m1 m2 ex q) (F.args_zip_next_1 _)))
/-- a turn of enumerate over an iterator whose next lays an object -/
theorem enum_turn {it : Addr} {i : Nat} {old x : Value} {R : Heap → Prop} {Q : Option Value → Shared → Prop} (he : IsEnum s.heap e it i old)
    (hin : ∀ Q' E' : Value → Shared → Prop, (∀ h1, R h1 → IsEnum h1 e it i old → Q' x { s with heap := h1 }) → wpAny (model prog w) A.in1 (Builtin.SmallTypes.nextOf (.ref it)) Q' E' s)
    (q : ∀ h1 h', R h1 → IsEnumOut h' e it ((i : Int) + 1) x h1.objs.size → h'.get? h1.objs.size = some { cls := .type "tuple", data := .seq #[.int i s.toks, x] } → h'.objs.size = h1.objs.size + 1 →
      (∀ b o, b ≠ e → h1.get? b = some o → h'.get? b = some o) → Q (some (.ref h1.objs.size)) { s with heap := h', toks := s.toks + 1 }) :
    wpAny (model prog w) A (pyNext (.ref e)) Q E s := by
  have hT : s.TypeIs (.ref e) "enumerate" := ⟨_, he, rfl⟩
  unfold pyNext
  refine wpAny_bind (wpAny_attempt (wpAny_callSpecial?_slot (name := Str.ofString "__next__") hT F.slot_enumerate_next (wpAny_call_entry F.slot_enumerate_next hT F.entry_enumerate_next ?_ (F.args_enumerate_next_1 _))))
  obtain ⟨hp, g, d, tk, os⟩ := s
  show wpAny (model prog w) _ (field (.ref e) 2 >>= _) _ _ _
  refine wpAny_bind (wpAny_field he rfl (x := .ref it) rfl ?_)
  refine wpAny_bind (hin _ _ fun h1 r1 e1 => ?_)
  show wpAny (model prog w) _ (field (.ref e) 3 >>= _) _ _ ⟨h1, g, d, tk, os⟩
  refine wpAny_bind (wpAny_field e1 rfl (x := rawInt i) rfl ?_); show wpAny (model prog w) _ (field (.ref e) 4 >>= _) _ _ ⟨h1, g, d, tk, os⟩
  refine wpAny_bind (wpAny_field e1 rfl (x := .none) rfl ?_); show wpAny (model prog w) _ (mkInt i >>= _) _ _ ⟨h1, g, d, tk, os⟩
  refine wpAny_bind (wpAny_mkInt ?_); show wpAny (model prog w) _ (setField (.ref e) 3 (rawInt ((i : Int) + 1)) >>= _) _ _ ⟨h1, g, d, tk + 1, os⟩
  refine wpAny_bind (wpAny_setField_rec e1 (by simp) fun h2 e2 k2 => ?_)
  replace e2 : IsEnum h2 e it ((i : Int) + 1) old := e2
  replace k2 : Heap.SameBut e h1 h2 := k2
  show wpAny (model prog w) _ (setField (.ref e) 4 .none >>= _) _ _ ⟨h2, g, d, tk + 1, os⟩
  refine wpAny_bind (wpAny_setField_rec e2 (by simp) fun h3 e3 k3 => ?_)
  replace e3 : IsEnum h3 e it ((i : Int) + 1) old := e3
  replace k3 : Heap.SameBut e h2 h3 := k3
  show wpAny (model prog w) _ (newTuple [.int i tk, x] >>= _) _ _ ⟨h3, g, d, tk + 1, os⟩
  refine wpAny_bind (wpAny_newTuple ?_)
  have sz : h3.objs.size = h1.objs.size := by rw [k3.1, k2.1]
  have lt : e < h1.objs.size := Heap.lt_size e1
  have e4 : IsEnum (h3.push { cls := .type "tuple", data := .seq #[.int i tk, x] }) e it ((i : Int) + 1) old := Heap.get?_push_of_some _ e3
  have t4 : (h3.push { cls := .type "tuple", data := .seq #[.int i tk, x] }).get? h1.objs.size = some { cls := .type "tuple", data := .seq #[.int i tk, x] } := by rw [← sz]; exact Heap.get?_push_size _ rfl
  have z4 : (h3.push { cls := .type "tuple", data := .seq #[.int i tk, x] }).objs.size = h1.objs.size + 1 := by rw [Heap.size_push, sz]
  have u4 : ∀ b o, b ≠ e → h1.get? b = some o → (h3.push { cls := .type "tuple", data := .seq #[.int i tk, x] }).get? b = some o := fun b o n u => Heap.get?_push_of_some _ (k3.extBut b o n (k2.extBut b o n u))
  generalize h3.push { cls := .type "tuple", data := .seq #[.int i tk, x] } = h4 at e4 t4 z4 u4 ⊢
  show wpAny (model prog w) _ (Builtin.SmallTypes.ownedTupleIsFree (.ref e) >>= _) _ _ ⟨h4, g, d, tk + 1, os⟩
  rw [sz]
  refine wpAny_bind ?_
  unfold Builtin.SmallTypes.ownedTupleIsFree
  refine wpAny_bind (wpAny_field e4 rfl (x := .none) rfl (wpAny_pure ?_))
  simp only [if_true]
  refine wpAny_bind (wpAny_rule (wpAny_bind (wpAny_field e4 rfl (x := old) rfl (wpAny_bind (wpAny_setField_rec e4 (by simp) fun h5 e5 k5 => ?_)))))
  replace e5 : IsEnum h5 e it ((i : Int) + 1) x := e5
  replace k5 : Heap.SameBut e h4 h5 := k5
  show wpAny (model prog w) _ (Builtin.SmallTypes.ownedTupleHandOut (.ref e) (.ref h1.objs.size) >>= _) _ _ ⟨h5, g, d, tk + 1, os⟩
  refine wpAny_bind ?_
  unfold Builtin.SmallTypes.ownedTupleHandOut
  refine wpAny_bind (wpAny_setField_rec e5 (by simp) fun h6 e6 k6 => ?_)
  replace e6 : IsEnumOut h6 e it ((i : Int) + 1) x h1.objs.size := e6
  replace k6 : Heap.SameBut e h5 h6 := k6
  refine wpAny_setField_rec e6 (by simp) fun h7 e7 k7 => ?_
  replace e7 : IsEnumOut h7 e it ((i : Int) + 1) x h1.objs.size := e7
  replace k7 : Heap.SameBut e h6 h7 := k7
  have up : ∀ b o, b ≠ e → h4.get? b = some o → h7.get? b = some o := fun b o n u => k7.extBut b o n (k6.extBut b o n (k5.extBut b o n u))
  exact wpAny_bind (wpAny_letGo (wpAny_pure ⟨_, rfl, wpAny_pure (q h1 h7 r1 e7 (up _ _ (Nat.ne_of_gt lt) t4) (by rw [k7.1, k6.1, k5.1, z4]) fun b o n u => up b o n (u4 b o n u))⟩))
theorem enum_stop {it : Addr} {i : Nat} {old : Value} {R : Heap → Prop} {Q : Option Value → Shared → Prop} (he : IsEnum s.heap e it i old)
    (hin : ∀ Q' E' : Value → Shared → Prop, (∀ h1 x, R h1 → (∃ o, h1.get? x = some o ∧ o.cls = .type "StopIteration") → E' (.ref x) { s with heap := h1 }) → wpAny (model prog w) A.in1 (Builtin.SmallTypes.nextOf (.ref it)) Q' E' s)
    (q : ∀ h1, R h1 → Q none { s with heap := h1 }) : wpAny (model prog w) A (pyNext (.ref e)) Q E s := by
  have hT : s.TypeIs (.ref e) "enumerate" := ⟨_, he, rfl⟩
  unfold pyNext
  refine wpAny_bind (wpAny_attempt (wpAny_callSpecial?_slot (name := Str.ofString "__next__") hT F.slot_enumerate_next (wpAny_call_entry F.slot_enumerate_next hT F.entry_enumerate_next ?_ (F.args_enumerate_next_1 _))))
  show wpAny (model prog w) _ (field (.ref e) 2 >>= _) _ _ _
  refine wpAny_bind (wpAny_field he rfl (x := .ref it) rfl ?_)
  refine wpAny_bind (hin _ _ fun h1 x r1 ⟨o, ho, hc⟩ => ?_)
  refine wpAny_bind (wpAny_isInstance (T := "StopIteration") (b := true) ⟨o, ho, hc⟩ isSubtype_stop ?_)
  exact wpAny_pure (q h1 r1)
end
/-- the lists at a and b as they stand at each turn: the count with a pair of items -/
def Itez (K : PySem.W.Frag) (a b : Addr) : It :=
  ⟨fun i H => ∃ (xs ys : List V) (x y : V), SqL K H a xs ∧ SqL K H b ys ∧ xs[i]? = some x ∧ ys[i]? = some y,
    fun i H v H' => ∃ T U x y, v = .ref T ∧ H U = none ∧ H T = none ∧ T ≠ U ∧ H' = upd (upd H U (.tup [x, y])) T (.tup [.int (i : Nat), .ref U]) ∧ (∀ xs, SqL K H a xs → xs[i]? = some x) ∧ ∀ ys, SqL K H b ys → ys[i]? = some y,
    fun i H => ∃ xs ys : List V, SqL K H a xs ∧ SqL K H b ys ∧ (xs.length ≤ i ∨ ys.length ≤ i)⟩
structure EApart (e z TI TO i1 i2 : Addr) : Prop where
  ez : e ≠ z
  ei : e ≠ TI
  eo : e ≠ TO
  e1 : e ≠ i1
  e2 : e ≠ i2
theorem ZSt.keep {h h' : Heap} {z TI TO i1 i2 l1 l2 : Addr} {k : Nat} (st : ZSt h z TI TO i1 i2 l1 l2 k) (u : ∀ b, b = z ∨ b = TI ∨ b = TO ∨ b = i1 ∨ b = i2 → ∀ o, h.get? b = some o → h'.get? b = some o) : ZSt h' z TI TO i1 i2 l1 l2 k := by
  obtain ⟨⟨f0, f1, hz, hf⟩, ti, ⟨a, b, to⟩, g1, g2⟩ := st
  exact ⟨⟨f0, f1, u z (.inl rfl) _ hz, hf⟩, u TI (by simp) _ ti, ⟨a, b, u TO (by simp) _ to⟩, g1.at fun o x => u i1 (by simp) o x, g2.at fun o x => u i2 (by simp) o x⟩
theorem turn_ez {P : Program} {w : World} {K : PySem.W.Frag} {elts : List Expr} {kk : Nat} {tpos : Pos} {a b e z TI TO i1 i2 : Addr} (D : ZipApart z TI TO i1 i2 a b) (Z : EApart e z TI TO i1 i2) :
    Turn P w K (.Tuple elts kk tpos) (Itez K a b) [e, z, TI, TO, i1, i2] e (fun i h => (∃ old, IsEnum h e z ((i : Nat) : Int) old) ∧ ZSt h z TI TO i1 i2 a b i) where
  mem := by simp
  obj := fun i h st c hc => by
    obtain ⟨⟨old, he⟩, ⟨f0, f1, hz, hf⟩, hTI, ⟨x, y, hTO⟩, ⟨o1, e1, _, d1⟩, ⟨o2, e2, _, d2⟩⟩ := st
    have e' : c = e ∨ c = z ∨ c = TI ∨ c = TO ∨ c = i1 ∨ c = i2 := by simpa using hc
    rcases e' with q | q | q | q | q | q
    · rw [q]; exact ⟨_, he, fun v q => nomatch q⟩
    · rw [q]; exact ⟨_, hz, fun v q => nomatch q⟩
    · rw [q]; exact ⟨_, hTI, fun v q => nomatch q⟩
    · rw [q]; exact ⟨_, hTO, fun v q => nomatch q⟩
    · rw [q]; exact ⟨o1, e1, fun v q => by rw [d1] at q; cases q⟩
    · rw [q]; exact ⟨o2, e2, fun v q => by rw [d2] at q; cases q⟩
  keep := fun i h h' st k => by
    obtain ⟨⟨old, he⟩, hz⟩ := st
    refine ⟨⟨old, k e (by simp) _ he⟩, hz.keep fun c hc o u => k c ?_ o u⟩
    rcases hc with q | q | q | q | q <;> rw [q] <;> simp
  item := by
    intro X hP hw hK hc i pins s σ H E I hf st hg
    subst hP hw hK
    obtain ⟨⟨old, he⟩, hz⟩ := st
    obtain ⟨xs, ys, x, y, hqx, hqy, hx, hy⟩ := hg
    obtain ⟨its, rv, p, _⟩ := I.list hqx
    obtain ⟨its2, rv2, p2, _⟩ := I.list hqy
    obtain ⟨u, hu, ru⟩ := rv.get hx
    obtain ⟨u2, hu2, ru2⟩ := rv2.get hy
    have el : e < s.heap.objs.size := Heap.lt_size he
    refine enum_turn (x := .ref s.heap.objs.size) (R := fun h1 => ZSt h1 z TI TO i1 i2 a b (i + 1) ∧ IsPair h1 s.heap.objs.size u u2 ∧ h1.objs.size = s.heap.objs.size + 1 ∧ ∀ c o, c ≠ z → c ≠ TO → c ≠ i1 → c ≠ i2 → s.heap.get? c = some o → h1.get? c = some o) he (fun Q' E' hq => ?_) ?_
    · exact zip_nextOf D hz p.isList p2.isList (by simpa using hu) (by simpa using hu2) fun h1 a1 a2 a3 a4 => hq h1 ⟨a1, a2, a3, a4⟩ (a4 e _ Z.ez Z.eo Z.e1 Z.e2 he)
    rintro h1 h2 ⟨z1, t1, n1, k1⟩ he2 tt n2 k2
    refine ⟨_, rfl, wpAny_letOwnedTupleGo_enum (s := { s with heap := h2, toks := s.toks + 1 }) he2 fun h3 he3 sb => ?_⟩
    have I1 : Inv X pins σ (upd H s.heap.objs.size (.tup [x, y])) { s with heap := h1 } :=
      I.turnedNew (t' := s.toks) (ch := [z, TO, i1, i2]) (fun c o hc q => k1 c o (fun q' => hc (by simp [q'])) (fun q' => hc (by simp [q'])) (fun q' => hc (by simp [q'])) (fun q' => hc (by simp [q'])) q) (fun c hc => hf c (by
        have e' : c = z ∨ c = TO ∨ c = i1 ∨ c = i2 := by simpa using hc
        rcases e' with q | q | q | q <;> rw [q] <;> simp)) (Nat.le_refl _) ⟨by show 2 ≤ sizeLine; decide, [u, u2], .cons ru (.cons ru2 .nil), ⟨_, t1, rfl, _, rfl⟩⟩
    obtain ⟨f0, f1, f2, f3, f4, f5⟩ := hf e (by simp)
    have tt3 : h3.get? h1.objs.size = some { cls := .type "tuple", data := .seq #[.int i s.toks, .ref s.heap.objs.size] } := (sb.2 _ (Nat.ne_of_gt (by rw [n1]; exact Nat.lt_succ_of_lt el))).trans tt
    have I2 : Inv X pins σ (upd (upd H s.heap.objs.size (.tup [x, y])) h1.objs.size (.tup [.int (i : Nat), .ref s.heap.objs.size])) { s with heap := h3, toks := s.toks + 1 } :=
      I1.turnedNew (ch := [e]) (fun c o hc q => (sb.2 c (by simpa using hc)).trans (k2 c o (by simpa using hc) q)) (fun c hc => by
        rw [show c = e by simpa using hc]
        exact ⟨by rw [upd_ne (Nat.ne_of_lt el)]; exact f0, f1, f2, f3, f4, f5⟩) (Nat.le_refl _) ⟨by show 2 ≤ sizeLine; decide, [.int i s.toks, .ref s.heap.objs.size], .cons ⟨_, rfl⟩ (.cons rfl .nil), ⟨_, tt3, rfl, _, rfl⟩⟩
    have nn : h1.objs.size ≠ s.heap.objs.size := by rw [n1]; exact Nat.succ_ne_self _
    refine ⟨.ref h1.objs.size, _, I2, rfl, ⟨_, s.heap.objs.size, x, y, rfl, I.hok.fresh (Nat.le_refl _), I.hok.fresh (by rw [n1]; exact Nat.le_succ _), nn, rfl, fun l hl => by rw [I.list_inj hl hqx]; exact hx, fun l hl => by rw [I.list_inj hl hqy]; exact hy⟩, ⟨⟨.ref s.heap.objs.size, ?_⟩, z1.keep fun c hc o q => ?_⟩, fun c hc => ?_⟩
    · have e1 : ((i + 1 : Nat) : Int) = (i : Int) + 1 := by omega
      rw [e1]; exact he3
    · have ne : c ≠ e := by
        rcases hc with q | q | q | q | q <;> rw [q]
        · exact Z.ez.symm
        · exact Z.ei.symm
        · exact Z.eo.symm
        · exact Z.e1.symm
        · exact Z.e2.symm
      exact (sb.2 c ne).trans (k2 c o ne q)
    · have lt : c < s.heap.objs.size := by
        obtain ⟨⟨f0', f1', hz', _⟩, hTI, ⟨x', y', hTO⟩, ⟨o1, q1, _⟩, ⟨o2, q2, _⟩⟩ := hz
        have e' : c = e ∨ c = z ∨ c = TI ∨ c = TO ∨ c = i1 ∨ c = i2 := by simpa using hc
        rcases e' with q | q | q | q | q | q <;> rw [q]
        · exact el
        · exact Heap.lt_size hz'
        · exact Heap.lt_size hTI
        · exact Heap.lt_size hTO
        · exact Heap.lt_size q1
        · exact Heap.lt_size q2
      rw [upd_ne (Nat.ne_of_lt (by rw [n1]; exact Nat.lt_succ_of_lt lt)), upd_ne (Nat.ne_of_lt lt)]
      exact (hf c hc).1
  done := by
    intro X hP hw hK hc i pins s σ H E I hf st hg
    subst hP hw hK
    obtain ⟨⟨old, he⟩, hz⟩ := st
    obtain ⟨xs, ys, hqx, hqy, hend⟩ := hg
    obtain ⟨its, rv, p, _⟩ := I.list hqx
    obtain ⟨its2, rv2, p2, _⟩ := I.list hqy
    have l1 := rv.length
    have l2 := rv2.length
    have stop : its.toArray[i]? = none ∨ its2.toArray[i]? = none := by
      rcases hend with q | q
      · exact .inl (by simp; omega)
      · exact .inr (by simp; omega)
    refine enum_stop (R := fun h1 => ∀ c o, c ≠ z → c ≠ TO → c ≠ i1 → c ≠ i2 → s.heap.get? c = some o → h1.get? c = some o) he (fun Q' E' hq => ?_) ?_
    · exact zip_nextOf_end (I.ok.hd hc) D hz p.isList p2.isList stop fun h1 x k1 hx => hq h1 x k1 hx
    · intro h1 k1
      exact ⟨rfl, I.turnedL (t' := s.toks) (ch := [z, TO, i1, i2]) (fun c o hc q => k1 c o (fun q' => hc (by simp [q'])) (fun q' => hc (by simp [q'])) (fun q' => hc (by simp [q'])) (fun q' => hc (by simp [q'])) q) fun c hc => hf c (by
        have e' : c = z ∨ c = TO ∨ c = i1 ∨ c = i2 := by simpa using hc
        rcases e' with q | q | q | q <;> rw [q] <;> simp)⟩
  self := fun A i s Q E st h => let ⟨⟨_, he⟩, _⟩ := st; wpAny_pyIter_enum he h
open AutoSeq1 (wpAny_loadPart') in
theorem meets_enum_zip (z TI TO : Addr) : Meets (Builtin.«enumerate.__new__» ⟨[.type "enumerate", .ref z], []⟩) (fun _ R s => IsZip s.heap z TI TO .none ∧
    R (.ok (.ret (.ref s.heap.objs.size))) { s with heap := s.heap.push { cls := .type "enumerate", data := .fields #[.none, .bool false, .ref z, rawInt 0, .none, .none] } }) :=
  .of_wp fun prog w A R s h => by
    obtain ⟨hp, g, d, tk, os⟩ := s
    obtain ⟨hl, h⟩ := h
    have hsub := sub_enumerate
    have hZ : IsZip (Shared.heap ⟨hp, g, d, tk, os⟩) z TI TO .none := hl
    wp_walk using wpAny_loadPart' hl
    refine wpAny_stack_any fun st => wpAny_pure ?_
    split
    · rename_i c _ _ _ _ _
      cases (c == Value.type "enumerate") <;> (wp_walk using wpAny_loadPart' hl, wpAny_pyIter_zip hZ; exact ⟨_, rfl, h⟩)
    · wp_walk using wpAny_loadPart' hl, wpAny_pyIter_zip hZ
      exact ⟨_, rfl, h⟩
theorem call_enum_zip {prog : Program} {w : World} {A : Around} {E : Value → Shared → Prop} {s : Shared} {z TI TO : Addr} {Q : Value → Shared → Prop} (hz : IsZip s.heap z TI TO .none)
    (q : ∀ h', h'.objs.size = s.heap.objs.size + 1 → IsEnum h' s.heap.objs.size z 0 .none → (∀ b o, s.heap.get? b = some o → h'.get? b = some o) → Q (.ref s.heap.objs.size) { s with heap := h' }) :
    wpAny (model prog w) A (call (.type "enumerate") [.ref z]) Q E s := by
  refine callType_new F.called_enumerate (by decide) (F.typeCall_enumerate_1 _) (F.newCall_enumerate_1 _) (fun obj => F.args_object_init_2 obj _) F.entry_enumerate_new (meets_enum_zip z TI TO) ⟨hz, ?_⟩
  have he : IsEnum (s.heap.push { cls := .type "enumerate", data := .fields #[.none, .bool false, .ref z, rawInt 0, .none, .none] }) s.heap.objs.size z 0 .none := Heap.get?_push_size _ rfl
  exact ⟨⟨_, he, rfl⟩, q _ (Heap.size_push ..) he fun b o x => Heap.get?_push_of_some _ x⟩
def iEnumZip (K : PySem.W.Frag) (ta : TA) : TI := fun σ H R => ta σ H fun vs H1 => ∃ a b xs ys, vs = [.ref a, .ref b] ∧ SqL K H1 a xs ∧ SqL K H1 b ys ∧ R (Itez K a b) H1
theorem pi_enumZip {X : Cx} {e e2 : Expr} {ta : TA} {p pos p2 pos2 tpos : Pos} {elts : List Expr} {kk : Nat} (hg : Gl X "enumerate") (hm : X.mg "enumerate" = none) (hgz : Gl X "zip") (hmz : X.mg "zip" = none) (ha : PA X [e, e2] ta)
    (hs : starEach [e, e2] X.env = (false, eval e X.env) :: starEach [e2] X.env := by rfl) (hpl : (backTo pos2 (starEach [e2] X.env)).any (·.1) = false := by rfl)
    (hs1 : starEach [.Call (.Name "zip" p2) [e, e2] [] pos2] X.env = [(false, eval (.Call (.Name "zip" p2) [e, e2] [] pos2) X.env)] := by rfl) :
    PI X (.Tuple elts kk tpos) (.Call (.Name "enumerate" p) [.Call (.Name "zip" p2) [e, e2] [] pos2] [] pos) (iEnumZip X.K ta) := by
  refine ⟨fun pins s σ H R I h => ?_⟩
  refine Call_ (ld_blt I hg hm boot_enumerate (PyProof.Rows.callWith_type1 (args_cons (Call_ (ld_blt I hgz hmz PyProof.Rows.boot_zip (PyProof.Rows.callWith_type1 (thn (ha.run pos2 pins s σ H _ I h) fun us s1 ⟨vs, H1, I1, r1, q1⟩ => ?_) hs hpl))) hs1) hs1 rfl))
  obtain ⟨a, b, xs, ys, ex, hqx, hqy, q⟩ := q1
  subst ex
  cases r1 with
  | cons r rr =>
    cases rr with
    | cons r' rr =>
      cases rr
      cases r
      cases r'
      obtain ⟨its, rv, p1, _⟩ := I1.list hqx
      obtain ⟨its2, rv2, p2, _⟩ := I1.list hqy
      have la : a < s1.heap.objs.size := p1.lt
      have lb : b < s1.heap.objs.size := p2.lt
      refine call_zip_2 p1.isList p2.isList fun h' hz hTI hTO h1 h2 hsz hk => args_nil ?_
      refine call_enum_zip (s := { s1 with heap := h' }) hz fun h2' sz2 he kk2 => wpAny_pyIter_enum he ?_
      have I2 : Inv X pins σ H1 { s1 with heap := h2' } := I1.kept (t' := s1.toks) fun c o u => kk2 c o (hk c o u)
      have en : h'.objs.size = s1.heap.objs.size + 5 := hsz
      have ap : EApart h'.objs.size (s1.heap.objs.size + 4) (s1.heap.objs.size + 2) (s1.heap.objs.size + 3) s1.heap.objs.size (s1.heap.objs.size + 1) := by
        rw [en]
        constructor <;> first | exact Nat.ne_of_gt (Nat.add_lt_add_left (by decide) _) | exact Nat.ne_of_gt (Nat.lt_add_of_pos_right (by decide))
      refine ⟨h'.objs.size, [h'.objs.size, s1.heap.objs.size + 4, s1.heap.objs.size + 2, s1.heap.objs.size + 3, s1.heap.objs.size, s1.heap.objs.size + 1], _, _, H1, rfl, I2, turn_ez (PySem.W.ktu_apart s1.heap.objs.size a b la lb) ap,
        ⟨⟨_, he⟩, ⟨⟨_, _, kk2 _ _ hz, .inl ⟨rfl, rfl⟩⟩, kk2 _ _ hTI, ⟨_, _, kk2 _ _ hTO⟩, h1.at fun o x => kk2 _ o x, h2.at fun o x => kk2 _ o x⟩⟩, fun c hcm => ?_, q⟩
      have hle : s1.heap.objs.size ≤ c := by
        have e' : c = h'.objs.size ∨ c = s1.heap.objs.size + 4 ∨ c = s1.heap.objs.size + 2 ∨ c = s1.heap.objs.size + 3 ∨ c = s1.heap.objs.size ∨ c = s1.heap.objs.size + 1 := by simpa using hcm
        rcases e' with z | z | z | z | z | z
        · rw [z, en]; exact Nat.le_add_right _ _
        · rw [z]; exact Nat.le_add_right _ _
        · rw [z]; exact Nat.le_add_right _ _
        · rw [z]; exact Nat.le_add_right _ _
        · rw [z]; exact Nat.le_refl _
        · rw [z]; exact Nat.le_add_right _ _
      exact I1.fpOk hle (I1.hok.fresh hle)
end My
/-! Kit9: own classes, lists taken apart, enumerate(zip) walked, lists of anything said to be unlike. -/
namespace My
open PySem PySem.Spec PyProof.Rows L2
/-- C(..) of an own class -/
structure HasMk (P : Program) (w : World) (K : PySem.W.Frag) (mg : Str → Option Value) (base : Heap) (CX : CXT) (k : Nat) (x : Str) (ps : List Str) (sp : Sp) : Prop where
  ex : ∃ fd : FuncData, FnOk P w K mg base CX k (He.ma K (He.ga K x) "__init__") fd ps sp ∧ Binds K fd ps []
/-- o.m(..) of an own class -/
structure HasM (P : Program) (w : World) (K : PySem.W.Frag) (mg : Str → Option Value) (base : Heap) (CX : CXT) (k : Nat) (x m : Str) (ps : List Str) (sp : Sp) : Prop where
  ex : ∃ fd : FuncData, FnOk P w K mg base CX k (He.ma K (He.ga K x) m) fd ps sp ∧ Binds K fd ps []
/-- a def with defaults, all parameters written -/
theorem binds_full {K : PySem.W.Frag} {x qual : Str} {params : Arguments} {body : List Stmt} {scope : Scope} {dvs : List V} {kws : List (Str × V)} {f : Addr} {fd : FuncData} {ps : List Str} (F : FunD K x qual params body scope dvs kws f fd) (hd : dvs ≠ [])
    (h : ∀ (T : Addr) (kV doc pm : Value) (an : Option Addr) (cdv ct : Value) (us its : List Value), us.length = ps.length → its.length = dvs.length →
      ∃ k, bindArgs (PySem.W.fnOf x qual params body scope (.ref T) kV doc pm an cdv ct) ⟨us, []⟩ = seqItems? (.ref T) >>= k ∧ k (some its.toArray) = pure (ps.zip us)) : Binds K fd ps [] := by
  obtain ⟨ds, h1, h2⟩ := F.binds1 (ps := ps) ps.length dvs.length hd (by omega) fun T kV doc pm an cdv ct us its l1 l2 => by
    obtain ⟨k, e1, e2⟩ := h T kV doc pm an cdv ct us its l1 l2
    exact ⟨k, e1, by rw [e2, ← l2, List.drop_length, List.append_nil]⟩
  rw [List.drop_length] at h1
  cases h1
  exact h2
section
variable {K : PySem.W.Frag} {σ : L2.St} {H : Hp} {C : Addr} {f m : Str} {ta tb te : TE} {nx bk ct : L2.St → Hp → Prop} {rt Q : VK} {tr : TA} {sp : Sp} {E : XK} {v y : V}
def kMake (C : Addr) (sp : Sp) (E : XK) (Q : VK) : List V → Hp → Prop := fun vs H1 => ∀ x dx, H1 x = none → H1 dx = none → dx ≠ x → sp (.ref x :: vs) (upd (upd H1 dx (.own x)) x (.ins C dx [])) (fun v H2 => v = .non ∧ Q (.ref x) H2) E
theorem g_make (h : tr σ H (kMake C sp E Q)) : tMake C sp [] E tr σ H Q := by
  have e : (fun (vs : List V) (H1 : Hp) => ∀ x dx, H1 x = none → H1 dx = none → dx ≠ x → sp (.ref x :: (vs ++ [])) (upd (upd H1 dx (.own x)) x (.ins C dx [])) (fun v H2 => v = .non ∧ Q (.ref x) H2) E) = kMake C sp E Q := by
    funext vs H1
    rw [List.append_nil]
    rfl
  show tr σ H (fun (vs : List V) (H1 : Hp) => ∀ x dx, H1 x = none → H1 dx = none → dx ≠ x → sp (.ref x :: (vs ++ [])) (upd (upd H1 dx (.own x)) x (.ins C dx [])) (fun v H2 => v = .non ∧ Q (.ref x) H2) E)
  rw [e]
  exact h
theorem g_kMake {vs : List V} (q : ∀ x H2, H x = none → Step [] H H2 → (∃ dx, H2 x = some (.ins C dx [])) → sp (.ref x :: vs) H2 (fun v H3 => v = .non ∧ Q (.ref x) H3) E) : kMake C sp E Q vs H := fun x dx hx hd hne =>
  q x _ hx ((Step.new hd).trans (Step.new (by rw [upd_ne hne.symm]; exact hx))) ⟨dx, upd_same⟩
def kMeth (C : Addr) (m : Str) (sp : Sp) (tr : TA) (σ : L2.St) (E : XK) (Q : VK) : VK := fun x H1 => ∃ a dx fs, x = .ref a ∧ H1 a = some (.ins C dx fs) ∧ fs.lookup m = none ∧ tr σ H1 (fun vs H2 => sp (x :: vs) H2 Q E)
theorem g_meth (h : ta σ H (kMeth C m sp tr σ E Q)) : tMeth C m sp [] E ta tr σ H Q := by
  have e : (fun (x : V) (H1 : Hp) => ∃ a dx fs, x = .ref a ∧ H1 a = some (.ins C dx fs) ∧ fs.lookup m = none ∧ tr σ H1 fun vs H2 => sp (x :: (vs ++ [])) H2 Q E) = kMeth C m sp tr σ E Q := by
    funext x H1
    unfold kMeth
    have : (fun (vs : List V) (H2 : Hp) => sp (x :: (vs ++ [])) H2 Q E) = fun vs H2 => sp (x :: vs) H2 Q E := by
      funext vs H2
      rw [List.append_nil]
    rw [this]
  show ta σ H (fun (x : V) (H1 : Hp) => ∃ a dx fs, x = .ref a ∧ H1 a = some (.ins C dx fs) ∧ fs.lookup m = none ∧ tr σ H1 fun vs H2 => sp (x :: (vs ++ [])) H2 Q E)
  rw [e]
  exact h
theorem g_kMeth {a dx : Addr} {fs : List (Str × V)} (h : H a = some (.ins C dx fs)) (l : fs.lookup m = none) (q : tr σ H (fun vs H2 => sp (.ref a :: vs) H2 Q E)) : kMeth C m sp tr σ E Q (.ref a) H := ⟨a, dx, fs, rfl, h, l, q⟩
def kFld (K : PySem.W.Frag) (f : Str) (Q : VK) : VK := fun x H1 => ∃ a C dx fs v, x = .ref a ∧ H1 a = some (.ins C dx fs) ∧ Cls K C ∧ NoAttr K C f ∧ fs.lookup f = some v ∧ Q v H1
theorem g_fld (h : ta σ H (kFld K f Q)) : tFld K ta f σ H Q := h
theorem g_kFld {a dx : Addr} {fs : List (Str × V)} (h : H a = some (.ins C dx fs)) (c : Cls K C) (n : NoAttr K C f) (l : fs.lookup f = some v) (q : Q v H) : kFld K f Q (.ref a) H := ⟨a, C, dx, fs, v, rfl, h, c, n, l, q⟩
def kFldS (K : PySem.W.Frag) (f : Str) (nx : L2.St → Hp → Prop) (σ : L2.St) (y : V) : VK := fun x H2 => ∃ a C dx fs, x = .ref a ∧ H2 a = some (.ins C dx fs) ∧ Cls K C ∧ NoAttr K C f ∧ fs.length < 1000 ∧ nx σ (upd H2 a (.ins C dx (putF f y fs)))
theorem g_fldS (h : tb σ H (fun y H1 => ta σ H1 (kFldS K f nx σ y))) : sFld K ta tb f ⟨nx, rt, bk, ct⟩ σ H := h
theorem g_kFldS {a dx : Addr} {fs : List (Str × V)} (h : H a = some (.ins C dx fs)) (c : Cls K C) (n : NoAttr K C f) (l : fs.length < 1000) (q : ∀ H2, Step [a] H H2 → H2 a = some (.ins C dx (putF f y fs)) → nx σ H2) : kFldS K f nx σ y (.ref a) H :=
  ⟨a, C, dx, fs, rfl, h, c, n, l, q _ ((Step.refl [a] H).wr (List.mem_singleton.mpr rfl)) upd_same⟩
def kCh (r : R2) (tc : TE) (σ : L2.St) (y : V) (Q : VK) : VK := fun z H3 => ∃ k, z = .bl k ∧ if k = true then tc σ H3 (fun w H4 => r y w H4 Q) else Q (.bl false) H3
theorem g_chain {r r' : R2} {tc : TE} (h : ta σ H (fun x H1 => tb σ H1 (fun y H2 => r x y H2 (kCh r' tc σ y Q)))) : tChain r r' ta tb tc σ H Q := h
theorem g_kCh {r : R2} {tc : TE} {k : Bool} (h : if k = true then tc σ H (fun w H4 => r y w H4 Q) else Q (.bl false) H) : kCh r tc σ y Q (.bl k) H := ⟨k, rfl, h⟩
/-! a list taken apart -/
theorem g_lst2 {Q : L2.St → Hp → Prop} {a : Addr} {x y : V} {k l : Nat} (h : H a = some (.lst [x, y])) (q : Q ((σ.set k (some x)).set l (some y)) H) : gLst K 2 (gCons (gName k) (gCons (gName l) gNil)) (.ref a) σ H Q := ⟨a, _, rfl, SqL.of h, rfl, _, _, rfl, _, _, rfl, rfl, q⟩
/-! for i, (x, y) in enumerate(zip(xs, ys)) -/
def kEz (K : PySem.W.Frag) (R : WK) : List V → Hp → Prop := fun vs H1 => ∃ a b xs ys, vs = [.ref a, .ref b] ∧ SqL K H1 a xs ∧ SqL K H1 b ys ∧ R (Itez K a b) H1
theorem g_ez {R : WK} (h : tr σ H (kEz K R)) : iEnumZip K tr σ H R := h
theorem g_kEz {R : WK} {a b : Addr} {xs ys : List V} (h1 : H a = some (.lst xs)) (h2 : H b = some (.lst ys)) (q : R (Itez K a b) H) : kEz K R [.ref a, .ref b] H := ⟨a, b, xs, ys, rfl, SqL.of h1, SqL.of h2, q⟩
theorem wFor_ez {t : TS} {a b : Addr} {xs ys : List V} {k l m : Nat} (Pv : Nat → L2.St → Hp → Prop) (h0 : Pv 0 σ H) (hl : ∀ i σ H, i ≤ min xs.length ys.length → Pv i σ H → H a = some (.lst xs) ∧ H b = some (.lst ys))
    (hs : ∀ i x y σ H H2, xs[i]? = some x → ys[i]? = some y → Pv i σ H → Step [] H H2 → t ⟨Pv (i + 1), rt, nx, Pv (i + 1)⟩ (((σ.set k (some (.int i))).set l (some x)).set m (some y)) H2) (hd : ∀ σ H, Pv (min xs.length ys.length) σ H → nx σ H) :
    wFor (Itez K a b) (gTup K 2 (gCons (gName k) (gCons (gTup K 2 (gCons (gName l) (gCons (gName m) gNil))) gNil))) t ⟨nx, rt, bk, ct⟩ σ H :=
  wFor_gen (min xs.length ys.length) Pv h0 (fun i σ H hi p => ⟨xs, ys, xs[i]'(by omega), ys[i]'(by omega), SqL.of (hl i σ H (Nat.le_of_lt hi) p).1, SqL.of (hl i σ H (Nat.le_of_lt hi) p).2, List.getElem?_eq_getElem (by omega), List.getElem?_eq_getElem (by omega)⟩)
    (fun σ H p => ⟨xs, ys, SqL.of (hl _ σ H (Nat.le_refl _) p).1, SqL.of (hl _ σ H (Nat.le_refl _) p).2, by omega⟩) (fun i σ H x H' hi p yy => by
    obtain ⟨T, U, x, y, e3, hU, hT, hne, e4, f1, f2⟩ := yy
    subst e3 e4
    have st : Step [] H (upd (upd H U (.tup [x, y])) T (.tup [.int (i : Nat), .ref U])) := (Step.new hU).trans (Step.new (by rw [upd_ne hne]; exact hT))
    refine ⟨T, _, rfl, SqT.of upd_same, rfl, _, _, rfl, _, _, rfl, ⟨U, _, rfl, SqT.of (by rw [upd_ne hne.symm]; exact upd_same), rfl, _, _, rfl, _, _, rfl, rfl, ?_⟩⟩
    exact ⟨rfl, hs i x y σ H _ (f1 xs (SqL.of (hl i σ H (Nat.le_of_lt hi) p).1)) (f2 ys (SqL.of (hl i σ H (Nat.le_of_lt hi) p).2)) p st⟩) hd
theorem wDc_list {g : TG} {tt : TT} {tk tv : TE} {ws : List Nat} {a : Addr} {xs : List V} (q : ∀ D H2, H D = none → Step [] H H2 → H2 D = some (.dK []) → ∃ Pv : Nat → Hp → Prop, Pv 0 H2 ∧ (∀ i H, i ≤ xs.length → Pv i H → H a = some (.lst xs)) ∧ (∀ i x H, xs[i]? = some x → Pv i H → g x (wipe σ ws) H (kTurnD tt tk tv ws σ D (Pv (i + 1)))) ∧ (∀ H, Pv xs.length H → Q (.ref D) H)) : wDc (Itl K a) g tt tk tv ws σ Q H :=
  wDc_gen xs.length fun D H2 h1 h2 h3 => by
    obtain ⟨Pv, p0, hl, hs, hd⟩ := q D H2 h1 h2 h3
    refine ⟨Pv, p0, fun i H hi p => ⟨xs, xs[i], SqL.of (hl i H (Nat.le_of_lt hi) p), List.getElem?_eq_getElem hi⟩, fun H p => ⟨xs, SqL.of (hl _ H (Nat.le_refl _) p), Nat.le_refl _⟩, fun i H x H' hi p y => ?_, hd⟩
    obtain ⟨e, y⟩ := y
    subst e
    exact hs i x _ (y xs (SqL.of (hl i _ (Nat.le_of_lt hi) p))) p
/-! isinstance of a tuple of types -/
theorem g_isiT {x : V} {tp : Addr} {ts : List String} {a : String} {r : Bool} (ht : H tp = some (.tup (ts.map V.ty))) (ty : TyX K H x (.type a)) (e : ts.all (fun b => (kitB a b).isSome) = true := by decide +kernel) (e2 : ts.any (fun b => kitB a b == some true) = r := by decide +kernel) (q : Q (.bl r) H) : rIsiT K [x, .ref tp] H Q := by
  refine ⟨x, tp, ts.map V.ty, _, ts.map Value.type, r, rfl, ht, ?_, ty, ?_, q⟩
  · clear e e2 ht
    induction ts with
    | nil => exact .nil
    | cons b bs ih => exact .cons (.ty b) ih
  · clear ht q
    induction ts generalizing r with
    | nil => subst e2; exact kitAny_nil
    | cons b bs ih =>
      rw [List.all_cons, Bool.and_eq_true] at e
      cases hb : kitB a b with
      | none => rw [hb] at e; cases e.1
      | some k =>
        have ih2 := ih e.2 rfl
        rw [List.any_cons, hb] at e2
        cases k with
        | true =>
          have : r = true := by rw [← e2]; rfl
          subst this
          exact kitAny_cons (kit_ty hb) (fun z => nomatch z) fun _ => rfl
        | false =>
          have e3 : (bs.any fun b => kitB a b == some true) = r := by rw [← e2]; rfl
          rw [e3] at ih2
          exact kitAny_cons (kit_ty hb) (fun _ => ih2) fun z => nomatch z
end
/-! dicts with texts as keys -/
section
variable {β : Type} {q : Rp β} {H H' : Hp}
def rDS (q : Rp β) : Rp (List (Str × β)) := fun H v xs => ∃ a kvs, v = .ref a ∧ H a = some (.dK kvs) ∧ Paired (fun (p : Key × V) (x : Str × β) => p.1 = Sum.inr x.1 ∧ q H p.2 x.2) kvs xs
theorem mDS (n : Mono q) : Mono (rDS q) := fun H H' v xs e ⟨a, kvs, h1, h2, h3⟩ => ⟨a, kvs, h1, e _ _ h2, Pmap h3 fun v x ⟨z1, z2⟩ => ⟨z1, n H H' _ _ e z2⟩⟩
theorem dsKeys : ∀ {kvs : List (Key × V)} {xs : List (Str × β)}, Paired (fun (p : Key × V) (x : Str × β) => p.1 = Sum.inr x.1 ∧ q H p.2 x.2) kvs xs → kvs.map (·.1) = (xs.map (·.1)).map Sum.inr
  | _, _, .nil => rfl
  | _, _, .cons h t => by rw [List.map_cons, List.map_cons, List.map_cons, h.1, dsKeys t]
theorem dsNew : ∀ {kvs : List (Key × V)} {xs : List (Str × β)} {z : Str}, Paired (fun (p : Key × V) (x : Str × β) => p.1 = Sum.inr x.1 ∧ q H p.2 x.2) kvs xs → z ∉ xs.map (·.1) → valV kvs (Sum.inr z) = none
  | _, _, _, .nil, _ => rfl
  | (k, v) :: _, (j, x) :: _, z, .cons h t, hi => by
    have h1 : k = Sum.inr j := h.1
    rw [List.map_cons, List.mem_cons] at hi
    rw [valV_neg (by rw [h1]; exact fun y => hi (.inl (Sum.inr.inj y).symm))]
    exact dsNew t fun y => hi (.inr y)
theorem dsAt : ∀ {kvs : List (Key × V)} {xs : List (Str × β)} {z : Str} {x : β}, Paired (fun (p : Key × V) (x : Str × β) => p.1 = Sum.inr x.1 ∧ q H p.2 x.2) kvs xs → (xs.map (·.1)).Nodup → (z, x) ∈ xs → ∃ v, valV kvs (Sum.inr z) = some v ∧ q H v x
  | _, _, _, _, .nil, _, h => by cases h
  | (k, v) :: _, (j, y) :: _, z, x, .cons h t, hn, hm => by
    obtain ⟨h1, h2⟩ := h
    have h1 : k = Sum.inr j := h1
    subst h1
    rw [List.map_cons, List.nodup_cons] at hn
    rcases List.mem_cons.mp hm with e | hm
    · cases e
      exact ⟨v, valV_pos rfl, h2⟩
    · rw [valV_neg (fun e => hn.1 (List.mem_map.mpr ⟨(z, x), hm, (Sum.inr.inj e).symm⟩))]
      exact dsAt t hn.2 hm
end
def rSortedDS : List V → Hp → VK → Prop := fun xs H Q => ∃ (a : Addr) (kvs : List (Key × V)) (ks : List Str), xs = [.ref a] ∧ Rd H a (.dK kvs) ∧ kvs.map (·.1) = ks.map Sum.inr ∧ ks.length < 64 ∧
    ∀ ys p, ys.Perm ks → sortedS ys = true → H p = none → Q (.ref p) (upd H p (.lst (ys.map V.str)))
theorem cr_sortedDS {X : Cx} (hc : X.calm = true) : CallR X (.builtin "sorted") rSortedDS := call_sortedD hc
theorem g_sortedDS {H : Hp} {Q : VK} {p : Addr} {kvs : List (Key × V)} {ks : List Str} (h : Rd H p (.dK kvs)) (e : kvs.map (·.1) = ks.map Sum.inr) (hl : ks.length < 64) (q : ∀ (ys : List Str) p' H2, ys.Perm ks → sortedS ys = true → H p' = none → Step [] H H2 → H2 p' = some (.lst (ys.map V.str)) → Q (.ref p') H2) : rSortedDS [.ref p] H Q :=
  ⟨p, kvs, ks, rfl, h, e, hl, fun ys p' e1 e2 e3 => q ys p' _ e1 e2 e3 (Step.new e3) upd_same⟩
/-! != of two lists, their items compared within this program -/
section
variable {prog : Program} {w : World}
open AutoSeq1 (wpAny_loadPart') in
open PySem.SeqAt MeetsSeq MeetsSeq2 MeetsSeq3 in
theorem ne_walk (l b : Addr) (us vs : Array Value) (n n2 : Nat) (dd dd2 : Option Addr) (sl sl2 : Array (Option Value)) (hsz : us.size = vs.size) (e : Nat → Bool) (k : Nat) :
    ∀ i : Nat, us.size - i = k → MeetsIn prog w (Builtin.«list.__eq__.loop» ⟨[.ref l, .ref b, rawInt i, rawInt 3], []⟩)
      (fun A R s => s.heap.get? l = some { cls := .type "list", dict := dd, data := .seq us n, slots := sl } ∧ s.heap.get? b = some { cls := .type "list", dict := dd2, data := .seq vs n2, slots := sl2 } ∧
        (∀ j (h1 : j < us.size) (h2 : j < vs.size), EqIn prog w A.in1 s us[j] vs[j] (e j)) ∧ R (.ok (.ret (.bool (!((List.range us.size).drop i).all e)))) s) := by
  induction k with
  | zero =>
    intro i hk A R s h
    obtain ⟨hp, g, d, tk, os⟩ := s
    obtain ⟨hl, hb, he, h⟩ := h
    wp_walk using wpAny_loadPart' hl, wpAny_loadPart' hb
    have none1 : us[((i : Nat) : Int).toNat]? = none := by simp; omega
    have none2 : vs[((i : Nat) : Int).toNat]? = none := by simp; omega
    have nil : (List.range us.size).drop i = [] := by simp; omega
    rw [nil] at h
    rw [none1, none2]
    wp_walk using wpAny_loadPart' hl, wpAny_loadPart' hb
    show R (.ok (.ret (.bool (us.size != vs.size)))) _
    rw [hsz]
    simpa using h
  | succ k ih =>
    intro i hk A R s h
    obtain ⟨hp, g, d, tk, os⟩ := s
    obtain ⟨hl, hb, he, h⟩ := h
    wp_walk using wpAny_loadPart' hl, wpAny_loadPart' hb
    have lt1 : i < us.size := by omega
    have lt2 : i < vs.size := by omega
    have some1 : us[((i : Nat) : Int).toNat]? = some us[i] := by simp [lt1]
    have some2 : vs[((i : Nat) : Int).toNat]? = some vs[i] := by simp [lt2]
    have cut : (List.range us.size).drop i = i :: (List.range us.size).drop (i + 1) := by simp [List.drop_eq_getElem_cons, lt1]
    have cast : ((i : Int) + 1) = ((i + 1 : Nat) : Int) := by push_cast; rfl
    rw [cut, List.all_cons] at h
    rw [some1, some2]
    refine wpAny_bind (he i lt1 lt2 _ _ ?_)
    cases ei : e i with
    | true =>
      rw [ei] at h
      wp_walk
      rw [cast]
      exact ⟨plainId_quiet plain_eq_loop _, codeAny_builtin entry_eq_loop (by
        rw [Around.under_plainId plain_eq_loop _]
        exact ih (i + 1) (by omega) A R _ ⟨hl, hb, he, by simpa using h⟩)⟩
    | false =>
      rw [ei] at h
      wp_walk using wpAny_loadPart' hl, wpAny_loadPart' hb
      rw [some1, some2]
      wp_walk
      simpa using h
open AutoSeq1 (wpAny_loadPart') in
open PySem.SeqAt MeetsSeq MeetsSeq2 MeetsSeq3 in
theorem ne_start (l b : Addr) (us vs : Array Value) (n n2 : Nat) (dd dd2 : Option Addr) (sl sl2 : Array (Option Value)) (hsz : us.size = vs.size) (e : Nat → Bool) :
    MeetsIn prog w (Builtin.«list.__ne__» ⟨[.ref l, .ref b], []⟩)
      (fun A R s => s.heap.get? l = some { cls := .type "list", dict := dd, data := .seq us n, slots := sl } ∧ s.heap.get? b = some { cls := .type "list", dict := dd2, data := .seq vs n2, slots := sl2 } ∧
        (∀ j (h1 : j < us.size) (h2 : j < vs.size), EqIn prog w A.in1 s us[j] vs[j] (e j)) ∧ R (.ok (.ret (.bool (!(List.range us.size).all e)))) s) := by
  intro A R s h
  obtain ⟨hp, g, d, tk, os⟩ := s
  obtain ⟨hl, hb, he, h⟩ := h
  have f3 := AutoSeq1.sub_list_list
  have alike : ¬ (us.size != vs.size) = true := by simp [hsz]
  wp_walk using wpAny_loadPart' hl, wpAny_loadPart' hb
  exact ⟨plainId_quiet plain_eq_loop _, codeAny_builtin entry_eq_loop (by
    rw [Around.under_plainId plain_eq_loop _]
    exact ne_walk l b us vs n n2 dd dd2 sl sl2 hsz e _ 0 rfl A R _ ⟨hl, hb, he, by simpa using h⟩)⟩
theorem ne_listsIn {A : Around} {s : Shared} {E : Value → Shared → Prop} {l b : Addr} {us vs : Array Value} {e : Nat → Bool} {Q : Value → Shared → Prop} (hl : s.heap.IsList l us) (hb : s.heap.IsList b vs) (hsz : us.size = vs.size) (hu : A.units < cLine)
    (he : ∀ j (h1 : j < us.size) (h2 : j < vs.size), SeqAt.EqIn prog w A.in1 s us[j] vs[j] (e j)) (h : Q (.bool (!(List.range us.size).all e)) s) : wpAny (model prog w) A (compareOp .NotEq (.ref l) (.ref b)) Q E s := by
  obtain ⟨⟨cls, dd, data, sl⟩, ho, hc, n, hd⟩ := id hl
  obtain ⟨⟨cls2, dd2, data2, sl2⟩, ho2, hc2, n2, hd2⟩ := id hb
  simp only at hc hd hc2 hd2
  subst hc hd hc2 hd2
  exact wpAny_richCompare_same_room (T := "list") (op := .NotEq) ⟨_, ho, rfl⟩ ⟨_, ho2, rfl⟩ F.slot_list_ne (call_meetsIn F.slot_list_ne ⟨_, ho, rfl⟩ F.entry_list_ne (F.args_list_ne_2 _ _) (ne_start l b us vs n n2 dd dd2 sl sl2 hsz e)
    ⟨ho, ho2, he, show Value.bool (!(List.range us.size).all e) ≠ Value.notImplemented ∧ Q (.bool (!(List.range us.size).all e)) s from ⟨(fun x => nomatch x), h⟩⟩) hu
end
end My
/-! KitT: sets of texts counted, tuples sorted by their first text, own ==, defs as arguments. -/
namespace My
open PySem PySem.Spec PyProof.Rows L2
/-- how many unlike ones stand among the first i -/
def cntS (xs : List Str) : Nat → Nat
  | 0 => 0
  | i + 1 => if (xs.take i).any (· == xs.getD i Str.empty) = true then cntS xs i else cntS xs i + 1
theorem cntS_le (xs : List Str) : ∀ i, cntS xs i ≤ i
  | 0 => Nat.le_refl _
  | i + 1 => by
    have := cntS_le xs i
    unfold cntS
    split <;> omega
theorem cntS_nodup {xs : List Str} : ∀ i, i ≤ xs.length → (cntS xs i = i ↔ (xs.take i).Nodup)
  | 0, _ => by simp [cntS]
  | i + 1, h => by
    have ih := cntS_nodup (xs := xs) i (by omega)
    have le := cntS_le xs i
    have hi : i < xs.length := by omega
    have e : xs.getD i Str.empty = xs[i] := by simp [List.getD, hi]
    have et : xs.take (i + 1) = xs.take i ++ [xs[i]] := by rw [List.take_add_one, List.getElem?_eq_getElem hi]; rfl
    unfold cntS
    rw [e, et, List.nodup_append]
    by_cases hm : xs[i] ∈ xs.take i
    · have ha : (xs.take i).any (· == xs[i]) = true := List.any_eq_true.mpr ⟨_, hm, by simp⟩
      rw [if_pos ha]
      exact ⟨fun z => by omega, fun z => absurd rfl (z.2.2 _ hm _ (List.mem_singleton.mpr rfl))⟩
    · have ha : ¬ (xs.take i).any (· == xs[i]) = true := fun z => by
        obtain ⟨y, hy, ey⟩ := List.any_eq_true.mp z
        exact hm (by have : y = xs[i] := by simpa using ey
                     rw [← this]; exact hy)
      rw [if_neg ha]
      refine ⟨fun z => ⟨ih.mp (by omega), by simp, fun a ha b hb => ?_⟩, fun z => by rw [ih.mpr z.1]⟩
      rw [List.mem_singleton.mp hb]
      exact fun q => hm (q ▸ ha)
section
variable {prog : Program} {w : World} {A : Around} {R : Result → Shared → Prop} {I : Addr} {fp wr : List Addr} {G : Array GenState → Array GenState → Prop} {n : Nat} {P : Nat → Value → Prop} {St : Nat → Shared → Prop}
theorem set_walk (W : WalksS prog w A.in1 I fp wr G n P St) (S : Addr) (hSf : S ∉ fp) (xs : List Str) (hsz : xs.length = n) (hn : n + 1 < scanBound)
    (hval : ∀ i v, P i v → ∃ t, v = .str (xs.getD i Str.empty) t) :
    ∀ (k i : Nat) (s : Shared), n - i = k → i ≤ n → St i s → s.heap.SetOf (PySem.strKind prog w) S (fun k' => (xs.take i).any (· == k')) (cntS xs i) →
      (∀ s', Moved (S :: wr) G s s' → s'.heap.SetOf (PySem.strKind prog w) S (fun k' => (xs.take n).any (· == k')) (cntS xs n) → R (.ok (.ret .none)) s') →
      codeAny (model prog w) A (.builtin "set.update.loop" ⟨[.ref S, .ref I], []⟩) R s := by
  have hSw : S ∉ wr := fun h => hSf (W.sub _ h)
  have hsub : ∀ b ∈ wr, b ∈ S :: wr := fun b hb => List.mem_cons_of_mem _ hb
  intro k
  induction k with
  | zero =>
    intro i s hk hi hst hS hR
    have hin : i = n := by omega
    subst hin
    refine codeAny_builtin PyProof.Rows.F.entry_set_update_loop ?_
    rw [Around.under_plainId PyProof.Rows.F.plain_set_update_loop _]
    show wpAny (model prog w) A.in1 (pyNext (.ref I) >>= _) _ _ s
    refine wpAny_bind (W.done s _ _ hst fun s' hm => ?_)
    show wpAny (model prog w) A.in1 (ret Value.none) _ _ s'
    exact wpAny_pure (hR s' (hm.mono hsub) (let ⟨o, es, ep, t, ho, rest⟩ := hS; ⟨o, es, ep, t, hm.heap S _ hSw ho, rest⟩))
  | succ k ih =>
    intro i s hk hi hst hS hR
    have hlt : i < n := by omega
    refine codeAny_builtin PyProof.Rows.F.entry_set_update_loop ?_
    rw [Around.under_plainId PyProof.Rows.F.plain_set_update_loop _]
    show wpAny (model prog w) A.in1 (pyNext (.ref I) >>= _) _ _ s
    refine wpAny_bind (W.item i s _ _ hlt hst fun v s' hP hst' hm => ?_)
    obtain ⟨t, rfl⟩ := hval i v hP
    have hS' : s'.heap.SetOf (PySem.strKind prog w) S (fun k' => (xs.take i).any (· == k')) (cntS xs i) := let ⟨o, es, ep, tb, ho, rest⟩ := hS; ⟨o, es, ep, tb, hm.heap S _ hSw ho, rest⟩
    show wpAny (model prog w) A.in1 (holding [Value.str (xs.getD i Str.empty) t] (setAdd S (.str (xs.getD i Str.empty) t)) >>= _) _ _ s'
    refine wpAny_bind (wpAny_holding ?_)
    unfold setAdd
    refine wpAny_holding ?_
    refine wpAny_bind ((PySem.strKind prog w).pyHash (k := xs.getD i Str.empty) (strKind_is _ _ _ _) ?_)
    have hc := cntS_le xs i
    refine wpAny_setAddHashed_of (knd := PySem.strKind prog w) (s := { s' with toks := s'.toks + 1 }) (strKind_is _ _ _ _) rfl hS' (by omega) fun h' hsb hS2 => ?_
    have hSi : h'.SetOf (PySem.strKind prog w) S (fun k' => (xs.take (i + 1)).any (· == k')) (cntS xs (i + 1)) := by
      have hl : i < xs.length := by omega
      have et : xs.take (i + 1) = xs.take i ++ [xs.getD i Str.empty] := by
        rw [List.take_add_one, List.getElem?_eq_getElem hl]
        simp [List.getD, hl]
      refine SetOf_congr hS2 (fun k' => ?_) rfl
      rw [et, List.any_append]
      congr 1
      show decide (k' = xs.getD i Str.empty) = ([xs.getD i Str.empty].any (· == k'))
      generalize xs.getD i Str.empty = x
      by_cases e : k' = x
      · subst e; simp
      · have hb : (x == k') = false := by simpa [beq_iff_eq] using (fun h' : x = k' => e h'.symm)
        simp [hb, e]
    refine wpAny_pure ⟨plainId_quiet PyProof.Rows.F.plain_set_update_loop _, ih (i + 1) _ (by omega) hlt (W.frame _ s' _ _ hst' (Nat.le_succ _) fun b hb o e => ?_) hSi fun s'' hm'' hS'' => ?_⟩
    · rw [hsb.2 b (fun h : b = S => hSf (by rw [← h]; exact hb))]; exact e
    · refine hR s'' (Moved.trans W.gtrans ((hm.mono hsub).then_heap (Nat.le_succ _) fun b o hb e => ?_) hm'') hS''
      rw [hsb.2 b (fun h : b = S => hb (by rw [h]; exact List.mem_cons_self))]; exact e
end
section
variable {prog : Program} {w : World} {A : Around} {E : Value → Shared → Prop} {s : Shared}
set_option maxHeartbeats 3200000 in
theorem set_of_strs {l : Addr} {items : Array Value} {xs : List Str} {Q : Value → Shared → Prop} (hh : A.handled = none) (hl : s.heap.IsList l items) (hi : StrsAre items.toList xs) (hn : xs.length + 1 < scanBound)
    (q : ∀ (h' : Heap) (tk : Nat), h'.SetOf (PySem.strKind prog w) s.heap.objs.size (fun k' => (xs.take items.size).any (· == k')) (cntS xs items.size) →
      (∀ b o, b < s.heap.objs.size → s.heap.get? b = some o → h'.get? b = some o) → Q (.ref s.heap.objs.size) { s with heap := h', toks := tk }) : wpAny (model prog w) A (call (.type "set") [.ref l]) Q E s := by
  obtain ⟨c, tl, hmro⟩ := PySem.F.called_set.mro
  have hmade := PySem.F.called_set.made
  have hsub := PySem.F.called_set.sub
  refine wpAny_call (codeAny_of_tree ?_)
  show wpAny (model prog w) _ (callAny (.type "set") _) _ _ _
  refine wpAny_pure ⟨Code.quiet_builtin _ (by decide +kernel), codeAny_builtin PySem.F.entry_type_call ?_⟩
  rw [Around.under_plain (weight_type_call_type "set" [.ref l] []) rfl]
  have h1 := PySem.F.called_set.notType
  have h2 := PySem.F.called_set.canCreate
  have hct := PySem.F.typeCall_set_1 (.ref l)
  repeat (any_goals (first | assumption | wp_step))
  refine codeAny_mono (code_set_new_1 (.ref l) (E := E) (Q₁ := fun obj s₁ => ∃ led : Bool, obj = .ref s.heap.objs.size ∧ s₁ = { s with heap := s.heap.push { cls := .type "set", dict := none, data := .set #[] 0 (.fresh 0 0 led) } }) fun led => ⟨led, rfl, rfl⟩) fun r s₁ hr => ?_
  cases r with
  | error e => exact hr
  | ok fl =>
    cases fl with
    | ret obj =>
      obtain ⟨led, rfl, rfl⟩ := hr
      have hS : (s.heap.push { cls := .type "set", dict := none, data := .set #[] 0 (.fresh 0 0 led) }).get? s.heap.objs.size = some { cls := .type "set", dict := none, data := .set #[] 0 (.fresh 0 0 led) } := Heap.get?_push_size _ rfl
      have hT : Shared.TypeIs { s with heap := s.heap.push { cls := .type "set", dict := none, data := .set #[] 0 (.fresh 0 0 led) } } (.ref s.heap.objs.size) "set" := ⟨_, hS, rfl⟩
      have hli := PySem.F.called_set.init.lookup
      have hbi := PySem.F.called_set.init.bind (.ref s.heap.objs.size)
      repeat (any_goals (first | assumption | wp_step))
      refine codeAny_mono (codeAny_call_builtin (R := wants (fun r s₂ => r = .none ∧ ∃ h' tk, s₂ = { s with heap := h', toks := tk } ∧ h'.SetOf (PySem.strKind prog w) s.heap.objs.size (fun k' => (xs.take items.size).any (· == k')) (cntS xs items.size) ∧
          (∀ b o, b < s.heap.objs.size → s.heap.get? b = some o → h'.get? b = some o)) E) PySem.F.called_set.init.plain PySem.F.entry_set_init (check_set_init_1 hT ?_)) fun r₂ s₂ hr₂ => ?_
      · obtain ⟨⟨ocls, odict, odata, oslots⟩, hol, hcl, nl, hdl⟩ := hl
        simp only at hcl hdl
        subst hcl hdl
        have hol' : (s.heap.push { cls := .type "set", dict := none, data := .set #[] 0 (.fresh 0 0 led) }).get? l = some { cls := .type "list", dict := odict, data := .seq items nl, slots := oslots } := Heap.get?_push_of_some _ hol
        have hsls := PySem.F.sub_list_set
        have hslf := PySem.F.sub_list_frozenset
        have hne : (Value.type "list" == Value.type "dict") = false := by decide
        have hl1 : (s.heap.push { cls := .type "set", dict := none, data := .set #[] 0 (.fresh 0 0 led) }).IsList l items := ⟨_, hol', rfl, nl, rfl⟩
        unfold Builtin.«set.__init__» noKeywords Builtin.Frozenset.updateFrom
        generalize hPI : pyIter = PI
        wp_walk
        subst hPI
        refine wpAny_pyIter_list hl1 (wpAny_bind (wpAny_runValue ?_))
        have hlS : l < s.heap.objs.size := Heap.lt_size hol
        have hneI : l ≠ (s.heap.push { cls := .type "set", dict := none, data := .set #[] 0 (.fresh 0 0 led) }).objs.size := by
          rw [Heap.size_push]; exact Nat.ne_of_lt (Nat.lt_succ_of_lt hlS)
        have hSf : s.heap.objs.size ∉ [(s.heap.push { cls := .type "set", dict := none, data := .set #[] 0 (.fresh 0 0 led) }).objs.size, l] := by
          rw [Heap.size_push]; simp only [List.mem_cons, List.not_mem_nil, or_false, not_or]
          exact ⟨Nat.ne_of_lt (Nat.lt_succ_self _), Nat.ne_of_gt hlS⟩
        have hsz : xs.length = items.size := by rw [← StrsAre.len_eq hi, Array.length_toList]
        refine set_walk ((Walks.list (by simp [hh] : A.in1.in1.in1.handled = none) _ l hneI items).toS) s.heap.objs.size hSf xs hsz (by omega)
          (fun i v hv => SS.strs_at hi i v (by rw [Array.getElem?_toList]; exact hv)) (items.size - 0) 0 _ (by omega) (Nat.zero_le _) ⟨⟨_, Heap.get?_push_size _ rfl, rfl, rfl⟩, (hl1.push _)⟩ ?hS0 ?hR
        case hS0 =>
          have hget : ((s.heap.push { cls := .type "set", dict := none, data := .set #[] 0 (.fresh 0 0 led) }).push { cls := .type "list_iterator", data := .fields #[.ref l, .int 0 0] }).get? s.heap.objs.size = some { cls := .type "set", dict := none, data := .set #[] 0 (.fresh 0 0 led) } := Heap.get?_push_of_some _ hS
          exact SetOf_congr ((setObjOf_fresh (knd := PySem.strKind prog w) led).setOf hget (by unfold scanBound; omega)) (fun _ => rfl) rfl
        case hR =>
          intro s' hm hS'
          obtain ⟨h', g', d', tk', os'⟩ := s'
          have eg : g' = s.gens := hm.gens
          have ed : d' = s.drawn := hm.drawn
          have eo : os' = s.os := hm.os
          subst eg ed eo
          show wpAny (model prog w) _ _ _ _ _
          refine wpAny_pure ?_
          show wpAny (model prog w) _ (ret Value.none) _ _ _
          refine wpAny_pure ⟨rfl, h', tk', rfl, hS', fun b o hb e => hm.heap b o ?_ (Heap.get?_push_of_some _ (Heap.get?_push_of_some _ e))⟩
          simp only [List.mem_cons, List.not_mem_nil, or_false, not_or]
          exact ⟨Nat.ne_of_lt hb, by rw [Heap.size_push]; exact Nat.ne_of_lt (Nat.lt_succ_of_lt hb)⟩
      · cases r₂ with
        | error e => exact hr₂
        | ok fl₂ =>
          cases fl₂ with
          | ret r =>
            obtain ⟨rfl, h', tk, rfl, hS', hk'⟩ := hr₂
            repeat (any_goals (first | assumption | wp_step))
            exact q _ _ hS' hk'
          | _ => exact hr₂.elim
    | _ => exact hr.elim
end
/-- len(set(xs)), xs a list of texts -/
def tLenSetS (K : PySem.W.Frag) (ta : TE) : TE := fun σ H Q => ta σ H fun x H1 => ∃ l, ∃ xs : List Str, x = .ref l ∧ SqL K H1 l (xs.map V.str) ∧ xs.length ≤ 1000 ∧ Q (.int (cntS xs xs.length : Nat)) H1
theorem pe_lenSetS {X : Cx} {a : Expr} {ta : TE} {p p2 q pos : Pos} (hc : X.calm = true) (hg : Gl X "len") (hm : X.mg "len" = none) (hg2 : Gl X "set") (hm2 : X.mg "set" = none) (ha : PE X a ta)
    (na : starEach [a] X.env = (false, eval a X.env) :: starEach [] X.env := by rfl) : PE X (.Call (.Name "len" p) [.Call (.Name "set" p2) [a] [] q] [] pos) (tLenSetS X.K ta) := by
  refine ⟨fun pins s σ H Q I h => ?_⟩
  refine Call_ (ld_blt I hg hm boot_len (PyProof.Rows.callWith_builtin1 (PyProof.Rows.args_cons ?_ rfl) rfl rfl))
  refine Call_ (ld_blt I hg2 hm2 boot_set (PyProof.Rows.callWith_type1 (PyProof.Rows.args_cons (thn (ha.run pins s σ H _ I h) fun v s1 ⟨x, H1, I1, r1, q1⟩ => PyProof.Rows.args_nil ?_) na) na rfl))
  obtain ⟨l, xs, rfl, hq, h1, q1⟩ := q1
  cases r1
  obtain ⟨its, r, pl, hz⟩ := I1.list hq
  refine set_of_strs (xs := xs) (I1.ok.hd hc) pl.isList (by simpa using strsAre_of r) (by unfold scanBound; omega) fun h' tk hS hk => PyProof.Rows.args_nil ?_
  have hl : its.toArray.size = xs.length := by rw [List.size_toArray, ← r.length, List.length_map]
  rw [hl] at hS
  obtain ⟨o, es, ep, t, ho, hex, hd, _, _, _, hf, hn⟩ := hS
  have hcl := cntS_le xs xs.length
  have I2 : Inv X pins σ H1 { s1 with heap := h', toks := tk } := I1.kept fun b o e => hk b o (Heap.lt_size e) e
  exact call_len_set ho hex hd hf (by rw [hn]; omega) ⟨.int (cntS xs xs.length : Nat), H1, I2.tok _, ⟨_, by rw [hn]⟩, q1⟩
def kLenSetS (K : PySem.W.Frag) (Q : VK) : VK := fun x H1 => ∃ l, ∃ xs : List Str, x = .ref l ∧ SqL K H1 l (xs.map V.str) ∧ xs.length ≤ 1000 ∧ Q (.int (cntS xs xs.length : Nat)) H1
theorem g_lenSetS {K : PySem.W.Frag} {ta : TE} {σ : L2.St} {H : Hp} {Q : VK} (h : ta σ H (kLenSetS K Q)) : tLenSetS K ta σ H Q := h
theorem g_kLenSetS {K : PySem.W.Frag} {H : Hp} {Q : VK} {l : Addr} {xs : List Str} (h : H l = some (.lst (xs.map V.str))) (hl : xs.length ≤ 1000) (q : Q (.int (cntS xs xs.length : Nat)) H) : kLenSetS K Q (.ref l) H := ⟨l, xs, rfl, SqL.of h, hl, q⟩
end My
/-! KitU: sorted of data. -/
namespace My
open PySem PySem.Spec PyProof.Rows L2 PySem.W
/-- sorted(xs), the items alike data: (value, datum) -/
def rSortedC (K : PySem.W.Frag) : List V → Hp → VK → Prop := fun xs H Q => ∃ (a : Addr) (zs : List (V × PyData)), xs = [.ref a] ∧ SqL K H a (zs.map (·.1)) ∧ (∀ z ∈ zs, Dp K H z.1 z.2) ∧ AllAlike (zs.map (·.2)) ∧ Sortable (zs.map (·.2)) ∧ (∀ z ∈ zs, z.2.depth ≤ 50) ∧
  ∀ p, H p = none → Q (.ref p) (upd H p (.lst ((zs.mergeSort (dataLe false (·.2))).map (·.1))))
theorem each_of {R : Value → V × PyData → Prop} : ∀ {zs : List (V × PyData)} {us : List Value}, Vals (zs.map (·.1)) us → (∀ z ∈ zs, ∀ u, L2.RelV z.1 u → R u z) → EachIs R us zs
  | [], _, .nil, _ => .nil
  | z :: zs, _, .cons r t, h => .cons (h z (List.mem_cons_self ..) _ r) (each_of t fun z hz => h z (List.mem_cons_of_mem _ hz))
theorem vals_of {us : List Value} {zs : List (V × PyData)} (h : EachIs (fun u (z : V × PyData) => L2.RelV z.1 u) us zs) : Vals (zs.map (·.1)) us := by
  induction h with
  | nil => exact .nil
  | cons r _ ih => exact .cons r ih
theorem cr_sortedC {X : Cx} (hu : X.A.units + 64 < cLine) : CallR X (.builtin "sorted") (rSortedC X.K) := by
  intro pins s σ H vs us Q I r h
  obtain ⟨a, zs, rfl, hs, hd, h1, h2, h3, q⟩ := h
  obtain ⟨its, rv, hl, hz⟩ := I.list hs
  obtain ⟨u, rfl, ru⟩ := vals1 r
  obtain rfl : u = Value.ref a := ru
  have hlen : zs.length ≤ sizeLine := by rw [List.length_map] at hz; exact hz
  refine sorted_data (R := fun u (z : V × PyData) => L2.RelV z.1 u) (enc := fun z : V × PyData => z.2) (bs := zs) hl.isList (each_of rv fun z _ u ru => ru) (each_of rv fun z hz u ru => Dp.reads I z.2 z.1 u (hd z hz) ru) h1 h2 hlen (fun z hz => by have := h3 z hz; omega) fun out ho he => ?_
  have hn : H (s.heap.objs.size + 1) = none := I.hok.fresh (Nat.le_succ _)
  obtain ⟨n, hn2⟩ := sortedAll_at s.heap its out.toArray
  refine ⟨.ref (s.heap.objs.size + 1), upd H (s.heap.objs.size + 1) (.lst ((zs.mergeSort (dataLe false (·.2))).map (·.1))), I.laid (t' := s.toks) (fun b o e => sortedAll_old e) (Nat.le_succ _) ⟨?_, out, n, vals_of he, hn2⟩, rfl, q _ hn⟩
  rw [List.length_map, List.length_mergeSort]
  exact hlen
section
variable {K : PySem.W.Frag} {α : Type} {r : Rp α} {H : Hp} {Q : VK}
theorem P_zip {r : V → α → Prop} : ∀ {vs : List V} {xs : List α} {z : V × α}, Paired r vs xs → z ∈ vs.zip xs → r z.1 z.2
  | _, _, _, .nil, h => by cases h
  | _, _, z, .cons a t, h => by
    rw [List.zip_cons_cons] at h
    rcases List.mem_cons.mp h with rfl | h
    · exact a
    · exact P_zip t h
theorem P_mergeSort {r : V → α → Prop} {enc : α → PyData} {vs : List V} {xs : List α} (h : Paired r vs xs) : ∃ vs', Paired r vs' (xs.mergeSort (dataLe false enc)) ∧
    (((vs.zip xs).map fun z => (z.1, enc z.2)).mergeSort (dataLe false (·.2))).map (·.1) = vs' := by
  refine ⟨_, ?_, rfl⟩
  have e1 : (((vs.zip xs).mergeSort (dataLe false fun z => enc z.2)).map fun z => (z.1, enc z.2)) = ((vs.zip xs).map fun z => (z.1, enc z.2)).mergeSort (dataLe false (·.2)) := List.map_mergeSort fun a _ b _ => rfl
  have e2 : (((vs.zip xs).mergeSort (dataLe false fun z => enc z.2)).map fun z => z.2) = ((vs.zip xs).map fun z => z.2).mergeSort (dataLe false enc) := List.map_mergeSort fun a _ b _ => rfl
  have e3 : (vs.zip xs).map (fun z => z.2) = xs := List.map_snd_zip (by rw [P_len h]; exact Nat.le_refl _)
  rw [e3] at e2
  rw [← e1, ← e2, List.map_map]
  have all : ∀ z ∈ (vs.zip xs).mergeSort (dataLe false fun z => enc z.2), r z.1 z.2 := fun z hz => P_zip h ((List.mergeSort_perm _ _).mem_iff.mp hz)
  generalize (vs.zip xs).mergeSort (dataLe false fun z => enc z.2) = S at all
  induction S with
  | nil => exact .nil
  | cons z S ih => exact .cons (all z (List.mem_cons_self ..)) (ih fun y hy => all y (List.mem_cons_of_mem _ hy))
theorem g_sortedC {p : Addr} {vs : List V} {xs : List α} (c : Cod K r) (h : H p = some (.lst vs)) (hp : Paired (r H) vs xs) (hal : ∀ x y, alike (c.enc x) (c.enc y) = true) (hk : Sortable (xs.map c.enc)) (hd : c.dep ≤ 50)
    (q : ∀ p' H2 vs', H p' = none → Step [] H H2 → H2 p' = some (.lst vs') → Paired (r H) vs' (xs.mergeSort (dataLe false c.enc)) → Q (.ref p') H2) : rSortedC K [.ref p] H Q := by
  obtain ⟨vs', h1, h2⟩ := P_mergeSort (enc := c.enc) hp
  have e3 : ((vs.zip xs).map fun z => (z.1, c.enc z.2)).map (·.1) = vs := by
    rw [List.map_map]
    exact List.map_fst_zip (by rw [P_len hp]; exact Nat.le_refl _)
  have e4 : ((vs.zip xs).map fun z => (z.1, c.enc z.2)).map (·.2) = xs.map c.enc := by
    have e5 : (vs.zip xs).map (fun z => z.2) = xs := List.map_snd_zip (by rw [P_len hp]; exact Nat.le_refl _)
    rw [List.map_map]
    have : ((fun x : V × PyData => x.2) ∘ fun z : V × α => (z.1, c.enc z.2)) = c.enc ∘ fun z => z.2 := rfl
    rw [this, ← List.map_map, e5]
  refine ⟨p, (vs.zip xs).map fun z => (z.1, c.enc z.2), rfl, by rw [e3]; exact SqL.of h, fun z hz => ?_, by rw [e4]; exact AllAlike.of hal, by rw [e4]; exact hk, fun z hz => ?_, fun p' hp' => ?_⟩
  · obtain ⟨y, hy, rfl⟩ := List.mem_map.mp hz
    exact c.dp _ _ _ (P_zip hp hy)
  · obtain ⟨y, hy, rfl⟩ := List.mem_map.mp hz
    exact Nat.le_trans (c.hdep _) hd
  · rw [h2]
    exact q p' _ vs' hp' (Step.new hp') upd_same h1
end
theorem inj_nd {α β : Type} {f : α → β} : ∀ {l : List α} {a b : α}, (l.map f).Nodup → a ∈ l → b ∈ l → f a = f b → a = b
  | [], _, _, _, h, _, _ => by cases h
  | x :: r, a, b, hn, ha, hb, e => by
    rw [List.map_cons, List.nodup_cons] at hn
    rcases List.mem_cons.mp ha with ea | ha'
    · rcases List.mem_cons.mp hb with eb | hb'
      · rw [ea, eb]
      · exact (hn.1 (List.mem_map.mpr ⟨b, hb', by rw [← e, ea]⟩)).elim
    · rcases List.mem_cons.mp hb with eb | hb'
      · exact (hn.1 (List.mem_map.mpr ⟨a, ha', by rw [e, eb]⟩)).elim
      · exact inj_nd hn.2 ha' hb' e
theorem ltCps_of : ∀ {a b : List Nat}, a < b → ltCps a b = true
  | [], [], h => absurd h (List.lt_irrefl _)
  | [], _ :: _, _ => rfl
  | _ :: _, [], h => absurd h (List.not_lt_nil _)
  | a :: r, b :: t, h => by
    rcases List.cons_lt_cons_iff.mp h with h | ⟨h1, h2⟩
    · simp [ltCps, h]
    · simp [ltCps, h1, ltCps_of h2]
theorem rising_pw : ∀ (p : Str) (l : List Str), risingS p l = true → (p :: l).Pairwise (fun a b => cs a ≤ cs b)
  | p, [], _ => List.pairwise_singleton _ _
  | p, x :: r, h => by
    unfold risingS at h
    rw [Bool.and_eq_true, Bool.not_eq_true'] at h
    have ih := rising_pw x r h.2
    have h1 : cs p ≤ cs x := List.not_lt.mp fun z => by
      have : ltCps x.cps.toList p.cps.toList = true := ltCps_of z
      rw [this] at h
      cases h.1
    refine List.pairwise_cons.mpr ⟨fun y hy => ?_, ih⟩
    rcases List.mem_cons.mp hy with rfl | hy
    · exact h1
    · exact List.le_trans h1 ((List.pairwise_cons.mp ih).1 y hy)
theorem sorted_pw {l : List Str} (h : sortedS l = true) : l.Pairwise (fun a b => cs a ≤ cs b) := by
  cases l with
  | nil => exact .nil
  | cons p l => exact rising_pw p l h
theorem le_of_dataLe {x y : Str} {xs ys : List PyData} (h : dataLt (.tuple (.str y :: ys)) (.tuple (.str x :: xs)) = false) : cs x ≤ cs y := by
  rw [dataLt_tuple, dataLt_cons (by rfl)] at h
  by_cases e : PyData.eqv (.str y) (.str x) = true
  · have : y = x := by simpa [PyData.eqv] using e
    rw [this]
    exact List.le_refl _
  · rw [if_neg e, dataLt_str] at h
    exact List.not_lt.mp (of_decide_eq_false h)
/-- rows in order by their names, the names unlike: the one list that sorted makes -/
theorem rows_sorted {β : Type} {enc : Str × β → PyData} (he : ∀ x, ∃ l, enc x = .tuple (.str x.1 :: l)) {zs rows : List (Str × β)} (hp : zs.Perm rows) (hn : (rows.map (·.1)).Nodup) (hs : sortedS (zs.map (·.1)) = true) : zs = rows.mergeSort (dataLe false enc) := by
  have p2 := List.mergeSort_perm rows (dataLe false enc)
  have T := sortLe_total (listOrd itemOrd) false fun b : Str × β => keyToks (enc b)
  have w0 := sorted_pw hs
  rw [List.pairwise_map] at w0
  have w1 : zs.Pairwise (fun a b => cs a.1 ≤ cs b.1) := w0
  have w2 : (rows.mergeSort (dataLe false enc)).Pairwise (fun a b => cs a.1 ≤ cs b.1) := by
    have := sort_pairwise T rows
    refine this.imp fun {a b} h => ?_
    obtain ⟨la, ea⟩ := he a
    obtain ⟨lb, eb⟩ := he b
    have h : (!dataLt (enc b) (enc a)) = true := h
    rw [Bool.not_eq_true', ea, eb] at h
    exact le_of_dataLe h
  refine (hp.trans p2.symm).eq_of_pairwise (fun a b ha hb h1 h2 => ?_) w1 w2
  exact inj_nd hn (hp.mem_iff.mp ha) (p2.mem_iff.mp hb) (cs_inj (List.le_antisymm h1 h2))
end My
/-! KitV: texts put together and taken apart. -/
namespace My
open PySem PySem.Spec PyProof.Rows L2
section
variable {σ : L2.St} {H : Hp} {te : TE} {ts : List TE} {acc y : Str} {i : Int} {Q : VK}
def kFmt (Q : VK) : VK := fun x H1 => (∃ y : Str, x = .str y ∧ y.length ≤ sizeLine ∧ Q (.str y) H1) ∨ ∃ i : Int, x = .int i ∧ i.natAbs.log2 < 1920 ∧ Q (.str (toString i)) H1
theorem g_fmt (h : te σ H (kFmt Q)) : tFmt te σ H Q := h
theorem g_kFmtS (h : y.length ≤ sizeLine) (q : Q (.str y) H) : kFmt Q (.str y) H := .inl ⟨y, rfl, h, q⟩
theorem g_kFmtI (h : i.natAbs.log2 < 1920) (q : Q (.str (toString i)) H) : kFmt Q (.int i) H := .inr ⟨i, rfl, h, q⟩
def kJs (ts : List TE) (acc : Str) (σ : L2.St) (R : Str → Hp → Prop) : VK := fun x H1 => ∃ y : Str, x = .str y ∧ (acc ++ y).length ≤ sizeLine ∧ tJs ts (acc ++ y) σ H1 R
theorem g_js {R : Str → Hp → Prop} (h : te σ H (kJs ts acc σ R)) : tJs (te :: ts) acc σ H R := h
theorem g_jsN {R : Str → Hp → Prop} (h : R acc H) : tJs [] acc σ H R := h
theorem g_kJs {R : Str → Hp → Prop} (hl : (acc ++ y).length ≤ sizeLine) (h : tJs ts (acc ++ y) σ H R) : kJs ts acc σ R (.str y) H := ⟨y, rfl, hl, h⟩
def kMS (r : V → List V → Hp → VK → Prop) (te : TE) (σ : L2.St) (Q : VK) : VK := fun x H1 => (∃ a, x = .str a) ∧ te σ H1 fun y H2 => r x [y] H2 Q
theorem g_mS {to : TE} {r : V → List V → Hp → VK → Prop} (h : to σ H (kMS r te σ Q)) : L2.tM1 r to te σ H Q := h
theorem g_kMS {r : V → List V → Hp → VK → Prop} {a : Str} (h : te σ H fun y H2 => r (.str a) [y] H2 Q) : kMS r te σ Q (.str a) H := ⟨⟨a, rfl⟩, h⟩
end
theorem cs_app (a b : Str) : cs (a ++ b) = cs a ++ cs b := TL.tl_append a b
theorem len_app (a b : Str) : (a ++ b).length = a.length + b.length := by
  rw [← cs_len, ← cs_len, ← cs_len, cs_app, List.length_append]
/-- the text of a number -/
def numS (i : Int) : Str := SX.S (TL.numL i.toNat)
theorem tos {i : Int} (h : 0 ≤ i) : Str.ofString (toString i) = numS i := by
  obtain ⟨n, rfl⟩ := Int.eq_ofNat_of_zero_le h
  exact SX.num_S n
theorem cs_numS (i : Int) : cs (numS i) = TL.numL i.toNat := rfl
theorem numS_len {i : Int} {k : Nat} (hk : 0 < k) (h0 : 0 ≤ i) (h : i < 10 ^ k) : (numS i).length ≤ k := by
  rw [← cs_len, cs_numS]
  refine TL.numL_len hk ?_
  have : ((10 ^ k : Nat) : Int) = 10 ^ k := by rw [Int.natCast_pow]; rfl
  omega
theorem log_small {i : Int} (h0 : 0 ≤ i) (h : i < 10 ^ 60) : i.natAbs.log2 < 1920 := by
  have h1 : i.natAbs < 2 ^ 1920 := by
    have : (10 : Nat) ^ 60 < 2 ^ 1920 := by decide +kernel
    have h2 : ((10 ^ 60 : Nat) : Int) = 10 ^ 60 := by decide +kernel
    omega
  by_cases h2 : i.natAbs = 0
  · rw [h2]; decide
  · exact (Nat.log2_lt h2).mpr h1
/-! names and figures -/
def lowB (c : Nat) : Bool := decide (97 ≤ c) && decide (c ≤ 122)
def digB (c : Nat) : Bool := decide (48 ≤ c) && decide (c ≤ 57)
def nmB (z : Str) : Bool := decide (1 ≤ z.length) && (decide (z.length ≤ 8) && (cs z).all lowB)
def figB (m : Int) (z : Str) : Bool := !decide (z = "") && (decide ((z.length : Int) ≤ m) && ((cs z).all digB && (decide (z = "0") || !decide ((cs z).head? = some 48))))
def valS (z : Str) : Int := (NumText.digitsVal (cs z) : Nat)
theorem lowB_iff {c : Nat} : lowB c = true ↔ isLow c := by
  unfold lowB isLow
  rw [Bool.and_eq_true, decide_eq_true_eq, decide_eq_true_eq]
theorem nmB_iff {z : Str} : nmB z = true ↔ IsNm z := by
  unfold nmB
  rw [Bool.and_eq_true, Bool.and_eq_true, decide_eq_true_eq, decide_eq_true_eq, List.all_eq_true]
  constructor
  · rintro ⟨h1, h2, h3⟩
    exact ⟨h1, h2, fun c hc => lowB_iff.mp (h3 c hc)⟩
  · rintro h
    exact ⟨h.lo, h.hi, fun c hc => lowB_iff.mpr (h.low c hc)⟩
theorem letters_mem {c : Nat} : c ∈ cs ("abcdefghijklmnopqrstuvwxyz" : Str) ↔ lowB c = true := by
  have e : cs ("abcdefghijklmnopqrstuvwxyz" : Str) = (List.range 26).map (97 + ·) := by decide +kernel
  rw [e, List.mem_map, lowB_iff]
  constructor
  · rintro ⟨a, h, rfl⟩
    have := List.mem_range.mp h
    exact ⟨by omega, by omega⟩
  · rintro ⟨h1, h2⟩
    exact ⟨c - 97, List.mem_range.mpr (by omega), by omega⟩
theorem figures_mem {c : Nat} : c ∈ cs ("0123456789" : Str) ↔ digB c = true := by
  have e : cs ("0123456789" : Str) = (List.range 10).map (48 + ·) := by decide +kernel
  unfold digB
  rw [e, List.mem_map, Bool.and_eq_true, decide_eq_true_eq, decide_eq_true_eq]
  constructor
  · rintro ⟨a, h, rfl⟩
    have := List.mem_range.mp h
    exact ⟨by omega, by omega⟩
  · rintro ⟨h1, h2⟩
    exact ⟨c - 48, List.mem_range.mpr (by omega), by omega⟩
theorem dec_of {p : Prop} [Decidable p] {b : Bool} (h : p ↔ b = true) : decide p = b := by
  cases b with
  | true => exact decide_eq_true (h.mpr rfl)
  | false => exact decide_eq_false fun x => absurd (h.mp x) (by decide)
theorem letters_dec {c : Nat} : decide (c ∈ cs ("abcdefghijklmnopqrstuvwxyz" : Str)) = lowB c := dec_of letters_mem
theorem figures_dec {c : Nat} : decide (c ∈ cs ("0123456789" : Str)) = digB c := dec_of figures_mem
theorem dig_all {z : Str} (h : (cs z).all digB = true) : (cs z).all (fun c => decide (48 ≤ c) && decide (c ≤ 57)) = true := h
theorem int_of_fig {m : Int} {z : Str} (h : figB m z = true) (hm : m ≤ 640) : PySem.intText? z = some (valS z) ∧ z.length ≤ 640 := by
  unfold figB at h
  simp only [Bool.and_eq_true, Bool.not_eq_true', decide_eq_false_iff_not, decide_eq_true_eq] at h
  obtain ⟨h1, h2, h3, _⟩ := h
  have hl : z.length ≤ 640 := by omega
  have e : SX.S (cs z) = z := SX.S_tl z
  have := SX.int_S (a := cs z) h3 (fun e => h1 (by rw [← SX.S_tl z]; show SX.S (cs z) = _; rw [e]; decide +kernel)) (by rw [cs_len]; omega)
  rw [e] at this
  exact ⟨this, hl⟩
/-! words -/
def houseIn (w : Str) : Option (Str × Str × Int) :=
  if nmB (Txt.partition w "@").1 && (nmB (Txt.partition (Txt.partition w "@").2.2 "*").1 && (figB 4 (Txt.partition (Txt.partition w "@").2.2 "*").2.2 && decide (valS (Txt.partition (Txt.partition w "@").2.2 "*").2.2 ≤ 1000)))
  then some ((Txt.partition w "@").1, (Txt.partition (Txt.partition w "@").2.2 "*").1, valS (Txt.partition (Txt.partition w "@").2.2 "*").2.2) else none
def ticketIn (w : Str) : Option (Int × List Str) :=
  if figB 9 (Txt.partition w ":").1 && (decide ((Txt.split (Txt.partition w ":").2.2 ",").length ≤ 10) && (decide (Txt.split (Txt.partition w ":").2.2 ",").Nodup && (Txt.split (Txt.partition w ":").2.2 ",").all nmB))
  then some (valS (Txt.partition w ":").1, Txt.split (Txt.partition w ":").2.2 ",") else none
section
variable {α : Type}
def rises (lt : α → α → Bool) (found : List α) (r : α) : Bool := match found.getLast? with
  | none => true
  | some l => lt l r
def rowsAt (f : Str → Option α) (lt : α → α → Bool) : List α → Nat → List Str → Nat ⊕ List α
  | found, _, [] => .inr found
  | found, k, w :: ws => match f w with
    | none => .inl k
    | some r => if rises lt found r = true then rowsAt f lt (found ++ [r]) (k + 1) ws else .inl k
def rowsIn (f : Str → Option α) (lt : α → α → Bool) (t : Str) : Nat ⊕ List α := if t = "" then .inr [] else rowsAt f lt [] 0 (Txt.split t " ")
theorem rowsAt_bad {f : Str → Option α} {lt : α → α → Bool} {found : List α} {k : Nat} {w : Str} {ws : List Str} (h : f w = none) : rowsAt f lt found k (w :: ws) = .inl k := by
  unfold rowsAt; rw [h]
theorem rowsAt_some {f : Str → Option α} {lt : α → α → Bool} {found : List α} {k : Nat} {w : Str} {ws : List Str} {r : α} (h : f w = some r) : rowsAt f lt found k (w :: ws) = if rises lt found r = true then rowsAt f lt (found ++ [r]) (k + 1) ws else .inl k := by
  conv => lhs; unfold rowsAt
  rw [h]
end
end My
/-! KitO: what the head is asked besides: own classes are told by isinstance, a default that is the empty tuple. -/
namespace My
open PySem PySem.Spec PyProof.Rows L2
def ownTyB (K : PySem.W.Frag) (C : Addr) : Bool := He.eqO (PySem.W.findIn K (.ref C) "__class__") (some (some (.builtin "object.__class__"))) &&
  (He.eqO (PySem.W.specialIn K (.builtin "object.__class__") "__get__") (some (some (.builtin "getset_descriptor.__get__"))) &&
    (decide (PySem.W.takesIn K (.builtin "object.__class__") = some true) && decide (PySem.W.mroIn K C (.type "object") = some true)))
structure OwnTy (K : PySem.W.Frag) (C : Addr) : Prop where
  ha : PySem.W.findIn K (.ref C) "__class__" = some (some (.builtin "object.__class__"))
  hn : PySem.W.specialIn K (.builtin "object.__class__") "__get__" = some (some (.builtin "getset_descriptor.__get__"))
  ht : PySem.W.takesIn K (.builtin "object.__class__") = some true
  hm : PySem.W.mroIn K C (.type "object") = some true
theorem ownTyB_ok {K : PySem.W.Frag} {C : Addr} (h : ownTyB K C = true) : OwnTy K C := by
  unfold ownTyB at h
  rw [Bool.and_eq_true, Bool.and_eq_true, Bool.and_eq_true, decide_eq_true_eq, decide_eq_true_eq] at h
  exact ⟨He.eqO_ok h.1, He.eqO_ok h.2.1, h.2.2.1, h.2.2.2⟩
theorem OwnTy.ty {K : PySem.W.Frag} {C a dx : Addr} {fs : List (Str × V)} {H : Hp} (o : OwnTy K C) (c : Cls K C) (h : H a = some (.ins C dx fs)) : TyX K H (.ref a) (.ref C) := .base (.ins h c o.ha o.hn o.ht o.hm)
theorem g_isiOwn {K : PySem.W.Frag} {C a dx : Addr} {fs : List (Str × V)} {H : Hp} {Q : VK} (o : OwnTy K C) (c : Cls K C) (h : H a = some (.ins C dx fs)) (q : Q (.bl true) H) : rIsi K [.ref a, .ref C] H Q :=
  ⟨.ref a, .ref C, .ref C, .ref C, true, rfl, .own C, o.ty c h, by unfold PySem.W.kitOne; exact if_pos (by simp), q⟩
def noTupB (K : PySem.W.Frag) (a : Addr) : Bool := match K.lookup a with
  | some ⟨.type n, _, .seq its _, _⟩ => decide (n = "tuple") && decide (its.size = 0)
  | _ => false
theorem noTupB_ok {K : PySem.W.Frag} {a : Addr} {H : Hp} (h : noTupB K a = true) : SqT K H a [] := by
  unfold noTupB at h
  split at h
  · rename_i n d its m sl e
    rw [Bool.and_eq_true, decide_eq_true_eq, decide_eq_true_eq] at h
    obtain ⟨rfl, hs⟩ := h
    have : its = #[] := Array.eq_empty_of_size_eq_zero hs
    subst this
    exact .inr ⟨_, #[], m, e, rfl, rfl, by decide, .nil⟩
  · cases h
end My
/-! KitW: lists of items with a tuple inside, defs told through a name, no rows. -/
namespace My
open PySem PySem.Spec PyProof.Rows L2
section
variable {K : PySem.W.Frag} {σ : L2.St} {H : Hp} {Q : VK} {tt : TT} {te : TE} {ws : List Nat}
theorem wLc_itemsN {d : Addr} {o : Obj} {kvs : List (Key × V)} {k l m : Nat} (q : ∀ D H2, H D = none → Step [] H H2 → H2 D = some (.lst []) → ∃ Pv : Nat → Hp → Prop, Pv 0 H2 ∧ (∀ i H, i ≤ kvs.length → Pv i H → H d = some (.frz o (.dK kvs))) ∧
    (∀ i p H H2 T, kvs[i]? = some p → Pv i H → H T = none → Step [] H H2 → ∃ U x y, p.2 = .ref U ∧ H2 U = some (.tup [x, y]) ∧ kTurn tt te ws σ D (Pv (i + 1)) ((((wipe σ ws).set k (some (kV p.1))).set l (some x)).set m (some y)) H2) ∧ (∀ H, Pv kvs.length H → Q (.ref D) H)) :
    wLc (Iti d o kvs) (gTup K 2 (gCons (gName k) (gCons (gTup K 2 (gCons (gName l) (gCons (gName m) gNil))) gNil))) tt te ws σ Q H :=
  wLc_gen kvs.length fun D H2 h1 h2 h3 => by
    obtain ⟨Pv, p0, hl, hs, hd⟩ := q D H2 h1 h2 h3
    refine ⟨Pv, p0, fun i H hi p => ⟨hl i H (Nat.le_of_lt hi) p, hi⟩, fun H p => ⟨hl _ H (Nat.le_refl _) p, Nat.le_refl _⟩, fun i H x H' hi p y => ?_, hd⟩
    obtain ⟨T, k, v, e2, e3, hT, e4⟩ := y
    subst e3 e4
    obtain ⟨U, x, y, e5, hU, t⟩ := hs i (k, v) H (upd H T (.tup [kV k, v])) T e2 p hT (Step.new hT)
    have e5 : v = .ref U := e5
    subst e5
    exact ⟨T, _, rfl, SqT.of upd_same, rfl, _, _, rfl, _, _, rfl, ⟨U, _, rfl, SqT.of hU, rfl, _, _, rfl, _, _, rfl, rfl, rfl, t⟩⟩
theorem g_callL {i : Nat} {f : Addr} {sp : Sp} {E : XK} {tr : TA} (hs : σ[i]? = some (some (.ref f))) (h : tr σ H (fun vs H1 => sp vs H1 Q E)) : tCallL i f sp [] E tr σ H Q := by
  refine ⟨hs, ?_⟩
  have e : (fun vs H1 => sp (vs ++ []) H1 Q E) = fun vs H1 => sp vs H1 Q E := by
    funext vs H1
    rw [List.append_nil]
  rw [e]
  exact h
end
/-- C() of an own class with one default -/
structure HasMk0 (P : Program) (w : World) (K : PySem.W.Frag) (mg : Str → Option Value) (base : Heap) (CX : CXT) (k : Nat) (x : Str) (ps : List Str) (dvs : List V) (sp : Sp) : Prop where
  ex : ∃ fd : FuncData, FnOk P w K mg base CX k (He.ma K (He.ga K x) "__init__") fd ps sp ∧ ∃ ds, Vals dvs ds ∧ Binds K fd ps ds
theorem g_make0 {K : PySem.W.Frag} {σ : L2.St} {H : Hp} {Q : VK} {C : Addr} {sp : Sp} {E : XK} {dvs : List V} (q : ∀ x H2, H x = none → Step [] H H2 → (∃ dx, H2 x = some (.ins C dx [])) → sp (.ref x :: dvs) H2 (fun v H3 => v = .non ∧ Q (.ref x) H3) E) : tMake C sp dvs E tNil σ H Q := fun x dx hx hd hne =>
  q x _ hx ((Step.new hd).trans (Step.new (by rw [upd_ne hne.symm]; exact hx))) ⟨dx, upd_same⟩
/-- for .. in (): nothing -/
theorem wFor_none {K : PySem.W.Frag} {σ : L2.St} {H : Hp} {a : Addr} {g : TG} {t : TS} {nx bk ct : L2.St → Hp → Prop} {rt : VK} (h : SqT K H a []) (q : nx σ H) : wFor (Itt K a) g t ⟨nx, rt, bk, ct⟩ σ H :=
  wFor_gen 0 (fun _ σ' H' => σ' = σ ∧ H' = H) ⟨rfl, rfl⟩ (fun i _ _ hi _ => absurd hi (Nat.not_lt_zero _)) (fun σ' H' p => ⟨[], by rw [p.2]; exact h, Nat.le_refl _⟩) (fun i _ _ _ _ hi _ _ => absurd hi (Nat.not_lt_zero _)) fun σ' H' p => by rw [p.1, p.2]; exact q
/-! dicts alike, in whatever order -/
section
variable {K : PySem.W.Frag} {β : Type} {q : Rp β} {H : Hp}
theorem dd_core (c : Cod K q) {a b : Addr} {ks ls : List (Key × V)} (ha : H a = some (.dK ks)) (hb : H b = some (.dK ls)) (hl : ks.length = ls.length) (hall : ∀ p ∈ ks, ∃ v x, valV ls p.1 = some v ∧ c.ok x ∧ q H p.2 x ∧ q H v x)
    (hd : c.dep ≤ 64 := by exact Nat.le_of_ble_eq_true rfl) : ∃ ks ls, DDat K H (.ref a) (.ref b) ks ls (fun _ => true) ∧ (ks.length == ls.length && ks.all fun p => (valV ls p.1).isSome && true) = true := by
  refine ⟨ks, ls, ⟨a, b, rfl, rfl, ha, hb, fun k v u hm hl => ?_⟩, ?_⟩
  · obtain ⟨v', x, e1, o, q1, q2⟩ := hall _ hm
    have e1 : valV ls k = some v' := e1
    rw [e1] at hl
    cases hl
    exact ⟨c.enc x, c.enc x, c.dp _ _ _ q1, c.dp _ _ _ q2, c.shaped o hd, c.shaped o hd, (c.eqv _ _).mpr rfl⟩
  · rw [hl, beq_self_eq_true, Bool.true_and, List.all_eq_true]
    intro p hp
    obtain ⟨v', x, e1, _⟩ := hall _ hp
    rw [e1]; rfl
theorem lookI_mem : ∀ {xs : List (Int × β)} {i : Int} {x : β}, (xs.map (·.1)).Nodup → (i, x) ∈ xs → lookI xs i = some x
  | [], _, _, _, h => by cases h
  | p :: r, i, x, hn, h => by
    rw [List.map_cons, List.nodup_cons] at hn
    rcases List.mem_cons.mp h with e | h
    · subst e; exact lookI_pos rfl
    · rw [lookI_neg fun z => hn.1 (List.mem_map.mpr ⟨(i, x), h, z.symm⟩)]
      exact lookI_mem hn.2 h
theorem dd_perm (c : Cod K q) {u v : V} {xs ys : List (Int × β)} (h1 : rDI q H u xs) (h2 : rDI q H v ys) (hp : xs.Perm ys) (hok : ∀ p ∈ xs, c.ok p.2) (hn : (xs.map (·.1)).Nodup) (hd : c.dep ≤ 64 := by exact Nat.le_of_ble_eq_true rfl) :
    ∃ ks ls, DDat K H u v ks ls (fun _ => true) ∧ (ks.length == ls.length && ks.all fun p => (valV ls p.1).isSome && true) = true := by
  obtain ⟨a, ks, rfl, ha, pa⟩ := h1
  obtain ⟨b, ls, rfl, hb, pb⟩ := h2
  refine dd_core c ha hb (by rw [P_len pa, P_len pb, hp.length_eq]) (fun p hp' => ?_) hd
  obtain ⟨⟨i, x⟩, hx, hk, hv⟩ := P_mem1 pa hp'
  have hk : p.1 = Sum.inl i := hk
  rw [hk]
  have hl := lookI_mem ((hp.map (·.1)).nodup_iff.mp hn) (hp.mem_iff.mp hx)
  rcases kvs_look (i := i) pb with ⟨_, e2⟩ | ⟨v', x', e1, e2, e3⟩
  · rw [hl] at e2; cases e2
  · rw [hl] at e2
    cases e2
    exact ⟨v', x, e1, hok _ hx, hv, e3⟩
theorem g_nePerm (c : Cod K q) {Q : VK} {u v : V} {xs ys : List (Int × β)} (h1 : rDI q H u xs) (h2 : rDI q H v ys) (hp : xs.Perm ys) (hok : ∀ p ∈ xs, c.ok p.2) (hn : (xs.map (·.1)).Nodup) (k : Q (.bl false) H) (hd : c.dep ≤ 64 := by exact Nat.le_of_ble_eq_true rfl) : rNeDD K u v H Q := by
  obtain ⟨ks, ls, D, e⟩ := dd_perm c h1 h2 hp hok hn hd
  exact ⟨ks, ls, _, D, by rw [e]; exact k⟩
theorem g_eqDS (c : Cod K q) {Q : VK} {u v : V} {xs : List (Str × β)} (h1 : rDS q H u xs) (h2 : rDS q H v xs) (hok : ∀ p ∈ xs, c.ok p.2) (hn : (xs.map (·.1)).Nodup) (k : Q (.bl true) H) (hd : c.dep ≤ 64 := by exact Nat.le_of_ble_eq_true rfl) : rEqDD K u v H Q := by
  obtain ⟨a, ks, rfl, ha, pa⟩ := h1
  obtain ⟨b, ls, rfl, hb, pb⟩ := h2
  obtain ⟨ks, ls, D, e⟩ := dd_core (q := q) c ha hb (by rw [P_len pa, P_len pb]) (fun p hp' => by
    obtain ⟨⟨i, x⟩, hx, hk, hv⟩ := P_mem1 pa hp'
    have hk : p.1 = Sum.inr i := hk
    rw [hk]
    obtain ⟨v', e1, e2⟩ := dsAt pb hn hx
    exact ⟨v', x, e1, hok _ hx, hv, e2⟩) hd
  exact ⟨ks, ls, _, D, by rw [e]; exact k⟩
end
end My
/-! KitX: texts cut at one sign. -/
namespace My
open PySem PySem.Spec PyProof.Rows L2
theorem Step.ofExt {H H' : Hp} (e : Ext H H') : Step [] H H' := ⟨fun b o _ h => e b o h, fun b h => by
  cases h2 : H b with
  | none => rfl
  | some o => rw [e b o h2] at h; cases h⟩
theorem part_cases (c : Nat) (z : Str) : (∃ a b : Str, z = a ++ (⟨#[c]⟩ : Str) ++ b ∧ c ∉ cs a ∧ Txt.partition z ⟨#[c]⟩ = (a, ⟨#[c]⟩, b)) ∨ (c ∉ cs z ∧ Txt.partition z ⟨#[c]⟩ = (z, Str.empty, Str.empty)) := by
  have ey : TL.tl (⟨#[c]⟩ : Str) = c :: [] := rfl
  by_cases h : c ∈ cs z
  · obtain ⟨a, b, e, hn⟩ := List.eq_append_cons_of_mem h
    have ez : z = SX.S a ++ (⟨#[c]⟩ : Str) ++ SX.S b := by
      refine TL.ext_tl ?_
      show cs z = cs _
      rw [cs_app, cs_app, e, List.append_assoc]
      rfl
    refine .inl ⟨SX.S a, SX.S b, ez, hn, ?_⟩
    conv => lhs; rw [ez]
    exact TL.partition_app ey hn
  · exact .inr ⟨h, TL.partition_none ey h⟩
theorem part_len (c : Nat) (z : Str) : (Txt.partition z ⟨#[c]⟩).1.length ≤ z.length ∧ (Txt.partition z ⟨#[c]⟩).2.2.length ≤ z.length := by
  rcases part_cases c z with ⟨a, b, e, _, h⟩ | ⟨_, h⟩
  · rw [h]
    have := congrArg Str.length e
    rw [len_app, len_app] at this
    exact ⟨by show a.length ≤ _; omega, by show b.length ≤ _; omega⟩
  · rw [h]
    exact ⟨Nat.le_refl _, Nat.zero_le _⟩
theorem join_ex (c : Nat) : ∀ l : List Nat, ∃ ps : List (List Nat), ps ≠ [] ∧ (∀ p ∈ ps, c ∉ p) ∧ TL.joinL [c] ps = l
  | [] => ⟨[[]], by simp, by simp, rfl⟩
  | d :: l => by
    obtain ⟨ps, h1, h2, h3⟩ := join_ex c l
    by_cases e : d = c
    · subst e
      refine ⟨[] :: ps, by simp, fun p hp => ?_, ?_⟩
      · rcases List.mem_cons.mp hp with rfl | hp
        · simp
        · exact h2 p hp
      · cases ps with
        | nil => exact absurd rfl h1
        | cons p r =>
          show [] ++ ([d] ++ TL.joinL [d] (p :: r)) = d :: l
          rw [h3]; rfl
    · cases ps with
      | nil => exact absurd rfl h1
      | cons p r =>
        refine ⟨(d :: p) :: r, by simp, fun q hq => ?_, ?_⟩
        · rcases List.mem_cons.mp hq with rfl | hq
          · intro hm
            rcases List.mem_cons.mp hm with z | z
            · exact e z.symm
            · exact h2 p (List.mem_cons_self ..) z
          · exact h2 q (List.mem_cons_of_mem _ hq)
        · rw [← h3]
          cases r with
          | nil => rfl
          | cons y z => rfl
theorem joinL_len (c : Nat) : ∀ ps : List (List Nat), ps.length ≤ (TL.joinL [c] ps).length + 1 ∧ ∀ p ∈ ps, p.length ≤ (TL.joinL [c] ps).length
  | [] => ⟨by simp, by simp⟩
  | [p] => ⟨by simp, fun q hq => by rw [List.mem_singleton.mp hq]; exact Nat.le_refl _⟩
  | p :: q :: r => by
    obtain ⟨h1, h2⟩ := joinL_len c (q :: r)
    have e : (TL.joinL [c] (p :: q :: r)).length = p.length + (1 + (TL.joinL [c] (q :: r)).length) := by
      show (p ++ ([c] ++ TL.joinL [c] (q :: r))).length = _
      rw [List.length_append, List.length_append]; rfl
    refine ⟨by rw [List.length_cons]; omega, fun x hx => ?_⟩
    rcases List.mem_cons.mp hx with rfl | hx
    · omega
    · have := h2 x hx
      omega
structure CutAt (c : Nat) (z : Str) (ps : List Str) : Prop where
  ne : ps ≠ []
  free : ∀ p ∈ ps, c ∉ cs p
  join : Txt.join ⟨#[c]⟩ ps = z
  split : Txt.split z ⟨#[c]⟩ = ps
  many : ps.length ≤ z.length + 1
  len : ∀ p ∈ ps, p.length ≤ z.length
theorem cut_of {c : Nat} {z : Str} {ps : List Str} (hc : c < 256) (ne : ps ≠ []) (free : ∀ p ∈ ps, c ∉ cs p) (join : Txt.join ⟨#[c]⟩ ps = z) : CutAt c z ps := by
  have e : TL.tl z = TL.joinL [c] (ps.map TL.tl) := by
    rw [← join, TL.join_eq]
    exact TL.tl_join _ _
  obtain ⟨h1, h2⟩ := joinL_len c (ps.map TL.tl)
  have hz : z.length = (TL.joinL [c] (ps.map TL.tl)).length := by rw [← e]; exact (cs_len z).symm
  refine ⟨ne, free, join, ?_, ?_, fun p hp => ?_⟩
  · rw [← join]
    exact TL.split_join (s := c) (S := []) rfl (by simp [hc]) ne free
  · rw [List.length_map] at h1
    omega
  · have := h2 (TL.tl p) (List.mem_map.mpr ⟨p, hp, rfl⟩)
    rw [hz, ← cs_len]
    exact this
theorem cut_at (c : Nat) (z : Str) (hc : c < 256) : CutAt c z (Txt.split z ⟨#[c]⟩) := by
  obtain ⟨ps, h1, h2, h3⟩ := join_ex c (cs z)
  have hj : Txt.join ⟨#[c]⟩ (ps.map SX.S) = z := by
    refine TL.ext_tl ?_
    rw [TL.join_eq, TL.tl_join, SX.map_S_tl]
    exact h3
  have := cut_of (z := z) hc (by simpa using h1) (fun p hp => by obtain ⟨q, hq, rfl⟩ := List.mem_map.mp hp; exact h2 q hq) hj
  rw [this.split]
  exact this
theorem sum_le {B : Nat} : ∀ {ss : List Str}, (∀ s ∈ ss, s.length ≤ B) → (ss.map (·.length)).sum ≤ ss.length * B
  | [], _ => by simp
  | s :: r, h => by
    have h1 := h s (List.mem_cons_self ..)
    have h2 := sum_le (ss := r) fun x hx => h x (List.mem_cons_of_mem _ hx)
    rw [List.map_cons, List.sum_cons, List.length_cons, Nat.add_mul]
    omega
theorem empty_app (z : Str) : Str.empty ++ z = z := TL.ext_tl (by
  show cs _ = cs z
  rw [cs_app]; rfl)
theorem l_empty : Str.empty.length = 0 := rfl
theorem l_at : ("@" : Str).length = 1 := by decide +kernel
theorem l_star : ("*" : Str).length = 1 := by decide +kernel
theorem l_colon : (":" : Str).length = 1 := by decide +kernel
theorem l_comma : ("," : Str).length = 1 := by decide +kernel
theorem l_blank : (" " : Str).length = 1 := by decide +kernel
theorem l_slash : ("/" : Str).length = 1 := by decide +kernel
theorem l_gt : (">" : Str).length = 1 := by decide +kernel
theorem c_at : ("@" : Str) = ⟨#[64]⟩ := by decide +kernel
theorem c_star : ("*" : Str) = ⟨#[42]⟩ := by decide +kernel
theorem c_colon : (":" : Str) = ⟨#[58]⟩ := by decide +kernel
theorem c_comma : ("," : Str) = ⟨#[44]⟩ := by decide +kernel
theorem c_blank : (" " : Str) = ⟨#[32]⟩ := by decide +kernel
def rPart : V → List V → Hp → VK → Prop := fun x xs H Q => ∃ a b, x = .str a ∧ xs = [.str b] ∧ (b.length == 0) = false ∧ a.length ≤ sizeLine ∧
  ∀ p, H p = none → Q (.ref p) (upd H p (.tup [.str (Txt.partition a b).1, .str (Txt.partition a b).2.1, .str (Txt.partition a b).2.2]))
def rSplit : V → List V → Hp → VK → Prop := fun x xs H Q => ∃ a b, x = .str a ∧ xs = [.str b] ∧ (b.length == 0) = false ∧ a.length + 2 ≤ sizeLine ∧ rNewStrs (Txt.split a b) H Q
section
variable {X : Cx} {o e : Expr} {apos pos : Pos} {to te : TE}
theorem pe_partR (ho : PE X o to) (he : PE X e te) (hs : starEach [e] X.env = [(false, eval e X.env)] := by rfl) (hbase : attributeBase o "partition" X.env (eval o X.env) = eval o X.env := by rfl) (hline : (apos.endLine == pos.line) = true := by rfl) :
    PE X (.Call (.Attribute o "partition" apos) [e] [] pos) (L2.tM1 rPart to te) := pe_partition ho he hs hbase hline
theorem pe_splitR (ho : PE X o to) (he : PE X e te) (hs : starEach [e] X.env = [(false, eval e X.env)] := by rfl) (hbase : attributeBase o "split" X.env (eval o X.env) = eval o X.env := by rfl) (hline : (apos.endLine == pos.line) = true := by rfl) :
    PE X (.Call (.Attribute o "split" apos) [e] [] pos) (L2.tM1 rSplit to te) := pe_split ho he hs hbase hline
end
section
variable {K : PySem.W.Frag} {H : Hp} {Q : VK}
theorem g_partition {z y : Str} (hy : (y.length == 0) = false) (hl : z.length ≤ sizeLine) (q : ∀ p H2, H p = none → Step [] H H2 → H2 p = some (.tup [.str (Txt.partition z y).1, .str (Txt.partition z y).2.1, .str (Txt.partition z y).2.2]) → Q (.ref p) H2) :
    rPart (.str z) [.str y] H Q := ⟨z, y, rfl, rfl, hy, hl, fun p hp => q p _ hp (Step.new hp) upd_same⟩
theorem g_split {z y : Str} (hy : (y.length == 0) = false) (hl : z.length + 2 ≤ sizeLine) (q : ∀ p H2, H p = none → Step [] H H2 → H2 p = some (.lst ((Txt.split z y).map V.str)) → Q (.ref p) H2) :
    rSplit (.str z) [.str y] H Q := ⟨z, y, rfl, rfl, hy, hl, fun p hp => q p _ hp (Step.new hp) upd_same⟩
end
/-! the words of rows -/
def wordS (r : Str × Str × Int) : Str := r.1 ++ "@" ++ r.2.1 ++ "*" ++ numS r.2.2
def tickS (p : Int × List Str) : Str := numS p.1 ++ ":" ++ Txt.join "," p.2
def townS (rows : List (Str × Str × Int)) : Str := Txt.join " " (rows.map wordS)
theorem join_len {y : Str} {B : Nat} {ss : List Str} (hy : y.length ≤ 1) (h : ∀ s ∈ ss, s.length ≤ B) : (Txt.join y ss).length ≤ ss.length * (B + 1) := by
  rw [TL.join_eq, ← cs_len]
  have e : cs (Str.join y ss) = TL.joinL (cs y) (ss.map cs) := TL.tl_join y ss
  rw [e]
  have hy : (cs y).length ≤ 1 := by rw [cs_len]; exact hy
  generalize cs y = Y at *
  clear e
  induction ss with
  | nil => exact Nat.zero_le _
  | cons s r ih =>
    have h1 := h s (List.mem_cons_self ..)
    have ih := ih fun x hx => h x (List.mem_cons_of_mem _ hx)
    rw [← cs_len] at h1
    cases r with
    | nil =>
      show (cs s).length ≤ 1 * (B + 1)
      omega
    | cons t r =>
      show (cs s ++ (Y ++ TL.joinL Y ((t :: r).map cs))).length ≤ _
      rw [List.length_append, List.length_append, List.length_cons (a := s), Nat.add_mul]
      omega
theorem pe_joinRK {X : Cx} {e : Expr} {K : PySem.W.Frag} {to te : TE} (h : PE X e (L2.tM1 (rJoin X.K) to te)) (hK : X.K = K := by rfl) : PE X e (L2.tM1 (rJoin K) to te) := by subst hK; exact h
end My
/-! KitY: enumerate of a list; digits; what is read is good. -/
namespace My
open PySem PySem.Spec PyProof.Rows L2
theorem digits_bound : ∀ (n : Nat) (l : List Nat), l.length = n → l.all digB = true → NumText.digitsVal l < 10 ^ n
  | 0, l, h, _ => by
    rw [List.length_eq_zero_iff.mp h]
    decide
  | n + 1, l, h, ha => by
    have hne : l ≠ [] := fun e => by rw [e] at h; cases h
    have e := List.dropLast_concat_getLast hne
    rw [← e] at ha ⊢
    rw [List.all_append, Bool.and_eq_true] at ha
    have ih := digits_bound n l.dropLast (by rw [List.length_dropLast]; omega) ha.1
    have hd : digB (l.getLast hne) = true := by
      have := ha.2
      simpa using this
    unfold digB at hd
    rw [Bool.and_eq_true, decide_eq_true_eq, decide_eq_true_eq] at hd
    rw [NumText.digitsVal_snoc, Nat.pow_succ]
    omega
theorem valS_bound {m : Int} {z : Str} {k : Nat} (h : figB m z = true) (hm : m ≤ k) : 0 ≤ valS z ∧ valS z < 10 ^ k := by
  unfold figB at h
  simp only [Bool.and_eq_true, Bool.not_eq_true', decide_eq_false_iff_not, decide_eq_true_eq] at h
  obtain ⟨h1, h2, h3, _⟩ := h
  have b := digits_bound _ (cs z) rfl h3
  rw [cs_len] at b
  have hp : (10 : Nat) ^ z.length ≤ 10 ^ k := Nat.pow_le_pow_right (by decide) (by omega)
  have e : ((10 ^ k : Nat) : Int) = 10 ^ k := by rw [Int.natCast_pow]; rfl
  unfold valS
  omega
section
variable {K : PySem.W.Frag} {σ : L2.St} {H : Hp} {t : TS} {nx bk ct : L2.St → Hp → Prop} {rt : VK} {tr : TA}
def kEnum (K : PySem.W.Frag) (R : WK) : List V → Hp → Prop := fun vs H1 => ∃ a xs, vs = [.ref a] ∧ SqL K H1 a xs ∧ R (Ite K a) H1
theorem g_enum {R : WK} (h : tr σ H (kEnum K R)) : iEnum K tr σ H R := h
theorem g_kEnum {R : WK} {a : Addr} {xs : List V} (h : H a = some (.lst xs)) (q : R (Ite K a) H) : kEnum K R [.ref a] H := ⟨a, xs, rfl, SqL.of h, q⟩
theorem wFor_enum {a : Addr} {xs : List V} {k l : Nat} (Pv : Nat → L2.St → Hp → Prop) (h0 : Pv 0 σ H) (hl : ∀ i σ H, i ≤ xs.length → Pv i σ H → H a = some (.lst xs))
    (hs : ∀ i x σ H H2, xs[i]? = some x → Pv i σ H → Step [] H H2 → t ⟨Pv (i + 1), rt, nx, Pv (i + 1)⟩ ((σ.set k (some (.int (i : Nat)))).set l (some x)) H2) (hd : ∀ σ H, Pv xs.length σ H → nx σ H) :
    wFor (Ite K a) (gTup K 2 (gCons (gName k) (gCons (gName l) gNil))) t ⟨nx, rt, bk, ct⟩ σ H :=
  wFor_gen xs.length Pv h0 (fun i σ H hi p => ⟨xs, xs[i], SqL.of (hl i σ H (Nat.le_of_lt hi) p), List.getElem?_eq_getElem hi⟩) (fun σ H p => ⟨xs, SqL.of (hl _ σ H (Nat.le_refl _) p), Nat.le_refl _⟩) (fun i σ H x H' hi p yy => by
    obtain ⟨T, x, e3, hT, e4, f1⟩ := yy
    subst e3 e4
    exact ⟨T, _, rfl, SqT.of upd_same, rfl, _, _, rfl, _, _, rfl, rfl, hs i x σ H _ (f1 xs (SqL.of (hl i σ H (Nat.le_of_lt hi) p))) p (Step.new hT)⟩) hd
end
theorem at_last {α : Type} {xs : List α} {v : α} (h : xs.getLast? = some v) : atI xs (-1) = some v := by
  have hne : xs ≠ [] := fun e => by rw [e] at h; cases h
  have hl : 0 < xs.length := List.length_pos_iff.mpr hne
  unfold atI
  have e : ixN xs.length (-1) = some (xs.length - 1) := by
    unfold ixN
    rw [if_neg (by omega), if_pos (by omega)]
    congr 1
    omega
  rw [e]
  show xs[xs.length - 1]? = some v
  rw [← List.getLast?_eq_getElem?]
  exact h
end My
/-! KitZ: writings read back, what is read written. -/
namespace My
open PySem PySem.Spec PyProof.Rows L2
theorem part_app {c : Nat} {a b : Str} (h : c ∉ cs a) : Txt.partition (a ++ (⟨#[c]⟩ : Str) ++ b) ⟨#[c]⟩ = (a, ⟨#[c]⟩, b) := TL.partition_app (S := []) rfl h
theorem cs_zero : cs ("0" : Str) = [48] := by decide +kernel
theorem cs_no : cs ("" : Str) = [] := by decide +kernel
theorem numL_head : ∀ (n : Nat), 0 < n → (TL.numL n).head? ≠ some 48 := by
  intro n
  induction n using Nat.strongRecOn with
  | _ n ih =>
    intro hn
    by_cases h : n < 10
    · rw [TL.numL_lt h]
      intro e
      have := Option.some.inj e
      omega
    · rw [TL.numL_step (by omega), List.head?_append]
      have := ih (n / 10) (by omega) (by omega)
      cases e : (TL.numL (n / 10)).head? with
      | none => rw [List.head?_eq_none_iff] at e; exact absurd e (TL.numL_ne _)
      | some c => rw [e] at this; simpa using this
theorem fig_num {i m : Int} {k : Nat} (hk : 0 < k) (h0 : 0 ≤ i) (h : i < 10 ^ k) (hm : (k : Int) ≤ m) : figB m (numS i) = true ∧ valS (numS i) = i := by
  have e := cs_numS i
  have hl := numS_len hk h0 h
  constructor
  · unfold figB
    rw [e]
    have h1 : numS i ≠ "" := fun z => TL.numL_ne i.toNat (by rw [← e, z]; exact cs_no)
    have h3 : (TL.numL i.toNat).all digB = true := by
      rw [List.all_eq_true]
      intro c hc
      have := TL.numL_digits i.toNat c hc
      unfold digB
      rw [decide_eq_true this.1, decide_eq_true this.2]; rfl
    rw [decide_eq_false h1, decide_eq_true (show ((numS i).length : Int) ≤ m by omega), h3]
    by_cases hz : i = 0
    · have : numS i = "0" := cs_inj (by rw [e, hz, cs_zero]; rfl)
      rw [decide_eq_true this]; rfl
    · rw [decide_eq_false (numL_head i.toNat (by omega))]
      simp
  · unfold valS
    rw [e, TL.numL_val]
    omega
theorem num_fig {m : Int} {z : Str} (h : figB m z = true) : numS (valS z) = z := by
  unfold figB at h
  simp only [Bool.and_eq_true, Bool.or_eq_true, Bool.not_eq_true', decide_eq_false_iff_not, decide_eq_true_eq] at h
  obtain ⟨h1, _, h3, h4⟩ := h
  refine cs_inj ?_
  rw [cs_numS]
  unfold valS
  have ad : NumText.AllDigits (cs z) := by
    intro c hc
    have := List.all_eq_true.mp h3 c hc
    unfold digB at this
    rw [Bool.and_eq_true, decide_eq_true_eq, decide_eq_true_eq] at this
    exact this
  obtain ⟨c, r, ec⟩ : ∃ c r, cs z = c :: r := by
    cases e : cs z with
    | nil => exact absurd (cs_inj (by rw [e, cs_no])) h1
    | cons c r => exact ⟨c, r, rfl⟩
  have hx : r.length = 0 ∨ ∃ c' r', cs z = c' :: r' ∧ 49 ≤ c' := by
    rcases h4 with h4 | h4
    · left
      rw [h4, cs_zero] at ec
      cases ec; rfl
    · right
      refine ⟨c, r, ec, ?_⟩
      have h5 := (ad c (by rw [ec]; exact List.mem_cons_self ..)).1
      rw [ec] at h4
      have : c ≠ 48 := fun e => h4 (by rw [e]; rfl)
      omega
  have t := NumText.toDigits_digitsVal r.length (cs z) (by rw [ec]; rfl) ad hx
  show (Nat.toDigits 10 (NumText.digitsVal (cs z))).map Char.toNat = cs z
  rw [t, List.map_map]
  conv => rhs; rw [← List.map_id (cs z)]
  refine List.map_congr_left fun c hc => ?_
  have := ad c hc
  show (Char.ofNat c).toNat = c
  have hv : c.isValidChar := by left; omega
  rw [Char.ofNat, dif_pos hv]
  rfl
theorem low_free {z : Str} (h : IsNm z) {c : Nat} (hc : ¬ isLow c) : c ∉ cs z := fun hm => hc (h.low c hm)
theorem word_read {r : Str × Str × Int} (h1 : IsNm r.1) (h2 : IsNm r.2.1) (h3 : 0 ≤ r.2.2) (h4 : r.2.2 ≤ 1000) : houseIn (wordS r) = some r := by
  obtain ⟨nm, zn, hv⟩ := r
  have e1 : wordS (nm, zn, hv) = nm ++ (⟨#[64]⟩ : Str) ++ (zn ++ (⟨#[42]⟩ : Str) ++ numS hv) := by
    refine cs_inj ?_
    unfold wordS
    rw [c_at, c_star]
    simp only [cs_app, List.append_assoc]
  have p1 : Txt.partition (wordS (nm, zn, hv)) "@" = (nm, ⟨#[64]⟩, zn ++ (⟨#[42]⟩ : Str) ++ numS hv) := by
    rw [e1, c_at]
    exact part_app (low_free h1 (by unfold isLow; omega))
  have p2 : Txt.partition (zn ++ (⟨#[42]⟩ : Str) ++ numS hv) "*" = (zn, ⟨#[42]⟩, numS hv) := by
    rw [c_star]
    exact part_app (low_free h2 (by unfold isLow; omega))
  have f := fig_num (k := 4) (m := 4) (by decide) h3 (by have : hv ≤ 1000 := h4; omega) (by decide)
  unfold houseIn
  rw [p1]
  dsimp only
  rw [p2]
  dsimp only
  rw [if_pos, f.2]
  rw [nmB_iff.mpr h1, nmB_iff.mpr h2, f.1, f.2, decide_eq_true h4]
  rfl
theorem nm_no : nmB Str.empty = false := by decide +kernel
theorem word_back {w : Str} {r : Str × Str × Int} (h : houseIn w = some r) : wordS r = w := by
  unfold houseIn at h
  split at h
  · rename_i hc
    rw [Bool.and_eq_true, Bool.and_eq_true, Bool.and_eq_true, decide_eq_true_eq] at hc
    obtain ⟨h1, h2, h3, h4⟩ := hc
    rw [c_at, c_star] at *
    rcases part_cases 64 w with ⟨a, b, ew, _, p⟩ | ⟨_, p⟩
    · rw [p] at h h1 h2 h3 h4
      dsimp only at h h1 h2 h3 h4
      rcases part_cases 42 b with ⟨a2, b2, eb, _, p2⟩ | ⟨_, p2⟩
      · rw [p2] at h h2 h3 h4
        dsimp only at h h2 h3 h4
        cases h
        rw [ew, eb]
        unfold wordS
        rw [c_at, c_star]
        dsimp only
        rw [num_fig h3]
        refine cs_inj ?_
        simp only [cs_app, List.append_assoc]
      · rw [p2] at h3
        dsimp only at h3
        exact absurd h3 (by decide +kernel)
    · rw [p] at h2
      have e : Txt.partition Str.empty (⟨#[42]⟩ : Str) = (Str.empty, Str.empty, Str.empty) := by
        rcases part_cases 42 Str.empty with ⟨a, b, e, _, _⟩ | ⟨_, p⟩
        · have := congrArg Str.length e
          rw [len_app, len_app] at this
          exact absurd this (by rw [l_empty, show (⟨#[42]⟩ : Str).length = 1 from rfl]; omega)
        · exact p
      dsimp only at h2
      rw [e] at h2
      exact absurd h2 (by rw [nm_no]; decide)
  · cases h
theorem tick_read {p : Int × List Str} (t0 : 0 ≤ p.1) (t1 : p.1 < 10 ^ 9) (nd : p.2.Nodup) (nm : ∀ z ∈ p.2, IsNm z) (l0 : 1 ≤ p.2.length) (l1 : p.2.length ≤ 10) : ticketIn (tickS p) = some p := by
  obtain ⟨t, hs⟩ := p
  have p1 : Txt.partition (tickS (t, hs)) ":" = (numS t, ⟨#[58]⟩, Txt.join "," hs) := by
    unfold tickS
    rw [c_colon]
    exact part_app (by rw [cs_numS]; exact TL.numL_free (by omega))
  have f := fig_num (k := 9) (m := 9) (by decide) t0 t1 (by decide)
  have cu := cut_of (c := 44) (z := Txt.join "," hs) (ps := hs) (by decide) (List.length_pos_iff.mp l0) (fun z hz => low_free (nm z hz) (by unfold isLow; omega)) (by rw [c_comma])
  have sp := cu.split
  rw [← c_comma] at sp
  unfold ticketIn
  rw [p1]
  dsimp only
  rw [sp, if_pos, f.2]
  rw [f.1, decide_eq_true l1, decide_eq_true nd, List.all_eq_true.mpr fun z hz => nmB_iff.mpr (nm z hz)]
  rfl
theorem tick_back {w : Str} {p : Int × List Str} (h : ticketIn w = some p) : tickS p = w := by
  unfold ticketIn at h
  split at h
  · rename_i hc
    rw [Bool.and_eq_true, Bool.and_eq_true, Bool.and_eq_true] at hc
    obtain ⟨h1, h2, h3, h4⟩ := hc
    rw [c_colon] at *
    rcases part_cases 58 w with ⟨a, b, ew, _, pp⟩ | ⟨_, pp⟩
    · rw [pp] at h h1 h4
      dsimp only at h h1 h4
      cases h
      unfold tickS
      dsimp only
      have cu := (cut_at 44 b (by decide)).join
      rw [← c_comma] at cu
      rw [num_fig h1, cu, c_colon, ew]
    · rw [pp] at h4
      dsimp only at h4
      have e : Txt.split Str.empty "," = [Str.empty] := by decide +kernel
      rw [e] at h4
      exact absurd h4 (by decide +kernel)
  · cases h
variable {α : Type} {f : Str → Option α} {g : α → Str} {lt : α → α → Bool}
theorem rowsAt_read : ∀ {rows found : List α} {k : Nat}, (∀ r ∈ rows, f (g r) = some r) → (found ++ rows).Pairwise (fun a b => lt a b = true) → rowsAt f lt found k (rows.map g) = .inr (found ++ rows)
  | [], found, k, _, _ => by rw [List.append_nil]; rfl
  | r :: rs, found, k, hf, hp => by
    rw [List.map_cons, rowsAt_some (hf r (List.mem_cons_self ..)), if_pos]
    · rw [rowsAt_read (fun x hx => hf x (List.mem_cons_of_mem _ hx)) (by rw [List.append_assoc]; exact hp), List.append_assoc]; rfl
    · unfold rises
      cases e : found.getLast? with
      | none => rfl
      | some l => exact (List.pairwise_append.mp hp).2.2 l (List.mem_of_getLast? e) r (List.mem_cons_self ..)
theorem rowsIn_read {rows : List α} (hf : ∀ r ∈ rows, f (g r) = some r) (fr : ∀ r ∈ rows, 32 ∉ cs (g r)) (ne : ∀ r ∈ rows, g r ≠ "") (hp : rows.Pairwise (fun a b => lt a b = true)) : rowsIn f lt (Txt.join " " (rows.map g)) = .inr rows := by
  cases rows with
  | nil =>
    unfold rowsIn
    exact if_pos rfl
  | cons r rs =>
    have cu := cut_of (c := 32) (z := Txt.join " " ((r :: rs).map g)) (ps := (r :: rs).map g) (by decide) (by simp) (fun p hp => by obtain ⟨x, hx, rfl⟩ := List.mem_map.mp hp; exact fr x hx) (by rw [c_blank])
    have sp := cu.split
    rw [← c_blank] at sp
    unfold rowsIn
    rw [if_neg, sp]
    · exact rowsAt_read (found := []) hf hp
    · intro e
      have h := cu.len (g r) (by simp)
      rw [e] at h
      have h0 : (cs (g r)).length = 0 := by rw [cs_len]; exact Nat.le_zero.mp h
      exact ne r (List.mem_cons_self ..) (cs_inj (by rw [List.length_eq_zero_iff.mp h0, cs_no]))
theorem rowsAt_back (hb : ∀ w r, f w = some r → g r = w) : ∀ {ws : List Str} {found rows : List α} {k : Nat}, rowsAt f lt found k ws = .inr rows → rows.map g = found.map g ++ ws
  | [], found, rows, k, h => by cases h; rw [List.append_nil]
  | w :: ws, found, rows, k, h => by
    cases e : f w with
    | none => rw [rowsAt_bad e] at h; cases h
    | some r =>
      rw [rowsAt_some e] at h
      split at h
      · rw [rowsAt_back hb h, List.map_append, List.append_assoc, List.map_singleton, hb w r e]; rfl
      · cases h
theorem rowsIn_back (hb : ∀ w r, f w = some r → g r = w) {t : Str} {rows : List α} (h : rowsIn f lt t = .inr rows) : Txt.join " " (rows.map g) = t := by
  unfold rowsIn at h
  split at h
  · rename_i e
    cases h
    rw [e]; rfl
  · rw [rowsAt_back hb h]
    have := (cut_at 32 t (by decide)).join
    rw [← c_blank] at this
    exact this
end My
/-! KitE: a caught error that is held as a value. -/
namespace PySem.W
open PySem PySem.Spec PySem.Calls PyProof.Rows
section
variable {prog : Program} {w : World} {A : Around} {E : Value → Shared → Prop} {s : Shared} {K : Frag} {x D : Addr} {ox : Obj} {od : Option Obj}
theorem vFindData {C : Addr} {name : Str} {a g : Value} (hc : (clsIn K C).isSome = true) (hA : findIn K (.ref C) name = some (some a)) (hG : specialIn K a "__get__" = some (some g)) (hT : takesIn K a = some true) : findObj K C od name = some (.bind g a) := by
  obtain ⟨cd, h0⟩ := Option.isSome_iff_exists.mp hc
  unfold findObj
  rw [h0, Option.bind_some, hA, Option.bind_some]
  simp only [hG, hT, Option.bind_some]
structure VCls (K : Frag) (D : Addr) : Prop where
  ga : findIn K (.ref D) "__getattribute__" = some (some (.builtin "BaseException.__getattribute__"))
  gt : findIn K (.ref D) "__getattr__" = some none
  sb : subIn K (.ref D) (.type "BaseException") = some true
  dc : hasDictIn K D = true
  cl : findIn K (.ref D) "__class__" = some (some (.builtin "object.__class__"))
  sp : specialIn K (.builtin "object.__class__") "__get__" = some (some (.builtin "getset_descriptor.__get__"))
  tk : takesIn K (.builtin "object.__class__") = some true
  mr : mroIn K D (.type "object") = some true
theorem vKinClass (v : VCls K D) {Q : Option Value → Shared → Prop} (X : K.In s.heap) (I : InstAt s.heap x ox D od) (q : Q (some (.ref D)) { s with toks := s.toks + 1 }) : wpAny (model prog w) A (getAttr? (.ref x) "__class__") Q E s := by
  have ff : findObj K D od "__class__" = some (.bind (.builtin "getset_descriptor.__get__") (.builtin "object.__class__")) := vFindData (by obtain ⟨cd, hc, _⟩ := any_some v.dc; rw [hc]; rfl) v.cl v.sp v.tk
  obtain ⟨hp, g, d, t, os⟩ := s
  have k0 := I.type (M := model prog w)
  have k1 := looks_findIn (M := model prog w) X v.ga
  have k2 := looks_findIn (M := model prog w) X v.gt
  have k3 := looks_find (M := model prog w) X I ff
  have ks : Looks (model prog w) hp (isInstance (.ref x) (.type "BaseException")) true := k0.andThen (looks_subIn X v.sb)
  have n0 : (false && onTheHeap (Value.builtin "BaseException.__getattribute__")) = false := rfl
  have n2 : (Value.builtin "BaseException.__getattribute__" == Value.builtin "object.__getattribute__") = false := by decide +kernel
  have n1 : (onTheHeap (Value.ref D) && Value.builtin "BaseException.__getattribute__" == Value.builtin "object.__getattribute__") = false := by rw [n2]; rfl
  unfold getAttr? getAttrBy? getAttrBy
  refine wpAny_bind (wpAny_mkText (wpAny_bind (wpAny_attempt (wpAny_holding (wpAny_bind (k0.at (wpAny_bind (k1.at ?_))))))))
  show wpAny _ _ (if (onTheHeap (Value.ref D) && Value.builtin "BaseException.__getattribute__" == Value.builtin "object.__getattribute__") = true then _ else _) _ _ _
  rw [n1, if_neg Bool.false_ne_true]
  unfold getAttrByItsOwn hookBefore
  refine wpAny_bind ?_
  rw [if_pos (show onTheHeap (Value.ref D) = true from rfl)]
  refine k2.at ?_
  refine wpAny_bind (wpAny_attempt (wpAny_holding ?_))
  unfold callGetattribute
  rw [n0, if_neg Bool.false_ne_true]
  unfold boundAndCalled
  rw [PySem.F.excAttr_ValueError.ga.bind (.ref x)]
  refine wpAny_bind (wpAny_pure ?_)
  show wpAny _ _ (call (.builtin "BaseException.__getattribute__") [.ref x, .str "__class__" t]) _ _ _
  refine wpAny_call (codeAny_call_builtin PySem.F.excAttr_ValueError.ga.plain PySem.F.entry_bexc_ga ?_)
  refine @check_slot (model prog w) _ _ ⟨hp, g, d, t + 1, os⟩ "BaseException.__getattribute__" "BaseException" "__getattribute__" (.ref x) [.str "__class__" t] [] _ (by decide +kernel) (by decide +kernel) ks (PySem.F.args_bexc_ga (.ref x) (.str "__class__" t)) ?_
  unfold Builtin.«object.__getattribute__»
  refine wpAny_bind (wpAny_of_eq (a := ((Value.ref x : Value), [Value.str "__class__" t])) (by first | rfl | (simp only [slotArgs]; rfl)) ?_)
  refine wpAny_bind (wpAny_pure (wpAny_bind (k0.at (wpAny_bind (k3.at ?_)))))
  show wpAny _ _ (holding [Value.builtin "object.__class__"] (call (.builtin "getset_descriptor.__get__") [.builtin "object.__class__", .ref x, .ref D]) >>= ret) _ _ _
  refine wpAny_bind (wpAny_holding (wpAny_call (class_get (s := ⟨hp, g, d, t + 1, os⟩) (ox := ox) (od := od) X I v.mr ?_)))
  refine wpAny_pure ?_
  show wpAny _ _ (handedOut (.ref D)) _ _ _
  rw [handedOut_of (v := .ref D) rfl]
  first
    | exact wpAny_pure (wpAny_pure q)
    | exact wpAny_pure q
    | exact wpAny_pure (wpAny_bind (wpAny_pure (wpAny_pure q)))
theorem vKit (v : VCls K D) : KitX K (.ref x) (.ref D) (fun h => ∃ ox od, InstAt h x ox D od) where
  ty := fun _ _ _ ⟨_, _, I⟩ => I.type
  it := fun _ _ X _ => by
    obtain ⟨cdD, hcD, _⟩ := any_some v.dc
    unfold clsIn at hcD
    split at hcD
    · rename_i c' d' cd' sl' ho
      intro A' Q' E' s' k q
      unfold isType loadHead
      exact wpAny_bind (wpAny_loadPart (k _ _ (X _ _ ho)) (wpAny_pure q))
    · cases hcD
  ne := fun h tp dd its n sl X htp => by
    obtain ⟨cdD, hcD, _⟩ := any_some v.dc
    refine Bool.eq_false_iff.mpr fun q => ?_
    have e : D = tp := Value.ref.inj (beq_iff_eq.mp q)
    subst e
    unfold clsIn at hcD
    split at hcD
    · rename_i c' d' cd' sl' ho
      have z := (X _ _ ho).symm.trans htp
      cases z
    · cases hcD
  ca := fun X ⟨_, _, I⟩ k => vKinClass v X I k
end
end PySem.W
namespace My
open PySem PySem.Spec PyProof.Rows L2
def vclsB (K : PySem.W.Frag) (D : Addr) : Bool :=
  decide (PySem.W.findIn K (.ref D) "__getattribute__" = some (some (.builtin "BaseException.__getattribute__"))) && (decide (PySem.W.findIn K (.ref D) "__getattr__" = some none) && (decide (PySem.W.subIn K (.ref D) (.type "BaseException") = some true) && (PySem.W.hasDictIn K D &&
    (He.eqO (PySem.W.findIn K (.ref D) "__class__") (some (some (.builtin "object.__class__"))) && (He.eqO (PySem.W.specialIn K (.builtin "object.__class__") "__get__") (some (some (.builtin "getset_descriptor.__get__"))) &&
      (decide (PySem.W.takesIn K (.builtin "object.__class__") = some true) && decide (PySem.W.mroIn K D (.type "object") = some true)))))))
theorem vclsB_ok {K : PySem.W.Frag} {D : Addr} (h : vclsB K D = true) : PySem.W.VCls K D := by
  obtain ⟨h1, h⟩ := He.ba h
  obtain ⟨h2, h⟩ := He.ba h
  obtain ⟨h3, h⟩ := He.ba h
  obtain ⟨h4, h⟩ := He.ba h
  obtain ⟨h5, h⟩ := He.ba h
  obtain ⟨h6, h⟩ := He.ba h
  obtain ⟨h7, h8⟩ := He.ba h
  exact ⟨of_decide_eq_true h1, of_decide_eq_true h2, of_decide_eq_true h3, h4, He.eqO_ok h5, He.eqO_ok h6, of_decide_eq_true h7, of_decide_eq_true h8⟩
/-- a caught error of the class cls with the dict d, at a -/
def exV (cls : Value) (d : Option Addr) (a : Addr) : HO := .ext fun h => ∃ (oe : Obj) (vs : Array Value), h.get? a = some oe ∧ Zc cls d oe ∧ oe.data = .fields vs
section
variable {X : Cx} {pins : List (Addr × Obj)} {σ : L2.St} {H : Hp} {s : Shared}
theorem exV_at {P : Program} {w : World} {h : Heap} {a : Addr} {cls : Value} {d : Option Addr} (o : ObjOk P w H h a (exV cls d a)) : ∃ (oe : Obj) (vs : Array Value), h.get? a = some oe ∧ Zc cls d oe ∧ oe.data = .fields vs := o.1
theorem exV_ok {P : Program} {w : World} {h : Heap} {a : Addr} {cls : Value} {d : Option Addr} {oe : Obj} {vs : Array Value} (e : h.get? a = some oe) (z : Zc cls d oe) (dd : oe.data = .fields vs) : ObjOk P w H h a (exV cls d a) :=
  ⟨⟨oe, vs, e, z, dd⟩, ⟨oe, e⟩, fun _ _ ⟨o, v, q, r⟩ k => ⟨o, v, k o q, r⟩⟩
/-- an object that stands there and isn't tracked is tracked from now on -/
theorem track {a : Addr} {cls : Value} {d : Option Addr} {oe : Obj} {vs : Array Value} (I : Inv X pins σ H s) (n0 : X.s_0.heap.get? a = none) (e : s.heap.get? a = some oe) (z : Zc cls d oe) (dd : oe.data = .fields vs) (hn : H a = none) (nL : a ≠ X.env.locals)
    (np : ∀ p ∈ X.pn ++ pins, p.1 ≠ a) : Inv X pins σ (upd H a (exV cls d a)) s := by
  have ne0 : ∀ b o, X.s_0.heap.get? b = some o → b ≠ a := fun b o q h => by rw [h, n0] at q; cases q
  have neH : ∀ b u, H b = some u → b ≠ a := fun b u q h => by rw [h, hn] at q; cases q
  refine ⟨I.ok, I.os, I.bare, ⟨I.base.keep, I.base.slot, fun b o q n hx => ?_, I.base.there, fun b xs q => ?_, fun b o u q => ?_, fun b ps q => ?_⟩, I.loc, I.cell, ?_, fun y c q => ?_, fun p hp => ?_, fun b u q => ?_, I.len⟩
  · rw [upd_ne (ne0 b o q)]; exact I.base.free b o q n hx
  · have := I.base.tups b xs q
    rw [upd_ne (neH _ _ this)]; exact this
  · have := I.base.frzs b o u q
    rw [upd_ne (neH _ _ this)]; exact this
  · obtain ⟨m, this⟩ := I.base.tbls b ps q
    exact ⟨m, by rw [upd_ne (neH _ _ this)]; exact this⟩
  · rw [upd_ne (fun h => nL h.symm)]; exact I.free
  · rw [upd_ne (fun h => ?_)]
    · exact I.freeC y c q
    · obtain ⟨v, o, ho, hd⟩ := I.cell y c q
      rw [h, e] at ho
      cases ho
      rw [dd] at hd
      cases hd
  · obtain ⟨h1, h2, h3⟩ := I.pin p hp
    exact ⟨h1, by rw [upd_ne (np p hp)]; exact h2, h3⟩
  · by_cases hb : b = a
    · subst hb
      rw [upd_same] at q
      cases q
      exact exV_ok e z dd
    · rw [upd_ne hb] at q
      exact (I.hok b u q).stay (fun c v _ r => r) (fun c r => by rw [upd_ne (neH _ _ r)]; exact r) fun c xs r => by rw [upd_ne (neH _ _ r)]; exact r
end
/-- behind a suite whose error is held -/
def endsV (i : Nat) (a : Addr) (cls : Value) (d : Option Addr) (D : Ends) : Ends :=
  { nx := fun σ' H' => D.nx (σ'.set i none) (upd H' a (exV cls d a)), rt := fun v H' => D.rt v (upd H' a (exV cls d a)), bk := fun σ' H' => D.bk (σ'.set i none) (upd H' a (exV cls d a)), ct := fun σ' H' => D.ct (σ'.set i none) (upd H' a (exV cls d a)) }
def wHeld (K : PySem.W.Frag) (Wout : WX) (D : Ends) (c : Value) (i : Nat) (ts : Addr → Value → Option Addr → TS) : WX := fun cls d σ H => ∃ b, PySem.W.exmOne K cls c = some b ∧ (b = true → ∀ a, H a = none → ts a cls d (endsV i a cls d D) (σ.set i (some (.ref a))) H) ∧ (b = false → Wout cls d σ H)
section
variable {X : Cx} {body : List Stmt} {pos : Pos} {tb : WX → TS} {Wout : WX} {x n : Str} {i : Nat} {c : Value} {ts : Addr → Value → Option Addr → TS} {b0 : Stmt} {suite : List Stmt} {np pos' : Pos}
theorem ps_try_V (hs : X.stack = X.env :: X.outer) (hf : X.env.frame = some X.env.locals) (hN : X.N.Nodup) (tk : Takes X Wout)
    (hb : ∀ (W : WX) (pn : List (Addr × Obj)) (xe : Value → Shared → Prop), Takes (X.tr pn xe) W → PassesOwn (model X.prog X.w) X.A X.env xe → PSs (X.tr pn xe) body (tb W))
    (hi : X.N[i]? = some n) (hln : X.env.kindOf n = some .local) (hc : Names X x c)
    (hsu : ∀ (a : Addr) (oe : Obj) (cls : Value) (d : Option Addr) (pn : List (Addr × Obj)), Zc cls d oe → (∃ vs, oe.data = .fields vs) → PSs (X.suite a ((a, oe) :: pn)) (b0 :: suite) (ts a cls d)) (hx : X.ex = [] := by rfl) :
    PS X (.Try body [.ExceptHandler (some (.Name x np)) (some n) (b0 :: suite) pos'] [] [] pos) (fun D σ H => tb (wHeld X.K Wout D c i ts) D σ H) := by
  refine ⟨fun pins s σ H D I h => ?_⟩
  have ok := I.ok
  have hfr : X.A.frames = some (X.env :: X.outer) := by rw [ok.frames, hs]
  refine wpAny_Try_except ?_
  refine wpAny_mono ((hb (wHeld X.K Wout D c i ts) (X.pn ++ pins) (fun e s₁ => wpAny (model X.prog X.w) X.A (noteFrame e X.env) (fun _ s₂ => wpAny (model X.prog X.w) X.A (setFlight e none) (fun _ s₃ =>
    wpAny (model X.prog X.w) X.A (handleBy e X.env [.ExceptHandler (some (.Name x np)) (some n) (b0 :: suite) pos']) (SP X pins D) X.xe s₃) X.xe s₂) X.xe s₁) (fun u s' xx => ?_) PassesOwn.looking).run [] s σ H D (I.toTry _) h) (fun f s1 hsp => ?_) (fun e s1 he => he)
  · obtain ⟨a, B, sI, pins', σ', H', cls, d, rfl, J', nb, up, sky, na, os, ag, w⟩ := xx
    have J0 : Inv X pins σ' H' sI := J'.ofTry ok
    have J : Inv X pins σ' H' sI := J'.ofTry ok
    have sky' : Sky B (X.env :: X.outer) a (Zc cls d) X.env.locals s'.heap := by rw [← hs]; exact sky
    show wpAny (model X.prog X.w) X.A (noteFrame (.ref a) X.env) _ _ _
    refine Sky.land Zc.steady hfr hf sky' fun h3 fl3 up3 => ?_
    have J3 : Inv X pins σ' H' { s' with heap := h3 } := J.landed nb fl3.1 (up.trans up3) os ag
    obtain ⟨oe3, vs3, he3, hz3, hd3⟩ := fl3.there
    have notFr : ∀ {h : Heap} {o : Obj} {vs : Array Value}, h.FunFrames B (X.env :: X.outer) → h.get? a = some o → o.data = .fields vs → a ∉ frs (X.env :: X.outer) := fun {h o vs} ff e dd hm => by
      obtain ⟨_, o', e', hnf⟩ := ff.mem hm
      rw [e] at e'; cases e'
      exact hnf _ dd
    have nfr := notFr fl3.2.2.1 he3 hd3
    have nL : a ≠ X.env.locals := fun z => nfr (List.mem_filterMap.mpr ⟨X.env, List.mem_cons_self, by rw [hf, z]⟩)
    have nF : a ∉ X.fs := fun hm => by
      obtain ⟨e, he, q⟩ := List.mem_filterMap.mp hm
      exact nfr (List.mem_filterMap.mpr ⟨e, List.mem_cons_of_mem _ he, q⟩)
    have nI : sI.heap.get? a = none := by
      cases q : sI.heap.get? a with
      | none => rfl
      | some o =>
        have := nb a o q (by rw [hs]; exact nfr)
        rw [fl3.2.1] at this; cases this
    have n0 : X.s_0.heap.get? a = none := by
      cases q : X.s_0.heap.get? a with
      | none => rfl
      | some o =>
        obtain ⟨o', z⟩ := J0.base.there a o q (by rw [hx]; exact List.not_mem_nil)
        rw [nI] at z; cases z
    have npn : ∀ p ∈ X.pn ++ pins, p.1 ≠ a := fun p hp e => by
      have := (J0.pin p hp).1
      rw [e, nI] at this; cases this
    have S3 := J3.suite he3 hd3 na nL nF
    have LT : PySem.W.Looks (model X.prog X.w) h3 (typeOf (.ref a)) cls := fun A Q E s k q => wpAny_typeOf_ref (k _ _ he3) (by rw [hz3.1]; exact q)
    have test : ∀ {Q : Value → Shared → Prop} {E : Value → Shared → Prop}, Q c { s' with heap := h3 } → wpAny (model X.prog X.w) (X.A.mark (some (.ref a))) (eval (.Name x np) X.env) Q E { s' with heap := h3 } := fun {Q E} q => by
      obtain ⟨hg, hdbg, hm | ⟨hm, hv, hnn⟩⟩ := hc
      · exact ld_glob (X := X.suite a ((a, oe3) :: (X.pn ++ pins))) S3 hg hm q hdbg
      · exact ld_blt (X := X.suite a ((a, oe3) :: (X.pn ++ pins))) S3 hg hm hv q hnn hdbg
    obtain ⟨b, hb1, hyes, hno⟩ := w
    have hloc : Loc X.env.scope n := .inl hln
    refine wpAny_handleBy_cons (codeAny_handlers_test ?_) (by intro q; cases q)
    have LM := PySem.W.exm_one (M := model X.prog X.w) (J3.kIn) LT hb1
    refine test (LM.here ?_)
    cases b with
    | true =>
      refine codeAny_handlers_suite_as ?_
      refine HandSPX.lands_againZ fl3 fun h4 fl4 up4 => ?_
      have J4 : Inv X pins σ' H' { s' with heap := h4 } := J.landed nb fl4.1 ((up.trans up3).trans up4) os ag
      obtain ⟨oe4, vs4, he4, hz4, hd4⟩ := fl4.there
      have S4 := J4.suite he4 hd4 na nL nF
      refine store_ok (X := X.suite a ((a, oe4) :: (X.pn ++ pins))) (v := .ref a) S4 hN hi hloc rfl (fun s5 S5 => ?_) (.inr hln)
      refine wpAny_mono ((hsu a oe4 cls d (X.pn ++ pins) hz4 ⟨_, hd4⟩).run [] s5 _ H' _ S5 (hyes rfl a na)) (fun f s6 hsp => ?_) (fun _ _ z => False.elim z)
      have held : ∀ {σ6 : L2.St} {H6 : Hp}, Inv (X.suite a ((a, oe4) :: (X.pn ++ pins))) [] σ6 H6 s6 → Inv X pins σ6 (upd H6 a (exV cls d a)) s6 := fun {σ6 H6} S6 => by
        obtain ⟨g1, g2, _⟩ := S6.pin (a, oe4) (List.mem_append_left _ List.mem_cons_self)
        exact track (S6.unsuite ok) n0 g1 hz4 hd4 g2 nL npn
      have end_ : ∀ {σ6 : L2.St} {H6 : Hp} {Q : Shared → Prop}, Inv (X.suite a ((a, oe4) :: (X.pn ++ pins))) [] σ6 H6 s6 → (∀ s7, Inv X pins (σ6.set i none) (upd H6 a (exV cls d a)) s7 → Q s7) →
          wpAny (model X.prog X.w) X.A (do bindName X.env n .none; unbindBehindTheSuite X.env n pos') (fun _ s7 => Q s7) X.xe s6 := fun {σ6 H6 Q} S6 hq => gone_ok (held S6) hN hi hln hq
      cases f with
      | next =>
        obtain ⟨σ6, H6, S6, q6⟩ := hsp
        exact end_ S6 fun s7 J7 => ⟨_, _, J7, q6⟩
      | brk =>
        obtain ⟨σ6, H6, S6, q6⟩ := hsp
        exact end_ S6 fun s7 J7 => ⟨_, _, J7, q6⟩
      | cont =>
        obtain ⟨σ6, H6, S6, q6⟩ := hsp
        exact end_ S6 fun s7 J7 => ⟨_, _, J7, q6⟩
      | ret u =>
        obtain ⟨v6, σ6, H6, S6, r6, q6⟩ := hsp
        exact end_ S6 fun s7 J7 => ⟨_, _, _, J7, r6, q6⟩
    | false =>
      show wpAny _ X.A (handleBy (.ref a) X.env []) _ _ _
      refine wpAny_handleBy_nil ?_
      obtain ⟨k1, k2, k3, oe, vs, T, oT, ts', he, hz, hd, h1, hr⟩ := id fl3
      unfold PySem.passOn
      refine wpAny_bind (wpAny_field he hd h1 ?_)
      rw [if_neg (show ¬ ((Value.ref T == Value.none) = true) from by simp)]
      have fin : wpAny (model X.prog X.w) X.A (setFlight (.ref a) X.env.frame) (fun _ s4 => wpAny (model X.prog X.w) X.A (throw (.ref a) : Sem Flow) (SP X pins D) X.xe s4) X.xe { s' with heap := h3 } := by
        rw [hf]
        refine HandSPX.setFlight_upZ fl3 fun h4 hh4 up4 => wpAny_throw (tk _ _ ?_)
        exact ⟨a, B, sI, pins, σ', H', cls, d, rfl, J, nb, (up.trans up3).trans up4, .inr (.inr (by rw [hs]; exact hh4)), na, os, ag, hno rfl⟩
      first
        | exact wpAny_bind (wpAny_pure (wpAny_bind fin))
        | exact wpAny_bind fin
  · cases f with
    | next =>
      obtain ⟨σ', H', J', q⟩ := hsp
      exact wpAny_execs_nil ⟨σ', H', J'.ofTry ok, q⟩
    | brk =>
      obtain ⟨σ', H', J', q⟩ := hsp
      exact ⟨σ', H', J'.ofTry ok, q⟩
    | cont =>
      obtain ⟨σ', H', J', q⟩ := hsp
      exact ⟨σ', H', J'.ofTry ok, q⟩
    | ret u =>
      obtain ⟨v, σ', H', J', r, q⟩ := hsp
      exact ⟨v, σ', H', J'.ofTry ok, r, q⟩
end
/-! isinstance(v, C), isinstance(v, (C, ..)), v.f of such a value -/
/-- a caught error: its class, its dict, its fields -/
def ErrAt (H : Hp) (a D : Addr) (fs : List (Str × V)) : Prop := ∃ dd, H a = some (exV (.ref D) (some dd) a) ∧ H dd = some (.xd fs)
def rIsV (K : PySem.W.Frag) : List V → Hp → VK → Prop := fun xs H Q => ∃ (a D : Addr) (fs : List (Str × V)) (c : V) (cv : Value) (b : Bool), xs = [.ref a, c] ∧ ErrAt H a D fs ∧ PySem.W.VCls K D ∧ ClsV c cv ∧ PySem.W.kitOne K (.ref D) cv = some b ∧ Q (.bl b) H
def rIsVT (K : PySem.W.Frag) : List V → Hp → VK → Prop := fun xs H Q => ∃ (a D : Addr) (fs : List (Str × V)) (tp : Addr) (cs : List V) (us : List Value) (b : Bool), xs = [.ref a, .ref tp] ∧ ErrAt H a D fs ∧ PySem.W.VCls K D ∧ H tp = some (.tup cs) ∧ Paired ClsV cs us ∧ PySem.W.kitAny K (.ref D) us = some b ∧ Q (.bl b) H
def tXv (K : PySem.W.Frag) (f : Str) (te : TE) : TE := fun σ H Q => te σ H fun x H1 => ∃ (a D : Addr) (fs : List (Str × V)) (v : V), x = .ref a ∧ ErrAt H1 a D fs ∧ XfC K D ∧ PySem.W.findIn K (.ref D) f = some none ∧ fs.lookup f = some v ∧ Q v H1
section
variable {X : Cx} {pins : List (Addr × Obj)} {σ : L2.St} {H : Hp} {s : Shared}
theorem ErrAt.inst {a D : Addr} {fs : List (Str × V)} (h : ErrAt H a D fs) (I : Inv X pins σ H s) : ∃ ox od, PySem.W.InstAt s.heap a ox D (some od) ∧ ∀ n v, fs.lookup n = some v → ∃ u, PySem.W.lookIn n od = some (some u) ∧ RelV v u := by
  obtain ⟨dd, h1, h2⟩ := h
  obtain ⟨oe, vs, e, z, hv⟩ := exV_at (show ObjOk X.prog X.w H s.heap a (exV (.ref D) (some dd) a) from I.hok a _ h1)
  obtain ⟨mA, hns, hr⟩ := (show ObjOk X.prog X.w H s.heap dd (.xd fs) from I.hok dd _ h2)
  obtain ⟨od, ho, hl⟩ := lookIn_ns hns
  refine ⟨oe, od, ⟨e, z.1, by unfold PySem.W.notCls; rw [hv] <;> rfl, by rw [z.2]; exact ho⟩, fun n v l => ?_⟩
  obtain ⟨u, hu, ru⟩ := RelO.some_of (v := v) (o := mA n) (by rw [← l]; exact hr n)
  exact ⟨u, by rw [hl, hu], ru⟩
theorem call_isV : CallR X (.builtin "isinstance") (rIsV X.K) := by
  intro pins s σ H xs us Q I r h
  obtain ⟨a, D, fs, c, cv, b, rfl, he, v, k, e, q⟩ := h
  obtain ⟨u1, u2, rfl, r1, r2⟩ := vals2 r
  have e2 := k.eq r2
  subst e2
  obtain rfl : u1 = Value.ref a := r1
  obtain ⟨ox, od, J, _⟩ := he.inst I
  exact PySem.W.kia_one (PySem.W.vKit v) I.kIn ⟨ox, some od, J⟩ e (fun z => nomatch z) fun tk => ⟨.bl b, H, I.tok tk, rfl, q⟩
theorem call_isVT : CallR X (.builtin "isinstance") (rIsVT X.K) := by
  intro pins s σ H xs us Q I r h
  obtain ⟨a, D, fs, tp, cs, ws, b, rfl, he, v, hT, k, e, q⟩ := h
  obtain ⟨u1, u2, rfl, r1, r2⟩ := vals2 r
  cases (show u2 = Value.ref tp from r2)
  obtain rfl : u1 = Value.ref a := r1
  obtain ⟨ox, od, J, _⟩ := he.inst I
  obtain ⟨_, its, rv, o, h1, h2, n, h3⟩ := (show ObjOk X.prog X.w H s.heap tp (.tup cs) from I.hok tp _ hT)
  have e3 := ClsV.all k rv
  subst e3
  obtain ⟨oc, od', dt, sl⟩ := o
  simp only at h2 h3
  subst h2 h3
  exact PySem.W.kia_tup (PySem.W.vKit v) I.kIn ⟨ox, some od, J⟩ h1 e (fun z => nomatch z) fun tk => ⟨.bl b, H, I.tok tk, rfl, q⟩
theorem pe_xv {e : Expr} {te : TE} {pos : Pos} {n : Str} (he : PE X e te) (hb : attributeBase e n X.env (eval e X.env) = eval e X.env := by rfl) : PE X (.Attribute e n pos) (tXv X.K n te) := by
  refine ⟨fun pins s σ H Q I h => ?_⟩
  refine attr_of hb (thn (he.run pins s σ H _ I h) fun u s1 hh => ?_)
  obtain ⟨x, H1, I1, rx, a, D, fs, v, ex, hE, T, hno, l, q⟩ := hh
  subst ex
  obtain rfl : u = Value.ref a := rx
  obtain ⟨ox, od, J, hl⟩ := hE.inst I1
  obtain ⟨u, hu, ru⟩ := hl n v l
  exact HandSPX.exc_get I1.kIn J T.ga T.gg T.exC (PySem.W.findObj_own T.hdC hno rfl hu) (handed_of ru) ⟨v, H1, I1.tok _, ru, q⟩
end
section
variable {K : PySem.W.Frag} {σ : L2.St} {H : Hp} {Q : VK} {te : TE} {f : Str}
def kXv (K : PySem.W.Frag) (f : Str) (Q : VK) : VK := fun x H1 => ∃ (a D : Addr) (fs : List (Str × V)) (v : V), x = .ref a ∧ ErrAt H1 a D fs ∧ XfC K D ∧ PySem.W.findIn K (.ref D) f = some none ∧ fs.lookup f = some v ∧ Q v H1
theorem g_xv (h : te σ H (kXv K f Q)) : tXv K f te σ H Q := h
theorem g_kXv {a D : Addr} {fs : List (Str × V)} {v : V} (h : ErrAt H a D fs) (T : XfC K D) (hn : PySem.W.findIn K (.ref D) f = some none) (l : fs.lookup f = some v) (q : Q v H) : kXv K f Q (.ref a) H := ⟨a, D, fs, v, rfl, h, T, hn, l, q⟩
theorem g_isV {a D : Addr} {fs : List (Str × V)} {c : V} {cv : Value} {b : Bool} (h : ErrAt H a D fs) (v : PySem.W.VCls K D) (k : ClsV c cv) (e : PySem.W.kitOne K (.ref D) cv = some b) (q : Q (.bl b) H) : rIsV K [.ref a, c] H Q := ⟨a, D, fs, c, cv, b, rfl, h, v, k, e, q⟩
theorem g_isVT {a D tp : Addr} {fs : List (Str × V)} {cs : List V} {us : List Value} {b : Bool} (h : ErrAt H a D fs) (v : PySem.W.VCls K D) (ht : H tp = some (.tup cs)) (k : Paired ClsV cs us) (e : PySem.W.kitAny K (.ref D) us = some b) (q : Q (.bl b) H) : rIsVT K [.ref a, .ref tp] H Q := ⟨a, D, fs, tp, cs, us, b, rfl, h, v, ht, k, e, q⟩
/-- a held error stays where it is -/
theorem ErrAt.le {H H' : Hp} {a D : Addr} {fs : List (Str × V)} (h : ErrAt H a D fs) (e : Le H H') : ErrAt H' a D fs := by
  obtain ⟨dd, h1, h2⟩ := h
  exact ⟨dd, e _ _ h1, e _ _ h2⟩
end
end My
/-! KitF: insert, <= of numbers or of texts. -/
namespace My
open PySem PySem.Spec PyProof.Rows L2
section
variable {X : Cx} {H : Hp} {Q : VK} {xs : List V} {y : V} {i : Int} {p : Addr}
def rInsert : V → List V → Hp → VK → Prop := fun x vs H Q => ∃ (l : Addr) (xs : List V) (i : Int) (y : V), x = .ref l ∧ vs = [.int i, y] ∧ H l = some (.lst xs) ∧ xs.length < sizeLine ∧ 0 ≤ i ∧ i < 2 ^ 63 ∧ Q .non (upd H l (.lst (xs.take i.toNat ++ [y] ++ xs.drop i.toNat)))
theorem mt_insertR : MtR X "list.insert" rInsert := mt_insert
theorem g_insert (h : H p = some (.lst xs)) (hz : xs.length < sizeLine) (h0 : 0 ≤ i) (h1 : i < 2 ^ 63) (q : ∀ H2, Step [p] H H2 → H2 p = some (.lst (xs.take i.toNat ++ [y] ++ xs.drop i.toNat)) → Q .non H2) : rInsert (.ref p) [.int i, y] H Q :=
  ⟨p, xs, i, y, rfl, rfl, h, hz, h0, h1, q _ ((Step.refl [p] H).wr (List.mem_singleton.mpr rfl)) upd_same⟩
def rLeX : R2 := fun x y H Q => rI0 (fun i j => .bl (decide (i ≤ j))) x y H Q ∨ (∃ i j : Str, x = .str i ∧ y = .str j ∧ Q (.bl (!decide (j.cps.toList < i.cps.toList))) H)
theorem op_leX : OpR X (compareOp .LtE) rLeX := OpR.or op_le op_le_str
theorem g_ltS {a b : Str} (q : Q (.bl (decide (cs a < cs b))) H) : (fun (x y : V) (H : Hp) (Q : VK) => ∃ i j : Str, x = .str i ∧ y = .str j ∧ Q (.bl (decide (i.cps.toList < j.cps.toList))) H) (.str a) (.str b) H Q := ⟨a, b, rfl, rfl, q⟩
end
end My
/-! KitN: dicts whose keys are pairs of a tuple and a whole number. -/
namespace PySem.NK
open PySem PySem.Spec PyProof.Rows L2
abbrev NKey : Type := List Key × Int
section
variable {prog : Program} {w : World} {A : Around} {E : Value → Shared → Prop} {s : Shared}
/-- the key at a -/
def IsN (prog : Program) (w : World) (h : Heap) (k : NKey) (a : Addr) : Prop := ∃ o n b v, h.get? a = some o ∧ o.cls = .type "tuple" ∧ o.data = .seq #[.ref b, v] n ∧ IsTupleKey (mixKind prog w) h k.1 b ∧ (mixKind prog w).is (Sum.inl k.2) v = true
theorem IsN.ty {k : NKey} {a : Addr} (x : IsN prog w s.heap k a) : s.TypeIs (.ref a) "tuple" := let ⟨o, _, _, _, ho, hc, _⟩ := x; ⟨o, ho, hc⟩
theorem IsN.inj {h : Heap} {a : Addr} {x y : NKey} (hx : IsN prog w h x a) (hy : IsN prog w h y a) : x = y := by
  obtain ⟨o, n, b, v, ho, _, hd, h1, h2⟩ := hx
  obtain ⟨o', n', b', v', ho', _, hd', h1', h2'⟩ := hy
  obtain rfl : o = o' := Option.some.inj (ho.symm.trans ho')
  rw [hd] at hd'
  injection hd' with e _
  have e := congrArg Array.toList e
  simp only [List.cons.injEq, Value.ref.injEq, and_true] at e
  obtain ⟨rfl, rfl⟩ := e
  have e1 := h1.inj h1'
  have e2 := (mixKind prog w).inj _ _ _ h2 h2'
  exact Prod.ext e1 (Sum.inl.inj e2)
theorem IsN.stays {h h' : Heap} {k : NKey} {a d : Addr} {o : Obj} {es ep} (x : IsN prog w h k a) (ho : h.get? d = some o) (hd : o.data = .dict es ep) (hs : Heap.SameBut d h h') : IsN prog w h' k a := by
  obtain ⟨o', n, b, v, ho', hc, hd', h1, h2⟩ := x
  have hne : a ≠ d := by
    rintro rfl
    obtain rfl : o' = o := Option.some.inj (ho'.symm.trans ho)
    rw [hd] at hd'; exact nomatch hd'
  exact ⟨o', n, b, v, (hs.2 a hne).trans ho', hc, hd', h1.keeps ho hd hs, h2⟩
def hashN (prog : Program) (w : World) (k : NKey) : Int := reduceHash (Builtin.Tuple.tupleHashOf [tupleKeyHash (mixKind prog w) k.1, (mixKind prog w).hash (Sum.inl k.2)])
theorem hash_N {k : NKey} {a : Addr} {Q : Int → Shared → Prop} (hu : A.units + 3 < cLine) (hk : IsN prog w s.heap k a) (h : Q (hashN prog w k) { s with toks := s.toks + (k.1.length + 3) }) : wpAny (model prog w) A (pyHash (.ref a)) Q E s := by
  have hT := hk.ty
  obtain ⟨o, n, b, v, ho, _, hd, hb, hv⟩ := hk
  unfold pyHash
  first | unfold pyHashByItsType | skip
  first | refine wpAny_bind (wpAny_cRoomFor_or (.inr (by omega)) ?_) | skip
  refine wpAny_bind (wpAny_specialOf hT F.slot_tuple_hash.lookup ?_)
  show wpAny _ _ (if (some (Value.builtin "tuple.__hash__") == some Value.none) = true then _ else _) Q E s
  rw [if_neg (by rw [beq_builtin_none]; exact Bool.false_ne_true)]
  refine wpAny_bind (wpAny_specialOf hT F.slot_tuple_hash.lookup ?_)
  show wpAny _ _ (callSpecialIfBoundUnlessNone? (.ref a) "__hash__" _ >>= _) Q E s
  refine wpAny_bind (wpAny_callSpecialIfBoundUnlessNone?_slot hT F.slot_tuple_hash (wpAny_call_entry F.slot_tuple_hash hT F.entry_tuple_hash ?_ (F.args_tuple_hash_1 _)))
  show wpAny _ _ (Builtin.Tuple.tupleItemsOf (.ref a) >>= _) _ _ s
  refine wpAny_bind (wpAny_tupleItemsOf ho hd ?_)
  refine wpAny_bind ?_
  rw [← Array.forIn_toList]
  refine wpAny_forIn_list _
    (fun rest (acc : Array Int) s' => (rest = [.ref b, v] ∧ acc.toList = [] ∧ s' = s) ∨ (rest = [v] ∧ acc.toList = [tupleKeyHash (mixKind prog w) k.1] ∧ s' = { s with toks := s.toks + (k.1.length + 1) }) ∨
      (rest = [] ∧ acc.toList = [tupleKeyHash (mixKind prog w) k.1, (mixKind prog w).hash (Sum.inl k.2)] ∧ s' = { s with toks := s.toks + (k.1.length + 2) }))
    _ ?_ ?_ _ _ (.inl ⟨rfl, rfl, rfl⟩)
  · rintro x rest acc s' (⟨hr, ha, rfl⟩ | ⟨hr, ha, rfl⟩ | ⟨hr, _⟩)
    · cases hr
      refine wpAny_bind (wpAny_pyHash_tuple (by show _ < cLine; first | omega | (simp only [Around.units] at *; omega)) hb ?_)
      first
        | exact wpAny_pure (.inr (.inl ⟨rfl, by simp [ha], rfl⟩))
        | exact wpAny_bind (wpAny_pure (wpAny_pure (.inr (.inl ⟨rfl, by simp [ha], rfl⟩))))
    · cases hr
      refine wpAny_bind ((mixKind prog w).pyHash hv ?_)
      first
        | exact wpAny_pure (.inr (.inr ⟨rfl, by simp [ha], rfl⟩))
        | exact wpAny_bind (wpAny_pure (wpAny_pure (.inr (.inr ⟨rfl, by simp [ha], rfl⟩))))
    · cases hr
  · rintro acc s' (⟨hr, _⟩ | ⟨hr, _⟩ | ⟨_, ha, rfl⟩)
    · cases hr
    · cases hr
    show wpAny _ _ (retInt (Builtin.Tuple.tupleHashOf acc.toList)) _ _ _
    rw [ha]
    refine wpAny_ret_mkInt ?_
    generalize hX : Builtin.Tuple.tupleHashOf [tupleKeyHash (mixKind prog w) k.1, (mixKind prog w).hash (Sum.inl k.2)] = X
    have h : Q (reduceHash X) { s with toks := s.toks + (k.1.length + 3) } := by rw [← hX]; exact h
    show wpAny _ _ (if (decide (-(2 : Int) ^ 63 ≤ X) && decide (X < 2 ^ 63)) = true then _ else _) Q E _
    unfold reduceHash at h
    by_cases hr : (decide (-(2 : Int) ^ 63 ≤ X) && decide (X < 2 ^ 63)) = true
    · rw [if_pos hr]
      rw [if_pos hr] at h
      exact wpAny_pure (by simpa [Nat.add_assoc] using h)
    · rw [if_neg hr]
      rw [if_neg hr] at h
      exact wpAny_bind (wpAny_rule (wpAny_pure (by simpa [Nat.add_assoc] using h)))
theorem eq_tree {x y : NKey} {a b : Addr} {P : Fin → Shared → Prop} (hu : A.units + 3 < cLine) (hx : IsN prog w s.heap x a) (hy : IsN prog w s.heap y b) (h : P (.done (.ret (.bool (decide (x = y))))) s) :
    wpAny (model prog w) A (Builtin.«tuple.__eq__» ⟨[.ref a, .ref b], []⟩) P E s := by
  have hTb := hy.ty
  obtain ⟨oa, na, a2, va, hoa, _, hda, hia, hva⟩ := hx
  obtain ⟨ob, nb, b2, vb, hob, _, hdb, hib, hvb⟩ := hy
  show wpAny _ _ (isInstance (.ref b) (.type "tuple") >>= _) _ _ s
  refine wpAny_bind (wpAny_isInstance hTb isSubtype_tuple_tuple ?_)
  simp only [Bool.not_true, Bool.false_eq_true, if_false]
  refine wpAny_bind (wpAny_tupleItemsOf hoa hda ?_)
  refine wpAny_bind (wpAny_tupleItemsOf hob hdb ?_)
  refine wpAny_bind ?_
  refine wpAny_forIn_list _
    (fun rest r s' => r.1 = none ∧ s' = s ∧ ((rest = [(Value.ref a2, Value.ref b2), (va, vb)]) ∨ (rest = [(va, vb)] ∧ x.1 = y.1) ∨ (rest = [] ∧ x = y)))
    _ ?_ ?_ _ _ ⟨rfl, rfl, .inl rfl⟩
  · rintro ⟨u, v⟩ rest r s' ⟨hr, rfl, hz | ⟨hz, e1⟩ | ⟨hz, _⟩⟩
    · cases hz
      refine wpAny_bind (wpAny_eqBool_tuple (by show _ < cLine; first | omega | (simp only [Around.units] at *; omega)) hia hib ?_)
      by_cases hk : x.1 = y.1
      · rw [decide_eq_true hk]
        simp only [Bool.not_true, Bool.false_eq_true, if_false]
        exact wpAny_pure (by simp [hk])
      · rw [decide_eq_false hk]
        simp only [Bool.not_false, if_true]
        have hf : decide (x = y) = false := decide_eq_false fun z => hk (by rw [z])
        rw [hf] at h
        exact wpAny_bind (wpAny_pure (wpAny_pure (wpAny_pure h)))
    · cases hz
      refine wpAny_bind ((mixKind prog w).eqBool (a := Sum.inl x.2) (b := Sum.inl y.2) hva hvb ?_)
      by_cases hk : x.2 = y.2
      · rw [decide_eq_true (show (Sum.inl x.2 : Key) = Sum.inl y.2 by rw [hk])]
        simp only [Bool.not_true, Bool.false_eq_true, if_false]
        exact wpAny_pure (by simp [Prod.ext e1 hk])
      · rw [decide_eq_false (show ¬ (Sum.inl x.2 : Key) = Sum.inl y.2 from fun z => hk (Sum.inl.inj z))]
        simp only [Bool.not_false, if_true]
        have hf : decide (x = y) = false := decide_eq_false fun z => hk (by rw [z])
        rw [hf] at h
        exact wpAny_bind (wpAny_pure (wpAny_pure (wpAny_pure h)))
    · cases hz
  · rintro ⟨r1, r2⟩ s' ⟨hr, rfl, hz | ⟨hz, _⟩ | ⟨_, e1⟩⟩
    · cases hz
    · cases hz
    simp only at hr
    subst hr
    refine wpAny_pure ?_
    rw [decide_eq_true e1] at h
    exact h
theorem eq_N {x y : NKey} {a b : Addr} {Q : Bool → Shared → Prop} (hu : A.units + 4 < cLine) (hx : IsN prog w s.heap x a) (hy : IsN prog w s.heap y b) (h : Q (decide (x = y)) s) : wpAny (model prog w) A (eqBool (.ref a) (.ref b)) Q E s := by
  unfold eqBool
  try with_reducible refine wpAny_holding ?_
  show wpAny _ _ (if (Value.ref a == Value.ref b) = true then _ else _) Q E s
  by_cases hab : (Value.ref a == Value.ref b) = true
  · rw [if_pos hab]
    have e : a = b := by have := eq_of_beq hab; injection this
    subst e
    obtain rfl := hx.inj hy
    exact wpAny_bind (wpAny_rule (wpAny_pure (by simpa using h)))
  · rw [if_neg hab]
    exact wpAny_bind (wpAny_richCompare_same_room (op := .Eq) hx.ty hy.ty F.slot_tuple_eq
      (wpAny_call_entry F.slot_tuple_eq hx.ty F.entry_tuple_eq (eq_tree (by have e1 : A.in1.units = A.units + 1 := rfl; omega) hx hy ⟨_, rfl, (fun e => nomatch e), wpAny_truthy_bool h⟩) (F.args_tuple_eq_2 _ _)) (by omega))
theorem quiet_in {ks : List Key} {a : Addr} {m : Nat} {Q : Bool → Shared → Prop} (hk : IsTupleKey (mixKind prog w) s.heap ks a) (h : Q true s) : wpAny (model prog w) A (eqIsQuiet (m + 1) (.ref a)) Q E s := by
  have hT := hk.typeIs
  obtain ⟨o, items, n, ho, _, hd, hi⟩ := hk
  unfold eqIsQuiet
  refine wpAny_bind (wpAny_specialOf hT F.slot_tuple_eq.lookup ?_)
  show wpAny _ _ (isInstance (.ref a) (.type "tuple") >>= _) _ _ s
  refine wpAny_bind (wpAny_isInstance hT isSubtype_tuple_tuple ?_)
  simp only [Bool.not_true, Bool.false_eq_true, if_false]
  refine wpAny_bind (wpAny_seqItems ho hd ?_)
  refine wpAny_bind ?_
  show wpAny _ _ (forIn items _ _) _ _ s
  rw [← Array.forIn_toList]
  refine wpAny_forIn_list _ (fun rest r s' => r.1 = none ∧ s' = s ∧ ∀ v ∈ rest, carriedByValue v = true) _ ?_ ?_ _ _ ⟨rfl, rfl, hi.byValue⟩
  · rintro v rest r s' ⟨hr, rfl, hall⟩
    rw [eqIsQuiet_byValue _ (hall v List.mem_cons_self)]
    refine wpAny_bind (wpAny_pure ?_)
    simp only [Bool.not_true, Bool.false_eq_true, if_false]
    exact wpAny_pure ⟨rfl, rfl, fun u hu' => hall u (List.mem_cons_of_mem _ hu')⟩
  · rintro ⟨r1, r2⟩ s' ⟨hr, rfl, _⟩
    simp only at hr
    subst hr
    exact wpAny_pure h
theorem quiet_N {k : NKey} {a : Addr} {Q : Bool → Shared → Prop} (hk : IsN prog w s.heap k a) (h : Q true s) : wpAny (model prog w) A (eqIsQuiet 8 (.ref a)) Q E s := by
  have hT := hk.ty
  obtain ⟨o, n, b, v, ho, _, hd, hb, hv⟩ := hk
  unfold eqIsQuiet
  refine wpAny_bind (wpAny_specialOf hT F.slot_tuple_eq.lookup ?_)
  show wpAny _ _ (isInstance (.ref a) (.type "tuple") >>= _) _ _ s
  refine wpAny_bind (wpAny_isInstance hT isSubtype_tuple_tuple ?_)
  simp only [Bool.not_true, Bool.false_eq_true, if_false]
  refine wpAny_bind (wpAny_seqItems ho hd ?_)
  refine wpAny_bind ?_
  show wpAny _ _ (forIn _ _ _) _ _ s
  rw [← Array.forIn_toList]
  refine wpAny_forIn_list _ (fun rest r s' => r.1 = none ∧ s' = s ∧ (rest = [.ref b, v] ∨ rest = [v] ∨ rest = [])) _ ?_ ?_ _ _ ⟨rfl, rfl, .inl rfl⟩
  · rintro x rest r s' ⟨hr, rfl, hz | hz | hz⟩
    · cases hz
      refine wpAny_bind (quiet_in (m := 6) hb ?_)
      simp only [Bool.not_true, Bool.false_eq_true, if_false]
      exact wpAny_pure (by simp)
    · cases hz
      rw [eqIsQuiet_byValue _ ((mixKind prog w).byValue _ _ hv)]
      refine wpAny_bind (wpAny_pure ?_)
      simp only [Bool.not_true, Bool.false_eq_true, if_false]
      exact wpAny_pure (by simp)
    · cases hz
  · rintro ⟨r1, r2⟩ s' ⟨hr, rfl, _⟩
    simp only at hr
    subst hr
    exact wpAny_pure h
end
def nKind (prog : Program) (w : World) : HeapKind prog w NKey where
  is := IsN prog w
  hash := hashN prog w
  draws := fun k => k.1.length + 3
  room := fun A => A.units + 4 < cLine
  inj := fun hx hy => hx.inj hy
  keeps := fun x ho hd hs => x.stays ho hd hs
  pyHash := fun hu hk h => hash_N (by omega) hk h
  eqBool := fun hu hx hy h => eq_N hu hx hy h
  quiet := fun hk h => quiet_N hk h
end PySem.NK
namespace My
open PySem PySem.Spec PyProof.Rows L2 PySem.NK
section
variable {P : Program} {w : World} {H H' : Hp} {h : Heap} {a b : Addr} {xs : List (NKey × Addr × Value)} {kvs : List (NKey × V)} {k : NKey}
/-- a dict with such keys, by its entries -/
def ndO (P : Program) (w : World) (a : Addr) (xs : List (NKey × Addr × Value)) : HO := .ext fun h => (a == sysModules) = false ∧ ∃ o es ep, h.get? a = some o ∧ o.ExactDict ∧ o.data = .dict es ep ∧ es.toList = xs.map (entryOfKey (nKind P w)) ∧ (xs.map (·.1)).Nodup
def KeyN (H : Hp) (b : Addr) (k : NKey) : Prop := ∃ b2, H b = some (.tup [.ref b2, .int k.2]) ∧ H b2 = some (.tup (k.1.map kV))
def NDict (P : Program) (w : World) (H : Hp) (a : Addr) (kvs : List (NKey × V)) : Prop := kvs.length ≤ sizeLine ∧ ∃ xs, H a = some (ndO P w a xs) ∧ Paired (fun (p : NKey × V) (q : NKey × Addr × Value) => p.1 = q.1 ∧ KeyN H q.2.1 p.1 ∧ RelV p.2 q.2.2) kvs xs
theorem ndO_ok {P : Program} {w : World} {H : Hp} {h : Heap} {a : Addr} {xs : List (NKey × Addr × Value)} (hd : (a == sysModules) = false) {o : Obj} {es : Array DictEntry} {ep : Nat} (e : h.get? a = some o) (h2 : o.ExactDict) (h3 : o.data = .dict es ep) (h4 : es.toList = xs.map (entryOfKey (nKind P w))) (h5 : (xs.map (·.1)).Nodup) : ObjOk P w H h a (ndO P w a xs) :=
  ⟨⟨hd, o, es, ep, e, h2, h3, h4, h5⟩, ⟨o, e⟩, fun _ _ ⟨d, o, es, ep, q, r⟩ k => ⟨d, o, es, ep, k o q, r⟩⟩
theorem KeyN.is {P : Program} {w : World} {H : Hp} {h : Heap} {b : Addr} {k : NKey} (ok : HOk P w H h) (e : KeyN H b k) : (nKind P w).is h k b := by
  obtain ⟨b2, e1, e2⟩ := e
  obtain ⟨_, its, r, o, h1, h2, n, h3⟩ := (show ObjOk P w H h b (.tup [.ref b2, .int k.2]) from ok b _ e1)
  obtain ⟨u1, u2, rfl, r1, r2⟩ := vals2 r
  cases (show u1 = Value.ref b2 from r1)
  exact ⟨o, n, b2, u2, h1, h2, h3, key_of ok e2, kV_is (k := Sum.inl k.2) r2⟩
theorem KeyN.keep {k : NKey} (e : KeyN H b k) (ht : ∀ c ys, H c = some (.tup ys) → H' c = some (.tup ys)) : KeyN H' b k := by
  obtain ⟨b2, e1, e2⟩ := e
  exact ⟨b2, ht _ _ e1, ht _ _ e2⟩
theorem NDict.keep (x : NDict P w H a kvs) (e : Le H H') : NDict P w H' a kvs := by
  obtain ⟨l, xs, h1, h2⟩ := x
  exact ⟨l, xs, e _ _ h1, Pmap h2 fun p q ⟨r1, r2, r3⟩ => ⟨r1, r2.keep fun c ys hc => e _ _ hc, r3⟩⟩
theorem NDict.rd (ok : HOk P w H h) (x : NDict P w H a kvs) : (a == sysModules) = false ∧ ∃ xs, H a = some (ndO P w a xs) ∧ Paired (fun (p : NKey × V) (q : NKey × Addr × Value) => p.1 = q.1 ∧ KeyN H q.2.1 p.1 ∧ RelV p.2 q.2.2) kvs xs ∧ h.DictOfH (nKind P w) a xs := by
  obtain ⟨l, xs, e, r⟩ := x
  obtain ⟨hd, o, es, ep, h1, h2, h3, h4, h5⟩ := (show ObjOk P w H h a (ndO P w a xs) from ok a _ e).1
  refine ⟨hd, xs, e, r, o, es, ep, h1, h2, h3, h4, fun x hx => ?_, h5⟩
  obtain ⟨p, hp, r1, r2, _⟩ := P_mem2 r hx
  rw [← r1]
  exact r2.is ok
theorem nval {xs : List (NKey × Addr × Value)} {kvs : List (NKey × V)} (r : Paired (fun (p : NKey × V) (q : NKey × Addr × Value) => p.1 = q.1 ∧ KeyN H q.2.1 p.1 ∧ RelV p.2 q.2.2) kvs xs) (k : NKey) : RelO (valV kvs k) ((atKey xs k).map (·.2)) := by
  induction r with
  | nil => exact True.intro
  | @cons p q ps qs hh t ih =>
    obtain ⟨h1, _, h2⟩ := hh
    by_cases e : p.1 = k
    · have b : atKey (q :: qs) k = some q.2 := by simp [atKey, List.find?_cons, h1.symm.trans e]
      rw [valV_pos e, b]; exact h2
    · have e' : ¬ q.1 = k := fun z => e (h1.trans z)
      have b : atKey (q :: qs) k = atKey qs k := by simp [atKey, List.find?_cons, e']
      rw [valV_neg e, b]; exact ih
theorem nput {xs : List (NKey × Addr × Value)} {kvs : List (NKey × V)} (r : Paired (fun (p : NKey × V) (q : NKey × Addr × Value) => p.1 = q.1 ∧ KeyN H q.2.1 p.1 ∧ RelV p.2 q.2.2) kvs xs) (k : NKey) {b : Addr} {y : V} {u : Value} (hb : KeyN H b k) (ry : RelV y u) :
    Paired (fun (p : NKey × V) (q : NKey × Addr × Value) => p.1 = q.1 ∧ KeyN H q.2.1 p.1 ∧ RelV p.2 q.2.2) (putK kvs k y) (storedH xs k b u) := by
  have e : (kvs.any fun kv => decide (kv.1 = k)) = (atKey xs k).isSome := by
    rw [valV_any, (nval r k).isSome_eq, Option.isSome_map]
  unfold putK storedH
  rw [e]
  by_cases q : (atKey xs k).isSome = true
  · rw [if_pos q, if_pos q]
    clear e q
    induction r with
    | nil => exact .nil
    | @cons p q ps qs hh t ih =>
      refine .cons ?_ ih
      obtain ⟨h1, h2, h3⟩ := hh
      unfold putAt
      dsimp only
      by_cases e : p.1 = k
      · rw [if_pos e, if_pos (h1.symm.trans e)]; exact ⟨h1, h2, ry⟩
      · rw [if_neg e, if_neg (fun z => e (h1.trans z))]; exact ⟨h1, h2, h3⟩
  · rw [if_neg q, if_neg q]; exact P_snoc ⟨rfl, hb, ry⟩ r
theorem ndrop {xs : List (NKey × Addr × Value)} {kvs : List (NKey × V)} (r : Paired (fun (p : NKey × V) (q : NKey × Addr × Value) => p.1 = q.1 ∧ KeyN H q.2.1 p.1 ∧ RelV p.2 q.2.2) kvs xs) (k : NKey) :
    Paired (fun (p : NKey × V) (q : NKey × Addr × Value) => p.1 = q.1 ∧ KeyN H q.2.1 p.1 ∧ RelV p.2 q.2.2) (dropK kvs k) (DT.dropH xs k) := by
  unfold dropK DT.dropH
  induction r with
  | nil => exact .nil
  | @cons p q ps qs hh t ih =>
    rw [List.filter_cons, List.filter_cons]
    obtain ⟨h1, h2, h3⟩ := hh
    by_cases e : p.1 = k
    · rw [if_neg (by simp [e]), if_neg (by simp [h1.symm.trans e])]; exact ih
    · have e' : ¬ q.1 = k := fun z => e (h1.trans z)
      rw [if_pos (by simp [e]), if_pos (by simp [e'])]; exact .cons ⟨h1, h2, h3⟩ ih
end
/-! the rules: y in d, d[y], d[y] = v, d.pop(y), {} -/
def tNIn (P : Program) (w : World) (ty td : TE) : TE := fun σ H Q => ty σ H fun y H1 => td σ H1 fun x H2 => ∃ a b kvs k, x = .ref a ∧ y = .ref b ∧ NDict P w H2 a kvs ∧ KeyN H2 b k ∧ Q (.bl (valV kvs k).isSome) H2
def tNGet (P : Program) (w : World) (td ty : TE) : TE := fun σ H Q => td σ H fun x H1 => ty σ H1 fun y H2 => ∃ a b kvs k v, x = .ref a ∧ y = .ref b ∧ NDict P w H2 a kvs ∧ KeyN H2 b k ∧ valV kvs k = some v ∧ Q v H2
def NPut (P : Program) (w : World) (a b : Addr) (v : V) (H : Hp) (Q : Hp → Prop) : Prop := ∃ kvs k, NDict P w H a kvs ∧ KeyN H b k ∧ kvs.length < sizeLine ∧ ∀ H', Step [a] H H' → NDict P w H' a (putK kvs k v) → Q H'
def rNSet (P : Program) (w : World) : TSet := fun x y v H Q => ∃ a b, x = .ref a ∧ y = .ref b ∧ NPut P w a b v H Q
def tNPop (P : Program) (w : World) (td ty : TE) : TE := fun σ H Q => td σ H fun x H1 => ∃ a, x = .ref a ∧ (∃ kvs, NDict P w H1 a kvs) ∧ ty σ H1 fun y H2 => ∃ b kvs k v, y = .ref b ∧ NDict P w H2 a kvs ∧ KeyN H2 b k ∧ valV kvs k = some v ∧ ∀ H', Step [a] H2 H' → NDict P w H' a (dropK kvs k) → Q v H'
def tNNew (P : Program) (w : World) : TE := fun _ H Q => ∀ p H', H p = none → Step [] H H' → NDict P w H' p [] → Q (.ref p) H'
section
variable {X : Cx} {pins : List (Addr × Obj)} {σ : L2.St} {H : Hp} {s : Shared} {a b : Addr} {kvs : List (NKey × V)} {k : NKey} {v : V} {A : Around} {E : Value → Shared → Prop}
theorem n_in {Q : Value → Shared → Prop} (hu : A.units + 5 < cLine) (I : Inv X pins σ H s) (x : NDict X.prog X.w H a kvs) (y : KeyN H b k) (h : ∀ s', Inv X pins σ H s' → Q (.bool (valV kvs k).isSome) s') : wpAny (model X.prog X.w) A (compareOp .In (.ref b) (.ref a)) Q E s := by
  obtain ⟨hd, xs, e, r, dd⟩ := x.rd I.hok
  refine wpAny_in_heap (knd := nKind X.prog X.w) (by have e1 : A.in1.units = A.units + 1 := rfl; show A.in1.units + 4 < cLine; omega) (y.is I.hok) hd dd ?_
  have q := (nval r k).isSome_eq
  rw [Option.isSome_map] at q
  rw [← q]
  exact h _ (I.tok _)
theorem n_get {Q : Value → Shared → Prop} (hu : A.units + 5 < cLine) (I : Inv X pins σ H s) (x : NDict X.prog X.w H a kvs) (y : KeyN H b k) (l : valV kvs k = some v) (h : ∀ w' s', Inv X pins σ H s' → RelV v w' → Q w' s') : wpAny (model X.prog X.w) A (getItem (.ref a) (.ref b)) Q E s := by
  obtain ⟨hd, xs, e, r, dd⟩ := x.rd I.hok
  obtain ⟨w', hw, rw'⟩ := RelO.some_of (v := v) (o := (atKey xs k).map (·.2)) (by rw [← l]; exact nval r k)
  obtain ⟨p, hp, hp2⟩ := Option.map_eq_some_iff.mp hw
  refine wpAny_getItem_heap (knd := nKind X.prog X.w) (by have e1 : A.in1.units = A.units + 1 := rfl; show A.in1.units + 4 < cLine; omega) (y.is I.hok) dd hp ?_
  rw [hp2]
  exact h w' _ (I.tok _) rw'
theorem n_set {u : Value} {Q : Unit → Shared → Prop} {QH : Hp → Prop} (hu : A.units + 5 < cLine) (I : Inv X pins σ H s) (g : NPut X.prog X.w a b v H QH) (rv : RelV v u) (h : ∀ H' s', Inv X pins σ H' s' → QH H' → Q () s') : wpAny (model X.prog X.w) A (setItem (.ref a) (.ref b) u) Q E s := by
  obtain ⟨kvs, k, x, y, l, q⟩ := g
  obtain ⟨hd, xs, e, r, dd⟩ := x.rd I.hok
  have hz : xs.length ≤ sizeLine := by rw [← Paired.length r]; exact x.1
  refine wpAny_setItem_heap (knd := nKind X.prog X.w) (hsz := hz) (by have e1 : A.in1.units = A.units + 1 := rfl; show A.in1.units + 4 < cLine; omega) (y.is I.hok) dd fun h' dd' hs => ?_
  obtain ⟨o, es, ep, hq, h2, h3, h4, _, h5⟩ := dd'
  have I2 : Inv X pins σ (upd H a (ndO X.prog X.w a (storedH xs k b u))) { s with heap := h', toks := s.toks + (nKind X.prog X.w).draws k } := d_write I (by rw [e]; exact True.intro) hs ⟨o, hq⟩ (ndO_ok hd hq h2 h3 h4 h5)
  have st : Step [a] H (upd H a (ndO X.prog X.w a (storedH xs k b u))) := (Step.refl [a] H).wr (List.mem_singleton.mpr rfl)
  refine h _ _ I2 (q _ st ⟨by have := length_putK kvs k v; omega, _, upd_same, Pmap (nput r k y rv) fun p q ⟨r1, r2, r3⟩ => ⟨r1, r2.keep fun c ys hc => ?_, r3⟩⟩)
  exact st.at1 hc (ne_of hc e (fun z => nomatch z))
theorem pc_nin {i o : Expr} {ty td : TE} (hu : X.A.units + 5 < cLine) (hi : PE X i ty) (ho : PE X o td) : PC X .In i o (tNIn X.prog X.w ty td) := by
  refine ⟨fun pins s σ H Q I h => ?_⟩
  refine thn (hi.run pins s σ H _ I h) fun iv s1 ⟨y, H1, I1, ry, q1⟩ => thn (ho.run pins s1 σ H1 _ I1 q1) fun u s2 ⟨x, H2, I2, rx, a, b, kvs, k, ex, ey, g, kk, q2⟩ => ?_
  subst ex ey
  obtain rfl : u = Value.ref a := rx
  obtain rfl : iv = Value.ref b := ry
  exact n_in hu I2 g kk fun s3 I3 => ⟨.bl (valV kvs k).isSome, H2, I3, rfl, q2⟩
theorem pe_nget {o i : Expr} {pos : Pos} {td ty : TE} (hu : X.A.units + 5 < cLine) (ho : PE X o td) (hi : PE X i ty) (hs : NoSl i) : PE X (.Subscript o i pos) (tNGet X.prog X.w td ty) := by
  refine ⟨fun pins s σ H Q I h => ?_⟩
  refine subD_of PySem.F.slot_dict_getitem.lookup hs (thn (ho.run pins s σ H _ I h) fun u s1 ⟨x, H1, I1, rx, q1⟩ => thn (hi.run pins s1 σ H1 _ I1 q1) fun iv s2 ⟨y, H2, I2, ry, a, b, kvs, k, v, ex, ey, g, kk, l, q2⟩ => ?_)
  subst ex ey
  obtain rfl : u = Value.ref a := rx
  obtain rfl : iv = Value.ref b := ry
  obtain ⟨_, xs, _, _, dd⟩ := g.rd I2.hok
  exact ⟨dd.typeIs, n_get hu I2 g kk l fun w' s3 I3 rw' => ⟨v, H2, I3, rw', q2⟩⟩
theorem set_n (hu : X.A.units + 5 < cLine) : PSet X (rNSet X.prog X.w) := by
  intro pins s σ H o i v ov iv u Q I ro ri rv h
  obtain ⟨a, b, rfl, rfl, g⟩ := h
  cases ro
  cases ri
  exact n_set hu I g rv fun H' s' I' q => ⟨H', I', q⟩
theorem pe_npop {o e : Expr} {apos cpos : Pos} {td ty : TE} (hu : X.A.units + 5 < cLine) (ho : PE X o td) (he : PE X e ty) (m : M1 X o "pop" apos e cpos) : PE X (.Call (.Attribute o "pop" apos) [e] [] cpos) (tNPop X.prog X.w td ty) := by
  refine ⟨fun pins s σ H Q I h => ?_⟩
  refine wpAny_Call_method m.base m.few m.line PySem.F.plainAttrs_dict PySem.F.slot_dict_pop PySem.F.type_dict_pop (thn (ho.run pins s σ H _ I h) fun u s1 ⟨x, H1, I1, rx, a, ex, ⟨kv0, d⟩, q1⟩ => ?_)
  subst ex
  obtain rfl : u = Value.ref a := rx
  obtain ⟨_, xs0, _, _, dd0⟩ := d.rd I1.hok
  refine ⟨dd0.typeIs, fun b q => ?_, ?_⟩
  · cases q
    obtain ⟨ob, _, _, h1, h2, _⟩ := dd0
    exact ⟨ob, h1, h2.2.1⟩
  rw [m.trees]
  refine Calls.callWith_builtin rfl (Calls.evalArgs_plain (Calls.spliced_cons (thn (he.run pins s1 σ H1 _ I1 q1) fun iv s2 ⟨y, H2, I2, ry, b, kvs, k, v, ey, x, kk, l, q2⟩ => Calls.spliced_nil ?_)))
  subst ey
  obtain rfl : iv = Value.ref b := ry
  obtain ⟨hd, xs, ea, r, dd⟩ := x.rd I2.hok
  obtain ⟨w', hw, rw'⟩ := RelO.some_of (v := v) (o := (atKey xs k).map (·.2)) (by rw [← l]; exact nval r k)
  obtain ⟨p, hp, hp2⟩ := Option.map_eq_some_iff.mp hw
  have hz : xs.length ≤ sizeLine := by rw [← Paired.length r]; exact x.1
  refine call_pop_heap (knd := nKind X.prog X.w) (more := []) (hsz := hz) (.inl rfl) (PySem.F.args_dict_pop_2 _ _) (by have e1 : X.A.in1.units = X.A.units + 1 := rfl; show X.A.in1.units + 4 < cLine; omega) (kk.is I2.hok) hd dd hp fun h' dd' hs => ?_
  obtain ⟨o', es, ep, hq, h2, h3, h4, _, h5⟩ := dd'
  have I3 : Inv X pins σ (upd H2 a (ndO X.prog X.w a (DT.dropH xs k))) { s2 with heap := h', toks := s2.toks + (nKind X.prog X.w).draws k } := d_write I2 (by rw [ea]; exact True.intro) hs ⟨o', hq⟩ (ndO_ok hd hq h2 h3 h4 h5)
  have st : Step [a] H2 (upd H2 a (ndO X.prog X.w a (DT.dropH xs k))) := (Step.refl [a] H2).wr (List.mem_singleton.mpr rfl)
  rw [hp2]
  refine ⟨v, _, I3, rw', q2 _ st ⟨Nat.le_trans (dropK_le kvs k) x.1, _, upd_same, Pmap (ndrop r k) fun p q ⟨r1, r2, r3⟩ => ⟨r1, r2.keep fun c ys hc => ?_, r3⟩⟩⟩
  exact st.at1 hc (ne_of hc ea (fun z => nomatch z))
theorem pe_nnew {pos : Pos} : PE X (.Dict [] [] pos) (tNNew X.prog X.w) := ⟨fun pins s σ H Q I h => by
  have hn := I.hok.fresh (Nat.le_refl s.heap.objs.size)
  refine wpAny_Dict_empty ⟨.ref s.heap.objs.size, _, I.laid (a := s.heap.objs.size) (o := ndO X.prog X.w s.heap.objs.size []) (t' := s.toks) (fun _ _ q => Heap.get?_push_of_some _ q) (Nat.le_refl _) ?_, rfl, h _ _ hn (Step.new hn) ⟨Nat.zero_le _, [], upd_same, .nil⟩⟩
  exact ndO_ok (beq_eq_false_iff_ne.mpr (Ne.symm (Nat.ne_of_lt I.big))) (Heap.get?_push_size _ rfl) ⟨rfl, rfl, rfl⟩ rfl rfl List.nodup_nil⟩
end
end My
/-! KitC: colours of the moves: the plain law. -/
namespace My
open PySem PySem.Spec PyProof.Rows L2
abbrev En := List Key
theorem flt_len {α : Type} (p : α → Bool) : ∀ l : List α, l.length = (l.filter p).length + (l.filter fun x => !p x).length
  | [] => rfl
  | x :: r => by
    have := flt_len p r
    cases h : p x with
    | true => rw [List.filter_cons_of_pos h, List.filter_cons_of_neg (by simp [h]), List.length_cons, List.length_cons]; omega
    | false => rw [List.filter_cons_of_neg (by simp [h]), List.filter_cons_of_pos (by simp [h]), List.length_cons, List.length_cons]; omega
/-- moves by numbers: from which end to which end; ends have a side -/
structure Gr where
  es : List (En × En)
  sd : En → Bool
  bip : ∀ p ∈ es, sd p.1 = false ∧ sd p.2 = true
namespace Gr
variable (G : Gr)
def inc (at_ : Nat) (e : En) : Prop := ∃ p, G.es[at_]? = some p ∧ (e = p.1 ∨ e = p.2)
def oth (at_ : Nat) (e : En) : En := match G.es[at_]? with
  | none => e
  | some p => if p.1 = e then p.2 else p.1
/-- the first n have colours c, told by u -/
structure Ok (n : Nat) (c : Nat → Nat) (u : En → Nat → Option Nat) : Prop where
  lt : n ≤ G.es.length
  fw : ∀ e k at_, u e k = some at_ → at_ < n ∧ G.inc at_ e ∧ c at_ = k
  bw : ∀ at_ e, at_ < n → G.inc at_ e → u e (c at_) = some at_
variable {G} {n : Nat} {c : Nat → Nat} {u : En → Nat → Option Nat}
theorem inc_side {at_ : Nat} {e e' : En} (h : G.inc at_ e) (h' : G.inc at_ e') (s : G.sd e = G.sd e') : e = e' := by
  obtain ⟨p, hp, h⟩ := h
  obtain ⟨p', hp', h'⟩ := h'
  rw [hp] at hp'
  cases hp'
  obtain ⟨b1, b2⟩ := G.bip p (List.mem_of_getElem? hp)
  rcases h with rfl | rfl <;> rcases h' with rfl | rfl
  · rfl
  · rw [b1, b2] at s; cases s
  · rw [b1, b2] at s; cases s
  · rfl
theorem inc_oth {at_ : Nat} {e : En} (h : G.inc at_ e) : G.inc at_ (G.oth at_ e) ∧ G.sd (G.oth at_ e) = !G.sd e := by
  obtain ⟨p, hp, h⟩ := h
  obtain ⟨b1, b2⟩ := G.bip p (List.mem_of_getElem? hp)
  unfold oth
  rw [hp]
  dsimp only
  by_cases e1 : p.1 = e
  · rw [if_pos e1]
    exact ⟨⟨p, hp, .inr rfl⟩, by rw [b2, ← e1, b1]; rfl⟩
  · rw [if_neg e1]
    rcases h with rfl | rfl
    · exact absurd rfl e1
    · exact ⟨⟨p, hp, .inl rfl⟩, by rw [b1, b2]; rfl⟩
theorem Ok.uniq (I : G.Ok n c u) {e : En} {a b : Nat} (ha : a < n) (hb : b < n) (ia : G.inc a e) (ib : G.inc b e) (h : c a = c b) : a = b := by
  have h1 := I.bw a e ha ia
  have h2 := I.bw b e hb ib
  rw [h] at h1
  rw [h1] at h2
  exact Option.some.inj h2
/-- the chain from v: the numbers walked, the end and the colour at which it stands -/
structure Chain (G : Gr) (n : Nat) (c : Nat → Nat) (u : En → Nat → Option Nat) (v : En) (a b : Nat) (ch : List Nat) (e : En) (k : Nat) : Prop where
  k2 : k = a ∨ k = b
  side : G.sd e = decide (k = a)
  nd : ch.Nodup
  mem : ∀ x ∈ ch, x < n ∧ (c x = a ∨ c x = b)
  fresh : ∀ x ∈ ch, c x = k → ¬ G.inc x e
  back : ∀ x ∈ ch, ∀ e', G.inc x e' → G.sd e' = decide (c x = a) → (e' = v ∧ c x = a) ∨ ∃ y ∈ ch, G.inc y e' ∧ c y = a + b - c x
  forw : ∀ x ∈ ch, ∀ e', G.inc x e' → G.sd e' = !decide (c x = a) → (e' = e ∧ k = a + b - c x) ∨ ∃ y ∈ ch, G.inc y e' ∧ c y = a + b - c x
  tip : (ch = [] ∧ e = v ∧ k = a) ∨ ∃ y ∈ ch, G.inc y e ∧ c y = a + b - k
  head : ∀ x, u v a = some x → x ∈ ch ∨ (ch = [] ∧ e = v ∧ k = a)
theorem Chain.start {v : En} {a b : Nat} (hv : G.sd v = true) : Chain G n c u v a b [] v a :=
  ⟨.inl rfl, by rw [hv]; simp, List.nodup_nil, by simp, by simp, by simp, by simp, .inl ⟨rfl, rfl, rfl⟩, fun x _ => .inr ⟨rfl, rfl, rfl⟩⟩
theorem Chain.step (I : G.Ok n c u) {v : En} {a b : Nat} {ch : List Nat} {e : En} {k x : Nat} (hab : a ≠ b) (hv : u v b = none) (C : Chain G n c u v a b ch e k) (hx : u e k = some x) : Chain G n c u v a b (ch ++ [x]) (G.oth x e) (a + b - k) := by
  obtain ⟨xn, xi, xc⟩ := I.fw e k x hx
  obtain ⟨oi, os⟩ := inc_oth xi
  have k2 := C.k2
  have sd := C.side
  have nx : x ∉ ch := fun h => C.fresh x h xc xi
  have k2' : a + b - k = a ∨ a + b - k = b := by omega
  have sd' : G.sd (G.oth x e) = decide (a + b - k = a) := by
    rw [os, sd]
    rcases k2 with rfl | rfl
    · rw [decide_eq_true rfl, decide_eq_false (by omega)]; rfl
    · rw [decide_eq_false (fun h => hab h.symm), decide_eq_true (by omega)]; rfl
  refine ⟨k2', sd', ?_, ?_, ?_, ?_, ?_, ?_, ?_⟩
  · rw [List.nodup_append]
    exact ⟨C.nd, by simp, fun p hp q hq h => nx (by rw [List.mem_singleton.mp hq] at h; rw [← h]; exact hp)⟩
  · intro y hy
    rcases List.mem_append.mp hy with hy | hy
    · exact C.mem y hy
    · rw [List.mem_singleton.mp hy, xc]; exact ⟨xn, k2⟩
  · intro y hy yc yi
    rcases List.mem_append.mp hy with hy | hy
    · obtain ⟨yn, _⟩ := C.mem y hy
      have ys : G.sd (G.oth x e) = decide (c y = a) := by rw [sd', yc]
      rcases C.back y hy _ yi ys with ⟨h1, h2⟩ | ⟨z, hz, zi, zc⟩
      · have h3 := I.bw x _ xn oi
        rw [h1] at h3
        have : c x = b := by omega
        rw [this, hv] at h3
        cases h3
      · have : z = x := I.uniq (C.mem z hz).1 xn zi oi (by omega)
        rw [this] at hz
        exact nx hz
    · rw [List.mem_singleton.mp hy] at yc
      omega
  · intro y hy e' yi ys
    rcases List.mem_append.mp hy with hy | hy
    · rcases C.back y hy e' yi ys with h | ⟨z, hz, zi, zc⟩
      · exact .inl h
      · exact .inr ⟨z, List.mem_append_left _ hz, zi, zc⟩
    · rw [List.mem_singleton.mp hy] at yi ys ⊢
      have : e' = e := inc_side yi xi (by rw [ys, xc, sd])
      subst this
      rcases C.tip with ⟨h1, h2, h3⟩ | ⟨z, hz, zi, zc⟩
      · exact .inl ⟨h2, by rw [xc, h3]⟩
      · exact .inr ⟨z, List.mem_append_left _ hz, zi, by rw [xc]; exact zc⟩
  · intro y hy e' yi ys
    rcases List.mem_append.mp hy with hy | hy
    · rcases C.forw y hy e' yi ys with ⟨h1, h2⟩ | ⟨z, hz, zi, zc⟩
      · exact .inr ⟨x, by simp, by rw [h1]; exact xi, by rw [xc, h2]⟩
      · exact .inr ⟨z, List.mem_append_left _ hz, zi, zc⟩
    · rw [List.mem_singleton.mp hy] at yi ys ⊢
      have : e' = G.oth x e := inc_side yi oi (by rw [ys, xc, os, sd])
      exact .inl ⟨this, by rw [xc]⟩
  · exact .inr ⟨x, by simp, oi, by rw [xc]; omega⟩
  · intro y hy
    rcases C.head y hy with h | ⟨h1, h2, h3⟩
    · exact .inl (List.mem_append_left _ h)
    · rw [h2, h3] at hx
      rw [hx] at hy
      cases hy
      exact .inl (by simp)
theorem nodup_le {l : List Nat} {n : Nat} (hn : l.Nodup) (h : ∀ x ∈ l, x < n) : l.length ≤ n := by
  have := sub_len (l1 := l) (l2 := List.range n) hn fun x hx => List.mem_range.mpr (h x hx)
  rwa [List.length_range] at this
/-- the two colours exchanged along a whole chain -/
def swp (c : Nat → Nat) (a b : Nat) (ch : List Nat) : Nat → Nat := fun x => if x ∈ ch then a + b - c x else c x
/-- what is told behind the exchange -/
structure Swapped (G : Gr) (c : Nat → Nat) (u u' : En → Nat → Option Nat) (a b : Nat) (ch : List Nat) : Prop where
  new : ∀ x ∈ ch, ∀ e, G.inc x e → u' e (a + b - c x) = some x
  old : ∀ e k x, u e k = some x → x ∉ ch → u' e k = some x
  fw : ∀ e k x, u' e k = some x → (x ∈ ch ∧ G.inc x e ∧ a + b - c x = k) ∨ (u e k = some x ∧ x ∉ ch)
theorem Chain.closed (I : G.Ok n c u) {v : En} {a b : Nat} {ch : List Nat} {e : En} {k : Nat} (hab : a ≠ b) (hv : u v b = none) (C : Chain G n c u v a b ch e k) (hend : u e k = none) {x y : Nat} {e' : En} (hx : x ∈ ch) (ix : G.inc x e') (hy : u e' (a + b - c x) = some y) : y ∈ ch := by
  obtain ⟨yn, yi, yc⟩ := I.fw _ _ _ hy
  by_cases s : G.sd e' = decide (c x = a)
  · rcases C.back x hx e' ix s with ⟨h1, h2⟩ | ⟨z, hz, zi, zc⟩
    · have : a + b - c x = b := by omega
      rw [h1, this, hv] at hy; cases hy
    · have : y = z := I.uniq yn (C.mem z hz).1 yi zi (by omega)
      rw [this]; exact hz
  · have s : G.sd e' = !decide (c x = a) := by
      cases h1 : G.sd e' <;> cases h2 : decide (c x = a) <;> simp_all
    rcases C.forw x hx e' ix s with ⟨h1, h2⟩ | ⟨z, hz, zi, zc⟩
    · rw [h1, ← h2, hend] at hy; cases hy
    · have : y = z := I.uniq yn (C.mem z hz).1 yi zi (by omega)
      rw [this]; exact hz
theorem Chain.swap (I : G.Ok n c u) {v : En} {a b : Nat} {ch : List Nat} {e : En} {k : Nat} {u' : En → Nat → Option Nat} (C : Chain G n c u v a b ch e k) (S : Swapped G c u u' a b ch) : G.Ok n (swp c a b ch) u' := by
  refine ⟨I.lt, fun e' k' x hx => ?_, fun x e' hn ix => ?_⟩
  · rcases S.fw e' k' x hx with ⟨h1, h2, h3⟩ | ⟨h1, h2⟩
    · refine ⟨(C.mem x h1).1, h2, ?_⟩
      unfold swp
      rw [if_pos h1]; exact h3
    · obtain ⟨g1, g2, g3⟩ := I.fw _ _ _ h1
      refine ⟨g1, g2, ?_⟩
      unfold swp
      rw [if_neg h2]; exact g3
  · unfold swp
    by_cases h : x ∈ ch
    · rw [if_pos h]; exact S.new x h e' ix
    · rw [if_neg h]; exact S.old _ _ _ (I.bw x e' hn ix) h
/-- behind the exchange the first colour is free at v, and still where it was free on the other side -/
theorem Chain.freed (I : G.Ok n c u) {v : En} {a b : Nat} {ch : List Nat} {e : En} {k : Nat} {u' : En → Nat → Option Nat} (hab : a ≠ b) (hv : u v b = none) (hva : (u v a).isSome = true) (C : Chain G n c u v a b ch e k) (hend : u e k = none) (S : Swapped G c u u' a b ch) : u' v a = none := by
  cases h : u' v a with
  | none => rfl
  | some x =>
    rcases S.fw v a x h with ⟨h1, h2, h3⟩ | ⟨h1, h2⟩
    · have hm := C.mem x h1
      have := I.bw x v hm.1 h2
      rw [show c x = b by omega, hv] at this
      cases this
    · rcases C.head x h1 with h3 | ⟨h3, h4, h5⟩
      · exact absurd h3 h2
      · rw [h4, h5] at hend
        rw [hend] at hva; cases hva
theorem Chain.still (I : G.Ok n c u) {v w : En} {a b : Nat} {ch : List Nat} {e : En} {k : Nat} {u' : En → Nat → Option Nat} (hab : a ≠ b) (hv : G.sd v = true) (hw : G.sd w = false) (hwa : u w a = none) (C : Chain G n c u v a b ch e k) (S : Swapped G c u u' a b ch) : u' w a = none := by
  cases h : u' w a with
  | none => rfl
  | some x =>
    rcases S.fw w a x h with ⟨h1, h2, h3⟩ | ⟨h1, h2⟩
    · have hm := C.mem x h1
      have cx : c x = b := by omega
      have s : G.sd w = decide (c x = a) := by rw [hw, cx, decide_eq_false (fun z => hab z.symm)]
      rcases C.back x h1 w h2 s with ⟨g1, _⟩ | ⟨z, hz, zi, zc⟩
      · rw [g1, hv] at hw; cases hw
      · have := I.bw z w (C.mem z hz).1 zi
        rw [show c z = a by omega, hwa] at this
        cases this
    · rw [hwa] at h1; cases h1
theorem Swapped.refl_ {a b : Nat} : Swapped G c u u a b [] := ⟨by simp, fun _ _ _ h _ => h, fun _ _ _ h => .inr ⟨h, by simp⟩⟩
/-- one move more -/
theorem Ok.more (I : G.Ok n c u) {p : En × En} {a : Nat} {c' : Nat → Nat} {u' : En → Nat → Option Nat} (hp : G.es[n]? = some p) (h1 : u p.1 a = none) (h2 : u p.2 a = none) (hc : c' n = a) (hc2 : ∀ x, x < n → c' x = c x)
    (hu1 : u' p.1 a = some n) (hu2 : u' p.2 a = some n) (hu3 : ∀ e k, ¬ (k = a ∧ (e = p.1 ∨ e = p.2)) → u' e k = u e k) : G.Ok (n + 1) c' u' := by
  refine ⟨?_, fun e k x hx => ?_, fun x e hn ix => ?_⟩
  · have := (List.getElem?_eq_some_iff.mp hp).1
    omega
  · by_cases h : k = a ∧ (e = p.1 ∨ e = p.2)
    · obtain ⟨rfl, h⟩ := h
      have : x = n := by
        rcases h with rfl | rfl
        · rw [hu1] at hx; exact (Option.some.inj hx).symm
        · rw [hu2] at hx; exact (Option.some.inj hx).symm
      subst this
      exact ⟨by omega, ⟨p, hp, h⟩, hc⟩
    · rw [hu3 e k h] at hx
      obtain ⟨g1, g2, g3⟩ := I.fw _ _ _ hx
      exact ⟨by omega, g2, by rw [hc2 x g1]; exact g3⟩
  · by_cases hxn : x = n
    · subst hxn
      obtain ⟨p', hp', h⟩ := ix
      rw [hp] at hp'
      cases hp'
      rw [hc]
      rcases h with rfl | rfl
      · exact hu1
      · exact hu2
    · have hxn : x < n := by omega
      have g := I.bw x e hxn ix
      rw [hc2 x hxn, hu3 e _ ?_]
      · exact g
      · rintro ⟨h3, h4 | h4⟩
        · rw [h3, h4, h1] at g; cases g
        · rw [h3, h4, h2] at g; cases g
/-- how many of the first n stand at an end -/
def deg (G : Gr) (n : Nat) (e : En) : Nat := ((G.es.take n).filter fun p => decide (e = p.1) || decide (e = p.2)).length
theorem deg_le {m : Nat} (h : n ≤ m) (e : En) : G.deg n e ≤ G.deg m e := by
  unfold deg
  have : G.es.take n = (G.es.take m).take n := by rw [List.take_take, Nat.min_eq_left h]
  rw [this]
  exact ((List.take_sublist _ _).filter _).length_le
theorem deg_succ {p : En × En} (hp : G.es[n]? = some p) {e : En} (h : e = p.1 ∨ e = p.2) : G.deg (n + 1) e = G.deg n e + 1 := by
  unfold deg
  rw [List.take_add_one, hp, List.filter_append, List.length_append]
  congr 1
  have : (decide (e = p.1) || decide (e = p.2)) = true := by
    rcases h with h | h <;> simp [h]
  simp [this]
theorem filt_get {α : Type} {q : α → Bool} : ∀ (l : List α) (js : List Nat), js.Nodup → (∀ j ∈ js, ∃ x, l[j]? = some x ∧ q x = true) → js.length ≤ (l.filter q).length := by
  intro l
  induction l with
  | nil =>
    intro js _ h
    cases js with
    | nil => exact Nat.le_refl _
    | cons j r =>
      obtain ⟨x, hx, _⟩ := h j (List.mem_cons_self ..)
      simp at hx
  | cons a l ih =>
    intro js hn h
    have h1 := ih ((js.filter (· ≠ 0)).map (· - 1)) ?_ ?_
    · rw [List.length_map] at h1
      have h2 : js.length ≤ (js.filter (· ≠ 0)).length + (if 0 ∈ js then 1 else 0) := by
        have := flt_len (fun x : Nat => decide (x ≠ 0)) js
        have h3 : (js.filter fun x => !decide (x ≠ 0)).length ≤ if 0 ∈ js then 1 else 0 := by
          by_cases hz : 0 ∈ js
          · rw [if_pos hz]
            have : (js.filter fun x => !decide (x ≠ 0)).length ≤ [0].length := sub_len (hn.filter _) fun x hx => by
              have := (List.mem_filter.mp hx).2
              simp at this
              simp [this]
            simpa using this
          · rw [if_neg hz]
            have : js.filter (fun x => !decide (x ≠ 0)) = [] := by
              rw [List.filter_eq_nil_iff]
              intro x hx hq
              simp at hq
              exact hz (hq ▸ hx)
            rw [this]; exact Nat.le_refl _
        omega
      have h4 : (if 0 ∈ js then 1 else 0) + (l.filter q).length ≤ ((a :: l).filter q).length := by
        by_cases hz : 0 ∈ js
        · rw [if_pos hz]
          obtain ⟨x, hx, hq⟩ := h 0 hz
          simp at hx
          subst hx
          rw [List.filter_cons_of_pos hq, List.length_cons]
          omega
        · rw [if_neg hz, Nat.zero_add]
          exact ((List.sublist_cons_self a l).filter q).length_le
      omega
    · rw [List.nodup_iff_pairwise_ne, List.pairwise_map]
      have : (js.filter (· ≠ 0)).Pairwise (· ≠ ·) := (hn.filter _)
      refine this.imp_of_mem fun {x y} hx hy hne => ?_
      have hx := (List.mem_filter.mp hx).2
      have hy := (List.mem_filter.mp hy).2
      simp at hx hy
      omega
    · intro j hj
      obtain ⟨i, hi, rfl⟩ := List.mem_map.mp hj
      have hi0 := (List.mem_filter.mp hi).2
      simp at hi0
      obtain ⟨x, hx, hq⟩ := h i (List.mem_filter.mp hi).1
      refine ⟨x, ?_, hq⟩
      obtain ⟨m, rfl⟩ : ∃ m, i = m + 1 := ⟨i - 1, by omega⟩
      simpa using hx
/-- as many colours as are taken at an end, so many moves stand there -/
theorem Ok.taken (I : G.Ok n c u) {e : En} {k : Nat} (h : ∀ j, j < k → (u e j).isSome = true) : k ≤ G.deg n e := by
  unfold deg
  have hl : (List.range k).length = k := List.length_range
  let f : Nat → Nat := fun j => (u e j).getD 0
  have hf : ∀ j, j < k → u e j = some (f j) := fun j hj => by
    have := h j hj
    cases q : u e j with
    | none => rw [q] at this; cases this
    | some x => show _ = some ((u e j).getD 0); rw [q]; rfl
  have := filt_get (q := fun p : En × En => decide (e = p.1) || decide (e = p.2)) (G.es.take n) ((List.range k).map f) ?_ ?_
  · rwa [List.length_map, List.length_range] at this
  · rw [List.nodup_iff_pairwise_ne, List.pairwise_map]
    refine (List.nodup_range (n := k)).imp_of_mem fun {x y} hx hy hne he => hne ?_
    have h1 := (I.fw _ _ _ (hf x (List.mem_range.mp hx))).2.2
    have h2 := (I.fw _ _ _ (hf y (List.mem_range.mp hy))).2.2
    rw [← h1, ← h2, he]
  · intro j hj
    obtain ⟨x, hx, rfl⟩ := List.mem_map.mp hj
    obtain ⟨g1, ⟨p, hp, g2⟩, _⟩ := I.fw _ _ _ (hf x (List.mem_range.mp hx))
    refine ⟨p, by rw [List.getElem?_take_of_lt g1]; exact hp, ?_⟩
    rcases g2 with g2 | g2 <;> simp [g2]
/-- at an end all colours are unlike -/
theorem Ok.all (I : G.Ok n c u) {e : En} {D : Nat} (hD : ∀ x, x < n → c x < D) (hd : G.deg n e = D) : ∀ k, k < D → ∃ x, x < n ∧ c x = k := by
  intro k hk
  refine Classical.byContradiction fun hno => ?_
  have hno : ∀ x, x < n → c x ≠ k := fun x hx he => hno ⟨x, hx, he⟩
  let js := (List.range n).filter fun x => match G.es[x]? with
    | none => false
    | some p => decide (e = p.1) || decide (e = p.2)
  have hjs : ∀ x ∈ js, x < n ∧ G.inc x e := fun x hx => by
    obtain ⟨h1, h2⟩ := List.mem_filter.mp hx
    refine ⟨List.mem_range.mp h1, ?_⟩
    cases q : G.es[x]? with
    | none => rw [q] at h2; cases h2
    | some p =>
      rw [q] at h2
      refine ⟨p, q, ?_⟩
      simpa using h2
  have hlen : js.length = D := by
    rw [← hd]
    unfold deg
    have key : ∀ m, m ≤ G.es.length → ((List.range m).filter fun x => match G.es[x]? with
        | none => false
        | some p => decide (e = p.1) || decide (e = p.2)).length = ((G.es.take m).filter fun p => decide (e = p.1) || decide (e = p.2)).length := by
      intro m
      induction m with
      | zero => intro _; rfl
      | succ m ih =>
        intro hm
        rw [List.range_succ, List.filter_append, List.length_append, ih (by omega), List.take_add_one, List.filter_append, List.length_append]
        congr 1
        rw [List.getElem?_eq_getElem (by omega : m < G.es.length)]
        simp only [Option.toList_some, List.filter_cons, List.filter_nil, List.getElem?_eq_getElem (by omega : m < G.es.length)]
        split <;> rfl
    exact key n I.lt
  have h1 : (js.map c).Nodup := by
    rw [List.nodup_iff_pairwise_ne, List.pairwise_map]
    have : js.Nodup := (List.nodup_range (n := n)).filter _
    refine this.imp_of_mem fun {x y} hx hy hne he => hne ?_
    exact I.uniq (hjs x hx).1 (hjs y hy).1 (hjs x hx).2 (hjs y hy).2 he
  have h2 := sub_len (l1 := js.map c) (l2 := (List.range D).erase k) h1 fun y hy => by
    obtain ⟨x, hx, rfl⟩ := List.mem_map.mp hy
    exact (List.mem_erase_of_ne (hno x (hjs x hx).1)).mpr (List.mem_range.mpr (hD x (hjs x hx).1))
  rw [List.length_map, hlen, List.length_erase_of_mem (List.mem_range.mpr hk), List.length_range] at h2
  omega
end Gr
end My
/-! KitS: sum(lists, []). -/
namespace PySem.SL
open PySem PySem.Spec PyProof.Rows
theorem args_sum2 (a b : Value) : argsOk "sum" ⟨[a, b], []⟩ := by unfold argsOk; kernel_rfl
def pre (vss : Nat → List Value) (i : Nat) : List Value := ((List.range i).map vss).flatten
theorem pre_succ (vss : Nat → List Value) (i : Nat) : pre vss (i + 1) = pre vss i ++ vss i := by
  unfold pre
  rw [List.range_succ, List.map_append, List.flatten_append]
  simp
theorem pre_le (vss : Nat → List Value) {i n : Nat} (h : i ≤ n) : (pre vss i).length ≤ (pre vss n).length := by
  induction h with
  | refl => exact Nat.le_refl _
  | step h ih => rw [pre_succ, List.length_append]; omega
section
variable {prog : Program} {w : World} {A : Around} {R : Result → Shared → Prop} {I : Addr} {fp wr : List Addr} {n : Nat} {P : Nat → Value → Prop} {St : Nat → Heap → Prop}
abbrev IsLst (h : Heap) (a : Addr) (xs : List Value) (m : Nat) : Prop := h.get? a = some { cls := .type "list", dict := none, data := .seq xs.toArray m, slots := #[] }
theorem loop (W : Walks prog w A.in1 I fp wr n P St) (bs : Nat → Addr) (vss : Nat → List Value) (hval : ∀ i v, P i v → v = .ref (bs i)) (S : Addr) (hSf : S ∉ fp) (hz : (pre vss n).length ≤ sizeLine) (hfp : ∀ i h, St i h → ∀ b ∈ fp, ∃ o, h.get? b = some o) :
    ∀ (k i : Nat) (s : Shared) (T c tn : Nat), n - i = k → i ≤ n → St i s.heap → s.heap.get? S = some { cls := .type "list", dict := none, data := .seq #[.ref T] c, slots := #[] } → IsLst s.heap T (pre vss i) tn →
    (∀ j, i ≤ j → j < n → ∃ m, IsLst s.heap (bs j) (vss j) m ∧ bs j ≠ S ∧ bs j ∉ wr) → T ≠ S → T ∉ wr →
    (∀ h' tk T' m, (∀ b o, b ∉ wr → b ≠ S → s.heap.get? b = some o → h'.get? b = some o) → IsLst h' T' (pre vss n) m → (T' = T ∨ s.heap.get? T' = none) → R (.ok (.ret (.ref T'))) { s with heap := h', toks := tk }) →
    codeAny (model prog w) A (.builtin "sum.loop" ⟨[.ref I, .ref S, rawInt 2, rawInt 0], []⟩) R s := by
  have hSw : S ∉ wr := fun h => hSf (W.sub _ h)
  intro k
  induction k with
  | zero =>
    intro i s T c tn hk hi hst hS hT hbs hTS hTw hR
    have hin : i = n := by omega
    subst hin
    refine codeAny_builtin F.entry_sum_loop ?_
    rw [Around.under_plainId F.plain_sum_loop _]
    show wpAny _ A.in1 (seqItems? (.ref S) >>= _) _ _ s
    refine wpAny_bind (wpAny_seqItems hS rfl ?_)
    show wpAny _ A.in1 (tryCatch (pyNext (.ref I)) _ >>= _) _ _ s
    refine wpAny_bind (wpAny_tryCatch (W.done s _ _ hst fun h' tk hk' => ?_))
    exact wpAny_pure (hR h' tk T tn (fun b o hbw _ e => hk' b o hbw e) (hk' _ _ hTw hT) (.inl rfl))
  | succ k ih =>
    intro i s T c tn hk hi hst hS hT hbs hTS hTw hR
    have hlt : i < n := by omega
    refine codeAny_builtin F.entry_sum_loop ?_
    rw [Around.under_plainId F.plain_sum_loop _]
    show wpAny _ A.in1 (seqItems? (.ref S) >>= _) _ _ s
    refine wpAny_bind (wpAny_seqItems hS rfl ?_)
    show wpAny _ A.in1 (tryCatch (pyNext (.ref I)) _ >>= _) _ _ s
    refine wpAny_bind (wpAny_tryCatch (W.item i s _ _ hlt hst fun v h' tk hP hst' hk' => ?_))
    obtain rfl := hval i v hP
    have hS' := hk' S _ hSw hS
    have hT' : IsLst h' T (pre vss i) tn := hk' T _ hTw hT
    obtain ⟨m, hB, _, hBw⟩ := hbs i (Nat.le_refl _) hlt
    have hB' : IsLst h' (bs i) (vss i) m := hk' _ _ hBw hB
    show wpAny _ A.in1 ((holding [Value.ref (bs i)] (binaryOp .Add (.ref T) (.ref (bs i)))).attempt >>= _) _ _ _
    refine wpAny_bind (wpAny_attempt (wpAny_holding (PySem.P.add_list hT' hB' ?_ (by
      have := pre_le vss (show i + 1 ≤ n from hlt)
      rw [pre_succ, List.length_append] at this
      rw [List.size_toArray, List.size_toArray]; omega))))
    have epre : (pre vss i).toArray ++ (vss i).toArray = (pre vss (i + 1)).toArray := by rw [pre_succ]; simp
    rw [epre]
    generalize hh2 : h'.push { cls := .type "list", data := .seq (pre vss (i + 1)).toArray } = h2
    have up : ∀ b o, h'.get? b = some o → h2.get? b = some o := fun b o e => by rw [← hh2]; exact Heap.get?_push_of_some _ e
    have hnew : h'.get? h'.objs.size = none := by
      cases e : h'.get? h'.objs.size with
      | none => rfl
      | some o => exact absurd (Heap.lt_size e) (Nat.lt_irrefl _)
    have hT2 : IsLst h2 h'.objs.size (pre vss (i + 1)) 0 := by rw [← hh2]; exact Heap.get?_push_size _ rfl
    have T2S : h'.objs.size ≠ S := fun e => by rw [← e, hnew] at hS'; cases hS'
    have T2f : ∀ b ∈ fp, b ≠ h'.objs.size → True := fun _ _ _ => trivial
    have hS2 := up _ _ hS'
    show wpAny _ A.in1 (updateSeq S (fun _ => #[.ref h'.objs.size]) >>= _) _ _ _
    refine wpAny_bind ?_
    refine wpAny_updateSeq hS2 rfl ?_
    have hS3 := Heap.get?_update_self (Obj.mapSeq fun _ => #[Value.ref h'.objs.size]) hS2 rfl
    refine wpAny_bind (wpAny_letGo ?_)
    refine wpAny_bind ?_
    refine wpAny_updateSeq hS3 rfl ?_
    have kp : ∀ b o, b ≠ S → h'.get? b = some o → ((h2.update S (Obj.mapSeq fun _ => #[Value.ref h'.objs.size])).update S (Obj.mapSeq fun _ => #[Value.ref h'.objs.size])).get? b = some o := fun b o hb e =>
      (Heap.get?_update_other _ _ (Ne.symm hb)).trans ((Heap.get?_update_other _ _ (Ne.symm hb)).trans (up b o e))
    have T2w : h'.objs.size ∉ wr := fun hm => by
      obtain ⟨o, e⟩ := hfp _ _ hst' _ (W.sub _ hm)
      rw [hnew] at e; cases e
    refine wpAny_pure ⟨plainId_quiet F.plain_sum_loop _, ih (i + 1) _ h'.objs.size _ 0 (by omega) hlt (W.frame _ _ _ hst' fun b hb o e => kp b o (fun h => hSf (h ▸ hb)) e) (Heap.get?_update_self _ hS3 rfl) ?_ (fun j h1 h2 => ?_) T2S T2w fun h'' tk'' T'' m'' hk'' hL hor => ?_⟩
    · exact (Heap.get?_update_other _ _ (Ne.symm T2S)).trans ((Heap.get?_update_other _ _ (Ne.symm T2S)).trans hT2)
    · obtain ⟨m, g1, g2, g3⟩ := hbs j (by omega) h2
      exact ⟨m, kp _ _ g2 (hk' _ _ g3 g1), g2, g3⟩
    · refine hR h'' tk'' T'' m'' (fun b o hbw hbS e => hk'' b o hbw hbS (kp b o hbS (hk' b o hbw e))) hL (.inr ?_)
      cases q : s.heap.get? T'' with
      | none => rfl
      | some o =>
        exfalso
        by_cases hw : T'' ∈ wr
        · obtain ⟨o2, e2⟩ := hfp _ _ hst' _ (W.sub _ hw)
          rcases hor with rfl | hor
          · exact T2w hw
          · rw [kp _ _ (fun h => hSw (h ▸ hw)) e2] at hor; cases hor
        · by_cases hs : T'' = S
          · rcases hor with rfl | hor
            · exact T2S hs
            · rw [hs, Heap.get?_update_self _ hS3 rfl] at hor; cases hor
          · have e2 := hk' _ _ hw q
            rcases hor with rfl | hor
            · rw [hnew] at e2; cases e2
            · rw [kp _ _ hs e2] at hor; cases hor
end
section
variable {prog : Program} {w : World} {A : Around} {E : Value → Shared → Prop} {s : Shared}
theorem sum_lists {l Z : Addr} {bs : List Addr} {vss : List (List Value)} {zn : Nat} {Q : Value → Shared → Prop} (hh : A.handled = none) (hl : s.heap.IsList l (bs.map Value.ref).toArray) (hlen : bs.length = vss.length)
    (hb : ∀ (j : Nat) (b : Addr) (vs : List Value), bs[j]? = some b → vss[j]? = some vs → ∃ m, IsLst s.heap b vs m) (hZ : IsLst s.heap Z [] zn) (hz : vss.flatten.length ≤ sizeLine)
    (h : ∀ h' tk T m, (∀ b o, s.heap.get? b = some o → h'.get? b = some o) → IsLst h' T vss.flatten m → (T = Z ∨ s.heap.get? T = none) → Q (.ref T) { s with heap := h', toks := tk }) : wpAny (model prog w) A (call (.builtin "sum") [.ref l, .ref Z]) Q E s := by
  refine call_function_tree F.kind_sum F.plain_sum F.entry_sum (args_sum2 _ _) ?_
  unfold Builtin.«sum»
  simp only [List.length_cons, List.length_nil]
  rw [if_neg (by decide)]
  refine wpAny_bind (wpAny_of_eq (show Builtin.Builtins.bindParams "sum" ["start"] 0 ⟨[.ref Z], []⟩ = pure [some (.ref Z)] from rfl) ?_)
  refine wpAny_bind (wpAny_pyIter_list hl ?_)
  have hlt : l < s.heap.objs.size := by obtain ⟨_, e, _⟩ := hl; exact Heap.lt_size e
  generalize hh2 : s.heap.push { cls := .type "list_iterator", data := .fields #[.ref l, .int 0 0] } = h2
  have up : ∀ b o, s.heap.get? b = some o → h2.get? b = some o := fun b o e => by rw [← hh2]; exact Heap.get?_push_of_some _ e
  have hI : h2.IsListIter s.heap.objs.size l 0 := by rw [← hh2]; exact ⟨_, Heap.get?_push_size _ rfl, rfl, rfl⟩
  have hl2 : h2.IsList l (bs.map Value.ref).toArray := by rw [← hh2]; exact hl.push _
  have hsz : h2.objs.size = s.heap.objs.size + 1 := by rw [← hh2]; exact Heap.size_push _ _
  have hZT : (⟨h2, s.gens, s.drawn, s.toks, s.os⟩ : Shared).TypeIs (.ref Z) "list" := ⟨_, up _ _ hZ, rfl⟩
  refine wpAny_bind (wpAny_pure ?_)
  simp only [List.forIn_cons, List.forIn_nil]
  refine wpAny_bind (wpAny_bind (wpAny_bind (wpAny_isInstance (T := "list") (b := false) hZT F.sub_list_str ?_)))
  simp only [Bool.false_eq_true, if_false]
  refine wpAny_pure (wpAny_bind (wpAny_bind (wpAny_isInstance (T := "list") (b := false) hZT F.sub_list_bytes ?_)))
  simp only [Bool.false_eq_true, if_false]
  refine wpAny_pure (wpAny_bind (wpAny_bind (wpAny_isInstance (T := "list") (b := false) hZT F.sub_list_bytearray ?_)))
  simp only [Bool.false_eq_true, if_false]
  refine wpAny_pure (wpAny_pure ?_)
  refine wpAny_bind (wpAny_newObj_type ?_)
  let bf : Nat → Addr := fun j => bs.getD j 0
  let vf : Nat → List Value := fun j => vss.getD j []
  have epre : pre vf vss.length = vss.flatten := by
    show ((List.range vss.length).map vf).flatten = _
    congr 1
    refine List.ext_getElem (by simp) fun i h1 h2 => ?_
    have h2 : i < vss.length := h2
    simp only [List.getElem_map, List.getElem_range]
    show vss.getD i [] = _
    rw [List.getD_eq_getElem?_getD, List.getElem?_eq_getElem h2]
    rfl
  have hlI : l ≠ s.heap.objs.size := Nat.ne_of_lt hlt
  have W := Walks.list (prog := prog) (w := w) (A := A.in1) (by exact hh) s.heap.objs.size l hlI (bs.map Value.ref).toArray
  have en : (bs.map Value.ref).toArray.size = vss.length := by simp [hlen]
  rw [en] at W
  have kS : ∀ b o, s.heap.get? b = some o → b < s.heap.objs.size := fun b o e => Heap.lt_size e
  generalize hh3 : h2.push { cls := .type "list", data := .seq #[Value.ref Z] } = h3
  have up3 : ∀ b o, h2.get? b = some o → h3.get? b = some o := fun b o e => by rw [← hh3]; exact Heap.get?_push_of_some _ e
  have hS : h3.get? h2.objs.size = some { cls := .type "list", dict := none, data := .seq #[.ref Z] 0, slots := #[] } := by rw [← hh3]; exact Heap.get?_push_size _ rfl
  have hZl := kS _ _ hZ
  have n1 : h2.objs.size ≠ s.heap.objs.size := by rw [hsz]; exact Nat.succ_ne_self _
  have n2 : ∀ b, b < s.heap.objs.size → b ≠ h2.objs.size ∧ b ≠ s.heap.objs.size := fun b hb => ⟨Nat.ne_of_lt (by rw [hsz]; exact Nat.lt_succ_of_lt hb), Nat.ne_of_lt hb⟩
  refine wpAny_pure ⟨plainId_quiet F.plain_sum_loop _, ?_⟩
  refine loop W bf vf (fun i v hv => ?_) h2.objs.size (by
    simp only [List.mem_cons, List.not_mem_nil, or_false, not_or]
    exact ⟨n1, fun e => (n2 l hlt).1 e.symm⟩) (by rw [epre]; exact hz) (fun i h st b hb => ?_) vss.length 0 _ Z 0 zn (Nat.sub_zero _) (Nat.zero_le _) ?_ hS (up3 _ _ (up _ _ hZ)) (fun j _ hj => ?_) (n2 Z hZl).1 (by simpa using (n2 Z hZl).2) fun h' tk T m hk hL hor => ?_
  · simp only [List.getElem?_toArray, List.getElem?_map] at hv
    obtain ⟨b, hb1, rfl⟩ := Option.map_eq_some_iff.mp hv
    show _ = Value.ref (bs.getD i 0)
    rw [List.getD_eq_getElem?_getD, hb1]; rfl
  · simp only [List.mem_cons, List.not_mem_nil, or_false] at hb
    rcases hb with rfl | rfl
    · obtain ⟨o, e, _⟩ := st.1; exact ⟨o, e⟩
    · obtain ⟨o, e, _⟩ := st.2; exact ⟨o, e⟩
  · exact ⟨hI.at fun o e => up3 _ _ e, hl2.at fun o e => up3 _ _ e⟩
  · have h1 : j < bs.length := by rw [hlen]; exact hj
    have e1 := List.getElem?_eq_getElem h1
    have e2 := List.getElem?_eq_getElem hj
    obtain ⟨m, g⟩ := hb j _ _ e1 e2
    have b1 : bf j = bs[j] := by show bs.getD j 0 = _; rw [List.getD_eq_getElem?_getD, e1]; rfl
    have b2 : vf j = vss[j] := by show vss.getD j [] = _; rw [List.getD_eq_getElem?_getD, e2]; rfl
    have lt := n2 _ (kS _ _ g)
    rw [b1, b2]
    exact ⟨m, up3 _ _ (up _ _ g), lt.1, by simpa using lt.2⟩
  · rw [epre] at hL
    have q := h h' tk T m (fun b o e => by
      have lt := n2 _ (kS _ _ e)
      exact hk b o (by simpa using lt.2) lt.1 (up3 _ _ (up _ _ e))) hL (by
        rcases hor with rfl | hor
        · exact .inl rfl
        · refine .inr ?_
          cases q : s.heap.get? T with
          | none => rfl
          | some o => rw [up3 _ _ (up _ _ q)] at hor; cases hor)
    exact q
end
end PySem.SL
namespace My
open PySem PySem.Spec PyProof.Rows L2
def rSumL (K : PySem.W.Frag) : List V → Hp → VK → Prop := fun vs H Q => ∃ (a Z : Addr) (bs : List Addr) (vss : List (List V)), vs = [.ref a, .ref Z] ∧ SqL K H a (bs.map V.ref) ∧ H Z = some (.lst []) ∧ Paired (fun b vs => H b = some (.lst vs)) bs vss ∧ vss.flatten.length ≤ sizeLine ∧
  ∀ p H2, (H p = none ∨ p = Z) → Step [] H H2 → H2 p = some (.lst vss.flatten) → Q (.ref p) H2
theorem obj_there {P : Program} {w : World} {H : Hp} {h : Heap} {a : Addr} {o : HO} (x : ObjOk P w H h a o) : ∃ ob, h.get? a = some ob := by
  cases o with
  | lst xs => obtain ⟨_, _, _, _, e⟩ := x; exact ⟨_, e⟩
  | tup xs => obtain ⟨_, _, _, o, e, _⟩ := x; exact ⟨_, e⟩
  | dK kvs => obtain ⟨_, _, _, _, o, _, _, e, _⟩ := x; exact ⟨_, e⟩
  | dT kvs => obtain ⟨_, _, _, _, o, _, _, e, _⟩ := x; exact ⟨_, e⟩
  | set S n => obtain ⟨o, _, _, _, e, _⟩ := x; exact ⟨_, e⟩
  | ins C dx fs => obtain ⟨_, _, _, e, _⟩ := x; exact ⟨_, e⟩
  | own y => exact x
  | xd fs => obtain ⟨_, ⟨_, _, _, e, _⟩, _⟩ := x; exact ⟨_, e⟩
  | rng lo hi => obtain ⟨_, _, _, e⟩ := x; exact ⟨_, e⟩
  | frz ob u => obtain ⟨e, _⟩ := x; exact ⟨_, e⟩
  | tbl ps => exact ⟨_, x⟩
  | met f y => exact ⟨_, x⟩
  | ext φ => obtain ⟨_, e, _⟩ := x; exact e
theorem refs_of : ∀ {bs : List Addr} {us : List Value}, Vals (bs.map V.ref) us → us = bs.map Value.ref
  | [], _, .nil => rfl
  | b :: bs, _, .cons h t => by
    have h : _ = Value.ref b := h
    rw [h, refs_of t]; rfl
theorem cr_sumL {X : Cx} (hc : X.calm = true) : CallR X (.builtin "sum") (rSumL X.K) := by
  intro pins s σ H vs us Q I r h
  obtain ⟨a, Z, bs, vss, rfl, hs, hZ, hP, hz, q⟩ := h
  obtain ⟨its, rv, hl, _⟩ := I.list hs
  obtain ⟨u1, u2, rfl, r1, r2⟩ := vals2 r
  obtain rfl : u1 = Value.ref a := r1
  obtain rfl : u2 = Value.ref Z := r2
  have eits := refs_of rv
  subst eits
  obtain ⟨_, zits, zn, zr, _, hZ1⟩ := I.lstM hZ
  cases zr
  have hw : ∃ wss : List (List Value), Paired (fun (b : Addr) (ws : List Value) => ∃ m, PySem.SL.IsLst s.heap b ws m) bs wss ∧ Paired (fun vs ws => Vals vs ws) vss wss := by
    have key : ∀ {bs : List Addr} {vss : List (List V)}, Paired (fun b vs => H b = some (.lst vs)) bs vss → ∃ wss : List (List Value), Paired (fun (b : Addr) (ws : List Value) => ∃ m, PySem.SL.IsLst s.heap b ws m) bs wss ∧ Paired (fun vs ws => Vals vs ws) vss wss := by
      intro bs vss hP
      induction hP with
      | nil => exact ⟨[], .nil, .nil⟩
      | @cons b vs bs vss hb t ih =>
        obtain ⟨wss, h1, h2⟩ := ih
        obtain ⟨_, ws, m, wr, _, hb1⟩ := I.lstM hb
        exact ⟨ws :: wss, .cons ⟨m, hb1⟩ h1, .cons wr h2⟩
    exact key hP
  obtain ⟨wss, h1, h2⟩ := hw
  have hfl : Vals vss.flatten wss.flatten := by
    clear h1 q hz hP
    induction h2 with
    | nil => exact .nil
    | cons h t ih => rw [List.flatten_cons, List.flatten_cons]; exact Vals.append h ih
  refine PySem.SL.sum_lists (I.ok.hd hc) hl.isList (by rw [P_len h1]) (fun j b ws hb hw => ?_) hZ1 (by rw [← hfl.length]; exact hz) fun h' tk T m hk hT hor => ?_
  · obtain ⟨y, hy, hr⟩ := P_get h1 hb
    rw [hw] at hy
    cases hy
    exact hr
  · have I2 : Inv X pins σ H { s with heap := h', toks := tk } := I.kept hk
    by_cases hTZ : T = Z
    · subst hTZ
      have e1 := hk _ _ hZ1
      rw [hT] at e1
      have e0 : wss.flatten = [] := by
        have := Option.some.inj e1
        have := congrArg (fun o : Obj => o.data) this
        dsimp only at this
        injection this with h3 _
        have := congrArg Array.toList h3
        simpa using this
      have e2 : vss.flatten = [] := by
        have := hfl.length
        rw [e0] at this
        exact List.length_eq_zero_iff.mp this
      rw [e2] at q
      exact ⟨.ref T, H, I2, rfl, q T H (.inr rfl) (Step.refl _ _) hZ⟩
    · have hn : s.heap.get? T = none := hor.resolve_left hTZ
      have hH : H T = none := by
        cases e : H T with
        | none => rfl
        | some o => obtain ⟨o', e'⟩ := obj_there (I.hok T o e); rw [hn] at e'; cases e'
      have new : ObjOk X.prog X.w (upd H T (.lst vss.flatten)) h' T (.lst vss.flatten) := ⟨hz, wss.flatten, m, hfl, hT⟩
      exact ⟨.ref T, _, I.un (Un.laidN hk hn hH) (I.hok.laidN hk hH new), rfl, q T _ (.inl hH) (Step.new hH) upd_same⟩
theorem g_sumL {K : PySem.W.Frag} {H : Hp} {Q : VK} {a Z : Addr} {bs : List Addr} {vss : List (List V)} (h : H a = some (.lst (bs.map V.ref))) (hZ : H Z = some (.lst [])) (hP : Paired (fun b vs => H b = some (.lst vs)) bs vss) (hz : vss.flatten.length ≤ sizeLine)
    (q : ∀ p H2, (H p = none ∨ p = Z) → Step [] H H2 → H2 p = some (.lst vss.flatten) → Q (.ref p) H2) : rSumL K [.ref a, .ref Z] H Q := ⟨a, Z, bs, vss, rfl, SqL.of h, hZ, hP, hz, q⟩
end My
/-! KitQ: while, values and items of dicts with tuple keys, a call's dict walked, count, two clauses, keywords. -/
namespace My
open PySem PySem.Spec PyProof.Rows L2
/-! ### a dict that a call hands back is held for good -/
def tFrz (td : TE) : TE := fun σ H Q => td σ H fun x H1 => ∃ d u, x = .ref d ∧ H1 d = some u ∧ Mut (some u) ∧ ∀ od, Q x (upd H1 d (.frz od u))
theorem pe_frz {X : Cx} {e : Expr} {td : TE} (h : PE X e td) : PE X e (tFrz td) := by
  refine ⟨fun pins s σ H Q I hw => ?_⟩
  refine thn (h.run pins s σ H _ I hw) fun v s1 ⟨x, H1, I1, r, d, u, ex, hd, mu, q⟩ => ?_
  obtain ⟨od, I2⟩ := I1.lock hd mu
  exact ⟨x, _, I2, r, q od⟩
def kFrz (Q : VK) : VK := fun x H1 => ∃ d u, x = .ref d ∧ H1 d = some u ∧ Mut (some u) ∧ ∀ od, Q x (upd H1 d (.frz od u))
theorem g_frz {td : TE} {σ : L2.St} {H : Hp} {Q : VK} (h : td σ H (kFrz Q)) : tFrz td σ H Q := h
theorem g_kFrzT {H : Hp} {Q : VK} {d : Addr} {kvs : List (List Key × V)} (h : H d = some (.dT kvs)) (q : ∀ od H2, Step [d] H H2 → H2 d = some (.frz od (.dT kvs)) → Q (.ref d) H2) : kFrz Q (.ref d) H :=
  ⟨d, _, rfl, h, trivial, fun od => q od _ ((Step.refl [d] H).wr (List.mem_singleton.mpr rfl)) upd_same⟩
/-! ### values and items, keys tuples -/
section
variable {X : Cx} {pins : List (Addr × Obj)} {σ : L2.St} {H : Hp} {s : Shared} {d : Addr} {o : Obj}
theorem frzT2 {kvs : List (List Key × V)} (I : Inv X pins σ H s) (h : H d = some (.frz o (.dT kvs))) :
    (d == sysModules) = false ∧ s.heap.get? d = some o ∧ o.ExactDict ∧ ∃ (es : Array DictEntry) (ep : Nat), o.data = .dict es ep ∧ es.size = kvs.length ∧
      ∀ (i : Nat) (k : List Key) (v : V), kvs[i]? = some (k, v) → ∃ (en : DictEntry) (q : Addr), es[i]? = some en ∧ en.key = .ref q ∧ H q = some (.tup (k.map kV)) ∧ RelV v en.val := by
  obtain ⟨hd, z, hs, xs, pr, o', es, ep, ho, hx, hdt, he, _⟩ := I.hok d _ h
  rw [hd] at ho
  cases ho
  refine ⟨hs, hd, hx, es, ep, hdt, ?_, fun i k v e => ?_⟩
  · have l1 : es.size = xs.length := size_of_entries he
    have l2 : kvs.length = xs.length := Paired.length pr
    omega
  · obtain ⟨b, hb, e1, e2, e3⟩ := paired_get pr e
    have q := entry_at he i
    rw [hb] at q
    exact ⟨_, b.2.1, q, rfl, e2, e3⟩
end
def ItdT (d : Addr) (o : Obj) (kvs : List (List Key × V)) : It :=
  ⟨fun i H => H d = some (.frz o (.dT kvs)) ∧ i < kvs.length, fun i H x H' => H' = H ∧ ∃ k, kvs[i]? = some (k, x), fun i H => H d = some (.frz o (.dT kvs)) ∧ kvs.length ≤ i⟩
def ItiT (d : Addr) (o : Obj) (kvs : List (List Key × V)) : It :=
  ⟨fun i H => H d = some (.frz o (.dT kvs)) ∧ i < kvs.length, fun i H x H' => ∃ T q k v, kvs[i]? = some (k, v) ∧ x = .ref T ∧ H q = some (.tup (k.map kV)) ∧ H T = none ∧ H' = upd H T (.tup [.ref q, v]), fun i H => H d = some (.frz o (.dT kvs)) ∧ kvs.length ≤ i⟩
section
variable {P : Program} {w : World} {K : PySem.W.Frag} {tg : Expr} {d : Addr} {o : Obj} {es : Array DictEntry} {ep : Nat}
theorem turn_valsT {kvs : List (List Key × V)} (it : Addr) (hod : o.data = .dict es ep) : Turn P w K tg (ItdT d o kvs) [it] it (fun i h => h.IsValIter it d i kvs.length ep) where
  mem := by simp
  obj := fun i h st b hb => by
    have e : b = it := by simpa using hb
    subst e
    obtain ⟨oi, e, c, dd⟩ := st
    exact ⟨oi, e, fun v z => by rw [dd] at z; cases z⟩
  keep := fun i h h' st k => st.at fun oi e => k it (by simp) oi e
  item := by
    intro X hP hw hK hc i pins s σ H E I hf st hg
    subst hP hw hK
    obtain ⟨hd, hi⟩ := hg
    obtain ⟨f0, f1, f2, f3, f4, f5⟩ := hf it (by simp)
    obtain ⟨hs, hgd, hx, es', ep', hdt, hsz, ent⟩ := frzT2 I hd
    obtain ⟨rfl, rfl⟩ := dict_ep hod hdt
    obtain ⟨⟨k, v⟩, hkv⟩ : ∃ p, kvs[i]? = some p := ⟨kvs[i], List.getElem?_eq_getElem hi⟩
    obtain ⟨en, q, hen, hkey, hq, hv⟩ := ent i k v hkv
    rw [← hsz] at st
    obtain ⟨hlt, he⟩ := Array.getElem?_eq_some_iff.mp hen
    refine wpAny_pyNext_values_item_raw st ⟨_, hgd, hx, hdt⟩ hlt fun h' st' sb => ?_
    have I1 : Inv X pins σ H { s with heap := h' } := I.turned (t' := s.toks) (fun b ob hb e => (sb.2 b hb).trans e) f0 f1 f3 f4 f5
    obtain ⟨oi, e, c, dd⟩ := id st'
    refine ⟨_, rfl, go_of (s := { s with heap := h' }) e c dd (by decide) ⟨v, H, I1, by rw [he]; exact hv, ⟨rfl, k, hkv⟩, ?_, fun b hb => (hf b hb).1⟩⟩
    show h'.IsValIter it d (i + 1) kvs.length _
    rw [← hsz]
    exact st'
  done := by
    intro X hP hw hK hc i pins s σ H E I hf st hg
    subst hP hw hK
    obtain ⟨hd, hi⟩ := hg
    obtain ⟨f0, f1, f2, f3, f4, f5⟩ := hf it (by simp)
    obtain ⟨hs, hgd, hx, es', ep', hdt, hsz, ent⟩ := frzT2 I hd
    obtain ⟨rfl, rfl⟩ := dict_ep hod hdt
    rw [← hsz] at st
    exact wpAny_pyNext_values_end_raw (I.ok.hd hc) st ⟨_, hgd, hx, hdt⟩ (by omega) fun h' eb => ⟨rfl, I.turned (t' := s.toks) (fun b ob hb e => eb b ob hb e) f0 f1 f3 f4 f5⟩
  self := fun A i s Q E st h => wpAny_pyIter_valiter st h
theorem turn_itemsT {kvs : List (List Key × V)} {elts : List Expr} {kk : Nat} {tpos : Pos} (it : Addr) (hod : o.data = .dict es ep) :
    Turn P w K (.Tuple elts kk tpos) (ItiT d o kvs) [it] it (fun i h => ∃ ok ov, IsItemIter h it d i kvs.length ep ok ov) where
  mem := by simp
  obj := fun i h st b hb => by
    have e : b = it := by simpa using hb
    subst e
    obtain ⟨ok, ov, e⟩ := st
    exact ⟨_, e, fun v z => nomatch z⟩
  keep := fun i h h' st k => let ⟨ok, ov, e⟩ := st; ⟨ok, ov, k it (by simp) _ e⟩
  item := by
    intro X hP hw hK hc i pins s σ H E I hf st hg
    subst hP hw hK
    obtain ⟨hd, hi⟩ := hg
    obtain ⟨hs, hgd, hx, es', ep', hdt, hsz, ent⟩ := frzT2 I hd
    obtain ⟨rfl, rfl⟩ := dict_ep hod hdt
    obtain ⟨⟨k, v⟩, hkv⟩ : ∃ p, kvs[i]? = some p := ⟨kvs[i], List.getElem?_eq_getElem hi⟩
    obtain ⟨en, q, hen, hkey, hq, hv⟩ := ent i k v hkv
    obtain ⟨hlt2, hen2⟩ := Array.getElem?_eq_some_iff.mp hen
    obtain ⟨ok, ov, he⟩ := st
    rw [← hsz] at he
    have hlt : it < s.heap.objs.size := Heap.lt_size he
    refine wpAny_pyNext_items_item_raw he ⟨_, hgd, hx, hdt⟩ hlt2 fun h' ho hT hz hk => ?_
    rw [hen2, hkey] at ho hT
    have hv2 := hv
    refine ⟨_, rfl, wpAny_letOwnedTupleGo_items (s := { s with heap := h' }) ho fun h'' he' sb => ?_⟩
    replace he' : IsItemIter h'' it d (i + 1) es'.size ep' (.ref q) en.val := he'
    have hT2 : h''.get? s.heap.objs.size = some { cls := .type "tuple", data := .seq #[.ref q, en.val] } := (sb.2 _ (Nat.ne_of_gt hlt)).trans hT
    have new : ObjOk X.prog X.w (upd H s.heap.objs.size (.tup [.ref q, v])) h'' s.heap.objs.size (.tup [.ref q, v]) :=
      ⟨by show 2 ≤ sizeLine; decide, [.ref q, en.val], .cons rfl (.cons hv .nil), ⟨_, hT2, rfl, _, rfl⟩⟩
    have I1 : Inv X pins σ (upd H s.heap.objs.size (.tup [.ref q, v])) { s with heap := h'' } :=
      I.turnedNew (t' := s.toks) (ch := [it]) (fun b ob hb e => (sb.2 b (by simpa using hb)).trans (hk b ob (by simpa using hb) e)) hf (Nat.le_refl _) new
    refine ⟨.ref s.heap.objs.size, _, I1, rfl, ⟨_, q, k, v, hkv, rfl, hq, I.hok.fresh (Nat.le_refl _), rfl⟩, ⟨.ref q, en.val, ?_⟩, fun b hb => ?_⟩
    · rw [← hsz]; exact he'
    · have e : b = it := by simpa using hb
      rw [e, upd_ne (Nat.ne_of_lt hlt)]
      exact (hf it (by simp)).1
  done := by
    intro X hP hw hK hc i pins s σ H E I hf st hg
    subst hP hw hK
    obtain ⟨hd, hi⟩ := hg
    obtain ⟨f0, f1, f2, f3, f4, f5⟩ := hf it (by simp)
    obtain ⟨hs, hgd, hx, es', ep', hdt, hsz, ent⟩ := frzT2 I hd
    obtain ⟨rfl, rfl⟩ := dict_ep hod hdt
    obtain ⟨ok, ov, he⟩ := st
    rw [← hsz] at he
    exact wpAny_pyNext_items_end_raw (I.ok.hd hc) he ⟨_, hgd, hx, hdt⟩ (by omega) fun h' eb => ⟨rfl, I.turned (t' := s.toks) (fun b ob hb e => eb b ob hb e) f0 f1 f3 f4 f5⟩
  self := fun A i s Q E st h => let ⟨_, _, e⟩ := st; PySem.W.kcp_self e h
end
def iValsT (td : TE) : TI := fun σ H R => td σ H fun x H1 => ∃ d o kvs, x = .ref d ∧ H1 d = some (.frz o (.dT kvs)) ∧ R (ItdT d o kvs) H1
def iItemsT (td : TE) : TI := fun σ H R => td σ H fun x H1 => ∃ d o kvs, x = .ref d ∧ H1 d = some (.frz o (.dT kvs)) ∧ R (ItiT d o kvs) H1
section
variable {X : Cx} {tg e : Expr} {td : TE} {apos cpos : Pos}
theorem pi_valuesT (he : PE X e td) (hbase : attributeBase e "values" X.env (eval e X.env) = eval e X.env := by rfl) (hline : (apos.endLine == cpos.line) = true := by rfl) : PI X tg (.Call (.Attribute e "values" apos) [] [] cpos) (iValsT td) := by
  refine ⟨fun pins s σ H R I h => ?_⟩
  refine wpAny_Call_method (T := "dict") (id := "dict.values") hbase rfl hline F.plainAttrs_dict F.slot_dict_values F.type_dict_values (thn (he.run pins s σ H _ I h) fun u s1 ⟨x, H1, I1, rx, d, o, kvs, ex, hd, q⟩ => ?_)
  subst ex
  obtain rfl : u = Value.ref d := rx
  obtain ⟨hs, hgd, hx, es, ep, hdt, hsz, ent⟩ := frzT2 I1 hd
  have raw : s1.heap.DictRaw d es ep := ⟨o, hgd, hx, hdt⟩
  refine ⟨raw.typeIs, fun b z => by cases z; exact ⟨o, hgd, hx.2.1⟩, ?_⟩
  have I2 : Inv X pins σ H1 { s1 with heap := s1.heap.push { cls := .type "dict_values", data := .fields #[.ref d] } } := I1.kept (t' := s1.toks) fun b ob q => Heap.get?_push_of_some _ q
  have fin : wpAny (model X.prog X.w) X.A (pyIter (.ref s1.heap.objs.size)) (PIE X pins σ tg R) X.xe { s1 with heap := s1.heap.push { cls := .type "dict_values", data := .fields #[.ref d] } } := by
    refine wpAny_pyIter_values_raw (d := d) ⟨_, Heap.get?_push_size _ rfl, rfl, rfl⟩ (raw.at fun o e => Heap.get?_push_of_some _ e) (pi_one (tk := s1.toks) I2 _ (turn_valsT _ hdt) ⟨_, Heap.get?_push_size _ rfl, rfl, ?_⟩ q)
    rw [hsz] <;> rfl
  show wpAny _ _ (callWith cpos (.builtin "dict.values") [.ref d] [] []) _ X.xe s1
  exact method_meetsIn F.slot_dict_values F.entry_dict_values rfl (PySem.evalArgs_none ⟨rfl, raw.typeIs, F.args_dict_values_1 _, _, meets_dict_values_raw d hs, ⟨es, ep, raw⟩, fin⟩)
theorem pi_itemsT {elts : List Expr} {kk : Nat} {tpos : Pos} (he : PE X e td) (hbase : attributeBase e "items" X.env (eval e X.env) = eval e X.env := by rfl) (hline : (apos.endLine == cpos.line) = true := by rfl) :
    PI X (.Tuple elts kk tpos) (.Call (.Attribute e "items" apos) [] [] cpos) (iItemsT td) := by
  refine ⟨fun pins s σ H R I h => ?_⟩
  refine wpAny_Call_method (T := "dict") (id := "dict.items") hbase rfl hline F.plainAttrs_dict F.slot_dict_items F.type_dict_items (thn (he.run pins s σ H _ I h) fun u s1 ⟨x, H1, I1, rx, d, o, kvs, ex, hd, q⟩ => ?_)
  subst ex
  obtain rfl : u = Value.ref d := rx
  obtain ⟨hs, hgd, hx, es, ep, hdt, hsz, ent⟩ := frzT2 I1 hd
  have raw : s1.heap.DictRaw d es ep := ⟨o, hgd, hx, hdt⟩
  refine ⟨raw.typeIs, fun b z => by cases z; exact ⟨o, hgd, hx.2.1⟩, ?_⟩
  have I2 : Inv X pins σ H1 { s1 with heap := s1.heap.push { cls := .type "dict_items", data := .fields #[.ref d] } } := I1.kept (t' := s1.toks) fun b ob q => Heap.get?_push_of_some _ q
  have fin : wpAny (model X.prog X.w) X.A (pyIter (.ref s1.heap.objs.size)) (PIE X pins σ (.Tuple elts kk tpos) R) X.xe { s1 with heap := s1.heap.push { cls := .type "dict_items", data := .fields #[.ref d] } } := by
    refine wpAny_pyIter_items_raw (d := d) ⟨_, Heap.get?_push_size _ rfl, rfl, rfl⟩ (raw.at fun o e => Heap.get?_push_of_some _ e) (pi_one (tk := s1.toks) I2 _ (turn_itemsT _ hdt) ⟨.none, .none, ?_⟩ q)
    rw [← hsz]
    exact Heap.get?_push_size _ rfl
  show wpAny _ _ (callWith cpos (.builtin "dict.items") [.ref d] [] []) _ X.xe s1
  exact method_meetsIn F.slot_dict_items F.entry_dict_items rfl (PySem.evalArgs_none ⟨rfl, raw.typeIs, F.args_dict_items_1 _, _, meets_dict_items_raw d hs, ⟨es, ep, raw⟩, fin⟩)
end
section
variable {K : PySem.W.Frag} {σ : L2.St} {H : Hp} {td te ta tb : TE} {t : TS} {nx bk ct : L2.St → Hp → Prop} {rt : VK} {Q : VK} {tt : TT} {ws : List Nat} {g : TG}
def kValsT (R : WK) : VK := fun x H1 => ∃ d o kvs, x = .ref d ∧ H1 d = some (.frz o (.dT kvs)) ∧ R (ItdT d o kvs) H1
def kItemsT (R : WK) : VK := fun x H1 => ∃ d o kvs, x = .ref d ∧ H1 d = some (.frz o (.dT kvs)) ∧ R (ItiT d o kvs) H1
theorem g_valsT {R : WK} (h : td σ H (kValsT R)) : iValsT td σ H R := h
theorem g_itemsT {R : WK} (h : td σ H (kItemsT R)) : iItemsT td σ H R := h
theorem g_kValsT {R : WK} {d : Addr} {o : Obj} {kvs : List (List Key × V)} (h : H d = some (.frz o (.dT kvs))) (q : R (ItdT d o kvs) H) : kValsT R (.ref d) H := ⟨d, o, kvs, rfl, h, q⟩
theorem g_kItemsT {R : WK} {d : Addr} {o : Obj} {kvs : List (List Key × V)} (h : H d = some (.frz o (.dT kvs))) (q : R (ItiT d o kvs) H) : kItemsT R (.ref d) H := ⟨d, o, kvs, rfl, h, q⟩
theorem wLc_valsT {d : Addr} {o : Obj} {kvs : List (List Key × V)} {k : Nat} (q : ∀ D H2, H D = none → Step [] H H2 → H2 D = some (.lst []) → ∃ Pv : Nat → Hp → Prop, Pv 0 H2 ∧ (∀ i H, i ≤ kvs.length → Pv i H → H d = some (.frz o (.dT kvs))) ∧
    (∀ i p H, kvs[i]? = some p → Pv i H → kTurn tt te ws σ D (Pv (i + 1)) ((wipe σ ws).set k (some p.2)) H) ∧ (∀ H, Pv kvs.length H → Q (.ref D) H)) : wLc (ItdT d o kvs) (gName k) tt te ws σ Q H :=
  wLc_gen kvs.length fun D H2 h1 h2 h3 => by
    obtain ⟨Pv, p0, hl, hs, hd⟩ := q D H2 h1 h2 h3
    refine ⟨Pv, p0, fun i H hi p => ⟨hl i H (Nat.le_of_lt hi) p, hi⟩, fun H p => ⟨hl _ H (Nat.le_refl _) p, Nat.le_refl _⟩, fun i H x H' hi p y => ?_, hd⟩
    obtain ⟨e1, k, e2⟩ := y
    subst e1
    exact hs i (k, x) _ e2 p
theorem wLc_itemsT {d : Addr} {o : Obj} {kvs : List (List Key × V)} {k l : Nat} (q : ∀ D H2, H D = none → Step [] H H2 → H2 D = some (.lst []) → ∃ Pv : Nat → Hp → Prop, Pv 0 H2 ∧ (∀ i H, i ≤ kvs.length → Pv i H → H d = some (.frz o (.dT kvs))) ∧
    (∀ i p b H H2 T, kvs[i]? = some p → Pv i H → H b = some (.tup (p.1.map kV)) → H T = none → Step [] H H2 → H2 T = some (.tup [.ref b, p.2]) → kTurn tt te ws σ D (Pv (i + 1)) (((wipe σ ws).set k (some (.ref b))).set l (some p.2)) H2) ∧ (∀ H, Pv kvs.length H → Q (.ref D) H)) :
    wLc (ItiT d o kvs) (gTup K 2 (gCons (gName k) (gCons (gName l) gNil))) tt te ws σ Q H :=
  wLc_gen kvs.length fun D H2 h1 h2 h3 => by
    obtain ⟨Pv, p0, hl, hs, hd⟩ := q D H2 h1 h2 h3
    refine ⟨Pv, p0, fun i H hi p => ⟨hl i H (Nat.le_of_lt hi) p, hi⟩, fun H p => ⟨hl _ H (Nat.le_refl _) p, Nat.le_refl _⟩, fun i H x H' hi p y => ?_, hd⟩
    obtain ⟨T, b, k, v, e2, e3, hb, hT, e4⟩ := y
    subst e3 e4
    exact ⟨T, _, rfl, SqT.of upd_same, rfl, _, _, rfl, _, _, rfl, rfl, hs i (k, v) b H _ T e2 p hb hT (Step.new hT) upd_same⟩
/-! ### enumerate and zip within a comprehension, a tuple walked -/
theorem wLc_enum {a : Addr} {xs : List V} {k l : Nat} (q : ∀ D H2, H D = none → Step [] H H2 → H2 D = some (.lst []) → ∃ Pv : Nat → Hp → Prop, Pv 0 H2 ∧ (∀ i H, i ≤ xs.length → Pv i H → H a = some (.lst xs)) ∧
    (∀ i x H H2, xs[i]? = some x → Pv i H → Step [] H H2 → kTurn tt te ws σ D (Pv (i + 1)) (((wipe σ ws).set k (some (.int (i : Nat)))).set l (some x)) H2) ∧ (∀ H, Pv xs.length H → Q (.ref D) H)) :
    wLc (Ite K a) (gTup K 2 (gCons (gName k) (gCons (gName l) gNil))) tt te ws σ Q H :=
  wLc_gen xs.length fun D H2 h1 h2 h3 => by
    obtain ⟨Pv, p0, hl, hs, hd⟩ := q D H2 h1 h2 h3
    refine ⟨Pv, p0, fun i H hi p => ⟨xs, xs[i], SqL.of (hl i H (Nat.le_of_lt hi) p), List.getElem?_eq_getElem hi⟩, fun H p => ⟨xs, SqL.of (hl _ H (Nat.le_refl _) p), Nat.le_refl _⟩, fun i H x H' hi p yy => ?_, hd⟩
    obtain ⟨T, x, e3, hT, e4, f1⟩ := yy
    subst e3 e4
    exact ⟨T, _, rfl, SqT.of upd_same, rfl, _, _, rfl, _, _, rfl, rfl, hs i x H _ (f1 xs (SqL.of (hl i H (Nat.le_of_lt hi) p))) p (Step.new hT)⟩
def kZip (K : PySem.W.Frag) (R : WK) : List V → Hp → Prop := fun vs H1 => ∃ a b xs ys, vs = [.ref a, .ref b] ∧ SqL K H1 a xs ∧ SqL K H1 b ys ∧ R (Itz K a b) H1
theorem wFor_tup {a : Addr} {xs : List V} (Pv : Nat → L2.St → Hp → Prop) (h0 : Pv 0 σ H) (hl : ∀ i σ H, i ≤ xs.length → Pv i σ H → H a = some (.tup xs))
    (hs : ∀ i x σ H, xs[i]? = some x → Pv i σ H → g x σ H (fun σ2 H2 => t ⟨Pv (i + 1), rt, nx, Pv (i + 1)⟩ σ2 H2)) (hd : ∀ σ H, Pv xs.length σ H → nx σ H) : wFor (Itt K a) g t ⟨nx, rt, bk, ct⟩ σ H :=
  wFor_gen xs.length Pv h0 (fun i σ H hi p => ⟨xs, xs[i], SqT.of (hl i σ H (Nat.le_of_lt hi) p), List.getElem?_eq_getElem hi⟩) (fun σ H p => ⟨xs, SqT.of (hl _ σ H (Nat.le_refl _) p), Nat.le_refl _⟩) (fun i σ H x H' hi p y => by
    obtain ⟨e, y⟩ := y
    subst e
    exact hs i x σ _ (y xs (SqT.of (hl i σ _ (Nat.le_of_lt hi) p))) p) hd
def kTupI (K : PySem.W.Frag) (R : WK) : VK := fun x H1 => ∃ a, x = .ref a ∧ (∃ xs, SqT K H1 a xs) ∧ R (Itt K a) H1
theorem g_tupI {R : WK} (h : td σ H (kTupI K R)) : iTup K td σ H R := h
theorem g_kTupI {R : WK} {a : Addr} {xs : List V} (h : H a = some (.tup xs)) (q : R (Itt K a) H) : kTupI K R (.ref a) H := ⟨a, rfl, ⟨xs, SqT.of h⟩, q⟩
/-! ### while -/
def kWh (t : TS) (W : Nat → L2.St → Hp → Prop) (m : Nat) (nx : L2.St → Hp → Prop) (rt : VK) (σ : L2.St) : Bool → Hp → Prop := fun b H1 => if b = true then ∃ N : L2.St → Hp → Prop, (∀ σ' H', N σ' H' → ∃ m', m' < m ∧ W m' σ' H') ∧ t ⟨N, rt, nx, N⟩ σ H1 else nx σ H1
theorem g_while {c : TT} (W : Nat → L2.St → Hp → Prop) {m0 : Nat} (h0 : W m0 σ H) (hs : ∀ m σ H, W m σ H → c σ H (kWh t W m nx rt σ)) : tWhile c t ⟨nx, rt, bk, ct⟩ σ H := ⟨W, ⟨m0, h0⟩, hs⟩
theorem g_kWh {W : Nat → L2.St → Hp → Prop} {m : Nat} {b : Bool} (h : if b = true then t ⟨fun σ' H' => ∃ m', m' < m ∧ W m' σ' H', rt, nx, fun σ' H' => ∃ m', m' < m ∧ W m' σ' H'⟩ σ H else nx σ H) : kWh t W m nx rt σ b H := by
  cases b with
  | true => exact ⟨_, fun _ _ h => h, h⟩
  | false => exact h
def kAug (f : Int → Int → Int) (k : Nat) (σ : L2.St) (nx : L2.St → Hp → Prop) (x : V) : VK := fun y H1 => ipI f x y H1 (fun z H2 => nx (σ.set k (some z)) H2)
theorem g_aug {f : Int → Int → Int} {k : Nat} {x : V} (h : σ[k]? = some (some x)) (q : te σ H (kAug f k σ nx x)) : tAug k te (ipI f) ⟨nx, rt, bk, ct⟩ σ H := ⟨x, h, q⟩
theorem g_kAug {f : Int → Int → Int} {k : Nat} {i j : Int} (q : nx (σ.set k (some (.int (f i j)))) H) : kAug f k σ nx (.int i) (.int j) H := ⟨i, j, rfl, rfl, q⟩
/-! ### dicts with tuple keys, stored and asked -/
theorem g_kDGetT {p b : Addr} {kvs : List (List Key × V)} {k : List Key} {v : V} (h : H p = some (.dT kvs)) (hb : H b = some (.tup (k.map kV))) (e : valV kvs k = some v) (q : Q v H) : kDGet Q (.ref p) (.ref b) H := ⟨p, v, rfl, by rw [← e]; exact DGet.t h hb, q⟩
theorem g_kDG2T {ty tx : TE} {p : Addr} {kvs : List (List Key × V)} (h : H p = some (.dT kvs)) (q : ty σ H (fun y H2 => tx σ H2 (kDG2b Q p y))) : kDG2 ty tx σ Q (.ref p) H := ⟨p, rfl, .inr ⟨kvs, .inl h⟩, q⟩
theorem g_kDG2bT {p b : Addr} {kvs : List (List Key × V)} {k : List Key} {z : V} (h : H p = some (.dT kvs)) (hb : H b = some (.tup (k.map kV))) (q : Q ((valV kvs k).getD z) H) : kDG2b Q p (.ref b) z H := ⟨_, DGet.t h hb, q⟩
theorem g_kDPutT {p b : Addr} {kvs : List (List Key × V)} {k : List Key} {v : V} (h : H p = some (.dT kvs)) (hb : H b = some (.tup (k.map kV))) (hl : kvs.length < sizeLine) (q : ∀ H2, Step [p] H H2 → H2 p = some (.dT (putK kvs k v)) → nx σ H2) : kDPut nx σ v (.ref p) (.ref b) H :=
  ⟨p, _, rfl, DPut.t h hb hl, q _ ((Step.refl [p] H).wr (List.mem_singleton.mpr rfl)) upd_same⟩
theorem g_dnewT (q : ∀ p H2, H p = none → Step [] H H2 → H2 p = some (.dT []) → Q (.ref p) H2) : tDNewT σ H Q := fun p hp => q p _ hp (Step.new hp) upd_same
/-! ### two targets -/
theorem g_asg2 {g1 g2 : TG} (h : te σ H (fun x H1 => g1 x σ H1 (fun σ1 H2 => g2 x σ1 H2 nx))) : tAsg2 te g1 g2 ⟨nx, rt, bk, ct⟩ σ H := h
end
/-! ### l.count(x) of data -/
def rCountD (K : PySem.W.Frag) : V → List V → Hp → VK → Prop := fun x xs H Q => ∃ (a : Addr) (y : V) (d : PyData) (ds : List PyData), x = V.ref a ∧ xs = [y] ∧ Dp K H (V.ref a) (.list ds) ∧ Dp K H y d ∧
  SeqAt.shaped (.list ds) = true ∧ SeqAt.shaped d = true ∧ Q (.int (ds.countP (fun z => PyData.eqv z d) : Nat)) H
theorem mt_countD {X : Cx} (hu : X.A.units + 65 < cLine) : MtR X "list.count" (rCountD X.K) := by
  intro pins s σ H x xs v us Q I rx rxs h
  obtain ⟨a, y, d, ds, rfl, rfl, hl, hy, sl, sd, q⟩ := h
  cases rx
  cases rxs with
  | cons ry rt =>
    rename_i uy ut
    cases rt
    obtain ⟨bs, r1⟩ := Dp.reads I d y uy hy ry
    have hxs : PyData.canLayAll0 ds = true := SeqAt.canLay_of_shaped sl
    have hroom : X.A.units + 1 + min (PyData.depthAll ds) d.depth < cLine := room_in_shaped sd hu
    cases hl with
    | lst hs ha =>
      obtain ⟨its, rv, ⟨⟨cls, dd, data, sls⟩, n, ho, hc, hdn, hdt⟩, hlen⟩ := I.list hs
      simp only at hc hdt
      subst hc hdt
      obtain ⟨as, h4⟩ := Dp.readsAll I ds _ its ha rv
      have hmap : its.map (SeqAt.readOf s.heap) = ds := SeqAt.readsAll_map ds its as hxs h4
      refine call_meets PySem.F.slot_list_count ⟨_, ho, rfl⟩ PySem.F.entry_list_count (PySem.F.args_list_count_2 _ _)
        (SeqAt.list_countAt a its.toArray n dd sls uy (fun u => PyData.eqv (SeqAt.readOf s.heap u) d)) ⟨ho, SeqAt.items_eqAt (vs := its.toArray) (show ReadsAll s.heap its.toArray.toList ds as from h4) r1 hxs (SeqAt.canLay_of_shaped sd) hroom, ?_⟩
      refine ⟨.int _, H, I.tok _, ⟨_, rfl⟩, ?_⟩
      have e : (its.toArray.toList.countP fun u => PyData.eqv (SeqAt.readOf s.heap u) d) = ds.countP fun z => PyData.eqv z d := by
        rw [← hmap, List.countP_map]
        rfl
      rw [e]
      exact q
theorem eqv_countP {α : Type} [DecidableEq α] {K : PySem.W.Frag} {r : Rp α} (c : Cod K r) (x : α) : ∀ xs : List α, (xs.map c.enc).countP (fun z => PyData.eqv z (c.enc x)) = xs.count x
  | [] => rfl
  | y :: xs => by
    rw [List.map_cons, List.countP_cons, List.count_cons, eqv_countP c x xs, c.dec]
    by_cases h : y = x <;> simp [h]
theorem eqv_any {α : Type} [DecidableEq α] {K : PySem.W.Frag} {r : Rp α} (c : Cod K r) (x : α) (xs : List α) : (xs.map c.enc).any (fun z => PyData.eqv z (c.enc x)) = decide (x ∈ xs) := by
  induction xs with
  | nil => rfl
  | cons y xs ih =>
    rw [List.map_cons, List.any_cons, ih, c.dec]
    by_cases h : y = x
    · simp [h]
    · have : ¬ x = y := fun z => h z.symm
      simp [h, this]
section
variable {K : PySem.W.Frag} {H : Hp} {Q : VK} {α : Type} [DecidableEq α] {r : Rp α}
theorem g_countC {u v : V} {x : α} {xs : List α} (c : Cod K r) (h1 : rL r H u xs) (h2 : r H v x) (o1 : ∀ y ∈ xs, c.ok y) (o2 : c.ok x) (q : Q (.int (xs.count x : Nat)) H) (hd : c.dep + 1 ≤ 64 := by exact Nat.le_of_ble_eq_true rfl) : rCountD K u [v] H Q := by
  obtain ⟨a, vs, rfl, _⟩ := id h1
  exact ⟨a, v, c.enc x, xs.map c.enc, rfl, rfl, (cL c).dp H _ _ h1, c.dp H _ _ h2, (cL c).shaped (x := xs) o1 hd, c.shaped o2 (Nat.le_of_succ_le hd), by rw [eqv_countP]; exact q⟩
theorem g_inC {u v : V} {x : α} {xs : List α} (c : Cod K r) (h1 : rL r H v xs) (h2 : r H u x) (o1 : ∀ y ∈ xs, c.ok y) (o2 : c.ok x) (q : Q (.bl (decide (x ∈ xs))) H) (hd : c.dep + 1 ≤ 64 := by exact Nat.le_of_ble_eq_true rfl) : rInD K u v H Q :=
  ⟨c.enc x, xs.map c.enc, c.dp H _ _ h2, (cL c).dp H _ _ h1, c.shaped o2 (Nat.le_of_succ_le hd), (cL c).shaped (x := xs) o1 hd, by rw [eqv_any]; exact q⟩
theorem g_notInC {u v : V} {x : α} {xs : List α} (c : Cod K r) (h1 : rL r H v xs) (h2 : r H u x) (o1 : ∀ y ∈ xs, c.ok y) (o2 : c.ok x) (q : Q (.bl (!decide (x ∈ xs))) H) (hd : c.dep + 1 ≤ 64 := by exact Nat.le_of_ble_eq_true rfl) : rNotInD K u v H Q :=
  ⟨c.enc x, xs.map c.enc, c.dp H _ _ h2, (cL c).dp H _ _ h1, c.shaped o2 (Nat.le_of_succ_le hd), (cL c).shaped (x := xs) o1 hd, by rw [eqv_any]; exact q⟩
end
theorem unit65 {k : Nat} {A : Around} (hr : Room k A) : A.units + 65 < cLine := by have := hr.un; omega
theorem unit5 {k : Nat} {A : Around} (hr : Room k A) : A.units + 5 < cLine := by have := hr.un; omega
/-! ### [x for one in told for x in one] -/
section
variable {K : PySem.W.Frag} {σ : L2.St} {H : Hp} {Q : VK} {ta : TE} {ws vs1 : List Nat} {k j : Nat}
def kLc2 (Q : VK) : VK := fun x H1 => ∃ a bs vss, x = .ref a ∧ H1 a = some (.lst (bs.map V.ref)) ∧ Paired (fun b vs => H1 b = some (.lst vs)) bs vss ∧ vss.flatten.length ≤ sizeLine ∧ ∀ p H2, H1 p = none → Step [] H1 H2 → H2 p = some (.lst vss.flatten) → Q (.ref p) H2
theorem g_lc2 (mono : ∀ Q Q' : VK, (∀ v H1, Q v H1 → Q' v H1) → ta σ H Q → ta σ H Q') (hk : ∀ x, ((wipe σ ws).set k (some x))[k]? = some (some x)) (hw : ∀ x, wipe ((wipe σ ws).set k (some x)) ws = wipe σ ws)
    (hj : ∀ x y, ((wipe ((wipe σ ws).set k (some x)) vs1).set j (some y))[j]? = some (some y)) (hw1 : ∀ x y, wipe ((wipe ((wipe σ ws).set k (some x)) vs1).set j (some y)) vs1 = wipe ((wipe σ ws).set k (some x)) vs1)
    (h : ta σ H (kLc2 Q)) : tLc2 (iList K ta) (gName k) tYes (iList K (tVar k)) (gName j) tYes (tVar j) ws vs1 σ H Q := by
  refine mono (kLc2 Q) _ (fun v H1 h => ?_) h
  obtain ⟨a, bs, vss, rfl, ha, hP, hz, q⟩ := h
  refine ⟨a, rfl, ⟨_, SqL.of ha⟩, fun D hD => ?_⟩
  have aD : a ≠ D := ne_of_none ha hD
  have st0 : Step [] H1 (upd H1 D (.lst [])) := Step.new hD
  have hlb := P_len hP
  let Pv : Nat → Hp → Prop := fun i H' => H' D = some (.lst (vss.take i).flatten) ∧ ∀ b o, b ≠ D → H1 b = some o → H' b = some o
  let Fv : Nat → Hp → Prop := fun i H' => Pv i H' ∧ (∀ b, b ≠ D → H' b = H1 b)
  refine ⟨fun i m H' => m = bs.length - i ∧ i ≤ bs.length ∧ Fv i H', ⟨bs.length, rfl, Nat.zero_le _, ⟨upd_same, fun b o hb e => by rw [upd_ne hb]; exact e⟩, fun b hb => upd_ne hb⟩, ?_⟩
  rintro i m H' ⟨rfl, hi, ⟨p1, p2⟩, p3⟩
  have ha' : H' a = some (.lst (bs.map V.ref)) := p2 a _ aD ha
  by_cases hlt : i < bs.length
  · refine .inr ⟨⟨_, .ref bs[i], SqL.of ha', by rw [List.getElem?_map, List.getElem?_eq_getElem hlt]; rfl⟩, Fv (i + 1), fun H2 p => ⟨bs.length - (i + 1), by omega, rfl, hlt, p⟩, ?_⟩
    intro x H2 ⟨e, hx⟩
    subst e
    have hx := hx _ (SqL.of ha')
    rw [List.getElem?_map, List.getElem?_eq_getElem hlt] at hx
    cases hx
    refine ⟨hw _, ?_⟩
    unfold tYes
    dsimp only
    rw [if_pos rfl]
    refine ⟨_, hk _, bs[i], rfl, ?_⟩
    obtain ⟨vs, hvs, hb⟩ := P_get hP (List.getElem?_eq_getElem hlt)
    have bD : bs[i] ≠ D := ne_of_none hb hD
    refine ⟨⟨vs, SqL.of (p2 _ _ bD hb)⟩, ?_⟩
    have hil : i < vss.length := by omega
    have hvi : vss[i] = vs := by rw [List.getElem?_eq_getElem hil] at hvs; exact Option.some.inj hvs
    have hfl : (vss.take (i + 1)).flatten = (vss.take i).flatten ++ vs := by
      rw [List.take_add_one, List.getElem?_eq_getElem hil, hvi, List.flatten_append]
      simp
    have hle : (vss.take (i + 1)).flatten.length ≤ vss.flatten.length := by
      have e : vss.flatten = (vss.take (i + 1)).flatten ++ (vss.drop (i + 1)).flatten := by rw [← List.flatten_append, List.take_append_drop]
      rw [e, List.length_append]; omega
    rw [hfl, List.length_append] at hle
    let Gv : Nat → Hp → Prop := fun j H3 => H3 D = some (.lst ((vss.take i).flatten ++ vs.take j)) ∧ ∀ b, b ≠ D → H3 b = H1 b
    refine ⟨fun j n H3 => n = vs.length - j ∧ j ≤ vs.length ∧ Gv j H3, ⟨vs.length, rfl, Nat.zero_le _, by show H2 D = _; rw [p1]; simp, p3⟩, ?_⟩
    rintro jj n H3 ⟨rfl, hjj, g1, g2⟩
    have hb3 : H3 bs[i] = some (.lst vs) := (g2 _ bD).trans hb
    by_cases hlt2 : jj < vs.length
    · refine .inr ⟨⟨vs, vs[jj], SqL.of hb3, List.getElem?_eq_getElem hlt2⟩, Gv (jj + 1), fun H4 p => ⟨vs.length - (jj + 1), by omega, rfl, hlt2, p⟩, ?_⟩
      intro y H4 ⟨e, hy⟩
      subst e
      have hy := hy _ (SqL.of hb3)
      rw [List.getElem?_eq_getElem hlt2] at hy
      cases hy
      refine ⟨hw1 _ _, ?_⟩
      try dsimp only
      rw [if_pos rfl]
      refine ⟨_, hj _ _, _, g1, ?_, ?_, ?_⟩
      · rw [List.length_append, List.length_take]; omega
      · rw [upd_same, List.take_add_one, List.getElem?_eq_getElem hlt2, ← List.append_assoc]; rfl
      · exact fun b hb => by rw [upd_ne hb]; exact g2 b hb
    · have e : jj = vs.length := by omega
      subst e
      refine .inl ⟨⟨vs, SqL.of hb3, Nat.le_refl _⟩, ⟨?_, fun b o hb e => (g2 b hb).trans e⟩, g2⟩
      rw [g1, List.take_length, hfl]
  · have e : i = bs.length := by omega
    subst e
    refine .inl ⟨⟨_, SqL.of ha', by rw [List.length_map]; exact Nat.le_refl _⟩, ?_⟩
    have e : H' = upd H1 D (.lst vss.flatten) := by
      funext b
      by_cases hb : b = D
      · rw [hb, upd_same, p1, hlb, List.take_length]
      · rw [upd_ne hb]; exact p3 b hb
    rw [e]
    exact q D _ hD (Step.new hD) upd_same
end
theorem kList1 {X : Cx} {K : PySem.W.Frag} {tg l : Expr} {tl : TE} (h : PE X l tl) (hK : X.K = K := by rfl) : PI X tg l (iList K tl) := by subst hK; exact pi_list h
/-! ### dicts with nested keys, walked -/
section
variable {P : Program} {w : World} {K : PySem.W.Frag} {σ : L2.St} {H : Hp} {Q : VK} {td ty : TE}
def kNIn (P : Program) (w : World) (Q : VK) (y : V) : VK := fun x H2 => ∃ a b kvs k, x = .ref a ∧ y = .ref b ∧ NDict P w H2 a kvs ∧ KeyN H2 b k ∧ Q (.bl (valV kvs k).isSome) H2
theorem g_nin (h : ty σ H (fun y H1 => td σ H1 (kNIn P w Q y))) : tNIn P w ty td σ H Q := h
theorem g_kNIn {a b : Addr} {kvs : List (PySem.NK.NKey × V)} {k : PySem.NK.NKey} (d : NDict P w H a kvs) (kk : KeyN H b k) (q : Q (.bl (valV kvs k).isSome) H) : kNIn P w Q (.ref b) (.ref a) H := ⟨a, b, kvs, k, rfl, rfl, d, kk, q⟩
def kNGet (P : Program) (w : World) (Q : VK) (x : V) : VK := fun y H2 => ∃ a b kvs k v, x = .ref a ∧ y = .ref b ∧ NDict P w H2 a kvs ∧ KeyN H2 b k ∧ valV kvs k = some v ∧ Q v H2
theorem g_nget (h : td σ H (fun x H1 => ty σ H1 (kNGet P w Q x))) : tNGet P w td ty σ H Q := h
theorem g_kNGet {a b : Addr} {kvs : List (PySem.NK.NKey × V)} {k : PySem.NK.NKey} {v : V} (d : NDict P w H a kvs) (kk : KeyN H b k) (e : valV kvs k = some v) (q : Q v H) : kNGet P w Q (.ref a) (.ref b) H := ⟨a, b, kvs, k, v, rfl, rfl, d, kk, e, q⟩
theorem g_nset {a b : Addr} {kvs : List (PySem.NK.NKey × V)} {k : PySem.NK.NKey} {v : V} {QH : Hp → Prop} (d : NDict P w H a kvs) (kk : KeyN H b k) (hl : kvs.length < sizeLine) (q : ∀ H', Step [a] H H' → NDict P w H' a (putK kvs k v) → QH H') : rNSet P w (.ref a) (.ref b) v H QH := ⟨a, b, rfl, rfl, kvs, k, d, kk, hl, q⟩
def kNPop (P : Program) (w : World) (ty : TE) (σ : L2.St) (Q : VK) : VK := fun x H1 => ∃ a, x = .ref a ∧ (∃ kvs, NDict P w H1 a kvs) ∧ ty σ H1 fun y H2 => ∃ b kvs k v, y = .ref b ∧ NDict P w H2 a kvs ∧ KeyN H2 b k ∧ valV kvs k = some v ∧ ∀ H', Step [a] H2 H' → NDict P w H' a (dropK kvs k) → Q v H'
theorem g_npop (h : td σ H (kNPop P w ty σ Q)) : tNPop P w td ty σ H Q := h
def kNPop2 (P : Program) (w : World) (a : Addr) (Q : VK) : VK := fun y H2 => ∃ b kvs k v, y = .ref b ∧ NDict P w H2 a kvs ∧ KeyN H2 b k ∧ valV kvs k = some v ∧ ∀ H', Step [a] H2 H' → NDict P w H' a (dropK kvs k) → Q v H'
theorem g_kNPop {a : Addr} {kvs : List (PySem.NK.NKey × V)} (d : NDict P w H a kvs) (h : ty σ H (kNPop2 P w a Q)) : kNPop P w ty σ Q (.ref a) H := ⟨a, rfl, ⟨kvs, d⟩, h⟩
theorem g_kNPop2 {a b : Addr} {kvs : List (PySem.NK.NKey × V)} {k : PySem.NK.NKey} {v : V} (d : NDict P w H a kvs) (kk : KeyN H b k) (e : valV kvs k = some v) (q : ∀ H', Step [a] H H' → NDict P w H' a (dropK kvs k) → Q v H') : kNPop2 P w a Q (.ref b) H := ⟨b, kvs, k, v, rfl, d, kk, e, q⟩
end
/-! ### keyword-only parameters -/
structure HasKw (P : Program) (w : World) (K : PySem.W.Frag) (mg : Str → Option Value) (base : Heap) (CX : CXT) (k : Nat) (x : Str) (ps : List Str) (n : Nat) (ks : List Str) (dvs : List V) (sp : Sp) : Prop where
  ex : ∃ f fd, FnOk P w K mg base CX k f fd ps sp ∧ mg x = some (.ref f) ∧ PySem.W.keepIn K (.ref f) = true ∧ (∃ ds, Vals dvs ds ∧ Binds K fd ps ds) ∧ KBn K fd ps n ks (fun us ws => us ++ ws) (fun vs zs => vs ++ zs)
section
variable {σ : L2.St} {H : Hp} {Q : VK} {tr tk : TA} {sp : Sp} {E : XK} {n m : Nat} {gV : List V → List V → List V} {dvs : List V}
def kKw (n m : Nat) (sp : Sp) (gV : List V → List V → List V) (E : XK) (Q : VK) (vs : List V) : List V → Hp → Prop := fun zs H2 => vs.length = n ∧ zs.length = m ∧ sp (gV vs zs) H2 Q E
theorem g_callN (h : tr σ H (fun vs H1 => tk σ H1 (kKw n m sp gV E Q vs))) : tCallN n m sp gV E tr tk σ H Q := h
theorem g_kKw {vs zs : List V} (h1 : vs.length = n) (h2 : zs.length = m) (h : sp (gV vs zs) H Q E) : kKw n m sp gV E Q vs zs H := ⟨h1, h2, h⟩
theorem g_callD (h : tr σ H (fun vs H1 => sp (vs ++ dvs) H1 Q E)) : tCall sp dvs E tr σ H Q := h
end
/-! ### zip of two lists; enumerate with any second target -/
section
variable {K : PySem.W.Frag} {σ : L2.St} {H : Hp} {te : TE} {t : TS} {nx bk ct : L2.St → Hp → Prop} {rt Q : VK} {tt : TT} {ws : List Nat} {g : TG} {tr : TA}
theorem g_zip {R : WK} (h : tr σ H (kZip K R)) : iZip K tr σ H R := h
theorem g_kZip {R : WK} {a b : Addr} {xs ys : List V} (ha : H a = some (.lst xs)) (hb : H b = some (.lst ys)) (q : R (Itz K a b) H) : kZip K R [.ref a, .ref b] H := ⟨a, b, xs, ys, rfl, SqL.of ha, SqL.of hb, q⟩
theorem wFor_zip {a b : Addr} {xs ys : List V} {k l : Nat} (hl : xs.length = ys.length) (Pv : Nat → L2.St → Hp → Prop) (h0 : Pv 0 σ H) (hk : ∀ i σ H, i ≤ xs.length → Pv i σ H → H a = some (.lst xs) ∧ H b = some (.lst ys))
    (hs : ∀ i x y σ H H2, xs[i]? = some x → ys[i]? = some y → Pv i σ H → Step [] H H2 → t ⟨Pv (i + 1), rt, nx, Pv (i + 1)⟩ ((σ.set k (some x)).set l (some y)) H2) (hd : ∀ σ H, Pv xs.length σ H → nx σ H) :
    wFor (Itz K a b) (gTup K 2 (gCons (gName k) (gCons (gName l) gNil))) t ⟨nx, rt, bk, ct⟩ σ H :=
  wFor_gen xs.length Pv h0 (fun i σ H hi p => ⟨xs, ys, xs[i], ys[i]'(by omega), SqL.of (hk i σ H (Nat.le_of_lt hi) p).1, SqL.of (hk i σ H (Nat.le_of_lt hi) p).2, List.getElem?_eq_getElem hi, List.getElem?_eq_getElem (by omega)⟩)
    (fun σ H p => ⟨xs, ys, SqL.of (hk _ σ H (Nat.le_refl _) p).1, SqL.of (hk _ σ H (Nat.le_refl _) p).2, .inl (Nat.le_refl _)⟩) (fun i σ H x H' hi p yy => by
    obtain ⟨T, x, y, e3, hT, e4, f1, f2⟩ := yy
    subst e3 e4
    have hh := hk i σ H (Nat.le_of_lt hi) p
    exact ⟨T, _, rfl, SqT.of upd_same, rfl, _, _, rfl, _, _, rfl, rfl, hs i x y σ H _ (f1 xs (SqL.of hh.1)) (f2 ys (SqL.of hh.2)) p (Step.new hT)⟩) hd
theorem wLc_zip {a b : Addr} {xs ys : List V} {k l : Nat} (hl : xs.length = ys.length) (q : ∀ D H2, H D = none → Step [] H H2 → H2 D = some (.lst []) → ∃ Pv : Nat → Hp → Prop, Pv 0 H2 ∧ (∀ i H, i ≤ xs.length → Pv i H → H a = some (.lst xs) ∧ H b = some (.lst ys)) ∧
    (∀ i x y H H2, xs[i]? = some x → ys[i]? = some y → Pv i H → Step [] H H2 → kTurn tt te ws σ D (Pv (i + 1)) (((wipe σ ws).set k (some x)).set l (some y)) H2) ∧ (∀ H, Pv xs.length H → Q (.ref D) H)) :
    wLc (Itz K a b) (gTup K 2 (gCons (gName k) (gCons (gName l) gNil))) tt te ws σ Q H :=
  wLc_gen xs.length fun D H2 h1 h2 h3 => by
    obtain ⟨Pv, p0, hk, hs, hd⟩ := q D H2 h1 h2 h3
    refine ⟨Pv, p0, fun i H hi p => ⟨xs, ys, xs[i], ys[i]'(by omega), SqL.of (hk i H (Nat.le_of_lt hi) p).1, SqL.of (hk i H (Nat.le_of_lt hi) p).2, List.getElem?_eq_getElem hi, List.getElem?_eq_getElem (by omega)⟩,
      fun H p => ⟨xs, ys, SqL.of (hk _ H (Nat.le_refl _) p).1, SqL.of (hk _ H (Nat.le_refl _) p).2, .inl (Nat.le_refl _)⟩, fun i H x H' hi p yy => ?_, hd⟩
    obtain ⟨T, x, y, e3, hT, e4, f1, f2⟩ := yy
    subst e3 e4
    have hh := hk i H (Nat.le_of_lt hi) p
    exact ⟨T, _, rfl, SqT.of upd_same, rfl, _, _, rfl, _, _, rfl, rfl, hs i x y H _ (f1 xs (SqL.of hh.1)) (f2 ys (SqL.of hh.2)) p (Step.new hT)⟩
theorem wFor_enumG {a : Addr} {xs : List V} {k : Nat} (Pv : Nat → L2.St → Hp → Prop) (h0 : Pv 0 σ H) (hl : ∀ i σ H, i ≤ xs.length → Pv i σ H → H a = some (.lst xs))
    (hs : ∀ i x σ H H2, xs[i]? = some x → Pv i σ H → Step [] H H2 → g x (σ.set k (some (.int (i : Nat)))) H2 (fun σ3 H3 => t ⟨Pv (i + 1), rt, nx, Pv (i + 1)⟩ σ3 H3)) (mono : ∀ x σ H (Q Q' : L2.St → Hp → Prop), (∀ σ H, Q σ H → Q' σ H) → g x σ H Q → g x σ H Q') (hd : ∀ σ H, Pv xs.length σ H → nx σ H) :
    wFor (Ite K a) (gTup K 2 (gCons (gName k) (gCons g gNil))) t ⟨nx, rt, bk, ct⟩ σ H :=
  wFor_gen xs.length Pv h0 (fun i σ H hi p => ⟨xs, xs[i], SqL.of (hl i σ H (Nat.le_of_lt hi) p), List.getElem?_eq_getElem hi⟩) (fun σ H p => ⟨xs, SqL.of (hl _ σ H (Nat.le_refl _) p), Nat.le_refl _⟩) (fun i σ H x H' hi p yy => by
    obtain ⟨T, x, e3, hT, e4, f1⟩ := yy
    subst e3 e4
    exact ⟨T, _, rfl, SqT.of upd_same, rfl, _, _, rfl, _, _, rfl, mono _ _ _ _ _ (fun _ _ h => ⟨rfl, h⟩) (hs i x σ H _ (f1 xs (SqL.of (hl i σ H (Nat.le_of_lt hi) p))) p (Step.new hT))⟩) hd
theorem mono_tup2 {k l : Nat} (x : V) (σ : L2.St) (H : Hp) (Q Q' : L2.St → Hp → Prop) (h : ∀ σ H, Q σ H → Q' σ H) (q : gTup K 2 (gCons (gName k) (gCons (gName l) gNil)) x σ H Q) : gTup K 2 (gCons (gName k) (gCons (gName l) gNil)) x σ H Q' := by
  obtain ⟨a, xs, e1, e2, e3, y, r, e4, z, r2, e5, e6, q⟩ := q
  exact ⟨a, xs, e1, e2, e3, y, r, e4, z, r2, e5, e6, h _ _ q⟩
end
theorem kMt {X : Cx} {K : PySem.W.Frag} {f : String} {r : PySem.W.Frag → V → List V → Hp → VK → Prop} (h : MtR X f (r X.K)) (hK : X.K = K := by rfl) : MtR X f (r K) := by subst hK; exact h
theorem isN_dec (o : Option Str) : decide (oV V.str o = V.non) = decide (o = none) := by cases o <;> simp [oV]
end My
/-! KitB: sets of texts as they are walked: set(texts), sorted(a set). -/
namespace My
open PySem PySem.Spec PyProof.Rows L2
section
variable {K : Type} [DecidableEq K]
def addK (ks : List K) (k : K) : List K := if k ∈ ks then ks else ks ++ [k]
/-- each once, where it stood first -/
def ddp (xs : List K) : List K := xs.foldl addK []
theorem ddp_snoc (xs : List K) (x : K) : ddp (xs ++ [x]) = addK (ddp xs) x := by unfold ddp; rw [List.foldl_append]; rfl
theorem addK_mem {ks : List K} {k j : K} : j ∈ addK ks k ↔ j ∈ ks ∨ j = k := by
  unfold addK
  by_cases h : k ∈ ks
  · rw [if_pos h]
    exact ⟨.inl, fun z => z.elim id fun e => e ▸ h⟩
  · rw [if_neg h]; simp
theorem addK_nd {ks : List K} {k : K} (h : ks.Nodup) : (addK ks k).Nodup := by
  unfold addK
  by_cases hk : k ∈ ks
  · rw [if_pos hk]; exact h
  · rw [if_neg hk, List.nodup_append]
    exact ⟨h, by simp, fun a ha b hb => by rw [List.mem_singleton.mp hb]; exact fun z => hk (z ▸ ha)⟩
theorem ddp_mem {xs : List K} : ∀ {j : K}, j ∈ ddp xs ↔ j ∈ xs := by
  have key : ∀ (xs ks : List K) (j : K), j ∈ xs.foldl addK ks ↔ j ∈ ks ∨ j ∈ xs := by
    intro xs
    induction xs with
    | nil => intro ks j; simp
    | cons x r ih =>
      intro ks j
      rw [List.foldl_cons, ih, addK_mem, List.mem_cons, or_assoc]
  intro j
  unfold ddp
  rw [key]
  simp
theorem ddp_nd (xs : List K) : (ddp xs).Nodup := by
  have key : ∀ (xs ks : List K), ks.Nodup → (xs.foldl addK ks).Nodup := by
    intro xs
    induction xs with
    | nil => exact fun ks h => h
    | cons x r ih => exact fun ks h => ih _ (addK_nd h)
  exact key xs [] List.nodup_nil
theorem ddp_len (xs : List K) : (ddp xs).length ≤ xs.length := sub_len (ddp_nd xs) fun x hx => ddp_mem.mp hx
end
section
variable {prog : Program} {w : World} {K : Type} [DecidableEq K] {knd : KeyKind prog w K} {A : Around} {E : Value → Shared → Prop} {s : Shared} {a : Addr} {ks : List K}
def Elem (knd : KeyKind prog w K) (e : Int × Value) (k : K) : Prop := knd.is k e.2 = true ∧ e.1 = knd.hash k ∧ e.2.scannable = true
/-- the set at a by its members, in the order in which they came; its table can be walked -/
def SetZ (knd : KeyKind prog w K) (h : Heap) (a : Addr) (ks : List K) : Prop := ∃ o es ep t l, h.get? a = some o ∧ o.ExactSet ∧ o.data = .set es ep t ∧ es.toList.Perm l ∧ Paired (Elem knd) l ks ∧ ks.Nodup ∧ ks.length < scanBound ∧
  t.fits es.size = true ∧ Ris t.place.toList ∧ (w.params.followText "set-order" = true ∨ t.led = true)
theorem SetZ.at_ {h h' : Heap} (Z : SetZ knd h a ks) (k : ∀ o, h.get? a = some o → h'.get? a = some o) : SetZ knd h' a ks := by
  obtain ⟨o, es, ep, t, l, ho, r⟩ := Z
  exact ⟨o, es, ep, t, l, k o ho, r⟩
theorem elem_of {l : List (Int × Value)} (hl : Paired (Elem knd) l ks) : ElemsOf knd l := fun e he => by
  obtain ⟨k, _, h1, h2, h3⟩ := P_mem1 hl he
  exact ⟨⟨k, h1, h2⟩, h3⟩
theorem led_or (w : World) : w.params.followText "set-order" = true ∨ (!w.params.followText "set-order") = true := by
  cases w.params.followText "set-order"
  · exact .inr rfl
  · exact .inl rfl
theorem setZ_fresh {h : Heap} {led : Bool} (hg : h.get? a = some { cls := .type "set", dict := none, data := .set #[] 0 (.fresh 0 0 led) }) (hl : w.params.followText "set-order" = true ∨ led = true) : SetZ knd h a [] :=
  ⟨_, #[], 0, _, [], hg, ⟨rfl, rfl, rfl⟩, rfl, List.Perm.refl _, .nil, List.nodup_nil, (show 0 < scanBound by decide), rfl, List.Pairwise.nil, hl⟩
/-- the two stores behind a new member -/
theorem setZ_tail {g : Bool → Sem Unit} (hg : ∀ (b : Bool) (s₁ : Shared) (Q' : Unit → Shared → Prop), Q' () s₁ → wpAny (model prog w) A (g b) Q' E s₁) {o : Obj} {es : Array (Int × Value)} {ep : Nat} {t : SetTable} (ho : s.heap.get? a = some o) (hex : o.ExactSet) (hd : o.data = .set es ep t)
    {e1 : Array (Int × Value)} {t2 : SetTable} {l : List (Int × Value)} (pm : e1.toList.Perm l) (hl : Paired (Elem knd) l ks) (hn : ks.Nodup) (hb : ks.length < scanBound) (hf : t2.fits e1.size = true) (hr : Ris t2.place.toList) (hled : w.params.followText "set-order" = true ∨ t2.led = true) {dummy : Bool} {R : Option Bool → Shared → Prop}
    (hR : ∀ h', Heap.SameBut a s.heap h' → SetZ knd h' a ks → R (some true) { s with heap := h' }) :
    wpAny (model prog w) A (do
        storeSet a e1 t2
        if (!dummy && t2.tooFull) = true then do
            g (relayAll t2 e1 (SetTable.grown e1.size)).2.2
            storeSet a (relayAll t2 e1 (SetTable.grown e1.size)).1 (relayAll t2 e1 (SetTable.grown e1.size)).2.1
            pure (some true)
          else pure (some true)) R E s := by
  have z1 : e1.size = ks.length := by rw [← Array.length_toList, pm.length_eq, P_len hl]
  have zb : e1.size < scanBound := by omega
  refine wpAny_bind (wpAny_storeSet_of ho hd ?_ (fits_of_scanBound zb))
  have q1 := store_at (es' := e1) (t' := t2) ho hd
  have sb := Heap.SameBut.update s.heap a (Obj.putSet e1 t2)
  split
  · have m1 := relayAll_perm t2 e1 (SetTable.grown e1.size)
    have m2 := relayAll_fits t2 e1 (SetTable.grown e1.size)
    have m3 := relayAll_ris t2 e1 (SetTable.grown e1.size)
    have m4 := relayAll_led t2 e1 (SetTable.grown e1.size)
    generalize relayAll t2 e1 (SetTable.grown e1.size) = Y at m1 m2 m3 m4 ⊢
    obtain ⟨e2, t3, gv⟩ := Y
    dsimp only at m1 m2 m3 m4 ⊢
    have z2 : e2.size = e1.size := by rw [← Array.length_toList, m1.length_eq, Array.length_toList]
    refine wpAny_bind (hg _ _ _ (wpAny_bind (wpAny_storeSet_of q1 rfl ?_ (fits_of_scanBound (by omega)))))
    exact wpAny_pure (hR _ (sb.trans (Heap.SameBut.update _ a _)) ⟨_, e2, _, t3, l, store_at (es' := e2) (t' := t3) q1 rfl, hex, rfl, m1.trans pm, hl, hn, hb, m2, m3, hled.imp id fun z => by rw [m4]; exact z⟩)
  · exact wpAny_pure (hR _ sb ⟨_, e1, _, t2, l, q1, hex, rfl, pm, hl, hn, hb, hf, hr, hled⟩)
theorem setZ_add {k : K} {v : Value} {Q : Bool → Shared → Prop} (Z : SetZ knd s.heap a ks) (hk : knd.is k v = true) (hsc : v.scannable = true) (room : ks.length + 1 < scanBound)
    (hQ : ∀ h' b, Heap.SameBut a s.heap h' → SetZ knd h' a (addK ks k) → Q b { s with heap := h' }) : wpAny (model prog w) A (setAddHashed a v (knd.hash k)) Q E s := by
  obtain ⟨o, es, ep, t, l, ho, hex, hd, pm, hl, hn, hb, hf, hr, hled⟩ := Z
  have hel : ElemsOf knd es.toList := fun e he => elem_of hl e (pm.mem_iff.mp he)
  have hz : es.size = ks.length := by rw [← Array.length_toList, pm.length_eq, P_len hl]
  unfold setAddHashed setAddHashedIn
  refine wpAny_holding (wpAny_bind (wpAny_setState_of ho hd hf ?_))
  dsimp only
  rw [byScan_of hsc (by omega) hel]
  simp only [↓reduceIte]
  unfold setAddByScan
  refine wpAny_bind (wpAny_bind (wpAny_rule (wpAny_bind (wpAny_setScan_of hk ho hd hf hel ?_))))
  cases hfi : List.findIdx? (fun e => knd.is k e.2) es.toList with
  | some j =>
    dsimp only
    obtain ⟨hj, pj, _⟩ := List.findIdx?_eq_some_iff_getElem.mp hfi
    obtain ⟨k', hk', h1, _⟩ := P_mem1 hl (pm.mem_iff.mp (List.getElem_mem hj))
    have hkm : k ∈ ks := by rw [knd.inj _ _ _ pj h1]; exact hk'
    refine wpAny_pure (wpAny_pure (hQ s.heap _ (Heap.SameBut.refl a s.heap) ?_))
    unfold addK
    rw [if_pos hkm]
    exact ⟨o, es, ep, t, l, ho, hex, hd, pm, hl, hn, hb, hf, hr, hled⟩
  | none =>
    dsimp only
    have hkn : k ∉ ks := fun hm => by
      obtain ⟨e, he, h1, _⟩ := P_mem2 hl hm
      have c := List.findIdx?_eq_none_iff.mp hfi e (pm.mem_iff.mpr he)
      rw [h1] at c
      cases c
    have hgw : ∀ (b : Bool) {s₁ : Shared} {Q' : Unit → Shared → Prop}, Q' () s₁ → wpAny (model prog w) A (match b with | true => rule "set.scan.the-table-gave-way" | false => pure ()) Q' E s₁ := fun b s₁ Q' q => by
      cases b <;> first | exact wpAny_pure q | exact wpAny_rule q
    have m1 := layNew_perm t es (knd.hash k) v
    have m2 := layNew_fits t es (knd.hash k) v
    have m3 := layNew_ris t es (knd.hash k) v hr
    have m4 := layNew_led t es (knd.hash k) v
    generalize layNew t es (knd.hash k) v = Y at m1 m2 m3 m4 ⊢
    obtain ⟨e1, t1, wd, gv⟩ := Y
    dsimp only at m1 m2 m3 m4 ⊢
    rw [Array.toList_push] at m1
    have p1 : e1.toList.Perm (l ++ [(knd.hash k, v)]) := m1.trans (pm.append_right _)
    have l1 : Paired (Elem knd) (l ++ [(knd.hash k, v)]) (addK ks k) := by
      unfold addK
      rw [if_neg hkn]
      exact P_snoc ⟨hk, rfl, hsc⟩ hl
    have n1 : (addK ks k).Nodup := addK_nd hn
    have b1 : (addK ks k).length < scanBound := by
      unfold addK
      rw [if_neg hkn, List.length_append, List.length_singleton]; exact room
    have hled1 : w.params.followText "set-order" = true ∨ t1.led = true := hled.imp id fun z => by rw [m4]; exact z
    refine wpAny_bind (hgw _ ?_)
    split
    · refine wpAny_bind ?_
      rw [hashByValue_scannable 8 hsc]
      refine wpAny_pure ?_
      refine setZ_tail ?_ ho hex hd p1 l1 n1 b1 ?_ ?_ ?_ ?_
      · intro b s₁ Q' q; cases b <;> first | exact wpAny_pure q | exact wpAny_rule q
      · first | (split <;> first | exact m2 | exact SetTable.fits_plain_off m2) | exact m2
      · first | (split <;> exact m3) | exact m3
      · first | (split <;> exact hled1) | exact hled1
      · intro h' sb r; dsimp only; exact wpAny_pure (hQ h' _ sb r)
    · refine wpAny_bind (wpAny_pure ?_)
      simp only [↓reduceIte]
      refine setZ_tail ?_ ho hex hd p1 l1 n1 b1 m2 m3 hled1 ?_
      · intro b s₁ Q' q; cases b <;> first | exact wpAny_pure q | exact wpAny_rule q
      · intro h' sb r; dsimp only; exact wpAny_pure (hQ h' _ sb r)
/-- the new set itself: whether its order is led is the world's -/
theorem code_set_led1 {l : Addr} {Q₁ : Value → Shared → Prop}
    (h : Q₁ (.ref s.heap.objs.size) { s with heap := s.heap.push { cls := .type "set", dict := none, data := .set #[] 0 (.fresh 0 0 (!w.params.followText "set-order")) } }) :
    codeAny (model prog w) A (.call (.builtin "set.__new__") ⟨[.type "set", .ref l], []⟩) (wants Q₁ E) s := by
  refine codeAny_of_tree ?_
  show wpAny _ A.in1 (do checkBuiltinCall "set.__new__" ⟨[.type "set", .ref l], []⟩; again (.builtin "set.__new__" ⟨[.type "set", .ref l], []⟩)) _ _ s
  refine wpAny_bind (wpAny_of_eq (PySem.F.newCall_set_1 (.ref l)) (wpAny_pure ⟨plainId_quiet PySem.F.plain_set_new _, codeAny_builtin PySem.F.entry_set_new ?_⟩))
  rw [Around.under_plainId PySem.F.plain_set_new _]
  unfold Builtin.«set.__new__» Builtin.Frozenset.newClass
  have hsub := sub_set_self
  obtain ⟨hp, g, d, tk, os⟩ := s
  dsimp only
  wp_walk
  refine wpAny_askSetting (wpAny_pure ?_)
  dsimp only
  simp only [newObj]
  exact wpAny_bind (wpAny_alloc (wpAny_pure (wpAny_pure h)))
end
section
variable {prog : Program} {w : World} {A : Around} {R : Result → Shared → Prop} {I : Addr} {fp wr : List Addr} {G : Array GenState → Array GenState → Prop} {n : Nat} {P : Nat → Value → Prop} {St : Nat → Shared → Prop}
theorem setZ_walk (W : WalksS prog w A.in1 I fp wr G n P St) (S : Addr) (hSf : S ∉ fp) (xs : List Str) (hsz : xs.length = n) (hn : n + 1 < scanBound)
    (hval : ∀ i v, P i v → ∃ t, v = .str (xs.getD i Str.empty) t) :
    ∀ (k i : Nat) (s : Shared), n - i = k → i ≤ n → St i s → SetZ (PySem.strKind prog w) s.heap S (ddp (xs.take i)) →
      (∀ s', Moved (S :: wr) G s s' → SetZ (PySem.strKind prog w) s'.heap S (ddp (xs.take n)) → R (.ok (.ret .none)) s') →
      codeAny (model prog w) A (.builtin "set.update.loop" ⟨[.ref S, .ref I], []⟩) R s := by
  have hSw : S ∉ wr := fun h => hSf (W.sub _ h)
  have hsub : ∀ b ∈ wr, b ∈ S :: wr := fun b hb => List.mem_cons_of_mem _ hb
  intro k
  induction k with
  | zero =>
    intro i s hk hi hst hS hR
    have hin : i = n := by omega
    subst hin
    refine codeAny_builtin PyProof.Rows.F.entry_set_update_loop ?_
    rw [Around.under_plainId PyProof.Rows.F.plain_set_update_loop _]
    show wpAny (model prog w) A.in1 (pyNext (.ref I) >>= _) _ _ s
    refine wpAny_bind (W.done s _ _ hst fun s' hm => ?_)
    show wpAny (model prog w) A.in1 (ret Value.none) _ _ s'
    exact wpAny_pure (hR s' (hm.mono hsub) (hS.at_ fun o e => hm.heap S _ hSw e))
  | succ k ih =>
    intro i s hk hi hst hS hR
    have hlt : i < n := by omega
    refine codeAny_builtin PyProof.Rows.F.entry_set_update_loop ?_
    rw [Around.under_plainId PyProof.Rows.F.plain_set_update_loop _]
    show wpAny (model prog w) A.in1 (pyNext (.ref I) >>= _) _ _ s
    refine wpAny_bind (W.item i s _ _ hlt hst fun v s' hP hst' hm => ?_)
    obtain ⟨t, rfl⟩ := hval i v hP
    have hS' : SetZ (PySem.strKind prog w) s'.heap S (ddp (xs.take i)) := hS.at_ fun o e => hm.heap S _ hSw e
    show wpAny (model prog w) A.in1 (holding [Value.str (xs.getD i Str.empty) t] (setAdd S (.str (xs.getD i Str.empty) t)) >>= _) _ _ s'
    refine wpAny_bind (wpAny_holding ?_)
    unfold setAdd
    refine wpAny_holding ?_
    refine wpAny_bind ((PySem.strKind prog w).pyHash (k := xs.getD i Str.empty) (strKind_is _ _ _ _) ?_)
    have hl : i < xs.length := by omega
    have et : xs.take (i + 1) = xs.take i ++ [xs.getD i Str.empty] := by
      rw [List.take_add_one, List.getElem?_eq_getElem hl]
      simp [List.getD, hl]
    have hdl := ddp_len (xs.take i)
    rw [List.length_take] at hdl
    refine setZ_add (s := { s' with toks := s'.toks + 1 }) hS' (strKind_is _ _ _ _) rfl (by omega) fun h' b hsb hS2 => ?_
    have hSi : SetZ (PySem.strKind prog w) h' S (ddp (xs.take (i + 1))) := by rw [et, ddp_snoc]; exact hS2
    refine wpAny_pure ⟨plainId_quiet PyProof.Rows.F.plain_set_update_loop _, ih (i + 1) _ (by omega) hlt (W.frame _ s' _ _ hst' (Nat.le_succ _) fun b hb o e => ?_) hSi fun s'' hm'' hS'' => ?_⟩
    · rw [hsb.2 b (fun h : b = S => hSf (by rw [← h]; exact hb))]; exact e
    · refine hR s'' (Moved.trans W.gtrans ((hm.mono hsub).then_heap (Nat.le_succ _) fun b o hb e => ?_) hm'') hS''
      rw [hsb.2 b (fun h : b = S => hb (by rw [h]; exact List.mem_cons_self))]; exact e
end
section
variable {prog : Program} {w : World} {A : Around} {E : Value → Shared → Prop} {s : Shared}
set_option maxHeartbeats 3200000 in
theorem setZ_of_strs {l : Addr} {items : Array Value} {xs : List Str} {Q : Value → Shared → Prop} (hh : A.handled = none) (hl : s.heap.IsList l items) (hi : StrsAre items.toList xs) (hn : xs.length + 1 < scanBound)
    (q : ∀ (h' : Heap) (tk : Nat), SetZ (PySem.strKind prog w) h' s.heap.objs.size (ddp (xs.take items.size)) →
      (∀ b o, b < s.heap.objs.size → s.heap.get? b = some o → h'.get? b = some o) → Q (.ref s.heap.objs.size) { s with heap := h', toks := tk }) : wpAny (model prog w) A (call (.type "set") [.ref l]) Q E s := by
  obtain ⟨c, tl, hmro⟩ := PySem.F.called_set.mro
  have hmade := PySem.F.called_set.made
  have hsub := PySem.F.called_set.sub
  refine wpAny_call (codeAny_of_tree ?_)
  show wpAny (model prog w) _ (callAny (.type "set") _) _ _ _
  refine wpAny_pure ⟨Code.quiet_builtin _ (by decide +kernel), codeAny_builtin PySem.F.entry_type_call ?_⟩
  rw [Around.under_plain (weight_type_call_type "set" [.ref l] []) rfl]
  have h1 := PySem.F.called_set.notType
  have h2 := PySem.F.called_set.canCreate
  have hct := PySem.F.typeCall_set_1 (.ref l)
  repeat (any_goals (first | assumption | wp_step))
  refine codeAny_mono (code_set_led1 (l := l) (E := E) (Q₁ := fun obj s₁ => ∃ led : Bool, (w.params.followText "set-order" = true ∨ led = true) ∧ obj = .ref s.heap.objs.size ∧ s₁ = { s with heap := s.heap.push { cls := .type "set", dict := none, data := .set #[] 0 (.fresh 0 0 led) } }) ⟨_, led_or w, rfl, rfl⟩) fun r s₁ hr => ?_
  cases r with
  | error e => exact hr
  | ok fl =>
    cases fl with
    | ret obj =>
      obtain ⟨led, hled, rfl, rfl⟩ := hr
      have hS : (s.heap.push { cls := .type "set", dict := none, data := .set #[] 0 (.fresh 0 0 led) }).get? s.heap.objs.size = some { cls := .type "set", dict := none, data := .set #[] 0 (.fresh 0 0 led) } := Heap.get?_push_size _ rfl
      have hT : Shared.TypeIs { s with heap := s.heap.push { cls := .type "set", dict := none, data := .set #[] 0 (.fresh 0 0 led) } } (.ref s.heap.objs.size) "set" := ⟨_, hS, rfl⟩
      have hli := PySem.F.called_set.init.lookup
      have hbi := PySem.F.called_set.init.bind (.ref s.heap.objs.size)
      repeat (any_goals (first | assumption | wp_step))
      refine codeAny_mono (codeAny_call_builtin (R := wants (fun r s₂ => r = .none ∧ ∃ h' tk, s₂ = { s with heap := h', toks := tk } ∧ SetZ (PySem.strKind prog w) h' s.heap.objs.size (ddp (xs.take items.size)) ∧
          (∀ b o, b < s.heap.objs.size → s.heap.get? b = some o → h'.get? b = some o)) E) PySem.F.called_set.init.plain PySem.F.entry_set_init (check_set_init_1 hT ?_)) fun r₂ s₂ hr₂ => ?_
      · obtain ⟨⟨ocls, odict, odata, oslots⟩, hol, hcl, nl, hdl⟩ := hl
        simp only at hcl hdl
        subst hcl hdl
        have hol' : (s.heap.push { cls := .type "set", dict := none, data := .set #[] 0 (.fresh 0 0 led) }).get? l = some { cls := .type "list", dict := odict, data := .seq items nl, slots := oslots } := Heap.get?_push_of_some _ hol
        have hsls := PySem.F.sub_list_set
        have hslf := PySem.F.sub_list_frozenset
        have hne : (Value.type "list" == Value.type "dict") = false := by decide
        have hl1 : (s.heap.push { cls := .type "set", dict := none, data := .set #[] 0 (.fresh 0 0 led) }).IsList l items := ⟨_, hol', rfl, nl, rfl⟩
        unfold Builtin.«set.__init__» noKeywords Builtin.Frozenset.updateFrom
        generalize hPI : pyIter = PI
        wp_walk
        subst hPI
        refine wpAny_pyIter_list hl1 (wpAny_bind (wpAny_runValue ?_))
        have hlS : l < s.heap.objs.size := Heap.lt_size hol
        have hneI : l ≠ (s.heap.push { cls := .type "set", dict := none, data := .set #[] 0 (.fresh 0 0 led) }).objs.size := by
          rw [Heap.size_push]; exact Nat.ne_of_lt (Nat.lt_succ_of_lt hlS)
        have hSf : s.heap.objs.size ∉ [(s.heap.push { cls := .type "set", dict := none, data := .set #[] 0 (.fresh 0 0 led) }).objs.size, l] := by
          rw [Heap.size_push]; simp only [List.mem_cons, List.not_mem_nil, or_false, not_or]
          exact ⟨Nat.ne_of_lt (Nat.lt_succ_self _), Nat.ne_of_gt hlS⟩
        have hsz : xs.length = items.size := by rw [← StrsAre.len_eq hi, Array.length_toList]
        refine setZ_walk ((Walks.list (by simp [hh] : A.in1.in1.in1.handled = none) _ l hneI items).toS) s.heap.objs.size hSf xs hsz (by omega)
          (fun i v hv => SS.strs_at hi i v (by rw [Array.getElem?_toList]; exact hv)) (items.size - 0) 0 _ (by omega) (Nat.zero_le _) ⟨⟨_, Heap.get?_push_size _ rfl, rfl, rfl⟩, (hl1.push _)⟩ ?hS0 ?hR
        case hS0 =>
          have hget : ((s.heap.push { cls := .type "set", dict := none, data := .set #[] 0 (.fresh 0 0 led) }).push { cls := .type "list_iterator", data := .fields #[.ref l, .int 0 0] }).get? s.heap.objs.size = some { cls := .type "set", dict := none, data := .set #[] 0 (.fresh 0 0 led) } := Heap.get?_push_of_some _ hS
          exact setZ_fresh hget hled
        case hR =>
          intro s' hm hS'
          obtain ⟨h', g', d', tk', os'⟩ := s'
          have eg : g' = s.gens := hm.gens
          have ed : d' = s.drawn := hm.drawn
          have eo : os' = s.os := hm.os
          subst eg ed eo
          show wpAny (model prog w) _ _ _ _ _
          refine wpAny_pure ?_
          show wpAny (model prog w) _ (ret Value.none) _ _ _
          refine wpAny_pure ⟨rfl, h', tk', rfl, hS', fun b o hb e => hm.heap b o ?_ (Heap.get?_push_of_some _ (Heap.get?_push_of_some _ e))⟩
          simp only [List.mem_cons, List.not_mem_nil, or_false, not_or]
          exact ⟨Nat.ne_of_lt hb, by rw [Heap.size_push]; exact Nat.ne_of_lt (Nat.lt_succ_of_lt hb)⟩
      · cases r₂ with
        | error e => exact hr₂
        | ok fl₂ =>
          cases fl₂ with
          | ret r =>
            obtain ⟨rfl, h', tk, rfl, hS', hk'⟩ := hr₂
            repeat (any_goals (first | assumption | wp_step))
            exact q _ _ hS' hk'
          | _ => exact hr₂.elim
    | _ => exact hr.elim
end

/-! ### as objects of the heap -/
def SetSO (P : Program) (w : World) (a : Addr) (ks : List Str) : HO := .ext fun h => SetZ (PySem.strKind P w) h a ks
theorem setSO_ok {P : Program} {w : World} {H : Hp} {h : Heap} {a : Addr} {ks : List Str} (Z : SetZ (PySem.strKind P w) h a ks) : ObjOk P w H h a (SetSO P w a ks) :=
  ⟨Z, let ⟨o, _, _, _, _, e, _⟩ := Z; ⟨o, e⟩, fun _ _ Z k => Z.at_ k⟩
def rSetS (K : PySem.W.Frag) (P : Program) (w : World) : List V → Hp → VK → Prop := fun vs H Q => ∃ l, ∃ xs : List Str, vs = [.ref l] ∧ SqL K H l (xs.map V.str) ∧ xs.length ≤ 1000 ∧ ∀ p, H p = none → Q (.ref p) (upd H p (SetSO P w p (ddp xs)))
theorem cr_setS {X : Cx} (hc : X.calm = true) : CallR X (.type "set") (rSetS X.K X.prog X.w) := by
  intro pins s σ H vs us Q I r h
  obtain ⟨l, xs, rfl, hs, hl, q⟩ := h
  obtain ⟨its, rv, pl, _⟩ := I.list hs
  rw [Vals.ref1 r]
  have hlen : its.toArray.size = xs.length := by rw [List.size_toArray, ← rv.length, List.length_map]
  refine setZ_of_strs (xs := xs) (I.ok.hd hc) pl.isList (by simpa using strsAre_of rv) (by unfold scanBound; omega) fun h' tk hS hk => ?_
  rw [hlen, List.take_length] at hS
  have hn := I.hok.fresh (Nat.le_refl s.heap.objs.size)
  exact ⟨.ref _, _, I.laid (t' := tk) (fun b o e => hk b o (Heap.lt_size e) e) (Nat.le_refl _) (setSO_ok hS), rfl, q _ hn⟩
def rSortedZ (P : Program) (w : World) : List V → Hp → VK → Prop := fun vs H Q => ∃ a ks, vs = [.ref a] ∧ H a = some (SetSO P w a ks) ∧ ks.length ≤ 1000 ∧ ∀ (ys : List Str) p, ys.Perm ks → sortedS ys = true → H p = none → Q (.ref p) (upd H p (.lst (ys.map V.str)))
theorem strsOf {prog : Program} {w : World} : ∀ {l : List (Int × Value)} {ks : List Str}, Paired (Elem (PySem.strKind prog w)) l ks → StrsAre (l.map (·.2)) ks
  | _, _, .nil => .nil
  | (i, v) :: l, k :: ks, .cons h t => by
    obtain ⟨tk, e⟩ := Value.isStrOf_shape (show Value.isStrOf k v = true from h.1)
    rw [List.map_cons]
    dsimp only
    rw [e]
    exact .cons _ _ (strsOf t)
theorem strs_perm {us vs : List Value} (h : us.Perm vs) : ∀ {ks : List Str}, StrsAre vs ks → ∃ ks', ks'.Perm ks ∧ StrsAre us ks' := by
  have key : ∀ {vs us : List Value}, vs.Perm us → ∀ {ks : List Str}, StrsAre vs ks → ∃ ks', ks'.Perm ks ∧ StrsAre us ks' := by
    intro vs us h
    induction h with
    | nil => exact fun p => ⟨_, .refl _, p⟩
    | cons x h ih =>
      intro ks p
      cases p with
      | cons a b t =>
        obtain ⟨ks', h1, h2⟩ := ih t
        exact ⟨_, h1.cons _, .cons _ _ h2⟩
    | swap x y l =>
      intro ks p
      cases p with
      | cons a b t =>
        cases t with
        | cons c d t => exact ⟨_, .swap _ _ _, .cons _ _ (.cons _ _ t)⟩
    | trans h1 h2 ih1 ih2 =>
      intro ks p
      obtain ⟨m1, a1, a2⟩ := ih1 p
      obtain ⟨m2, b1, b2⟩ := ih2 a2
      exact ⟨m2, b1.trans a1, b2⟩
  exact fun {ks} p => key h.symm p
theorem cr_sortedZ {X : Cx} (hc : X.calm = true) : CallR X (.builtin "sorted") (rSortedZ X.prog X.w) := by
  intro pins s σ H vs us Q I r h
  obtain ⟨a, ks, rfl, ha, hl, q⟩ := h
  obtain ⟨Z, _⟩ := (show ObjOk X.prog X.w H s.heap a (SetSO X.prog X.w a ks) from I.hok a _ ha)
  obtain ⟨o, es, ep, t, l, ho, hex, hd, pm, hp, hn, hb, hf, hr, hled⟩ := (show SetZ (PySem.strKind X.prog X.w) s.heap a ks from Z)
  rw [Vals.ref1 r]
  have hz : es.size = ks.length := by rw [← Array.length_toList, pm.length_eq, P_len hp]
  refine Calls.call_function_entry kind_sorted plain_sorted entry_sorted (args_sorted1 _) ?_
  unfold Builtin.«sorted»
  refine wpAny_bind (m := checkCount "sorted" 1 1 _) (wpAny_pure ?_)
  refine wpAny_bind (collect_set (A := X.A.in1) (I.ok.hd hc) ⟨o, ho, hex.1, hd⟩ hf (by omega) hr hled fun s1 vs k1 hz1 g1 o1 pv => ?_)
  obtain ⟨ss, pss, hss⟩ := strs_perm (pv.trans (pm.map _)) (strsOf hp)
  have hvl : vs.length = ks.length := by rw [pv.length_eq, List.length_map, Array.length_toList]; exact hz
  refine wpAny_bind (wpAny_newList ?_ (by rw [hvl, sizeLine_eq]; omega))
  have hoL : (s1.heap.push (seqObj "list" vs.toArray 0)).get? s1.heap.objs.size = some (seqObj "list" vs.toArray 0) := Heap.get?_push_size _ rfl
  refine wpAny_bind (wpAny_holding (wpAny_call_entry slot_list_sort ⟨_, hoL, rfl⟩ entry_list_sort
    (list_sort_treeKAny strKind_oneLt hoL hss.keysOf (fun v₁ v₂ rest e => keyKind_strs (by rw [← e]; exact hss)) (by rw [hvl, sizeLine_eq]; omega) fun st' hp' hs' => ⟨_, rfl, ?_⟩) (args_list_sort _)))
  obtain ⟨ys, y1, y2, y3⟩ := sorted_out_str hss hp' hs'
  obtain ⟨c, hc'⟩ := sortedHeap_at (vs := vs) (out := (arrOf st').map (·.2)) hoL
  have keep : ∀ b u, s.heap.get? b = some u → (sortedHeap (s1.heap.push (seqObj "list" vs.toArray 0)) s1.heap.objs.size vs ((arrOf st').map (·.2))).get? b = some u := fun b u e => by
    have q1 := k1 b u e
    have hlt := Heap.lt_size q1
    rw [sortedHeap_old (Nat.ne_of_lt hlt) (by rw [size_push']; exact Nat.lt_succ_of_lt hlt)]
    exact Heap.get?_push_of_some _ q1
  have hH : H s1.heap.objs.size = none := I.hok.fresh hz1
  have hlen : (ys.map V.str).length ≤ sizeLine := by rw [List.length_map, y2.length_eq, pss.length_eq, sizeLine_eq]; omega
  refine wpAny_pure ⟨_, rfl, ?_⟩
  obtain ⟨h1, g, d, tk, os⟩ := s1
  dsimp only at *
  have J : Inv X pins σ (upd H h1.objs.size (.lst (ys.map V.str))) { s with heap := sortedHeap (h1.push (seqObj "list" vs.toArray 0)) h1.objs.size vs ((arrOf st').map (·.2)), gens := g, drawn := d, toks := tk } :=
    I.call (ch := []) (Un.laid keep hz1 hH) (I.hok.laid keep hz1 ⟨hlen, ((arrOf st').map (·.2)).toList, c, vals_of_strs y1, by rw [Array.toArray_toList]; exact hc'⟩) (by rw [g1]; exact I.bare) (fun _ z => nomatch z)
  subst o1
  exact ⟨.ref _, _, J, rfl, q ys _ (y2.trans pss) y3 hH⟩
section
variable {K : PySem.W.Frag} {P : Program} {w : World} {H : Hp} {Q : VK}
theorem g_setS {l : Addr} {xs : List Str} (h : H l = some (.lst (xs.map V.str))) (hl : xs.length ≤ 1000) (q : ∀ p H2, H p = none → Step [] H H2 → H2 p = some (SetSO P w p (ddp xs)) → Q (.ref p) H2) : rSetS K P w [.ref l] H Q := ⟨l, xs, rfl, SqL.of h, hl, fun p hp => q p _ hp (Step.new hp) upd_same⟩
theorem g_sortedZ {a : Addr} {ks : List Str} (h : H a = some (SetSO P w a ks)) (hl : ks.length ≤ 1000) (q : ∀ ys p H2, ys.Perm ks → sortedS ys = true → H p = none → Step [] H H2 → H2 p = some (.lst (ys.map V.str)) → Q (.ref p) H2) : rSortedZ P w [.ref a] H Q :=
  ⟨a, ks, rfl, h, hl, fun ys p h1 h2 hp => q ys p _ h1 h2 hp (Step.new hp) upd_same⟩
end
end My
/-! KitM: min of a list of data; a dict with tuple keys against an empty one. -/
namespace My
open PySem PySem.Spec PyProof.Rows L2 PySem.W
/-- min(xs), the items alike data: (value, datum) -/
def rMinC (K : PySem.W.Frag) : List V → Hp → VK → Prop := fun xs H Q => ∃ (a : Addr) (zs : List (V × PyData)) (d : PyData) (ds : List PyData), xs = [.ref a] ∧ SqL K H a (zs.map (·.1)) ∧ zs.map (·.2) = d :: ds ∧ (∀ z ∈ zs, Dp K H z.1 z.2) ∧ AlikeAll (d :: ds) ∧ (∀ z ∈ zs, z.2.canLay0 = true ∧ z.2.depth ≤ 50) ∧
  ∀ z ∈ zs, z.2 = minD d ds → Q z.1 H
theorem dpAll_of {K : PySem.W.Frag} {H : Hp} : ∀ {zs : List (V × PyData)}, (∀ z ∈ zs, Dp K H z.1 z.2) → DpAll K H (zs.map (·.1)) (zs.map (·.2))
  | [], _ => .nil
  | z :: zs, h => .cons (h z (List.mem_cons_self ..)) (dpAll_of fun y hy => h y (List.mem_cons_of_mem _ hy))
theorem depAll_of : ∀ {zs : List (V × PyData)}, (∀ z ∈ zs, z.2.depth ≤ 50) → PyData.depthAll (zs.map (·.2)) ≤ 50
  | [], _ => by simp [PyData.depthAll]
  | z :: zs, h => by
    simp only [List.map_cons, PyData.depthAll]
    exact Nat.max_le.mpr ⟨h z (List.mem_cons_self ..), depAll_of fun y hy => h y (List.mem_cons_of_mem _ hy)⟩
theorem minD_mem (d : PyData) : ∀ ds : List PyData, minD d ds ∈ d :: ds := by
  intro ds
  unfold minD
  induction ds generalizing d with
  | nil => exact List.mem_cons_self ..
  | cons y ds ih =>
    rw [List.foldl_cons]
    rcases List.mem_cons.mp (ih (if dataLt y d then y else d)) with h | h
    · rw [h]
      split
      · exact List.mem_cons_of_mem _ (List.mem_cons_self ..)
      · exact List.mem_cons_self ..
    · exact List.mem_cons_of_mem _ (List.mem_cons_of_mem _ h)
theorem cr_minC {X : Cx} (hu : X.A.units + 64 < cLine) (hc : X.calm = true) : CallR X (.builtin "min") (rMinC X.K) := by
  intro pins s σ H vs us Q I r h
  obtain ⟨a, zs, d, ds, rfl, hs, hd, hdp, hal, hok, q⟩ := h
  obtain ⟨its, rv, hl, _⟩ := I.list hs
  rw [Vals.ref1 r]
  obtain ⟨as, hr⟩ := Dp.readsAll I (zs.map (·.2)) (zs.map (·.1)) its (dpAll_of hdp) rv
  rw [hd] at hr
  have hdep : PyData.depthAll (d :: ds) ≤ 50 := by rw [← hd]; exact depAll_of fun z hz => (hok z hz).2
  refine min_list_data (I.ok.hd hc) hl.isList (by simpa using hr) hal (by omega) fun i v h' tk bs hv hrd hk => ?_
  have hv : its[i]? = some v := by simpa using hv
  have hi : i < zs.length := by
    have h1 := (List.getElem?_eq_some_iff.mp hv).1
    have h2 := rv.length
    rw [List.length_map] at h2
    omega
  have hz := List.getElem_mem hi
  have hrv : RelV zs[i].1 v := by
    obtain ⟨u, h1, h2⟩ := rv.get (show (zs.map (·.1))[i]? = some zs[i].1 by rw [List.getElem?_map, List.getElem?_eq_getElem hi]; rfl)
    rw [hv] at h1
    cases h1
    exact h2
  obtain ⟨bs2, hr2⟩ := Dp.reads I zs[i].2 zs[i].1 v (hdp _ hz) hrv
  have hm : (minD d ds).canLay0 = true := by
    have h1 := minD_mem d ds
    rw [← hd] at h1
    obtain ⟨z, hz1, hz2⟩ := List.mem_map.mp h1
    rw [← hz2]; exact (hok z hz1).1
  have e : zs[i].2 = minD d ds := (SeqAt.readOf_eq (hok _ hz).1 (Reads.keeps hk hr2)).symm.trans (SeqAt.readOf_eq hm hrd)
  exact ⟨zs[i].1, H, I.kept (t' := tk) hk, hrv, q _ hz e⟩
section
variable {K : PySem.W.Frag} {H : Hp} {Q : VK} {α : Type} {r : Rp α}
theorem g_minC {p : Addr} {vs : List V} {x : α} {xs : List α} (c : Cod K r) (h : H p = some (.lst vs)) (hp : Paired (r H) vs (x :: xs)) (hal : ∀ x y, alike (c.enc x) (c.enc y) = true) (hnn : ∀ x, c.enc x ≠ .none) (ho : ∀ y ∈ x :: xs, c.ok y) (hd : c.dep ≤ 50)
    (q : ∀ v y, r H v y → y ∈ x :: xs → c.enc y = minD (c.enc x) (xs.map c.enc) → Q v H) : rMinC K [.ref p] H Q := by
  refine ⟨p, (vs.zip (x :: xs)).map fun z => (z.1, c.enc z.2), c.enc x, xs.map c.enc, rfl, ?_, ?_, fun z hz => ?_, ⟨fun a ha b hb => ?_, fun a ha => ?_⟩, fun z hz => ?_, fun z hz e => ?_⟩
  · have e : ((vs.zip (x :: xs)).map fun z => (z.1, c.enc z.2)).map (·.1) = vs := by
      rw [List.map_map]
      exact List.map_fst_zip (by rw [P_len hp]; exact Nat.le_refl _)
    rw [e]
    exact SqL.of h
  · have e5 : (vs.zip (x :: xs)).map (fun z => z.2) = x :: xs := List.map_snd_zip (by rw [P_len hp]; exact Nat.le_refl _)
    rw [List.map_map]
    have : ((fun x : V × PyData => x.2) ∘ fun z : V × α => (z.1, c.enc z.2)) = c.enc ∘ fun z => z.2 := rfl
    rw [this, ← List.map_map, e5]
    rfl
  · obtain ⟨y, hy, rfl⟩ := List.mem_map.mp hz
    exact c.dp _ _ _ (P_zip hp hy)
  · have ha : a ∈ (x :: xs).map c.enc := ha
    have hb : b ∈ (x :: xs).map c.enc := hb
    obtain ⟨a', _, rfl⟩ := List.mem_map.mp ha
    obtain ⟨b', _, rfl⟩ := List.mem_map.mp hb
    exact hal _ _
  · have ha : a ∈ (x :: xs).map c.enc := ha
    obtain ⟨a', _, rfl⟩ := List.mem_map.mp ha
    exact hnn _
  · obtain ⟨y, hy, rfl⟩ := List.mem_map.mp hz
    have : y.2 ∈ x :: xs := (List.of_mem_zip hy).2
    exact ⟨c.lay _ (ho _ this), Nat.le_trans (c.hdep _) hd⟩
  · obtain ⟨y, hy, rfl⟩ := List.mem_map.mp hz
    exact q _ _ (P_zip hp hy) (List.of_mem_zip hy).2 e
end
/-! ### d == {}, d a dict with tuple keys -/
section
variable {prog : Program} {w : World} {A : Around} {E : Value → Shared → Prop} {s : Shared} {a b : Addr} {o ob : Obj} {es : Array DictEntry} {ep ep' : Nat}
theorem eq_raw0 {Q : Value → Shared → Prop} (ha : (a == sysModules) = false) (hb : (b == sysModules) = false) (ho : s.heap.get? a = some o) (hx : o.ExactDict) (hd : o.data = .dict es ep) (hob : s.heap.get? b = some ob) (hxb : ob.ExactDict) (hdb : ob.data = .dict #[] ep')
    (hne : es.size ≠ 0) (hu : A.units < cLine) (h : Q (.bool false) s) : wpAny (model prog w) A (compareOp .Eq (.ref a) (.ref b)) Q E s := by
  have hTa : s.TypeIs (.ref a) "dict" := ⟨o, ho, hx.1⟩
  have hTb : s.TypeIs (.ref b) "dict" := ⟨ob, hob, hxb.1⟩
  refine wpAny_richCompare_same_room (op := .Eq) hTa hTb PySem.F.slot_dict_eq (wpAny_call_entry PySem.F.slot_dict_eq hTa PySem.F.entry_dict_eq ?_ (PySem.F.args_dict_eq_2 _ _)) hu
  show wpAny _ _ (Builtin.Dict.dictSlotArgs "__eq__" ⟨[.ref a, .ref b], []⟩ >>= _) _ _ s
  refine wpAny_bind ?_
  unfold Builtin.Dict.dictSlotArgs
  refine wpAny_bind (wpAny_notOrdered_dict hTa ?_)
  show wpAny _ _ (pure (Value.ref a, Value.ref b)) _ _ s
  refine wpAny_pure ?_
  refine wpAny_bind (wpAny_isInstance (T := "dict") hTb PySem.F.sub_dict_dict ?_)
  simp only [Bool.not_true, Bool.false_eq_true, if_false]
  refine wpAny_bind (wpAny_pure (wpAny_bind (wpAny_pure ?_)))
  refine wpAny_bind ?_
  unfold Builtin.Dict.samePairs Builtin.Dict.showsAll
  rw [if_neg (show ¬ (a == sysModules) = true by rw [ha]; exact Bool.false_ne_true), if_neg (show ¬ (b == sysModules) = true by rw [hb]; exact Bool.false_ne_true)]
  refine wpAny_bind (wpAny_pure (wpAny_bind (wpAny_pure (wpAny_bind (wpAny_dictEntries ho hd ?_)))))
  dsimp only
  refine wpAny_bind (wpAny_dictEntries hob hdb ?_)
  rw [if_pos (by simpa using hne)]
  refine wpAny_bind (wpAny_rule (wpAny_pure (wpAny_pure ⟨_, rfl, ?_, h⟩)))
  exact fun x => nomatch x
end
def rEqT0 : R2 := fun x y H Q => ∃ a b kvs, x = .ref a ∧ y = .ref b ∧ H a = some (.dT kvs) ∧ H b = some (.dK []) ∧ Q (.bl kvs.isEmpty) H
theorem op_eqT0 {X : Cx} (hu : X.A.units + 64 + 2 < cLine) : OpR X (compareOp .Eq) rEqT0 := by
  intro pins s σ H x y v u Q I rx ry h
  obtain ⟨a, b, kvs, rfl, rfl, ea, eb, q⟩ := h
  obtain rfl : v = Value.ref a := rx
  obtain rfl : u = Value.ref b := ry
  obtain ⟨_, yb, vb, rb, db⟩ := (show ObjOk X.prog X.w H s.heap b (.dK []) from I.hok b _ eb)
  cases rb
  obtain ⟨z, hs, xs, pr, o, es, ep, ho, hx, hdt, he, _⟩ := (show ObjOk X.prog X.w H s.heap a (.dT kvs) from I.hok a _ ea)
  have hl : es.size = kvs.length := by
    have l1 : es.size = xs.length := size_of_entries he
    have l2 : kvs.length = xs.length := Paired.length pr
    omega
  by_cases hz : es.size = 0
  · have hk : kvs = [] := List.length_eq_zero_iff.mp (by omega)
    subst hk
    have hes : es = #[] := Array.eq_empty_of_size_eq_zero hz
    subst hes
    have da : s.heap.DictOf (mixKind X.prog X.w) a [] := ⟨o, #[], ep, ho, hx, hdt, (fun e hh => absurd hh (by simp)), .nil, List.nodup_nil⟩
    exact PySem.W.keq_eqIn (knd := mixKind X.prog X.w) hs yb da db (by omega) (fun _ => PySem.W.KeqHitsIn.of [] (e := fun _ => true) (fun k v y hm => nomatch hm)) ⟨.bl _, H, I, rfl, q⟩
  · obtain ⟨ob, es', ep', hob, hxb, hdb, _, hpb, _⟩ := db
    have e0 : es' = #[] := by
      have := hpb.length
      rw [Array.length_toList, List.length_nil] at this
      exact Array.eq_empty_of_size_eq_zero this
    subst e0
    refine eq_raw0 hs yb ho hx hdt hob hxb hdb hz (by omega) ⟨.bl _, H, I, rfl, ?_⟩
    have : kvs.isEmpty = false := by
      cases kvs with
      | nil => exact absurd hl hz
      | cons _ _ => rfl
    rw [this] at q
    exact q
theorem g_eqT0 {H : Hp} {Q : VK} {a b : Addr} {kvs : List (List Key × V)} (h : H a = some (.dT kvs)) (hb : H b = some (.dK [])) (q : Q (.bl kvs.isEmpty) H) : rEqT0 (.ref a) (.ref b) H Q := ⟨a, b, kvs, rfl, rfl, h, hb, q⟩
/-! ### a dict with tuple keys under a lock -/
section
variable {σ : L2.St} {H : Hp} {Q f : VK} {te : TE} {v : V}
def lkVT (d : Addr) (od : Obj) (kvs : List (List Key × V)) (f : VK) : VK := fun v H' => H' d = some (.frz od (.dT kvs)) ∧ f v (upd H' d (.dT kvs))
theorem g_lockET {d : Addr} {kvs : List (List Key × V)} (h : H d = some (.dT kvs)) (q : ∀ od H2, Step [d] H H2 → H2 d = some (.frz od (.dT kvs)) → te σ H2 (lkVT d od kvs Q)) : tLockE te σ H Q :=
  ⟨d, .dT kvs, h, trivial, fun od => q od _ ((Step.refl [d] H).wr (List.mem_singleton.mpr rfl)) upd_same⟩
theorem g_lkVT {d : Addr} {od : Obj} {kvs : List (List Key × V)} (h : H d = some (.frz od (.dT kvs))) (q : ∀ H2, Step [d] H H2 → H2 d = some (.dT kvs) → f v H2) : lkVT d od kvs f v H := ⟨h, q _ ((Step.refl [d] H).wr (List.mem_singleton.mpr rfl)) upd_same⟩
end
theorem lt3_eq (i j : Int) (x y u v : Str) : dataLt (.tuple [.int i, .str x, .str y]) (.tuple [.int j, .str u, .str v]) = (decide (i < j) || (decide (i = j) && (decide (cs x < cs u) || (decide (x = u) && decide (cs y < cs v))))) := by
  rw [dataLt_tuple, dataLt_cons (by rfl)]
  by_cases h1 : i = j
  · rw [if_pos (by simp [PyData.eqv, h1]), dataLt_cons (by rfl)]
    by_cases h2 : x = u
    · rw [if_pos (by simp [PyData.eqv, h2]), dataLt_cons (by rfl)]
      have hx : ¬ cs x < cs u := by rw [h2]; exact List.lt_irrefl _
      by_cases h3 : y = v
      · rw [if_pos (by simp [PyData.eqv, h3])]
        have hy : ¬ cs y < cs v := by rw [h3]; exact List.lt_irrefl _
        rw [decide_eq_false (show ¬ i < j by omega), decide_eq_true h1, decide_eq_false hx, decide_eq_true h2, decide_eq_false hy]
        rfl
      · rw [if_neg (by simp [PyData.eqv, h3]), dataLt_str, decide_eq_false (show ¬ i < j by omega), decide_eq_true h1, decide_eq_false hx, decide_eq_true h2]
        rfl
    · rw [if_neg (by simp [PyData.eqv, h2]), dataLt_str, decide_eq_false (show ¬ i < j by omega), decide_eq_true h1, decide_eq_false h2]
      simp only [Bool.false_or, Bool.true_and, Bool.false_and, Bool.or_false]
  · rw [if_neg (by simp [PyData.eqv, h1]), dataLt_int]
    simp [h1]
end My
local macro_rules | `(tactic| walk_at "go1") => `(tactic| first
  | with_reducible refine My.g_seq ?_
  | with_reducible refine My.g_set ?_
  | with_reducible refine My.g_var (by with_unfolding_all exact rfl) ?_
  | with_reducible refine My.g_c ?_
  | with_reducible refine My.g_op ?_
  | with_reducible refine My.g_I0 ?_
  | with_reducible refine My.g_cons ?_
  | with_reducible refine My.g_nil ?_
  | with_reducible refine My.g_call ?_
  | with_reducible refine My.g_CB ?_
  | with_reducible refine My.g_if ?_
  | with_reducible refine My.g_test ?_
  | with_reducible refine My.g_kB ?_
  | with_reducible refine My.g_ret ?_
  | with_reducible refine My.g_retN ?_
  | with_reducible refine My.g_drop ?_
  | with_reducible refine My.g_next ?_
  | with_reducible refine My.g_break ?_
  | with_reducible refine My.g_cont ?_
  | with_reducible refine My.g_asg ?_
  | with_reducible refine My.g_name ?_
  | with_reducible refine My.g_gsub ?_
  | with_reducible refine My.g_eqI ?_
  | with_reducible refine My.g_neI ?_
  | with_reducible refine My.g_eqS ?_
  | with_reducible refine My.g_neS ?_
  | with_reducible refine My.g_and ?_
  | with_reducible refine My.g_or ?_
  | with_reducible refine My.g_not ?_
  | with_reducible refine My.g_B ?_
  | with_reducible refine My.g_ifE ?_
  | with_reducible refine My.g_andV ?_
  | with_reducible refine My.g_orV ?_
  | with_reducible refine My.g_notV ?_
  | with_reducible refine My.g_kAnd ?_
  | with_reducible refine My.g_kOr ?_
  | with_reducible refine My.g_kNot ?_
  | with_reducible refine My.g_lst ?_
  | with_reducible refine My.g_tup ?_
  | with_reducible refine My.g_un ?_
  | with_reducible refine My.g_U ?_
  | with_reducible refine My.g_bm ?_
  | with_reducible refine My.g_sl ?_
  | with_reducible refine My.g_part ?_
  | with_reducible refine My.g_noPart ?_
  | with_reducible refine My.g_kI ?_
  | with_reducible refine My.g_dget ?_
  | with_reducible refine My.g_dget2 ?_
  | with_reducible refine My.g_dget1 ?_
  | with_reducible refine My.g_din ?_
  | with_reducible refine My.g_dnotin ?_
  | with_reducible refine My.g_dput ?_
  | with_reducible refine My.g_m1 ?_
  | with_reducible refine My.g_kM1 ?_
  | with_reducible refine My.g_for ?_
  | with_reducible refine My.g_lc ?_
  | with_reducible refine My.g_dc ?_
  | with_reducible refine My.g_rng1 ?_
  | with_reducible refine My.g_rng2 ?_
  | with_reducible refine My.g_list ?_
  | with_reducible refine My.g_str ?_
  | with_reducible refine My.g_kStr ?_
  | with_reducible refine My.g_keys ?_
  | with_reducible refine My.g_vals ?_
  | with_reducible refine My.g_items ?_
  | with_reducible refine My.g_yes ?_
  | with_reducible refine My.g_kTstT ?_
  | with_reducible refine My.g_kTstDT ?_
  | with_reducible refine My.g_kTurn (by with_unfolding_all exact rfl) ?_
  | with_reducible refine My.g_kTurnD (by with_unfolding_all exact rfl) ?_
  | with_reducible refine My.g_ixL (by with_unfolding_all assumption) (by first | with_unfolding_all exact rfl | assumption) ?_
  | with_reducible refine My.g_ixT (by with_unfolding_all assumption) (by first | with_unfolding_all exact rfl | assumption) ?_
  | with_reducible refine My.g_kBM (by with_unfolding_all assumption) ?_
  | with_reducible refine My.g_kList (by with_unfolding_all assumption) ?_
  | with_reducible refine My.g_modP (by with_unfolding_all first | decide | omega) ?_
  | with_reducible refine My.g_divP (by with_unfolding_all first | decide | omega) (by with_unfolding_all first | decide | omega) ?_
  | with_reducible refine My.g_mulP (by with_unfolding_all first | decide | omega) (by with_unfolding_all first | decide | omega) (by with_unfolding_all first | decide | omega) (by with_unfolding_all first | decide | omega) ?_
  | with_reducible refine My.g_powP (by with_unfolding_all first | decide | omega) (by with_unfolding_all first | decide | omega) (by with_unfolding_all first | decide | omega) (by with_unfolding_all first | decide | omega) ?_
  | with_reducible refine My.g_chain ?_
  | with_reducible refine My.g_kCh ?_
  | with_reducible refine My.g_make ?_
  | with_reducible refine My.g_meth ?_
  | with_reducible refine My.g_fld ?_
  | with_reducible refine My.g_fldS ?_
  | with_reducible refine My.g_ez ?_
  | with_reducible refine My.g_ost ?_
  | with_reducible refine My.g_mkO ?_
  | with_reducible refine My.g_callS ?_
  | with_reducible refine My.g_xf ?_
  | with_reducible refine My.g_xv ?_
  | with_reducible refine My.g_enum ?_
  | with_reducible refine My.g_nin ?_
  | with_reducible refine My.g_nget ?_
  | with_reducible refine My.g_npop ?_
  | with_reducible refine My.g_frz ?_
  | with_reducible refine My.g_valsT ?_
  | with_reducible refine My.g_itemsT ?_
  | with_reducible refine My.g_tupI ?_
  | with_reducible refine My.g_asg2 ?_
  | with_reducible refine My.g_callN ?_
  | with_reducible refine My.g_kKw rfl rfl ?_
  | with_reducible refine My.g_kWh ?_
  | with_reducible refine My.g_kTupI (by with_unfolding_all assumption) ?_
  | with_reducible refine My.g_aug (by with_unfolding_all exact rfl) ?_
  | with_reducible refine My.g_kAug ?_
  | with_reducible refine My.g_zip ?_
  | with_reducible refine My.g_max2 ?_
  | with_reducible refine My.g_min2 ?_
  | with_reducible refine My.g_lenL (by with_unfolding_all assumption) ?_
  | with_reducible refine My.g_lenLK (by with_unfolding_all assumption) ?_
  | with_reducible refine My.g_lenDi (by with_unfolding_all assumption) ?_
  | with_reducible refine My.g_kLst (by with_unfolding_all exact Nat.le_of_ble_eq_true rfl) ?_
  | with_reducible refine My.g_fmt ?_
  | with_reducible refine My.g_js ?_
  | with_reducible refine My.g_jsN ?_
  | with_reducible refine My.g_mS ?_
  | with_reducible refine My.g_kMS ?_
  | with_reducible refine My.g_callL (by with_unfolding_all exact rfl) ?_
  | with_reducible refine My.g_lenSetS ?_
  | with_reducible refine My.g_kTup (by with_unfolding_all exact Nat.le_of_ble_eq_true rfl) ?_)
local macro_rules | `(tactic| walk_at "go") => `(tactic| repeat walk_at "go1")
namespace My
open PySem PySem.Spec PyProof.Rows L2
def top (i : Nat) : Stmt := PySem.Challenge.pw_sherdhall_k80_whole_as_few_rounds_as_can.main.body.getD i (.Pass ⟨0, 0, 0, 0⟩)
abbrev s_shares_of : Stmt := top 2
theorem sc_shares_of : FnScope ["moves", "found", "ticket", "place", "one", "to"] ["moves"] (defScope s_shares_of) := ⟨rfl, rfl, rfl, by decide +kernel, rfl, by decide +kernel, by decide +kernel⟩
abbrev N_shares_of : List Str := ["moves", "found", "ticket", "place", "one", "to"]
abbrev s_neck : Stmt := top 3
theorem sc_neck : FnScope ["moves", "many", "fall", "house", "side", "key", "number"] ["moves"] (defScope s_neck) := ⟨rfl, rfl, rfl, by decide +kernel, rfl, by decide +kernel, by decide +kernel⟩
abbrev N_neck : List Str := ["moves", "many", "fall", "house", "side", "key", "number"]
abbrev s_free_colour : Stmt := top 4
theorem sc_free_colour : FnScope ["used", "end", "colour"] ["used", "end"] (defScope s_free_colour) := ⟨rfl, rfl, rfl, by decide +kernel, rfl, by decide +kernel, by decide +kernel⟩
abbrev N_free_colour : List Str := ["used", "end", "colour"]
abbrev s_swap_chain : Stmt := top 5
theorem sc_swap_chain : FnScope ["used", "colours", "ends", "end", "pair", "chain", "colour", "at", "one"] ["used", "colours", "ends", "end", "pair"] (defScope s_swap_chain) := ⟨rfl, rfl, rfl, by decide +kernel, rfl, by decide +kernel, by decide +kernel⟩
abbrev N_swap_chain : List Str := ["used", "colours", "ends", "end", "pair", "chain", "colour", "at", "one"]
abbrev s_colours_of : Stmt := top 6
theorem sc_colours_of : FnScope ["moves", "at", "givers", "ends", "colours", "used", "one", "other", "first", "second", "move", "giver"] ["moves"] (defScope s_colours_of) := ⟨rfl, rfl, rfl, by decide +kernel, rfl, by decide +kernel, by decide +kernel⟩
abbrev N_colours_of : List Str := ["moves", "at", "givers", "ends", "colours", "used", "one", "other", "first", "second", "move", "giver"]
abbrev s_rounds : Stmt := top 7
theorem sc_rounds : FnScope ["moves", "lanes", "found", "move", "colour"] ["moves", "lanes"] (defScope s_rounds) := ⟨rfl, rfl, rfl, by decide +kernel, rfl, by decide +kernel, by decide +kernel⟩
abbrev N_rounds : List Str := ["moves", "lanes", "found", "move", "colour"]
abbrev s_w_cell_at : Stmt := top 9
theorem sc_w_cell_at : FnScope ["script", "k"] ["script", "k"] (defScope s_w_cell_at) := ⟨rfl, rfl, rfl, by decide +kernel, rfl, by decide +kernel, by decide +kernel⟩
abbrev N_w_cell_at : List Str := ["script", "k"]
abbrev s_w_pot : Stmt := top 10
theorem sc_w_pot : FnScope ["cell"] ["cell"] (defScope s_w_pot) := ⟨rfl, rfl, rfl, by decide +kernel, rfl, by decide +kernel, by decide +kernel⟩
abbrev N_w_pot : List Str := ["cell"]
abbrev s_w_pick : Stmt := top 11
theorem sc_w_pick : FnScope ["pot", "many", "found", "mixed"] ["pot", "many"] (defScope s_w_pick) := ⟨rfl, rfl, rfl, by decide +kernel, rfl, by decide +kernel, by decide +kernel⟩
abbrev N_w_pick : List Str := ["pot", "many", "found", "mixed"]
abbrev s_w_name : Stmt := top 12
theorem sc_w_name : FnScope ["pot", "letters", "size", "k"] ["pot"] (defScope s_w_name) := ⟨rfl, rfl, rfl, by decide +kernel, rfl, by decide +kernel, by decide +kernel⟩
abbrev N_w_name : List Str := ["pot", "letters", "size", "k"]
abbrev s_w_names : Stmt := top 13
theorem sc_w_names : FnScope ["pot", "many", "letters", "way", "found", "k", "one", "old", "spot"] ["pot", "many"] (defScope s_w_names) := ⟨rfl, rfl, rfl, by decide +kernel, rfl, by decide +kernel, by decide +kernel⟩
abbrev N_w_names : List Str := ["pot", "many", "letters", "way", "found", "k", "one", "old", "spot"]
abbrev s_w_mixed : Stmt := top 14
theorem sc_w_mixed : FnScope ["pot", "some", "left", "k"] ["pot", "some"] (defScope s_w_mixed) := ⟨rfl, rfl, rfl, by decide +kernel, rfl, by decide +kernel, by decide +kernel⟩
abbrev N_w_mixed : List Str := ["pot", "some", "left", "k"]
abbrev s_w_steps : Stmt := top 15
theorem sc_w_steps : FnScope ["pot", "most", "names", "found", "k", "one", "to", "step"] ["pot", "most"] (defScope s_w_steps) := ⟨rfl, rfl, rfl, by decide +kernel, rfl, by decide +kernel, by decide +kernel⟩
abbrev N_w_steps : List Str := ["pot", "most", "names", "found", "k", "one", "to", "step"]
abbrev s_w_neck : Stmt := top 16
theorem sc_w_neck : FnScope ["steps", "best", "house", "side", "spot", "many", "step"] ["steps"] (defScope s_w_neck) := ⟨rfl, rfl, rfl, by decide +kernel, rfl, by decide +kernel, by decide +kernel⟩
abbrev N_w_neck : List Str := ["steps", "best", "house", "side", "spot", "many", "step"]
abbrev s_w_good : Stmt := top 17
theorem sc_w_good : FnScope ["steps", "found", "wide", "one", "spots", "most", "top", "step"] ["steps", "found", "wide"] (defScope s_w_good) := ⟨rfl, rfl, rfl, by decide +kernel, rfl, by decide +kernel, by decide +kernel⟩
abbrev N_w_good : List Str := ["steps", "found", "wide", "one", "spots", "most", "top", "step"]
abbrev s_w_right : Stmt := top 18
theorem sc_w_right : FnScope ["pot", "wide", "steps", "handed", "told", "found", "one", "kept"] ["pot"] (defScope s_w_right) := ⟨rfl, rfl, rfl, by decide +kernel, rfl, by decide +kernel, by decide +kernel⟩
abbrev N_w_right : List Str := ["pot", "wide", "steps", "handed", "told", "found", "one", "kept"]
abbrev s_law : Stmt := top 19
theorem sc_law : FnScope ["script", "k"] ["script"] (defScope s_law) := ⟨rfl, rfl, rfl, by decide +kernel, rfl, by decide +kernel, by decide +kernel⟩
abbrev N_law : List Str := ["script", "k"]
def d_shares_of : He.DefD := ⟨("shares_of", none), "shares_of", "shares_of", defArgs s_shares_of, defBody s_shares_of, defScope s_shares_of, [], []⟩
def d_neck : He.DefD := ⟨("neck", none), "neck", "neck", defArgs s_neck, defBody s_neck, defScope s_neck, [], []⟩
def d_free_colour : He.DefD := ⟨("free_colour", none), "free_colour", "free_colour", defArgs s_free_colour, defBody s_free_colour, defScope s_free_colour, [], []⟩
def d_swap_chain : He.DefD := ⟨("swap_chain", none), "swap_chain", "swap_chain", defArgs s_swap_chain, defBody s_swap_chain, defScope s_swap_chain, [], []⟩
def d_colours_of : He.DefD := ⟨("colours_of", none), "colours_of", "colours_of", defArgs s_colours_of, defBody s_colours_of, defScope s_colours_of, [], []⟩
def d_rounds : He.DefD := ⟨("rounds", none), "rounds", "rounds", defArgs s_rounds, defBody s_rounds, defScope s_rounds, [], [("lanes", .int 2)]⟩
def d_w_cell_at : He.DefD := ⟨("_law_cell_at", none), "_law_cell_at", "_law_cell_at", defArgs s_w_cell_at, defBody s_w_cell_at, defScope s_w_cell_at, [], []⟩
def d_w_pot : He.DefD := ⟨("_law_pot", none), "_law_pot", "_law_pot", defArgs s_w_pot, defBody s_w_pot, defScope s_w_pot, [], []⟩
def d_w_pick : He.DefD := ⟨("_law_pick", none), "_law_pick", "_law_pick", defArgs s_w_pick, defBody s_w_pick, defScope s_w_pick, [], []⟩
def d_w_name : He.DefD := ⟨("_law_name", none), "_law_name", "_law_name", defArgs s_w_name, defBody s_w_name, defScope s_w_name, [], []⟩
def d_w_names : He.DefD := ⟨("_law_names", none), "_law_names", "_law_names", defArgs s_w_names, defBody s_w_names, defScope s_w_names, [], []⟩
def d_w_mixed : He.DefD := ⟨("_law_mixed", none), "_law_mixed", "_law_mixed", defArgs s_w_mixed, defBody s_w_mixed, defScope s_w_mixed, [], []⟩
def d_w_steps : He.DefD := ⟨("_law_steps", none), "_law_steps", "_law_steps", defArgs s_w_steps, defBody s_w_steps, defScope s_w_steps, [], []⟩
def d_w_neck : He.DefD := ⟨("_law_neck", none), "_law_neck", "_law_neck", defArgs s_w_neck, defBody s_w_neck, defScope s_w_neck, [], []⟩
def d_w_good : He.DefD := ⟨("_law_good", none), "_law_good", "_law_good", defArgs s_w_good, defBody s_w_good, defScope s_w_good, [], []⟩
def d_w_right : He.DefD := ⟨("_law_right", none), "_law_right", "_law_right", defArgs s_w_right, defBody s_w_right, defScope s_w_right, [], []⟩
def d_law : He.DefD := ⟨("law", none), "law", "law", defArgs s_law, defBody s_law, defScope s_law, [], []⟩
def fn : List He.DefD := [d_shares_of, d_neck, d_free_colour, d_swap_chain, d_colours_of, d_rounds, d_w_cell_at, d_w_pot, d_w_pick, d_w_name, d_w_names, d_w_mixed, d_w_steps, d_w_neck, d_w_good, d_w_right, d_law]
def ck : List (PySem.W.Frag → Bool) := [fun K => He.Fa.ok K (.glo "shares_of"),
  fun K => He.Fa.ok K (.glo "neck"),
  fun K => He.Fa.ok K (.glo "free_colour"),
  fun K => He.Fa.ok K (.glo "swap_chain"),
  fun K => He.Fa.ok K (.glo "colours_of"),
  fun K => He.Fa.ok K (.glo "rounds"),
  fun K => He.Fa.ok K (.glo "_law_cell_at"),
  fun K => He.Fa.ok K (.glo "_law_pot"),
  fun K => He.Fa.ok K (.glo "_law_pick"),
  fun K => He.Fa.ok K (.glo "_law_name"),
  fun K => He.Fa.ok K (.glo "_law_names"),
  fun K => He.Fa.ok K (.glo "_law_mixed"),
  fun K => He.Fa.ok K (.glo "_law_steps"),
  fun K => He.Fa.ok K (.glo "_law_neck"),
  fun K => He.Fa.ok K (.glo "_law_good"),
  fun K => He.Fa.ok K (.glo "_law_right"),
  fun K => He.Fa.ok K (.glo "law"),
  fun K => He.Fa.ok K (.free "len"),
  fun K => He.Fa.ok K (.free "max"),
  fun K => He.Fa.ok K (.free "min"),
  fun K => He.Fa.ok K (.free "range"),
  fun K => He.Fa.ok K (.free "list"),
  fun K => He.Fa.ok K (.free "isinstance"),
  fun K => He.Fa.ok K (.free "int"),
  fun K => He.Fa.ok K (.free "bool"),
  fun K => He.Fa.ok K (.free "all"),
  fun K => He.Fa.ok K (.free "any"),
  fun K => He.Fa.ok K (.free "enumerate"),
  fun K => He.Fa.ok K (.free "zip"),
  fun K => He.Fa.ok K (.free "sum"),
  fun K => He.Fa.ok K (.free "sorted"),
  fun K => He.Fa.ok K (.free "set"),
  fun K => He.Fa.ok K (.free "tuple"),
  fun K => He.Fa.ok K (.int "LANES" 2)]
structure Ctx (K : PySem.W.Frag) (mg : Str → Option Value) : Prop where
  ex : ∃ h : Heap, K.In h ∧ h.Ns mainGlobals mg
  c : SaysX ck fn K
section
variable {K : PySem.W.Frag} {mg : Str → Option Value}
theorem gl_shares_of (C : Ctx K mg) : mg "shares_of" = some (.ref (He.ga K "shares_of")) := let ⟨_, X, G⟩ := C.ex; He.glo_ok X G (C.c.fact 0 rfl)
theorem gl_neck (C : Ctx K mg) : mg "neck" = some (.ref (He.ga K "neck")) := let ⟨_, X, G⟩ := C.ex; He.glo_ok X G (C.c.fact 1 rfl)
theorem gl_free_colour (C : Ctx K mg) : mg "free_colour" = some (.ref (He.ga K "free_colour")) := let ⟨_, X, G⟩ := C.ex; He.glo_ok X G (C.c.fact 2 rfl)
theorem gl_swap_chain (C : Ctx K mg) : mg "swap_chain" = some (.ref (He.ga K "swap_chain")) := let ⟨_, X, G⟩ := C.ex; He.glo_ok X G (C.c.fact 3 rfl)
theorem gl_colours_of (C : Ctx K mg) : mg "colours_of" = some (.ref (He.ga K "colours_of")) := let ⟨_, X, G⟩ := C.ex; He.glo_ok X G (C.c.fact 4 rfl)
theorem gl_rounds (C : Ctx K mg) : mg "rounds" = some (.ref (He.ga K "rounds")) := let ⟨_, X, G⟩ := C.ex; He.glo_ok X G (C.c.fact 5 rfl)
theorem gl_w_cell_at (C : Ctx K mg) : mg "_law_cell_at" = some (.ref (He.ga K "_law_cell_at")) := let ⟨_, X, G⟩ := C.ex; He.glo_ok X G (C.c.fact 6 rfl)
theorem gl_w_pot (C : Ctx K mg) : mg "_law_pot" = some (.ref (He.ga K "_law_pot")) := let ⟨_, X, G⟩ := C.ex; He.glo_ok X G (C.c.fact 7 rfl)
theorem gl_w_pick (C : Ctx K mg) : mg "_law_pick" = some (.ref (He.ga K "_law_pick")) := let ⟨_, X, G⟩ := C.ex; He.glo_ok X G (C.c.fact 8 rfl)
theorem gl_w_name (C : Ctx K mg) : mg "_law_name" = some (.ref (He.ga K "_law_name")) := let ⟨_, X, G⟩ := C.ex; He.glo_ok X G (C.c.fact 9 rfl)
theorem gl_w_names (C : Ctx K mg) : mg "_law_names" = some (.ref (He.ga K "_law_names")) := let ⟨_, X, G⟩ := C.ex; He.glo_ok X G (C.c.fact 10 rfl)
theorem gl_w_mixed (C : Ctx K mg) : mg "_law_mixed" = some (.ref (He.ga K "_law_mixed")) := let ⟨_, X, G⟩ := C.ex; He.glo_ok X G (C.c.fact 11 rfl)
theorem gl_w_steps (C : Ctx K mg) : mg "_law_steps" = some (.ref (He.ga K "_law_steps")) := let ⟨_, X, G⟩ := C.ex; He.glo_ok X G (C.c.fact 12 rfl)
theorem gl_w_neck (C : Ctx K mg) : mg "_law_neck" = some (.ref (He.ga K "_law_neck")) := let ⟨_, X, G⟩ := C.ex; He.glo_ok X G (C.c.fact 13 rfl)
theorem gl_w_good (C : Ctx K mg) : mg "_law_good" = some (.ref (He.ga K "_law_good")) := let ⟨_, X, G⟩ := C.ex; He.glo_ok X G (C.c.fact 14 rfl)
theorem gl_w_right (C : Ctx K mg) : mg "_law_right" = some (.ref (He.ga K "_law_right")) := let ⟨_, X, G⟩ := C.ex; He.glo_ok X G (C.c.fact 15 rfl)
theorem gl_law (C : Ctx K mg) : mg "law" = some (.ref (He.ga K "law")) := let ⟨_, X, G⟩ := C.ex; He.glo_ok X G (C.c.fact 16 rfl)
theorem fr_len (C : Ctx K mg) : mg "len" = none := let ⟨_, X, G⟩ := C.ex; He.free_ok X G (C.c.fact 17 rfl)
theorem fr_max (C : Ctx K mg) : mg "max" = none := let ⟨_, X, G⟩ := C.ex; He.free_ok X G (C.c.fact 18 rfl)
theorem fr_min (C : Ctx K mg) : mg "min" = none := let ⟨_, X, G⟩ := C.ex; He.free_ok X G (C.c.fact 19 rfl)
theorem fr_range (C : Ctx K mg) : mg "range" = none := let ⟨_, X, G⟩ := C.ex; He.free_ok X G (C.c.fact 20 rfl)
theorem fr_list (C : Ctx K mg) : mg "list" = none := let ⟨_, X, G⟩ := C.ex; He.free_ok X G (C.c.fact 21 rfl)
theorem fr_isinstance (C : Ctx K mg) : mg "isinstance" = none := let ⟨_, X, G⟩ := C.ex; He.free_ok X G (C.c.fact 22 rfl)
theorem fr_int (C : Ctx K mg) : mg "int" = none := let ⟨_, X, G⟩ := C.ex; He.free_ok X G (C.c.fact 23 rfl)
theorem fr_bool (C : Ctx K mg) : mg "bool" = none := let ⟨_, X, G⟩ := C.ex; He.free_ok X G (C.c.fact 24 rfl)
theorem fr_all (C : Ctx K mg) : mg "all" = none := let ⟨_, X, G⟩ := C.ex; He.free_ok X G (C.c.fact 25 rfl)
theorem fr_any (C : Ctx K mg) : mg "any" = none := let ⟨_, X, G⟩ := C.ex; He.free_ok X G (C.c.fact 26 rfl)
theorem fr_enumerate (C : Ctx K mg) : mg "enumerate" = none := let ⟨_, X, G⟩ := C.ex; He.free_ok X G (C.c.fact 27 rfl)
theorem fr_zip (C : Ctx K mg) : mg "zip" = none := let ⟨_, X, G⟩ := C.ex; He.free_ok X G (C.c.fact 28 rfl)
theorem fr_sum (C : Ctx K mg) : mg "sum" = none := let ⟨_, X, G⟩ := C.ex; He.free_ok X G (C.c.fact 29 rfl)
theorem fr_sorted (C : Ctx K mg) : mg "sorted" = none := let ⟨_, X, G⟩ := C.ex; He.free_ok X G (C.c.fact 30 rfl)
theorem fr_set (C : Ctx K mg) : mg "set" = none := let ⟨_, X, G⟩ := C.ex; He.free_ok X G (C.c.fact 31 rfl)
theorem fr_tuple (C : Ctx K mg) : mg "tuple" = none := let ⟨_, X, G⟩ := C.ex; He.free_ok X G (C.c.fact 32 rfl)
theorem ct_LANES (C : Ctx K mg) : ∃ t, mg "LANES" = some (.int 2 t) := let ⟨_, X, G⟩ := C.ex; He.int_ok X G (C.c.fact 33 rfl)
theorem fn_shares_of (C : Ctx K mg) : ∃ fd, FunD K "shares_of" "shares_of" (defArgs s_shares_of) (defBody s_shares_of) (defScope s_shares_of) (d_shares_of.dvs K) (d_shares_of.kws K) (He.fAd K ("shares_of", none)) fd := C.c.def_ 0 (d := d_shares_of) rfl
theorem fn_neck (C : Ctx K mg) : ∃ fd, FunD K "neck" "neck" (defArgs s_neck) (defBody s_neck) (defScope s_neck) (d_neck.dvs K) (d_neck.kws K) (He.fAd K ("neck", none)) fd := C.c.def_ 1 (d := d_neck) rfl
theorem fn_free_colour (C : Ctx K mg) : ∃ fd, FunD K "free_colour" "free_colour" (defArgs s_free_colour) (defBody s_free_colour) (defScope s_free_colour) (d_free_colour.dvs K) (d_free_colour.kws K) (He.fAd K ("free_colour", none)) fd := C.c.def_ 2 (d := d_free_colour) rfl
theorem fn_swap_chain (C : Ctx K mg) : ∃ fd, FunD K "swap_chain" "swap_chain" (defArgs s_swap_chain) (defBody s_swap_chain) (defScope s_swap_chain) (d_swap_chain.dvs K) (d_swap_chain.kws K) (He.fAd K ("swap_chain", none)) fd := C.c.def_ 3 (d := d_swap_chain) rfl
theorem fn_colours_of (C : Ctx K mg) : ∃ fd, FunD K "colours_of" "colours_of" (defArgs s_colours_of) (defBody s_colours_of) (defScope s_colours_of) (d_colours_of.dvs K) (d_colours_of.kws K) (He.fAd K ("colours_of", none)) fd := C.c.def_ 4 (d := d_colours_of) rfl
theorem fn_rounds (C : Ctx K mg) : ∃ fd, FunD K "rounds" "rounds" (defArgs s_rounds) (defBody s_rounds) (defScope s_rounds) (d_rounds.dvs K) (d_rounds.kws K) (He.fAd K ("rounds", none)) fd := C.c.def_ 5 (d := d_rounds) rfl
theorem fn_w_cell_at (C : Ctx K mg) : ∃ fd, FunD K "_law_cell_at" "_law_cell_at" (defArgs s_w_cell_at) (defBody s_w_cell_at) (defScope s_w_cell_at) (d_w_cell_at.dvs K) (d_w_cell_at.kws K) (He.fAd K ("_law_cell_at", none)) fd := C.c.def_ 6 (d := d_w_cell_at) rfl
theorem fn_w_pot (C : Ctx K mg) : ∃ fd, FunD K "_law_pot" "_law_pot" (defArgs s_w_pot) (defBody s_w_pot) (defScope s_w_pot) (d_w_pot.dvs K) (d_w_pot.kws K) (He.fAd K ("_law_pot", none)) fd := C.c.def_ 7 (d := d_w_pot) rfl
theorem fn_w_pick (C : Ctx K mg) : ∃ fd, FunD K "_law_pick" "_law_pick" (defArgs s_w_pick) (defBody s_w_pick) (defScope s_w_pick) (d_w_pick.dvs K) (d_w_pick.kws K) (He.fAd K ("_law_pick", none)) fd := C.c.def_ 8 (d := d_w_pick) rfl
theorem fn_w_name (C : Ctx K mg) : ∃ fd, FunD K "_law_name" "_law_name" (defArgs s_w_name) (defBody s_w_name) (defScope s_w_name) (d_w_name.dvs K) (d_w_name.kws K) (He.fAd K ("_law_name", none)) fd := C.c.def_ 9 (d := d_w_name) rfl
theorem fn_w_names (C : Ctx K mg) : ∃ fd, FunD K "_law_names" "_law_names" (defArgs s_w_names) (defBody s_w_names) (defScope s_w_names) (d_w_names.dvs K) (d_w_names.kws K) (He.fAd K ("_law_names", none)) fd := C.c.def_ 10 (d := d_w_names) rfl
theorem fn_w_mixed (C : Ctx K mg) : ∃ fd, FunD K "_law_mixed" "_law_mixed" (defArgs s_w_mixed) (defBody s_w_mixed) (defScope s_w_mixed) (d_w_mixed.dvs K) (d_w_mixed.kws K) (He.fAd K ("_law_mixed", none)) fd := C.c.def_ 11 (d := d_w_mixed) rfl
theorem fn_w_steps (C : Ctx K mg) : ∃ fd, FunD K "_law_steps" "_law_steps" (defArgs s_w_steps) (defBody s_w_steps) (defScope s_w_steps) (d_w_steps.dvs K) (d_w_steps.kws K) (He.fAd K ("_law_steps", none)) fd := C.c.def_ 12 (d := d_w_steps) rfl
theorem fn_w_neck (C : Ctx K mg) : ∃ fd, FunD K "_law_neck" "_law_neck" (defArgs s_w_neck) (defBody s_w_neck) (defScope s_w_neck) (d_w_neck.dvs K) (d_w_neck.kws K) (He.fAd K ("_law_neck", none)) fd := C.c.def_ 13 (d := d_w_neck) rfl
theorem fn_w_good (C : Ctx K mg) : ∃ fd, FunD K "_law_good" "_law_good" (defArgs s_w_good) (defBody s_w_good) (defScope s_w_good) (d_w_good.dvs K) (d_w_good.kws K) (He.fAd K ("_law_good", none)) fd := C.c.def_ 14 (d := d_w_good) rfl
theorem fn_w_right (C : Ctx K mg) : ∃ fd, FunD K "_law_right" "_law_right" (defArgs s_w_right) (defBody s_w_right) (defScope s_w_right) (d_w_right.dvs K) (d_w_right.kws K) (He.fAd K ("_law_right", none)) fd := C.c.def_ 15 (d := d_w_right) rfl
theorem fn_law (C : Ctx K mg) : ∃ fd, FunD K "law" "law" (defArgs s_law) (defBody s_law) (defScope s_law) (d_law.dvs K) (d_law.kws K) (He.fAd K ("law", none)) fd := C.c.def_ 16 (d := d_law) rfl
end

end My
namespace My
open PySem PySem.Spec PyProof.Rows L2
/-! the law's draws -/
def sp_w_cell_at (K : PySem.W.Frag) : Sp := fun vs H Q _ => ∃ (a : Addr) (ns : List Int) (k : Nat), vs = [.ref a, .int k] ∧ SqL K H a (ns.map V.int) ∧ ∀ z, Q (.int z) H
def sp_w_pot : Sp := fun vs H Q _ => ∃ (z : Int), vs = [.int z] ∧ ∀ a H', H a = none → Step [] H H' → PotAt H' a 0 → Q (.ref a) H'
def sp_w_pick : Sp := fun vs H Q _ => ∃ (a : Addr) (n : Int) (c : Nat), vs = [.ref a, .int n] ∧ 0 < n ∧ n < 2 ^ 128 ∧ PotAt H a c ∧ c < 2 ^ 60 ∧ ∀ (r : Int) H', 0 ≤ r → r < n → Step [a] H H' → PotAt H' a (c + 1) → Q (.int r) H'
theorem go_pick {H : Hp} {Q : VK} {E : XK} {a : Addr} {n : Int} {c : Nat} (hp : PotAt H a c) (h0 : 0 < n) (h1 : n < 2 ^ 128) (hc : c < 2 ^ 60) (q : ∀ (r : Int) H', 0 ≤ r → r < n → Step [a] H H' → PotAt H' a (c + 1) → Q (.int r) H') : sp_w_pick [.ref a, .int n] H Q E := ⟨a, n, c, rfl, h0, h1, hp, hc, q⟩
section
variable {P : Program} {w : World} {K : PySem.W.Frag} {mg : Str → Option Value} {base : Heap}
theorem ok_w_cell_at (C : Ctx K mg) : Has P w K mg base CX0 1 "_law_cell_at" ["script", "k"] (sp_w_cell_at K) := by
  obtain ⟨fd, F⟩ := fn_w_cell_at C
  refine ⟨⟨_, fd, ?_, gl_w_cell_at C, F.kp, F.bindsN fun _ _ _ _ _ _ us hl => match us, hl with | [_, _], _ => rfl⟩⟩
  refine F.ok (CX := CX0) sc_w_cell_at (fun vs H Q E h => ?_) (fun cdv A outer s H vs Q E hr h => ?_)
  · first | (obtain ⟨_, rfl, _⟩ := h; rfl; done) | (obtain ⟨_, _, rfl, _⟩ := h; rfl; done) | (obtain ⟨_, _, _, rfl, _⟩ := h; rfl; done) | (obtain ⟨_, _, _, _, rfl, _⟩ := h; rfl; done) | (obtain ⟨_, _, _, _, _, rfl, _⟩ := h; rfl; done) | (obtain ⟨_, _, _, _, _, _, rfl, _⟩ := h; rfl; done) | (obtain ⟨_, _, _, _, _, _, _, rfl, _⟩ := h; rfl; done) | (obtain ⟨_, _, _, _, _, _, _, _, rfl, _⟩ := h; rfl; done) | (obtain ⟨_, _, _, _, _, _, _, _, _, rfl, _⟩ := h; rfl; done) | (obtain ⟨_, _, _, _, _, _, _, _, _, _, rfl, _⟩ := h; rfl; done) | (obtain ⟨_, _, _, _, _, _, _, _, _, _, _, rfl, _⟩ := h; rfl; done) | (obtain ⟨_, _, _, _, _, _, _, _, _, _, _, _, rfl, _⟩ := h; rfl; done) | (obtain ⟨_, _, _, _, _, _, _, _, _, _, _, _, _, rfl, _⟩ := h; rfl; done) | (obtain ⟨_, _, _, _, _, _, _, _, _, _, _, _, _, _, rfl, _⟩ := h; rfl; done) | (obtain ⟨_, _, _, _, _, _, _, _, _, _, _, _, _, _, _, rfl, _⟩ := h; rfl; done) | (obtain ⟨_, _, _, _, _, _, _, _, _, _, _, _, _, _, _, _, rfl, _⟩ := h; rfl; done) | (obtain ⟨_, _, _, _, _, _, _, _, _, _, _, _, _, _, _, _, _, rfl, _⟩ := h; rfl; done) | (obtain ⟨_, _, _, _, _, _, _, _, _, _, _, _, _, _, _, _, _, _, rfl, _⟩ := h; rfl; done) | (obtain ⟨_, _, _, _, _, _, _, _, _, _, _, _, _, _, _, _, _, _, _, rfl, _⟩ := h; rfl; done) | (obtain ⟨_, _, _, _, _, _, _, _, _, _, _, _, _, _, _, _, _, _, _, _, rfl, _⟩ := h; rfl; done) | (obtain ⟨_, _, _, _, _, _, _, _, _, _, _, _, _, _, _, _, _, _, _, _, _, rfl, _⟩ := h; rfl; done) | (rcases h with h | h <;> first | (obtain ⟨_, rfl, _⟩ := h; rfl; done) | (obtain ⟨_, _, rfl, _⟩ := h; rfl; done) | (obtain ⟨_, _, _, rfl, _⟩ := h; rfl; done) | (obtain ⟨_, _, _, _, rfl, _⟩ := h; rfl; done) | (obtain ⟨_, _, _, _, _, rfl, _⟩ := h; rfl; done) | (obtain ⟨_, _, _, _, _, _, rfl, _⟩ := h; rfl; done) | (obtain ⟨_, _, _, _, _, _, _, rfl, _⟩ := h; rfl; done) | (obtain ⟨_, _, _, _, _, _, _, _, rfl, _⟩ := h; rfl; done) | (obtain ⟨_, _, _, _, _, _, _, _, _, rfl, _⟩ := h; rfl; done) | (obtain ⟨_, _, _, _, _, _, _, _, _, _, rfl, _⟩ := h; rfl; done) | (obtain ⟨_, _, _, _, _, _, _, _, _, _, _, rfl, _⟩ := h; rfl; done) | (obtain ⟨_, _, _, _, _, _, _, _, _, _, _, _, rfl, _⟩ := h; rfl; done) | (obtain ⟨_, _, _, _, _, _, _, _, _, _, _, _, _, rfl, _⟩ := h; rfl; done) | (obtain ⟨_, _, _, _, _, _, _, _, _, _, _, _, _, _, rfl, _⟩ := h; rfl; done) | (obtain ⟨_, _, _, _, _, _, _, _, _, _, _, _, _, _, _, rfl, _⟩ := h; rfl; done) | (obtain ⟨_, _, _, _, _, _, _, _, _, _, _, _, _, _, _, _, rfl, _⟩ := h; rfl; done) | (obtain ⟨_, _, _, _, _, _, _, _, _, _, _, _, _, _, _, _, _, rfl, _⟩ := h; rfl; done) | (obtain ⟨_, _, _, _, _, _, _, _, _, _, _, _, _, _, _, _, _, _, rfl, _⟩ := h; rfl; done) | (obtain ⟨_, _, _, _, _, _, _, _, _, _, _, _, _, _, _, _, _, _, _, rfl, _⟩ := h; rfl; done) | (obtain ⟨_, _, _, _, _, _, _, _, _, _, _, _, _, _, _, _, _, _, _, _, rfl, _⟩ := h; rfl; done) | (obtain ⟨_, _, _, _, _, _, _, _, _, _, _, _, _, _, _, _, _, _, _, _, _, rfl, _⟩ := h; rfl; done))
  have hu := hu_of hr
  refine ⟨_, PSs.nox (pss_cons (ps_if (pt_cmpR op_lt (pv 1) (pe_callB cr_lenL (by rfl) (fr_len C) PySem.boot_len (pa_cons (pv 0) pa_nil)) (nomark _)) (pss_one (ps_ret (pe_ix ix_list (pv 0) (pv 1) (fun _ _ => rfl)))) pss_nil)
    (pss_one (ps_ret pe_int))), ?_⟩
  obtain ⟨a, ns, k, rfl, hS, q⟩ := h
  walk_at "go"
  refine g_ite (fun hk => ?_) (fun hk => ?_)
  · walk_at "go"
    rw [List.length_map] at hk
    exact g_ixLK hS (at_nat (by rw [List.getElem?_map, List.getElem?_eq_getElem (by omega : k < ns.length)]; rfl)) (q _)
  · walk_at "go"
    exact q _
theorem ok_w_pot (C : Ctx K mg) : Has P w K mg base CX0 1 "_law_pot" ["cell"] sp_w_pot := by
  obtain ⟨fd, F⟩ := fn_w_pot C
  refine ⟨⟨_, fd, ?_, gl_w_pot C, F.kp, F.bindsN fun _ _ _ _ _ _ us hl => match us, hl with | [_], _ => rfl⟩⟩
  refine F.ok (CX := CX0) sc_w_pot (fun vs H Q E h => ?_) (fun cdv A outer s H vs Q E hr h => ?_)
  · first | (obtain ⟨_, rfl, _⟩ := h; rfl; done) | (obtain ⟨_, _, rfl, _⟩ := h; rfl; done) | (obtain ⟨_, _, _, rfl, _⟩ := h; rfl; done) | (obtain ⟨_, _, _, _, rfl, _⟩ := h; rfl; done) | (obtain ⟨_, _, _, _, _, rfl, _⟩ := h; rfl; done) | (obtain ⟨_, _, _, _, _, _, rfl, _⟩ := h; rfl; done) | (obtain ⟨_, _, _, _, _, _, _, rfl, _⟩ := h; rfl; done) | (obtain ⟨_, _, _, _, _, _, _, _, rfl, _⟩ := h; rfl; done) | (obtain ⟨_, _, _, _, _, _, _, _, _, rfl, _⟩ := h; rfl; done) | (obtain ⟨_, _, _, _, _, _, _, _, _, _, rfl, _⟩ := h; rfl; done) | (obtain ⟨_, _, _, _, _, _, _, _, _, _, _, rfl, _⟩ := h; rfl; done) | (obtain ⟨_, _, _, _, _, _, _, _, _, _, _, _, rfl, _⟩ := h; rfl; done) | (obtain ⟨_, _, _, _, _, _, _, _, _, _, _, _, _, rfl, _⟩ := h; rfl; done) | (obtain ⟨_, _, _, _, _, _, _, _, _, _, _, _, _, _, rfl, _⟩ := h; rfl; done) | (obtain ⟨_, _, _, _, _, _, _, _, _, _, _, _, _, _, _, rfl, _⟩ := h; rfl; done) | (obtain ⟨_, _, _, _, _, _, _, _, _, _, _, _, _, _, _, _, rfl, _⟩ := h; rfl; done) | (obtain ⟨_, _, _, _, _, _, _, _, _, _, _, _, _, _, _, _, _, rfl, _⟩ := h; rfl; done) | (obtain ⟨_, _, _, _, _, _, _, _, _, _, _, _, _, _, _, _, _, _, rfl, _⟩ := h; rfl; done) | (obtain ⟨_, _, _, _, _, _, _, _, _, _, _, _, _, _, _, _, _, _, _, rfl, _⟩ := h; rfl; done) | (obtain ⟨_, _, _, _, _, _, _, _, _, _, _, _, _, _, _, _, _, _, _, _, rfl, _⟩ := h; rfl; done) | (obtain ⟨_, _, _, _, _, _, _, _, _, _, _, _, _, _, _, _, _, _, _, _, _, rfl, _⟩ := h; rfl; done) | (rcases h with h | h <;> first | (obtain ⟨_, rfl, _⟩ := h; rfl; done) | (obtain ⟨_, _, rfl, _⟩ := h; rfl; done) | (obtain ⟨_, _, _, rfl, _⟩ := h; rfl; done) | (obtain ⟨_, _, _, _, rfl, _⟩ := h; rfl; done) | (obtain ⟨_, _, _, _, _, rfl, _⟩ := h; rfl; done) | (obtain ⟨_, _, _, _, _, _, rfl, _⟩ := h; rfl; done) | (obtain ⟨_, _, _, _, _, _, _, rfl, _⟩ := h; rfl; done) | (obtain ⟨_, _, _, _, _, _, _, _, rfl, _⟩ := h; rfl; done) | (obtain ⟨_, _, _, _, _, _, _, _, _, rfl, _⟩ := h; rfl; done) | (obtain ⟨_, _, _, _, _, _, _, _, _, _, rfl, _⟩ := h; rfl; done) | (obtain ⟨_, _, _, _, _, _, _, _, _, _, _, rfl, _⟩ := h; rfl; done) | (obtain ⟨_, _, _, _, _, _, _, _, _, _, _, _, rfl, _⟩ := h; rfl; done) | (obtain ⟨_, _, _, _, _, _, _, _, _, _, _, _, _, rfl, _⟩ := h; rfl; done) | (obtain ⟨_, _, _, _, _, _, _, _, _, _, _, _, _, _, rfl, _⟩ := h; rfl; done) | (obtain ⟨_, _, _, _, _, _, _, _, _, _, _, _, _, _, _, rfl, _⟩ := h; rfl; done) | (obtain ⟨_, _, _, _, _, _, _, _, _, _, _, _, _, _, _, _, rfl, _⟩ := h; rfl; done) | (obtain ⟨_, _, _, _, _, _, _, _, _, _, _, _, _, _, _, _, _, rfl, _⟩ := h; rfl; done) | (obtain ⟨_, _, _, _, _, _, _, _, _, _, _, _, _, _, _, _, _, _, rfl, _⟩ := h; rfl; done) | (obtain ⟨_, _, _, _, _, _, _, _, _, _, _, _, _, _, _, _, _, _, _, rfl, _⟩ := h; rfl; done) | (obtain ⟨_, _, _, _, _, _, _, _, _, _, _, _, _, _, _, _, _, _, _, _, rfl, _⟩ := h; rfl; done) | (obtain ⟨_, _, _, _, _, _, _, _, _, _, _, _, _, _, _, _, _, _, _, _, _, rfl, _⟩ := h; rfl; done))
  have hu := hu_of hr
  refine ⟨_, PSs.nox (pss_one (ps_ret (pe_lst (pa_cons (pe_callB (cr_max2 rfl) (by rfl) (fr_max C) (by decide +kernel) (pa_cons pe_int (pa_cons (pe_op op_sub (pv 0) (pe_op op_powP pe_int pe_int)) pa_nil))) (pa_cons (pe_op op_modP (pv 0) pe_int) (pa_cons pe_int pa_nil)))))), ?_⟩
  obtain ⟨z, rfl, q⟩ := h
  walk_at "go"
  intro p H2 hp st h2
  refine q p H2 hp st ⟨_, _, _, h2, by omega, Int.emod_nonneg _ (by decide), ?_, by omega, by omega⟩
  have := Int.emod_lt_of_pos z (show (0 : Int) < 170141183460469231731687303715884105727 by decide)
  omega
theorem ok_w_pick (C : Ctx K mg) : Has P w K mg base CX0 1 "_law_pick" ["pot", "many"] sp_w_pick := by
  obtain ⟨fd, F⟩ := fn_w_pick C
  refine ⟨⟨_, fd, ?_, gl_w_pick C, F.kp, F.bindsN fun _ _ _ _ _ _ us hl => match us, hl with | [_, _], _ => rfl⟩⟩
  refine F.ok (CX := CX0) sc_w_pick (fun vs H Q E h => ?_) (fun cdv A outer s H vs Q E hr h => ?_)
  · first | (obtain ⟨_, rfl, _⟩ := h; rfl; done) | (obtain ⟨_, _, rfl, _⟩ := h; rfl; done) | (obtain ⟨_, _, _, rfl, _⟩ := h; rfl; done) | (obtain ⟨_, _, _, _, rfl, _⟩ := h; rfl; done) | (obtain ⟨_, _, _, _, _, rfl, _⟩ := h; rfl; done) | (obtain ⟨_, _, _, _, _, _, rfl, _⟩ := h; rfl; done) | (obtain ⟨_, _, _, _, _, _, _, rfl, _⟩ := h; rfl; done) | (obtain ⟨_, _, _, _, _, _, _, _, rfl, _⟩ := h; rfl; done) | (obtain ⟨_, _, _, _, _, _, _, _, _, rfl, _⟩ := h; rfl; done) | (obtain ⟨_, _, _, _, _, _, _, _, _, _, rfl, _⟩ := h; rfl; done) | (obtain ⟨_, _, _, _, _, _, _, _, _, _, _, rfl, _⟩ := h; rfl; done) | (obtain ⟨_, _, _, _, _, _, _, _, _, _, _, _, rfl, _⟩ := h; rfl; done) | (obtain ⟨_, _, _, _, _, _, _, _, _, _, _, _, _, rfl, _⟩ := h; rfl; done) | (obtain ⟨_, _, _, _, _, _, _, _, _, _, _, _, _, _, rfl, _⟩ := h; rfl; done) | (obtain ⟨_, _, _, _, _, _, _, _, _, _, _, _, _, _, _, rfl, _⟩ := h; rfl; done) | (obtain ⟨_, _, _, _, _, _, _, _, _, _, _, _, _, _, _, _, rfl, _⟩ := h; rfl; done) | (obtain ⟨_, _, _, _, _, _, _, _, _, _, _, _, _, _, _, _, _, rfl, _⟩ := h; rfl; done) | (obtain ⟨_, _, _, _, _, _, _, _, _, _, _, _, _, _, _, _, _, _, rfl, _⟩ := h; rfl; done) | (obtain ⟨_, _, _, _, _, _, _, _, _, _, _, _, _, _, _, _, _, _, _, rfl, _⟩ := h; rfl; done) | (obtain ⟨_, _, _, _, _, _, _, _, _, _, _, _, _, _, _, _, _, _, _, _, rfl, _⟩ := h; rfl; done) | (obtain ⟨_, _, _, _, _, _, _, _, _, _, _, _, _, _, _, _, _, _, _, _, _, rfl, _⟩ := h; rfl; done) | (rcases h with h | h <;> first | (obtain ⟨_, rfl, _⟩ := h; rfl; done) | (obtain ⟨_, _, rfl, _⟩ := h; rfl; done) | (obtain ⟨_, _, _, rfl, _⟩ := h; rfl; done) | (obtain ⟨_, _, _, _, rfl, _⟩ := h; rfl; done) | (obtain ⟨_, _, _, _, _, rfl, _⟩ := h; rfl; done) | (obtain ⟨_, _, _, _, _, _, rfl, _⟩ := h; rfl; done) | (obtain ⟨_, _, _, _, _, _, _, rfl, _⟩ := h; rfl; done) | (obtain ⟨_, _, _, _, _, _, _, _, rfl, _⟩ := h; rfl; done) | (obtain ⟨_, _, _, _, _, _, _, _, _, rfl, _⟩ := h; rfl; done) | (obtain ⟨_, _, _, _, _, _, _, _, _, _, rfl, _⟩ := h; rfl; done) | (obtain ⟨_, _, _, _, _, _, _, _, _, _, _, rfl, _⟩ := h; rfl; done) | (obtain ⟨_, _, _, _, _, _, _, _, _, _, _, _, rfl, _⟩ := h; rfl; done) | (obtain ⟨_, _, _, _, _, _, _, _, _, _, _, _, _, rfl, _⟩ := h; rfl; done) | (obtain ⟨_, _, _, _, _, _, _, _, _, _, _, _, _, _, rfl, _⟩ := h; rfl; done) | (obtain ⟨_, _, _, _, _, _, _, _, _, _, _, _, _, _, _, rfl, _⟩ := h; rfl; done) | (obtain ⟨_, _, _, _, _, _, _, _, _, _, _, _, _, _, _, _, rfl, _⟩ := h; rfl; done) | (obtain ⟨_, _, _, _, _, _, _, _, _, _, _, _, _, _, _, _, _, rfl, _⟩ := h; rfl; done) | (obtain ⟨_, _, _, _, _, _, _, _, _, _, _, _, _, _, _, _, _, _, rfl, _⟩ := h; rfl; done) | (obtain ⟨_, _, _, _, _, _, _, _, _, _, _, _, _, _, _, _, _, _, _, rfl, _⟩ := h; rfl; done) | (obtain ⟨_, _, _, _, _, _, _, _, _, _, _, _, _, _, _, _, _, _, _, _, rfl, _⟩ := h; rfl; done) | (obtain ⟨_, _, _, _, _, _, _, _, _, _, _, _, _, _, _, _, _, _, _, _, _, rfl, _⟩ := h; rfl; done))
  have hu := hu_of hr
  refine ⟨_, PSs.nox (pss_cons (ps_if (pt_cmpR op_gt (pe_ix ix_list (pv 0) pe_int (fun _ _ => rfl)) pe_int (nomark _)) (pss_cons (ps_set (i := 2) sc_w_pick.nd rfl (Or.inl rfl) (pe_op op_modP (pe_ix ix_list (pv 0) pe_int (fun _ _ => rfl)) (pv 1)))
    (pss_cons (ps_asg (pe_op op_divP (pe_ix ix_list (pv 0) pe_int (fun _ _ => rfl)) (pv 1)) (pg_sub (pv 0) pe_int set_list))
    (pss_one (ps_ret (pv 2))))) pss_nil)
    (pss_cons (ps_asg (pe_op op_add (pe_ix ix_list (pv 0) pe_int (fun _ _ => rfl)) pe_int) (pg_sub (pv 0) pe_int set_list))
    (pss_cons (ps_set (i := 3) sc_w_pick.nd rfl (Or.inl rfl) (pe_op op_modP (pe_op op_powP (pe_op op_add (pe_op op_add (pe_ix ix_list (pv 0) pe_int (fun _ _ => rfl)) (pe_op op_mulP pe_int (pe_ix ix_list (pv 0) pe_int (fun _ _ => rfl)))) pe_int) pe_int) pe_int))
    (pss_cons (ps_set (i := 3) sc_w_pick.nd rfl (Or.inl rfl) (pe_op op_modP (pe_op op_powP (pe_op op_add (pv 3) (pe_op op_mulP pe_int (pe_ix ix_list (pv 0) pe_int (fun _ _ => rfl)))) pe_int) pe_int))
    (pss_one (ps_ret (pe_op op_modP (pe_op op_divP (pv 3) pe_int) (pv 1)))))))), ?_⟩
  obtain ⟨a, n, c, rfl, hn, hn2, ⟨p0, p1, p2, hp, h0, h1, h2, h3, h4⟩, hc, q⟩ := h
  walk_at "go"
  refine g_ite (fun hk => ?_) (fun hk => ?_)
  · walk_at "go"
    refine g_setL hp rfl fun H2 st e2 => ?_
    walk_at "go"
    exact q _ H2 (Int.emod_nonneg _ (by omega)) (Int.emod_lt_of_pos _ hn) st ⟨_, _, _, e2, Int.ediv_nonneg h0 (by omega), h1, h2, h3, by omega⟩
  · walk_at "go"
    refine g_setL hp rfl fun H2 st e2 => ?_
    have e2 : H2 a = some (HO.lst [V.int p0, V.int p1, V.int (p2 + 1)]) := e2
    walk_at "go"
    have b1 := Int.emod_nonneg ((p1 + 9176263 * (p2 + 1) + 57) ^ Int.toNat 3) (show (162259276829213363391578010288127 : Int) ≠ 0 by decide)
    have b2 := Int.emod_lt_of_pos ((p1 + 9176263 * (p2 + 1) + 57) ^ Int.toNat 3) (show (0 : Int) < 162259276829213363391578010288127 by decide)
    generalize (p1 + 9176263 * (p2 + 1) + 57) ^ Int.toNat 3 % 162259276829213363391578010288127 = z at b1 b2 ⊢
    walk_at "go"
    exact q _ H2 (Int.emod_nonneg _ (by omega)) (Int.emod_lt_of_pos _ hn) st ⟨_, _, _, e2, h0, h1, h2, by omega, by omega⟩
end

end My
namespace My
open PySem PySem.Spec PyProof.Rows L2
/-! names -/
def sp_w_name : Sp := fun vs H Q _ => ∃ (a : Addr) (c : Nat), vs = [.ref a] ∧ PotAt H a c ∧ c < 2 ^ 59 ∧ ∀ (z : Str) H', IsNm z → Step [a] H H' → PotAt H' a (c + 10) → Q (.str z) H'
theorem go_name {H : Hp} {Q : VK} {E : XK} {a : Addr} {c : Nat} (hp : PotAt H a c) (hc : c < 2 ^ 59) (q : ∀ (z : Str) H', IsNm z → Step [a] H H' → PotAt H' a (c + 10) → Q (.str z) H') : sp_w_name [.ref a] H Q E := ⟨a, c, rfl, hp, hc, q⟩
def sp_w_names : Sp := fun vs H Q _ => ∃ (a : Addr) (n : Int) (c : Nat), vs = [.ref a, .int n] ∧ 0 ≤ n ∧ n ≤ 100 ∧ PotAt H a c ∧ c < 2 ^ 58 ∧
  ∀ D (zs : List Str) H', H D = none → (zs.length : Int) ≤ n → zs.Nodup → (∀ z ∈ zs, IsNm z) → (0 < n → zs ≠ []) → Step [a] H H' → H' D = some (.lst (zs.map V.str)) → PotAt H' a (c + 1 + 13 * n.toNat) → Q (.ref D) H'
section
variable {P : Program} {w : World} {K : PySem.W.Frag} {mg : Str → Option Value} {base : Heap}
theorem ok_w_name (C : Ctx K mg) : Has P w K mg base CX0 2 "_law_name" ["pot"] sp_w_name := by
  obtain ⟨fd, F⟩ := fn_w_name C
  obtain ⟨f_w_pick, fd_w_pick, G_w_pick, mg_w_pick, kp_w_pick, b_w_pick⟩ := (ok_w_pick (P := P) (w := w) (base := base) C).ex
  refine ⟨⟨_, fd, ?_, gl_w_name C, F.kp, F.bindsN fun _ _ _ _ _ _ us hl => match us, hl with | [_], _ => rfl⟩⟩
  refine F.ok (CX := CX0) sc_w_name (fun vs H Q E h => ?_) (fun cdv A outer s H vs Q E hr h => ?_)
  · first | (obtain ⟨_, rfl, _⟩ := h; rfl; done) | (obtain ⟨_, _, rfl, _⟩ := h; rfl; done) | (obtain ⟨_, _, _, rfl, _⟩ := h; rfl; done) | (obtain ⟨_, _, _, _, rfl, _⟩ := h; rfl; done) | (obtain ⟨_, _, _, _, _, rfl, _⟩ := h; rfl; done) | (obtain ⟨_, _, _, _, _, _, rfl, _⟩ := h; rfl; done) | (obtain ⟨_, _, _, _, _, _, _, rfl, _⟩ := h; rfl; done) | (obtain ⟨_, _, _, _, _, _, _, _, rfl, _⟩ := h; rfl; done) | (obtain ⟨_, _, _, _, _, _, _, _, _, rfl, _⟩ := h; rfl; done) | (obtain ⟨_, _, _, _, _, _, _, _, _, _, rfl, _⟩ := h; rfl; done) | (obtain ⟨_, _, _, _, _, _, _, _, _, _, _, rfl, _⟩ := h; rfl; done) | (obtain ⟨_, _, _, _, _, _, _, _, _, _, _, _, rfl, _⟩ := h; rfl; done) | (obtain ⟨_, _, _, _, _, _, _, _, _, _, _, _, _, rfl, _⟩ := h; rfl; done) | (obtain ⟨_, _, _, _, _, _, _, _, _, _, _, _, _, _, rfl, _⟩ := h; rfl; done) | (obtain ⟨_, _, _, _, _, _, _, _, _, _, _, _, _, _, _, rfl, _⟩ := h; rfl; done) | (obtain ⟨_, _, _, _, _, _, _, _, _, _, _, _, _, _, _, _, rfl, _⟩ := h; rfl; done) | (obtain ⟨_, _, _, _, _, _, _, _, _, _, _, _, _, _, _, _, _, rfl, _⟩ := h; rfl; done) | (obtain ⟨_, _, _, _, _, _, _, _, _, _, _, _, _, _, _, _, _, _, rfl, _⟩ := h; rfl; done) | (obtain ⟨_, _, _, _, _, _, _, _, _, _, _, _, _, _, _, _, _, _, _, rfl, _⟩ := h; rfl; done) | (obtain ⟨_, _, _, _, _, _, _, _, _, _, _, _, _, _, _, _, _, _, _, _, rfl, _⟩ := h; rfl; done) | (obtain ⟨_, _, _, _, _, _, _, _, _, _, _, _, _, _, _, _, _, _, _, _, _, rfl, _⟩ := h; rfl; done) | (rcases h with h | h <;> first | (obtain ⟨_, rfl, _⟩ := h; rfl; done) | (obtain ⟨_, _, rfl, _⟩ := h; rfl; done) | (obtain ⟨_, _, _, rfl, _⟩ := h; rfl; done) | (obtain ⟨_, _, _, _, rfl, _⟩ := h; rfl; done) | (obtain ⟨_, _, _, _, _, rfl, _⟩ := h; rfl; done) | (obtain ⟨_, _, _, _, _, _, rfl, _⟩ := h; rfl; done) | (obtain ⟨_, _, _, _, _, _, _, rfl, _⟩ := h; rfl; done) | (obtain ⟨_, _, _, _, _, _, _, _, rfl, _⟩ := h; rfl; done) | (obtain ⟨_, _, _, _, _, _, _, _, _, rfl, _⟩ := h; rfl; done) | (obtain ⟨_, _, _, _, _, _, _, _, _, _, rfl, _⟩ := h; rfl; done) | (obtain ⟨_, _, _, _, _, _, _, _, _, _, _, rfl, _⟩ := h; rfl; done) | (obtain ⟨_, _, _, _, _, _, _, _, _, _, _, _, rfl, _⟩ := h; rfl; done) | (obtain ⟨_, _, _, _, _, _, _, _, _, _, _, _, _, rfl, _⟩ := h; rfl; done) | (obtain ⟨_, _, _, _, _, _, _, _, _, _, _, _, _, _, rfl, _⟩ := h; rfl; done) | (obtain ⟨_, _, _, _, _, _, _, _, _, _, _, _, _, _, _, rfl, _⟩ := h; rfl; done) | (obtain ⟨_, _, _, _, _, _, _, _, _, _, _, _, _, _, _, _, rfl, _⟩ := h; rfl; done) | (obtain ⟨_, _, _, _, _, _, _, _, _, _, _, _, _, _, _, _, _, rfl, _⟩ := h; rfl; done) | (obtain ⟨_, _, _, _, _, _, _, _, _, _, _, _, _, _, _, _, _, _, rfl, _⟩ := h; rfl; done) | (obtain ⟨_, _, _, _, _, _, _, _, _, _, _, _, _, _, _, _, _, _, _, rfl, _⟩ := h; rfl; done) | (obtain ⟨_, _, _, _, _, _, _, _, _, _, _, _, _, _, _, _, _, _, _, _, rfl, _⟩ := h; rfl; done) | (obtain ⟨_, _, _, _, _, _, _, _, _, _, _, _, _, _, _, _, _, _, _, _, _, rfl, _⟩ := h; rfl; done))
  have hu := hu_of hr
  refine ⟨_, PSs.nox (pss_cons (ps_set (i := 1) sc_w_name.nd rfl (Or.inr rfl) pe_str)
    (pss_cons (ps_set (i := 2) sc_w_name.nd rfl (Or.inl rfl) (pe_ix ix_list (pe_lst (pa_cons pe_int (pa_cons pe_int (pa_cons pe_int (pa_cons (pe_op op_add pe_int (pe_call G_w_pick (hr.mono (by decide)) rfl mg_w_pick kp_w_pick b_w_pick .nil pass0 (pa_cons (pv 0) (pa_cons pe_int pa_nil)))) pa_nil))))) (pe_call G_w_pick (hr.mono (by decide)) rfl mg_w_pick kp_w_pick b_w_pick .nil pass0 (pa_cons (pv 0) (pa_cons pe_int pa_nil))) (fun _ _ => rfl)))
    (pss_one (ps_ret (pe_joinR pe_str (pe_lc (own := [("k", 3)]) (g := (gName 3)) (tt := tYes) rfl sc_w_name.nd (pi_range1 rfl (fr_range C) (pa_cons (pv 2) pa_nil)) (blkOk_by (N := N_w_name) (sc := defScope s_w_name) (own := [("k", 3)]) (by decide +kernel)) (fun _ _ _ _ _ => (pg_name (i := 3) sc_w_name.nd rfl (Or.inl rfl))) (fun _ _ _ _ _ => pts_nil) (fun _ _ _ _ _ => (pe_ix ix_str (pv 1) (pe_call G_w_pick (hr.mono (by decide)) rfl mg_w_pick kp_w_pick b_w_pick .nil pass0 (pa_cons (pv 0) (pa_cons pe_int pa_nil))) (fun _ _ => rfl))))))))), ?_⟩
  obtain ⟨a, c, rfl, hp, hc, q⟩ := h
  walk_at "go"
  refine go_pick hp (by decide) (by decide) (by omega) fun r1 H1 r10 r11 s1 p1 => ?_
  walk_at "go"
  intro l H2 hl s2 e2
  have la : l ≠ a := (p1.ne hl).symm
  walk_at "go"
  refine go_pick (p1.step0 s2) (by decide) (by decide) (by omega) fun r2 H3 r20 r21 s3 p3 => ?_
  obtain ⟨m, hm, em⟩ := at4 (x0 := 1) (x1 := 2) (x2 := 8) (x3 := 1 + r1) r20 r21
  refine g_ixL (s3.at1 e2 la) em ?_
  have hm1 : 1 ≤ m ∧ m ≤ 8 := by omega
  walk_at "go"
  refine g_kRng1 (by omega) (by omega) ?_
  refine wLc_rng fun D H4 hD s4 e4 => ?_
  have aD : a ≠ D := p3.ne hD
  refine ⟨fun i H => ∃ ss : List Str, ss.length = i ∧ (∀ s ∈ ss, ∃ c, s = ⟨#[c]⟩ ∧ isLow c) ∧ H D = some (.lst (ss.map V.str)) ∧ PotAt H a (c + 2 + i) ∧ Step [a] H3 H, ⟨[], rfl, by simp, e4, p3.step0 s4, s4.up⟩, ?_, ?_⟩
  · rintro i H5 hi ⟨ss, h1, h2, h3, h4, h5⟩
    walk_at "go"
    refine go_pick h4 (by decide) (by decide) (by omega) fun r3 H6 r30 r31 s6 p6 => ?_
    obtain ⟨ch, hch, ech⟩ := letter_at r30 r31
    refine g_ixS letters_line ech ?_
    refine g_kEl (s6.at1 h3 aD.symm) (ltLine (by rw [List.length_map]; omega)) fun H7 s7 e7 => ?_
    refine ⟨ss ++ [⟨#[ch]⟩], by simp [h1], fun s hs => ?_, by rw [e7, List.map_append]; rfl, (p6.step1 s7 aD).mono (by omega), (h5.trans s6).via s7 hD⟩
    · rcases List.mem_append.mp hs with hs | hs
      · exact h2 s hs
      · exact ⟨ch, by simpa using hs, hch⟩
  · rintro H5 ⟨ss, h1, h2, h3, h4, h5⟩
    obtain ⟨f1, f2, f3⟩ := signs_flat h2
    have ee : cs ("" : Str) = [] := by decide +kernel
    refine g_join h3 ?_ ?_
    · rw [f3, ← cs_len, ee]
      simp
      omega
    · rw [TL.join_eq]
      exact q _ H5 (nm_of_signs h2 (by omega) (by omega)) (((s1.trans s2.up).trans s3).trans h5) (h4.mono (by omega))
theorem ok_w_names (C : Ctx K mg) : Has P w K mg base CX0 3 "_law_names" ["pot", "many"] sp_w_names := by
  obtain ⟨fd, F⟩ := fn_w_names C
  obtain ⟨f_w_pick, fd_w_pick, G_w_pick, mg_w_pick, kp_w_pick, b_w_pick⟩ := (ok_w_pick (P := P) (w := w) (base := base) C).ex
  obtain ⟨f_w_name, fd_w_name, G_w_name, mg_w_name, kp_w_name, b_w_name⟩ := (ok_w_name (P := P) (w := w) (base := base) C).ex
  refine ⟨⟨_, fd, ?_, gl_w_names C, F.kp, F.bindsN fun _ _ _ _ _ _ us hl => match us, hl with | [_, _], _ => rfl⟩⟩
  refine F.ok (CX := CX0) sc_w_names (fun vs H Q E h => ?_) (fun cdv A outer s H vs Q E hr h => ?_)
  · first | (obtain ⟨_, rfl, _⟩ := h; rfl; done) | (obtain ⟨_, _, rfl, _⟩ := h; rfl; done) | (obtain ⟨_, _, _, rfl, _⟩ := h; rfl; done) | (obtain ⟨_, _, _, _, rfl, _⟩ := h; rfl; done) | (obtain ⟨_, _, _, _, _, rfl, _⟩ := h; rfl; done) | (obtain ⟨_, _, _, _, _, _, rfl, _⟩ := h; rfl; done) | (obtain ⟨_, _, _, _, _, _, _, rfl, _⟩ := h; rfl; done) | (obtain ⟨_, _, _, _, _, _, _, _, rfl, _⟩ := h; rfl; done) | (obtain ⟨_, _, _, _, _, _, _, _, _, rfl, _⟩ := h; rfl; done) | (obtain ⟨_, _, _, _, _, _, _, _, _, _, rfl, _⟩ := h; rfl; done) | (obtain ⟨_, _, _, _, _, _, _, _, _, _, _, rfl, _⟩ := h; rfl; done) | (obtain ⟨_, _, _, _, _, _, _, _, _, _, _, _, rfl, _⟩ := h; rfl; done) | (obtain ⟨_, _, _, _, _, _, _, _, _, _, _, _, _, rfl, _⟩ := h; rfl; done) | (obtain ⟨_, _, _, _, _, _, _, _, _, _, _, _, _, _, rfl, _⟩ := h; rfl; done) | (obtain ⟨_, _, _, _, _, _, _, _, _, _, _, _, _, _, _, rfl, _⟩ := h; rfl; done) | (obtain ⟨_, _, _, _, _, _, _, _, _, _, _, _, _, _, _, _, rfl, _⟩ := h; rfl; done) | (obtain ⟨_, _, _, _, _, _, _, _, _, _, _, _, _, _, _, _, _, rfl, _⟩ := h; rfl; done) | (obtain ⟨_, _, _, _, _, _, _, _, _, _, _, _, _, _, _, _, _, _, rfl, _⟩ := h; rfl; done) | (obtain ⟨_, _, _, _, _, _, _, _, _, _, _, _, _, _, _, _, _, _, _, rfl, _⟩ := h; rfl; done) | (obtain ⟨_, _, _, _, _, _, _, _, _, _, _, _, _, _, _, _, _, _, _, _, rfl, _⟩ := h; rfl; done) | (obtain ⟨_, _, _, _, _, _, _, _, _, _, _, _, _, _, _, _, _, _, _, _, _, rfl, _⟩ := h; rfl; done) | (rcases h with h | h <;> first | (obtain ⟨_, rfl, _⟩ := h; rfl; done) | (obtain ⟨_, _, rfl, _⟩ := h; rfl; done) | (obtain ⟨_, _, _, rfl, _⟩ := h; rfl; done) | (obtain ⟨_, _, _, _, rfl, _⟩ := h; rfl; done) | (obtain ⟨_, _, _, _, _, rfl, _⟩ := h; rfl; done) | (obtain ⟨_, _, _, _, _, _, rfl, _⟩ := h; rfl; done) | (obtain ⟨_, _, _, _, _, _, _, rfl, _⟩ := h; rfl; done) | (obtain ⟨_, _, _, _, _, _, _, _, rfl, _⟩ := h; rfl; done) | (obtain ⟨_, _, _, _, _, _, _, _, _, rfl, _⟩ := h; rfl; done) | (obtain ⟨_, _, _, _, _, _, _, _, _, _, rfl, _⟩ := h; rfl; done) | (obtain ⟨_, _, _, _, _, _, _, _, _, _, _, rfl, _⟩ := h; rfl; done) | (obtain ⟨_, _, _, _, _, _, _, _, _, _, _, _, rfl, _⟩ := h; rfl; done) | (obtain ⟨_, _, _, _, _, _, _, _, _, _, _, _, _, rfl, _⟩ := h; rfl; done) | (obtain ⟨_, _, _, _, _, _, _, _, _, _, _, _, _, _, rfl, _⟩ := h; rfl; done) | (obtain ⟨_, _, _, _, _, _, _, _, _, _, _, _, _, _, _, rfl, _⟩ := h; rfl; done) | (obtain ⟨_, _, _, _, _, _, _, _, _, _, _, _, _, _, _, _, rfl, _⟩ := h; rfl; done) | (obtain ⟨_, _, _, _, _, _, _, _, _, _, _, _, _, _, _, _, _, rfl, _⟩ := h; rfl; done) | (obtain ⟨_, _, _, _, _, _, _, _, _, _, _, _, _, _, _, _, _, _, rfl, _⟩ := h; rfl; done) | (obtain ⟨_, _, _, _, _, _, _, _, _, _, _, _, _, _, _, _, _, _, _, rfl, _⟩ := h; rfl; done) | (obtain ⟨_, _, _, _, _, _, _, _, _, _, _, _, _, _, _, _, _, _, _, _, rfl, _⟩ := h; rfl; done) | (obtain ⟨_, _, _, _, _, _, _, _, _, _, _, _, _, _, _, _, _, _, _, _, _, rfl, _⟩ := h; rfl; done))
  have hu := hu_of hr
  refine ⟨_, PSs.nox (pss_cons (ps_set (i := 2) sc_w_names.nd rfl (Or.inl rfl) pe_str)
    (pss_cons (ps_set (i := 3) sc_w_names.nd rfl (Or.inl rfl) (pe_call G_w_pick (hr.mono (by decide)) rfl mg_w_pick kp_w_pick b_w_pick .nil pass0 (pa_cons (pv 0) (pa_cons pe_int pa_nil))))
    (pss_cons (ps_set (i := 4) sc_w_names.nd rfl (Or.inl rfl) (pe_lst pa_nil))
    (pss_cons (ps_for PassesOwn.never rfl (pi_range1 rfl (fr_range C) (pa_cons (pv 1) pa_nil)) (pg_name (i := 5) sc_w_names.nd rfl (Or.inl rfl))
    (pss_cons (ps_set (i := 6) sc_w_names.nd rfl (Or.inl rfl) (pe_call G_w_name (hr.mono (by decide)) rfl mg_w_name kp_w_name b_w_name .nil pass0 (pa_cons (pv 0) pa_nil)))
    (pss_cutM (ps_if (pt_cut (PW.pt (pw_and (pt_cmpR op_gt (pv 3) pe_int (nomark _)) (pw_and1 (pt_cmpR (op_neD hr.units) (pv 4) (pe_lst pa_nil) (nomark _)))))) (pss_cons (ps_set (i := 7) sc_w_names.nd rfl (Or.inl rfl) (pe_ix ix_list (pv 4) (pe_call G_w_pick (hr.mono (by decide)) rfl mg_w_pick kp_w_pick b_w_pick .nil pass0 (pa_cons (pv 0) (pa_cons (pe_callB cr_lenL (by rfl) (fr_len C) PySem.boot_len (pa_cons (pv 4) pa_nil)) pa_nil))) (fun _ _ => rfl)))
    (pss_cons (ps_set (i := 8) sc_w_names.nd rfl (Or.inl rfl) (pe_call G_w_pick (hr.mono (by decide)) rfl mg_w_pick kp_w_pick b_w_pick .nil pass0 (pa_cons (pv 0) (pa_cons (pe_callB cr_lenSt (by rfl) (fr_len C) PySem.boot_len (pa_cons (pv 7) pa_nil)) pa_nil))))
    (pss_one (ps_set (i := 6) sc_w_names.nd rfl (Or.inl rfl) (pe_slice sl_str (pe_op op_addS (pe_op op_addS (pe_slice sl_str (pv 7) po_none (po_some (pv 8))) (pe_ix ix_str (pv 2) (pe_call G_w_pick (hr.mono (by decide)) rfl mg_w_pick kp_w_pick b_w_pick .nil pass0 (pa_cons (pv 0) (pa_cons pe_int pa_nil))) (fun _ _ => rfl))) (pe_slice sl_str (pv 7) (po_some (pe_op op_sub (pe_op op_add (pv 8) pe_int) (pv 3))) po_none)) po_none (po_some pe_int)))))) pss_nil)
    (pss_one (ps_if (pt_cmpR op_notIn_seq (pv 6) (pv 4) (by rfl)) (pss_one (ps_expr (pe_bm PySem.F.plainAttrs_list PySem.F.slot_list_append PySem.F.type_list_append mt_append (pv 4) (pa_cons (pv 6) pa_nil)))) pss_nil)))))
    (pss_one (ps_ret (pv 4))))))), ?_⟩
  obtain ⟨a, n, c, rfl, hn0, hn1, hp, hc, q⟩ := h
  walk_at "go"
  refine go_pick hp (by decide) (by decide) (by omega) fun way H1 w0 w1 s1 p1 => ?_
  walk_at "go"
  intro D H2 hD s2 e2
  have aD : a ≠ D := p1.ne hD
  walk_at "go"
  refine g_kRng1 (by omega) (by omega) ?_
  refine wFor_rng (fun i σ H => ∃ (zs : List Str) (v5 v6 v7 v8 : Option V), σ = [some (.ref a), some (.int n), some (.str "abcdefghijklmnopqrstuvwxyz"), some (.int way), some (.ref D), v5, v6, v7, v8] ∧
    zs.length ≤ i ∧ zs.Nodup ∧ (∀ z ∈ zs, IsNm z) ∧ (0 < i → zs ≠ []) ∧ H D = some (.lst (zs.map V.str)) ∧ PotAt H a (c + 1 + 13 * i) ∧ Step [a] H1 H) ⟨[], _, _, _, _, rfl, Nat.le_refl _, List.nodup_nil, by simp, by omega, e2, p1.step0 s2, s2.up⟩ ?_ ?_
  · rintro i σ H3 hi ⟨zs, v5, v6, v7, v8, rfl, h1, h2, h3, h4, h5, h6, h7⟩
    walk_at "go"
    refine go_name h6 (by omega) fun one H4 n1 s4 p4 => ?_
    walk_at "go"
    refine g_cut (fun σ H => ∃ (z : Str) (v7 v8 : Option V), σ = [some (.ref a), some (.int n), some (.str "abcdefghijklmnopqrstuvwxyz"), some (.int way), some (.ref D), some (.int (0 + i)), some (.str z), v7, v8] ∧ IsNm z ∧
      H D = some (.lst (zs.map V.str)) ∧ PotAt H a (c + 1 + 13 * i + 13) ∧ Step [a] H1 H) ?_ ?_
    · have e4 := s4.at1 h5 aD.symm
      walk_at "go"
      refine g_tcut (fun b H => (b = true → 0 < way ∧ zs ≠ []) ∧ H D = some (.lst (zs.map V.str)) ∧ PotAt H a (c + 1 + 13 * i + 10) ∧ Step [a] H1 H) ?_ ?_
      · walk_at "go"
        refine g_ite (fun hw => ?_) (fun hw => ?_)
        · walk_at "go"
          intro l H5 hl s5 e5
          refine g_neC (cL cS) (rLS_of (s5.at0 e4)) (rLS_of (xs := []) e5) (fun x hx => (h3 x hx).ok) (by intro x hx; cases hx) ?_
          walk_at "go"
          exact ⟨fun hb => ⟨hw, by simpa using hb⟩, s5.at0 e4, p4.step0 s5, (h7.trans s4).trans s5.up⟩
        · exact ⟨fun hb => (nomatch hb), e4, p4, h7.trans s4⟩
      · rintro b H5 ⟨hb, e5, p5, s5⟩
        refine g_iteB (fun hb1 => ?_) (fun hb1 => ?_)
        · obtain ⟨hw, hz⟩ := hb hb1
          have hz0 : 0 < zs.length := List.length_pos_iff.mpr hz
          walk_at "go"
          rw [List.length_map]
          refine go_pick p5 (by omega) (by omega) (by omega) fun r1 H6 r10 r11 s6 p6 => ?_
          have e6 := s6.at1 e5 aD.symm
          obtain ⟨old, ho, eo⟩ := at_in (xs := zs) r10 r11
          have n2 := h3 old (List.mem_of_getElem? ho)
          refine g_ixL e6 (at_int r10 (by rw [List.getElem?_map, ho]; rfl)) ?_
          walk_at "go"
          refine g_lenSt (leLine (by have := n2.hi; omega)) ?_
          have n3 := n2.lo
          have n4 := n2.hi
          walk_at "go"
          refine go_pick p6 (by omega) (by omega) (by omega) fun r2 H7 r20 r21 s7 p7 => ?_
          walk_at "go"
          refine g_slS (leLine (by omega)) ?_
          walk_at "go"
          refine go_pick p7 (by decide) (by decide) (by omega) fun r3 H8 r30 r31 s8 p8 => ?_
          obtain ⟨ch, hch, ech⟩ := letter_at r30 r31
          refine g_ixS letters_line ech ?_
          have l1 := len_cut_le old none (some r2)
          refine g_addS (leLine (by rw [len_one]; omega)) ?_
          walk_at "go"
          refine g_slS (leLine (by omega)) ?_
          have l2 := len_cut_le old (some (r2 + 2 - way)) none
          refine g_addS (leLine (by rw [len_add, len_one]; omega)) ?_
          walk_at "go"
          refine g_slS (leLine (by rw [len_add, len_add, len_one]; omega)) ?_
          exact ⟨_, _, _, rfl, nm_turn n2 hch rfl, s8.at1 (s7.at1 e6 aD.symm) aD.symm, p8.mono (by omega), ((s5.trans s6).trans s7).trans s8⟩
        · walk_at "go"
          exact ⟨_, _, _, rfl, n1, e5, p5.mono (by omega), s5⟩
    · rintro σ H5 ⟨z, v7, v8, rfl, nz, e5, p5, s5⟩
      walk_at "go"
      refine g_notInS e5 ?_
      walk_at "go"
      refine g_iteN (fun hz => ?_) (fun hz => ?_)
      · walk_at "go"
        refine g_append e5 (ltLine (by rw [List.length_map]; omega)) fun H6 s6 e6 => ?_
        refine ⟨zs ++ [z], _, _, _, _, rfl, by simp; omega, nd_snoc h2 hz, fun y hy => ?_, by simp, by rw [e6, List.map_append]; rfl, (p5.step1 s6 aD).mono (by omega), s5.via s6 hD⟩
        rcases List.mem_append.mp hy with hy | hy
        · exact h3 y hy
        · rw [List.mem_singleton.mp hy]; exact nz
      · walk_at "go"
        exact ⟨zs, _, _, _, _, rfl, by omega, h2, h3, (fun _ q => by rw [q] at hz; cases hz), e5, p5.mono (by omega), s5⟩
  · rintro σ H3 ⟨zs, v5, v6, v7, v8, rfl, h1, h2, h3, h4, h5, h6, h7⟩
    walk_at "go"
    exact q D zs H3 (s1.fresh hD) (by omega) h2 h3 (fun z => h4 (by omega)) (s1.trans h7) h5 (h6.mono (by omega))
end

end My
namespace My
open PySem PySem.Spec PyProof.Rows L2
/-! towns' rows, mixed lists, tickets -/
abbrev Row := Str × Str × Int
abbrev rRow : Rp Row := rP3 rS rS rI
theorem mRow : Mono rRow := mP3 mS mS mI
structure RowOk (r : Row) : Prop where
  nm : IsNm r.1
  zn : IsNm r.2.1
  w0 : 0 ≤ r.2.2
  w1 : r.2.2 ≤ 1000
def sp_w_houses : Sp := fun vs H Q _ => ∃ (a : Addr) (n : Int) (c : Nat), vs = [.ref a, .int n] ∧ 0 ≤ n ∧ n ≤ 30 ∧ PotAt H a c ∧ c < 2 ^ 57 ∧
  ∀ D (rows : List Row) H', H D = none → (rows.length : Int) ≤ n → (rows.map (·.1)).Nodup → (∀ r ∈ rows, RowOk r) → Step [a] H H' → rL rRow (hide [a] H') (.ref D) rows → PotAt H' a (c + 1000) → Q (.ref D) H'
def sp_w_mixed : Sp := fun vs H Q _ => ∃ (a l : Addr) (xs : List V) (c : Nat), vs = [.ref a, .ref l] ∧ H l = some (.lst xs) ∧ xs.length ≤ 1000 ∧ PotAt H a c ∧ c < 2 ^ 58 ∧
  ∀ D (ys : List V) H', H D = none → ys.Perm xs → Step [a] H H' → H' D = some (.lst ys) → PotAt H' a (c + xs.length) → Q (.ref D) H'
theorem at3 {x0 x1 x2 j : Int} (h0 : 0 ≤ j) (h1 : j < 3) : ∃ m : Int, (m = x0 ∨ m = x1 ∨ m = x2) ∧ atI [V.int x0, V.int x1, V.int x2] j = some (.int m) := by
  have : j = 0 ∨ j = 1 ∨ j = 2 := by omega
  rcases this with rfl | rfl | rfl
  · exact ⟨x0, by simp, rfl⟩
  · exact ⟨x1, by simp, rfl⟩
  · exact ⟨x2, by simp, rfl⟩
section
variable {P : Program} {w : World} {K : PySem.W.Frag} {mg : Str → Option Value} {base : Heap}
theorem ok_w_mixed (C : Ctx K mg) : Has P w K mg base CX0 2 "_law_mixed" ["pot", "some"] sp_w_mixed := by
  obtain ⟨fd, F⟩ := fn_w_mixed C
  obtain ⟨f_w_pick, fd_w_pick, G_w_pick, mg_w_pick, kp_w_pick, b_w_pick⟩ := (ok_w_pick (P := P) (w := w) (base := base) C).ex
  refine ⟨⟨_, fd, ?_, gl_w_mixed C, F.kp, F.bindsN fun _ _ _ _ _ _ us hl => match us, hl with | [_, _], _ => rfl⟩⟩
  refine F.ok (CX := CX0) sc_w_mixed (fun vs H Q E h => ?_) (fun cdv A outer s H vs Q E hr h => ?_)
  · first | (obtain ⟨_, rfl, _⟩ := h; rfl; done) | (obtain ⟨_, _, rfl, _⟩ := h; rfl; done) | (obtain ⟨_, _, _, rfl, _⟩ := h; rfl; done) | (obtain ⟨_, _, _, _, rfl, _⟩ := h; rfl; done) | (obtain ⟨_, _, _, _, _, rfl, _⟩ := h; rfl; done) | (obtain ⟨_, _, _, _, _, _, rfl, _⟩ := h; rfl; done) | (obtain ⟨_, _, _, _, _, _, _, rfl, _⟩ := h; rfl; done) | (obtain ⟨_, _, _, _, _, _, _, _, rfl, _⟩ := h; rfl; done) | (obtain ⟨_, _, _, _, _, _, _, _, _, rfl, _⟩ := h; rfl; done) | (obtain ⟨_, _, _, _, _, _, _, _, _, _, rfl, _⟩ := h; rfl; done) | (obtain ⟨_, _, _, _, _, _, _, _, _, _, _, rfl, _⟩ := h; rfl; done) | (obtain ⟨_, _, _, _, _, _, _, _, _, _, _, _, rfl, _⟩ := h; rfl; done) | (obtain ⟨_, _, _, _, _, _, _, _, _, _, _, _, _, rfl, _⟩ := h; rfl; done) | (obtain ⟨_, _, _, _, _, _, _, _, _, _, _, _, _, _, rfl, _⟩ := h; rfl; done) | (obtain ⟨_, _, _, _, _, _, _, _, _, _, _, _, _, _, _, rfl, _⟩ := h; rfl; done) | (obtain ⟨_, _, _, _, _, _, _, _, _, _, _, _, _, _, _, _, rfl, _⟩ := h; rfl; done) | (obtain ⟨_, _, _, _, _, _, _, _, _, _, _, _, _, _, _, _, _, rfl, _⟩ := h; rfl; done) | (obtain ⟨_, _, _, _, _, _, _, _, _, _, _, _, _, _, _, _, _, _, rfl, _⟩ := h; rfl; done) | (obtain ⟨_, _, _, _, _, _, _, _, _, _, _, _, _, _, _, _, _, _, _, rfl, _⟩ := h; rfl; done) | (obtain ⟨_, _, _, _, _, _, _, _, _, _, _, _, _, _, _, _, _, _, _, _, rfl, _⟩ := h; rfl; done) | (obtain ⟨_, _, _, _, _, _, _, _, _, _, _, _, _, _, _, _, _, _, _, _, _, rfl, _⟩ := h; rfl; done) | (rcases h with h | h <;> first | (obtain ⟨_, rfl, _⟩ := h; rfl; done) | (obtain ⟨_, _, rfl, _⟩ := h; rfl; done) | (obtain ⟨_, _, _, rfl, _⟩ := h; rfl; done) | (obtain ⟨_, _, _, _, rfl, _⟩ := h; rfl; done) | (obtain ⟨_, _, _, _, _, rfl, _⟩ := h; rfl; done) | (obtain ⟨_, _, _, _, _, _, rfl, _⟩ := h; rfl; done) | (obtain ⟨_, _, _, _, _, _, _, rfl, _⟩ := h; rfl; done) | (obtain ⟨_, _, _, _, _, _, _, _, rfl, _⟩ := h; rfl; done) | (obtain ⟨_, _, _, _, _, _, _, _, _, rfl, _⟩ := h; rfl; done) | (obtain ⟨_, _, _, _, _, _, _, _, _, _, rfl, _⟩ := h; rfl; done) | (obtain ⟨_, _, _, _, _, _, _, _, _, _, _, rfl, _⟩ := h; rfl; done) | (obtain ⟨_, _, _, _, _, _, _, _, _, _, _, _, rfl, _⟩ := h; rfl; done) | (obtain ⟨_, _, _, _, _, _, _, _, _, _, _, _, _, rfl, _⟩ := h; rfl; done) | (obtain ⟨_, _, _, _, _, _, _, _, _, _, _, _, _, _, rfl, _⟩ := h; rfl; done) | (obtain ⟨_, _, _, _, _, _, _, _, _, _, _, _, _, _, _, rfl, _⟩ := h; rfl; done) | (obtain ⟨_, _, _, _, _, _, _, _, _, _, _, _, _, _, _, _, rfl, _⟩ := h; rfl; done) | (obtain ⟨_, _, _, _, _, _, _, _, _, _, _, _, _, _, _, _, _, rfl, _⟩ := h; rfl; done) | (obtain ⟨_, _, _, _, _, _, _, _, _, _, _, _, _, _, _, _, _, _, rfl, _⟩ := h; rfl; done) | (obtain ⟨_, _, _, _, _, _, _, _, _, _, _, _, _, _, _, _, _, _, _, rfl, _⟩ := h; rfl; done) | (obtain ⟨_, _, _, _, _, _, _, _, _, _, _, _, _, _, _, _, _, _, _, _, rfl, _⟩ := h; rfl; done) | (obtain ⟨_, _, _, _, _, _, _, _, _, _, _, _, _, _, _, _, _, _, _, _, _, rfl, _⟩ := h; rfl; done))
  have hu := hu_of hr
  refine ⟨_, PSs.nox (pss_cons (ps_set (i := 2) sc_w_mixed.nd rfl (Or.inr rfl) (pe_callTy cr_listL (by rfl) (fr_list C) (by decide +kernel) (pa_cons (pv 1) pa_nil)))
    (pss_one (ps_ret (pe_lc (own := [("k", 3)]) (g := (gName 3)) (tt := tYes) rfl sc_w_mixed.nd (pi_range1 rfl (fr_range C) (pa_cons (pe_callB cr_lenL (by rfl) (fr_len C) PySem.boot_len (pa_cons (pv 1) pa_nil)) pa_nil)) (blkOk_by (N := N_w_mixed) (sc := defScope s_w_mixed) (own := [("k", 3)]) (by decide +kernel)) (fun _ _ _ _ _ => (pg_name (i := 3) sc_w_mixed.nd rfl (Or.inl rfl))) (fun _ _ _ _ _ => pts_nil) (fun _ _ _ _ _ => (pe_bmK (K := K) (pe_bm PySem.F.plainAttrs_list PySem.F.slot_list_pop PySem.F.type_list_pop mt_popAt (pv 2) (pa_cons (pe_call G_w_pick (hr.mono (by decide)) rfl mg_w_pick kp_w_pick b_w_pick .nil pass0 (pa_cons (pv 0) (pa_cons (pe_callB (kCall (K := K) (r := rLenL) cr_lenL) (by rfl) (fr_len C) PySem.boot_len (pa_cons (pv 2) pa_nil)) pa_nil))) pa_nil)))))))), ?_⟩
  obtain ⟨a, l, xs, c, rfl, hl, hz, hp, hc, q⟩ := h
  walk_at "go"
  refine g_listL hl fun lf H1 hlf s1 e1 => ?_
  have alf : a ≠ lf := hp.ne hlf
  walk_at "go"
  have l1 := s1.at0 hl
  walk_at "go"
  refine g_kRng1 (by omega) (by omega) ?_
  refine wLc_rng fun D H2 hD s2 e2 => ?_
  have p1 := hp.step0 s1
  have aD : a ≠ D := p1.ne hD
  have lD : lf ≠ D := ne_of_none e1 hD
  refine ⟨fun i H => ∃ ys zs : List V, H D = some (.lst ys) ∧ H lf = some (.lst zs) ∧ (ys ++ zs).Perm xs ∧ ys.length = i ∧ PotAt H a (c + i) ∧ Step [a, lf] H1 H, ⟨[], xs, e2, s2.at0 e1, List.Perm.refl _, rfl, p1.step0 s2, s2.up⟩, ?_, ?_⟩
  · rintro i H3 hi ⟨ys, zs, h1, h2, h3, h4, h5, h6⟩
    have hlen := h3.length_eq
    rw [List.length_append] at hlen
    have hi : i < xs.length := by omega
    walk_at "go"
    refine go_pick h5 (by omega) (by omega) (by omega) fun r H4 r0 r1 s4 p4 => ?_
    have lt : r.toNat < zs.length := by omega
    refine g_popAt (k := r.toNat) (s4.at1 h2 alf.symm) (by omega) (by omega) (seqIx_in r0 r1) (List.getElem?_eq_getElem lt) fun H5 s5 e5 => ?_
    have d5 := s5.at1 (s4.at1 h1 aD.symm) lD.symm
    refine g_kEl d5 (ltLine (by omega)) fun H6 s6 e6 => ?_
    refine ⟨_, _, e6, s6.at1 e5 lD, ?_, by simp [h4], ((p4.step1 s5 alf).step1 s6 aD).mono (by omega), ((h6.trans (s4.sub1 _ (by simp))).trans (s5.sub1 _ (by simp))).via s6 hD⟩
    refine List.Perm.trans ?_ h3
    rw [List.append_assoc]
    exact List.Perm.append_left _ (erase_perm lt)
  · rintro H3 ⟨ys, zs, h1, h2, h3, h4, h5, h6⟩
    have hlen := h3.length_eq
    rw [List.length_append] at hlen
    have hz0 : zs = [] := List.length_eq_zero_iff.mp (by omega)
    rw [hz0, List.append_nil] at h3
    exact q D ys H3 (s1.fresh hD) h3 ((s1.up.trans h6).drop2 hlf) h1 (h5.mono (by omega))
end
section
variable {P : Program} {w : World} {K : PySem.W.Frag} {mg : Str → Option Value} {base : Heap}
end

end My
namespace My
open PySem PySem.Spec PyProof.Rows L2
/-! moves, their ends; what the dict of colours says; the exchange, put by put -/
abbrev Mv := Int × Int × Option Str × Str
abbrev rMv : Rp Mv := rP4 rI rI rOS rS
theorem mMv : Mono rMv := mP4 mI mI mOS mS
/-- the end where a move's piece is taken from, by the move's number -/
def givE (i : Nat) (m : Mv) : En := match m.2.2.1 with
  | none => [Sum.inl (i : Int), Sum.inr ("alone" : Str)]
  | some h => [Sum.inr h, Sum.inr ("gives" : Str)]
def takE (m : Mv) : En := [Sum.inr m.2.2.2, Sum.inr ("gets" : Str)]
def sdE (e : En) : Bool := decide (e[1]? = some (Sum.inr ("gets" : Str)))
def ends (ms : List Mv) : List (En × En) := ms.zipIdx.map fun p => (givE p.2 p.1, takE p.1)
theorem ends_get {ms : List Mv} {i : Nat} {m : Mv} (h : ms[i]? = some m) : (ends ms)[i]? = some (givE i m, takE m) := by
  unfold ends
  rw [List.getElem?_map, List.getElem?_zipIdx, h]
  simp
theorem ends_len (ms : List Mv) : (ends ms).length = ms.length := by unfold ends; simp
theorem sd_giv (i : Nat) (m : Mv) : sdE (givE i m) = false := by
  unfold sdE givE
  cases m.2.2.1 with
  | none => exact decide_eq_false fun z => absurd (show ("alone" : Str) = "gets" from Sum.inr.inj (Option.some.inj z)) (by decide)
  | some h => exact decide_eq_false fun z => absurd (show ("gives" : Str) = "gets" from Sum.inr.inj (Option.some.inj z)) (by decide)
theorem sd_tak (m : Mv) : sdE (takE m) = true := decide_eq_true rfl
def mvG (ms : List Mv) : Gr := ⟨ends ms, sdE, fun p hp => by
  unfold ends at hp
  obtain ⟨q, _, rfl⟩ := List.mem_map.mp hp
  exact ⟨sd_giv _ _, sd_tak _⟩⟩
/-! the dict -/
abbrev NK := PySem.NK.NKey
def UD (kvs : List (NK × V)) (u : En → Nat → Option Nat) : Prop := ∀ e (k : Nat), valV kvs (e, (k : Int)) = (u e k).map fun x => V.int (x : Nat)
def updU (u : En → Nat → Option Nat) (e : En) (k : Nat) (v : Option Nat) : En → Nat → Option Nat := fun e' k' => if e' = e ∧ k' = k then v else u e' k'
theorem UD.at_ {kvs : List (NK × V)} {u : En → Nat → Option Nat} (h : UD kvs u) {e : En} {k x : Nat} (hx : u e k = some x) : valV kvs (e, (k : Int)) = some (.int (x : Nat)) := by rw [h e k, hx]; rfl
theorem UD.has {kvs : List (NK × V)} {u : En → Nat → Option Nat} (h : UD kvs u) (e : En) (k : Nat) : (valV kvs (e, (k : Int))).isSome = (u e k).isSome := by rw [h e k]; cases u e k <;> rfl
theorem UD.put {kvs : List (NK × V)} {u : En → Nat → Option Nat} (h : UD kvs u) (e : En) (k x : Nat) : UD (putK kvs (e, (k : Int)) (.int (x : Nat))) (updU u e k (some x)) := by
  intro e' k'
  rw [valV_put]
  unfold updU
  by_cases q : e' = e ∧ k' = k
  · rw [if_pos q, if_pos (by rw [q.1, q.2])]; rfl
  · rw [if_neg q, if_neg (fun z => q ⟨(Prod.mk.inj z).1, by have := (Prod.mk.inj z).2; omega⟩)]
    exact h e' k'
theorem valV_drop (kvs : List (NK × V)) (k j : NK) : valV (dropK kvs k) j = if j = k then none else valV kvs j := by
  unfold dropK
  induction kvs with
  | nil => by_cases h : j = k <;> simp [valV_nil, h]
  | cons p r ih =>
    by_cases h : p.1 = k
    · rw [List.filter_cons_of_neg (by simp [h]), ih]
      by_cases q : j = k
      · rw [if_pos q, if_pos q]
      · rw [if_neg q, if_neg q, valV_neg (fun z => q (by rw [← z, h]))]
    · rw [List.filter_cons_of_pos (by simp [h])]
      by_cases q : p.1 = j
      · rw [valV_pos q, valV_pos q, if_neg (fun z => h (q.trans z))]
      · rw [valV_neg q, valV_neg q, ih]
theorem UD.drop {kvs : List (NK × V)} {u : En → Nat → Option Nat} (h : UD kvs u) (e : En) (k : Nat) : UD (dropK kvs (e, (k : Int))) (updU u e k none) := by
  intro e' k'
  rw [valV_drop]
  unfold updU
  by_cases q : e' = e ∧ k' = k
  · rw [if_pos q, if_pos (by rw [q.1, q.2])]; rfl
  · rw [if_neg q, if_neg (fun z => q ⟨(Prod.mk.inj z).1, by have := (Prod.mk.inj z).2; omega⟩)]
    exact h e' k'
namespace Gr
variable {G : Gr} {n : Nat} {c : Nat → Nat} {u : En → Nat → Option Nat}
theorem inc_iff {at_ : Nat} {p : En × En} (hp : G.es[at_]? = some p) {e : En} : G.inc at_ e ↔ e = p.1 ∨ e = p.2 := by
  constructor
  · rintro ⟨q, hq, h⟩
    rw [hp] at hq
    cases hq
    exact h
  · exact fun h => ⟨p, hp, h⟩
theorem ne_ends {p : En × En} {at_ : Nat} (hp : G.es[at_]? = some p) : p.1 ≠ p.2 := fun h => by
  obtain ⟨h1, h2⟩ := G.bip p (List.mem_of_getElem? hp)
  rw [h, h2] at h1
  cases h1
/-- the pops: the numbers of some are out -/
structure Out (G : Gr) (u u' : En → Nat → Option Nat) (S : Nat → En → Prop) : Prop where
  keep : ∀ e k x, u e k = some x → ¬ S x e → u' e k = some x
  fw : ∀ e k x, u' e k = some x → u e k = some x ∧ ¬ S x e
theorem Out.start : Out G u u (fun _ _ => False) := ⟨fun _ _ _ h _ => h, fun _ _ _ h => ⟨h, fun z => z⟩⟩
theorem Out.pop (I : G.Ok n c u) {u' : En → Nat → Option Nat} {S : Nat → En → Prop} (O : Out G u u' S) {x : Nat} {e : En} (hx : x < n) (ix : G.inc x e) : Out G u (updU u' e (c x) none) (fun y e' => S y e' ∨ (y = x ∧ e' = e)) := by
  have hu := I.bw x e hx ix
  refine ⟨fun e' k y h1 h2 => ?_, fun e' k y h1 => ?_⟩
  · unfold updU
    by_cases q : e' = e ∧ k = c x
    · obtain ⟨rfl, rfl⟩ := q
      rw [hu] at h1
      cases h1
      exact absurd (.inr ⟨rfl, rfl⟩) h2
    · rw [if_neg q]
      exact O.keep _ _ _ h1 fun z => h2 (.inl z)
  · unfold updU at h1
    by_cases q : e' = e ∧ k = c x
    · rw [if_pos q] at h1; cases h1
    · rw [if_neg q] at h1
      obtain ⟨h3, h4⟩ := O.fw _ _ _ h1
      refine ⟨h3, ?_⟩
      rintro (z | ⟨rfl, rfl⟩)
      · exact h4 z
      · exact q ⟨rfl, (I.fw _ _ _ h3).2.2.symm⟩
/-- the puts -/
structure Swg (G : Gr) (c : Nat → Nat) (u u' : En → Nat → Option Nat) (a b : Nat) (ch : List Nat) (S : Nat → En → Prop) : Prop where
  new : ∀ x e, S x e → u' e (a + b - c x) = some x
  old : ∀ e k x, u e k = some x → x ∉ ch → u' e k = some x
  fw : ∀ e k x, u' e k = some x → (S x e ∧ a + b - c x = k) ∨ (u e k = some x ∧ x ∉ ch)
theorem Swg.start {u' : En → Nat → Option Nat} {a b : Nat} {ch : List Nat} {S : Nat → En → Prop} (O : Out G u u' S) (hS : ∀ x e, S x e → x ∈ ch) (hS2 : ∀ x e k, x ∈ ch → u e k = some x → S x e) : Swg G c u u' a b ch (fun _ _ => False) :=
  ⟨fun _ _ h => h.elim, fun e k x h h2 => O.keep _ _ _ h fun z => h2 (hS _ _ z), fun e k x h => .inr ⟨(O.fw _ _ _ h).1, fun z => (O.fw _ _ _ h).2 (hS2 _ _ _ z (O.fw _ _ _ h).1)⟩⟩
theorem Swg.put (I : G.Ok n c u) {v : En} {a b : Nat} {ch : List Nat} {e : En} {k : Nat} {u' : En → Nat → Option Nat} {S : Nat → En → Prop} (hab : a ≠ b) (hv : u v b = none) (C : Chain G n c u v a b ch e k) (hend : u e k = none)
    (W : Swg G c u u' a b ch S) (hS : ∀ y e', S y e' → y ∈ ch ∧ G.inc y e') {x : Nat} {e' : En} (hx : x ∈ ch) (ix : G.inc x e') : Swg G c u (updU u' e' (a + b - c x) (some x)) a b ch (fun y f => S y f ∨ (y = x ∧ f = e')) := by
  refine ⟨?_, fun f j y h1 h2 => ?_, fun f j y h1 => ?_⟩
  · rintro y f (h | ⟨rfl, rfl⟩)
    · unfold updU
      by_cases q : f = e' ∧ a + b - c y = a + b - c x
      · obtain ⟨rfl, q⟩ := q
        obtain ⟨h1, h2⟩ := hS y _ h
        obtain ⟨m1, m2⟩ := C.mem y h1
        obtain ⟨m3, m4⟩ := C.mem x hx
        have : c y = c x := by omega
        rw [if_pos ⟨rfl, q⟩, I.uniq m1 m3 h2 ix this]
      · rw [if_neg q]; exact W.new _ _ h
    · unfold updU
      rw [if_pos ⟨rfl, rfl⟩]
  · unfold updU
    by_cases q : f = e' ∧ j = a + b - c x
    · obtain ⟨rfl, rfl⟩ := q
      exact absurd (C.closed I hab hv hend hx ix h1) h2
    · rw [if_neg q]; exact W.old _ _ _ h1 h2
  · unfold updU at h1
    by_cases q : f = e' ∧ j = a + b - c x
    · rw [if_pos q] at h1
      cases h1
      exact .inl ⟨.inr ⟨rfl, q.1⟩, q.2.symm⟩
    · rw [if_neg q] at h1
      rcases W.fw _ _ _ h1 with ⟨h2, h3⟩ | h2
      · exact .inl ⟨.inl h2, h3⟩
      · exact .inr h2
theorem Swg.done {a b : Nat} {ch : List Nat} {u' : En → Nat → Option Nat} {S : Nat → En → Prop} (W : Swg G c u u' a b ch S) (hS : ∀ x e, S x e ↔ x ∈ ch ∧ G.inc x e) : Swapped G c u u' a b ch :=
  ⟨fun x hx e ix => W.new x e ((hS x e).mpr ⟨hx, ix⟩), W.old, fun e k x h => (W.fw e k x h).imp (fun ⟨h1, h2⟩ => ⟨((hS x e).mp h1).1, ((hS x e).mp h1).2, h2⟩) id⟩
end Gr

end My
namespace My
open PySem PySem.Spec PyProof.Rows L2
/-! the least free colour, the exchange along a chain -/
def encK : Key → PyData
  | .inl i => .int i
  | .inr s => .str s
def rE : Rp En := fun H v e => ∃ b, v = .ref b ∧ H b = some (.tup (e.map kV))
theorem mE : Mono rE := fun _ _ _ _ h ⟨b, e1, e2⟩ => ⟨b, e1, h _ _ e2⟩
theorem encK_eqv (x y : Key) : PyData.eqv (encK x) (encK y) = true ↔ x = y := by
  cases x <;> cases y <;> simp [encK, PyData.eqv]
theorem dpK {K : PySem.W.Frag} {H : Hp} : ∀ e : En, DpAll K H (e.map kV) (e.map encK)
  | [] => .nil
  | .inl i :: e => .cons (.int i) (dpK e)
  | .inr s :: e => .cons (.str s) (dpK e)
def cE {K : PySem.W.Frag} : Cod K rE := ⟨fun e => .tuple (e.map encK), fun e => ∀ s : Str, Sum.inr s ∈ e → StrOk s, fun e h => by
  simp only [PyData.canLay0]
  refine layAll fun x hx => ?_
  cases x with
  | inl i => simp [encK, PyData.canLay0]
  | inr s => simpa [encK, PyData.canLay0, StrOk] using h s hx, 1, fun e => by
  simp only [PyData.depth]
  exact Nat.succ_le_succ (depAll (d := 0) (fun x => by cases x <;> simp [encK, PyData.depth]) e), fun x y => by
  simp only [PyData.eqv]
  exact eqvAll_iff encK_eqv x y, fun H v e ⟨b, e1, e2⟩ => by rw [e1]; exact .tup (SqT.of e2) (dpK e)⟩
def EndAt (H : Hp) (b : Addr) (e : En) : Prop := H b = some (.tup (e.map kV))
theorem tkeep {m : List Addr} {H H' : Hp} {t : Addr} {xs : List V} (s : Step m H H') (hm : ∀ a ∈ m, ∀ ys, H a ≠ some (.tup ys)) (h : H t = some (.tup xs)) : H' t = some (.tup xs) := s.keep _ _ (fun z => hm t z xs h) h
def EndsAt (H : Hp) (E : Addr) (es : List (En × En)) : Prop := ∃ ts : List Addr, H E = some (.lst (ts.map V.ref)) ∧ Paired (fun t (p : En × En) => ∃ g h, H t = some (.tup [.ref g, .ref h]) ∧ EndAt H g p.1 ∧ EndAt H h p.2) ts es
theorem EndsAt.keep {m : List Addr} {H H' : Hp} {E : Addr} {es : List (En × En)} (x : EndsAt H E es) (s : Step m H H') (hm : ∀ a ∈ m, ∀ ys, H a ≠ some (.tup ys)) (hE : E ∉ m) : EndsAt H' E es := by
  obtain ⟨ts, h1, h2⟩ := x
  exact ⟨ts, s.keep _ _ hE h1, Pmap h2 fun t p ⟨g, h, e1, e2, e3⟩ => ⟨g, h, tkeep s hm e1, tkeep s hm e2, tkeep s hm e3⟩⟩
theorem NDict.step {P : Program} {w : World} {m : List Addr} {H H' : Hp} {U : Addr} {kvs : List (NK × V)} (x : NDict P w H U kvs) (s : Step m H H') (hm : ∀ a ∈ m, ∀ ys, H a ≠ some (.tup ys)) (hU : U ∉ m) : NDict P w H' U kvs := by
  obtain ⟨l, xs, h1, h2⟩ := x
  exact ⟨l, xs, s.keep _ _ hU h1, Pmap h2 fun p q ⟨r1, r2, r3⟩ => ⟨r1, r2.keep fun c ys hc => tkeep s hm hc, r3⟩⟩
theorem NDict.nt {P : Program} {w : World} {H : Hp} {U : Addr} {kvs : List (NK × V)} (x : NDict P w H U kvs) (ys : List V) : H U ≠ some (.tup ys) := by
  obtain ⟨l, xs, h1, h2⟩ := x
  rw [h1]; exact fun z => nomatch z
theorem NDict.nl {P : Program} {w : World} {H : Hp} {U L : Addr} {kvs : List (NK × V)} {xs : List V} (x : NDict P w H U kvs) (h : H L = some (.lst xs)) : U ≠ L := by
  obtain ⟨l, ys, h1, h2⟩ := x
  rintro rfl
  rw [h1] at h
  exact nomatch h
theorem lnt {H : Hp} {L : Addr} {xs : List V} (h : H L = some (.lst xs)) (ys : List V) : H L ≠ some (.tup ys) := by rw [h]; exact fun z => nomatch z
theorem KeyN.of {H : Hp} {b c : Addr} {e : En} {k : Int} (h : H b = some (.tup [.ref c, .int k])) (he : EndAt H c e) : KeyN H b (e, k) := ⟨c, h, he⟩
/-- the whole numbers of a list, by place -/
def natL (N : Nat) (c : Nat → Nat) : List V := (List.range N).map fun x => V.int (c x : Nat)
theorem natL_get {N : Nat} {c : Nat → Nat} {i : Nat} (h : i < N) : (natL N c)[i]? = some (V.int (c i : Nat)) := by unfold natL; simp [h]
theorem natL_len {N : Nat} {c : Nat → Nat} : (natL N c).length = N := by unfold natL; simp
theorem natL_set {N : Nat} {c : Nat → Nat} {i y : Nat} (h : i < N) : (natL N c).set i (V.int (y : Nat)) = natL N fun x => if x = i then y else c x := by
  apply List.ext_getElem?
  intro j
  by_cases hj : j < N
  · rw [natL_get hj]
    by_cases q : j = i
    · subst q
      rw [List.getElem?_set_self (by rw [natL_len]; exact hj), if_pos rfl]
    · rw [List.getElem?_set_ne (fun z => q z.symm), natL_get hj, if_neg q]
  · rw [List.getElem?_eq_none (by rw [List.length_set, natL_len]; omega), List.getElem?_eq_none (by rw [natL_len]; omega)]
theorem natL_congr {N : Nat} {c d : Nat → Nat} (h : ∀ x, x < N → c x = d x) : natL N c = natL N d := by
  unfold natL
  exact List.map_congr_left fun x hx => by rw [h x (List.mem_range.mp hx)]
def sp_free_colour (P : Program) (w : World) : Sp := fun vs H Q _ => ∃ (U b : Addr) (kvs : List (NK × V)) (u : En → Nat → Option Nat) (e : En), vs = [.ref U, .ref b] ∧ NDict P w H U kvs ∧ UD kvs u ∧ EndAt H b e ∧ (∀ k, (∀ j, j < k → (u e j).isSome = true) → k ≤ 100000) ∧
  ∀ (k : Nat) H', Step [] H H' → (∀ j, j < k → (u e j).isSome = true) → u e k = none → Q (.int (k : Nat)) H'
section
variable {P : Program} {w : World} {K : PySem.W.Frag} {mg : Str → Option Value} {base : Heap}
theorem ok_free_colour (C : Ctx K mg) : Has P w K mg base CX0 1 "free_colour" ["used", "end"] (sp_free_colour P w) := by
  obtain ⟨fd, F⟩ := fn_free_colour C
  refine ⟨⟨_, fd, ?_, gl_free_colour C, F.kp, F.bindsN fun _ _ _ _ _ _ us hl => match us, hl with | [_, _], _ => rfl⟩⟩
  refine F.ok (CX := CX0) sc_free_colour (fun vs H Q E h => ?_) (fun cdv A outer s H vs Q E hr h => ?_)
  · first | (obtain ⟨_, rfl, _⟩ := h; rfl; done) | (obtain ⟨_, _, rfl, _⟩ := h; rfl; done) | (obtain ⟨_, _, _, rfl, _⟩ := h; rfl; done) | (obtain ⟨_, _, _, _, rfl, _⟩ := h; rfl; done) | (obtain ⟨_, _, _, _, _, rfl, _⟩ := h; rfl; done) | (obtain ⟨_, _, _, _, _, _, rfl, _⟩ := h; rfl; done) | (obtain ⟨_, _, _, _, _, _, _, rfl, _⟩ := h; rfl; done) | (obtain ⟨_, _, _, _, _, _, _, _, rfl, _⟩ := h; rfl; done) | (obtain ⟨_, _, _, _, _, _, _, _, _, rfl, _⟩ := h; rfl; done) | (obtain ⟨_, _, _, _, _, _, _, _, _, _, rfl, _⟩ := h; rfl; done) | (obtain ⟨_, _, _, _, _, _, _, _, _, _, _, rfl, _⟩ := h; rfl; done) | (obtain ⟨_, _, _, _, _, _, _, _, _, _, _, _, rfl, _⟩ := h; rfl; done) | (obtain ⟨_, _, _, _, _, _, _, _, _, _, _, _, _, rfl, _⟩ := h; rfl; done) | (obtain ⟨_, _, _, _, _, _, _, _, _, _, _, _, _, _, rfl, _⟩ := h; rfl; done) | (obtain ⟨_, _, _, _, _, _, _, _, _, _, _, _, _, _, _, rfl, _⟩ := h; rfl; done) | (obtain ⟨_, _, _, _, _, _, _, _, _, _, _, _, _, _, _, _, rfl, _⟩ := h; rfl; done) | (obtain ⟨_, _, _, _, _, _, _, _, _, _, _, _, _, _, _, _, _, rfl, _⟩ := h; rfl; done) | (obtain ⟨_, _, _, _, _, _, _, _, _, _, _, _, _, _, _, _, _, _, rfl, _⟩ := h; rfl; done) | (obtain ⟨_, _, _, _, _, _, _, _, _, _, _, _, _, _, _, _, _, _, _, rfl, _⟩ := h; rfl; done) | (obtain ⟨_, _, _, _, _, _, _, _, _, _, _, _, _, _, _, _, _, _, _, _, rfl, _⟩ := h; rfl; done) | (obtain ⟨_, _, _, _, _, _, _, _, _, _, _, _, _, _, _, _, _, _, _, _, _, rfl, _⟩ := h; rfl; done) | (rcases h with h | h <;> first | (obtain ⟨_, rfl, _⟩ := h; rfl; done) | (obtain ⟨_, _, rfl, _⟩ := h; rfl; done) | (obtain ⟨_, _, _, rfl, _⟩ := h; rfl; done) | (obtain ⟨_, _, _, _, rfl, _⟩ := h; rfl; done) | (obtain ⟨_, _, _, _, _, rfl, _⟩ := h; rfl; done) | (obtain ⟨_, _, _, _, _, _, rfl, _⟩ := h; rfl; done) | (obtain ⟨_, _, _, _, _, _, _, rfl, _⟩ := h; rfl; done) | (obtain ⟨_, _, _, _, _, _, _, _, rfl, _⟩ := h; rfl; done) | (obtain ⟨_, _, _, _, _, _, _, _, _, rfl, _⟩ := h; rfl; done) | (obtain ⟨_, _, _, _, _, _, _, _, _, _, rfl, _⟩ := h; rfl; done) | (obtain ⟨_, _, _, _, _, _, _, _, _, _, _, rfl, _⟩ := h; rfl; done) | (obtain ⟨_, _, _, _, _, _, _, _, _, _, _, _, rfl, _⟩ := h; rfl; done) | (obtain ⟨_, _, _, _, _, _, _, _, _, _, _, _, _, rfl, _⟩ := h; rfl; done) | (obtain ⟨_, _, _, _, _, _, _, _, _, _, _, _, _, _, rfl, _⟩ := h; rfl; done) | (obtain ⟨_, _, _, _, _, _, _, _, _, _, _, _, _, _, _, rfl, _⟩ := h; rfl; done) | (obtain ⟨_, _, _, _, _, _, _, _, _, _, _, _, _, _, _, _, rfl, _⟩ := h; rfl; done) | (obtain ⟨_, _, _, _, _, _, _, _, _, _, _, _, _, _, _, _, _, rfl, _⟩ := h; rfl; done) | (obtain ⟨_, _, _, _, _, _, _, _, _, _, _, _, _, _, _, _, _, _, rfl, _⟩ := h; rfl; done) | (obtain ⟨_, _, _, _, _, _, _, _, _, _, _, _, _, _, _, _, _, _, _, rfl, _⟩ := h; rfl; done) | (obtain ⟨_, _, _, _, _, _, _, _, _, _, _, _, _, _, _, _, _, _, _, _, rfl, _⟩ := h; rfl; done) | (obtain ⟨_, _, _, _, _, _, _, _, _, _, _, _, _, _, _, _, _, _, _, _, _, rfl, _⟩ := h; rfl; done))
  have hu := hu_of hr
  refine ⟨_, PSs.nox (pss_cons (ps_set (i := 2) sc_free_colour.nd rfl (Or.inl rfl) pe_int)
    (pss_cons (ps_while PassesOwn.never (pt_cmp (pc_nin (unit5 hr) (pe_tup (pa_cons (pv 1) (pa_cons (pv 2) pa_nil))) (pv 0)))
    (pss_one (ps_aug (i := 2) sc_free_colour.nd rfl (Or.inl rfl) pe_int ip_add)))
    (pss_one (ps_ret (pv 2))))), ?_⟩
  obtain ⟨U, b, kvs, u, e, rfl, hU, hud, he, hb, q⟩ := h
  walk_at "go"
  refine g_while (fun m σ H' => ∃ k : Nat, m = 100001 - k ∧ σ = [some (.ref U), some (.ref b), some (.int (k : Nat))] ∧ (∀ j, j < k → (u e j).isSome = true) ∧ Step [] H H') ⟨0, rfl, rfl, fun j hj => absurd hj (Nat.not_lt_zero _), Step.refl _ _⟩ ?_
  · rintro m σ H1 ⟨k, rfl, rfl, hk, s1⟩
    have hk1 := hb k hk
    have he1 : EndAt H1 b e := s1.at0 he
    walk_at "go"
    intro t H2 ht s2 et
    walk_at "go"
    have hU2 := hU.step (s1.trans s2) (fun _ z => nomatch z) (fun z => nomatch z)
    refine g_kNIn hU2 (KeyN.of et (s2.at0 he1)) ?_
    rw [hud.has]
    walk_at "go"
    refine g_iteB (fun hs => ?_) (fun hs => ?_)
    · walk_at "go"
      refine ⟨100001 - (k + 1), by omega, k + 1, rfl, by rw [show (k : Int) + 1 = ((k + 1 : Nat) : Int) by omega]; rfl, fun j hj => ?_, s1.trans s2⟩
      by_cases q' : j = k
      · rw [q']; exact hs
      · exact hk j (by omega)
    · walk_at "go"
      refine q k H2 (s1.trans s2) hk ?_
      cases z : u e k with
      | none => rfl
      | some y => rw [z] at hs; cases hs
end

end My
namespace My
open PySem PySem.Spec PyProof.Rows L2
/-! the exchange along a chain -/
def EnOk (e : En) : Prop := ∀ s : Str, Sum.inr s ∈ e → StrOk s
theorem ntL {H : Hp} {L : Addr} {xs : List V} (h : H L = some (.lst xs)) : ∀ a ∈ [L], ∀ ys, H a ≠ some (.tup ys) := fun a ha ys => by rw [List.mem_singleton.mp ha]; exact lnt h ys
theorem ntU {P : Program} {w : World} {H : Hp} {U : Addr} {kvs : List (NK × V)} (x : NDict P w H U kvs) : ∀ a ∈ [U], ∀ ys, H a ≠ some (.tup ys) := fun a ha ys => by rw [List.mem_singleton.mp ha]; exact x.nt ys
theorem nt0 {H : Hp} : ∀ a ∈ ([] : List Addr), ∀ ys : List V, H a ≠ some (.tup ys) := fun _ h => nomatch h
theorem EndsAt.nu {P : Program} {w : World} {H : Hp} {U E : Addr} {es : List (En × En)} {kvs : List (NK × V)} (x : EndsAt H E es) (d : NDict P w H U kvs) : E ≠ U := by
  obtain ⟨ts, h1, _⟩ := x
  exact (d.nl h1).symm
theorem EndsAt.get {H : Hp} {E : Addr} {es : List (En × En)} {p : En × En} {i : Nat} (x : EndsAt H E es) (h : es[i]? = some p) : ∃ (ts : List Addr) (t g h : Addr), H E = some (.lst (ts.map V.ref)) ∧ (ts.map V.ref)[i]? = some (.ref t) ∧ H t = some (.tup [.ref g, .ref h]) ∧ EndAt H g p.1 ∧ EndAt H h p.2 := by
  obtain ⟨ts, h1, h2⟩ := x
  obtain ⟨t, ht, g, k, e1, e2, e3⟩ := P_get2 h2 h
  exact ⟨ts, t, g, k, h1, by rw [List.getElem?_map, ht]; rfl, e1, e2, e3⟩
theorem ntUC {P : Program} {w : World} {H : Hp} {U C : Addr} {kvs : List (NK × V)} {xs : List V} (x : NDict P w H U kvs) (h : H C = some (.lst xs)) : ∀ a ∈ [U, C], ∀ ys, H a ≠ some (.tup ys) := fun a ha ys => by
  rcases List.mem_cons.mp ha with rfl | ha
  · exact x.nt ys
  · exact ntL h a ha ys
theorem ixN_nat {n x : Nat} (h : x < n) : ixN n (x : Int) = some x := by
  have := ixN_in (n := n) (i := (x : Int)) (by omega) (by omega)
  simpa using this
namespace Gr
variable {G : Gr} {n : Nat} {c : Nat → Nat} {u u' : En → Nat → Option Nat}
theorem Out.congr {S S' : Nat → En → Prop} (O : Out G u u' S) (h : ∀ y e, S y e ↔ S' y e) : Out G u u' S' := ⟨fun e k x h1 h2 => O.keep e k x h1 fun z => h2 ((h x e).mp z), fun e k x h1 => ⟨(O.fw e k x h1).1, fun z => (O.fw e k x h1).2 ((h x e).mpr z)⟩⟩
theorem Swg.congr {a b : Nat} {ch : List Nat} {S S' : Nat → En → Prop} (W : Swg G c u u' a b ch S) (h : ∀ y e, S y e ↔ S' y e) : Swg G c u u' a b ch S' := ⟨fun x e z => W.new x e ((h x e).mpr z), W.old, fun e k x z => (W.fw e k x z).imp (fun ⟨h1, h2⟩ => ⟨(h x e).mp h1, h2⟩) id⟩
end Gr
/-- the chain as it is walked -/
inductive Gr.Path (G : Gr) (u : En → Nat → Option Nat) (v : En) (a b : Nat) : List Nat → En → Nat → Prop
  | nil : Gr.Path G u v a b [] v a
  | snoc {ch : List Nat} {e : En} {k x : Nat} : Gr.Path G u v a b ch e k → u e k = some x → Gr.Path G u v a b (ch ++ [x]) (G.oth x e) (a + b - k)
theorem take_mem {α : Type} {ch : List α} {i : Nat} {x : α} (hx : ch[i]? = some x) (y : α) : y ∈ ch.take (i + 1) ↔ y ∈ ch.take i ∨ y = x := by
  rw [List.take_add_one, hx]
  simp
theorem nd_take {α : Type} {ch : List α} {i : Nat} {x : α} (hn : ch.Nodup) (hx : ch[i]? = some x) : x ∉ ch.take i := by
  intro h
  obtain ⟨hi, e2⟩ := List.getElem?_eq_some_iff.mp hx
  rw [← List.take_append_drop i ch, List.nodup_append] at hn
  refine hn.2.2 x h x ?_ rfl
  rw [List.drop_eq_getElem_cons hi, e2]
  exact List.mem_cons_self ..
/-- the ends done at the j-th end of the chain's i-th number x -/
def Sj (G : Gr) (ch : List Nat) (i x : Nat) (p : En × En) (j : Nat) (y : Nat) (f : En) : Prop := (y ∈ ch.take i ∧ G.inc y f) ∨ (1 ≤ j ∧ y = x ∧ f = p.1) ∨ (2 ≤ j ∧ y = x ∧ f = p.2)
theorem sj_0 {G : Gr} {ch : List Nat} {i x : Nat} {p : En × En} (y : Nat) (f : En) : (y ∈ ch.take i ∧ G.inc y f) ↔ Sj G ch i x p 0 y f := by
  unfold Sj
  simp
theorem sj_2 {G : Gr} {ch : List Nat} {i x : Nat} {p : En × En} (hp : G.es[x]? = some p) (hx : ch[i]? = some x) (y : Nat) (f : En) : Sj G ch i x p 2 y f ↔ (y ∈ ch.take (i + 1) ∧ G.inc y f) := by
  unfold Sj
  rw [take_mem hx]
  constructor
  · rintro (⟨h1, h2⟩ | ⟨_, rfl, h2⟩ | ⟨_, rfl, h2⟩)
    · exact ⟨.inl h1, h2⟩
    · exact ⟨.inr rfl, (Gr.inc_iff hp).mpr (.inl h2)⟩
    · exact ⟨.inr rfl, (Gr.inc_iff hp).mpr (.inr h2)⟩
  · rintro ⟨h1 | rfl, h2⟩
    · exact .inl ⟨h1, h2⟩
    · rcases (Gr.inc_iff hp).mp h2 with h | h
      · exact .inr (.inl ⟨by omega, rfl, h⟩)
      · exact .inr (.inr ⟨by omega, rfl, h⟩)
theorem sj_step {H : Hp} {G : Gr} {ch : List Nat} {i x : Nat} {p : En × En} {g hh : Addr} (hp : G.es[x]? = some p) (hx : ch[i]? = some x) (hn : ch.Nodup) {j : Nat} {z : V} (hz : [V.ref g, V.ref hh][j]? = some z) (hg : EndAt H g p.1) (hhh : EndAt H hh p.2) :
    ∃ bo f, z = .ref bo ∧ EndAt H bo f ∧ G.inc x f ∧ ¬ Sj G ch i x p j x f ∧ ∀ y f', (Sj G ch i x p j y f' ∨ (y = x ∧ f' = f)) ↔ Sj G ch i x p (j + 1) y f' := by
  have hnt := nd_take hn hx
  match j, hz with
  | 0, hz =>
    cases hz
    refine ⟨g, p.1, rfl, hg, ⟨p, hp, .inl rfl⟩, ?_, fun y f' => ?_⟩
    · unfold Sj
      rintro (⟨h, _⟩ | ⟨h, _⟩ | ⟨h, _⟩)
      · exact hnt h
      · omega
      · omega
    · unfold Sj
      simp
  | 1, hz =>
    cases hz
    refine ⟨hh, p.2, rfl, hhh, ⟨p, hp, .inr rfl⟩, ?_, fun y f' => ?_⟩
    · unfold Sj
      rintro (⟨h, _⟩ | ⟨_, _, h⟩ | ⟨h, _⟩)
      · exact hnt h
      · exact Gr.ne_ends hp h.symm
      · omega
    · unfold Sj
      constructor
      · rintro ((h | ⟨_, h⟩ | ⟨h, _⟩) | h)
        · exact .inl h
        · exact .inr (.inl ⟨by omega, h⟩)
        · omega
        · exact .inr (.inr ⟨by omega, h⟩)
      · rintro (h | ⟨_, h⟩ | ⟨_, h⟩)
        · exact .inl (.inl h)
        · exact .inl (.inr (.inl ⟨by omega, h⟩))
        · exact .inr h
  | j + 2, hz => simp at hz
def sp_swap_chain (P : Program) (w : World) : Sp := fun vs H Q _ => ∃ (U C E b pr : Addr) (kvs : List (NK × V)) (G : Gr) (n N : Nat) (c : Nat → Nat) (u : En → Nat → Option Nat) (v : En) (a a' : Nat), vs = [.ref U, .ref C, .ref E, .ref b, .ref pr] ∧ NDict P w H U kvs ∧ UD kvs u ∧
  H C = some (.lst (natL N c)) ∧ C ≠ E ∧ EndsAt H E G.es ∧ G.es.length = N ∧ EndAt H b v ∧ EnOk v ∧ (∀ p ∈ G.es, EnOk p.1 ∧ EnOk p.2) ∧ H pr = some (.tup [.int (a : Nat), .int (a' : Nat)]) ∧ G.Ok n c u ∧ u v a' = none ∧ a ≠ a' ∧ G.sd v = true ∧ kvs.length + 2 * N ≤ 100000 ∧
  ∀ H' kvs' u' ch e k, Step [U, C] H H' → NDict P w H' U kvs' → UD kvs' u' → kvs'.length ≤ kvs.length + 2 * N → H' C = some (.lst (natL N (Gr.swp c a a' ch))) → Gr.Chain G n c u v a a' ch e k → u e k = none → Gr.Path G u v a a' ch e k → Gr.Swapped G c u u' a a' ch → Q .non H'
section
variable {P : Program} {w : World} {K : PySem.W.Frag} {mg : Str → Option Value} {base : Heap}
theorem ok_swap_chain (C : Ctx K mg) : Has P w K mg base CX0 1 "swap_chain" ["used", "colours", "ends", "end", "pair"] (sp_swap_chain P w) := by
  obtain ⟨fd, F⟩ := fn_swap_chain C
  refine ⟨⟨_, fd, ?_, gl_swap_chain C, F.kp, F.bindsN fun _ _ _ _ _ _ us hl => match us, hl with | [_, _, _, _, _], _ => rfl⟩⟩
  refine F.ok (CX := CX0) sc_swap_chain (fun vs H Q E h => ?_) (fun cdv A outer s H vs Q E hr h => ?_)
  · first | (obtain ⟨_, rfl, _⟩ := h; rfl; done) | (obtain ⟨_, _, rfl, _⟩ := h; rfl; done) | (obtain ⟨_, _, _, rfl, _⟩ := h; rfl; done) | (obtain ⟨_, _, _, _, rfl, _⟩ := h; rfl; done) | (obtain ⟨_, _, _, _, _, rfl, _⟩ := h; rfl; done) | (obtain ⟨_, _, _, _, _, _, rfl, _⟩ := h; rfl; done) | (obtain ⟨_, _, _, _, _, _, _, rfl, _⟩ := h; rfl; done) | (obtain ⟨_, _, _, _, _, _, _, _, rfl, _⟩ := h; rfl; done) | (obtain ⟨_, _, _, _, _, _, _, _, _, rfl, _⟩ := h; rfl; done) | (obtain ⟨_, _, _, _, _, _, _, _, _, _, rfl, _⟩ := h; rfl; done) | (obtain ⟨_, _, _, _, _, _, _, _, _, _, _, rfl, _⟩ := h; rfl; done) | (obtain ⟨_, _, _, _, _, _, _, _, _, _, _, _, rfl, _⟩ := h; rfl; done) | (obtain ⟨_, _, _, _, _, _, _, _, _, _, _, _, _, rfl, _⟩ := h; rfl; done) | (obtain ⟨_, _, _, _, _, _, _, _, _, _, _, _, _, _, rfl, _⟩ := h; rfl; done) | (obtain ⟨_, _, _, _, _, _, _, _, _, _, _, _, _, _, _, rfl, _⟩ := h; rfl; done) | (obtain ⟨_, _, _, _, _, _, _, _, _, _, _, _, _, _, _, _, rfl, _⟩ := h; rfl; done) | (obtain ⟨_, _, _, _, _, _, _, _, _, _, _, _, _, _, _, _, _, rfl, _⟩ := h; rfl; done) | (obtain ⟨_, _, _, _, _, _, _, _, _, _, _, _, _, _, _, _, _, _, rfl, _⟩ := h; rfl; done) | (obtain ⟨_, _, _, _, _, _, _, _, _, _, _, _, _, _, _, _, _, _, _, rfl, _⟩ := h; rfl; done) | (obtain ⟨_, _, _, _, _, _, _, _, _, _, _, _, _, _, _, _, _, _, _, _, rfl, _⟩ := h; rfl; done) | (obtain ⟨_, _, _, _, _, _, _, _, _, _, _, _, _, _, _, _, _, _, _, _, _, rfl, _⟩ := h; rfl; done) | (rcases h with h | h <;> first | (obtain ⟨_, rfl, _⟩ := h; rfl; done) | (obtain ⟨_, _, rfl, _⟩ := h; rfl; done) | (obtain ⟨_, _, _, rfl, _⟩ := h; rfl; done) | (obtain ⟨_, _, _, _, rfl, _⟩ := h; rfl; done) | (obtain ⟨_, _, _, _, _, rfl, _⟩ := h; rfl; done) | (obtain ⟨_, _, _, _, _, _, rfl, _⟩ := h; rfl; done) | (obtain ⟨_, _, _, _, _, _, _, rfl, _⟩ := h; rfl; done) | (obtain ⟨_, _, _, _, _, _, _, _, rfl, _⟩ := h; rfl; done) | (obtain ⟨_, _, _, _, _, _, _, _, _, rfl, _⟩ := h; rfl; done) | (obtain ⟨_, _, _, _, _, _, _, _, _, _, rfl, _⟩ := h; rfl; done) | (obtain ⟨_, _, _, _, _, _, _, _, _, _, _, rfl, _⟩ := h; rfl; done) | (obtain ⟨_, _, _, _, _, _, _, _, _, _, _, _, rfl, _⟩ := h; rfl; done) | (obtain ⟨_, _, _, _, _, _, _, _, _, _, _, _, _, rfl, _⟩ := h; rfl; done) | (obtain ⟨_, _, _, _, _, _, _, _, _, _, _, _, _, _, rfl, _⟩ := h; rfl; done) | (obtain ⟨_, _, _, _, _, _, _, _, _, _, _, _, _, _, _, rfl, _⟩ := h; rfl; done) | (obtain ⟨_, _, _, _, _, _, _, _, _, _, _, _, _, _, _, _, rfl, _⟩ := h; rfl; done) | (obtain ⟨_, _, _, _, _, _, _, _, _, _, _, _, _, _, _, _, _, rfl, _⟩ := h; rfl; done) | (obtain ⟨_, _, _, _, _, _, _, _, _, _, _, _, _, _, _, _, _, _, rfl, _⟩ := h; rfl; done) | (obtain ⟨_, _, _, _, _, _, _, _, _, _, _, _, _, _, _, _, _, _, _, rfl, _⟩ := h; rfl; done) | (obtain ⟨_, _, _, _, _, _, _, _, _, _, _, _, _, _, _, _, _, _, _, _, rfl, _⟩ := h; rfl; done) | (obtain ⟨_, _, _, _, _, _, _, _, _, _, _, _, _, _, _, _, _, _, _, _, _, rfl, _⟩ := h; rfl; done))
  have hu := hu_of hr
  refine ⟨_, PSs.nox (pss_cons (ps_set (i := 5) sc_swap_chain.nd rfl (Or.inl rfl) (pe_lst pa_nil))
    (pss_cons (ps_set (i := 6) sc_swap_chain.nd rfl (Or.inl rfl) (pe_ix ix_tup (pv 4) pe_int (fun _ _ => rfl)))
    (pss_cons (ps_while PassesOwn.never (pt_cmp (pc_nin (unit5 hr) (pe_tup (pa_cons (pv 3) (pa_cons (pv 6) pa_nil))) (pv 0)))
    (pss_cons (ps_set (i := 7) sc_swap_chain.nd rfl (Or.inl rfl) (pe_nget (unit5 hr) (pv 0) (pe_tup (pa_cons (pv 3) (pa_cons (pv 6) pa_nil))) (fun _ _ => rfl)))
    (pss_cons (ps_expr (pe_bm PySem.F.plainAttrs_list PySem.F.slot_list_append PySem.F.type_list_append mt_append (pv 5) (pa_cons (pv 7) pa_nil)))
    (pss_cons (ps_set (i := 3) sc_swap_chain.nd rfl (Or.inl rfl) (pe_ix ix_tup (pe_ix ix_list (pv 2) (pv 7) (fun _ _ => rfl)) (pe_callTy call_int1 (by rfl) (fr_int C) (by decide +kernel) (pa_cons (pe_cmpR (op_eqD hr.units) (pe_ix ix_tup (pe_ix ix_list (pv 2) (pv 7) (fun _ _ => rfl)) pe_int (fun _ _ => rfl)) (pv 3) (nomark _)) pa_nil)) (fun _ _ => rfl)))
    (pss_one (ps_set (i := 6) sc_swap_chain.nd rfl (Or.inl rfl) (pe_op op_sub (pe_op op_add (pe_ix ix_tup (pv 4) pe_int (fun _ _ => rfl)) (pe_ix ix_tup (pv 4) pe_int (fun _ _ => rfl))) (pv 6))))))))
    (pss_cons (ps_for PassesOwn.never rfl (pi_list (pv 5)) (pg_name (i := 7) sc_swap_chain.nd rfl (Or.inl rfl))
    (pss_one (ps_for PassesOwn.never rfl (pi_tup (pe_ix ix_list (pv 2) (pv 7) (fun _ _ => rfl))) (pg_name (i := 8) sc_swap_chain.nd rfl (Or.inl rfl))
    (pss_one (ps_expr (pe_npop (unit5 hr) (pv 0) (pe_tup (pa_cons (pv 8) (pa_cons (pe_ix ix_list (pv 1) (pv 7) (fun _ _ => rfl)) pa_nil))) (by exact ⟨rfl, rfl, rfl, rfl⟩)))))))
    (pss_one (ps_for PassesOwn.never rfl (pi_list (pv 5)) (pg_name (i := 7) sc_swap_chain.nd rfl (Or.inl rfl))
    (pss_cons (ps_asg (pe_op op_sub (pe_op op_add (pe_ix ix_tup (pv 4) pe_int (fun _ _ => rfl)) (pe_ix ix_tup (pv 4) pe_int (fun _ _ => rfl))) (pe_ix ix_list (pv 1) (pv 7) (fun _ _ => rfl))) (pg_sub (pv 1) (pv 7) set_list))
    (pss_one (ps_for PassesOwn.never rfl (pi_tup (pe_ix ix_list (pv 2) (pv 7) (fun _ _ => rfl))) (pg_name (i := 8) sc_swap_chain.nd rfl (Or.inl rfl))
    (pss_one (ps_asg (pv 7) (pg_sub (pv 0) (pe_tup (pa_cons (pv 8) (pa_cons (pe_ix ix_list (pv 1) (pv 7) (fun _ _ => rfl)) pa_nil))) (set_n (unit5 hr)))))))))))))), ?_⟩
  obtain ⟨U, C, E, b, pr, kvs, G, n, N, c, u, v, a, a', rfl, hU, hud, hC, CE, hE, hN, hb, hbo, heo, hpr, I, hv, hab, hsv, hz, q⟩ := h
  have hnN : n ≤ N := by rw [← hN]; exact I.lt
  have UC : U ≠ C := hU.nl hC
  have EU : E ≠ U := hE.nu hU
  walk_at "go"
  intro L H1 hL s1 eL
  have hU1 := hU.step s1 nt0 (by simp)
  have UL : U ≠ L := hU1.nl eL
  have hC1 := s1.at0 hC
  have CL : C ≠ L := ne_of_none hC hL
  have hE1 := hE.keep s1 nt0 (by simp)
  have EL : E ≠ L := by obtain ⟨ts, h1, _⟩ := id hE; exact ne_of_none h1 hL
  have hpr1 := s1.at0 hpr
  have hb1 : EndAt H1 b v := s1.at0 hb
  walk_at "go"
  refine g_while (fun m σ H' => ∃ (ch : List Nat) (e : En) (k : Nat) (be : Addr) (v7 v8 : Option V), m = N - ch.length ∧ σ = [some (.ref U), some (.ref C), some (.ref E), some (.ref be), some (.ref pr), some (.ref L), some (.int (k : Nat)), v7, v8] ∧
      Gr.Chain G n c u v a a' ch e k ∧ Gr.Path G u v a a' ch e k ∧ EndAt H' be e ∧ EnOk e ∧ Step [L] H1 H' ∧ H' L = some (.lst (ch.map fun x => V.int (x : Nat)))) ⟨[], v, a, b, none, none, rfl, rfl, .start hsv, .nil, hb1, hbo, Step.refl _ _, eL⟩ ?_
  rintro m σ H2 ⟨ch, e, k, be, v7, v8, rfl, rfl, hch, hpa, hbe, hek, s2, eL2⟩
  have hU2 := hU1.step s2 (ntL eL) (by simpa using UL)
  have hC2 := s2.at1 hC1 CL
  have hE2 := hE1.keep s2 (ntL eL) (by simpa using EL)
  have hpr2 := tkeep s2 (ntL eL) hpr1
  walk_at "go"
  intro t H3 ht s3 et
  have hU3 := hU2.step s3 nt0 (by simp)
  walk_at "go"
  refine g_kNIn hU3 (KeyN.of et (s3.at0 hbe)) ?_
  rw [hud.has]
  walk_at "go"
  refine g_iteB (fun hs => ?_) (fun hs => ?_)
  · obtain ⟨x, hx⟩ := Option.isSome_iff_exists.mp hs
    obtain ⟨xn, xi, xc⟩ := I.fw e k x hx
    obtain ⟨p, hp, hpe⟩ := id xi
    walk_at "go"
    intro t2 H4 ht2 s4 et2
    have hU4 := hU3.step s4 nt0 (by simp)
    refine g_kNGet hU4 (KeyN.of et2 (s4.at0 (s3.at0 hbe))) (hud.at_ hx) ?_
    have eL4 := s4.at0 (s3.at0 eL2)
    walk_at "go"
    refine g_append eL4 (ltLine (by rw [List.length_map]; have := Gr.nodup_le hch.nd fun y hy => (hch.mem y hy).1; omega)) fun H5 s5 eL5 => ?_
    have S5 : Step [L] H2 H5 := (s3.up.trans s4.up).trans s5
    have hE5 := hE2.keep S5 (ntL eL2) (by simpa using EL)
    obtain ⟨ts, t3, g, hh, hE6, hx3, ht3, hg, hhh⟩ := hE5.get hp
    have hbe5 : EndAt H5 be e := tkeep S5 (ntL eL2) hbe
    have hpr5 := tkeep S5 (ntL eL2) hpr2
    walk_at "go"
    refine g_ixL hE6 (at_nat hx3) ?_
    walk_at "go"
    refine g_ixL hE6 (at_nat hx3) ?_
    walk_at "go"
    refine g_eqC cE ⟨g, rfl, hg⟩ ⟨be, rfl, hbe5⟩ (heo p (List.mem_of_getElem? hp)).1 hek ?_
    walk_at "go"
    refine .inr ⟨_, rfl, ?_⟩
    have hoth : ∃ bo, atI [V.ref g, V.ref hh] (if decide (p.1 = e) = true then 1 else 0) = some (.ref bo) ∧ EndAt H5 bo (G.oth x e) := by
      unfold Gr.oth
      rw [hp]
      by_cases z : p.1 = e
      · rw [if_pos (decide_eq_true z)]
        exact ⟨hh, rfl, by dsimp only; rw [if_pos z]; exact hhh⟩
      · rw [if_neg (by simp [z])]
        exact ⟨g, rfl, by dsimp only; rw [if_neg z]; exact hg⟩
    obtain ⟨bo, hbo1, hbo2⟩ := hoth
    refine g_ixT ht3 hbo1 ?_
    walk_at "go"
    have C2 := hch.step I hab hv hx
    have k2 := hch.k2
    have hok2 : EnOk (G.oth x e) := by
      unfold Gr.oth
      rw [hp]
      dsimp only
      split
      · exact (heo p (List.mem_of_getElem? hp)).2
      · exact (heo p (List.mem_of_getElem? hp)).1
    refine ⟨N - (ch.length + 1), ?_, ch ++ [x], _, _, bo, some (.int (x : Nat)), v8, ?_, ?_, C2, hpa.snoc hx, hbo2, hok2, s2.trans S5, by rw [List.map_append]; exact eL5⟩
    · have := Gr.nodup_le C2.nd fun y hy => (C2.mem y hy).1
      rw [List.length_append] at this
      simp only [List.length_singleton] at this
      omega
    · rw [List.length_append]; rfl
    · have : ((a + a' - k : Nat) : Int) = (a : Int) + (a' : Int) - (k : Int) := by omega
      rw [this]; rfl
  · have hend : u e k = none := by
      cases z : u e k with
      | none => rfl
      | some y => rw [z] at hs; cases hs
    have hE3 := hE2.keep s3 nt0 (by simp)
    have eL3 := s3.at0 eL2
    have hC3 := s3.at0 hC2
    have hpr3 := s3.at0 hpr2
    have S3 : Step [] H H3 := (s1.via s2 hL).trans s3
    walk_at "go"
    refine wFor_list (xs := ch.map fun x => V.int (x : Nat)) (fun i σ H' => ∃ (v7 v8 : Option V) (kvs' : List (NK × V)) (u' : En → Nat → Option Nat), σ = [some (.ref U), some (.ref C), some (.ref E), some (.ref be), some (.ref pr), some (.ref L), some (.int (k : Nat)), v7, v8] ∧
      NDict P w H' U kvs' ∧ UD kvs' u' ∧ kvs'.length ≤ kvs.length ∧ Gr.Out G u u' (fun y f => y ∈ ch.take i ∧ G.inc y f) ∧ Step [U] H3 H') ⟨v7, v8, kvs, u, rfl, hU3, hud, Nat.le_refl _, Gr.Out.start.congr (fun y f => by simp), Step.refl _ _⟩ ?_ ?_ ?_
    · rintro i σ H' _ ⟨w7, w8, kvs', u', rfl, h1, h2, h3, h4, h5⟩
      exact h5.at1 eL3 UL.symm
    · rintro i z σ H4 hz' ⟨w7, w8, kvs', u', rfl, h1, h2, h3, h4, h5⟩
      rw [List.getElem?_map, Option.map_eq_some_iff] at hz'
      obtain ⟨x, hx, rfl⟩ := hz'
      obtain ⟨xn, xc⟩ := hch.mem x (List.mem_of_getElem? hx)
      obtain ⟨p, hp⟩ : ∃ p, G.es[x]? = some p := ⟨_, List.getElem?_eq_getElem (by omega)⟩
      have hE4 := hE3.keep h5 (ntU hU3) (by simpa using EU)
      obtain ⟨ts, t3, g, hh, hE6, hx3, ht3, hg, hhh⟩ := hE4.get hp
      walk_at "go"
      refine g_ixL hE6 (at_nat hx3) ?_
      walk_at "go"
      refine wFor_tup (xs := [.ref g, .ref hh]) (fun j σ H' => ∃ (v8 : Option V) (kvs' : List (NK × V)) (u' : En → Nat → Option Nat), σ = [some (.ref U), some (.ref C), some (.ref E), some (.ref be), some (.ref pr), some (.ref L), some (.int (k : Nat)), some (.int (x : Nat)), v8] ∧
        NDict P w H' U kvs' ∧ UD kvs' u' ∧ kvs'.length ≤ kvs.length ∧ Gr.Out G u u' (Sj G ch i x p j) ∧ Step [U] H4 H') ⟨w8, kvs', u', rfl, h1, h2, h3, h4.congr sj_0, Step.refl _ _⟩ ?_ ?_ ?_
      · rintro j σ H' _ ⟨y8, kvs2, u2, rfl, g1, g2, g3, g4, g5⟩
        exact tkeep g5 (ntU h1) ht3
      · rintro j z σ H5 hz2 ⟨y8, kvs2, u2, rfl, g1, g2, g3, g4, g5⟩
        obtain ⟨bo, f, rfl, hbo3, hinc, hno, hiff⟩ := sj_step hp hx hch.nd hz2 (show EndAt H5 g p.1 from tkeep g5 (ntU h1) hg) (show EndAt H5 hh p.2 from tkeep g5 (ntU h1) hhh)
        have hC5 := (h5.trans g5).at1 hC3 UC.symm
        walk_at "go"
        refine g_kNPop g1 ?_
        walk_at "go"
        refine g_ixL hC5 (at_nat (natL_get (by omega))) ?_
        walk_at "go"
        intro t5 H6 ht5 s6 et5
        have g16 := g1.step s6 nt0 (by simp)
        refine g_kNPop2 g16 (KeyN.of et5 (s6.at0 hbo3)) (g2.at_ (g4.keep _ _ _ (I.bw x f xn hinc) hno)) fun H7 s7 d7 => ?_
        walk_at "go"
        exact ⟨_, _, _, rfl, d7, g2.drop _ _, Nat.le_trans (dropK_le _ _) g3, (g4.pop I xn hinc).congr hiff, (g5.trans s6.up).trans s7⟩
      · rintro σ H5 ⟨y8, kvs2, u2, rfl, g1, g2, g3, g4, g5⟩
        exact ⟨_, _, _, _, rfl, g1, g2, g3, g4.congr (sj_2 hp hx), h5.trans g5⟩
    · rintro σ H4 ⟨w7, w8, kvs', u', rfl, h1, h2, h3, h4, h5⟩
      rw [List.length_map, List.take_length] at h4
      have eL4 := h5.at1 eL3 UL.symm
      have hC4 := h5.at1 hC3 UC.symm
      have hE4 := hE3.keep h5 (ntU hU3) (by simpa using EU)
      have hpr4 := tkeep h5 (ntU hU3) hpr3
      walk_at "go"
      refine wFor_list (xs := ch.map fun x => V.int (x : Nat)) (fun i σ H' => ∃ (v7 v8 : Option V) (kvs' : List (NK × V)) (u' : En → Nat → Option Nat), σ = [some (.ref U), some (.ref C), some (.ref E), some (.ref be), some (.ref pr), some (.ref L), some (.int (k : Nat)), v7, v8] ∧
        NDict P w H' U kvs' ∧ UD kvs' u' ∧ kvs'.length ≤ kvs.length + 2 * i ∧ Gr.Swg G c u u' a a' ch (fun y f => y ∈ ch.take i ∧ G.inc y f) ∧ H' C = some (.lst (natL N (Gr.swp c a a' (ch.take i)))) ∧ Step [U, C] H4 H')
        ⟨w7, w8, kvs', u', rfl, h1, h2, by omega, (Gr.Swg.start h4 (fun x f z => z.1) (fun x f j hx hux => ⟨hx, (I.fw _ _ _ hux).2.1⟩)).congr (fun y f => by simp), by rw [natL_congr (d := c) fun x _ => by simp [Gr.swp]]; exact hC4, Step.refl _ _⟩ ?_ ?_ ?_
      · rintro i σ H' _ ⟨y7, y8, kvs2, u2, rfl, g1, g2, g3, g4, g5, g6⟩
        exact g6.at2 eL4 UL.symm CL.symm
      · rintro i z σ H5 hz' ⟨y7, y8, kvs2, u2, rfl, g1, g2, g3, g4, g5, g6⟩
        rw [List.getElem?_map, Option.map_eq_some_iff] at hz'
        obtain ⟨x, hx, rfl⟩ := hz'
        have hi : i < ch.length := (List.getElem?_eq_some_iff.mp hx).1
        have hcn := Gr.nodup_le hch.nd fun y hy => (hch.mem y hy).1
        have hxm := List.mem_of_getElem? hx
        obtain ⟨xn, xc⟩ := hch.mem x hxm
        have xN : x < N := by omega
        have hnt := nd_take hch.nd hx
        obtain ⟨p, hp⟩ : ∃ p, G.es[x]? = some p := ⟨_, List.getElem?_eq_getElem (by omega)⟩
        have hpr5 := tkeep g6 (ntUC h1 hC4) hpr4
        walk_at "go"
        refine g_ixL g5 (at_nat (natL_get xN)) ?_
        walk_at "go"
        refine g_setL g5 (ixN_nat (by rw [natL_len]; exact xN)) fun H6 s6 eC6 => ?_
        have esw : Gr.swp c a a' (ch.take i) x = c x := by unfold Gr.swp; rw [if_neg hnt]
        rw [esw] at eC6
        rw [show (a : Int) + (a' : Int) - (c x : Nat) = ((a + a' - c x : Nat) : Int) by omega, natL_set xN, natL_congr (d := Gr.swp c a a' (ch.take (i + 1))) (fun y _ => by
          unfold Gr.swp
          by_cases hy : y = x
          · subst hy
            rw [if_pos rfl, if_pos ((take_mem hx y).mpr (.inr rfl))]
          · rw [if_neg hy]
            by_cases hy2 : y ∈ ch.take i
            · rw [if_pos hy2, if_pos ((take_mem hx y).mpr (.inl hy2))]
            · rw [if_neg hy2, if_neg (fun z => ((take_mem hx y).mp z).elim hy2 hy)])] at eC6
        have esw2 : Gr.swp c a a' (ch.take (i + 1)) x = a + a' - c x := by unfold Gr.swp; rw [if_pos ((take_mem hx x).mpr (.inr rfl))]
        have g16 := g1.step s6 (ntL g5) (by simpa using UC)
        have S6 : Step [U, C] H4 H6 := g6.trans (s6.sub1 _ (by simp))
        have hE6 := hE4.keep S6 (ntUC h1 hC4) (by simp [EU, CE.symm])
        obtain ⟨ts, t3, g, hh, hE7, hx3, ht3, hg, hhh⟩ := hE6.get hp
        walk_at "go"
        refine g_ixL hE7 (at_nat hx3) ?_
        walk_at "go"
        refine wFor_tup (xs := [.ref g, .ref hh]) (fun j σ H' => ∃ (v8 : Option V) (kvs' : List (NK × V)) (u' : En → Nat → Option Nat), σ = [some (.ref U), some (.ref C), some (.ref E), some (.ref be), some (.ref pr), some (.ref L), some (.int (k : Nat)), some (.int (x : Nat)), v8] ∧
          NDict P w H' U kvs' ∧ UD kvs' u' ∧ kvs'.length ≤ kvs.length + 2 * i + j ∧ Gr.Swg G c u u' a a' ch (Sj G ch i x p j) ∧ Step [U] H6 H') ⟨y8, kvs2, u2, rfl, g16, g2, g3, g4.congr sj_0, Step.refl _ _⟩ ?_ ?_ ?_
        · rintro j σ H' _ ⟨x8, kvs3, u3, rfl, f1, f2, f3, f4, f5⟩
          exact tkeep f5 (ntU g16) ht3
        · rintro j z σ H7 hz2 ⟨x8, kvs3, u3, rfl, f1, f2, f3, f4, f5⟩
          have hj : j < 2 := (List.getElem?_eq_some_iff.mp hz2).1
          obtain ⟨bo, f, rfl, hbo3, hinc, hno, hiff⟩ := sj_step hp hx hch.nd hz2 (show EndAt H7 g p.1 from tkeep f5 (ntU g16) hg) (show EndAt H7 hh p.2 from tkeep f5 (ntU g16) hhh)
          have hC7 := f5.at1 eC6 UC.symm
          walk_at "go"
          refine g_ixL hC7 (at_nat (natL_get xN)) ?_
          walk_at "go"
          intro t5 H8 ht5 s8 et5
          rw [esw2] at et5
          have f18 := f1.step s8 nt0 (by simp)
          refine g_nset f18 (KeyN.of et5 (s8.at0 hbo3)) (ltLine (by omega)) fun H9 s9 d9 => ?_
          refine ⟨_, _, _, rfl, d9, f2.put _ _ _, ?_, (f4.put I hab hv hch hend (fun y f' hs2 => ?_) hxm hinc).congr hiff, (f5.trans s8.up).trans s9⟩
          · have := length_putK kvs3 (f, ((a + a' - c x : Nat) : Int)) (V.int (x : Nat))
            omega
          · rcases hs2 with ⟨q1, q2⟩ | ⟨_, rfl, rfl⟩ | ⟨_, rfl, rfl⟩
            · exact ⟨List.mem_of_mem_take q1, q2⟩
            · exact ⟨hxm, ⟨p, hp, .inl rfl⟩⟩
            · exact ⟨hxm, ⟨p, hp, .inr rfl⟩⟩
        · rintro σ H7 ⟨x8, kvs3, u3, rfl, f1, f2, f3, f4, f5⟩
          refine ⟨_, _, _, _, rfl, f1, f2, ?_, f4.congr (sj_2 hp hx), f5.at1 eC6 UC.symm, S6.trans (f5.sub1 _ (by simp))⟩
          simp only [List.length_cons, List.length_nil] at f3
          omega
      · rintro σ H5 ⟨y7, y8, kvs2, u2, rfl, g1, g2, g3, g4, g5, g6⟩
        rw [List.length_map] at g3 g4 g5
        rw [List.take_length] at g4 g5
        walk_at "go"
        have hcn := Gr.nodup_le hch.nd fun y hy => (hch.mem y hy).1
        refine q H5 kvs2 u2 ch e k ((S3.up.trans (h5.sub1 _ (by simp))).trans g6) g1 g2 (by omega) g5 hch hend hpa (g4.done fun _ _ => Iff.rfl)
end

end My
namespace My
open PySem PySem.Spec PyProof.Rows L2
/-! the colours -/
theorem P_of_get {α β : Type} {F : α → β → Prop} : ∀ {l1 : List α} {l2 : List β}, l1.length = l2.length → (∀ (j : Nat) x y, l1[j]? = some x → l2[j]? = some y → F x y) → Paired F l1 l2
  | [], [], _, _ => .nil
  | x :: l1, y :: l2, hl, h => .cons (h 0 x y rfl rfl) (P_of_get (by simpa using hl) fun j a b ha hb => h (j + 1) a b (by simpa using ha) (by simpa using hb))
theorem ok_alone : StrOk ("alone" : Str) := by unfold StrOk PyData.strOk; decide +kernel
theorem ok_gives : StrOk ("gives" : Str) := by unfold StrOk PyData.strOk; decide +kernel
theorem ok_gets : StrOk ("gets" : Str) := by unfold StrOk PyData.strOk; decide +kernel
theorem mapref_inj : ∀ {xs ys : List Addr}, xs.map V.ref = ys.map V.ref → xs = ys
  | [], [], _ => rfl
  | x :: xs, y :: ys, h => by
    rw [List.map_cons, List.map_cons] at h
    injection h with h1 h2
    injection h1 with h1
    rw [h1, mapref_inj h2]
structure MvS (m : Mv) : Prop where
  to : StrOk m.2.2.2
  fr : ∀ h, m.2.2.1 = some h → StrOk h
theorem enok (m : Mv) (h : MvS m) (i : Nat) : EnOk (givE i m) ∧ EnOk (takE m) := by
  constructor
  · intro s hs
    unfold givE at hs
    cases e : m.2.2.1 with
    | none =>
      rw [e] at hs
      simp at hs
      rw [hs]; exact ok_alone
    | some z =>
      rw [e] at hs
      simp at hs
      rcases hs with rfl | rfl
      · exact h.fr _ e
      · exact ok_gives
  · intro s hs
    unfold takE at hs
    simp at hs
    rcases hs with rfl | rfl
    · exact h.to
    · exact ok_gets
theorem natL_succ {N : Nat} {c : Nat → Nat} : natL (N + 1) c = natL N c ++ [V.int (c N : Nat)] := by unfold natL; rw [List.range_succ, List.map_append]; rfl
theorem deg_len {G : Gr} {n : Nat} {e : En} : G.deg n e ≤ n := by
  unfold Gr.deg
  refine Nat.le_trans (List.length_filter_le _ _) ?_
  rw [List.length_take]; omega
theorem Gr.Ok.start {G : Gr} : G.Ok 0 (fun _ => 0) (fun _ _ => none) := ⟨Nat.zero_le _, fun _ _ _ h => (nomatch h), fun _ _ h => absurd h (Nat.not_lt_zero _)⟩
/-- the colours as they are found: which ones they are -/
inductive Col (G : Gr) : Nat → (Nat → Nat) → (En → Nat → Option Nat) → Prop
  | zero : Col G 0 (fun _ => 0) (fun _ _ => none)
  | plain {i : Nat} {c : Nat → Nat} {u : En → Nat → Option Nat} {p : En × En} {a : Nat} : Col G i c u → G.es[i]? = some p → (∀ j, j < a → (u p.1 j).isSome = true) → u p.1 a = none → u p.2 a = none →
      Col G (i + 1) (fun x => if x = i then a else c x) (updU (updU u p.1 a (some i)) p.2 a (some i))
  | swap {i : Nat} {c : Nat → Nat} {u u1 : En → Nat → Option Nat} {p : En × En} {a b : Nat} {ch : List Nat} {e : En} {k : Nat} : Col G i c u → G.es[i]? = some p → (∀ j, j < a → (u p.1 j).isSome = true) → u p.1 a = none → (∀ j, j < b → (u p.2 j).isSome = true) → u p.2 b = none →
      (u p.2 a).isSome = true → Gr.Path G u p.2 a b ch e k → u e k = none → Gr.Swapped G c u u1 a b ch →
      Col G (i + 1) (fun x => if x = i then a else Gr.swp c a b ch x) (updU (updU u1 p.1 a (some i)) p.2 a (some i))
theorem least_eq {f : Nat → Option Nat} {a b : Nat} (h1 : ∀ j, j < a → (f j).isSome = true) (h2 : f a = none) (h3 : ∀ j, j < b → (f j).isSome = true) (h4 : f b = none) : a = b := by
  rcases Nat.lt_trichotomy a b with h | h | h
  · have := h3 a h; rw [h2] at this; cases this
  · exact h
  · have := h1 b h; rw [h4] at this; cases this
theorem path_len {G : Gr} {u : En → Nat → Option Nat} {v : En} {a b : Nat} {ch : List Nat} {e : En} {k : Nat} (h : Gr.Path G u v a b ch e k) : ∀ {ch' : List Nat} {e' : En} {k' : Nat}, Gr.Path G u v a b ch' e' k' → u e' k' = none → ch.length ≤ ch'.length ∧ (ch.length = ch'.length → ch = ch' ∧ e = e' ∧ k = k') := by
  have key : ∀ {ch : List Nat} {e : En} {k : Nat}, Gr.Path G u v a b ch e k → ∀ {ch' : List Nat} {e' : En} {k' : Nat}, Gr.Path G u v a b ch' e' k' → ch.length = ch'.length → ch = ch' ∧ e = e' ∧ k = k' := by
    intro ch e k h
    induction h with
    | nil =>
      intro ch' e' k' h' hl
      cases h' with
      | nil => exact ⟨rfl, rfl, rfl⟩
      | snoc p q => simp at hl
    | snoc p q ih =>
      intro ch' e' k' h' hl
      cases h' with
      | nil => simp at hl
      | snoc p' q' =>
        obtain ⟨h1, h2, h3⟩ := ih p' (by simpa using hl)
        subst h1 h2 h3
        rw [q] at q'
        cases q'
        exact ⟨rfl, rfl, rfl⟩
  have le : ∀ {ch' : List Nat} {e' : En} {k' : Nat}, Gr.Path G u v a b ch' e' k' → u e' k' = none → ∀ {ch : List Nat} {e : En} {k : Nat}, Gr.Path G u v a b ch e k → ch.length ≤ ch'.length := by
    intro ch' e' k' h' hn ch e k h
    induction h with
    | nil => exact Nat.zero_le _
    | @snoc ch e k x p q ih =>
      rcases Nat.lt_or_ge ch.length ch'.length with hl | hl
      · rw [List.length_append, List.length_singleton]; omega
      · obtain ⟨h1, h2, h3⟩ := key p h' (by omega)
        subst h1 h2 h3
        rw [hn] at q; cases q
  intro ch' e' k' h' hn
  exact ⟨le h' hn h, key h h'⟩
theorem path_eq {G : Gr} {u : En → Nat → Option Nat} {v : En} {a b : Nat} {ch ch' : List Nat} {e e' : En} {k k' : Nat} (h : Gr.Path G u v a b ch e k) (hn : u e k = none) (h' : Gr.Path G u v a b ch' e' k') (hn' : u e' k' = none) : ch = ch' :=
  ((path_len h h' hn').2 (Nat.le_antisymm (path_len h h' hn').1 (path_len h' h hn).1)).1
theorem swapped_eq {G : Gr} {c : Nat → Nat} {u u1 u2 : En → Nat → Option Nat} {a b : Nat} {ch : List Nat} (h1 : Gr.Swapped G c u u1 a b ch) (h2 : Gr.Swapped G c u u2 a b ch) : u1 = u2 := by
  have key : ∀ {u1 u2 : En → Nat → Option Nat}, Gr.Swapped G c u u1 a b ch → Gr.Swapped G c u u2 a b ch → ∀ e k x, u1 e k = some x → u2 e k = some x := by
    intro u1 u2 h1 h2 e k x hx
    rcases h1.fw e k x hx with ⟨g1, g2, g3⟩ | ⟨g1, g2⟩
    · rw [← g3]; exact h2.new x g1 e g2
    · exact h2.old e k x g1 g2
  funext e k
  cases q : u1 e k with
  | some x => exact (key h1 h2 e k x q).symm
  | none =>
    cases r : u2 e k with
    | none => rfl
    | some y => rw [key h2 h1 e k y r] at q; cases q
theorem Col.eq {G : Gr} {i : Nat} {c : Nat → Nat} {u : En → Nat → Option Nat} (h : Col G i c u) : ∀ {c' : Nat → Nat} {u' : En → Nat → Option Nat}, Col G i c' u' → c = c' ∧ u = u' := by
  induction h with
  | zero =>
    intro c' u' h'
    cases h' with
    | zero => exact ⟨rfl, rfl⟩
  | plain h hp a1 a2 a3 ih =>
    intro c' u' h'
    cases h' with
    | plain h' hp' b1 b2 b3 =>
      obtain ⟨rfl, rfl⟩ := ih h'
      rw [hp] at hp'
      cases hp'
      have := least_eq a1 a2 b1 b2
      subst this
      exact ⟨rfl, rfl⟩
    | swap h' hp' b1 b2 b3 b4 b5 b6 b7 b8 =>
      obtain ⟨rfl, rfl⟩ := ih h'
      rw [hp] at hp'
      cases hp'
      have := least_eq a1 a2 b1 b2
      subst this
      rw [a3] at b5; cases b5
  | swap h hp a1 a2 a3 a4 a5 a6 a7 a8 ih =>
    intro c' u' h'
    cases h' with
    | plain h' hp' b1 b2 b3 =>
      obtain ⟨rfl, rfl⟩ := ih h'
      rw [hp] at hp'
      cases hp'
      have := least_eq a1 a2 b1 b2
      subst this
      rw [b3] at a5; cases a5
    | swap h' hp' b1 b2 b3 b4 b5 b6 b7 b8 =>
      obtain ⟨rfl, rfl⟩ := ih h'
      rw [hp] at hp'
      cases hp'
      have := least_eq a1 a2 b1 b2
      subst this
      have := least_eq a3 a4 b3 b4
      subst this
      have := path_eq a6 a7 b6 b7
      subst this
      have := swapped_eq a8 b8
      subst this
      exact ⟨rfl, rfl⟩
def sp_colours_of : Sp := fun vs H Q _ => ∃ (M : Addr) (ms : List Mv), vs = [.ref M] ∧ rL rMv H (.ref M) ms ∧ ms.length ≤ 100 ∧ (∀ m ∈ ms, MvS m) ∧
  ∀ D c u H', H D = none → Step [] H H' → H' D = some (.lst (natL ms.length c)) → (mvG ms).Ok ms.length c u → (∀ Dm, (∀ e, (mvG ms).deg ms.length e ≤ Dm) → ∀ i, i < ms.length → c i < Dm) → Col (mvG ms) ms.length c u → Q (.ref D) H'
section
variable {P : Program} {w : World} {K : PySem.W.Frag} {mg : Str → Option Value} {base : Heap}
theorem ok_colours_of (C : Ctx K mg) : Has P w K mg base CX0 2 "colours_of" ["moves"] sp_colours_of := by
  obtain ⟨fd, F⟩ := fn_colours_of C
  obtain ⟨f_free_colour, fd_free_colour, G_free_colour, mg_free_colour, kp_free_colour, b_free_colour⟩ := (ok_free_colour (P := P) (w := w) (base := base) C).ex
  obtain ⟨f_swap_chain, fd_swap_chain, G_swap_chain, mg_swap_chain, kp_swap_chain, b_swap_chain⟩ := (ok_swap_chain (P := P) (w := w) (base := base) C).ex
  refine ⟨⟨_, fd, ?_, gl_colours_of C, F.kp, F.bindsN fun _ _ _ _ _ _ us hl => match us, hl with | [_], _ => rfl⟩⟩
  refine F.ok (CX := CX0) sc_colours_of (fun vs H Q E h => ?_) (fun cdv A outer s H vs Q E hr h => ?_)
  · first | (obtain ⟨_, rfl, _⟩ := h; rfl; done) | (obtain ⟨_, _, rfl, _⟩ := h; rfl; done) | (obtain ⟨_, _, _, rfl, _⟩ := h; rfl; done) | (obtain ⟨_, _, _, _, rfl, _⟩ := h; rfl; done) | (obtain ⟨_, _, _, _, _, rfl, _⟩ := h; rfl; done) | (obtain ⟨_, _, _, _, _, _, rfl, _⟩ := h; rfl; done) | (obtain ⟨_, _, _, _, _, _, _, rfl, _⟩ := h; rfl; done) | (obtain ⟨_, _, _, _, _, _, _, _, rfl, _⟩ := h; rfl; done) | (obtain ⟨_, _, _, _, _, _, _, _, _, rfl, _⟩ := h; rfl; done) | (obtain ⟨_, _, _, _, _, _, _, _, _, _, rfl, _⟩ := h; rfl; done) | (obtain ⟨_, _, _, _, _, _, _, _, _, _, _, rfl, _⟩ := h; rfl; done) | (obtain ⟨_, _, _, _, _, _, _, _, _, _, _, _, rfl, _⟩ := h; rfl; done) | (obtain ⟨_, _, _, _, _, _, _, _, _, _, _, _, _, rfl, _⟩ := h; rfl; done) | (obtain ⟨_, _, _, _, _, _, _, _, _, _, _, _, _, _, rfl, _⟩ := h; rfl; done) | (obtain ⟨_, _, _, _, _, _, _, _, _, _, _, _, _, _, _, rfl, _⟩ := h; rfl; done) | (obtain ⟨_, _, _, _, _, _, _, _, _, _, _, _, _, _, _, _, rfl, _⟩ := h; rfl; done) | (obtain ⟨_, _, _, _, _, _, _, _, _, _, _, _, _, _, _, _, _, rfl, _⟩ := h; rfl; done) | (obtain ⟨_, _, _, _, _, _, _, _, _, _, _, _, _, _, _, _, _, _, rfl, _⟩ := h; rfl; done) | (obtain ⟨_, _, _, _, _, _, _, _, _, _, _, _, _, _, _, _, _, _, _, rfl, _⟩ := h; rfl; done) | (obtain ⟨_, _, _, _, _, _, _, _, _, _, _, _, _, _, _, _, _, _, _, _, rfl, _⟩ := h; rfl; done) | (obtain ⟨_, _, _, _, _, _, _, _, _, _, _, _, _, _, _, _, _, _, _, _, _, rfl, _⟩ := h; rfl; done) | (rcases h with h | h <;> first | (obtain ⟨_, rfl, _⟩ := h; rfl; done) | (obtain ⟨_, _, rfl, _⟩ := h; rfl; done) | (obtain ⟨_, _, _, rfl, _⟩ := h; rfl; done) | (obtain ⟨_, _, _, _, rfl, _⟩ := h; rfl; done) | (obtain ⟨_, _, _, _, _, rfl, _⟩ := h; rfl; done) | (obtain ⟨_, _, _, _, _, _, rfl, _⟩ := h; rfl; done) | (obtain ⟨_, _, _, _, _, _, _, rfl, _⟩ := h; rfl; done) | (obtain ⟨_, _, _, _, _, _, _, _, rfl, _⟩ := h; rfl; done) | (obtain ⟨_, _, _, _, _, _, _, _, _, rfl, _⟩ := h; rfl; done) | (obtain ⟨_, _, _, _, _, _, _, _, _, _, rfl, _⟩ := h; rfl; done) | (obtain ⟨_, _, _, _, _, _, _, _, _, _, _, rfl, _⟩ := h; rfl; done) | (obtain ⟨_, _, _, _, _, _, _, _, _, _, _, _, rfl, _⟩ := h; rfl; done) | (obtain ⟨_, _, _, _, _, _, _, _, _, _, _, _, _, rfl, _⟩ := h; rfl; done) | (obtain ⟨_, _, _, _, _, _, _, _, _, _, _, _, _, _, rfl, _⟩ := h; rfl; done) | (obtain ⟨_, _, _, _, _, _, _, _, _, _, _, _, _, _, _, rfl, _⟩ := h; rfl; done) | (obtain ⟨_, _, _, _, _, _, _, _, _, _, _, _, _, _, _, _, rfl, _⟩ := h; rfl; done) | (obtain ⟨_, _, _, _, _, _, _, _, _, _, _, _, _, _, _, _, _, rfl, _⟩ := h; rfl; done) | (obtain ⟨_, _, _, _, _, _, _, _, _, _, _, _, _, _, _, _, _, _, rfl, _⟩ := h; rfl; done) | (obtain ⟨_, _, _, _, _, _, _, _, _, _, _, _, _, _, _, _, _, _, _, rfl, _⟩ := h; rfl; done) | (obtain ⟨_, _, _, _, _, _, _, _, _, _, _, _, _, _, _, _, _, _, _, _, rfl, _⟩ := h; rfl; done) | (obtain ⟨_, _, _, _, _, _, _, _, _, _, _, _, _, _, _, _, _, _, _, _, _, rfl, _⟩ := h; rfl; done))
  have hu := hu_of hr
  refine ⟨_, PSs.nox (pss_cons (ps_setLc (i := 2) (own := [("at", 1), ("move", 10)]) (g := (gTup K 2 (gCons (gName 1) (gCons (gName 10) gNil)))) (tt := tYes) rfl sc_colours_of.nd rfl rfl (sw_true rfl rfl rfl (by decide +kernel)) (pi_enum (by rfl) (fr_enumerate C) (pa_cons (pv 0) pa_nil)) (blkOk_by (N := N_colours_of) (sc := defScope s_colours_of) (own := [("at", 1), ("move", 10)]) (by decide +kernel)) (fun _ _ _ _ _ => (pg_tup rfl (pgs_cons (pg_name (i := 1) sc_colours_of.nd rfl (Or.inl rfl)) (pgs_cons (pg_name (i := 10) sc_colours_of.nd rfl (Or.inl rfl)) pgs_nil)))) (fun _ _ _ _ _ => pts_nil) (fun _ _ _ _ _ => (pe_ifExp (pt_cmpR op_isN (pe_ix (kIx (K := K) (r := rIxT) ix_tup) (pv 10) pe_int (fun _ _ => rfl)) pe_non (nomark _)) (pe_tup (pa_cons (pv 1) (pa_cons pe_str pa_nil))) (pe_tup (pa_cons (pe_ix (kIx (K := K) (r := rIxT) ix_tup) (pv 10) pe_int (fun _ _ => rfl)) (pa_cons pe_str pa_nil))))))
    (pss_cons (ps_setLc (i := 3) (own := [("giver", 11), ("move", 10)]) (g := (gTup K 2 (gCons (gName 11) (gCons (gName 10) gNil)))) (tt := tYes) rfl sc_colours_of.nd rfl rfl (sw_true rfl rfl rfl (by decide +kernel)) (pi_zip (by rfl) (fr_zip C) (pa_cons (pv 2) (pa_cons (pv 0) pa_nil))) (blkOk_by (N := N_colours_of) (sc := defScope s_colours_of) (own := [("giver", 11), ("move", 10)]) (by decide +kernel)) (fun _ _ _ _ _ => (pg_tup rfl (pgs_cons (pg_name (i := 11) sc_colours_of.nd rfl (Or.inl rfl)) (pgs_cons (pg_name (i := 10) sc_colours_of.nd rfl (Or.inl rfl)) pgs_nil)))) (fun _ _ _ _ _ => pts_nil) (fun _ _ _ _ _ => (pe_tup (pa_cons (pv 11) (pa_cons (pe_tup (pa_cons (pe_ix (kIx (K := K) (r := rIxT) ix_tup) (pv 10) pe_int (fun _ _ => rfl)) (pa_cons pe_str pa_nil))) pa_nil)))))
    (pss_cons (ps_setLc (i := 4) (own := [("move", 10)]) (g := (gName 10)) (tt := tYes) rfl sc_colours_of.nd rfl rfl (sw_true rfl rfl rfl (by decide +kernel)) (pi_list (pv 0)) (blkOk_by (N := N_colours_of) (sc := defScope s_colours_of) (own := [("move", 10)]) (by decide +kernel)) (fun _ _ _ _ _ => (pg_name (i := 10) sc_colours_of.nd rfl (Or.inl rfl))) (fun _ _ _ _ _ => pts_nil) (fun _ _ _ _ _ => pe_int))
    (pss_cons (ps_set (i := 5) sc_colours_of.nd rfl (Or.inl rfl) pe_nnew)
    (pss_cons (ps_for PassesOwn.never rfl (pi_enum (by rfl) (fr_enumerate C) (pa_cons (pv 3) pa_nil)) (pg_tup rfl (pgs_cons (pg_name (i := 1) sc_colours_of.nd rfl (Or.inl rfl)) (pgs_cons (pg_tup rfl (pgs_cons (pg_name (i := 6) sc_colours_of.nd rfl (Or.inl rfl)) (pgs_cons (pg_name (i := 7) sc_colours_of.nd rfl (Or.inl rfl)) pgs_nil))) pgs_nil)))
    (pss_cons (ps_set (i := 8) sc_colours_of.nd rfl (Or.inl rfl) (pe_call G_free_colour (hr.mono (by decide)) rfl mg_free_colour kp_free_colour b_free_colour .nil pass0 (pa_cons (pv 5) (pa_cons (pv 6) pa_nil))))
    (pss_cons (ps_set (i := 9) sc_colours_of.nd rfl (Or.inl rfl) (pe_call G_free_colour (hr.mono (by decide)) rfl mg_free_colour kp_free_colour b_free_colour .nil pass0 (pa_cons (pv 5) (pa_cons (pv 7) pa_nil))))
    (pss_cutM (ps_if (pt_cmp (pc_nin (unit5 hr) (pe_tup (pa_cons (pv 7) (pa_cons (pv 8) pa_nil))) (pv 5))) (pss_one (ps_expr (pe_call G_swap_chain (hr.mono (by decide)) rfl mg_swap_chain kp_swap_chain b_swap_chain .nil pass0 (pa_cons (pv 5) (pa_cons (pv 4) (pa_cons (pv 3) (pa_cons (pv 7) (pa_cons (pe_tup (pa_cons (pv 8) (pa_cons (pv 9) pa_nil))) pa_nil)))))))) pss_nil)
    (pss_cons (ps_asg (pv 8) (pg_sub (pv 4) (pv 1) set_list))
    (pss_one (ps_asg2 (pv 1) (pg_sub (pv 5) (pe_tup (pa_cons (pv 6) (pa_cons (pv 8) pa_nil))) (set_n (unit5 hr))) (pg_sub (pv 5) (pe_tup (pa_cons (pv 7) (pa_cons (pv 8) pa_nil))) (set_n (unit5 hr))))))))))
    (pss_one (ps_ret (pv 4)))))))), ?_⟩
  obtain ⟨M, ms, rfl, hM, hms, hok, q⟩ := h
  obtain ⟨_, vs, ⟨⟩, hM1, hMp⟩ := id hM
  have hvl : vs.length = ms.length := P_len hMp
  walk_at "go"
  refine g_kEnum hM1 ?_
  refine wLc_enum (xs := vs) fun Gv H1 hGv s1 e1 => ?_
  refine ⟨fun i H' => ∃ gs : List Addr, H' Gv = some (.lst (gs.map V.ref)) ∧ gs.length = i ∧ (∀ j g m, gs[j]? = some g → ms[j]? = some m → EndAt H' g (givE j m)) ∧ Step [] H H', ⟨[], e1, rfl, fun j g m h => by simp at h, s1⟩, ?_, ?_, ?_⟩
  · rintro i H' _ ⟨gs, h1, h2, h3, h4⟩
    exact h4.at0 hM1
  · rintro i v H2 H3 hv ⟨gs, h1, h2, h3, h4⟩ s3
    obtain ⟨m, hm, hr⟩ := P_get hMp hv
    obtain ⟨T, x1, x2, x3, x4, rfl, hT, r1, r2, r3, r4⟩ := mMv H H3 _ _ (h4.trans s3).le0 hr
    have hi : i < ms.length := (List.getElem?_eq_some_iff.mp hm).1
    walk_at "go"
    refine ⟨rfl, ?_⟩
    rw [show x3 = oV V.str m.2.2.1 from r3, isN_dec]
    have fin : ∀ g H4, Step [] H3 H4 → EndAt H4 g (givE i m) → kEl Gv (fun H' => ∃ gs : List Addr, H' Gv = some (.lst (gs.map V.ref)) ∧ gs.length = i + 1 ∧ (∀ j g m, gs[j]? = some g → ms[j]? = some m → EndAt H' g (givE j m)) ∧ Step [] H H') (.ref g) H4 := by
      intro g H4 s4 eg
      have h1' := s4.at0 (s3.at0 h1)
      refine g_kEl h1' (ltLine (by rw [List.length_map]; omega)) fun H5 s5 e5 => ?_
      refine ⟨gs ++ [g], by rw [List.map_append]; exact e5, by simp [h2], fun j g' m' hg hm' => ?_, ((h4.trans s3).trans s4).via s5 hGv⟩
      rcases Nat.lt_or_ge j i with hj | hj
      · rw [List.getElem?_append_left (by omega)] at hg
        exact tkeep s5 (ntL h1') (s4.at0 (s3.at0 (h3 j g' m' hg hm')))
      · rw [List.getElem?_append_right (by omega)] at hg
        have : j = i := by
          have := (List.getElem?_eq_some_iff.mp hg).1
          simp at this
          omega
        subst this
        rw [h2, Nat.sub_self] at hg
        cases hg
        rw [hm] at hm'
        cases hm'
        exact tkeep s5 (ntL h1') eg
    walk_at "go"
    refine g_ite (fun hn => ?_) (fun hn => ?_)
    · walk_at "go"
      intro t H4 ht s4 et
      exact fin t H4 s4 (by unfold EndAt givE; rw [hn]; exact et)
    · walk_at "go"
      intro t H4 ht s4 et
      refine fin t H4 s4 ?_
      unfold EndAt givE
      cases e : m.2.2.1 with
      | none => exact absurd e hn
      | some z =>
        have e3 : x3 = oV V.str m.2.2.1 := r3
        rw [e] at e3
        rw [e3] at et
        exact et
  · rintro H2 ⟨gs, h1, h2, h3, h4⟩
    have hM2 := h4.at0 hM1
    walk_at "go"
    refine g_kZip h1 hM2 ?_
    refine wLc_zip (xs := gs.map V.ref) (ys := vs) (by rw [List.length_map]; omega) fun Ev H3 hEv s3 e3 => ?_
    have h13 := s3.at0 h1
    refine ⟨fun i H' => ∃ ts : List Addr, H' Ev = some (.lst (ts.map V.ref)) ∧ ts.length = i ∧ (∀ (j : Nat) (t : Addr) (m : Mv), ts[j]? = some t → ms[j]? = some m → ∃ g h, H' t = some (.tup [.ref g, .ref h]) ∧ EndAt H' g (givE j m) ∧ EndAt H' h (takE m)) ∧ Step [] H2 H', ⟨[], e3, rfl, fun j t m h => by simp at h, s3⟩, ?_, ?_, ?_⟩
    · rintro i H' _ ⟨ts, f1, f2, f3, f4⟩
      exact ⟨f4.at0 h1, f4.at0 hM2⟩
    · rintro i v1 v2 H4 H5 hv1 hv2 ⟨ts, f1, f2, f3, f4⟩ s5
      rw [List.getElem?_map, Option.map_eq_some_iff] at hv1
      obtain ⟨g, hg, rfl⟩ := hv1
      obtain ⟨m, hm, hr⟩ := P_get hMp hv2
      obtain ⟨T, x1, x2, x3, x4, rfl, hT, r1, r2, r3, r4⟩ := mMv H H5 _ _ ((h4.trans f4).trans s5).le0 hr
      cases (show x4 = V.str m.2.2.2 from r4)
      have hi : i < ms.length := (List.getElem?_eq_some_iff.mp hm).1
      walk_at "go"
      intro t1 H6 ht1 s6 et1
      walk_at "go"
      intro t2 H7 ht2 s7 et2
      have S7 : Step [] H4 H7 := (s5.trans s6).trans s7
      have f17 := S7.at0 f1
      refine g_kEl f17 (ltLine (by rw [List.length_map]; omega)) fun H8 s8 e8 => ?_
      refine ⟨ts ++ [t2], by rw [List.map_append]; exact e8, by simp [f2], fun j t' m' ht' hm' => ?_, (f4.trans S7).via s8 hEv⟩
      rcases Nat.lt_or_ge j i with hj | hj
      · rw [List.getElem?_append_left (by omega)] at ht'
        obtain ⟨g', h', a1, a2, a3⟩ := f3 j t' m' ht' hm'
        exact ⟨g', h', tkeep s8 (ntL f17) (S7.at0 a1), tkeep s8 (ntL f17) (S7.at0 a2), tkeep s8 (ntL f17) (S7.at0 a3)⟩
      · rw [List.getElem?_append_right (by omega)] at ht'
        have : j = i := by
          have := (List.getElem?_eq_some_iff.mp ht').1
          simp at this
          omega
        subst this
        rw [f2, Nat.sub_self] at ht'
        cases ht'
        rw [hm] at hm'
        cases hm'
        exact ⟨g, t1, tkeep s8 (ntL f17) et2, tkeep s8 (ntL f17) (S7.at0 (f4.at0 (h3 j g m hg hm))), tkeep s8 (ntL f17) (s7.at0 et1)⟩
    · rintro H4 ⟨ts, f1, f2, f3, f4⟩
      rw [List.length_map, h2] at f2
      have hE4 : EndsAt H4 Ev (mvG ms).es := by
        refine ⟨ts, f1, P_of_get (by rw [f2, hvl]; exact (ends_len ms).symm) fun j t p ht hp => ?_⟩
        have hj : j < ms.length := by have := (List.getElem?_eq_some_iff.mp ht).1; omega
        rw [show (mvG ms).es = ends ms from rfl, ends_get (List.getElem?_eq_getElem hj)] at hp
        cases hp
        exact f3 j t _ ht (List.getElem?_eq_getElem hj)
      have hM4 := f4.at0 hM2
      have S4 : Step [] H H4 := h4.trans f4
      walk_at "go"
      refine wLc_list (xs := vs) fun Cv H5 hCv s5 e5 => ?_
      refine ⟨fun i H' => H' Cv = some (.lst (natL i fun _ => 0)) ∧ Step [] H4 H', ⟨e5, s5⟩, fun i H' _ z => z.2.at0 hM4, ?_, ?_⟩
      · rintro i v H6 hv ⟨d1, d2⟩
        have hi : i < ms.length := by have := (List.getElem?_eq_some_iff.mp hv).1; omega
        walk_at "go"
        refine g_kEl d1 (ltLine (by rw [natL_len]; omega)) fun H7 s7 e7 => ?_
        exact ⟨by rw [natL_succ]; exact e7, d2.via s7 hCv⟩
      · rintro H6 ⟨d1, d2⟩
        rw [hvl] at d1
        walk_at "go"
        intro U H7 hU s7 dU
        have S7 : Step [] H H7 := (S4.trans d2).trans s7
        have hE7 : EndsAt H7 Ev (mvG ms).es := hE4.keep (d2.trans s7) nt0 (by simp)
        have hC7 := s7.at0 d1
        have UC : U ≠ Cv := dU.nl hC7
        have EC : Ev ≠ Cv := ne_of_none f1 hCv
        have hN : (mvG ms).es.length = ms.length := ends_len ms
        have heo : ∀ p ∈ (mvG ms).es, EnOk p.1 ∧ EnOk p.2 := by
          intro p hp
          rw [show (mvG ms).es = ends ms from rfl] at hp
          unfold ends at hp
          obtain ⟨⟨m, i⟩, hm, rfl⟩ := List.mem_map.mp hp
          exact enok m (hok m (List.fst_mem_of_mem_zipIdx hm)) i
        walk_at "go"
        refine g_kEnum (s7.at0 (d2.at0 f1)) ?_
        refine wFor_enumG (xs := ts.map V.ref) (fun i σ H' => ∃ (v1 v6 v7 v8 v9 v10 v11 : Option V) (c : Nat → Nat) (u : En → Nat → Option Nat) (kvs : List (NK × V)), σ = [some (.ref M), v1, some (.ref Gv), some (.ref Ev), some (.ref Cv), some (.ref U), v6, v7, v8, v9, v10, v11] ∧
          NDict P w H' U kvs ∧ UD kvs u ∧ kvs.length ≤ i * (2 * ms.length + 2) ∧ H' Cv = some (.lst (natL ms.length c)) ∧ (mvG ms).Ok i c u ∧ (∀ Dm, (∀ e, (mvG ms).deg ms.length e ≤ Dm) → ∀ x, x < i → c x < Dm) ∧ Col (mvG ms) i c u ∧ Step [U, Cv] H7 H')
          ⟨_, _, _, _, _, _, _, _, _, _, rfl, dU, fun e k => rfl, by simp, hC7, .start, fun _ _ x hx => absurd hx (Nat.not_lt_zero _), .zero, Step.refl _ _⟩ ?_ ?_ mono_tup2 ?_
        · rintro i σ H' _ ⟨v1, v6, v7, v8, v9, v10, v11, c, u, kvs, rfl, g1, g2, g3, g4, g5, g6, gC, g7⟩
          exact g7.at2 (s7.at0 (d2.at0 f1)) (hE7.nu dU) EC
        · rintro i v σ H8 H9 hv ⟨v1, v6, v7, v8, v9, v10, v11, c, u, kvs, rfl, g1, g2, g3, g4, g5, g6, gC, g7⟩ s9
          have hE9 : EndsAt H9 Ev (mvG ms).es := (hE7.keep g7 (ntUC dU hC7) (by simp [hE7.nu dU, EC])).keep s9 nt0 (by simp)
          have hi : i < ms.length := by have := (List.getElem?_eq_some_iff.mp hv).1; rw [List.length_map, f2, hvl] at this; exact this
          have hi9 : i * (2 * ms.length + 2) + 2 * ms.length + 2 ≤ 100000 := by
            have h1 : i * (2 * ms.length + 2) ≤ 100 * 202 := Nat.mul_le_mul (by omega) (by omega)
            omega
          obtain ⟨p, hp⟩ : ∃ p, (mvG ms).es[i]? = some p := ⟨_, List.getElem?_eq_getElem (by rw [hN]; exact hi)⟩
          obtain ⟨ts2, t, g, hh, hE10, ht, et, eg, ehh⟩ := hE9.get hp
          have : ts2 = ts := by
            have e1 := g7.at2 (s7.at0 (d2.at0 f1)) (hE7.nu dU) EC
            have e2 := s9.at0 e1
            rw [hE10] at e2
            injection e2 with e2
            injection e2 with e2
            exact mapref_inj e2
          subst this
          rw [ht] at hv
          cases hv
          have hpm := List.mem_of_getElem? hp
          have sd := (mvG ms).bip p hpm
          have g19 := g1.step s9 nt0 (by simp)
          refine g_tup2 et ?_
          walk_at "go"
          refine ⟨U, g, kvs, u, p.1, rfl, g19, g2, eg, fun k hk => Nat.le_trans (g5.taken hk) (Nat.le_trans deg_len (by omega)), fun a H10 s10 ha1 ha2 => ?_⟩
          walk_at "go"
          have g110 := g19.step s10 nt0 (by simp)
          refine ⟨U, hh, kvs, u, p.2, rfl, g110, g2, s10.at0 ehh, fun k hk => Nat.le_trans (g5.taken hk) (Nat.le_trans deg_len (by omega)), fun b H11 s11 hb1 hb2 => ?_⟩
          have g111 := g110.step s11 nt0 (by simp)
          have S11 : Step [] H8 H11 := (s9.trans s10).trans s11
          have bnd : ∀ {e : En} {k : Nat}, (e = p.1 ∨ e = p.2) → (∀ j, j < k → (u e j).isSome = true) → ∀ Dm, (∀ e, (mvG ms).deg ms.length e ≤ Dm) → k < Dm := by
            intro e k he hk Dm hD
            have h1 := g5.taken hk
            have h2 := Gr.deg_succ hp he
            have h3 := Gr.deg_le (G := mvG ms) (show i + 1 ≤ ms.length from hi) e
            have h4 := hD e
            omega
          have ehh11 : EndAt H11 hh p.2 := s11.at0 (s10.at0 ehh)
          have eg11 : EndAt H11 g p.1 := s11.at0 (s10.at0 eg)
          walk_at "go"
          refine g_cut (fun σ' H' => ∃ (c2 : Nat → Nat) (u2 : En → Nat → Option Nat) (kvs2 : List (NK × V)), σ' = [some (.ref M), some (.int (i : Nat)), some (.ref Gv), some (.ref Ev), some (.ref Cv), some (.ref U), some (.ref g), some (.ref hh), some (.int (a : Nat)), some (.int (b : Nat)), v10, v11] ∧
            NDict P w H' U kvs2 ∧ UD kvs2 u2 ∧ kvs2.length ≤ kvs.length + 2 * ms.length ∧ H' Cv = some (.lst (natL ms.length c2)) ∧ (mvG ms).Ok i c2 u2 ∧ u2 p.1 a = none ∧ u2 p.2 a = none ∧ (∀ Dm, (∀ e, (mvG ms).deg ms.length e ≤ Dm) → ∀ x, x < i → c2 x < Dm) ∧ Col (mvG ms) (i + 1) (fun x => if x = i then a else c2 x) (updU (updU u2 p.1 a (some i)) p.2 a (some i)) ∧ Step [U, Cv] H11 H') ?_ ?_
          · walk_at "go"
            intro t2 H12 ht2 s12 et2
            have g112 := g111.step s12 nt0 (by simp)
            walk_at "go"
            refine g_kNIn g112 (KeyN.of et2 (s12.at0 ehh11)) ?_
            rw [g2.has]
            walk_at "go"
            refine g_iteB (fun hs => ?_) (fun hs => ?_)
            · walk_at "go"
              intro t3 H13 ht3 s13 et3
              walk_at "go"
              have hab : a ≠ b := fun z => by rw [z, hb2] at hs; cases hs
              have S13 : Step [] H11 H13 := s12.trans s13
              refine ⟨U, Cv, Ev, hh, t3, kvs, mvG ms, i, ms.length, c, u, p.2, a, b, rfl, g112.step s13 nt0 (by simp), g2, S13.at0 (S11.at0 g4), EC.symm, hE9.keep ((s10.trans s11).trans S13) nt0 (by simp), hN, S13.at0 ehh11, (heo p hpm).2, heo, et3, g5, hb2, hab, sd.2, by omega, fun H14 kvs' u' ch e k s14 d14 ud14 l14 c14 hch hend hpa hsw => ?_⟩
              refine ⟨_, u', kvs', rfl, d14, ud14, l14, c14, Gr.Chain.swap g5 hch hsw, Gr.Chain.still g5 hab sd.2 sd.1 ha2 hch hsw, Gr.Chain.freed g5 hab hb2 hs hch hend hsw, fun Dm hD x hx => ?_, gC.swap hp ha1 ha2 hb1 hb2 hs hpa hend hsw, S13.up.trans s14⟩
              have b1 := bnd (.inl rfl) ha1 Dm hD
              have b2 := bnd (.inr rfl) hb1 Dm hD
              unfold Gr.swp
              by_cases hxc : x ∈ ch
              · rw [if_pos hxc]
                have := (hch.mem x hxc).2
                omega
              · rw [if_neg hxc]
                exact g6 Dm hD x hx
            · walk_at "go"
              have hn : u p.2 a = none := by
                cases z : u p.2 a with
                | none => rfl
                | some y => rw [z] at hs; cases hs
              exact ⟨c, u, kvs, rfl, g112, g2, by omega, s12.at0 (S11.at0 g4), g5, ha2, hn, g6, gC.plain hp ha1 ha2 hn, s12.up⟩
          · rintro σ' H12 ⟨c2, u2, kvs2, rfl, k1, k2, k3, k4, k5, k6, k7, k8, kC, k9⟩
            have hC11 := S11.at0 g4
            have eg12 : EndAt H12 g p.1 := tkeep k9 (ntUC g111 hC11) eg11
            have ehh12 : EndAt H12 hh p.2 := tkeep k9 (ntUC g111 hC11) ehh11
            walk_at "go"
            refine g_setL k4 (ixN_nat (by rw [natL_len]; exact hi)) fun H13 s13 e13 => ?_
            rw [natL_set hi] at e13
            have k13 := k1.step s13 (ntL k4) (by simpa using UC)
            walk_at "go"
            intro t2 H14 ht2 s14 et2
            have k14 := k13.step s14 nt0 (by simp)
            have eg14 : EndAt H14 g p.1 := s14.at0 (tkeep s13 (ntL k4) eg12)
            refine g_nset k14 (KeyN.of et2 eg14) (ltLine (by omega)) fun H15 s15 d15 => ?_
            walk_at "go"
            intro t3 H16 ht3 s16 et3
            have d16 := d15.step s16 nt0 (by simp)
            have ehh16 : EndAt H16 hh p.2 := s16.at0 (tkeep s15 (ntU k14) (s14.at0 (tkeep s13 (ntL k4) ehh12)))
            have l1 := length_putK kvs2 (p.1, (a : Int)) (V.int (i : Nat))
            refine g_nset d16 (KeyN.of et3 ehh16) (ltLine (by omega)) fun H17 s17 d17 => ?_
            have l2 := length_putK (putK kvs2 (p.1, (a : Int)) (V.int (i : Nat))) (p.2, (a : Int)) (V.int (i : Nat))
            refine ⟨_, _, _, _, _, _, _, fun x => if x = i then a else c2 x, _, _, rfl, d17, (k2.put _ _ _).put _ _ _, ?_, ?_, k5.more hp k6 k7 (by rw [if_pos rfl]) (fun x hx => by rw [if_neg (by omega)]) ?_ ?_ ?_, fun Dm hD x hx => ?_, kC, ?_⟩
            · rw [show (i + 1) * (2 * ms.length + 2) = i * (2 * ms.length + 2) + (2 * ms.length + 2) by rw [Nat.add_mul, Nat.one_mul]]
              omega
            · exact s17.at1 (s16.at0 (s15.at1 (s14.at0 e13) UC.symm)) UC.symm
            · unfold updU
              rw [if_neg (fun z => Gr.ne_ends hp z.1), if_pos ⟨rfl, rfl⟩]
            · unfold updU
              rw [if_pos ⟨rfl, rfl⟩]
            · intro e k hne
              unfold updU
              rw [if_neg (fun z => hne ⟨z.2, .inr z.1⟩), if_neg (fun z => hne ⟨z.2, .inl z.1⟩)]
            · dsimp only
              by_cases hx2 : x = i
              · rw [if_pos hx2]
                exact bnd (.inl rfl) ha1 Dm hD
              · rw [if_neg hx2]
                exact k8 Dm hD x (by omega)
            · exact (((((g7.trans S11.up).trans k9).trans (s13.sub1 _ (by simp))).trans s14.up).trans (s15.sub1 _ (by simp))).trans (s16.up.trans (s17.sub1 _ (by simp)))
        · rintro σ H8 ⟨v1, v6, v7, v8, v9, v10, v11, c, u, kvs, rfl, g1, g2, g3, g4, g5, g6, gC, g7⟩
          rw [List.length_map, f2, hvl] at g5 g6
          walk_at "go"
          rw [List.length_map, f2, hvl] at gC
          refine q Cv c u H8 (S4.fresh hCv) ?_ g4 g5 g6 gC
          have hU1 : H U = none := S4.fresh (d2.fresh hU)
          exact ((S7.up (m := [U, Cv])).trans g7).drop hU1 |>.drop (S4.fresh hCv)
end

end My
namespace My
open PySem PySem.Spec PyProof.Rows L2
/-! how often each house gives and gets; the rounds -/
/-- whether a move stands at a house and side -/
def hasK (k : List Key) (m : Mv) : Bool := decide (m.2.2.1.map (fun h => [Sum.inr h, Sum.inr ("gives" : Str)]) = some k) || decide (takE m = k)
def cnt (ms : List Mv) (k : List Key) : Nat := (ms.filter (hasK k)).length
structure Cn (kvs : List (List Key × V)) (f : List Key → Nat) : Prop where
  at_ : ∀ k, valV kvs k = if f k = 0 then none else some (.int (f k : Nat))
  nd : (kvs.map (·.1)).Nodup
theorem valV_mem {α : Type} [DecidableEq α] {kvs : List (α × V)} {k : α} : (valV kvs k).isSome = true ↔ k ∈ kvs.map (·.1) := by
  induction kvs with
  | nil => simp [valV_nil]
  | cons p r ih =>
    by_cases h : p.1 = k
    · rw [valV_pos h]; simp [h]
    · rw [valV_neg h, ih, List.map_cons, List.mem_cons]
      constructor
      · exact .inr
      · rintro (z | z)
        · exact absurd z.symm h
        · exact z
theorem putK_nd {α : Type} [DecidableEq α] {kvs : List (α × V)} {k : α} {v : V} (h : (kvs.map (·.1)).Nodup) : ((putK kvs k v).map (·.1)).Nodup := by
  cases e : valV kvs k with
  | none =>
    rw [putK_new v e, List.map_append, List.nodup_append]
    refine ⟨h, by simp, fun a ha b hb => ?_⟩
    simp at hb
    rintro rfl
    rw [hb] at ha
    have := valV_mem.mpr ha
    rw [e] at this
    cases this
  | some y =>
    unfold putK
    rw [valV_any, e, if_pos (show (some y).isSome = true from rfl), List.map_map]
    have : ((fun x : α × V => x.1) ∘ fun kv => if kv.1 = k then (kv.1, v) else kv) = fun x => x.1 := by
      funext x
      dsimp only [Function.comp]
      split <;> rfl
    rw [this]; exact h
theorem Cn.bump {kvs : List (List Key × V)} {f : List Key → Nat} (c : Cn kvs f) (k : List Key) : Cn (putK kvs k (.int (f k + 1 : Nat))) (fun j => if j = k then f k + 1 else f j) := by
  refine ⟨fun j => ?_, putK_nd c.nd⟩
  rw [valV_put]
  by_cases h : j = k
  · rw [if_pos h, if_pos h, if_neg (by omega)]
  · rw [if_neg h, if_neg h]; exact c.at_ j
theorem Cn.mem {kvs : List (List Key × V)} {f : List Key → Nat} (c : Cn kvs f) {k : List Key} {v : V} (h : (k, v) ∈ kvs) : f k ≠ 0 ∧ v = .int (f k : Nat) := by
  have : valV kvs k = some v := by
    have hn := c.nd
    clear c
    induction kvs with
    | nil => cases h
    | cons p r ih =>
      rw [List.map_cons, List.nodup_cons] at hn
      rcases List.mem_cons.mp h with rfl | h
      · exact valV_pos rfl
      · have : ¬ p.1 = k := fun z => hn.1 (by rw [z]; exact List.mem_map.mpr ⟨_, h, rfl⟩)
        rw [valV_neg this]
        exact ih h hn.2
  rw [c.at_ k] at this
  by_cases z : f k = 0
  · rw [if_pos z] at this; cases this
  · rw [if_neg z] at this
    exact ⟨z, (Option.some.inj this).symm⟩
theorem Cn.in_ {kvs : List (List Key × V)} {f : List Key → Nat} (c : Cn kvs f) {k : List Key} (h : f k ≠ 0) : (k, V.int (f k : Nat)) ∈ kvs := by
  have := c.at_ k
  rw [if_neg h] at this
  clear c
  induction kvs with
  | nil => cases this
  | cons p r ih =>
    by_cases z : p.1 = k
    · rw [valV_pos z] at this
      have e : p = (k, V.int (f k : Nat)) := Prod.ext z (Option.some.inj this)
      rw [e]; exact List.mem_cons_self ..
    · rw [valV_neg z] at this
      exact List.mem_cons_of_mem _ (ih this)
theorem cnt_snoc (ms : List Mv) (m : Mv) (k : List Key) : cnt (ms ++ [m]) k = cnt ms k + (if hasK k m = true then 1 else 0) := by
  unfold cnt
  rw [List.filter_append, List.length_append]
  congr 1
  by_cases h : hasK k m = true <;> simp [h]
theorem giv_tak (h : Str) (m : Mv) : ([Sum.inr h, Sum.inr ("gives" : Str)] : List Key) ≠ takE m := fun z => by
  unfold takE at z
  injection z with _ z
  injection z with z _
  exact absurd (Sum.inr.inj z) (by decide)
/-- both sides of a move more -/
theorem cnt_none {ms : List Mv} {m : Mv} (h : m.2.2.1 = none) : (fun j => if j = takE m then cnt ms (takE m) + 1 else cnt ms j) = cnt (ms ++ [m]) := by
  funext j
  rw [cnt_snoc]
  unfold hasK
  rw [h]
  by_cases z : takE m = j
  · rw [if_pos z.symm, z]; simp
  · rw [if_neg (fun q => z q.symm)]; simp [z]
theorem cnt_some {ms : List Mv} {m : Mv} {h : Str} (e : m.2.2.1 = some h) : (fun j => if j = takE m then (if takE m = [Sum.inr h, Sum.inr ("gives" : Str)] then cnt ms [Sum.inr h, Sum.inr ("gives" : Str)] + 1 else cnt ms (takE m)) + 1 else if j = [Sum.inr h, Sum.inr ("gives" : Str)] then cnt ms [Sum.inr h, Sum.inr ("gives" : Str)] + 1 else cnt ms j) = cnt (ms ++ [m]) := by
  funext j
  rw [cnt_snoc]
  unfold hasK
  rw [e, if_neg (giv_tak h m).symm]
  by_cases z : takE m = j
  · rw [if_pos z.symm, z]; simp
  · rw [if_neg (fun q => z q.symm)]
    by_cases y : ([Sum.inr h, Sum.inr ("gives" : Str)] : List Key) = j
    · rw [if_pos y.symm, y]; simp [y]
    · rw [if_neg (fun q => y q.symm)]; simp [z, y]
theorem Cn.getD {kvs : List (List Key × V)} {f : List Key → Nat} (c : Cn kvs f) (k : List Key) : (valV kvs k).getD (.int 0) = .int (f k : Nat) := by
  rw [c.at_ k]
  by_cases h : f k = 0
  · rw [if_pos h, h]; rfl
  · rw [if_neg h]; rfl
def kDGet2T (tx : TE) (σ : L2.St) (Q : VK) (a : Addr) : VK := fun y H2 => tx σ H2 fun z H3 => ∃ o, DGet H3 a y o ∧ Q (o.getD z) H3
def sp_shares_of : Sp := fun vs H Q _ => ∃ (M : Addr) (ms : List Mv), vs = [.ref M] ∧ rL rMv H (.ref M) ms ∧ ms.length ≤ 1000 ∧
  ∀ D kvs H', H D = none → Step [] H H' → H' D = some (.dT kvs) → Cn kvs (cnt ms) → kvs.length ≤ 2 * ms.length → Q (.ref D) H'
section
variable {P : Program} {w : World} {K : PySem.W.Frag} {mg : Str → Option Value} {base : Heap}
theorem ok_shares_of (C : Ctx K mg) : Has P w K mg base CX0 1 "shares_of" ["moves"] sp_shares_of := by
  obtain ⟨fd, F⟩ := fn_shares_of C
  refine ⟨⟨_, fd, ?_, gl_shares_of C, F.kp, F.bindsN fun _ _ _ _ _ _ us hl => match us, hl with | [_], _ => rfl⟩⟩
  refine F.ok (CX := CX0) sc_shares_of (fun vs H Q E h => ?_) (fun cdv A outer s H vs Q E hr h => ?_)
  · first | (obtain ⟨_, rfl, _⟩ := h; rfl; done) | (obtain ⟨_, _, rfl, _⟩ := h; rfl; done) | (obtain ⟨_, _, _, rfl, _⟩ := h; rfl; done) | (obtain ⟨_, _, _, _, rfl, _⟩ := h; rfl; done) | (obtain ⟨_, _, _, _, _, rfl, _⟩ := h; rfl; done) | (obtain ⟨_, _, _, _, _, _, rfl, _⟩ := h; rfl; done) | (obtain ⟨_, _, _, _, _, _, _, rfl, _⟩ := h; rfl; done) | (obtain ⟨_, _, _, _, _, _, _, _, rfl, _⟩ := h; rfl; done) | (obtain ⟨_, _, _, _, _, _, _, _, _, rfl, _⟩ := h; rfl; done) | (obtain ⟨_, _, _, _, _, _, _, _, _, _, rfl, _⟩ := h; rfl; done) | (obtain ⟨_, _, _, _, _, _, _, _, _, _, _, rfl, _⟩ := h; rfl; done) | (obtain ⟨_, _, _, _, _, _, _, _, _, _, _, _, rfl, _⟩ := h; rfl; done) | (obtain ⟨_, _, _, _, _, _, _, _, _, _, _, _, _, rfl, _⟩ := h; rfl; done) | (obtain ⟨_, _, _, _, _, _, _, _, _, _, _, _, _, _, rfl, _⟩ := h; rfl; done) | (obtain ⟨_, _, _, _, _, _, _, _, _, _, _, _, _, _, _, rfl, _⟩ := h; rfl; done) | (obtain ⟨_, _, _, _, _, _, _, _, _, _, _, _, _, _, _, _, rfl, _⟩ := h; rfl; done) | (obtain ⟨_, _, _, _, _, _, _, _, _, _, _, _, _, _, _, _, _, rfl, _⟩ := h; rfl; done) | (obtain ⟨_, _, _, _, _, _, _, _, _, _, _, _, _, _, _, _, _, _, rfl, _⟩ := h; rfl; done) | (obtain ⟨_, _, _, _, _, _, _, _, _, _, _, _, _, _, _, _, _, _, _, rfl, _⟩ := h; rfl; done) | (obtain ⟨_, _, _, _, _, _, _, _, _, _, _, _, _, _, _, _, _, _, _, _, rfl, _⟩ := h; rfl; done) | (obtain ⟨_, _, _, _, _, _, _, _, _, _, _, _, _, _, _, _, _, _, _, _, _, rfl, _⟩ := h; rfl; done) | (rcases h with h | h <;> first | (obtain ⟨_, rfl, _⟩ := h; rfl; done) | (obtain ⟨_, _, rfl, _⟩ := h; rfl; done) | (obtain ⟨_, _, _, rfl, _⟩ := h; rfl; done) | (obtain ⟨_, _, _, _, rfl, _⟩ := h; rfl; done) | (obtain ⟨_, _, _, _, _, rfl, _⟩ := h; rfl; done) | (obtain ⟨_, _, _, _, _, _, rfl, _⟩ := h; rfl; done) | (obtain ⟨_, _, _, _, _, _, _, rfl, _⟩ := h; rfl; done) | (obtain ⟨_, _, _, _, _, _, _, _, rfl, _⟩ := h; rfl; done) | (obtain ⟨_, _, _, _, _, _, _, _, _, rfl, _⟩ := h; rfl; done) | (obtain ⟨_, _, _, _, _, _, _, _, _, _, rfl, _⟩ := h; rfl; done) | (obtain ⟨_, _, _, _, _, _, _, _, _, _, _, rfl, _⟩ := h; rfl; done) | (obtain ⟨_, _, _, _, _, _, _, _, _, _, _, _, rfl, _⟩ := h; rfl; done) | (obtain ⟨_, _, _, _, _, _, _, _, _, _, _, _, _, rfl, _⟩ := h; rfl; done) | (obtain ⟨_, _, _, _, _, _, _, _, _, _, _, _, _, _, rfl, _⟩ := h; rfl; done) | (obtain ⟨_, _, _, _, _, _, _, _, _, _, _, _, _, _, _, rfl, _⟩ := h; rfl; done) | (obtain ⟨_, _, _, _, _, _, _, _, _, _, _, _, _, _, _, _, rfl, _⟩ := h; rfl; done) | (obtain ⟨_, _, _, _, _, _, _, _, _, _, _, _, _, _, _, _, _, rfl, _⟩ := h; rfl; done) | (obtain ⟨_, _, _, _, _, _, _, _, _, _, _, _, _, _, _, _, _, _, rfl, _⟩ := h; rfl; done) | (obtain ⟨_, _, _, _, _, _, _, _, _, _, _, _, _, _, _, _, _, _, _, rfl, _⟩ := h; rfl; done) | (obtain ⟨_, _, _, _, _, _, _, _, _, _, _, _, _, _, _, _, _, _, _, _, rfl, _⟩ := h; rfl; done) | (obtain ⟨_, _, _, _, _, _, _, _, _, _, _, _, _, _, _, _, _, _, _, _, _, rfl, _⟩ := h; rfl; done))
  have hu := hu_of hr
  refine ⟨_, PSs.nox (pss_cons (ps_set (i := 1) sc_shares_of.nd rfl (Or.inl rfl) pe_dnewT)
    (pss_cons (ps_for PassesOwn.never rfl (pi_list (pv 0)) (pg_tup rfl (pgs_cons (pg_name (i := 2) sc_shares_of.nd rfl (Or.inl rfl)) (pgs_cons (pg_name (i := 3) sc_shares_of.nd rfl (Or.inl rfl)) (pgs_cons (pg_name (i := 4) sc_shares_of.nd rfl (Or.inl rfl)) (pgs_cons (pg_name (i := 5) sc_shares_of.nd rfl (Or.inl rfl)) pgs_nil)))))
    (pss_cutM (ps_if (pt_cmpR op_notN (pv 4) pe_non (nomark _)) (pss_one (ps_dput hu (pv 1) (pe_tup (pa_cons (pv 4) (pa_cons pe_str pa_nil))) (pe_op op_add (pe_dget2 hu (pv 1) (pe_tup (pa_cons (pv 4) (pa_cons pe_str pa_nil))) pe_int (by exact ⟨rfl, rfl, rfl, rfl⟩)) pe_int) rfl)) pss_nil)
    (pss_one (ps_dput hu (pv 1) (pe_tup (pa_cons (pv 5) (pa_cons pe_str pa_nil))) (pe_op op_add (pe_dget2 hu (pv 1) (pe_tup (pa_cons (pv 5) (pa_cons pe_str pa_nil))) pe_int (by exact ⟨rfl, rfl, rfl, rfl⟩)) pe_int) rfl))))
    (pss_one (ps_ret (pv 1))))), ?_⟩
  obtain ⟨M, ms, rfl, hM, hms, q⟩ := h
  obtain ⟨_, vs, ⟨⟩, hM1, hMp⟩ := id hM
  have hvl : vs.length = ms.length := P_len hMp
  walk_at "go"
  refine g_dnewT fun D H1 hD s1 e1 => ?_
  walk_at "go"
  refine g_kList (s1.at0 hM1) ?_
  refine wFor_list (xs := vs) (fun i σ H' => ∃ (v2 v3 v4 v5 : Option V) (kvs : List (List Key × V)), σ = [some (.ref M), some (.ref D), v2, v3, v4, v5] ∧ H' D = some (.dT kvs) ∧ Cn kvs (cnt (ms.take i)) ∧ kvs.length ≤ 2 * i ∧ Step [] H H') ⟨_, _, _, _, [], rfl, e1, ⟨fun k => by simp [cnt, valV_nil], by simp⟩, by simp, s1⟩ ?_ ?_ ?_
  · rintro i σ H' _ ⟨v2, v3, v4, v5, kvs, rfl, h1, h2, h3, h4⟩
    exact h4.at0 hM1
  · rintro i v σ H2 hv ⟨v2, v3, v4, v5, kvs, rfl, h1, h2, h3, h4⟩
    obtain ⟨m, hm, hr⟩ := P_get hMp hv
    obtain ⟨T, x1, x2, x3, x4, rfl, hT, r1, r2, r3, r4⟩ := mMv H H2 _ _ h4.le0 hr
    have hi : i < ms.length := (List.getElem?_eq_some_iff.mp hm).1
    refine g_tup4 hT ?_
    walk_at "go"
    have e3 : x3 = oV V.str m.2.2.1 := r3
    have e4 : x4 = V.str m.2.2.2 := r4
    have htk : ms.take (i + 1) = ms.take i ++ [m] := by rw [List.take_add_one, hm]; rfl
    refine g_cut (fun σ' H' => ∃ (kvs2 : List (List Key × V)) (f2 : List Key → Nat), σ' = [some (.ref M), some (.ref D), some x1, some x2, some x3, some x4] ∧ H' D = some (.dT kvs2) ∧ Cn kvs2 f2 ∧ kvs2.length ≤ 2 * i + 1 ∧ Step [] H H' ∧
      (fun j => if j = takE m then f2 (takE m) + 1 else f2 j) = cnt (ms.take (i + 1))) ?_ ?_
    · walk_at "go"
      refine ⟨rfl, ?_⟩
      have ed : decide (x3 = V.non) = decide (m.2.2.1 = none) := by rw [e3, isN_dec]
      rw [ed]
      walk_at "go"
      refine g_iteN (fun hn => ?_) (fun hn => ?_)
      · obtain ⟨h, eh⟩ : ∃ h, m.2.2.1 = some h := by
          cases e : m.2.2.1 with
          | none => exact absurd e hn
          | some h => exact ⟨h, rfl⟩
        rw [eh] at e3
        walk_at "go"
        refine g_kDG2T h1 ?_
        walk_at "go"
        intro t H3 ht s3 et
        walk_at "go"
        rw [e3] at et
        refine g_kDG2bT (k := [Sum.inr h, Sum.inr ("gives" : Str)]) (s3.at0 h1) et ?_
        rw [h2.getD]
        walk_at "go"
        intro t2 H4 ht2 s4 et2
        rw [e3] at et2
        refine g_kDPutT (k := [Sum.inr h, Sum.inr ("gives" : Str)]) (s4.at0 (s3.at0 h1)) et2 (ltLine (by omega)) fun H5 s5 e5 => ?_
        have l1 := length_putK kvs [Sum.inr h, Sum.inr ("gives" : Str)] (V.int (cnt (ms.take i) [Sum.inr h, Sum.inr ("gives" : Str)] + 1 : Nat))
        refine ⟨_, _, rfl, e5, h2.bump _, Nat.le_trans (length_putK _ _ _) (by omega), ((h4.trans s3).trans s4).via s5 hD, ?_⟩
        rw [htk]
        exact cnt_some eh
      · walk_at "go"
        refine ⟨_, _, rfl, h1, h2, by omega, h4, ?_⟩
        rw [htk]
        exact cnt_none hn
    · rintro σ' H3 ⟨kvs2, f2, rfl, k1, k2, k3, k4, k5⟩
      walk_at "go"
      refine g_kDG2T k1 ?_
      walk_at "go"
      intro t H4 ht s4 et
      rw [e4] at et
      walk_at "go"
      refine g_kDG2bT (k := takE m) (s4.at0 k1) et ?_
      rw [k2.getD]
      walk_at "go"
      intro t2 H5 ht2 s5 et2
      rw [e4] at et2
      refine g_kDPutT (k := takE m) (s5.at0 (s4.at0 k1)) et2 (ltLine (by omega)) fun H6 s6 e6 => ?_
      have l1 := length_putK kvs2 (takE m) (V.int (f2 (takE m) + 1 : Nat))
      have hb := k2.bump (takE m)
      rw [k5] at hb
      refine ⟨_, _, _, _, _, rfl, e6, hb, Nat.le_trans (length_putK _ _ _) (by omega), ((k4.trans s4).trans s5).via s6 hD⟩
  · rintro σ H2 ⟨v2, v3, v4, v5, kvs, rfl, h1, h2, h3, h4⟩
    rw [hvl, List.take_length] at h2
    walk_at "go"
    exact q D kvs H2 hD h4 h1 h2 (by omega)
end

end My
namespace My
open PySem PySem.Spec PyProof.Rows L2
/-! the rounds, and whether lists of moves are rounds -/
def rnd (ms : List Mv) (c : Nat → Nat) (w r : Nat) : List Mv := (ms.zipIdx.filter fun p => decide (c p.2 / w = r)).map (·.1)
theorem rnd_snoc (ms : List Mv) (m : Mv) (c : Nat → Nat) (w r : Nat) : rnd (ms ++ [m]) c w r = rnd ms c w r ++ (if c ms.length / w = r then [m] else []) := by
  unfold rnd
  rw [List.zipIdx_append, List.filter_append, List.map_append]
  congr 1
  by_cases h : c ms.length / w = r <;> simp [h]
theorem rnd_mem {ms : List Mv} {c : Nat → Nat} {w r : Nat} {m : Mv} (h : m ∈ rnd ms c w r) : m ∈ ms := by
  unfold rnd at h
  obtain ⟨⟨m', i⟩, h1, rfl⟩ := List.mem_map.mp h
  exact List.fst_mem_of_mem_zipIdx (List.mem_filter.mp h1).1
theorem rnd_none {ms : List Mv} {c : Nat → Nat} {w r : Nat} (h : ∀ x, x < ms.length → c x / w ≠ r) : rnd ms c w r = [] := by
  unfold rnd
  rw [List.map_eq_nil_iff, List.filter_eq_nil_iff]
  rintro ⟨m, i⟩ hm
  have := (List.mem_zipIdx hm).2.1
  simpa using h i (by omega)
theorem rnd_ne {ms : List Mv} {c : Nat → Nat} {w r x : Nat} (hx : x < ms.length) (h : c x / w = r) : rnd ms c w r ≠ [] := by
  unfold rnd
  intro e
  rw [List.map_eq_nil_iff, List.filter_eq_nil_iff] at e
  have := e (ms[x], x) (by rw [List.mem_zipIdx_iff_getElem?]; simp [hx])
  simp [h] at this
/-- what is told of the rounds -/
structure Rounds (ms : List Mv) (w : Nat) (c : Nat → Nat) (u : En → Nat → Option Nat) (R : Nat) : Prop where
  ok : (mvG ms).Ok ms.length c u
  lt : ∀ Dm, (∀ e, (mvG ms).deg ms.length e ≤ Dm) → ∀ i, i < ms.length → c i < Dm
  all : ∀ i, i < ms.length → c i / w < R
  top : R = 0 ∨ ∃ i, i < ms.length ∧ c i / w + 1 = R
  col : Col (mvG ms) ms.length c u
def sp_rounds : Sp := fun vs H Q _ => ∃ (M : Addr) (ms : List Mv) (w : Nat), vs = [.ref M, .int (w : Nat)] ∧ rL rMv H (.ref M) ms ∧ ms.length ≤ 100 ∧ (∀ m ∈ ms, MvS m) ∧ 0 < w ∧ w < 2 ^ 200 ∧
  ∀ D (bs : List Addr) c u H', H D = none → Step [] H H' → bs.Nodup → (∀ b ∈ bs, H b = none ∧ b ≠ D) → H' D = some (.lst (bs.map V.ref)) → (∀ (r : Nat) (b : Addr), bs[r]? = some b → ∃ vs, H' b = some (.lst vs) ∧ Paired (rMv H) vs (rnd ms c w r)) → Rounds ms w c u bs.length → Q (.ref D) H'
section
variable {P : Program} {w : World} {K : PySem.W.Frag} {mg : Str → Option Value} {base : Heap}
theorem ok_rounds (C : Ctx K mg) : HasKw P w K mg base CX0 3 "rounds" ["moves", "lanes"] 1 ["lanes"] (([("lanes", .int 2)] : List (Str × V)).map (·.2)) sp_rounds := by
  obtain ⟨fd, F⟩ := fn_rounds C
  obtain ⟨f_colours_of, fd_colours_of, G_colours_of, mg_colours_of, kp_colours_of, b_colours_of⟩ := (ok_colours_of (P := P) (w := w) (base := base) C).ex
  refine ⟨⟨_, fd, ?_, gl_rounds C, F.kp, FunD.binds0 F 1 (by simp [d_rounds, He.DefD.kws]) rfl (fun _ _ _ _ _ _ us ks hl hk => match us, ks, hl, hk with | [_], [_], _, _ => ⟨_, _, _, _, _, _, rfl, rfl, rfl⟩), (FunD.kbinds0 (ps := ["moves", "lanes"]) F 1 ["lanes"] [] (fun us _ ws => us ++ ws) (by simp [d_rounds, He.DefD.kws]) (fun q hq => nomatch hq) (fun r1 _ r2 => r1.append r2) (fun _ _ _ _ _ _ us mv ws h1 h2 h3 => match us, mv, ws, h1, h2, h3 with | [_], [], [_], _, _, _ => rfl)).elim fun _ z => z⟩⟩
  refine F.ok (CX := CX0) sc_rounds (fun vs H Q E h => ?_) (fun cdv A outer s H vs Q E hr h => ?_)
  · first | (obtain ⟨_, rfl, _⟩ := h; rfl) | (obtain ⟨_, _, rfl, _⟩ := h; rfl) | (obtain ⟨_, _, _, rfl, _⟩ := h; rfl) | (obtain ⟨_, _, _, _, rfl, _⟩ := h; rfl) | (obtain ⟨_, _, _, _, _, rfl, _⟩ := h; rfl) | (obtain ⟨_, _, _, _, _, _, rfl, _⟩ := h; rfl) | (obtain ⟨_, _, _, _, _, _, _, rfl, _⟩ := h; rfl) | (obtain ⟨_, _, _, _, _, _, _, _, rfl, _⟩ := h; rfl) | (obtain ⟨_, _, _, _, _, _, _, _, _, rfl, _⟩ := h; rfl) | (obtain ⟨_, _, _, _, _, _, _, _, _, _, rfl, _⟩ := h; rfl) | (obtain ⟨_, _, _, _, _, _, _, _, _, _, _, rfl, _⟩ := h; rfl) | (obtain ⟨_, _, _, _, _, _, _, _, _, _, _, _, rfl, _⟩ := h; rfl) | (obtain ⟨_, _, _, _, _, _, _, _, _, _, _, _, _, rfl, _⟩ := h; rfl) | (obtain ⟨_, _, _, _, _, _, _, _, _, _, _, _, _, _, rfl, _⟩ := h; rfl) | (obtain ⟨_, _, _, _, _, _, _, _, _, _, _, _, _, _, _, rfl, _⟩ := h; rfl) | (obtain ⟨_, _, _, _, _, _, _, _, _, _, _, _, _, _, _, _, rfl, _⟩ := h; rfl) | (obtain ⟨_, _, _, _, _, _, _, _, _, _, _, _, _, _, _, _, _, rfl, _⟩ := h; rfl) | (obtain ⟨_, _, _, _, _, _, _, _, _, _, _, _, _, _, _, _, _, _, rfl, _⟩ := h; rfl) | (obtain ⟨_, _, _, _, _, _, _, _, _, _, _, _, _, _, _, _, _, _, _, rfl, _⟩ := h; rfl) | (obtain ⟨_, _, _, _, _, _, _, _, _, _, _, _, _, _, _, _, _, _, _, _, rfl, _⟩ := h; rfl) | (obtain ⟨_, _, _, _, _, _, _, _, _, _, _, _, _, _, _, _, _, _, _, _, _, rfl, _⟩ := h; rfl)
  have hu := hu_of hr
  refine ⟨_, PSs.nox (pss_cons (ps_set (i := 2) sc_rounds.nd rfl (Or.inl rfl) (pe_lst pa_nil))
    (pss_cons (ps_for PassesOwn.never rfl (pi_zip (by rfl) (fr_zip C) (pa_cons (pv 0) (pa_cons (pe_call G_colours_of (hr.mono (by decide)) rfl mg_colours_of kp_colours_of b_colours_of .nil pass0 (pa_cons (pv 0) pa_nil)) pa_nil))) (pg_tup rfl (pgs_cons (pg_name (i := 3) sc_rounds.nd rfl (Or.inl rfl)) (pgs_cons (pg_name (i := 4) sc_rounds.nd rfl (Or.inl rfl)) pgs_nil)))
    (pss_cons (ps_while PassesOwn.never (pt_cmpR op_le (pe_callB cr_lenL (by rfl) (fr_len C) PySem.boot_len (pa_cons (pv 2) pa_nil)) (pe_op op_divP (pv 4) (pv 1)) (nomark _))
    (pss_one (ps_expr (pe_bm PySem.F.plainAttrs_list PySem.F.slot_list_append PySem.F.type_list_append mt_append (pv 2) (pa_cons (pe_lst pa_nil) pa_nil)))))
    (pss_one (ps_expr (pe_bm PySem.F.plainAttrs_list PySem.F.slot_list_append PySem.F.type_list_append mt_append (pe_ix ix_list (pv 2) (pe_op op_divP (pv 4) (pv 1)) (fun _ _ => rfl)) (pa_cons (pv 3) pa_nil))))))
    (pss_one (ps_ret (pv 2))))), ?_⟩
  obtain ⟨M, ms, wd, rfl, hM, hms, hok, hw0, hw1, q⟩ := h
  obtain ⟨_, vs, ⟨⟩, hM1, hMp⟩ := id hM
  have hvl : vs.length = ms.length := P_len hMp
  walk_at "go"
  intro D H1 hD s1 e1
  walk_at "go"
  refine ⟨M, ms, rfl, mL mMv _ _ _ _ s1.le0 hM, hms, hok, fun Cv c u H2 hCv s2 e2 hOk hlt hcol => ?_⟩
  walk_at "go"
  refine g_kZip (s2.at0 (s1.at0 hM1)) e2 ?_
  have CD : D ≠ Cv := ne_of_none e1 hCv
  have hC0 : H Cv = none := s1.fresh hCv
  let Inv2 : Nat → List Addr → Hp → Prop := fun i bs H' => H' D = some (.lst (bs.map V.ref)) ∧ bs.Nodup ∧ (∀ b ∈ bs, H2 b = none ∧ b ≠ D ∧ b ≠ Cv) ∧ (∀ (r : Nat) (b : Addr), bs[r]? = some b → ∃ vs, H' b = some (.lst vs) ∧ Paired (rMv H) vs (rnd (ms.take i) c wd r)) ∧
    (∀ x, x < i → c x / wd < bs.length) ∧ bs.length ≤ 1000 ∧ Step [D] H2 H'
  have cb : ∀ x, x < ms.length → c x / wd < 1000 := fun x hx => by
    have h1 := hlt 100 (fun e => Nat.le_trans deg_len hms) x hx
    exact Nat.lt_of_le_of_lt (Nat.div_le_self _ _) (by omega)
  refine wFor_zip (xs := vs) (ys := natL ms.length c) (by rw [natL_len]; exact hvl) (fun i σ H' => ∃ (v3 v4 : Option V) (bs : List Addr), σ = [some (.ref M), some (.int (wd : Nat)), some (.ref D), v3, v4] ∧ Inv2 i bs H' ∧ (bs.length = 0 ∨ ∃ x, x < i ∧ c x / wd + 1 = bs.length))
    ⟨none, none, [], rfl, ⟨s2.at0 e1, List.nodup_nil, fun b hb => (nomatch hb), fun r b hb => by simp at hb, fun x hx => absurd hx (Nat.not_lt_zero _), by simp, Step.refl _ _⟩, .inl rfl⟩ ?_ ?_ ?_
  · rintro i σ H' _ ⟨v3, v4, bs, rfl, ⟨h1, h2, h3, h4, h5, h6, h7⟩, h8⟩
    exact ⟨h7.at1 (s2.at0 (s1.at0 hM1)) (ne_of_none hM1 hD), h7.at1 e2 CD.symm⟩
  · rintro i v y σ H3 H4 hv hy ⟨v3, v4, bs, rfl, ⟨h1, h2, h3, h4, h5, h6, h7⟩, h8⟩ s4
    have hi : i < ms.length := by have := (List.getElem?_eq_some_iff.mp hv).1; omega
    rw [natL_get hi] at hy
    cases hy
    obtain ⟨m, hm, hr⟩ := P_get hMp hv
    have hq : c i / wd < 1000 := cb i hi
    have ediv : ((c i : Nat) : Int) / ((wd : Nat) : Int) = ((c i / wd : Nat) : Int) := by simp
    walk_at "go"
    refine g_while (fun mm σ H' => ∃ bs2 : List Addr, mm = c i / wd + 1 - bs2.length ∧ σ = [some (.ref M), some (.int (wd : Nat)), some (.ref D), some v, some (.int (c i : Nat))] ∧ Inv2 i bs2 H' ∧ (bs2.length = bs.length ∨ bs2.length ≤ c i / wd + 1)) ⟨bs, rfl, rfl, ⟨s4.at0 h1, h2, h3, fun r b hb => by obtain ⟨ws, k1, k2⟩ := h4 r b hb; exact ⟨ws, s4.at0 k1, k2⟩, h5, h6, h7.trans s4.up⟩, .inl rfl⟩ ?_
    rintro mm σ H5 ⟨bs2, rfl, rfl, ⟨f1, f2, f3, f4, f5, f6, f7⟩, f8⟩
    walk_at "go"
    rw [ediv, List.length_map]
    refine g_ite (fun hle => ?_) (fun hle => ?_)
    · walk_at "go"
      intro L H6 hL s6 e6
      have L0 : H2 L = none := f7.fresh hL
      have LD : L ≠ D := (ne_of_none f1 hL).symm
      have LC : L ≠ Cv := (ne_of_none (f7.at1 e2 CD.symm) hL).symm
      walk_at "go"
      refine g_append (s6.at0 f1) (ltLine (by rw [List.length_map]; omega)) fun H7 s7 e7 => ?_
      have hnew : L ∉ bs2 := fun hm => by
        obtain ⟨r, hr⟩ := List.mem_iff_getElem?.mp hm
        obtain ⟨ws, k1, _⟩ := f4 r L hr
        rw [hL] at k1; cases k1
      refine ⟨_, ?_, bs2 ++ [L], rfl, rfl, ⟨by rw [List.map_append]; exact e7, ?_, ?_, ?_, fun x hx => by rw [List.length_append]; have := f5 x hx; omega, by rw [List.length_append]; simp only [List.length_singleton]; omega, (f7.trans s6.up).trans s7⟩, .inr (by rw [List.length_append]; simp only [List.length_singleton]; omega)⟩
      · rw [List.length_append]; simp only [List.length_singleton]; omega
      · rw [List.nodup_append]
        exact ⟨f2, by simp, fun a ha b hb => by rw [List.mem_singleton.mp hb]; exact fun z => hnew (z ▸ ha)⟩
      · intro b hb
        rcases List.mem_append.mp hb with hb | hb
        · exact f3 b hb
        · rw [List.mem_singleton.mp hb]; exact ⟨L0, LD, LC⟩
      · intro r b hb
        rcases Nat.lt_or_ge r bs2.length with hr2 | hr2
        · rw [List.getElem?_append_left hr2] at hb
          obtain ⟨ws, k1, k2⟩ := f4 r b hb
          exact ⟨ws, s7.at1 (s6.at0 k1) (f3 b (List.mem_of_getElem? hb)).2.1, k2⟩
        · have hlen := (List.getElem?_eq_some_iff.mp hb).1
          rw [List.length_append, List.length_singleton] at hlen
          have : r = bs2.length := by omega
          subst this
          rw [List.getElem?_append_right (Nat.le_refl _), Nat.sub_self] at hb
          cases hb
          refine ⟨[], s7.at1 e6 LD, ?_⟩
          rw [rnd_none fun x hx => by rw [List.length_take] at hx; have := f5 x (by omega); omega]
          exact .nil
    · have hqb : c i / wd < bs2.length := by omega
      obtain ⟨b, hb⟩ : ∃ b, bs2[c i / wd]? = some b := ⟨_, List.getElem?_eq_getElem hqb⟩
      obtain ⟨ws, k1, k2⟩ := f4 _ b hb
      have hb3 := f3 b (List.mem_of_getElem? hb)
      have hwl : ws.length ≤ 100 := by
        rw [P_len k2]
        unfold rnd
        rw [List.length_map]
        refine Nat.le_trans (List.length_filter_le _ _) ?_
        rw [List.length_zipIdx, List.length_take]; omega
      walk_at "go"
      rw [ediv]
      refine g_ixL f1 (at_nat (by rw [List.getElem?_map, hb]; rfl)) ?_
      walk_at "go"
      refine g_append k1 (ltLine (by omega)) fun H6 s6 e6 => ?_
      have htk : ms.take (i + 1) = ms.take i ++ [m] := by rw [List.take_add_one, hm]; rfl
      have hln : (ms.take i).length = i := by rw [List.length_take]; omega
      refine ⟨_, _, bs2, rfl, ⟨s6.at1 f1 hb3.2.1.symm, f2, f3, fun r b2 hb2 => ?_, fun x hx => ?_, f6, f7.via s6 hb3.1⟩, ?_⟩
      · obtain ⟨ws2, m1, m2⟩ := f4 r b2 hb2
        rw [htk, rnd_snoc, hln]
        by_cases hrq : c i / wd = r
        · subst hrq
          rw [hb] at hb2
          cases hb2
          rw [k1] at m1
          cases m1
          rw [if_pos rfl]
          exact ⟨_, e6, P_snoc hr k2⟩
        · rw [if_neg hrq, List.append_nil]
          refine ⟨ws2, s6.at1 m1 ?_, m2⟩
          rintro rfl
          obtain ⟨a1, a2⟩ := List.getElem?_eq_some_iff.mp hb
          obtain ⟨a3, a4⟩ := List.getElem?_eq_some_iff.mp hb2
          exact hrq ((List.getElem_inj f2).mp (a2.trans a4.symm))
      · by_cases hx2 : x = i
        · rw [hx2]; exact hqb
        · exact f5 x (by omega)
      · rcases f8 with f8 | f8
        · rcases h8 with h8 | ⟨x, hx, h8⟩
          · omega
          · exact .inr ⟨x, by omega, by omega⟩
        · exact .inr ⟨i, by omega, by omega⟩
  · rintro σ H3 ⟨v3, v4, bs, rfl, ⟨h1, h2, h3, h4, h5, h6, h7⟩, h8⟩
    rw [hvl] at h4 h5 h8
    walk_at "go"
    refine q D bs c u H3 hD ((s1.trans s2).via h7 hD) h2 (fun b hb => ⟨s1.fresh (s2.fresh (h3 b hb).1), (h3 b hb).2.1⟩) h1 (fun r b hb => by rw [List.take_length] at h4; exact h4 r b hb) ⟨hOk, hlt, h5, h8, hcol⟩
end

end My
namespace My
open PySem PySem.Spec PyProof.Rows L2
/-! the neck -/
/-- the house and side with most moves: of these the least -/
structure NeckAt (ms : List Mv) (h s : Str) (n : Nat) : Prop where
  eq : cnt ms [Sum.inr h, Sum.inr s] = n
  pos : n ≠ 0
  best : ∀ h' s', cnt ms [Sum.inr h', Sum.inr s'] ≠ 0 → cnt ms [Sum.inr h', Sum.inr s'] ≤ n ∧ (cnt ms [Sum.inr h', Sum.inr s'] = n → cs h < cs h' ∨ (h = h' ∧ ¬ cs s' < cs s))
theorem NeckAt.uniq {ms : List Mv} {h s h' s' : Str} {n n' : Nat} (a : NeckAt ms h s n) (b : NeckAt ms h' s' n') : h = h' ∧ s = s' ∧ n = n' := by
  have a1 := a.best h' s' (by rw [b.eq]; exact b.pos)
  have b1 := b.best h s (by rw [a.eq]; exact a.pos)
  rw [b.eq] at a1
  rw [a.eq] at b1
  have hn : n = n' := Nat.le_antisymm b1.1 a1.1
  subst hn
  rcases a1.2 rfl with a2 | ⟨a2, a3⟩
  · rcases b1.2 rfl with b2 | ⟨b2, _⟩
    · exact absurd (List.lt_trans a2 b2) (List.lt_irrefl _)
    · subst b2
      exact absurd a2 (List.lt_irrefl _)
  · subst a2
    rcases b1.2 rfl with b2 | ⟨_, b3⟩
    · exact absurd b2 (List.lt_irrefl _)
    · exact ⟨rfl, cs_inj (List.le_antisymm (List.not_lt.mp a3) (List.not_lt.mp b3)), rfl⟩
/-- what a key that stands at a move looks like -/
theorem cnt_key {ms : List Mv} {k : List Key} (h : cnt ms k ≠ 0) : ∃ (x y : Str) (m : Mv), m ∈ ms ∧ k = [Sum.inr x, Sum.inr y] ∧ hasK k m = true := by
  obtain ⟨m, hm1⟩ := List.exists_mem_of_length_pos (Nat.pos_of_ne_zero h)
  obtain ⟨hm, hk⟩ := List.mem_filter.mp hm1
  have hk' := hk
  unfold hasK at hk
  rw [Bool.or_eq_true, decide_eq_true_eq, decide_eq_true_eq] at hk
  rcases hk with hk | hk
  · obtain ⟨z, _, rfl⟩ := Option.map_eq_some_iff.mp hk
    exact ⟨z, _, m, hm, rfl, hk'⟩
  · exact ⟨m.2.2.2, _, m, hm, hk.symm, hk'⟩
def trip (t : Nat × Str × Str) : List Key × V := ([Sum.inr t.2.1, Sum.inr t.2.2], V.int (t.1 : Nat))
theorem Cn.trips {kvs : List (List Key × V)} {ms : List Mv} (c : Cn kvs (cnt ms)) : ∃ ts : List (Nat × Str × Str), kvs = ts.map trip ∧ ∀ t ∈ ts, t.1 ≠ 0 ∧ cnt ms [Sum.inr t.2.1, Sum.inr t.2.2] = t.1 := by
  have key : ∀ l : List (List Key × V), (∀ p ∈ l, p ∈ kvs) → ∃ ts : List (Nat × Str × Str), l = ts.map trip ∧ ∀ t ∈ ts, t.1 ≠ 0 ∧ cnt ms [Sum.inr t.2.1, Sum.inr t.2.2] = t.1 := by
    intro l
    induction l with
    | nil => exact fun _ => ⟨[], rfl, fun t h => (nomatch h)⟩
    | cons p l ih =>
      intro h
      obtain ⟨ts, e, f⟩ := ih fun q hq => h q (List.mem_cons_of_mem _ hq)
      obtain ⟨k, v⟩ := p
      obtain ⟨h1, h2⟩ := c.mem (h _ (List.mem_cons_self ..))
      obtain ⟨x, y, _, _, rfl, _⟩ := cnt_key h1
      refine ⟨(cnt ms [Sum.inr x, Sum.inr y], x, y) :: ts, by rw [List.map_cons, ← e, h2]; rfl, fun t ht => ?_⟩
      rcases List.mem_cons.mp ht with rfl | ht
      · exact ⟨h1, rfl⟩
      · exact f t ht
  exact key kvs fun _ h => h
def encN (t : Nat × Str × Str) : Int × Str × Str := (0 - (t.1 : Int), t.2.1, t.2.2)
abbrev c3 {K : PySem.W.Frag} : Cod K (rP3 rI rS rS) := cP3 cI cS cS
def lt3 (a b : Int × Str × Str) : Bool := decide (a.1 < b.1) || (decide (a.1 = b.1) && (decide (cs a.2.1 < cs b.2.1) || (decide (a.2.1 = b.2.1) && decide (cs a.2.2 < cs b.2.2))))
theorem lt3_enc {K : PySem.W.Frag} (a b : Int × Str × Str) : PySem.W.dataLt ((c3 (K := K)).enc a) ((c3 (K := K)).enc b) = lt3 a b := lt3_eq _ _ _ _ _ _
theorem lt3_tr {a b c : Int × Str × Str} (h1 : lt3 a b = true) (h2 : lt3 b c = true) : lt3 a c = true := by
  unfold lt3 at *
  simp only [Bool.or_eq_true, Bool.and_eq_true, decide_eq_true_eq] at *
  rcases h1 with h1 | ⟨h1, h1'⟩ <;> rcases h2 with h2 | ⟨h2, h2'⟩
  · exact .inl (by omega)
  · exact .inl (by omega)
  · exact .inl (by omega)
  · refine .inr ⟨by omega, ?_⟩
    rcases h1' with h1' | ⟨h1', h1''⟩ <;> rcases h2' with h2' | ⟨h2', h2''⟩
    · exact .inl (List.lt_trans h1' h2')
    · exact .inl (h2' ▸ h1')
    · exact .inl (h1' ▸ h2')
    · exact .inr ⟨h1'.trans h2', List.lt_trans h1'' h2''⟩
theorem lt3_ir (a : Int × Str × Str) : lt3 a a = false := by
  unfold lt3
  simp [List.lt_irrefl]
theorem lt3_tot {a b : Int × Str × Str} (h1 : lt3 a b = false) (h2 : lt3 b a = false) : a = b := by
  unfold lt3 at *
  simp only [Bool.or_eq_false_iff, Bool.and_eq_false_iff, decide_eq_false_iff_not] at *
  have e1 : a.1 = b.1 := by have := h1.1; have := h2.1; omega
  have g1 := h1.2.resolve_left (fun z => z e1)
  have g2 := h2.2.resolve_left (fun z => z e1.symm)
  have e2 : a.2.1 = b.2.1 := cs_inj (List.le_antisymm (List.not_lt.mp g2.1) (List.not_lt.mp g1.1))
  have k1 := g1.2.resolve_left (fun z => z e2)
  have k2 := g2.2.resolve_left (fun z => z e2.symm)
  exact Prod.ext e1 (Prod.ext e2 (cs_inj (List.le_antisymm (List.not_lt.mp k2) (List.not_lt.mp k1))))
/-- the least one, from the left -/
theorem least3 (x : Int × Str × Str) (xs : List (Int × Str × Str)) : (xs.foldl (fun a y => if lt3 y a = true then y else a) x ∈ x :: xs) ∧ ∀ y ∈ x :: xs, lt3 y (xs.foldl (fun a y => if lt3 y a = true then y else a) x) = false := by
  induction xs generalizing x with
  | nil => exact ⟨List.mem_cons_self .., fun y hy => by rw [List.mem_singleton.mp hy]; exact lt3_ir _⟩
  | cons z xs ih =>
    rw [List.foldl_cons]
    obtain ⟨h1, h2⟩ := ih (if lt3 z x = true then z else x)
    refine ⟨?_, ?_⟩
    · rcases List.mem_cons.mp h1 with h | h
      · rw [h]
        split
        · exact List.mem_cons_of_mem _ (List.mem_cons_self ..)
        · exact List.mem_cons_self ..
      · exact List.mem_cons_of_mem _ (List.mem_cons_of_mem _ h)
    · have hb := h2 _ (List.mem_cons_self ..)
      generalize xs.foldl (fun a y => if lt3 y a = true then y else a) (if lt3 z x = true then z else x) = m at h2 hb
      intro y hy
      have both : lt3 x m = false ∧ lt3 z m = false := by
        by_cases hz : lt3 z x = true
        · rw [if_pos hz] at hb
          refine ⟨?_, hb⟩
          cases e : lt3 x m with
          | false => rfl
          | true => rw [lt3_tr hz e] at hb; cases hb
        · rw [if_neg hz] at hb
          refine ⟨hb, ?_⟩
          cases e : lt3 z m with
          | false => rfl
          | true =>
            cases e2 : lt3 x z with
            | true => rw [lt3_tr e2 e] at hb; cases hb
            | false =>
              have : z = x := lt3_tot (by simpa using hz) e2
              rw [this, hb] at e; cases e
      rcases List.mem_cons.mp hy with rfl | hy
      · exact both.1
      · rcases List.mem_cons.mp hy with rfl | hy
        · exact both.2
        · exact h2 y (List.mem_cons_of_mem _ hy)
theorem minD3 {K : PySem.W.Frag} (x : Int × Str × Str) (xs : List (Int × Str × Str)) : PySem.W.minD ((c3 (K := K)).enc x) (xs.map (c3 (K := K)).enc) = (c3 (K := K)).enc (xs.foldl (fun a y => if lt3 y a = true then y else a) x) := by
  unfold PySem.W.minD
  induction xs generalizing x with
  | nil => rfl
  | cons z xs ih =>
    rw [List.map_cons, List.foldl_cons, List.foldl_cons, lt3_enc, ← ih]
    congr 1
    split <;> rfl
theorem enc3_inj {K : PySem.W.Frag} {a b : Int × Str × Str} (h : (c3 (K := K)).enc a = (c3 (K := K)).enc b) : a = b := by
  obtain ⟨a1, a2, a3⟩ := a
  obtain ⟨b1, b2, b3⟩ := b
  have h : (PyData.tuple [.int a1, .str a2, .str a3]) = .tuple [.int b1, .str b2, .str b3] := h
  simp at h
  obtain ⟨rfl, rfl, rfl⟩ := h
  rfl
def sp_neck : Sp := fun vs H Q _ => ∃ (M : Addr) (ms : List Mv), vs = [.ref M] ∧ rL rMv H (.ref M) ms ∧ ms.length ≤ 1000 ∧ (∀ m ∈ ms, MvS m) ∧
  (ms = [] → ∀ H', Step [] H H' → Q .non H') ∧ ∀ t h s n H', H t = none → Step [] H H' → H' t = some (.tup [.str h, .str s, .int (n : Nat)]) → NeckAt ms h s n → Q (.ref t) H'
section
variable {P : Program} {w : World} {K : PySem.W.Frag} {mg : Str → Option Value} {base : Heap}
theorem ok_neck (C : Ctx K mg) : Has P w K mg base CX0 2 "neck" ["moves"] sp_neck := by
  obtain ⟨fd, F⟩ := fn_neck C
  obtain ⟨f_shares_of, fd_shares_of, G_shares_of, mg_shares_of, kp_shares_of, b_shares_of⟩ := (ok_shares_of (P := P) (w := w) (base := base) C).ex
  refine ⟨⟨_, fd, ?_, gl_neck C, F.kp, F.bindsN fun _ _ _ _ _ _ us hl => match us, hl with | [_], _ => rfl⟩⟩
  refine F.ok (CX := CX0) sc_neck (fun vs H Q E h => ?_) (fun cdv A outer s H vs Q E hr h => ?_)
  · first | (obtain ⟨_, rfl, _⟩ := h; rfl; done) | (obtain ⟨_, _, rfl, _⟩ := h; rfl; done) | (obtain ⟨_, _, _, rfl, _⟩ := h; rfl; done) | (obtain ⟨_, _, _, _, rfl, _⟩ := h; rfl; done) | (obtain ⟨_, _, _, _, _, rfl, _⟩ := h; rfl; done) | (obtain ⟨_, _, _, _, _, _, rfl, _⟩ := h; rfl; done) | (obtain ⟨_, _, _, _, _, _, _, rfl, _⟩ := h; rfl; done) | (obtain ⟨_, _, _, _, _, _, _, _, rfl, _⟩ := h; rfl; done) | (obtain ⟨_, _, _, _, _, _, _, _, _, rfl, _⟩ := h; rfl; done) | (obtain ⟨_, _, _, _, _, _, _, _, _, _, rfl, _⟩ := h; rfl; done) | (obtain ⟨_, _, _, _, _, _, _, _, _, _, _, rfl, _⟩ := h; rfl; done) | (obtain ⟨_, _, _, _, _, _, _, _, _, _, _, _, rfl, _⟩ := h; rfl; done) | (obtain ⟨_, _, _, _, _, _, _, _, _, _, _, _, _, rfl, _⟩ := h; rfl; done) | (obtain ⟨_, _, _, _, _, _, _, _, _, _, _, _, _, _, rfl, _⟩ := h; rfl; done) | (obtain ⟨_, _, _, _, _, _, _, _, _, _, _, _, _, _, _, rfl, _⟩ := h; rfl; done) | (obtain ⟨_, _, _, _, _, _, _, _, _, _, _, _, _, _, _, _, rfl, _⟩ := h; rfl; done) | (obtain ⟨_, _, _, _, _, _, _, _, _, _, _, _, _, _, _, _, _, rfl, _⟩ := h; rfl; done) | (obtain ⟨_, _, _, _, _, _, _, _, _, _, _, _, _, _, _, _, _, _, rfl, _⟩ := h; rfl; done) | (obtain ⟨_, _, _, _, _, _, _, _, _, _, _, _, _, _, _, _, _, _, _, rfl, _⟩ := h; rfl; done) | (obtain ⟨_, _, _, _, _, _, _, _, _, _, _, _, _, _, _, _, _, _, _, _, rfl, _⟩ := h; rfl; done) | (obtain ⟨_, _, _, _, _, _, _, _, _, _, _, _, _, _, _, _, _, _, _, _, _, rfl, _⟩ := h; rfl; done) | (rcases h with h | h <;> first | (obtain ⟨_, rfl, _⟩ := h; rfl; done) | (obtain ⟨_, _, rfl, _⟩ := h; rfl; done) | (obtain ⟨_, _, _, rfl, _⟩ := h; rfl; done) | (obtain ⟨_, _, _, _, rfl, _⟩ := h; rfl; done) | (obtain ⟨_, _, _, _, _, rfl, _⟩ := h; rfl; done) | (obtain ⟨_, _, _, _, _, _, rfl, _⟩ := h; rfl; done) | (obtain ⟨_, _, _, _, _, _, _, rfl, _⟩ := h; rfl; done) | (obtain ⟨_, _, _, _, _, _, _, _, rfl, _⟩ := h; rfl; done) | (obtain ⟨_, _, _, _, _, _, _, _, _, rfl, _⟩ := h; rfl; done) | (obtain ⟨_, _, _, _, _, _, _, _, _, _, rfl, _⟩ := h; rfl; done) | (obtain ⟨_, _, _, _, _, _, _, _, _, _, _, rfl, _⟩ := h; rfl; done) | (obtain ⟨_, _, _, _, _, _, _, _, _, _, _, _, rfl, _⟩ := h; rfl; done) | (obtain ⟨_, _, _, _, _, _, _, _, _, _, _, _, _, rfl, _⟩ := h; rfl; done) | (obtain ⟨_, _, _, _, _, _, _, _, _, _, _, _, _, _, rfl, _⟩ := h; rfl; done) | (obtain ⟨_, _, _, _, _, _, _, _, _, _, _, _, _, _, _, rfl, _⟩ := h; rfl; done) | (obtain ⟨_, _, _, _, _, _, _, _, _, _, _, _, _, _, _, _, rfl, _⟩ := h; rfl; done) | (obtain ⟨_, _, _, _, _, _, _, _, _, _, _, _, _, _, _, _, _, rfl, _⟩ := h; rfl; done) | (obtain ⟨_, _, _, _, _, _, _, _, _, _, _, _, _, _, _, _, _, _, rfl, _⟩ := h; rfl; done) | (obtain ⟨_, _, _, _, _, _, _, _, _, _, _, _, _, _, _, _, _, _, _, rfl, _⟩ := h; rfl; done) | (obtain ⟨_, _, _, _, _, _, _, _, _, _, _, _, _, _, _, _, _, _, _, _, rfl, _⟩ := h; rfl; done) | (obtain ⟨_, _, _, _, _, _, _, _, _, _, _, _, _, _, _, _, _, _, _, _, _, rfl, _⟩ := h; rfl; done))
  have hu := hu_of hr
  refine ⟨_, PSs.nox (pss_cons (ps_set (i := 1) sc_neck.nd rfl (Or.inl rfl) (pe_call G_shares_of (hr.mono (by decide)) rfl mg_shares_of kp_shares_of b_shares_of .nil pass0 (pa_cons (pv 0) pa_nil)))
    (pss_cons (ps_if (pt_cmpR (op_eqT0 (unit2 hr)) (pv 1) pe_dnewK (nomark _)) (pss_one (ps_ret pe_non)) pss_nil)
    (pss_cons (ps_asg (pe_callB (cr_minC hr.units rfl) (by rfl) (fr_min C) (by decide +kernel) (pa_cons (pe_lock (pe_lc (own := [("key", 5), ("number", 6)]) (g := (gTup K 2 (gCons (gName 5) (gCons (gName 6) gNil)))) (tt := tYes) rfl sc_neck.nd (pi_itemsT (pv 1)) (blkOk_by (N := N_neck) (sc := defScope s_neck) (own := [("key", 5), ("number", 6)]) (by decide +kernel)) (fun _ _ _ _ _ => (pg_tup rfl (pgs_cons (pg_name (i := 5) sc_neck.nd rfl (Or.inl rfl)) (pgs_cons (pg_name (i := 6) sc_neck.nd rfl (Or.inl rfl)) pgs_nil)))) (fun _ _ _ _ _ => pts_nil) (fun _ _ _ _ _ => (pe_tup (pa_cons (pe_op op_sub pe_int (pv 6)) (pa_cons (pe_ix (kIx (K := K) (r := rIxT) ix_tup) (pv 5) pe_int (fun _ _ => rfl)) (pa_cons (pe_ix (kIx (K := K) (r := rIxT) ix_tup) (pv 5) pe_int (fun _ _ => rfl)) pa_nil))))))) pa_nil)) (pg_tup rfl (pgs_cons (pg_name (i := 2) sc_neck.nd rfl (Or.inl rfl)) (pgs_cons (pg_name (i := 3) sc_neck.nd rfl (Or.inl rfl)) (pgs_cons (pg_name (i := 4) sc_neck.nd rfl (Or.inl rfl)) pgs_nil)))))
    (pss_one (ps_ret (pe_tup (pa_cons (pv 3) (pa_cons (pv 4) (pa_cons (pe_op op_sub pe_int (pv 2)) pa_nil))))))))), ?_⟩
  obtain ⟨M, ms, rfl, hM, hms, hok, q0, q⟩ := h
  walk_at "go"
  refine ⟨M, ms, rfl, hM, hms, fun D kvs H1 hD s1 eD hcn hkl => ?_⟩
  walk_at "go"
  refine g_dnewK fun E H2 hE s2 eE => ?_
  refine g_eqT0 (s2.at0 eD) eE ?_
  obtain ⟨ts, rfl, hts⟩ := hcn.trips
  walk_at "go"
  have mem_of : ∀ {h' s' : Str}, cnt ms [Sum.inr h', Sum.inr s'] ≠ 0 → (cnt ms [Sum.inr h', Sum.inr s'], h', s') ∈ ts := by
    intro h' s' hh
    have h1 := hcn.in_ hh
    obtain ⟨t, ht, e⟩ := List.mem_map.mp h1
    obtain ⟨n, x, y⟩ := t
    have e1 := (Prod.mk.inj e).1
    injection e1 with e1 e2
    injection e2 with e2 _
    have e1 := Sum.inr.inj e1
    have e2 := Sum.inr.inj e2
    have e1 : x = h' := e1
    have e2 : y = s' := e2
    subst e1 e2
    have e3 := (hts _ ht).2
    have e3 : cnt ms [Sum.inr x, Sum.inr y] = n := e3
    rw [e3]; exact ht
  refine g_iteB (fun hemp => ?_) (fun hnem => ?_)
  · walk_at "go"
    refine q0 ?_ H2 (s1.trans s2)
    cases ms with
    | nil => rfl
    | cons m r =>
      have hc : cnt (m :: r) (takE m) ≠ 0 := by
        unfold cnt
        rw [List.filter_cons_of_pos (by unfold hasK; simp)]
        simp
      have := mem_of hc
      cases ts with
      | nil => cases this
      | cons _ _ => cases hemp
  · obtain ⟨t0, ts', rfl⟩ : ∃ t0 ts', ts = t0 :: ts' := by
      cases ts with
      | nil => cases hnem
      | cons t0 ts' => exact ⟨t0, ts', rfl⟩
    generalize hts0 : t0 :: ts' = ts at eD hts mem_of hkl hcn hnem
    walk_at "go"
    refine g_lockET (s2.at0 eD) fun od H3 s3 e3 => ?_
    walk_at "go"
    refine g_kItemsT e3 ?_
    have S3 : Step [] H H3 := (s1.trans s2).via s3 hD
    refine wLc_itemsT fun L H4 hL s4 eL => ?_
    have DL : D ≠ L := ne_of_none e3 hL
    refine ⟨fun i H' => ∃ vs, H' L = some (.lst vs) ∧ Paired (rP3 rI rS rS (hide [L] H')) vs ((ts.take i).map encN) ∧ H' D = some (.frz od (.dT (ts.map trip))) ∧ Step [] H3 H', ⟨[], eL, .nil, s4.at0 e3, s4⟩, fun i H' _ z => by obtain ⟨_, _, _, z, _⟩ := z; exact z, ?_, ?_⟩
    · rintro i p b H5 H6 T hp ⟨vs, f1, f2, f3, f4⟩ hb hT s6 eT
      rw [List.getElem?_map, Option.map_eq_some_iff] at hp
      obtain ⟨⟨n, x, y⟩, ht, rfl⟩ := hp
      have hi : i < ts.length := (List.getElem?_eq_some_iff.mp ht).1
      have hb6 : H6 b = some (.tup [.str x, .str y]) := s6.at0 hb
      dsimp only [trip]
      walk_at "go"
      intro tt H7 htt s7 ett
      have f17 := s7.at0 (s6.at0 f1)
      have ttL : tt ≠ L := (ne_of_none (s6.at0 f1) htt).symm
      have hlv : vs.length = i := by rw [P_len f2, List.length_map, List.length_take]; omega
      have hkl2 : ts.length ≤ 2000 := by rw [List.length_map] at hkl; omega
      refine g_kEl f17 (ltLine (by omega)) fun H8 s8 e8 => ?_
      have sl : Le (hide [L] H5) (hide [L] H8) := (s6.hid0.trans s7.hid0).trans (s8.hid (by simp))
      refine ⟨_, e8, ?_, s8.at1 (s7.at0 (s6.at0 f3)) DL, ((f4.trans s6).trans s7).via s8 hL⟩
      rw [List.take_add_one, ht, List.map_append]
      exact P_snoc ⟨tt, _, _, _, rfl, hide_at (s8.at1 ett ttL) (by simp [ttL]), rfl, rfl, rfl⟩ (Pmap f2 fun v x r => mP3 mI mS mS _ _ _ _ sl r)
    · rintro H5 ⟨vs, f1, f2, f3, f4⟩
      rw [List.length_map, List.take_length] at f2
      refine g_lkVT f3 fun H6 s6 e6 => ?_
      walk_at "go"
      have f16 := s6.at1 f1 DL.symm
      have hLD : Step [] H H6 := (S3.trans f4).via s6 hD
      have hsub : Paired (rP3 rI rS rS H6) vs (encN t0 :: ts'.map encN) := by
        rw [← List.map_cons, hts0]
        exact Pmap f2 fun v x ⟨t, a1, a2, a3, e1, ht, r⟩ => ⟨t, a1, a2, a3, e1, s6.at1 (hide_le _ _ ht) (fun z => by have := hide_le _ _ ht; rw [z, f3] at this; cases this), r⟩
      have strok : ∀ t ∈ ts, StrOk t.2.1 ∧ StrOk t.2.2 := fun t ht => by
        have hne : cnt ms [Sum.inr t.2.1, Sum.inr t.2.2] ≠ 0 := by rw [(hts t ht).2]; exact (hts t ht).1
        obtain ⟨x, y, m, hm, e, hk⟩ := cnt_key hne
        have ho := hok m hm
        unfold hasK at hk
        rw [Bool.or_eq_true, decide_eq_true_eq, decide_eq_true_eq] at hk
        rcases hk with hk | hk
        · obtain ⟨z, e1, e2⟩ := Option.map_eq_some_iff.mp hk
          injection e2 with e2 e3
          injection e3 with e3 _
          rw [← Sum.inr.inj e2, ← Sum.inr.inj e3]
          exact ⟨ho.fr _ e1, ok_gives⟩
        · unfold takE at hk
          injection hk with e2 e3
          injection e3 with e3 _
          rw [← Sum.inr.inj e2, ← Sum.inr.inj e3]
          exact ⟨ho.to, ok_gets⟩
      refine g_minC (x := encN t0) (xs := ts'.map encN) (c3 (K := K)) f16 hsub (fun x y => rfl) (fun x => fun z => nomatch z) (fun y hy => ?_) (by exact Nat.le_of_ble_eq_true rfl) fun v y hv hy he => ?_
      · rw [← List.map_cons, hts0] at hy
        obtain ⟨t, ht, rfl⟩ := List.mem_map.mp hy
        exact ⟨trivial, (strok t ht).1, (strok t ht).2⟩
      · rw [minD3] at he
        have he := enc3_inj he
        obtain ⟨g1, g2⟩ := least3 (encN t0) (ts'.map encN)
        rw [← he] at g1 g2
        rw [← List.map_cons, hts0] at g1 g2
        obtain ⟨⟨n, h, s⟩, ht, rfl⟩ := List.mem_map.mp g1
        obtain ⟨t, a1, a2, a3, rfl, hta, rfl, rfl, rfl⟩ := hv
        refine g_tup3 hta ?_
        walk_at "go"
        intro r H7 hr s7 er
        refine q r h s n H7 (hLD.fresh hr) (hLD.trans s7) ?_ ⟨(hts _ ht).2, (hts _ ht).1, fun h' s' hh => ?_⟩
        · rw [er]
          simp [encN]
        · have hm := mem_of hh
          have := g2 _ (List.mem_map.mpr ⟨_, hm, rfl⟩)
          unfold lt3 encN at this
          simp only [Bool.or_eq_false_iff, Bool.and_eq_false_iff, decide_eq_false_iff_not] at this
          refine ⟨by omega, fun e => ?_⟩
          have h2 := this.2.resolve_left (fun z => z (by omega))
          by_cases hc : cs h < cs h'
          · exact .inl hc
          · have : h' = h := cs_inj (List.le_antisymm (List.not_lt.mp hc) (List.not_lt.mp h2.1))
            exact .inr ⟨this.symm, h2.2.resolve_left fun z => z this⟩
end

end My
namespace My
open PySem PySem.Spec PyProof.Rows L2
/-! drawn moves -/
def cMv {K : PySem.W.Frag} : Cod K rMv := cP4 cI cI cOS cS
theorem MvS.cod {K : PySem.W.Frag} {m : Mv} (h : MvS m) : (cMv (K := K)).ok m := ⟨trivial, trivial, fun x hx => h.fr x hx, h.to⟩
theorem g_notInP {K : PySem.W.Frag} {H : Hp} {Q : VK} {α : Type} [DecidableEq α] {r : Rp α} {u v : V} {x : α} {xs : List α} (c : Cod K r) (h1 : rL r H v xs) (h2 : r H u x) (o1 : ∀ y ∈ xs, c.ok y) (o2 : c.ok x) (q : ∀ b : Bool, (b = true ↔ x ∈ xs) → Q (.bl (!b)) H) (hd : c.dep + 1 ≤ 64 := by exact Nat.le_of_ble_eq_true rfl) : rNotInD K u v H Q :=
  g_notInC c h1 h2 o1 o2 (q _ (by simp)) hd
theorem perm_paired {α β : Type} {F : α → β → Prop} {xs ys : List α} (h : ys.Perm xs) : ∀ {ms : List β}, Paired F xs ms → ∃ ms' : List β, ms'.Perm ms ∧ Paired F ys ms' := by
  have key : ∀ {xs ys : List α}, xs.Perm ys → ∀ {ms : List β}, Paired F xs ms → ∃ ms' : List β, ms'.Perm ms ∧ Paired F ys ms' := by
    intro xs ys h
    induction h with
    | nil => exact fun p => ⟨_, .refl _, p⟩
    | cons x h ih =>
      intro ms p
      cases p with
      | cons a t =>
        obtain ⟨ms', h1, h2⟩ := ih t
        exact ⟨_, h1.cons _, .cons a h2⟩
    | swap x y l =>
      intro ms p
      cases p with
      | cons a t =>
        cases t with
        | cons b t => exact ⟨_, .swap _ _ _, .cons b (.cons a t)⟩
    | trans h1 h2 ih1 ih2 =>
      intro ms p
      obtain ⟨m1, a1, a2⟩ := ih1 p
      obtain ⟨m2, b1, b2⟩ := ih2 a2
      exact ⟨m2, b1.trans a1, b2⟩
  exact fun {ms} p => key h.symm p
theorem ok_zz : StrOk ("zzzzzzzz" : Str) := by unfold StrOk PyData.strOk; decide +kernel
def sp_w_steps : Sp := fun vs H Q _ => ∃ (a : Addr) (n : Int) (c : Nat), vs = [.ref a, .int n] ∧ 0 ≤ n ∧ n ≤ 100 ∧ PotAt H a c ∧ c < 2 ^ 57 ∧
  ∀ D (ms : List Mv) H', H D = none → (ms.length : Int) ≤ n → ms.Nodup → (∀ m ∈ ms, MvS m) → Step [a] H H' → rL rMv (hide [a] H') (.ref D) ms → PotAt H' a (c + 2000) → Q (.ref D) H'
section
variable {P : Program} {w : World} {K : PySem.W.Frag} {mg : Str → Option Value} {base : Heap}
theorem ok_w_steps (C : Ctx K mg) : Has P w K mg base CX0 4 "_law_steps" ["pot", "most"] sp_w_steps := by
  obtain ⟨fd, F⟩ := fn_w_steps C
  obtain ⟨f_w_names, fd_w_names, G_w_names, mg_w_names, kp_w_names, b_w_names⟩ := (ok_w_names (P := P) (w := w) (base := base) C).ex
  obtain ⟨f_w_pick, fd_w_pick, G_w_pick, mg_w_pick, kp_w_pick, b_w_pick⟩ := (ok_w_pick (P := P) (w := w) (base := base) C).ex
  obtain ⟨f_w_mixed, fd_w_mixed, G_w_mixed, mg_w_mixed, kp_w_mixed, b_w_mixed⟩ := (ok_w_mixed (P := P) (w := w) (base := base) C).ex
  refine ⟨⟨_, fd, ?_, gl_w_steps C, F.kp, F.bindsN fun _ _ _ _ _ _ us hl => match us, hl with | [_, _], _ => rfl⟩⟩
  refine F.ok (CX := CX0) sc_w_steps (fun vs H Q E h => ?_) (fun cdv A outer s H vs Q E hr h => ?_)
  · first | (obtain ⟨_, rfl, _⟩ := h; rfl; done) | (obtain ⟨_, _, rfl, _⟩ := h; rfl; done) | (obtain ⟨_, _, _, rfl, _⟩ := h; rfl; done) | (obtain ⟨_, _, _, _, rfl, _⟩ := h; rfl; done) | (obtain ⟨_, _, _, _, _, rfl, _⟩ := h; rfl; done) | (obtain ⟨_, _, _, _, _, _, rfl, _⟩ := h; rfl; done) | (obtain ⟨_, _, _, _, _, _, _, rfl, _⟩ := h; rfl; done) | (obtain ⟨_, _, _, _, _, _, _, _, rfl, _⟩ := h; rfl; done) | (obtain ⟨_, _, _, _, _, _, _, _, _, rfl, _⟩ := h; rfl; done) | (obtain ⟨_, _, _, _, _, _, _, _, _, _, rfl, _⟩ := h; rfl; done) | (obtain ⟨_, _, _, _, _, _, _, _, _, _, _, rfl, _⟩ := h; rfl; done) | (obtain ⟨_, _, _, _, _, _, _, _, _, _, _, _, rfl, _⟩ := h; rfl; done) | (obtain ⟨_, _, _, _, _, _, _, _, _, _, _, _, _, rfl, _⟩ := h; rfl; done) | (obtain ⟨_, _, _, _, _, _, _, _, _, _, _, _, _, _, rfl, _⟩ := h; rfl; done) | (obtain ⟨_, _, _, _, _, _, _, _, _, _, _, _, _, _, _, rfl, _⟩ := h; rfl; done) | (obtain ⟨_, _, _, _, _, _, _, _, _, _, _, _, _, _, _, _, rfl, _⟩ := h; rfl; done) | (obtain ⟨_, _, _, _, _, _, _, _, _, _, _, _, _, _, _, _, _, rfl, _⟩ := h; rfl; done) | (obtain ⟨_, _, _, _, _, _, _, _, _, _, _, _, _, _, _, _, _, _, rfl, _⟩ := h; rfl; done) | (obtain ⟨_, _, _, _, _, _, _, _, _, _, _, _, _, _, _, _, _, _, _, rfl, _⟩ := h; rfl; done) | (obtain ⟨_, _, _, _, _, _, _, _, _, _, _, _, _, _, _, _, _, _, _, _, rfl, _⟩ := h; rfl; done) | (obtain ⟨_, _, _, _, _, _, _, _, _, _, _, _, _, _, _, _, _, _, _, _, _, rfl, _⟩ := h; rfl; done) | (rcases h with h | h <;> first | (obtain ⟨_, rfl, _⟩ := h; rfl; done) | (obtain ⟨_, _, rfl, _⟩ := h; rfl; done) | (obtain ⟨_, _, _, rfl, _⟩ := h; rfl; done) | (obtain ⟨_, _, _, _, rfl, _⟩ := h; rfl; done) | (obtain ⟨_, _, _, _, _, rfl, _⟩ := h; rfl; done) | (obtain ⟨_, _, _, _, _, _, rfl, _⟩ := h; rfl; done) | (obtain ⟨_, _, _, _, _, _, _, rfl, _⟩ := h; rfl; done) | (obtain ⟨_, _, _, _, _, _, _, _, rfl, _⟩ := h; rfl; done) | (obtain ⟨_, _, _, _, _, _, _, _, _, rfl, _⟩ := h; rfl; done) | (obtain ⟨_, _, _, _, _, _, _, _, _, _, rfl, _⟩ := h; rfl; done) | (obtain ⟨_, _, _, _, _, _, _, _, _, _, _, rfl, _⟩ := h; rfl; done) | (obtain ⟨_, _, _, _, _, _, _, _, _, _, _, _, rfl, _⟩ := h; rfl; done) | (obtain ⟨_, _, _, _, _, _, _, _, _, _, _, _, _, rfl, _⟩ := h; rfl; done) | (obtain ⟨_, _, _, _, _, _, _, _, _, _, _, _, _, _, rfl, _⟩ := h; rfl; done) | (obtain ⟨_, _, _, _, _, _, _, _, _, _, _, _, _, _, _, rfl, _⟩ := h; rfl; done) | (obtain ⟨_, _, _, _, _, _, _, _, _, _, _, _, _, _, _, _, rfl, _⟩ := h; rfl; done) | (obtain ⟨_, _, _, _, _, _, _, _, _, _, _, _, _, _, _, _, _, rfl, _⟩ := h; rfl; done) | (obtain ⟨_, _, _, _, _, _, _, _, _, _, _, _, _, _, _, _, _, _, rfl, _⟩ := h; rfl; done) | (obtain ⟨_, _, _, _, _, _, _, _, _, _, _, _, _, _, _, _, _, _, _, rfl, _⟩ := h; rfl; done) | (obtain ⟨_, _, _, _, _, _, _, _, _, _, _, _, _, _, _, _, _, _, _, _, rfl, _⟩ := h; rfl; done) | (obtain ⟨_, _, _, _, _, _, _, _, _, _, _, _, _, _, _, _, _, _, _, _, _, rfl, _⟩ := h; rfl; done))
  have hu := hu_of hr
  refine ⟨_, PSs.nox (pss_cons (ps_set (i := 2) sc_w_steps.nd rfl (Or.inl rfl) (pe_op op_cat (pe_call G_w_names (hr.mono (by decide)) rfl mg_w_names kp_w_names b_w_names .nil pass0 (pa_cons (pv 0) (pa_cons (pe_op op_add pe_int (pe_call G_w_pick (hr.mono (by decide)) rfl mg_w_pick kp_w_pick b_w_pick .nil pass0 (pa_cons (pv 0) (pa_cons (pe_ix ix_list (pe_lst (pa_cons pe_int (pa_cons pe_int pa_nil))) (pe_op op_divP (pe_call G_w_pick (hr.mono (by decide)) rfl mg_w_pick kp_w_pick b_w_pick .nil pass0 (pa_cons (pv 0) (pa_cons pe_int pa_nil))) pe_int) (fun _ _ => rfl)) pa_nil)))) pa_nil))) (pe_lst (pa_cons pe_str pa_nil))))
    (pss_cons (ps_set (i := 3) sc_w_steps.nd rfl (Or.inl rfl) (pe_lst pa_nil))
    (pss_cons (ps_for PassesOwn.never rfl (pi_range1 rfl (fr_range C) (pa_cons (pe_call G_w_pick (hr.mono (by decide)) rfl mg_w_pick kp_w_pick b_w_pick .nil pass0 (pa_cons (pv 0) (pa_cons (pe_op op_add (pv 1) pe_int) pa_nil))) pa_nil)) (pg_name (i := 4) sc_w_steps.nd rfl (Or.inl rfl))
    (pss_cons (ps_set (i := 5) sc_w_steps.nd rfl (Or.inl rfl) (pe_ix ix_list (pv 2) (pe_call G_w_pick (hr.mono (by decide)) rfl mg_w_pick kp_w_pick b_w_pick .nil pass0 (pa_cons (pv 0) (pa_cons (pe_op op_sub (pe_callB cr_lenL (by rfl) (fr_len C) PySem.boot_len (pa_cons (pv 2) pa_nil)) pe_int) pa_nil))) (fun _ _ => rfl)))
    (pss_cons (ps_set (i := 6) sc_w_steps.nd rfl (Or.inl rfl) (pe_ix ix_list (pv 2) (pe_call G_w_pick (hr.mono (by decide)) rfl mg_w_pick kp_w_pick b_w_pick .nil pass0 (pa_cons (pv 0) (pa_cons (pe_callB cr_lenL (by rfl) (fr_len C) PySem.boot_len (pa_cons (pv 2) pa_nil)) pa_nil))) (fun _ _ => rfl)))
    (pss_cutM (ps_if (pt_cut (PW.pt (pw_or (pt_cmpR op_eq (pv 5) (pv 6) (nomark _)) (pw_or1 (pt_cmpR op_eq (pe_call G_w_pick (hr.mono (by decide)) rfl mg_w_pick kp_w_pick b_w_pick .nil pass0 (pa_cons (pv 0) (pa_cons pe_int pa_nil))) pe_int (nomark _)))))) (pss_one (ps_set (i := 5) sc_w_steps.nd rfl (Or.inl rfl) pe_non)) pss_nil)
    (pss_cons (ps_set (i := 7) sc_w_steps.nd rfl (Or.inl rfl) (pe_tup (pa_cons (pe_op op_mulP (pe_call G_w_pick (hr.mono (by decide)) rfl mg_w_pick kp_w_pick b_w_pick .nil pass0 (pa_cons (pv 0) (pa_cons (pe_op op_add pe_int (pe_op op_divP (pv 1) pe_int)) pa_nil))) pe_int) (pa_cons (pe_call G_w_pick (hr.mono (by decide)) rfl mg_w_pick kp_w_pick b_w_pick .nil pass0 (pa_cons (pv 0) (pa_cons pe_int pa_nil))) (pa_cons (pv 5) (pa_cons (pv 6) pa_nil))))))
    (pss_one (ps_if (pt_cmpR (op_notInD (unit65 hr)) (pv 7) (pv 3) (by rfl)) (pss_one (ps_expr (pe_bm PySem.F.plainAttrs_list PySem.F.slot_list_append PySem.F.type_list_append mt_append (pv 3) (pa_cons (pv 7) pa_nil)))) pss_nil)))))))
    (pss_one (ps_ret (pe_call G_w_mixed (hr.mono (by decide)) rfl mg_w_mixed kp_w_mixed b_w_mixed .nil pass0 (pa_cons (pv 0) (pa_cons (pv 3) pa_nil)))))))), ?_⟩
  obtain ⟨a, n, c, rfl, hn0, hn1, hp, hc, q⟩ := h
  walk_at "go"
  intro J0 G1 hJ0 t1 eJ0
  have aJ0 : J0 ≠ a := (hp.ne hJ0).symm
  walk_at "go"
  refine go_pick (hp.step0 t1) (by decide) (by decide) (by omega) fun ra G2 ra0 ra1 t2 u2 => ?_
  walk_at "go"
  obtain ⟨md, hmd, emd⟩ : ∃ m : Int, (m = 5 ∨ m = 23) ∧ atI [V.int 5, V.int 23] (ra / 7) = some (.int m) := by
    have h1 : ra / 7 = 0 ∨ ra / 7 = 1 := by omega
    rcases h1 with h1 | h1
    · exact ⟨5, .inl rfl, by rw [h1]; rfl⟩
    · exact ⟨23, .inr rfl, by rw [h1]; rfl⟩
  refine g_ixL (t2.at1 eJ0 aJ0) emd ?_
  walk_at "go"
  refine go_pick u2 (by omega) (by omega) (by omega) fun r1 H1 r10 r11 s1 p1 => ?_
  have s1 : Step [a] H H1 := (t1.up.trans t2).trans s1
  walk_at "go"
  refine ⟨a, _, _, rfl, by omega, by omega, p1, by omega, fun L zs H2 hL lz nz nmz nez s2 eL p2 => ?_⟩
  have p2 := p2.mono (show c + 1 + 1 + 1 + 13 * (2 + r1).toNat ≤ c + 400 by omega)
  have aL : a ≠ L := p1.ne hL
  walk_at "go"
  intro L2 H3 hL2 s3 e3
  refine g_cat (s3.at0 eL) (ys := ([("zzzzzzzz" : Str)] : List Str).map V.str) e3 (leLine (by rw [List.length_map, List.length_map]; simp only [List.length_singleton]; omega)) fun Nm H4 hNm s4 e4 => ?_
  rw [← List.map_append] at e4
  have hz0 : 0 < zs.length := List.length_pos_iff.mpr (nez (by omega))
  have hok : ∀ z ∈ zs ++ [("zzzzzzzz" : Str)], StrOk z := fun z hz => by
    rcases List.mem_append.mp hz with hz | hz
    · exact (nmz z hz).ok
    · rw [List.mem_singleton.mp hz]; exact ok_zz
  generalize hns : zs ++ [("zzzzzzzz" : Str)] = ns at e4 hok
  have hnl : 2 ≤ ns.length ∧ ns.length ≤ 40 := by rw [← hns, List.length_append, List.length_singleton]; omega
  have p4 := (p2.step0 s3).step0 s4
  have aN : a ≠ Nm := (p2.step0 s3).ne hNm
  have S4 : Step [a] H H4 := ((s1.trans s2).trans s3.up).trans s4.up
  walk_at "go"
  intro D H5 hD s5 e5
  have aD : a ≠ D := p4.ne hD
  have ND : Nm ≠ D := ne_of_none e4 hD
  have p5 := p4.step0 s5
  have HD : H D = none := S4.fresh hD
  walk_at "go"
  refine go_pick p5 (by omega) (by omega) (by omega) fun r2 H6 r20 r21 s6 p6 => ?_
  walk_at "go"
  refine g_kRng1 (by omega) (by omega) ?_
  refine wFor_rng (fun i σ H' => ∃ (ms : List Mv) (v4 v5 v6 v7 : Option V), σ = [some (.ref a), some (.int n), some (.ref Nm), some (.ref D), v4, v5, v6, v7] ∧ ms.Nodup ∧ ms.length ≤ i ∧ (∀ m ∈ ms, MvS m) ∧ (∃ vs, H' D = some (.lst vs) ∧ Paired (rMv (hide [a, D] H')) vs ms) ∧ PotAt H' a (c + 401 + 5 * i) ∧ H' Nm = some (.lst (ns.map V.str)) ∧ Step [a] H H')
    ⟨[], _, _, _, _, rfl, List.nodup_nil, Nat.le_refl _, fun m hm => (nomatch hm), ⟨[], s6.at1 e5 aD.symm, .nil⟩, p6.mono (by omega), s6.at1 (s5.at0 e4) aN.symm, (S4.trans s5.up).trans s6⟩ ?_ ?_
  · rintro i σ H7 hi ⟨ms, v4, v5, v6, v7, rfl, h1, h2, h3, ⟨vs, h4, h4p⟩, h5, h6, h7⟩
    walk_at "go"
    rw [List.length_map]
    refine go_pick h5 (by omega) (by omega) (by omega) fun q1 G1 q10 q11 t1 u1 => ?_
    have f1 := t1.at1 h6 aN.symm
    obtain ⟨z1, hz1, ez1⟩ := at_in (xs := ns) q10 (by omega)
    refine g_ixL f1 (at_int q10 (by rw [List.getElem?_map, hz1]; rfl)) ?_
    walk_at "go"
    rw [List.length_map]
    refine go_pick u1 (by omega) (by omega) (by omega) fun q2 G2 q20 q21 t2 u2 => ?_
    have f2 := t2.at1 f1 aN.symm
    obtain ⟨z2, hz2, ez2⟩ := at_in (xs := ns) q20 q21
    refine g_ixL f2 (at_int q20 (by rw [List.getElem?_map, hz2]; rfl)) ?_
    walk_at "go"
    refine g_cut (fun σ' H' => ∃ o : Option Str, σ' = [some (.ref a), some (.int n), some (.ref Nm), some (.ref D), some (.int (i : Int)), some (oV V.str o), some (.str z2), v7] ∧ (∀ h, o = some h → StrOk h) ∧ PotAt H' a (c + 401 + 5 * i + 3) ∧ Step [a] H7 H') ?_ ?_
    · walk_at "go"
      refine g_tcut (fun b H' => PotAt H' a (c + 401 + 5 * i + 3) ∧ Step [a] H7 H') ?_ ?_
      · walk_at "go"
        refine g_ite (fun he => ?_) (fun he => ?_)
        · exact ⟨u2.mono (by omega), t1.trans t2⟩
        · walk_at "go"
          refine go_pick u2 (by decide) (by decide) (by omega) fun q3 G3 q30 q31 t3 u3 => ?_
          walk_at "go"
          exact ⟨u3.mono (by omega), (t1.trans t2).trans t3⟩
      · rintro b G3 ⟨u3, t3⟩
        refine g_iteB (fun _ => ?_) (fun _ => ?_)
        · walk_at "go"
          exact ⟨none, by simp [oV], fun h e => (nomatch e), u3, t3⟩
        · walk_at "go"
          exact ⟨some z1, by simp [oV], fun h e => by cases e; exact hok _ (List.mem_of_getElem? hz1), u3, t3⟩
    · rintro σ' G3 ⟨o, rfl, ho, u3, t3⟩
      walk_at "go"
      refine go_pick u3 (by omega) (by omega) (by omega) fun q4 G4 q40 q41 t4 u4 => ?_
      walk_at "go"
      refine go_pick u4 (by decide) (by decide) (by omega) fun q5 G5 q50 q51 t5 u5 => ?_
      walk_at "go"
      intro T G6 hT t6 eT
      have S : Step [a] H7 G6 := ((t3.trans t4).trans t5).trans t6.up
      have d6 : G6 D = some (.lst vs) := S.at1 h4 aD.symm
      have aT : T ≠ a := (u5.ne hT).symm
      have TD : T ≠ D := fun e => by rw [e, d6] at eT; cases eT
      have hm0 : rMv (hide [a, D] G6) (.ref T) (q4 * 5, q5, o, z2) := ⟨T, _, _, _, _, rfl, hide_at eT (by simp [aT, TD]), rfl, rfl, rfl, rfl⟩
      have h4q : Paired (rMv (hide [a, D] G6)) vs ms := Pmap h4p fun v x r => mMv _ _ _ _ (S.mono (m' := [a, D]) (by simp)).le r
      have mok : MvS (q4 * 5, q5, o, z2) := ⟨hok _ (List.mem_of_getElem? hz2), ho⟩
      walk_at "go"
      refine g_notInP (x := (q4 * 5, q5, o, z2)) (xs := ms) cMv ⟨D, vs, rfl, d6, Pmap h4q fun v x r => mMv _ _ _ _ hide_le r⟩ (mMv _ _ _ _ hide_le hm0) (fun y hy => (h3 y hy).cod) mok.cod fun b hb => ?_
      walk_at "go"
      refine g_iteNB (fun hf => ?_) (fun ht => ?_)
      · have hni : (q4 * 5, q5, o, z2) ∉ ms := fun z => by rw [hb.mpr z] at hf; cases hf
        walk_at "go"
        have lv : vs.length = ms.length := P_len h4p
        refine g_append d6 (ltLine (by omega)) fun G7 t7 e7 => ?_
        refine ⟨ms ++ [(q4 * 5, q5, o, z2)], _, _, _, _, rfl, ?_, by rw [List.length_append, List.length_singleton]; omega, fun m hm => ?_, ⟨_, e7, P_snoc (mMv _ _ _ _ (t7.hid (by simp)) hm0) (Pmap h4q fun v x r => mMv _ _ _ _ (t7.hid (by simp)) r)⟩, ((u5.step0 t6).step1 t7 aD).mono (by omega), t7.at1 (S.at1 h6 aN.symm) ND, (h7.trans S).via t7 HD⟩
        · rw [List.nodup_append]
          exact ⟨h1, by simp, fun x hx y hy => by rw [List.mem_singleton.mp hy]; exact fun z => hni (z ▸ hx)⟩
        · rcases List.mem_append.mp hm with hm | hm
          · exact h3 m hm
          · rw [List.mem_singleton.mp hm]; exact mok
      · walk_at "go"
        exact ⟨ms, _, _, _, _, rfl, h1, by omega, h3, ⟨vs, d6, h4q⟩, (u5.step0 t6).mono (by omega), S.at1 h6 aN.symm, h7.trans S⟩
  · rintro σ H7 ⟨ms, v4, v5, v6, v7, rfl, h1, h2, h3, ⟨vs, h4, h4p⟩, h5, h6, h7⟩
    have lv : vs.length = ms.length := P_len h4p
    walk_at "go"
    refine ⟨a, D, vs, _, rfl, h4, by omega, h5, by omega, fun D2 ys H8 hD2 hpm s8 e8 p8 => ?_⟩
    obtain ⟨ms2, hm2, hp2⟩ := perm_paired hpm h4p
    walk_at "go"
    have l2 := hm2.length_eq
    have aD2 : D2 ≠ a := (h5.ne hD2).symm
    refine q D2 ms2 H8 (h7.fresh hD2) (by omega) (hm2.nodup_iff.mpr h1) (fun m hm => h3 m (hm2.mem_iff.mp hm)) (h7.trans s8) ⟨D2, ys, rfl, hide_at e8 (by simp [aD2]), Pmap hp2 fun v x r => mMv _ _ _ _ ?_ r⟩ (p8.mono (by omega))
    exact fun b o hb => s8.le _ _ (hide_sub (m := [a]) (m' := [a, D]) (by simp) b o hb)
end

end My
namespace My
open PySem PySem.Spec PyProof.Rows L2
/-! the law's own neck -/
/-- the best of what was seen -/
def BestOf (ms : List Mv) (pk : List (Str × Str)) : Option (Str × Str × Nat) → Prop
  | none => ∀ k ∈ pk, cnt ms [Sum.inr k.1, Sum.inr k.2] = 0
  | some (h, s, n) => (h, s) ∈ pk ∧ cnt ms [Sum.inr h, Sum.inr s] = n ∧ n ≠ 0 ∧ ∀ k ∈ pk, cnt ms [Sum.inr k.1, Sum.inr k.2] ≤ n ∧ (cnt ms [Sum.inr k.1, Sum.inr k.2] = n → cs h < cs k.1 ∨ (h = k.1 ∧ ¬ cs k.2 < cs s))
def behind (pk : List (Str × Str)) (h s : Str) : Prop := ∀ k ∈ pk, cs k.1 < cs h ∨ (k.1 = h ∧ ¬ cs s < cs k.2)
def better (ms : List Mv) (o : Option (Str × Str × Nat)) (h s : Str) : Option (Str × Str × Nat) :=
  if cnt ms [Sum.inr h, Sum.inr s] ≠ 0 ∧ (∀ x, o = some x → x.2.2 < cnt ms [Sum.inr h, Sum.inr s]) then some (h, s, cnt ms [Sum.inr h, Sum.inr s]) else o
theorem BestOf.snoc {ms : List Mv} {pk : List (Str × Str)} {o : Option (Str × Str × Nat)} {h s : Str} (b : BestOf ms pk o) (hb : behind pk h s) (t : Bool) (ht : t = true ↔ cnt ms [Sum.inr h, Sum.inr s] ≠ 0 ∧ ∀ x, o = some x → x.2.2 < cnt ms [Sum.inr h, Sum.inr s]) :
    BestOf ms (pk ++ [(h, s)]) (if t = true then some (h, s, cnt ms [Sum.inr h, Sum.inr s]) else o) := by
  by_cases hc : t = true
  · rw [if_pos hc]
    obtain ⟨h1, h2⟩ := ht.mp hc
    refine ⟨by simp, rfl, h1, fun k hk => ?_⟩
    rcases List.mem_append.mp hk with hk | hk
    · cases o with
      | none => rw [b k hk]; exact ⟨Nat.zero_le _, fun z => absurd z.symm h1⟩
      | some x =>
        have hlt := h2 x rfl
        obtain ⟨x1, x2, x3⟩ := x
        have := (b.2.2.2 k hk).1
        have hlt : x3 < _ := hlt
        exact ⟨by omega, fun z => by omega⟩
    · rw [List.mem_singleton.mp hk]
      exact ⟨Nat.le_refl _, fun _ => .inr ⟨rfl, List.lt_irrefl _⟩⟩
  · rw [if_neg hc]
    have hn : ¬ (cnt ms [Sum.inr h, Sum.inr s] ≠ 0 ∧ ∀ x, o = some x → x.2.2 < cnt ms [Sum.inr h, Sum.inr s]) := fun z => hc (ht.mpr z)
    cases o with
    | none =>
      intro k hk
      rcases List.mem_append.mp hk with hk | hk
      · exact b k hk
      · rw [List.mem_singleton.mp hk]
        exact Classical.byContradiction fun z => hn ⟨z, fun x e => nomatch e⟩
    | some x =>
      obtain ⟨x1, x2, x3⟩ := x
      obtain ⟨b1, b2, b3, b4⟩ := b
      refine ⟨List.mem_append_left _ b1, b2, b3, fun k hk => ?_⟩
      rcases List.mem_append.mp hk with hk | hk
      · exact b4 k hk
      · rw [List.mem_singleton.mp hk]
        have hle : cnt ms [Sum.inr h, Sum.inr s] ≤ x3 := by
          refine Nat.le_of_not_lt fun hl => hn ⟨by omega, fun x e => ?_⟩
          cases e
          exact hl
        refine ⟨hle, fun _ => ?_⟩
        exact hb _ b1
theorem BestOf.done {ms : List Mv} {pk : List (Str × Str)} {h s : Str} {n : Nat} (b : BestOf ms pk (some (h, s, n))) (all : ∀ h' s', cnt ms [Sum.inr h', Sum.inr s'] ≠ 0 → (h', s') ∈ pk) : NeckAt ms h s n :=
  ⟨b.2.1, b.2.2.1, fun h' s' hh => b.2.2.2 _ (all h' s' hh)⟩
theorem hasK_gets (m : Mv) (h : Str) : hasK [Sum.inr h, Sum.inr ("gets" : Str)] m = decide (m.2.2.2 = h) := by
  unfold hasK takE
  by_cases z : m.2.2.2 = h
  · simp [z]
  · have h2 : ¬ (m.2.2.1.map (fun h => ([Sum.inr h, Sum.inr ("gives" : Str)] : List Key)) = some [Sum.inr h, Sum.inr ("gets" : Str)]) := by
      cases e : m.2.2.1 with
      | none => simp
      | some y =>
        intro q
        have q := Option.some.inj q
        injection q with _ q
        injection q with q _
        exact absurd (Sum.inr.inj q) (by decide)
    rw [decide_eq_false h2]
    simp [z]
theorem hasK_gives (m : Mv) (h : Str) : hasK [Sum.inr h, Sum.inr ("gives" : Str)] m = decide (m.2.2.1 = some h) := by
  unfold hasK
  have h3 : decide (takE m = [Sum.inr h, Sum.inr ("gives" : Str)]) = false := decide_eq_false fun z => giv_tak h m z.symm
  rw [h3]
  cases e : m.2.2.1 with
  | none => simp
  | some y => simp
theorem oS_dec0 (o : Option Str) (h : Str) : decide (oV V.str o = V.str h) = decide (o = some h) := by cases o <;> simp [oV]
def nkV (H : Hp) (v : V) : Option (Str × Str × Nat) → Prop
  | none => v = .non
  | some (h, s, n) => ∃ t, v = .ref t ∧ H t = some (.tup [.str h, .str s, .int (n : Nat)])
def sp_w_neck (P : Program) (w : World) : Sp := fun vs H Q _ => ∃ (M : Addr) (ms : List Mv), vs = [.ref M] ∧ rL rMv H (.ref M) ms ∧ ms.length ≤ 400 ∧ (∀ m ∈ ms, MvS m) ∧
  (ms = [] → ∀ H', Step [] H H' → Q .non H') ∧ ∀ t h s n H', Step [] H H' → H' t = some (.tup [.str h, .str s, .int (n : Nat)]) → NeckAt ms h s n → Q (.ref t) H'
section
variable {P : Program} {w : World} {K : PySem.W.Frag} {mg : Str → Option Value} {base : Heap}
theorem ok_w_neck (C : Ctx K mg) : Has P w K mg base CX0 1 "_law_neck" ["steps"] (sp_w_neck P w) := by
  obtain ⟨fd, F⟩ := fn_w_neck C
  refine ⟨⟨_, fd, ?_, gl_w_neck C, F.kp, F.bindsN fun _ _ _ _ _ _ us hl => match us, hl with | [_], _ => rfl⟩⟩
  refine F.ok (CX := CX0) sc_w_neck (fun vs H Q E h => ?_) (fun cdv A outer s H vs Q E hr h => ?_)
  · first | (obtain ⟨_, rfl, _⟩ := h; rfl; done) | (obtain ⟨_, _, rfl, _⟩ := h; rfl; done) | (obtain ⟨_, _, _, rfl, _⟩ := h; rfl; done) | (obtain ⟨_, _, _, _, rfl, _⟩ := h; rfl; done) | (obtain ⟨_, _, _, _, _, rfl, _⟩ := h; rfl; done) | (obtain ⟨_, _, _, _, _, _, rfl, _⟩ := h; rfl; done) | (obtain ⟨_, _, _, _, _, _, _, rfl, _⟩ := h; rfl; done) | (obtain ⟨_, _, _, _, _, _, _, _, rfl, _⟩ := h; rfl; done) | (obtain ⟨_, _, _, _, _, _, _, _, _, rfl, _⟩ := h; rfl; done) | (obtain ⟨_, _, _, _, _, _, _, _, _, _, rfl, _⟩ := h; rfl; done) | (obtain ⟨_, _, _, _, _, _, _, _, _, _, _, rfl, _⟩ := h; rfl; done) | (obtain ⟨_, _, _, _, _, _, _, _, _, _, _, _, rfl, _⟩ := h; rfl; done) | (obtain ⟨_, _, _, _, _, _, _, _, _, _, _, _, _, rfl, _⟩ := h; rfl; done) | (obtain ⟨_, _, _, _, _, _, _, _, _, _, _, _, _, _, rfl, _⟩ := h; rfl; done) | (obtain ⟨_, _, _, _, _, _, _, _, _, _, _, _, _, _, _, rfl, _⟩ := h; rfl; done) | (obtain ⟨_, _, _, _, _, _, _, _, _, _, _, _, _, _, _, _, rfl, _⟩ := h; rfl; done) | (obtain ⟨_, _, _, _, _, _, _, _, _, _, _, _, _, _, _, _, _, rfl, _⟩ := h; rfl; done) | (obtain ⟨_, _, _, _, _, _, _, _, _, _, _, _, _, _, _, _, _, _, rfl, _⟩ := h; rfl; done) | (obtain ⟨_, _, _, _, _, _, _, _, _, _, _, _, _, _, _, _, _, _, _, rfl, _⟩ := h; rfl; done) | (obtain ⟨_, _, _, _, _, _, _, _, _, _, _, _, _, _, _, _, _, _, _, _, rfl, _⟩ := h; rfl; done) | (obtain ⟨_, _, _, _, _, _, _, _, _, _, _, _, _, _, _, _, _, _, _, _, _, rfl, _⟩ := h; rfl; done) | (rcases h with h | h <;> first | (obtain ⟨_, rfl, _⟩ := h; rfl; done) | (obtain ⟨_, _, rfl, _⟩ := h; rfl; done) | (obtain ⟨_, _, _, rfl, _⟩ := h; rfl; done) | (obtain ⟨_, _, _, _, rfl, _⟩ := h; rfl; done) | (obtain ⟨_, _, _, _, _, rfl, _⟩ := h; rfl; done) | (obtain ⟨_, _, _, _, _, _, rfl, _⟩ := h; rfl; done) | (obtain ⟨_, _, _, _, _, _, _, rfl, _⟩ := h; rfl; done) | (obtain ⟨_, _, _, _, _, _, _, _, rfl, _⟩ := h; rfl; done) | (obtain ⟨_, _, _, _, _, _, _, _, _, rfl, _⟩ := h; rfl; done) | (obtain ⟨_, _, _, _, _, _, _, _, _, _, rfl, _⟩ := h; rfl; done) | (obtain ⟨_, _, _, _, _, _, _, _, _, _, _, rfl, _⟩ := h; rfl; done) | (obtain ⟨_, _, _, _, _, _, _, _, _, _, _, _, rfl, _⟩ := h; rfl; done) | (obtain ⟨_, _, _, _, _, _, _, _, _, _, _, _, _, rfl, _⟩ := h; rfl; done) | (obtain ⟨_, _, _, _, _, _, _, _, _, _, _, _, _, _, rfl, _⟩ := h; rfl; done) | (obtain ⟨_, _, _, _, _, _, _, _, _, _, _, _, _, _, _, rfl, _⟩ := h; rfl; done) | (obtain ⟨_, _, _, _, _, _, _, _, _, _, _, _, _, _, _, _, rfl, _⟩ := h; rfl; done) | (obtain ⟨_, _, _, _, _, _, _, _, _, _, _, _, _, _, _, _, _, rfl, _⟩ := h; rfl; done) | (obtain ⟨_, _, _, _, _, _, _, _, _, _, _, _, _, _, _, _, _, _, rfl, _⟩ := h; rfl; done) | (obtain ⟨_, _, _, _, _, _, _, _, _, _, _, _, _, _, _, _, _, _, _, rfl, _⟩ := h; rfl; done) | (obtain ⟨_, _, _, _, _, _, _, _, _, _, _, _, _, _, _, _, _, _, _, _, rfl, _⟩ := h; rfl; done) | (obtain ⟨_, _, _, _, _, _, _, _, _, _, _, _, _, _, _, _, _, _, _, _, _, rfl, _⟩ := h; rfl; done))
  have hu := hu_of hr
  refine ⟨_, PSs.nox (pss_cons (ps_set (i := 1) sc_w_neck.nd rfl (Or.inl rfl) pe_non)
    (pss_cons (ps_for PassesOwn.never rfl (pi_list (pe_callB (cr_sortedZ rfl) (by rfl) (fr_sorted C) (by decide +kernel) (pa_cons (pe_callTy (cr_setS rfl) (by rfl) (fr_set C) (by decide +kernel) (pa_cons (pe_op op_cat (pe_lc (own := [("step", 6)]) (g := (gName 6)) (tt := tYes) rfl sc_w_neck.nd (pi_list (pv 0)) (blkOk_by (N := N_w_neck) (sc := defScope s_w_neck) (own := [("step", 6)]) (by decide +kernel)) (fun _ _ _ _ _ => (pg_name (i := 6) sc_w_neck.nd rfl (Or.inl rfl))) (fun _ _ _ _ _ => pts_nil) (fun _ _ _ _ _ => (pe_ix (kIx (K := K) (r := rIxT) ix_tup) (pv 6) pe_int (fun _ _ => rfl)))) (pe_lc (own := [("step", 6)]) (g := (gName 6)) rfl sc_w_neck.nd (pi_list (pv 0)) (blkOk_by (N := N_w_neck) (sc := defScope s_w_neck) (own := [("step", 6)]) (by decide +kernel)) (fun _ _ _ _ _ => (pg_name (i := 6) sc_w_neck.nd rfl (Or.inl rfl))) (fun _ _ _ _ _ => (pts_one (pt_cmpR op_notN (pe_ix (kIx (K := K) (r := rIxT) ix_tup) (pv 6) pe_int (fun _ _ => rfl)) pe_non (nomark _)))) (fun _ _ _ _ _ => (pe_ix (kIx (K := K) (r := rIxT) ix_tup) (pv 6) pe_int (fun _ _ => rfl))))) pa_nil)) pa_nil))) (pg_name (i := 2) sc_w_neck.nd rfl (Or.inr rfl))
    (pss_one (ps_for PassesOwn.never rfl (pi_list (pe_lst (pa_cons (pe_tup (pa_cons pe_str (pa_cons pe_int pa_nil))) (pa_cons (pe_tup (pa_cons pe_str (pa_cons pe_int pa_nil))) pa_nil)))) (pg_tup rfl (pgs_cons (pg_name (i := 3) sc_w_neck.nd rfl (Or.inl rfl)) (pgs_cons (pg_name (i := 4) sc_w_neck.nd rfl (Or.inr rfl)) pgs_nil)))
    (pss_cons (ps_set (i := 5) sc_w_neck.nd rfl (Or.inl rfl) (pe_callB cr_lenL (by rfl) (fr_len C) PySem.boot_len (pa_cons (pe_lc (own := [("step", 6)]) (g := (gName 6)) rfl sc_w_neck.nd (pi_list (pv 0)) (blkOk_by (N := N_w_neck) (sc := defScope s_w_neck) (own := [("step", 6)]) (by decide +kernel)) (fun _ _ _ _ _ => (pg_name (i := 6) sc_w_neck.nd rfl (Or.inl rfl))) (fun _ _ _ _ _ => (pts_one (pt_cmpR op_eq (pe_ix (kIx (K := K) (r := rIxT) ix_tup) (pv 6) (pv 4) (fun _ _ => rfl)) (pv 2) (nomark _)))) (fun _ _ _ _ _ => (pv 6))) pa_nil)))
    (pss_one (ps_if (pt_cut (PW.pt (pw_and (pt_cmpR op_gt (pv 5) pe_int (nomark _)) (pw_and1 (pt_cut (PW.pt (pw_or (pt_cmpR op_isN (pv 1) pe_non (nomark _)) (pw_or1 (pt_cmpR op_gt (pv 5) (pe_ix ix_tup (pv 1) pe_int (fun _ _ => rfl)) (nomark _)))))))))) (pss_one (ps_set (i := 1) sc_w_neck.nd rfl (Or.inl rfl) (pe_tup (pa_cons (pv 2) (pa_cons (pv 3) (pa_cons (pv 5) pa_nil)))))) pss_nil))))))
    (pss_one (ps_ret (pv 1))))), ?_⟩
  obtain ⟨M, ms, rfl, hM, hms, hok, q0, q⟩ := h
  obtain ⟨_, vs, ⟨⟩, hM1, hMp⟩ := id hM
  have hvl : vs.length = ms.length := P_len hMp
  walk_at "go"
  refine wLc_list (xs := vs) fun L H1 hL s1 e1 => ?_
  refine ⟨fun i H' => H' L = some (.lst ((ms.take i).map fun m => V.str m.2.2.2)) ∧ Step [] H H', ⟨e1, s1⟩, fun i H' _ z => z.2.at0 hM1, ?_, ?_⟩
  · rintro i v H2 hv ⟨g1, g2⟩
    obtain ⟨m, hm, hr⟩ := P_get hMp hv
    have hi : i < ms.length := (List.getElem?_eq_some_iff.mp hm).1
    obtain ⟨_, x1, x2, x3, x4, rfl, hT, r1, r2, r3, r4⟩ := mMv _ _ _ _ g2.le0 hr
    cases (show x4 = V.str m.2.2.2 from r4)
    walk_at "go"
    refine g_kEl g1 (ltLine (by rw [List.length_map, List.length_take]; omega)) fun H3 s3 e3 => ?_
    refine ⟨?_, g2.via s3 hL⟩
    rw [List.take_add_one, hm, List.map_append]; exact e3
  · rintro H2 ⟨g1, g2⟩
    rw [hvl, List.take_length] at g1
    walk_at "go"
    have hM2 := g2.at0 hM1
    refine g_kList hM2 ?_
    refine wLc_list (xs := vs) fun L2 H3 hL2 s3 e3 => ?_
    refine ⟨fun j H' => H' L2 = some (.lst (((ms.take j).filterMap fun m => m.2.2.1).map V.str)) ∧ Step [] H2 H', ⟨e3, s3⟩, fun j H' _ z => z.2.at0 hM2, ?_, ?_⟩
    · rintro j v H4 hv ⟨f1, f2⟩
      obtain ⟨m, hm, hr⟩ := P_get hMp hv
      have hj : j < ms.length := (List.getElem?_eq_some_iff.mp hm).1
      obtain ⟨_, x1, x2, x3, x4, rfl, hT7, r1, r2, r3, r4⟩ := mMv _ _ _ _ (g2.trans f2).le0 hr
      have e3 : x3 = oV V.str m.2.2.1 := r3
      have ed : decide (x3 = V.non) = decide (m.2.2.1 = none) := by rw [e3, isN_dec]
      walk_at "go"
      refine ⟨rfl, ?_⟩
      rw [ed]
      walk_at "go"
      refine g_kTst ?_
      refine g_iteN (fun hn => ?_) (fun hn => ?_)
      · obtain ⟨h, eh⟩ : ∃ h, m.2.2.1 = some h := by
          cases e : m.2.2.1 with
          | none => exact absurd e hn
          | some h => exact ⟨h, rfl⟩
        rw [eh] at e3
        walk_at "go"
        refine g_kEl f1 (ltLine (by rw [List.length_map]; exact Nat.le_trans (List.length_filterMap_le _ _) (by rw [List.length_take]; omega))) fun H11 s11 e11 => ?_
        refine ⟨?_, f2.via s11 hL2⟩
        rw [List.take_add_one, hm, List.filterMap_append, List.map_append, e11, e3]
        simp [eh, oV]
      · refine ⟨?_, f2⟩
        rw [List.take_add_one, hm, List.filterMap_append, List.map_append, f1]
        simp [hn]
    · rintro H4 ⟨f1, f2⟩
      rw [hvl, List.take_length] at f1
      have S4 := g2.trans f2
      have lfm : (ms.filterMap fun m => m.2.2.1).length ≤ ms.length := List.length_filterMap_le _ _
      refine g_cat (f2.at0 g1) (ys := (ms.filterMap fun m => m.2.2.1).map V.str) f1 (leLine (by rw [List.length_map, List.length_map]; omega)) fun L3 H5 hL3 s5 e5 => ?_
      have e5' : H5 L3 = some (.lst ((ms.map (fun m => m.2.2.2) ++ ms.filterMap fun m => m.2.2.1).map V.str)) := by rw [List.map_append, List.map_map]; exact e5
      walk_at "go"
      refine g_setS e5' (by rw [List.length_append, List.length_map]; omega) fun Sv H6 hSv s6 e6 => ?_
      have hdl := ddp_len (ms.map (fun m => m.2.2.2) ++ ms.filterMap fun m => m.2.2.1)
      rw [List.length_append, List.length_map] at hdl
      walk_at "go"
      refine g_sortedZ e6 (by omega) fun ys L4 H7 hpm hso hL4 s7 e7 => ?_
      have S7 : Step [] H H7 := ((S4.trans s5).trans s6).trans s7
      have ynd : ys.Nodup := hpm.nodup_iff.mpr (ddp_nd _)
      have ymem : ∀ h, h ∈ ys ↔ (∃ m ∈ ms, m.2.2.2 = h) ∨ ∃ m ∈ ms, m.2.2.1 = some h := fun h => by
        rw [hpm.mem_iff, ddp_mem, List.mem_append, List.mem_map, List.mem_filterMap]
      have ypw := sorted_pw hso
      walk_at "go"
      refine wFor_list (xs := ys.map V.str) (fun i σ H' => ∃ (bv : V) (v2 v3 v4 v5 v6 : Option V) (o : Option (Str × Str × Nat)), σ = [some (.ref M), some bv, v2, v3, v4, v5, v6] ∧ nkV H' bv o ∧ BestOf ms ((ys.take i).flatMap fun h => [(h, ("gets" : Str)), (h, ("gives" : Str))]) o ∧ Step [] H7 H') ⟨.non, none, none, none, none, none, none, rfl, rfl, fun k hk => by simp at hk, Step.refl _ _⟩ ?_ ?_ ?_
      · rintro i σ H' _ ⟨bv, v2, v3, v4, v5, v6, o, rfl, _, _, k3⟩
        exact k3.at0 e7
      · rintro i z σ H8 hz ⟨bv, v2, v3, v4, v5, v6, o, rfl, k1, k2, k3⟩
        rw [List.getElem?_map, Option.map_eq_some_iff] at hz
        obtain ⟨h, hh, rfl⟩ := hz
        walk_at "go"
        intro t1 H9 ht1 s9 et1
        walk_at "go"
        intro t2 H10 ht2 s10 et2
        walk_at "go"
        intro L5 H11 hL5 s11 eL5
        walk_at "go"
        have T1 : H11 t1 = some (.tup [.str "gets", .int 3]) := s11.at0 (s10.at0 et1)
        have T2 : H11 t2 = some (.tup [.str "gives", .int 2]) := s11.at0 et2
        have hhm := List.mem_of_getElem? hh
        have S11 : Step [] H7 H11 := ((k3.trans s9).trans s10).trans s11
        have nk11 : nkV H11 bv o := by
          cases o with
          | none => exact k1
          | some x =>
            obtain ⟨x1, x2, x3⟩ := x
            obtain ⟨t, e, ht⟩ := k1
            exact ⟨t, e, s11.at0 (s10.at0 (s9.at0 ht))⟩
        refine wFor_list (xs := [.ref t1, .ref t2]) (fun j σ H' => ∃ (bv : V) (v3 v4 v5 v6 : Option V) (o : Option (Str × Str × Nat)), σ = [some (.ref M), some bv, some (.str h), v3, v4, v5, v6] ∧ nkV H' bv o ∧
          BestOf ms (((ys.take i).flatMap fun h => [(h, ("gets" : Str)), (h, ("gives" : Str))]) ++ [(h, ("gets" : Str)), (h, ("gives" : Str))].take j) o ∧ Step [] H11 H') ⟨bv, v3, v4, v5, v6, o, rfl, nk11, by simpa using k2, Step.refl _ _⟩ ?_ ?_ ?_
        · rintro j σ H' _ ⟨bv, v3, v4, v5, v6, o, rfl, _, _, f3⟩
          exact f3.at0 eL5
        · rintro j z σ H12 hz ⟨bv, v3, v4, v5, v6, o, rfl, f1, f2, f3⟩
          obtain ⟨side, sp, tz, rfl, htz, hkey, hcnt, hat⟩ : ∃ (side : Str) (sp : Int) (tz : Addr), z = .ref tz ∧ H12 tz = some (.tup [.str side, .int sp]) ∧ [(h, ("gets" : Str)), (h, ("gives" : Str))][j]? = some (h, side) ∧
              (∀ m : Mv, hasK [Sum.inr h, Sum.inr side] m = decide (([Option.none, Option.none, m.2.2.1, some m.2.2.2] : List (Option Str))[sp.toNat]? = some (some h))) ∧ (sp = 3 ∨ sp = 2) := by
            match j, hz with
            | 0, hz =>
              cases hz
              refine ⟨"gets", 3, t1, rfl, f3.at0 T1, rfl, fun m => ?_, .inl rfl⟩
              rw [hasK_gets]
              by_cases z : m.2.2.2 = h <;> simp [z]
            | 1, hz =>
              cases hz
              refine ⟨"gives", 2, t2, rfl, f3.at0 T2, rfl, fun m => ?_, .inr rfl⟩
              rw [hasK_gives]
              by_cases z : m.2.2.1 = some h <;> simp [z]
            | j + 2, hz => simp at hz
          refine g_tup2 htz ?_
          walk_at "go"
          have hM12 : H12 M = some (.lst vs) := f3.at0 (S11.at0 (S7.at0 hM1))
          refine g_kList hM12 ?_
          have S12 : Step [] H H12 := (S7.trans S11).trans f3
          refine wLc_list (xs := vs) fun L6 H13 hL6 s13 eL6 => ?_
          refine ⟨fun l H' => ∃ us, H' L6 = some (.lst us) ∧ us.length = ((ms.take l).filter (hasK [Sum.inr h, Sum.inr side])).length ∧ Step [] H12 H', ⟨[], eL6, rfl, s13⟩, fun l H' _ z => by obtain ⟨us, z1, z2, z3⟩ := z; exact z3.at0 hM12, ?_, ?_⟩
          · rintro l v H14 hv ⟨us, a1, a2, a3⟩
            obtain ⟨m2, hm2, hr⟩ := P_get hMp hv
            have hl : l < ms.length := (List.getElem?_eq_some_iff.mp hm2).1
            obtain ⟨T, x1, x2, x3, x4, rfl, hT7, r1, r2, r3, r4⟩ := mMv _ _ _ _ (S12.trans a3).le0 hr
            have e3 : x3 = oV V.str m2.2.2.1 := r3
            have e4 : x4 = V.str m2.2.2.2 := r4
            walk_at "go"
            have hx : ∃ x, atI [x1, x2, x3, x4] sp = some x ∧ (scal x (V.str h) = true) ∧ decide (x = V.str h) = hasK [Sum.inr h, Sum.inr side] m2 := by
              rw [hcnt m2]
              rcases hat with rfl | rfl
              · refine ⟨x4, rfl, by rw [e4]; rfl, ?_⟩
                rw [e4]
                by_cases z : m2.2.2.2 = h <;> simp [z]
              · refine ⟨x3, rfl, by rw [e3]; cases m2.2.2.1 <;> rfl, ?_⟩
                rw [e3, oS_dec0]
                by_cases z : m2.2.2.1 = some h <;> simp [z]
            obtain ⟨x, hx1, hx2, hx3⟩ := hx
            refine g_ixT hT7 hx1 ?_
            walk_at "go"
            refine g_eq hx2 ?_
            rw [hx3]
            walk_at "go"
            refine g_kTst ?_
            refine g_iteB (fun he => ?_) (fun he => ?_)
            · walk_at "go"
              refine g_kEl a1 (ltLine (by rw [a2]; exact Nat.le_trans (List.length_filter_le _ _) (by rw [List.length_take]; omega))) fun H15 s15 e15 => ?_
              refine ⟨_, e15, ?_, a3.via s15 hL6⟩
              rw [List.take_add_one, hm2, List.filter_append, List.length_append, List.length_append, a2]
              simp [he]
            · refine ⟨us, a1, ?_, a3⟩
              rw [List.take_add_one, hm2, List.filter_append, List.length_append, a2]
              simp [he]
          · rintro H14 ⟨us, a1, a2, a3⟩
            rw [hvl, List.take_length] at a2
            have a2 : us.length = cnt ms [Sum.inr h, Sum.inr side] := a2
            walk_at "go"
            rw [a2]
            have hbeh : behind (((ys.take i).flatMap fun h => [(h, ("gets" : Str)), (h, ("gives" : Str))]) ++ [(h, ("gets" : Str)), (h, ("gives" : Str))].take j) h side := by
              intro k hk
              rcases List.mem_append.mp hk with hk | hk
              · obtain ⟨h', hh', hk⟩ := List.mem_flatMap.mp hk
                have hk1 : k.1 = h' := by
                  simp at hk
                  rcases hk with rfl | rfl <;> rfl
                rw [hk1]
                obtain ⟨l, hl⟩ := List.mem_iff_getElem?.mp hh'
                have hli : l < i := by have := (List.getElem?_eq_some_iff.mp hl).1; rw [List.length_take] at this; omega
                rw [List.getElem?_take_of_lt hli] at hl
                obtain ⟨l1, l2⟩ := List.getElem?_eq_some_iff.mp hl
                obtain ⟨i1, i2⟩ := List.getElem?_eq_some_iff.mp hh
                have hle := List.pairwise_iff_getElem.mp ypw l i l1 i1 hli
                rw [l2, i2] at hle
                refine .inl ?_
                rcases List.le_iff_lt_or_eq.mp hle with hlt | heq
                · exact hlt
                · have := cs_inj heq
                  have hx := (List.getElem_inj ynd (h₀ := l1) (h₁ := i1)).mp (by rw [l2, i2]; exact this)
                  omega
              · match j, hkey, hk with
                | 0, hkey, hk => simp at hk
                | 1, hkey, hk =>
                  simp at hk hkey
                  subst hk
                  subst hkey
                  exact .inr ⟨rfl, show ¬ cs ("gives" : Str) < cs ("gets" : Str) by decide⟩
                | j + 2, hkey, hk => simp at hkey
            have hkj : [(h, ("gets" : Str)), (h, ("gives" : Str))].take (j + 1) = [(h, ("gets" : Str)), (h, ("gives" : Str))].take j ++ [(h, side)] := by rw [List.take_add_one, hkey]; rfl
            have S14 : Step [] H11 H14 := f3.trans a3
            have nk14 : nkV H14 bv o := by
              cases o with
              | none => exact f1
              | some x =>
                obtain ⟨x1, x2, x3⟩ := x
                obtain ⟨t, e, ht⟩ := f1
                exact ⟨t, e, a3.at0 ht⟩
            refine g_tcut (fun b H' => (b = true ↔ cnt ms [Sum.inr h, Sum.inr side] ≠ 0 ∧ ∀ x, o = some x → x.2.2 < cnt ms [Sum.inr h, Sum.inr side]) ∧ H' = H14) ?_ ?_
            · walk_at "go"
              refine g_ite (fun hpos => ?_) (fun hpos => ?_)
              · refine g_tcut (fun b H' => (b = true ↔ ∀ x, o = some x → x.2.2 < cnt ms [Sum.inr h, Sum.inr side]) ∧ H' = H14) ?_ ?_
                · walk_at "go"
                  refine ⟨rfl, ?_⟩
                  cases o with
                  | none =>
                    have e : bv = .non := nk14
                    subst e
                    walk_at "go"
                    rw [decide_eq_true rfl]
                    exact iteT ⟨⟨fun _ x z => (nomatch z), fun _ => rfl⟩, rfl⟩
                  | some x =>
                    obtain ⟨x1, x2, x3⟩ := x
                    obtain ⟨t, rfl, ht⟩ := nk14
                    walk_at "go"
                    rw [decide_eq_false (fun z => nomatch z)]
                    refine iteF ?_
                    walk_at "go"
                    refine ⟨?_, rfl⟩
                    rw [decide_eq_true_eq]
                    constructor
                    · intro z x e
                      cases e
                      show x3 < _
                      omega
                    · intro z
                      have : x3 < cnt ms [Sum.inr h, Sum.inr side] := z _ rfl
                      omega
                · rintro b _ ⟨hb, rfl⟩
                  exact ⟨⟨fun z => ⟨by omega, hb.mp z⟩, fun z => hb.mpr z.2⟩, rfl⟩
              · exact ⟨⟨fun z => (nomatch z), fun z => absurd z.1 (by omega)⟩, rfl⟩
            · rintro b _ ⟨hb, rfl⟩
              have bs := f2.snoc hbeh b hb
              rw [List.append_assoc, ← hkj] at bs
              refine g_iteB (fun hbt => ?_) (fun hbf => ?_)
              · rw [if_pos hbt] at bs
                walk_at "go"
                intro tb H15 htb s15 etb
                exact ⟨_, _, _, _, _, some (h, side, cnt ms [Sum.inr h, Sum.inr side]), rfl, ⟨tb, rfl, etb⟩, bs, S14.trans s15⟩
              · rw [if_neg (by rw [hbf]; exact Bool.false_ne_true)] at bs
                walk_at "go"
                exact ⟨_, _, _, _, _, o, rfl, nk14, bs, S14⟩
        · rintro σ H12 ⟨bv, v3, v4, v5, v6, o, rfl, f1, f2, f3⟩
          refine ⟨bv, _, _, _, _, _, o, rfl, f1, ?_, S11.trans f3⟩
          rw [List.take_add_one, hh, List.flatMap_append]
          simpa using f2
      · rintro σ H8 ⟨bv, v2, v3, v4, v5, v6, o, rfl, k1, k2, k3⟩
        rw [List.length_map, List.take_length] at k2
        have S8 := S7.trans k3
        walk_at "go"
        cases o with
        | none =>
          have e : bv = .non := k1
          subst e
          refine q0 ?_ H8 S8
          cases ms with
          | nil => rfl
          | cons m r =>
            have hc : cnt (m :: r) (takE m) ≠ 0 := by
              unfold cnt
              rw [List.filter_cons_of_pos (by unfold hasK; simp)]
              simp
            exact absurd (k2 (m.2.2.2, "gets") (List.mem_flatMap.mpr ⟨m.2.2.2, (ymem _).mpr (.inl ⟨m, List.mem_cons_self .., rfl⟩), by simp⟩)) hc
        | some x =>
          obtain ⟨x1, x2, x3⟩ := x
          obtain ⟨t, rfl, ht⟩ := k1
          refine q t x1 x2 x3 H8 S8 ht (k2.done fun h' s' hh => ?_)
          obtain ⟨x, y, m, hm, e, hk⟩ := cnt_key hh
          injection e with e1 e2
          injection e2 with e2 _
          have e1 : h' = x := Sum.inr.inj e1
          have e2 : s' = y := Sum.inr.inj e2
          subst e1 e2
          unfold hasK at hk
          rw [Bool.or_eq_true, decide_eq_true_eq, decide_eq_true_eq] at hk
          rcases hk with hk | hk
          · obtain ⟨z, g1, g2⟩ := Option.map_eq_some_iff.mp hk
            injection g2 with g2 g3
            injection g3 with g3 _
            have g2 : z = h' := Sum.inr.inj g2
            have g3 : ("gives" : Str) = s' := Sum.inr.inj g3
            subst g2 g3
            exact List.mem_flatMap.mpr ⟨z, (ymem _).mpr (.inr ⟨m, hm, g1⟩), by simp⟩
          · unfold takE at hk
            injection hk with g2 g3
            injection g3 with g3 _
            have g2 : m.2.2.2 = h' := Sum.inr.inj g2
            have g3 : ("gets" : Str) = s' := Sum.inr.inj g3
            subst g2 g3
            exact List.mem_flatMap.mpr ⟨m.2.2.2, (ymem _).mpr (.inl ⟨m, hm, rfl⟩), by simp⟩
end

end My
namespace My
open PySem PySem.Spec PyProof.Rows L2
/-! the rounds, in plain words -/
/-- the places of a round -/
def plc (N : Nat) (c : Nat → Nat) (w r : Nat) : List Nat := (List.range N).filter fun i => decide (c i / w = r)
theorem rnd_plc (ms : List Mv) (c : Nat → Nat) (w r : Nat) : rnd ms c w r = (plc ms.length c w r).filterMap fun i => ms[i]? := by
  have key : ∀ n, n ≤ ms.length → rnd (ms.take n) c w r = (plc n c w r).filterMap fun i => ms[i]? := by
    intro n
    induction n with
    | zero => intro _; rfl
    | succ n ih =>
      intro hn
      have hm : ms[n]? = some ms[n] := List.getElem?_eq_getElem (by omega)
      rw [List.take_add_one, hm]
      show rnd (ms.take n ++ [ms[n]]) c w r = _
      rw [rnd_snoc, ih (by omega), List.length_take, Nat.min_eq_left (by omega)]
      unfold plc
      rw [List.range_succ, List.filter_append, List.filterMap_append]
      congr 1
      by_cases h : c n / w = r
      · rw [if_pos h]; simp [h, hm]
      · rw [if_neg h]; simp [h]
  have := key ms.length (Nat.le_refl _)
  rwa [List.take_length] at this
theorem plc_len (ms : List Mv) (c : Nat → Nat) (w r : Nat) : (rnd ms c w r).length = (plc ms.length c w r).length := by
  rw [rnd_plc, List.length_filterMap_eq_countP]
  rw [List.countP_eq_length.mpr fun i hi => ?_]
  have := List.mem_range.mp (List.mem_filter.mp hi).1
  simp [this]
/-- an end of the graph by a house and side -/
theorem hasK_inc {ms : List Mv} {i : Nat} {m : Mv} (hm : ms[i]? = some m) {x y : Str} (h : hasK [Sum.inr x, Sum.inr y] m = true) : (mvG ms).inc i [Sum.inr x, Sum.inr y] := by
  refine ⟨_, ends_get hm, ?_⟩
  unfold hasK at h
  rw [Bool.or_eq_true, decide_eq_true_eq, decide_eq_true_eq] at h
  rcases h with h | h
  · obtain ⟨z, e1, e2⟩ := Option.map_eq_some_iff.mp h
    left
    unfold givE
    rw [e1]
    exact e2.symm
  · exact .inr h.symm
theorem cnt_rnd {ms : List Mv} {w R : Nat} {c : Nat → Nat} {u : En → Nat → Option Nat} (h : Rounds ms w c u R) (hw : 0 < w) (r : Nat) (x y : Str) : cnt (rnd ms c w r) [Sum.inr x, Sum.inr y] ≤ w := by
  have e : cnt (rnd ms c w r) [Sum.inr x, Sum.inr y] = ((plc ms.length c w r).filter fun i => match ms[i]? with | none => false | some m => hasK [Sum.inr x, Sum.inr y] m).length := by
    unfold cnt
    rw [rnd_plc, List.filter_filterMap, List.length_filterMap_eq_countP, ← List.countP_eq_length_filter]
    apply List.countP_congr
    intro i hi
    have hl := List.mem_range.mp (List.mem_filter.mp hi).1
    rw [List.getElem?_eq_getElem hl]
    simp [Option.filter]
  rw [e]
  have hj : ∀ i ∈ (plc ms.length c w r).filter (fun i => match ms[i]? with | none => false | some m => hasK [Sum.inr x, Sum.inr y] m), i < ms.length ∧ c i / w = r ∧ (mvG ms).inc i [Sum.inr x, Sum.inr y] := by
    intro i hi
    obtain ⟨h1, h2⟩ := List.mem_filter.mp hi
    obtain ⟨h3, h4⟩ := List.mem_filter.mp h1
    have h3 := List.mem_range.mp h3
    rw [List.getElem?_eq_getElem h3] at h2
    exact ⟨h3, of_decide_eq_true h4, hasK_inc (List.getElem?_eq_getElem h3) h2⟩
  have hnd : ((plc ms.length c w r).filter (fun i => match ms[i]? with | none => false | some m => hasK [Sum.inr x, Sum.inr y] m)).Nodup := (List.nodup_range.filter _).filter _
  generalize (plc ms.length c w r).filter (fun i => match ms[i]? with | none => false | some m => hasK [Sum.inr x, Sum.inr y] m) = js at hj hnd
  have h1 : (js.map fun i => c i - r * w).Nodup := by
    rw [List.nodup_iff_pairwise_ne, List.pairwise_map]
    refine hnd.imp_of_mem fun {i j} hi hj' hne he => hne ?_
    obtain ⟨a1, a2, a3⟩ := hj i hi
    obtain ⟨b1, b2, b3⟩ := hj j hj'
    refine h.ok.uniq a1 b1 a3 b3 ?_
    have e1 := Nat.div_add_mod (c i) w
    have e2 := Nat.div_add_mod (c j) w
    rw [a2, Nat.mul_comm] at e1
    rw [b2, Nat.mul_comm] at e2
    omega
  have := Gr.nodup_le (n := w) h1 fun z hz => by
    obtain ⟨i, hi, rfl⟩ := List.mem_map.mp hz
    obtain ⟨a1, a2, a3⟩ := hj i hi
    have e1 := Nat.div_add_mod (c i) w
    have e2 := Nat.mod_lt (c i) hw
    rw [a2, Nat.mul_comm] at e1
    omega
  rwa [List.length_map] at this
theorem inc_hasK {n : Nat} {m : Mv} {x y : Str} : (decide (([Sum.inr x, Sum.inr y] : En) = givE n m) || decide (([Sum.inr x, Sum.inr y] : En) = takE m)) = hasK [Sum.inr x, Sum.inr y] m := by
  unfold hasK
  congr 1
  · unfold givE
    cases e : m.2.2.1 with
    | none =>
      rw [decide_eq_false (fun z => by injection z with z _; cases z)]
      simp
    | some z =>
      rw [Bool.eq_iff_iff, decide_eq_true_eq, decide_eq_true_eq]
      exact ⟨fun q => by rw [q]; rfl, fun q => (Option.some.inj q).symm⟩
  · rw [Bool.eq_iff_iff, decide_eq_true_eq, decide_eq_true_eq]
    exact eq_comm
theorem deg_cnt (ms : List Mv) (n : Nat) (x y : Str) (hn : n ≤ ms.length) : (mvG ms).deg n [Sum.inr x, Sum.inr y] = cnt (ms.take n) [Sum.inr x, Sum.inr y] := by
  induction n with
  | zero => simp [Gr.deg, cnt]
  | succ n ih =>
    have hm : ms[n]? = some ms[n] := List.getElem?_eq_getElem (by omega)
    rw [List.take_add_one, hm]
    show _ = cnt (ms.take n ++ [ms[n]]) _
    rw [cnt_snoc, ← ih (by omega)]
    unfold Gr.deg
    rw [List.take_add_one, show (mvG ms).es = ends ms from rfl, ends_get hm, List.filter_append, List.length_append]
    congr 1
    rw [← inc_hasK (n := n)]
    by_cases z : (decide (([Sum.inr x, Sum.inr y] : En) = givE n ms[n]) || decide (([Sum.inr x, Sum.inr y] : En) = takE ms[n])) = true
    · rw [if_pos z]; simp [z]
    · rw [if_neg z]; simp [z]
theorem deg_range {G : Gr} {e : En} : ∀ m, m ≤ G.es.length → G.deg m e = ((List.range m).filter fun x => match G.es[x]? with
    | none => false
    | some p => decide (e = p.1) || decide (e = p.2)).length := by
  intro m
  unfold Gr.deg
  induction m with
  | zero => intro _; rfl
  | succ m ih =>
    intro hm
    rw [List.range_succ, List.filter_append, List.length_append, ← ih (by omega), List.take_add_one, List.filter_append, List.length_append]
    congr 1
    rw [List.getElem?_eq_getElem (by omega : m < G.es.length)]
    simp only [Option.toList_some, List.filter_cons, List.filter_nil, List.getElem?_eq_getElem (by omega : m < G.es.length)]
    split <;> rfl
/-- no end has more than the neck -/
theorem deg_neck {ms : List Mv} {h s : Str} {n : Nat} (k : NeckAt ms h s n) (e : En) : (mvG ms).deg ms.length e ≤ n := by
  have hp := k.pos
  by_cases hz : (mvG ms).deg ms.length e = 0
  · omega
  · unfold Gr.deg at hz
    obtain ⟨p, hp1⟩ := List.exists_mem_of_length_pos (Nat.pos_of_ne_zero hz)
    obtain ⟨hp2, hp3⟩ := List.mem_filter.mp hp1
    have hp2 := List.mem_of_mem_take hp2
    rw [show (mvG ms).es = ends ms from rfl] at hp2
    unfold ends at hp2
    obtain ⟨⟨m, i⟩, hm, rfl⟩ := List.mem_map.mp hp2
    have two : ∀ x y : Str, e = [Sum.inr x, Sum.inr y] → (mvG ms).deg ms.length e ≤ n := fun x y he => by
      subst he
      rw [deg_cnt ms ms.length x y (Nat.le_refl _), List.take_length]
      by_cases hc : cnt ms [Sum.inr x, Sum.inr y] = 0
      · omega
      · exact (k.best x y hc).1
    rw [Bool.or_eq_true, decide_eq_true_eq, decide_eq_true_eq] at hp3
    rcases hp3 with hp3 | hp3
    · cases hf : m.2.2.1 with
      | some z => exact two z "gives" (by rw [hp3]; unfold givE; rw [hf])
      | none =>
        have he : e = [Sum.inl (i : Int), Sum.inr ("alone" : Str)] := by rw [hp3]; unfold givE; rw [hf]
        subst he
        rw [deg_range _ (by show _ ≤ (ends ms).length; rw [ends_len]; exact Nat.le_refl _)]
        refine Nat.le_trans (sub_len (l2 := [i]) (List.nodup_range.filter _) fun j hj => ?_) (by simpa using Nat.one_le_iff_ne_zero.mpr hp)
        obtain ⟨j1, j2⟩ := List.mem_filter.mp hj
        have j1 := List.mem_range.mp j1
        rw [show (mvG ms).es = ends ms from rfl, ends_get (List.getElem?_eq_getElem j1)] at j2
        dsimp only at j2
        rw [Bool.or_eq_true, decide_eq_true_eq, decide_eq_true_eq] at j2
        rcases j2 with j2 | j2
        · unfold givE at j2
          split at j2
          · injection j2 with j3 _
            have := Sum.inl.inj j3
            simp; omega
          · injection j2 with j3 _
            cases j3
        · unfold takE at j2
          injection j2 with j3 _
          cases j3
    · exact two _ _ hp3
theorem rounds_many {ms : List Mv} {w R : Nat} {c : Nat → Nat} {u : En → Nat → Option Nat} (hR : Rounds ms w c u R) (hw : 0 < w) {h s : Str} {n : Nat} (k : NeckAt ms h s n) : R = (n + w - 1) / w := by
  have hlt := hR.lt n (deg_neck k)
  have hd : (mvG ms).deg ms.length [Sum.inr h, Sum.inr s] = n := by rw [deg_cnt ms ms.length h s (Nat.le_refl _), List.take_length]; exact k.eq
  have hp := k.pos
  obtain ⟨x, hx, hxc⟩ := hR.ok.all (D := n) hlt hd (n - 1) (by omega)
  have h1 := hR.all x hx
  rw [hxc] at h1
  have e1 : (n + w - 1) / w = (n - 1) / w + 1 := by
    rw [show n + w - 1 = (n - 1) + w by omega, Nat.add_div_right _ hw]
  rw [e1]
  clear e1
  rcases hR.top with h2 | ⟨i, hi, h2⟩
  · rw [h2] at h1; exact absurd h1 (Nat.not_lt_zero _)
  · have h3 := Nat.div_le_div_right (c := w) (show c i ≤ n - 1 by have := hlt i hi; omega)
    omega
theorem max_of {α : Type} [Inhabited α] (f : α → Nat) : ∀ B, (∀ e, f e ≤ B) → ∃ e, ∀ e', f e' ≤ f e
  | 0, h => ⟨default, fun e' => Nat.le_trans (h e') (Nat.zero_le _)⟩
  | B + 1, h => by
    by_cases z : ∃ e, f e = B + 1
    · obtain ⟨e, he⟩ := z
      exact ⟨e, fun e' => by rw [he]; exact h e'⟩
    · exact max_of f B fun e => by
        have := h e
        have : f e ≠ B + 1 := fun q => z ⟨e, q⟩
        omega
/-- no round is empty -/
theorem Rounds.ne {ms : List Mv} {w R : Nat} {c : Nat → Nat} {u : En → Nat → Option Nat} (h : Rounds ms w c u R) (hw : 0 < w) {r : Nat} (hr : r < R) : rnd ms c w r ≠ [] := by
  rcases h.top with h0 | ⟨i, hi, hi2⟩
  · omega
  · obtain ⟨e, he⟩ := max_of (fun e => (mvG ms).deg ms.length e) ms.length (fun e => deg_len)
    have hlt := h.lt _ he
    have h1 : r * w ≤ c i := by
      have : r ≤ c i / w := by omega
      exact (Nat.le_div_iff_mul_le hw).mp this
    obtain ⟨x, hx, hxc⟩ := h.ok.all (D := (mvG ms).deg ms.length e) hlt rfl (r * w) (Nat.lt_of_le_of_lt h1 (hlt i hi))
    exact rnd_ne hx (by rw [hxc]; exact Nat.mul_div_cancel _ hw)

end My
namespace My
open PySem PySem.Spec PyProof.Rows L2
/-! the law's judgement of the rounds -/
section
variable {K : PySem.W.Frag} {H : Hp} {Q : VK} {α : Type} [DecidableEq α] {r : Rp α}
theorem g_indexC {u v : V} {x : α} {xs : List α} {j : Nat} (c : Cod K r) (h1 : rL r H u xs) (h2 : r H v x) (o1 : ∀ y ∈ xs, c.ok y) (o2 : c.ok x) (hj : xs[j]? = some x) (hno : ∀ m, m < j → xs[m]? ≠ some x) (q : Q (.int (j : Nat)) H) (hd : c.dep + 1 ≤ 64 := by exact Nat.le_of_ble_eq_true rfl) : rIndexD K u [v] H Q := by
  obtain ⟨a, vs, rfl, _⟩ := id h1
  refine ⟨a, v, c.enc x, xs.map c.enc, j, c.enc x, rfl, rfl, (cL c).dp H _ _ h1, c.dp H _ _ h2, (cL c).shaped (x := xs) o1 hd, c.shaped o2 (Nat.le_of_succ_le hd), by rw [List.getElem?_map, hj]; rfl, (c.eqv x x).mpr rfl, fun m z hm hz => ?_, q⟩
  rw [List.getElem?_map, Option.map_eq_some_iff] at hz
  obtain ⟨y, hy, rfl⟩ := hz
  rw [c.dec]
  exact decide_eq_false fun e => hno m hm (by rw [hy, e])
theorem g_inP {u v : V} {x : α} {xs : List α} (c : Cod K r) (h1 : rL r H v xs) (h2 : r H u x) (o1 : ∀ y ∈ xs, c.ok y) (o2 : c.ok x) (q : ∀ b : Bool, (b = true ↔ x ∈ xs) → Q (.bl b) H) (hd : c.dep + 1 ≤ 64 := by exact Nat.le_of_ble_eq_true rfl) : rInD K u v H Q :=
  g_inC c h1 h2 o1 o2 (q _ (by simp)) hd
theorem g_sortedIA {p : Addr} {ns : List Int} (h : H p = some (.lst (ns.map V.int))) (q : ∀ (ns' : List Int) p' H2, ns'.Perm ns → ns'.Pairwise (· ≤ ·) → H p' = none → Step [] H H2 → H2 p' = some (.lst (ns'.map V.int)) → Q (.ref p') H2) : rSortedI K [.ref p] H Q :=
  ⟨p, ns, rfl, SqL.of h, fun ns' p' h1 h2 hp => q ns' p' _ h1 h2 hp (Step.new hp) upd_same⟩
theorem perm_sorted : ∀ {l1 l2 : List Int}, l1.Perm l2 → l1.Pairwise (· ≤ ·) → l2.Pairwise (· ≤ ·) → l1 = l2
  | [], l2, h, _, _ => (List.Perm.nil_eq h)
  | a :: l1, [], h, _, _ => absurd h.length_eq (by simp)
  | a :: l1, b :: l2, h, h1, h2 => by
    obtain ⟨a1, a2⟩ := List.pairwise_cons.mp h1
    obtain ⟨b1, b2⟩ := List.pairwise_cons.mp h2
    have hab : a = b := by
      have m1 : a ∈ b :: l2 := h.mem_iff.mp (List.mem_cons_self ..)
      have m2 : b ∈ a :: l1 := h.mem_iff.mpr (List.mem_cons_self ..)
      rcases List.mem_cons.mp m1 with e | m1
      · exact e
      · rcases List.mem_cons.mp m2 with e | m2
        · exact e.symm
        · have := a1 b m2; have := b1 a m1; omega
    subst hab
    rw [perm_sorted (List.perm_cons a |>.mp h) a2 b2]
end
theorem tyL {K : PySem.W.Frag} {H : Hp} {a : Addr} {xs : List V} (h : SqL K H a xs) : TyX K H (.ref a) (.type "list") := by
  rcases h with (h | ⟨o, h⟩) | ⟨o, its, n, h1, h2, _⟩
  · exact .base (.lst h)
  · exact .base (.frz h)
  · exact .kList h1 h2
/-- the places of all rounds together -/
theorem plc_perm (N : Nat) (c : Nat → Nat) (w R : Nat) (h : ∀ i, i < N → c i / w < R) : (((List.range R).map (plc N c w)).flatten).Perm (List.range N) := by
  rw [List.perm_ext_iff_of_nodup]
  · intro a
    rw [List.mem_flatten]
    constructor
    · rintro ⟨l, hl, ha⟩
      obtain ⟨r, _, rfl⟩ := List.mem_map.mp hl
      exact (List.mem_filter.mp ha).1
    · intro ha
      have ha' := List.mem_range.mp ha
      exact ⟨_, List.mem_map.mpr ⟨c a / w, List.mem_range.mpr (h a ha'), rfl⟩, List.mem_filter.mpr ⟨ha, decide_eq_true rfl⟩⟩
  · rw [List.nodup_iff_pairwise_ne, List.pairwise_flatten]
    refine ⟨fun l hl => ?_, ?_⟩
    · obtain ⟨r, _, rfl⟩ := List.mem_map.mp hl
      exact (List.nodup_range.filter _)
    · rw [List.pairwise_map]
      refine (List.nodup_range (n := R)).imp_of_mem fun {a b} _ _ hne x hx y hy e => hne ?_
      subst e
      have h1 := of_decide_eq_true (List.mem_filter.mp hx).2
      have h2 := of_decide_eq_true (List.mem_filter.mp hy).2
      omega
  · exact List.nodup_range
theorem sum_cast : ∀ l : List Nat, (l.map fun (n : Nat) => (n : Int)).sum = (l.sum : Int)
  | [] => rfl
  | n :: l => by rw [List.map_cons, List.sum_cons, List.sum_cons, sum_cast l]; omega
theorem P_ints {H : Hp} : ∀ xs : List Int, Paired (rI H) (xs.map V.int) xs
  | [] => .nil
  | _ :: xs => .cons rfl (P_ints xs)
def kLstRg (Q : VK) : VK := fun x H1 => ∃ n, x = .int n ∧ RgOk 0 n ∧ ∀ q, H1 q = none → Q (.ref q) (upd H1 q (.lst (rgV 0 n)))
theorem g_lstRg {ta : TE} {σ : L2.St} {H : Hp} {Q : VK} (h : ta σ H (kLstRg Q)) : tLstRg (tRg1 ta) σ H Q := h
theorem g_kLstRg {H : Hp} {Q : VK} {n : Int} (h0 : 0 ≤ n) (h1 : n ≤ 100000) (q : ∀ p H2, H p = none → Step [] H H2 → H2 p = some (.lst (rgV 0 n)) → Q (.ref p) H2) : kLstRg Q (.int n) H := ⟨n, rfl, RgOk.of_le (Int.le_refl 0) (by omega) (by decide) h0, fun p hp => q p _ hp (Step.new hp) upd_same⟩
theorem P_mapR {α β γ : Type} {F : α → β → Prop} {G : α → γ → Prop} {f : β → γ} : ∀ {l1 : List α} {l2 : List β}, Paired F l1 l2 → (∀ a b, F a b → G a (f b)) → Paired G l1 (l2.map f)
  | _, _, .nil, _ => .nil
  | _, _, .cons a t, h => .cons (h _ _ a) (P_mapR t h)
theorem rnd_get {ms : List Mv} {c : Nat → Nat} {w r j : Nat} {m : Mv} (h : (rnd ms c w r)[j]? = some m) : ∃ p, (plc ms.length c w r)[j]? = some p ∧ ms[p]? = some m := by
  rw [rnd_plc] at h
  have key : ∀ (l : List Nat) (j : Nat), (∀ p ∈ l, p < ms.length) → (l.filterMap fun i => ms[i]?)[j]? = some m → ∃ p, l[j]? = some p ∧ ms[p]? = some m := by
    intro l
    induction l with
    | nil => intro j _ h; simp at h
    | cons p l ih =>
      intro j hl h
      obtain ⟨mp, hp⟩ : ∃ mp, ms[p]? = some mp := ⟨_, List.getElem?_eq_getElem (hl p (List.mem_cons_self ..))⟩
      rw [List.filterMap_cons_some hp] at h
      cases j with
      | zero => exact ⟨p, rfl, by rw [hp]; simpa using h⟩
      | succ j => exact ih j (fun q hq => hl q (List.mem_cons_of_mem _ hq)) (by simpa using h)
  exact key _ j (fun p hp => List.mem_range.mp (List.mem_filter.mp hp).1) h
theorem nd_index {ms : List Mv} (hn : ms.Nodup) {p : Nat} {m : Mv} (h : ms[p]? = some m) : ∀ k, k < p → ms[k]? ≠ some m := by
  intro k hk e
  obtain ⟨h1, h2⟩ := List.getElem?_eq_some_iff.mp h
  obtain ⟨e1, e2⟩ := List.getElem?_eq_some_iff.mp e
  have := (List.getElem_inj hn (h₀ := e1) (h₁ := h1)).mp (e2.trans h2.symm)
  omega
instance dLL : DecidableEq (List (List Mv)) := @instDecidableEqList (List Mv) (@instDecidableEqList Mv inferInstance)
def sp_w_good (P : Program) (w : World) : Sp := fun vs H Q _ => ∃ (M T : Addr) (ms : List Mv) (wd R : Nat) (c : Nat → Nat) (u : En → Nat → Option Nat), vs = [.ref M, .ref T, .int (wd : Nat)] ∧ rL rMv H (.ref M) ms ∧ rL (rL rMv) H (.ref T) ((List.range R).map (rnd ms c wd)) ∧ ms.Nodup ∧ ms.length ≤ 100 ∧ (∀ m ∈ ms, MvS m) ∧
  Rounds ms wd c u R ∧ R ≤ 1000 ∧ 0 < wd ∧ wd < 2 ^ 200 ∧ ∀ H', Step [] H H' → Q (.bl true) H'
section
variable {P : Program} {w : World} {K : PySem.W.Frag} {mg : Str → Option Value} {base : Heap}
theorem ok_w_good (C : Ctx K mg) : Has P w K mg base CX0 2 "_law_good" ["steps", "found", "wide"] (sp_w_good P w) := by
  obtain ⟨fd, F⟩ := fn_w_good C
  obtain ⟨f_w_neck, fd_w_neck, G_w_neck, mg_w_neck, kp_w_neck, b_w_neck⟩ := (ok_w_neck (P := P) (w := w) (base := base) C).ex
  refine ⟨⟨_, fd, ?_, gl_w_good C, F.kp, F.bindsN fun _ _ _ _ _ _ us hl => match us, hl with | [_, _, _], _ => rfl⟩⟩
  refine F.ok (CX := CX0) sc_w_good (fun vs H Q E h => ?_) (fun cdv A outer s H vs Q E hr h => ?_)
  · first | (obtain ⟨_, rfl, _⟩ := h; rfl; done) | (obtain ⟨_, _, rfl, _⟩ := h; rfl; done) | (obtain ⟨_, _, _, rfl, _⟩ := h; rfl; done) | (obtain ⟨_, _, _, _, rfl, _⟩ := h; rfl; done) | (obtain ⟨_, _, _, _, _, rfl, _⟩ := h; rfl; done) | (obtain ⟨_, _, _, _, _, _, rfl, _⟩ := h; rfl; done) | (obtain ⟨_, _, _, _, _, _, _, rfl, _⟩ := h; rfl; done) | (obtain ⟨_, _, _, _, _, _, _, _, rfl, _⟩ := h; rfl; done) | (obtain ⟨_, _, _, _, _, _, _, _, _, rfl, _⟩ := h; rfl; done) | (obtain ⟨_, _, _, _, _, _, _, _, _, _, rfl, _⟩ := h; rfl; done) | (obtain ⟨_, _, _, _, _, _, _, _, _, _, _, rfl, _⟩ := h; rfl; done) | (obtain ⟨_, _, _, _, _, _, _, _, _, _, _, _, rfl, _⟩ := h; rfl; done) | (obtain ⟨_, _, _, _, _, _, _, _, _, _, _, _, _, rfl, _⟩ := h; rfl; done) | (obtain ⟨_, _, _, _, _, _, _, _, _, _, _, _, _, _, rfl, _⟩ := h; rfl; done) | (obtain ⟨_, _, _, _, _, _, _, _, _, _, _, _, _, _, _, rfl, _⟩ := h; rfl; done) | (obtain ⟨_, _, _, _, _, _, _, _, _, _, _, _, _, _, _, _, rfl, _⟩ := h; rfl; done) | (obtain ⟨_, _, _, _, _, _, _, _, _, _, _, _, _, _, _, _, _, rfl, _⟩ := h; rfl; done) | (obtain ⟨_, _, _, _, _, _, _, _, _, _, _, _, _, _, _, _, _, _, rfl, _⟩ := h; rfl; done) | (obtain ⟨_, _, _, _, _, _, _, _, _, _, _, _, _, _, _, _, _, _, _, rfl, _⟩ := h; rfl; done) | (obtain ⟨_, _, _, _, _, _, _, _, _, _, _, _, _, _, _, _, _, _, _, _, rfl, _⟩ := h; rfl; done) | (obtain ⟨_, _, _, _, _, _, _, _, _, _, _, _, _, _, _, _, _, _, _, _, _, rfl, _⟩ := h; rfl; done) | (rcases h with h | h <;> first | (obtain ⟨_, rfl, _⟩ := h; rfl; done) | (obtain ⟨_, _, rfl, _⟩ := h; rfl; done) | (obtain ⟨_, _, _, rfl, _⟩ := h; rfl; done) | (obtain ⟨_, _, _, _, rfl, _⟩ := h; rfl; done) | (obtain ⟨_, _, _, _, _, rfl, _⟩ := h; rfl; done) | (obtain ⟨_, _, _, _, _, _, rfl, _⟩ := h; rfl; done) | (obtain ⟨_, _, _, _, _, _, _, rfl, _⟩ := h; rfl; done) | (obtain ⟨_, _, _, _, _, _, _, _, rfl, _⟩ := h; rfl; done) | (obtain ⟨_, _, _, _, _, _, _, _, _, rfl, _⟩ := h; rfl; done) | (obtain ⟨_, _, _, _, _, _, _, _, _, _, rfl, _⟩ := h; rfl; done) | (obtain ⟨_, _, _, _, _, _, _, _, _, _, _, rfl, _⟩ := h; rfl; done) | (obtain ⟨_, _, _, _, _, _, _, _, _, _, _, _, rfl, _⟩ := h; rfl; done) | (obtain ⟨_, _, _, _, _, _, _, _, _, _, _, _, _, rfl, _⟩ := h; rfl; done) | (obtain ⟨_, _, _, _, _, _, _, _, _, _, _, _, _, _, rfl, _⟩ := h; rfl; done) | (obtain ⟨_, _, _, _, _, _, _, _, _, _, _, _, _, _, _, rfl, _⟩ := h; rfl; done) | (obtain ⟨_, _, _, _, _, _, _, _, _, _, _, _, _, _, _, _, rfl, _⟩ := h; rfl; done) | (obtain ⟨_, _, _, _, _, _, _, _, _, _, _, _, _, _, _, _, _, rfl, _⟩ := h; rfl; done) | (obtain ⟨_, _, _, _, _, _, _, _, _, _, _, _, _, _, _, _, _, _, rfl, _⟩ := h; rfl; done) | (obtain ⟨_, _, _, _, _, _, _, _, _, _, _, _, _, _, _, _, _, _, _, rfl, _⟩ := h; rfl; done) | (obtain ⟨_, _, _, _, _, _, _, _, _, _, _, _, _, _, _, _, _, _, _, _, rfl, _⟩ := h; rfl; done) | (obtain ⟨_, _, _, _, _, _, _, _, _, _, _, _, _, _, _, _, _, _, _, _, _, rfl, _⟩ := h; rfl; done))
  have hu := hu_of hr
  refine ⟨_, PSs.nox (pss_cons (ps_if (pt_cut (PW.pt (pw_or (pt_not (pt_val (pe_callB call_isi (by rfl) (fr_isinstance C) (by decide +kernel) (pa_cons (pv 1) (pa_cons (pe_bltn (v := .ty "list") (by rfl) (fr_list C) (by decide +kernel) rfl) pa_nil))))) (pw_or1 (pt_not (pt_val (pe_callB (cr_all rfl) (by rfl) (fr_all C) (by decide +kernel) (pa_cons (pe_lc (own := [("one", 3)]) (g := (gName 3)) (tt := tYes) rfl sc_w_good.nd (pi_list (pv 1)) (blkOk_by (N := N_w_good) (sc := defScope s_w_good) (own := [("one", 3)]) (by decide +kernel)) (fun _ _ _ _ _ => (pg_name (i := 3) sc_w_good.nd rfl (Or.inl rfl))) (fun _ _ _ _ _ => pts_nil) (fun _ _ _ _ _ => (pe_and (pe_callB (kCall (K := K) (r := rIsi) call_isi) (by rfl) (fr_isinstance C) (by decide +kernel) (pa_cons (pv 3) (pa_cons (pe_bltn (v := .ty "list") (by rfl) (fr_list C) (by decide +kernel) rfl) pa_nil))) (pe_one (pe_cmpR (kOp (K := K) (r := rNeD) (op_neD hr.units)) (pv 3) (pe_lst pa_nil) (nomark _)))))) pa_nil)))))))) (pss_one (ps_ret pe_bl)) pss_nil)
    (pss_cons (ps_setLc (i := 4) (own := [("one", 3)]) (g := (gName 3)) (tt := tYes) rfl sc_w_good.nd rfl rfl (sw_true rfl rfl rfl (by decide +kernel)) (pi_list (pv 1)) (blkOk_by (N := N_w_good) (sc := defScope s_w_good) (own := [("one", 3)]) (by decide +kernel)) (fun _ _ _ _ _ => (pg_name (i := 3) sc_w_good.nd rfl (Or.inl rfl))) (fun _ _ _ _ _ => pts_nil) (fun _ _ _ _ _ => (pe_lc (own := [("step", 7)]) (g := (gName 7)) rfl sc_w_good.nd (kList1 (K := K) (pv 3)) (blkOk_by (N := N_w_good) (sc := ({ kind := PySem.ScopeKind.function, names := [(".0", PySem.NameKind.local), ("one", PySem.NameKind.local), ("steps", PySem.NameKind.cell)], isGenerator := false, isCoroutine := false } : PySem.Scope)) (own := [("step", 7)]) (by decide +kernel)) (fun _ _ _ _ _ => (pg_name (i := 7) sc_w_good.nd rfl (Or.inl rfl))) (fun _ _ _ _ _ => (pts_one (pt_cmpR (kOp (K := K) (r := rInD) (op_inD (unit65 hr))) (pv 7) (pv 0) (by rfl)))) (fun _ _ _ _ _ => (pe_bmK (K := K) (pe_bm PySem.F.plainAttrs_list PySem.F.slot_list_index PySem.F.type_list_index (kMt (K := K) (r := rIndexD) (mt_indexD (unit65 hr))) (pv 0) (pa_cons (pv 7) pa_nil)))))))
    (pss_cons (ps_if (pt_cut (PW.pt (pw_or (pt_cmpR (op_neD hr.units) (pe_callB cr_sortedI (by rfl) (fr_sorted C) (by decide +kernel) (pa_cons (pe_callB (cr_sumL rfl) (by rfl) (fr_sum C) (by decide +kernel) (pa_cons (pv 4) (pa_cons (pe_lst pa_nil) pa_nil))) pa_nil)) (pe_listRg rfl (by rfl) (fr_list C) (prg_1 (by rfl) (fr_range C) (pe_callB cr_lenL (by rfl) (fr_len C) PySem.boot_len (pa_cons (pv 0) pa_nil)))) (nomark _)) (pw_or1 (pt_cmpR op_ne (pe_callB (cr_sum rfl) (by rfl) (fr_sum C) (by decide +kernel) (pa_cons (pe_lc (own := [("one", 3)]) (g := (gName 3)) (tt := tYes) rfl sc_w_good.nd (pi_list (pv 1)) (blkOk_by (N := N_w_good) (sc := defScope s_w_good) (own := [("one", 3)]) (by decide +kernel)) (fun _ _ _ _ _ => (pg_name (i := 3) sc_w_good.nd rfl (Or.inl rfl))) (fun _ _ _ _ _ => pts_nil) (fun _ _ _ _ _ => (pe_callB (kCall (K := K) (r := rLenL) cr_lenL) (by rfl) (fr_len C) PySem.boot_len (pa_cons (pv 3) pa_nil)))) pa_nil)) (pe_callB cr_lenL (by rfl) (fr_len C) PySem.boot_len (pa_cons (pv 0) pa_nil)) (nomark _)))))) (pss_one (ps_ret pe_bl)) pss_nil)
    (pss_cons (ps_if (pt_not (pt_val (pe_callB (cr_all rfl) (by rfl) (fr_all C) (by decide +kernel) (pa_cons (pe_lc (own := [("one", 3)]) (g := (gName 3)) (tt := tYes) rfl sc_w_good.nd (pi_list (pv 4)) (blkOk_by (N := N_w_good) (sc := defScope s_w_good) (own := [("one", 3)]) (by decide +kernel)) (fun _ _ _ _ _ => (pg_name (i := 3) sc_w_good.nd rfl (Or.inl rfl))) (fun _ _ _ _ _ => pts_nil) (fun _ _ _ _ _ => (pe_cmpR (kOp (K := K) (r := rEqD) (op_eqD hr.units)) (pv 3) (pe_callB (kCall (K := K) (r := rSortedI) cr_sortedI) (by rfl) (fr_sorted C) (by decide +kernel) (pa_cons (pv 3) pa_nil)) (nomark _)))) pa_nil)))) (pss_one (ps_ret pe_bl)) pss_nil)
    (pss_cons (ps_for PassesOwn.never rfl (pi_list (pv 1)) (pg_name (i := 3) sc_w_good.nd rfl (Or.inl rfl))
    (pss_cons (ps_set (i := 5) sc_w_good.nd rfl (Or.inl rfl) (pe_call G_w_neck (hr.mono (by decide)) rfl mg_w_neck kp_w_neck b_w_neck .nil pass0 (pa_cons (pv 3) pa_nil)))
    (pss_one (ps_if (pt_cmpR op_gt (pe_ix ix_tup (pv 5) pe_int (fun _ _ => rfl)) (pv 2) (nomark _)) (pss_one (ps_ret pe_bl)) pss_nil))))
    (pss_cons (ps_set (i := 6) sc_w_good.nd rfl (Or.inl rfl) (pe_call G_w_neck (hr.mono (by decide)) rfl mg_w_neck kp_w_neck b_w_neck .nil pass0 (pa_cons (pv 0) pa_nil)))
    (pss_cons (ps_if (pt_cmpR op_isN (pv 6) pe_non (nomark _)) (pss_one (ps_ret (pe_cmpR (op_eqD hr.units) (pv 1) (pe_lst pa_nil) (nomark _)))) pss_nil)
    (pss_one (ps_ret (pe_cmpR op_eq (pe_callB cr_lenL (by rfl) (fr_len C) PySem.boot_len (pa_cons (pv 1) pa_nil)) (pe_op op_divP (pe_op op_sub (pe_op op_add (pe_ix ix_tup (pv 6) pe_int (fun _ _ => rfl)) (pv 2)) pe_int) (pv 2)) (nomark _))))))))))), ?_⟩
  obtain ⟨M, T, ms, wd, R, c, u, rfl, hM, hT, hnd, hms, hok, hR, hRl, hw0, hw1, q⟩ := h
  obtain ⟨_, vs, ⟨⟩, hM1, hMp⟩ := id hM
  obtain ⟨_, L, ⟨⟩, hT1, hL⟩ := id hT
  have hvl : vs.length = ms.length := P_len hMp
  have hLl : L.length = R := by rw [P_len hL]; simp
  have rget : ∀ {i : Nat} {v : V}, L[i]? = some v → i < R ∧ rL rMv H v (rnd ms c wd i) := by
    intro i v hv
    obtain ⟨xs, hx, hr⟩ := P_get hL hv
    have hi : i < R := by have := (List.getElem?_eq_some_iff.mp hv).1; omega
    rw [List.getElem?_map, List.getElem?_range hi] at hx
    cases hx
    exact ⟨hi, hr⟩
  have rok : ∀ i, ∀ m ∈ rnd ms c wd i, MvS m := fun i m hm => hok m (rnd_mem hm)
  walk_at "go"
  refine g_tcut (fun b H' => b = false ∧ Step [] H H') ?_ ?_
  · walk_at "go"
    refine g_isi (r := true) (tyL (SqL.of hT1)) (by decide +kernel) ?_
    walk_at "go"
    refine iteF ?_
    walk_at "go"
    refine wLc_list (xs := L) fun D H1 hD s1 e1 => ?_
    refine ⟨fun i H' => H' D = some (.lst ((List.replicate i true).map V.bl)) ∧ Step [] H H', ⟨e1, s1⟩, fun i H' _ z => z.2.at0 hT1, ?_, ?_⟩
    · rintro i v H2 hv ⟨g1, g2⟩
      obtain ⟨hi, hr⟩ := rget hv
      obtain ⟨b, ws, rfl, hb, hp⟩ := id hr
      walk_at "go"
      refine g_isi (r := true) (tyL (SqL.of (g2.at0 hb))) (by decide +kernel) ?_
      refine g_kAnd (iteT ?_)
      walk_at "go"
      intro p H3 hp3 s3 e3
      have S3 := g2.trans s3
      refine g_neC (x := rnd ms c wd i) (y := []) (cL cMv) (mL mMv _ _ _ _ S3.le0 hr) ⟨p, [], rfl, e3, .nil⟩ (fun m hm => (rok i m hm).cod) (fun m hm => nomatch hm) ?_
      rw [decide_eq_false (hR.ne hw0 hi)]
      have g13 := s3.at0 g1
      refine g_kEl g13 (ltLine (by rw [List.length_map, List.length_replicate]; omega)) fun H4 s4 e4 => ?_
      refine ⟨?_, S3.via s4 hD⟩
      rw [List.replicate_succ', List.map_append]; exact e4
    · rintro H2 ⟨g1, g2⟩
      walk_at "go"
      refine g_all (bs := List.replicate L.length true) g1 ?_
      walk_at "go"
      exact ⟨by simp, g2⟩
  · rintro _ H1 ⟨rfl, s1⟩
    refine iteF ?_
    walk_at "go"
    have hT1' := s1.at0 hT1
    refine g_kList hT1' ?_
    refine wLc_list (xs := L) fun Sp H2 hSp s2 e2 => ?_
    have S2 := s1.trans s2
    refine ⟨fun i H' => ∃ ss : List Addr, H' Sp = some (.lst (ss.map V.ref)) ∧ ss.length = i ∧ (∀ b ∈ ss, b ≠ Sp) ∧ Paired (fun b (l : List Nat) => H' b = some (.lst (l.map fun (p : Nat) => V.int (p : Int)))) ss ((List.range i).map (plc ms.length c wd)) ∧ Step [] H H', ⟨[], e2, rfl, (fun b hb => nomatch hb), .nil, S2⟩, fun i H' _ z => by obtain ⟨_, _, _, _, _, z⟩ := z; exact z.at0 hT1, ?_, ?_⟩
    · rintro i v H3 hv ⟨ss, f1, f2, fn, f3, f4⟩
      obtain ⟨hi, hr⟩ := rget hv
      obtain ⟨b, ws, rfl, hb, hp⟩ := id hr
      have hb3 := f4.at0 hb
      walk_at "go"
      refine wLc_list (xs := ws) fun l H4 hl s4 e4 => ?_
      refine ⟨fun j H' => H' l = some (.lst (((plc ms.length c wd i).take j).map fun (p : Nat) => V.int (p : Int))) ∧ Step [] H3 H', ⟨e4, s4⟩, fun j H' _ z => z.2.at0 hb3, ?_, ?_⟩
      · rintro j y H5 hy ⟨a1, a2⟩
        obtain ⟨m, hm, hmr⟩ := P_get hp hy
        obtain ⟨pl, hpl, hpm⟩ := rnd_get hm
        have S5 := f4.trans a2
        have rM5 := mL mMv _ _ _ _ S5.le0 hM
        have hM5 := S5.at0 hM1
        have mr5 := mMv _ _ _ _ S5.le0 hmr
        have hmm := List.mem_of_getElem? hpm
        walk_at "go"
        refine g_inP (x := m) (xs := ms) cMv rM5 mr5 (fun y hy => (hok y hy).cod) (hok m hmm).cod fun bb hbb => ?_
        rw [hbb.mpr hmm]
        walk_at "go"
        refine g_indexC (x := m) (xs := ms) (j := pl) cMv rM5 mr5 (fun y hy => (hok y hy).cod) (hok m hmm).cod hpm (nd_index hnd hpm) ?_
        have pll : (plc ms.length c wd i).length ≤ ms.length := by
          unfold plc
          exact Nat.le_trans (List.length_filter_le _ _) (by rw [List.length_range]; exact Nat.le_refl _)
        refine g_kEl a1 (ltLine (by rw [List.length_map, List.length_take]; omega)) fun H6 s6 e6 => ?_
        refine ⟨?_, a2.via s6 hl⟩
        rw [List.take_add_one, hpl, List.map_append]; exact e6
      · rintro H5 ⟨a1, a2⟩
        have hwl : ws.length = (plc ms.length c wd i).length := by rw [P_len hp, plc_len]
        rw [hwl, List.take_length] at a1
        have f15 := a2.at0 f1
        refine g_kEl f15 (ltLine (by rw [List.length_map]; omega)) fun H6 s6 e6 => ?_
        have lSp : l ≠ Sp := fun z => by rw [z, f1] at hl; cases hl
        refine ⟨ss ++ [l], by rw [List.map_append]; exact e6, by simp [f2], fun b hb => ?_, ?_, (f4.trans a2).via s6 (s1.fresh hSp)⟩
        · rcases List.mem_append.mp hb with hb | hb
          · exact fn b hb
          · rw [List.mem_singleton.mp hb]; exact lSp
        · rw [List.range_succ, List.map_append]
          refine P_snoc (F := fun b (l : List Nat) => H6 b = some (.lst (l.map fun (p : Nat) => V.int (p : Int)))) (x := l) (y := plc ms.length c wd i) (s6.at1 a1 lSp) ?_
          have key : ∀ {cs : List Addr} {ls : List (List Nat)}, (∀ b ∈ cs, b ≠ Sp) → Paired (fun b (l : List Nat) => H3 b = some (.lst (l.map fun (p : Nat) => V.int (p : Int)))) cs ls → Paired (fun b (l : List Nat) => H6 b = some (.lst (l.map fun (p : Nat) => V.int (p : Int)))) cs ls := by
            intro cs ls hc p
            induction p with
            | nil => exact .nil
            | cons hh t ih => exact .cons (s6.at1 (a2.at0 hh) (hc _ (List.mem_cons_self ..))) (ih fun b hb => hc b (List.mem_cons_of_mem _ hb))
          exact key fn f3
    · rintro H3 ⟨ss, f1, f2, fn, f3, f4⟩
      rw [hLl] at f2 f3
      have hM3 := f4.at0 hM1
      walk_at "go"
      refine g_tcut (fun b H' => b = false ∧ Step [] H3 H') ?_ ?_
      · walk_at "go"
        intro Z H4 hZ s4 eZ
        walk_at "go"
        have hfl : (((List.range R).map (plc ms.length c wd)).map fun l => l.map fun (p : Nat) => V.int (p : Int)).flatten = (((List.range R).map (plc ms.length c wd)).flatten.map fun (p : Nat) => (p : Int)).map V.int := by
          generalize (List.range R).map (plc ms.length c wd) = ll
          induction ll with
          | nil => rfl
          | cons l r ih => rw [List.map_cons, List.flatten_cons, List.flatten_cons, ih, List.map_append, List.map_append]; simp [List.map_map, Function.comp_def]
        have hpm := plc_perm ms.length c wd R hR.all
        refine g_sumL (bs := ss) (vss := ((List.range R).map (plc ms.length c wd)).map fun l => l.map fun (p : Nat) => V.int (p : Int)) (s4.at0 f1) eZ (P_mapR f3 fun b l e => s4.at0 e) (by rw [hfl, List.length_map, List.length_map, hpm.length_eq, List.length_range]; exact Nat.le_of_lt (ltLine (by omega))) fun W H5 hW s5 eW => ?_
        rw [hfl] at eW
        walk_at "go"
        refine g_sortedIA eW fun ns' p' H6 n1 n2 hp' s6 e6 => ?_
        walk_at "go"
        have S6 := ((f4.trans s4).trans s5).trans s6
        have hM6 := S6.at0 hM1
        refine g_lstRg ?_
        walk_at "go"
        rw [hvl]
        refine g_kLstRg (by omega) (by omega) fun Rg H7 hRg s7 e7 => ?_
        have hns : ns' = (List.range ms.length).map fun (p : Nat) => (p : Int) := by
          refine perm_sorted (n1.trans (hpm.map _)) n2 ?_
          rw [List.pairwise_map]
          exact (List.pairwise_lt_range (n := ms.length)).imp fun h => by omega
        have eR : rgV 0 (ms.length : Int) = ((List.range ms.length).map fun (p : Nat) => (p : Int)).map V.int := by
          unfold rgV
          simp [List.map_map, Function.comp_def]
        rw [eR] at e7
        rw [hns] at e6
        refine g_neC (x := (List.range ms.length).map fun (p : Nat) => (p : Int)) (y := (List.range ms.length).map fun (p : Nat) => (p : Int)) (cL cI) ⟨p', _, rfl, s7.at0 e6, P_ints _⟩ ⟨Rg, _, rfl, e7, P_ints _⟩ (fun _ _ => trivial) (fun _ _ => trivial) ?_
        rw [decide_eq_true rfl]
        walk_at "go"
        refine iteF ?_
        walk_at "go"
        have S7 := S6.trans s7
        refine g_kList (S7.at0 hT1) ?_
        refine wLc_list (xs := L) fun D8 H8 hD8 s8 e8 => ?_
        refine ⟨fun i H' => H' D8 = some (.lst (((List.range i).map fun r => ((rnd ms c wd r).length : Int)).map V.int)) ∧ Step [] H3 H', ⟨e8, (((s4.trans s5).trans s6).trans s7).trans s8⟩, fun i H' _ z => (f4.trans z.2).at0 hT1, ?_, ?_⟩
        · rintro i v H9 hv ⟨a1, a2⟩
          obtain ⟨hi, hr⟩ := rget hv
          obtain ⟨b, ws, rfl, hb, hp⟩ := id hr
          have hb9 := (f4.trans a2).at0 hb
          walk_at "go"
          rw [P_len hp]
          refine g_kEl a1 (ltLine (by rw [List.length_map, List.length_map, List.length_range]; omega)) fun H10 s10 e10 => ?_
          refine ⟨?_, a2.via s10 ((((s4.trans s5).trans s6).trans s7).fresh hD8)⟩
          rw [List.range_succ, List.map_append, List.map_append]; exact e10
        · rintro H9 ⟨a1, a2⟩
          rw [hLl] at a1
          have hM9 := (f4.trans a2).at0 hM1
          walk_at "go"
          refine g_sum a1 ?_
          walk_at "go"
          have hsum : (((List.range R).map fun r => ((rnd ms c wd r).length : Int))).sum = (ms.length : Int) := by
            have e1 : ((List.range R).map fun r => ((rnd ms c wd r).length : Int)) = ((List.range R).map fun r => (plc ms.length c wd r).length).map fun (n : Nat) => (n : Int) := by
              rw [List.map_map]
              exact List.map_congr_left fun r _ => by rw [plc_len]; rfl
            have e2 := hpm.length_eq
            rw [List.length_flatten, List.map_map, List.length_range] at e2
            rw [e1, sum_cast]
            exact congrArg _ e2
          rw [hsum, hvl, decide_eq_true rfl]
          exact ⟨rfl, a2⟩
      · rintro _ H4 ⟨rfl, s4⟩
        refine iteF ?_
        have S4 := f4.trans s4
        have pls : ∀ r, (plc ms.length c wd r).length ≤ ms.length := by
          intro r
          unfold plc
          exact Nat.le_trans (List.length_filter_le _ _) (by rw [List.length_range]; exact Nat.le_refl _)
        walk_at "go"
        · refine g_kList (s4.at0 f1) ?_
          refine wLc_list (xs := ss.map V.ref) fun D5 H5 hD5 s5 e5 => ?_
          refine ⟨fun i H' => H' D5 = some (.lst ((List.replicate i true).map V.bl)) ∧ Step [] H4 H', ⟨e5, s5⟩, fun i H' _ z => (s4.trans z.2).at0 f1, ?_, ?_⟩
          · rintro i v H6 hv ⟨a1, a2⟩
            rw [List.getElem?_map, Option.map_eq_some_iff] at hv
            obtain ⟨b, hb, rfl⟩ := hv
            obtain ⟨l, hl, hbl⟩ := P_get f3 hb
            have hi : i < R := by have := (List.getElem?_eq_some_iff.mp hb).1; omega
            rw [List.getElem?_map, List.getElem?_range hi] at hl
            cases hl
            have hb6 := (s4.trans a2).at0 hbl
            have eM : ((plc ms.length c wd i).map fun (p : Nat) => V.int (p : Int)) = ((plc ms.length c wd i).map fun (p : Nat) => (p : Int)).map V.int := by rw [List.map_map]; rfl
            rw [eM] at hb6
            walk_at "go"
            refine g_sortedIA hb6 fun ns' p' H7 n1 n2 hp' s7 e7 => ?_
            have hns : ns' = (plc ms.length c wd i).map fun (p : Nat) => (p : Int) := by
              refine perm_sorted n1 n2 ?_
              rw [List.pairwise_map]
              exact ((List.pairwise_lt_range (n := ms.length)).filter _).imp fun h => by omega
            rw [hns] at e7
            walk_at "go"
            refine g_eqC (x := (plc ms.length c wd i).map fun (p : Nat) => (p : Int)) (y := (plc ms.length c wd i).map fun (p : Nat) => (p : Int)) (cL cI) ⟨b, _, rfl, s7.at0 hb6, P_ints _⟩ ⟨p', _, rfl, e7, P_ints _⟩ (fun _ _ => trivial) (fun _ _ => trivial) ?_
            rw [decide_eq_true rfl]
            refine g_kEl (s7.at0 a1) (ltLine (by rw [List.length_map, List.length_replicate]; omega)) fun H8 s8 e8 => ?_
            refine ⟨?_, (a2.trans s7).via s8 hD5⟩
            rw [List.replicate_succ', List.map_append]; exact e8
          · rintro H6 ⟨a1, a2⟩
            walk_at "go"
            refine g_all (bs := List.replicate (ss.map V.ref).length true) a1 ?_
            have hall : (List.replicate (ss.map V.ref).length true).all id = true := by simp
            rw [hall]
            walk_at "go"
            refine iteF ?_
            have S6 := S4.trans a2
            walk_at "go"
            refine g_kList (S6.at0 hT1) ?_
            refine wFor_list (xs := L) (fun i σ H' => ∃ (v3 v5 v6 v7 : Option V), σ = [some (.ref M), some (.ref T), some (.int wd), v3, some (.ref Sp), v5, v6, v7] ∧ Step [] H H') ⟨_, _, _, _, rfl, S6⟩ ?_ ?_ ?_
            · rintro i σ H' _ ⟨v3, v5, v6, v7, rfl, k1⟩
              exact k1.at0 hT1
            · rintro i v σ H7 hv ⟨v3, v5, v6, v7, rfl, k1⟩
              obtain ⟨hi, hr⟩ := rget hv
              obtain ⟨b, ws, rfl, hb, hp⟩ := id hr
              walk_at "go"
              refine ⟨b, rnd ms c wd i, rfl, mL mMv _ _ _ _ k1.le0 hr, by rw [plc_len]; exact Nat.le_trans (pls i) (by omega), rok i, fun e => absurd e (hR.ne hw0 hi), fun t h s n H8 s8 et nk => ?_⟩
              have hn : n ≤ wd := by rw [← nk.eq]; exact cnt_rnd hR hw0 i h s
              walk_at "go"
              rw [decide_eq_false (by omega)]
              refine iteF ?_
              walk_at "go"
              exact ⟨_, _, _, _, rfl, k1.trans s8⟩
            · rintro σ H7 ⟨v3, v5, v6, v7, rfl, k1⟩
              walk_at "go"
              refine ⟨M, ms, rfl, mL mMv _ _ _ _ k1.le0 hM, by omega, hok, fun e H8 s8 => ?_, fun t h s n H8 s8 et nk => ?_⟩
              · walk_at "go"
                refine ⟨rfl, ?_⟩
                rw [decide_eq_true rfl]
                walk_at "go"
                refine iteT ?_
                have hR0 : R = 0 := by
                  rcases hR.top with h0 | ⟨x, hx, _⟩
                  · exact h0
                  · rw [e] at hx; cases hx
                walk_at "go"
                intro E9 H9 hE9 s9 e9
                have S9 := (k1.trans s8).trans s9
                refine g_eqC (x := (List.range R).map (rnd ms c wd)) (y := []) (cL (cL cMv)) (mL (mL mMv) _ _ _ _ S9.le0 hT) ⟨E9, [], rfl, e9, .nil⟩ (fun l hl m hm => by obtain ⟨r, _, rfl⟩ := List.mem_map.mp hl; exact (rok r m hm).cod) (fun m hm => nomatch hm) ?_
                rw [decide_eq_true (by rw [hR0]; rfl)]
                exact q _ S9
              · walk_at "go"
                refine ⟨rfl, ?_⟩
                rw [decide_eq_false (fun z => nomatch z)]
                walk_at "go"
                refine iteF ?_
                have S8 := k1.trans s8
                walk_at "go"
                refine g_lenL (S8.at0 hT1) ?_
                walk_at "go"
                have eR : ((L.length : Nat) : Int) = ((n : Int) + (wd : Int) - 1) / (wd : Int) := by
                  rw [hLl, rounds_many hR hw0 nk]
                  have e1 : ((n : Int) + (wd : Int) - 1) = ((n + wd - 1 : Nat) : Int) := by omega
                  rw [e1]
                  exact Int.natCast_ediv _ _
                rw [decide_eq_true eR]
                exact q _ S8
end

end My
namespace My
open PySem PySem.Spec PyProof.Rows L2
/-! one cell of the law -/
theorem rMv_hide {H : Hp} {a : Addr} {c : Nat} {v : V} {m : Mv} (hp : PotAt H a c) (h : rMv H v m) : rMv (hide [a] H) v m := by
  obtain ⟨t, x1, x2, x3, x4, rfl, ht, r⟩ := h
  refine ⟨t, x1, x2, x3, x4, rfl, hide_at ht ?_, r⟩
  obtain ⟨p0, p1, p2, e, _⟩ := hp
  simp only [List.mem_singleton]
  rintro rfl
  rw [e] at ht
  cases ht
theorem Rounds.eq {ms : List Mv} {w R R' : Nat} {c c' : Nat → Nat} {u u' : En → Nat → Option Nat} (h : Rounds ms w c u R) (h' : Rounds ms w c' u' R') : c = c' ∧ R = R' := by
  obtain ⟨e, _⟩ := h.col.eq h'.col
  subst e
  refine ⟨rfl, ?_⟩
  rcases h.top with h0 | ⟨i, hi, h1⟩
  · rcases h'.top with h0' | ⟨j, hj, h2⟩
    · omega
    · have := h.all j hj; omega
  · rcases h'.top with h0' | ⟨j, hj, h2⟩
    · have := h'.all i hi; omega
    · have := h.all j hj; have := h'.all i hi; omega
theorem rounds_rL {H H' : Hp} {D : Addr} {bs : List Addr} {ms : List Mv} {cc : Nat → Nat} {wd n : Nat} (s : Step [] H H') (eD : H' D = some (.lst (bs.map V.ref))) (hls : ∀ (r : Nat) (b : Addr), bs[r]? = some b → ∃ vs, H' b = some (.lst vs) ∧ Paired (rMv H) vs (rnd ms cc wd r)) (hn : n = bs.length) : rL (rL rMv) H' (.ref D) ((List.range n).map (rnd ms cc wd)) := by
  subst hn
  refine ⟨D, _, rfl, eD, P_of_get (by simp) fun r v xs hv hx => ?_⟩
  rw [List.getElem?_map, Option.map_eq_some_iff] at hv hx
  obtain ⟨b, hb1, rfl⟩ := hv
  obtain ⟨r', hr', rfl⟩ := hx
  obtain ⟨vs, k1, k2⟩ := hls r b hb1
  have : r' = r := by
    have h1 := (List.getElem?_eq_some_iff.mp hr').2
    simp at h1
    exact h1.symm
  subst this
  exact ⟨b, vs, rfl, k1, Pmap k2 fun v x r => mMv _ _ _ _ s.le0 r⟩
def sp_w_right (P : Program) (w : World) : Sp := fun vs H Q _ => ∃ (a : Addr) (c : Nat), vs = [.ref a] ∧ PotAt H a c ∧ c < 2 ^ 50 ∧ ∀ H', Step [a] H H' → Q (.bl true) H'
section
variable {P : Program} {w : World} {K : PySem.W.Frag} {mg : Str → Option Value} {base : Heap}
theorem ok_w_right (C : Ctx K mg) : Has P w K mg base CX0 6 "_law_right" ["pot"] (sp_w_right P w) := by
  obtain ⟨fd, F⟩ := fn_w_right C
  obtain ⟨f_rounds, fd_rounds, G_rounds, mg_rounds, kp_rounds, ⟨ds_rounds, v_rounds, b_rounds⟩, kb_rounds⟩ := (ok_rounds (P := P) (w := w) (base := base) C).ex
  obtain ⟨f_w_pick, fd_w_pick, G_w_pick, mg_w_pick, kp_w_pick, b_w_pick⟩ := (ok_w_pick (P := P) (w := w) (base := base) C).ex
  obtain ⟨f_w_steps, fd_w_steps, G_w_steps, mg_w_steps, kp_w_steps, b_w_steps⟩ := (ok_w_steps (P := P) (w := w) (base := base) C).ex
  obtain ⟨f_neck, fd_neck, G_neck, mg_neck, kp_neck, b_neck⟩ := (ok_neck (P := P) (w := w) (base := base) C).ex
  obtain ⟨f_w_neck, fd_w_neck, G_w_neck, mg_w_neck, kp_w_neck, b_w_neck⟩ := (ok_w_neck (P := P) (w := w) (base := base) C).ex
  obtain ⟨f_w_good, fd_w_good, G_w_good, mg_w_good, kp_w_good, b_w_good⟩ := (ok_w_good (P := P) (w := w) (base := base) C).ex
  obtain ⟨t_LANES, m_LANES⟩ := ct_LANES C
  refine ⟨⟨_, fd, ?_, gl_w_right C, F.kp, F.bindsN fun _ _ _ _ _ _ us hl => match us, hl with | [_], _ => rfl⟩⟩
  refine F.ok (CX := CX0) sc_w_right (fun vs H Q E h => ?_) (fun cdv A outer s H vs Q E hr h => ?_)
  · first | (obtain ⟨_, rfl, _⟩ := h; rfl; done) | (obtain ⟨_, _, rfl, _⟩ := h; rfl; done) | (obtain ⟨_, _, _, rfl, _⟩ := h; rfl; done) | (obtain ⟨_, _, _, _, rfl, _⟩ := h; rfl; done) | (obtain ⟨_, _, _, _, _, rfl, _⟩ := h; rfl; done) | (obtain ⟨_, _, _, _, _, _, rfl, _⟩ := h; rfl; done) | (obtain ⟨_, _, _, _, _, _, _, rfl, _⟩ := h; rfl; done) | (obtain ⟨_, _, _, _, _, _, _, _, rfl, _⟩ := h; rfl; done) | (obtain ⟨_, _, _, _, _, _, _, _, _, rfl, _⟩ := h; rfl; done) | (obtain ⟨_, _, _, _, _, _, _, _, _, _, rfl, _⟩ := h; rfl; done) | (obtain ⟨_, _, _, _, _, _, _, _, _, _, _, rfl, _⟩ := h; rfl; done) | (obtain ⟨_, _, _, _, _, _, _, _, _, _, _, _, rfl, _⟩ := h; rfl; done) | (obtain ⟨_, _, _, _, _, _, _, _, _, _, _, _, _, rfl, _⟩ := h; rfl; done) | (obtain ⟨_, _, _, _, _, _, _, _, _, _, _, _, _, _, rfl, _⟩ := h; rfl; done) | (obtain ⟨_, _, _, _, _, _, _, _, _, _, _, _, _, _, _, rfl, _⟩ := h; rfl; done) | (obtain ⟨_, _, _, _, _, _, _, _, _, _, _, _, _, _, _, _, rfl, _⟩ := h; rfl; done) | (obtain ⟨_, _, _, _, _, _, _, _, _, _, _, _, _, _, _, _, _, rfl, _⟩ := h; rfl; done) | (obtain ⟨_, _, _, _, _, _, _, _, _, _, _, _, _, _, _, _, _, _, rfl, _⟩ := h; rfl; done) | (obtain ⟨_, _, _, _, _, _, _, _, _, _, _, _, _, _, _, _, _, _, _, rfl, _⟩ := h; rfl; done) | (obtain ⟨_, _, _, _, _, _, _, _, _, _, _, _, _, _, _, _, _, _, _, _, rfl, _⟩ := h; rfl; done) | (obtain ⟨_, _, _, _, _, _, _, _, _, _, _, _, _, _, _, _, _, _, _, _, _, rfl, _⟩ := h; rfl; done) | (rcases h with h | h <;> first | (obtain ⟨_, rfl, _⟩ := h; rfl; done) | (obtain ⟨_, _, rfl, _⟩ := h; rfl; done) | (obtain ⟨_, _, _, rfl, _⟩ := h; rfl; done) | (obtain ⟨_, _, _, _, rfl, _⟩ := h; rfl; done) | (obtain ⟨_, _, _, _, _, rfl, _⟩ := h; rfl; done) | (obtain ⟨_, _, _, _, _, _, rfl, _⟩ := h; rfl; done) | (obtain ⟨_, _, _, _, _, _, _, rfl, _⟩ := h; rfl; done) | (obtain ⟨_, _, _, _, _, _, _, _, rfl, _⟩ := h; rfl; done) | (obtain ⟨_, _, _, _, _, _, _, _, _, rfl, _⟩ := h; rfl; done) | (obtain ⟨_, _, _, _, _, _, _, _, _, _, rfl, _⟩ := h; rfl; done) | (obtain ⟨_, _, _, _, _, _, _, _, _, _, _, rfl, _⟩ := h; rfl; done) | (obtain ⟨_, _, _, _, _, _, _, _, _, _, _, _, rfl, _⟩ := h; rfl; done) | (obtain ⟨_, _, _, _, _, _, _, _, _, _, _, _, _, rfl, _⟩ := h; rfl; done) | (obtain ⟨_, _, _, _, _, _, _, _, _, _, _, _, _, _, rfl, _⟩ := h; rfl; done) | (obtain ⟨_, _, _, _, _, _, _, _, _, _, _, _, _, _, _, rfl, _⟩ := h; rfl; done) | (obtain ⟨_, _, _, _, _, _, _, _, _, _, _, _, _, _, _, _, rfl, _⟩ := h; rfl; done) | (obtain ⟨_, _, _, _, _, _, _, _, _, _, _, _, _, _, _, _, _, rfl, _⟩ := h; rfl; done) | (obtain ⟨_, _, _, _, _, _, _, _, _, _, _, _, _, _, _, _, _, _, rfl, _⟩ := h; rfl; done) | (obtain ⟨_, _, _, _, _, _, _, _, _, _, _, _, _, _, _, _, _, _, _, rfl, _⟩ := h; rfl; done) | (obtain ⟨_, _, _, _, _, _, _, _, _, _, _, _, _, _, _, _, _, _, _, _, rfl, _⟩ := h; rfl; done) | (obtain ⟨_, _, _, _, _, _, _, _, _, _, _, _, _, _, _, _, _, _, _, _, _, rfl, _⟩ := h; rfl; done))
  have hu := hu_of hr
  refine ⟨_, PSs.nox (pss_cons (ps_set (i := 1) sc_w_right.nd rfl (Or.inl rfl) (pe_ix ix_list (pe_lst (pa_cons (pe_op op_add pe_int (pe_call G_w_pick (hr.mono (by decide)) rfl mg_w_pick kp_w_pick b_w_pick .nil pass0 (pa_cons (pv 0) (pa_cons pe_int pa_nil)))) (pa_cons (pe_op op_powP pe_int pe_int) pa_nil))) (pe_op op_divP (pe_call G_w_pick (hr.mono (by decide)) rfl mg_w_pick kp_w_pick b_w_pick .nil pass0 (pa_cons (pv 0) (pa_cons pe_int pa_nil))) pe_int) (fun _ _ => rfl)))
    (pss_cons (ps_set (i := 2) sc_w_right.nd rfl (Or.inl rfl) (pe_call G_w_steps (hr.mono (by decide)) rfl mg_w_steps kp_w_steps b_w_steps .nil pass0 (pa_cons (pv 0) (pa_cons (pe_ix ix_list (pe_lst (pa_cons pe_int (pa_cons pe_int pa_nil))) (pe_op op_divP (pe_call G_w_pick (hr.mono (by decide)) rfl mg_w_pick kp_w_pick b_w_pick .nil pass0 (pa_cons (pv 0) (pa_cons pe_int pa_nil))) pe_int) (fun _ _ => rfl)) pa_nil))))
    (pss_cons (ps_set (i := 3) sc_w_right.nd rfl (Or.inl rfl) (pe_callTy cr_listL (by rfl) (fr_list C) (by decide +kernel) (pa_cons (pv 2) pa_nil)))
    (pss_cutM (ps_set (i := 4) sc_w_right.nd rfl (Or.inl rfl) (pe_call G_neck (hr.mono (by decide)) rfl mg_neck kp_neck b_neck .nil pass0 (pa_cons (pv 3) pa_nil)))
    (pss_cons (ps_if (pt_cut (PW.pt (pw_or (pt_cmpR (op_neD hr.units) (pv 4) (pe_call G_w_neck (hr.mono (by decide)) rfl mg_w_neck kp_w_neck b_w_neck .nil pass0 (pa_cons (pv 2) pa_nil)) (nomark _)) (pw_or1 (pt_cut (PW.pt (pw_and (pt_cmpR op_notN (pv 4) pe_non (nomark _)) (pw_and1 (pt_cut (PW.pt (pw_or (pt_not (pt_val (pe_callB call_isi (by rfl) (fr_isinstance C) (by decide +kernel) (pa_cons (pv 4) (pa_cons (pe_bltn (v := .ty "tuple") (by rfl) (fr_tuple C) (by decide +kernel) rfl) pa_nil))))) (pw_or1 (pt_val (pe_callB call_isi (by rfl) (fr_isinstance C) (by decide +kernel) (pa_cons (pe_ix ix_tup (pv 4) pe_int (fun _ _ => rfl)) (pa_cons (pe_bltn (v := .ty "bool") (by rfl) (fr_bool C) (by decide +kernel) rfl) pa_nil)))))))))))))))) (pss_one (ps_ret pe_bl)) pss_nil)
    (pss_cons (ps_set (i := 5) sc_w_right.nd rfl (Or.inl rfl) (pe_callN G_rounds (hr.mono (by decide)) rfl mg_rounds kp_rounds kb_rounds pass0 (pa_cons (pv 3) pa_nil) (pk_cons (pv 1) pk_nil)))
    (pss_cons (ps_if (pt_cut (PW.pt (pw_or (pt_not (pt_val (pe_call G_w_good (hr.mono (by decide)) rfl mg_w_good kp_w_good b_w_good .nil pass0 (pa_cons (pv 2) (pa_cons (pv 5) (pa_cons (pv 1) pa_nil)))))) (pw_or1 (pt_cmpR (op_neD hr.units) (pv 3) (pv 2) (nomark _)))))) (pss_one (ps_ret pe_bl)) pss_nil)
    (pss_cons (ps_setLc (i := 7) (own := [("one", 6)]) (g := (gName 6)) (tt := tYes) rfl sc_w_right.nd rfl rfl (sw_true rfl rfl rfl (by decide +kernel)) (pi_list (pv 5)) (blkOk_by (N := N_w_right) (sc := defScope s_w_right) (own := [("one", 6)]) (by decide +kernel)) (fun _ _ _ _ _ => (pg_name (i := 6) sc_w_right.nd rfl (Or.inl rfl))) (fun _ _ _ _ _ => pts_nil) (fun _ _ _ _ _ => (pe_callTy (kCall (K := K) (r := rListL) cr_listL) (by rfl) (fr_list C) (by decide +kernel) (pa_cons (pv 6) pa_nil))))
    (pss_cons (ps_for PassesOwn.never rfl (pi_list (pv 5)) (pg_name (i := 6) sc_w_right.nd rfl (Or.inl rfl))
    (pss_one (ps_expr (pe_bm PySem.F.plainAttrs_list PySem.F.slot_list_append PySem.F.type_list_append mt_append (pv 6) (pa_cons (pe_ix ix_list (pv 2) pe_int (fun _ _ => rfl)) pa_nil)))))
    (pss_one (ps_ret (pe_and (pe_cmpR op_eq (pe_glob (v := .int 2) (by rfl) m_LANES ⟨_, rfl⟩) pe_int (nomark _)) (pe_and (pe_cmpR (op_eqD hr.units) (pe_callN G_rounds (hr.mono (by decide)) rfl mg_rounds kp_rounds kb_rounds pass0 (pa_cons (pv 3) pa_nil) (pk_cons (pv 1) pk_nil)) (pv 7) (nomark _)) (pe_one (pe_call G_w_good (hr.mono (by decide)) rfl mg_w_good kp_w_good b_w_good .nil pass0 (pa_cons (pv 2) (pa_cons (pe_call G_rounds (hr.mono (by decide)) rfl mg_rounds kp_rounds b_rounds v_rounds pass0 (pa_cons (pv 3) pa_nil)) (pa_cons pe_int pa_nil)))))))))))))))))), ?_⟩
  obtain ⟨a, c, rfl, hp, hc, q⟩ := h
  walk_at "go"
  refine go_pick hp (by decide) (by decide) (by omega) fun w1 H1 w0 w1' s1 p1 => ?_
  walk_at "go"
  intro p H2 hp2 s2 e2
  have p2 := p1.step0 s2
  have pa : p ≠ a := (p1.ne hp2).symm
  walk_at "go"
  refine go_pick p2 (by decide) (by decide) (by omega) fun w2 H3 w20 w21 s3 p3 => ?_
  obtain ⟨wd, hwd, hwd0, hwd1⟩ : ∃ wd : Nat, atI [V.int (1 + w1), V.int (10 ^ Int.toNat 30)] (w2 / 15) = some (V.int (wd : Int)) ∧ 0 < wd ∧ wd < 2 ^ 200 := by
    have h2 : w2 / 15 = 0 ∨ w2 / 15 = 1 := by omega
    rcases h2 with h2 | h2
    · rw [h2]
      refine ⟨(1 + w1).toNat, ?_, by omega, by omega⟩
      have : (((1 + w1).toNat : Nat) : Int) = 1 + w1 := by omega
      rw [this]; rfl
    · rw [h2]
      exact ⟨10 ^ 30, rfl, by decide, by decide⟩
  walk_at "go"
  refine g_ixL (s3.at1 e2 pa) hwd ?_
  walk_at "go"
  intro p4 H4 hp4 s4 e4
  have p40 := p3.step0 s4
  have pa4 : p4 ≠ a := (p3.ne hp4).symm
  walk_at "go"
  refine go_pick p40 (by decide) (by decide) (by omega) fun w3 H5 w30 w31 s5 p5 => ?_
  obtain ⟨mm, hmm, hmm0, hmm1⟩ : ∃ mm : Int, atI [V.int 30, V.int 100] (w3 / 7) = some (V.int mm) ∧ 0 ≤ mm ∧ mm ≤ 100 := by
    have h2 : w3 / 7 = 0 ∨ w3 / 7 = 1 := by omega
    rcases h2 with h2 | h2
    · rw [h2]; exact ⟨30, rfl, by decide, by decide⟩
    · rw [h2]; exact ⟨100, rfl, by decide, by decide⟩
  walk_at "go"
  refine g_ixL (s5.at1 e4 pa4) hmm ?_
  walk_at "go"
  refine ⟨a, mm, _, rfl, hmm0, hmm1, p5, by omega, fun S ms H6 hS6 lms nms okm s6 eS p6 => ?_⟩
  have S6 : Step [a] H H6 := (((((s1.trans s2.up).trans s3).trans s4.up).trans s5).trans s6)
  obtain ⟨_, us, ⟨⟩, hS1, hSp⟩ := id eS
  have hS2 := hide_le _ _ hS1
  walk_at "go"
  refine g_listL hS2 fun S2 H7 hS7 s7 e7 => ?_
  have p7 := p6.step0 s7
  have S7 : Step [a] H H7 := S6.trans s7.up
  have rS7 : Paired (rMv H7) us ms := Pmap hSp fun v x r => mMv _ _ _ _ (s7.hid0.trans hide_le) r
  have sM7 : rL rMv H7 (.ref S) ms := ⟨S, us, rfl, s7.at0 hS2, rS7⟩
  have hM7 : rL rMv H7 (.ref S2) ms := ⟨S2, us, rfl, e7, rS7⟩
  walk_at "go"
  refine g_cut (fun σ' H' => ∃ v, σ' = [some (.ref a), some (.int (wd : Int)), some (.ref S), some (.ref S2), some v, none, none, none] ∧ Step [] H7 H' ∧ ((ms = [] ∧ v = .non) ∨ ∃ t h s n, v = .ref t ∧ H' t = some (.tup [.str h, .str s, .int (n : Nat)]) ∧ NeckAt ms h s n)) ?_ ?_
  · walk_at "go"
    refine ⟨S2, ms, rfl, hM7, by omega, okm, fun e H8 s8 => ?_, fun t h s n H8 _ s8 et nk => ?_⟩
    · walk_at "go"
      exact ⟨_, rfl, s8, .inl ⟨e, rfl⟩⟩
    · walk_at "go"
      exact ⟨_, rfl, s8, .inr ⟨t, h, s, n, rfl, et, nk⟩⟩
  rintro σ' H8 ⟨tv, rfl, s8, htv⟩
  walk_at "go"
  refine g_tcut (fun b H' => b = false ∧ Step [] H7 H') ?_ ?_
  · walk_at "go"
    refine ⟨S, ms, rfl, mL mMv _ _ _ _ s8.le0 sM7, by omega, okm, fun e H9 s9 => ?_, fun t' h' s' n' H9 s9 et' nk' => ?_⟩
    · have hv : tv = .non := by
        rcases htv with ⟨_, z⟩ | ⟨t, h, s, n, _, _, nk⟩
        · exact z
        · rw [e] at nk; exact absurd nk.eq.symm nk.pos
      subst hv
      refine g_neC (x := (none : Option Str)) (y := none) cOS rfl rfl (fun _ z => nomatch z) (fun _ z => nomatch z) ?_
      rw [decide_eq_true rfl]
      walk_at "go"
      refine iteF ?_
      refine g_tcut (fun b H' => b = false ∧ H' = H9) ?_ ?_
      · walk_at "go"
        refine ⟨rfl, ?_⟩
        rw [decide_eq_true rfl]
        walk_at "go"
        exact ⟨rfl, rfl⟩
      · rintro _ _ ⟨rfl, rfl⟩
        exact ⟨rfl, s8.trans s9⟩
    · rcases htv with ⟨e, _⟩ | ⟨t, h, s, n, rfl, et, nk⟩
      · rw [e] at nk'; exact absurd nk'.eq.symm nk'.pos
      obtain ⟨rfl, rfl, rfl⟩ := nk.uniq nk'
      have okc : StrOk h ∧ StrOk s := by
        obtain ⟨x, y, m, hm, e, hk⟩ := cnt_key (ms := ms) (k := [Sum.inr h, Sum.inr s]) (by rw [nk.eq]; exact nk.pos)
        have ho := okm m hm
        unfold hasK at hk
        rw [Bool.or_eq_true, decide_eq_true_eq, decide_eq_true_eq] at hk
        rcases hk with hk | hk
        · obtain ⟨z, e1, e2⟩ := Option.map_eq_some_iff.mp hk
          injection e2 with e2 e3
          injection e3 with e3 _
          rw [← Sum.inr.inj e2, ← Sum.inr.inj e3]
          exact ⟨ho.fr _ e1, ok_gives⟩
        · unfold takE at hk
          injection hk with e2 e3
          injection e3 with e3 _
          rw [← Sum.inr.inj e2, ← Sum.inr.inj e3]
          exact ⟨ho.to, ok_gets⟩
      have et9 := s9.at0 et
      refine g_neC (x := (h, s, (n : Int))) (y := (h, s, (n : Int))) (cP3 cS cS cI) ⟨t, _, _, _, rfl, et9, rfl, rfl, rfl⟩ ⟨t', _, _, _, rfl, et', rfl, rfl, rfl⟩ ⟨okc.1, okc.2, trivial⟩ ⟨okc.1, okc.2, trivial⟩ ?_
      rw [decide_eq_true rfl]
      walk_at "go"
      refine iteF ?_
      refine g_tcut (fun b H' => b = false ∧ H' = H9) ?_ ?_
      · walk_at "go"
        refine ⟨rfl, ?_⟩
        rw [decide_eq_false (fun z => nomatch z)]
        walk_at "go"
        refine g_tcut (fun b H' => b = false ∧ H' = H9) ?_ ?_
        rotate_left
        · rintro _ _ ⟨rfl, rfl⟩
          exact ⟨rfl, rfl⟩
        walk_at "go"
        refine g_isi (r := true) (.base (.tup et9)) (by decide +kernel) ?_
        walk_at "go"
        refine iteF ?_
        walk_at "go"
        refine g_isi (r := false) (.base (.int _)) (by decide +kernel) ?_
        walk_at "go"
        exact ⟨rfl, rfl⟩
      · rintro _ _ ⟨rfl, rfl⟩
        exact ⟨rfl, s8.trans s9⟩
  rintro _ H9 ⟨rfl, s9⟩
  refine iteF ?_
  walk_at "go"
  have rM9 : rL rMv H9 (.ref S2) ms := mL mMv _ _ _ _ s9.le0 hM7
  refine ⟨S2, ms, wd, rfl, rM9, by omega, okm, hwd0, hwd1, fun D bs cc u H10 hD s10 nd hb eD hls hR => ?_⟩
  have hRl : bs.length ≤ 1000 := by
    rcases hR.top with h | ⟨i, hi, h⟩
    · omega
    · have := hR.lt 100 (fun e => Nat.le_trans deg_len (by omega)) i hi
      have := Nat.div_le_self (cc i) wd
      omega
  have rD : rL (rL rMv) H10 (.ref D) ((List.range bs.length).map (rnd ms cc wd)) := rounds_rL s10 eD hls rfl
  walk_at "go"
  refine g_tcut (fun b H' => b = false ∧ Step [] H10 H') ?_ ?_
  · walk_at "go"
    refine ⟨S, D, ms, wd, bs.length, cc, u, rfl, mL mMv _ _ _ _ (s9.trans s10).le0 sM7, rD, nms, by omega, okm, hR, hRl, hwd0, hwd1, fun H11 s11 => ?_⟩
    walk_at "go"
    refine iteF ?_
    walk_at "go"
    have S11 := (s9.trans s10).trans s11
    refine g_neC (x := ms) (y := ms) (cL cMv) (mL mMv _ _ _ _ S11.le0 hM7) (mL mMv _ _ _ _ S11.le0 sM7) (fun m hm => (okm m hm).cod) (fun m hm => (okm m hm).cod) ?_
    rw [decide_eq_true rfl]
    walk_at "go"
    exact ⟨rfl, s11⟩
  rintro _ H11 ⟨rfl, s11⟩
  refine iteF ?_
  walk_at "go"
  have S11 : Step [] H7 H11 := (s9.trans s10).trans s11
  have eD11 := s11.at0 eD
  refine g_kList eD11 ?_
  refine wLc_list (xs := bs.map V.ref) fun Kp H12 hKp s12 e12 => ?_
  refine ⟨fun i H' => ∃ ks : List Addr, H' Kp = some (.lst (ks.map V.ref)) ∧ (∀ k ∈ ks, H11 k = none ∧ k ≠ Kp) ∧ Paired (fun k l => ∃ vs, H' k = some (.lst vs) ∧ Paired (rMv H11) vs l) ks ((List.range i).map (rnd ms cc wd)) ∧ Step [] H11 H', ⟨[], e12, (fun k hk => nomatch hk), .nil, s12⟩, fun i H' _ z => by obtain ⟨_, _, _, _, z⟩ := z; exact z.at0 eD11, ?_, ?_⟩
  · rintro i v H13 hv ⟨ks, f1, f2, f3, f4⟩
    rw [List.getElem?_map, Option.map_eq_some_iff] at hv
    obtain ⟨b, hb1, rfl⟩ := hv
    obtain ⟨vs, k1, k2⟩ := hls i b hb1
    have k3 := (s11.trans f4).at0 k1
    walk_at "go"
    refine g_listL k3 fun lf H14 hlf s14 e14 => ?_
    have f15 := s14.at0 f1
    refine g_kEl f15 (ltLine (by rw [List.length_map, P_len f3, List.length_map, List.length_range]; have := (List.getElem?_eq_some_iff.mp hb1).1; omega)) fun H15 s15 e15 => ?_
    have lK : lf ≠ Kp := fun z => by rw [z, f1] at hlf; cases hlf
    refine ⟨ks ++ [lf], by rw [List.map_append]; exact e15, fun k hk => ?_, ?_, (f4.trans s14).via s15 hKp⟩
    · rcases List.mem_append.mp hk with hk | hk
      · exact f2 k hk
      · rw [List.mem_singleton.mp hk]; exact ⟨f4.fresh hlf, lK⟩
    · rw [List.range_succ, List.map_append]
      refine P_snoc (F := fun k l => ∃ vs, H15 k = some (.lst vs) ∧ Paired (rMv H11) vs l) (x := lf) (y := rnd ms cc wd i) ⟨vs, s15.at1 e14 lK, Pmap k2 fun v x r => mMv _ _ _ _ (s10.trans s11).le0 r⟩ ?_
      have key : ∀ {cs : List Addr} {ls : List (List Mv)}, (∀ b ∈ cs, b ≠ Kp) → Paired (fun k l => ∃ vs, H13 k = some (.lst vs) ∧ Paired (rMv H11) vs l) cs ls → Paired (fun k l => ∃ vs, H15 k = some (.lst vs) ∧ Paired (rMv H11) vs l) cs ls := by
        intro cs ls hc p
        induction p with
        | nil => exact .nil
        | cons hh t ih =>
          obtain ⟨us, g1, g2⟩ := hh
          exact .cons ⟨us, s15.at1 (s14.at0 g1) (hc _ (List.mem_cons_self ..)), g2⟩ (ih fun b hb => hc b (List.mem_cons_of_mem _ hb))
      exact key (fun b hb => (f2 b hb).2) f3
  · rintro H13 ⟨ks, f1, f2, f3, f4⟩
    have S13 : Step [] H7 H13 := S11.trans f4
    have eD13 := f4.at0 eD11
    have hlb : ∀ {r : Nat} {b : Addr}, bs[r]? = some b → ∃ vs, H13 b = some (.lst vs) ∧ vs.length ≤ 100 := fun {r b} hb1 => by
      obtain ⟨vs, k1, k2⟩ := hls r b hb1
      exact ⟨vs, (s11.trans f4).at0 k1, by rw [P_len k2, plc_len]; exact Nat.le_trans (List.length_filter_le _ _) (by rw [List.length_range]; omega)⟩
    have nb : ∀ {b : Addr} {o : HO}, H9 b = some o → b ∉ bs := fun h z => by rw [(hb _ z).1] at h; cases h
    have hS9 := s9.at0 (show H7 S = some (.lst us) from s7.at0 hS2)
    walk_at "go"
    refine wFor_list (xs := bs.map V.ref) (fun i σ H' => ∃ v6, σ = [some (.ref a), some (.int wd), some (.ref S), some (.ref S2), some tv, some (.ref D), v6, some (.ref Kp)] ∧ Step bs H13 H' ∧ ∀ j b, i ≤ j → bs[j]? = some b → H' b = H13 b) ⟨_, rfl, Step.refl _ _, fun _ _ _ _ => rfl⟩ ?_ ?_ ?_
    · rintro i σ H' _ ⟨v6, rfl, g1, _⟩
      exact g1.keep D _ (fun z => (hb _ z).2 rfl) eD13
    · rintro i v σ H14 hv ⟨v6, rfl, g1, g2⟩
      rw [List.getElem?_map, Option.map_eq_some_iff] at hv
      obtain ⟨b, hb1, rfl⟩ := hv
      obtain ⟨vs, k1, k2⟩ := hlb hb1
      have hbm := List.mem_of_getElem? hb1
      have k3 : H14 b = some (.lst vs) := by rw [g2 i b (Nat.le_refl _) hb1]; exact k1
      have hSx : H14 S = some (.lst us) := g1.keep S _ (nb hS9) ((s10.trans (s11.trans f4)).at0 hS9)
      have hne : ms ≠ [] := fun z => by
        rcases hR.top with h0 | ⟨x, hx, _⟩
        · have := (List.getElem?_eq_some_iff.mp hb1).1; omega
        · rw [z] at hx; cases hx
      obtain ⟨u0, ur, rfl⟩ : ∃ u0 ur, us = u0 :: ur := by
        cases us with
        | nil =>
          have := P_len hSp
          exact absurd (List.length_eq_zero_iff.mp this.symm) hne
        | cons u0 ur => exact ⟨u0, ur, rfl⟩
      walk_at "go"
      refine g_ixL (i := 0) (v := u0) hSx (at_nat (k := 0) rfl) ?_
      walk_at "go"
      refine g_append k3 (ltLine (by omega)) fun H15 s15 e15 => ?_
      refine ⟨_, rfl, g1.and1 s15 hbm, fun j b' hj hb' => ?_⟩
      have hbb : b' ≠ b := fun z => by
        subst z
        obtain ⟨l1, e1⟩ := List.getElem?_eq_some_iff.mp hb1
        obtain ⟨l2, e2⟩ := List.getElem?_eq_some_iff.mp hb'
        have := (List.getElem_inj nd (h₀ := l1) (h₁ := l2)).mp (e1.trans e2.symm)
        omega
      obtain ⟨vs', k1', _⟩ := hlb hb'
      have := g2 j b' (by omega) hb'
      rw [k1'] at this ⊢
      exact s15.at1 this hbb
    · rintro σ H14 ⟨v6, rfl, g1, _⟩
      have S14 : Step [] H9 H14 := ⟨fun c o _ h => g1.keep c o (nb h) ((s10.trans (s11.trans f4)).at0 h), fun c h => (s10.trans (s11.trans f4)).live c (g1.live c h)⟩
      have S714 : Step [] H7 H14 := s9.trans S14
      have rM14 : rL rMv H14 (.ref S2) ms := mL mMv _ _ _ _ S714.le0 hM7
      have rS14 : rL rMv H14 (.ref S) ms := mL mMv _ _ _ _ S714.le0 sM7
      have rK14 : rL (rL rMv) H14 (.ref Kp) ((List.range bs.length).map (rnd ms cc wd)) := by
        have nk : ∀ {b : Addr}, H11 b = none → b ∉ bs := fun {b} h z => by
          obtain ⟨j, hj⟩ := List.getElem?_of_mem z
          obtain ⟨vs, k1, _⟩ := hls j b hj
          rw [s11.at0 k1] at h; cases h
        refine ⟨Kp, _, rfl, g1.keep Kp _ (nk hKp) f1, ?_⟩
        rw [List.length_map] at f3
        have key : ∀ {cs : List Addr} {ls : List (List Mv)}, (∀ b ∈ cs, H11 b = none) → Paired (fun k l => ∃ vs, H13 k = some (.lst vs) ∧ Paired (rMv H11) vs l) cs ls → Paired (rL rMv H14) (cs.map V.ref) ls := by
          intro cs ls hc p
          induction p with
          | nil => exact .nil
          | cons hh t ih =>
            obtain ⟨us, q1, q2⟩ := hh
            refine .cons ⟨_, us, rfl, g1.keep _ _ (nk (hc _ (List.mem_cons_self ..))) q1, Pmap q2 fun v x r => ?_⟩ (ih fun b hb => hc b (List.mem_cons_of_mem _ hb))
            obtain ⟨t, x1, x2, x3, x4, rfl, ht, r⟩ := r
            refine ⟨t, x1, x2, x3, x4, rfl, g1.keep t _ (fun z => ?_) (f4.at0 ht), r⟩
            obtain ⟨j, hj⟩ := List.getElem?_of_mem z
            obtain ⟨vs, k1, _⟩ := hls j t hj
            rw [s11.at0 k1] at ht; cases ht
        exact key (fun b hb => (f2 b hb).1) f3
      walk_at "go"
      rw [decide_eq_true rfl]
      refine iteT ?_
      walk_at "go"
      refine ⟨S2, ms, wd, rfl, rM14, by omega, okm, hwd0, hwd1, fun D2 bs2 cc2 u2 H15 hD2 s15 nd2 hb2 eD2 hls2 hR2 => ?_⟩
      obtain ⟨rfl, eR⟩ := hR.eq hR2
      have rD2 : rL (rL rMv) H15 (.ref D2) ((List.range bs.length).map (rnd ms cc wd)) := rounds_rL s15 eD2 hls2 eR
      walk_at "go"
      refine g_eqC (x := (List.range bs.length).map (rnd ms cc wd)) (y := (List.range bs.length).map (rnd ms cc wd)) (cL (cL cMv)) rD2 (mL (mL mMv) _ _ _ _ s15.le0 rK14) (fun l hl m hm => by obtain ⟨r, _, rfl⟩ := List.mem_map.mp hl; exact (okm m (rnd_mem hm)).cod) (fun l hl m hm => by obtain ⟨r, _, rfl⟩ := List.mem_map.mp hl; exact (okm m (rnd_mem hm)).cod) ?_
      rw [decide_eq_true rfl]
      walk_at "go"
      refine iteT ?_
      walk_at "go"
      refine g_callD ?_
      walk_at "go"
      refine ⟨S2, ms, 2, rfl, mL mMv _ _ _ _ s15.le0 rM14, by omega, okm, by decide, by decide, fun D3 bs3 cc3 u3 H16 hD3 s16 nd3 hb3 eD3 hls3 hR3 => ?_⟩
      have hRl3 : bs3.length ≤ 1000 := by
        rcases hR3.top with h | ⟨i, hi, h⟩
        · omega
        · have := hR3.lt 100 (fun e => Nat.le_trans deg_len (by omega)) i hi
          have := Nat.div_le_self (cc3 i) 2
          omega
      walk_at "go"
      refine ⟨S, D3, ms, 2, bs3.length, cc3, u3, rfl, mL mMv _ _ _ _ (s15.trans s16).le0 rS14, rounds_rL s16 eD3 hls3 rfl, nms, by omega, okm, hR3, hRl3, by decide, by decide, fun H17 s17 => ?_⟩
      exact q H17 (S7.trans ((S714.trans s15).trans (s16.trans s17)).up)
end

end My
namespace My
open PySem PySem.Spec PyProof.Rows L2
/-! the law -/
theorem sq_step0 {K : PySem.W.Frag} {H H' : Hp} {a : Addr} {xs : List V} (h : SqL K H a xs) (s : Step [] H H') : SqL K H' a xs := by
  rcases h with (h | ⟨o, h⟩) | h
  · exact .inl (.inl (s.at0 h))
  · exact .inl (.inr ⟨o, s.at0 h⟩)
  · exact .inr h
def sp_law (K : PySem.W.Frag) : Sp := fun vs H Q _ => ∃ (p : Addr) (ns : List Int), vs = [.ref p] ∧ SqL K H p (ns.map V.int) ∧ ∀ H', Q (.bl true) H'
section
variable {P : Program} {w : World} {K : PySem.W.Frag} {mg : Str → Option Value} {base : Heap}
theorem ok_law (C : Ctx K mg) {fd : FuncData} (F : FunD K "law" "law" (defArgs s_law) (defBody s_law) (defScope s_law) [] [] (He.fAd K ("law", none)) fd) : FnOk P w K mg base CX0 8 (He.fAd K ("law", none)) fd ["script"] (sp_law K) := by
  obtain ⟨f_w_right, fd_w_right, G_w_right, mg_w_right, kp_w_right, b_w_right⟩ := (ok_w_right (P := P) (w := w) (base := base) C).ex
  obtain ⟨f_w_pot, fd_w_pot, G_w_pot, mg_w_pot, kp_w_pot, b_w_pot⟩ := (ok_w_pot (P := P) (w := w) (base := base) C).ex
  obtain ⟨f_w_cell_at, fd_w_cell_at, G_w_cell_at, mg_w_cell_at, kp_w_cell_at, b_w_cell_at⟩ := (ok_w_cell_at (P := P) (w := w) (base := base) C).ex
  refine F.ok (CX := CX0) sc_law (fun vs H Q E h => ?_) (fun cdv A outer s H vs Q E hr h => ?_)
  · obtain ⟨_, _, rfl, _⟩ := h
    rfl
  have hu := hu_of hr
  refine ⟨_, PSs.nox (pss_cons (ps_for PassesOwn.never rfl (pi_range1 rfl (fr_range C) (pa_cons (pe_callB (cr_max2 rfl) (by rfl) (fr_max C) (by decide +kernel) (pa_cons pe_int (pa_cons (pe_callB (cr_min2 rfl) (by rfl) (fr_min C) (by decide +kernel) (pa_cons pe_int (pa_cons (pe_callB cr_lenL (by rfl) (fr_len C) PySem.boot_len (pa_cons (pv 0) pa_nil)) pa_nil))) pa_nil))) pa_nil)) (pg_name (i := 1) sc_law.nd rfl (Or.inl rfl))
    (pss_one (ps_if (pt_not (pt_val (pe_call G_w_right (hr.mono (by decide)) rfl mg_w_right kp_w_right b_w_right .nil pass0 (pa_cons (pe_call G_w_pot (hr.mono (by decide)) rfl mg_w_pot kp_w_pot b_w_pot .nil pass0 (pa_cons (pe_call G_w_cell_at (hr.mono (by decide)) rfl mg_w_cell_at kp_w_cell_at b_w_cell_at .nil pass0 (pa_cons (pv 0) (pa_cons (pv 1) pa_nil))) pa_nil)) pa_nil)))) (pss_one (ps_ret pe_bl)) pss_nil)))
    (pss_one (ps_ret pe_bl))), ?_⟩
  obtain ⟨p, ns, rfl, hS, q⟩ := h
  walk_at "go"
  refine g_kRng1 (by omega) (by omega) ?_
  refine wFor_rng (fun i σ H' => ∃ v1 : Option V, σ = [some (.ref p), v1] ∧ SqL K H' p (ns.map V.int)) ⟨_, rfl, hS⟩ ?_ ?_
  · rintro i σ H1 hi ⟨v1, rfl, h1⟩
    simp only [Int.zero_add]
    walk_at "go"
    refine ⟨p, ns, i, rfl, h1, fun z => ?_⟩
    walk_at "go"
    refine ⟨z, rfl, fun b H2 hb s2 p2 => ?_⟩
    walk_at "go"
    refine ⟨b, 0, rfl, p2, by decide, fun H3 s3 => ?_⟩
    walk_at "go"
    refine iteF ?_
    walk_at "go"
    exact ⟨_, rfl, sq_step0 h1 (s2.via s3 hb)⟩
  · rintro σ H1 ⟨v1, rfl, h1⟩
    walk_at "go"
    exact q H1
end

end My
namespace My
open PySem PySem.Spec PyProof.Rows L2
/-! the head -/
abbrev Rw : PySem.W.OpenRow := PySem.W.OpenLaw.row PySem.Challenge.rw_sherdhall_k80_whole_as_few_rounds_as_can
abbrev hk : PySem.W.Hook := hookX 4 ck fn
def ob (s : PySem.W.SharedT) : AlX := obsXG 4 ck fn (HandSHeadRun.getT s)
theorem ob_eq (s : PySem.W.SharedT) : ob s = hk.obs s.abs := obsXG_eq (HandSHeadRun.getT_eq s)
def loose0 : List Str := ["LANES", "shares_of", "neck", "free_colour", "swap_chain", "colours_of", "rounds", "_law_cell_at", "_law_pot", "_law_pick", "_law_name", "_law_names", "_law_mixed", "_law_steps", "_law_neck", "_law_good", "_law_right"]
def loose : List Str := loose0
theorem run (w : World) : HandSHeadRun.RunEq Rw (PySem.W.view Rw.prog [19]) hk ob 4000 loose w := by
  intro os
  kernel_rfl

end My
namespace My
open PySem PySem.Spec PyProof.Rows L2
theorem facts {P : Program} {w : World} {K : PySem.W.Frag} {h : Heap} {mg : Str → Option Value} {f : Addr} (X : K.In h) (G : h.Ns mainGlobals mg) (hfa : mg ("law" : Str) = some (.ref f)) (c : SaysX ck fn K) :
    ∃ fd : FuncData, (∀ (s : Shared) (v : Value), BindsTo s fd ⟨[v], []⟩ [("script", v)]) ∧ ∀ base : Heap, K.In base → base.Ns mainGlobals mg → FnOk P w K mg base CX0 8 f fd ["script"] (sp_law K) := by
  have C : Ctx K mg := ⟨⟨_, X, G⟩, c⟩
  obtain ⟨fd, F⟩ := fn_law C
  have e := hfa.symm.trans (gl_law C)
  cases e
  have b := FunD.bindsA (ps := ["script"]) F fun _ _ _ _ _ _ us hl => match us, hl with | [_], _ => rfl
  exact ⟨fd, fun s v => b s [v] rfl, fun base _ _ => ok_law C F⟩
end My
open PySem PySem.W PySem.Calls PyProof.Rows
theorem PySem.Challenge.cw_sherdhall_k80_whole_as_few_rounds_as_can_holds : PySem.Challenge.rw_sherdhall_k80_whole_as_few_rounds_as_can.Holds := by
  w_on; o_law
  refine HandSHeadRun.head_any (r := OpenLaw.row PySem.Challenge.rw_sherdhall_k80_whole_as_few_rounds_as_can) (q := view (OpenLaw.row PySem.Challenge.rw_sherdhall_k80_whole_as_few_rounds_as_can).prog [19]) (H := My.hk) (ob := My.ob) (M := 4000) (loose := My.loose) (d := HandSHeadRun.topDef (OpenLaw.row PySem.Challenge.rw_sherdhall_k80_whole_as_few_rounds_as_can).prog 19) (kwd := []) My.ob_eq
    (by kernel_rfl) (fun s => by kernel_rfl) My.run (by kernel_rfl) (by kernel_rfl) (by kernel_rfl) (by rfl) (by first | assumption | decide +kernel) (by decide +kernel) ⟨rfl, rfl, rfl, rfl, rfl, by decide +kernel⟩ ?hw ?hc
  case hw => w_witness2
  case hc =>
    refine L2.walk_ofE (l := PySem.Challenge.rw_sherdhall_k80_whole_as_few_rounds_as_can) (n := 63) (k := 8) (x := "script") (CX := L2.CX0) rfl (by decide) (by kernel_rfl) ⟨rfl, by decide, by decide⟩ ?F (fun _ _ _ _ z => z)
    intro w mg fa h Y G hmg0
    obtain ⟨K, KX, c⟩ := Y
    have hmg : mg ("law" : PySem.Str) = some (.ref fa) := by
      have e : (HandSHeadRun.topDef (OpenLaw.row PySem.Challenge.rw_sherdhall_k80_whole_as_few_rounds_as_can).prog 19).name = ("law" : PySem.Str) := by kernel_rfl
      rw [← e]
      exact hmg0
    obtain ⟨fd, hb, hF⟩ := My.facts (P := (PySem.Challenge.rw_sherdhall_k80_whole_as_few_rounds_as_can).prog) (w := w) KX G hmg c
    exact ⟨K, fd, My.sp_law K, KX, hb, fun H a ns hl _ hS => ⟨a, ns, rfl, hS, fun _ => rfl⟩, hF⟩
namespace My

end My
