import PyProof.Rows.All
import Wide.All
import OpenK.AllK
import Wide.FinOn
import HandS.ForMost
import HandS.Head0
import HandS.Head1
import HandS.Head2
import HandS.Head3
import HandS.HeadEnd
import HandS.HeadHook1
import HandS.HeadHook2
import HandS.Defaults
import HandS.Exc
import HandS.ExcInit
import HandS.Wide
import HandS.TryMany
import HandS.DictComp
import HandS.WordsExc
import HandS.IsInst
import HandS.DeepEq
import HandS.DictEq
import HandS.More
import HandS.ExcField
import HandS.Sort
import HandS.TryOnly
import KE.KEqNest
import KE.KDictZip
import PySem.Challenge.RW_sherdhall_k76_moves_told
set_option Elab.async false
set_option linter.all false
set_option maxRecDepth 100000
set_option maxHeartbeats 4000000
/-! Kit: the head by facts, heaps in steps, the rules that lack. -/
namespace My
open PySem PySem.Spec PyProof.Rows L2
/-! ### facts by a Hook -/
abbrev AlX : Type := Bool × List He.FnW
def obsX (ck : List (PySem.W.Frag → Bool)) (fn : List He.DefD) (K : PySem.W.Frag) : AlX := ((ck.all fun f => f K) && fn.all fun d => d.ok K, fn.map fun d => He.fnW K d.at_)
def valX (fn : List He.DefD) : AlX := (true, fn.map He.DefD.val)
def SaysX (ck : List (PySem.W.Frag → Bool)) (fn : List He.DefD) (K : PySem.W.Frag) : Prop := obsX ck fn K = valX fn
def obsXG (n : Nat) (ck : List (PySem.W.Frag → Bool)) (fn : List He.DefD) (g : Addr → Option Obj) : AlX := obsX ck fn (He.frG g (He.asD g n))
def hookX (n : Nat) (ck : List (PySem.W.Frag → Bool)) (fn : List He.DefD) : PySem.W.Hook where
  α := AlX
  obs := fun s => obsXG n ck fn s.heap.get?
  val := fun _ => valX fn
  says := fun _ h => ∃ K : PySem.W.Frag, K.In h ∧ SaysX ck fn K
  of := fun _ _ e => ⟨_, He.frG_in, e⟩
  keeps := fun _ _ _ ⟨K, hK, c⟩ k => ⟨K, PySem.W.Frag.In.keeps hK k, c⟩
theorem obsXG_eq {n : Nat} {ck : List (PySem.W.Frag → Bool)} {fn : List He.DefD} {g : Addr → Option Obj} {s : Shared} (h : ∀ a, g a = s.heap.get? a) : obsXG n ck fn g = (hookX n ck fn).obs s := by
  have e : g = s.heap.get? := funext h
  rw [e] <;> rfl
section
variable {ck : List (PySem.W.Frag → Bool)} {fn : List He.DefD} {K : PySem.W.Frag}
theorem SaysX.fact (c : SaysX ck fn K) (i : Nat) {f : PySem.W.Frag → Bool} (h : ck[i]? = some f := by rfl) : f K = true := by
  have c1 := (He.ba (show ((ck.all fun f => f K) && fn.all fun d => d.ok K) = true from congrArg (fun z : AlX => z.1) c)).1
  exact List.all_eq_true.mp c1 f (List.mem_of_getElem? h)
theorem SaysX.def_ (c : SaysX ck fn K) (i : Nat) {d : He.DefD} (h : fn[i]? = some d := by rfl) : ∃ fd, FunD K d.name d.qual d.params d.body d.scope (d.dvs K) (d.kws K) (He.fAd K d.at_) fd := by
  have c2 := (He.ba (show ((ck.all fun f => f K) && fn.all fun d => d.ok K) = true from congrArg (fun z : AlX => z.1) c)).2
  have e : fn.map (fun d => He.fnW K d.at_) = fn.map He.DefD.val := congrArg (fun z : AlX => z.2) c
  have e2 : (fn.map fun d => He.fnW K d.at_)[i]? = (fn.map He.DefD.val)[i]? := by rw [e]
  rw [List.getElem?_map, List.getElem?_map, h] at e2
  exact He.DefD.funD (Option.some.inj e2) (List.all_eq_true.mp c2 d (List.mem_of_getElem? h))
end
/-- a def of the module as its callers see it -/
structure Has (P : Program) (w : World) (K : PySem.W.Frag) (mg : Str → Option Value) (base : Heap) (CX : CXT) (k : Nat) (x : Str) (ps : List Str) (sp : Sp) : Prop where
  ex : ∃ (f : Addr) (fd : FuncData), FnOk P w K mg base CX k f fd ps sp ∧ mg x = some (.ref f) ∧ PySem.W.keepIn K (.ref f) = true ∧ Binds K fd ps []
/-! ### own exceptions -/
/-- an own exception class, somewhere under ValueError -/
structure ExcT (K : PySem.W.Frag) (C : Addr) (fs : List Str) : Prop where
  ox : OexC K C
  xf : XfC K C
  no : ∀ f ∈ fs, PySem.W.findIn K (.ref C) f = some none
  ini : PySem.W.findIn K (.ref C) "__init__" = some (some (.ref (He.ma K C "__init__")))
  tI : PySem.W.typeIn K (.ref (He.ma K C "__init__")) = some (.type "function")
def excShape (K : PySem.W.Frag) (C : Addr) : Bool := match K.lookup C with
  | some ⟨.type "type", _, .cls cd, sl⟩ => (match cd.mro, sl.toList with
    | .ref C' :: bm, [_, _, _, _, some (.builtin n), _] => C' == C && (n == "ValueError.__new__" && (!cd.hasDel && (cd.hasDict && PySem.HandSPX.refsVE bm)))
    | _, _ => false)
  | _ => false
theorem excShape_ok {K : PySem.W.Frag} {C : Addr} (q : excShape K C = true) : ∃ nm q N bs bm sn sub ab col dd k0 k1 k2 k3 k5, K.lookup C = some (excClassObj nm q C N bs bm true sn sub ab col dd k0 k1 k2 k3 k5 "ValueError.__new__") ∧ PySem.HandSPX.refsVE bm = true := by
  unfold excShape at q
  split at q
  · rename_i dd cd sl ho
    split at q
    · rename_i C' bm k0 k1 k2 k3 n k5 hm hs
      simp only [Bool.and_eq_true, beq_iff_eq, Bool.not_eq_true'] at q
      obtain ⟨rfl, rfl, hdel, hdict, hb⟩ := q
      obtain ⟨nm, bs, mro, ns, qn, hd, sn, sub, ab, col, del⟩ := cd
      dsimp only at hm hdel hdict
      subst hm hdel hdict
      have hsl : sl = #[k0, k1, k2, k3, some (.builtin "ValueError.__new__"), k5] := by
        obtain ⟨l⟩ := sl
        simp only at hs
        rw [hs]
      subst hsl
      exact ⟨nm, qn, ns, bs, bm, sn, sub, ab, col, dd, k0, k1, k2, k3, k5, ho, hb⟩
    · cases q
  · cases q
def excB (K : PySem.W.Frag) (C : Addr) (fs : List Str) : Bool :=
  excShape K C && (He.eqO (PySem.W.findIn K (.ref C) "__setattr__") (some (some (.builtin "object.__setattr__"))) && (decide (PySem.W.subIn K (.ref C) (.type "BaseException") = some true) &&
    (decide (PySem.W.typeIn K (.ref C) = some (.type "type")) && (PySem.W.keepIn K (.ref C) && (xfB K C && ((fs.all fun f => He.eqO (PySem.W.findIn K (.ref C) f) (some none)) &&
    (He.eqO (PySem.W.findIn K (.ref C) "__init__") (some (some (.ref (He.ma K C "__init__")))) && decide (PySem.W.typeIn K (.ref (He.ma K C "__init__")) = some (.type "function")))))))))
theorem excB_ok {K : PySem.W.Frag} {C : Addr} {fs : List Str} (h : excB K C fs = true) : ExcT K C fs := by
  obtain ⟨h1, h⟩ := He.ba h
  obtain ⟨h2, h⟩ := He.ba h
  obtain ⟨h3, h⟩ := He.ba h
  obtain ⟨h4, h⟩ := He.ba h
  obtain ⟨h5, h⟩ := He.ba h
  obtain ⟨h6, h⟩ := He.ba h
  obtain ⟨h7, h⟩ := He.ba h
  obtain ⟨h8, h9⟩ := He.ba h
  exact ⟨⟨excShape_ok h1, He.eqO_ok h2, of_decide_eq_true h3, of_decide_eq_true h4, h5⟩, xfB_ok h6, fun f hf => He.eqO_ok (List.all_eq_true.mp h7 f hf), He.eqO_ok h8, of_decide_eq_true h9⟩
/-! ### several clauses, each with a name or without one -/
/-- behind a suite the name is gone -/
def endsAs (o : Option Nat) (D : Ends) : Ends := match o with
  | none => D
  | some i => { nx := fun σ' H' => D.nx (σ'.set i none) H', rt := D.rt, bk := fun σ' H' => D.bk (σ'.set i none) H', ct := fun σ' H' => D.ct (σ'.set i none) H' }
def slotAs (o : Option Nat) (a : Addr) (σ : L2.St) : L2.St := match o with
  | none => σ
  | some i => σ.set i (some (.ref a))
abbrev Cl := Value × Option Nat × (Addr → Value → Option Addr → TS)
def wManyA (K : PySem.W.Frag) (Wout : WX) (D : Ends) : List Cl → WX
  | [] => Wout
  | (c, o, ts) :: r => fun cls d σ H => ∃ b, PySem.W.exmOne K cls c = some b ∧ (b = true → ∀ a, H a = none → ts a cls d (endsAs o D) (slotAs o a σ) H) ∧ (b = false → wManyA K Wout D r cls d σ H)
inductive HdsA (X : Cx) : List ExceptHandler → List Cl → Prop
  | nil : HdsA X [] []
  | cons {x : Str} {c : Value} {ts : Addr → Value → Option Addr → TS} {b0 : Stmt} {suite : List Stmt} {np pos' : Pos} {hds : List ExceptHandler} {l : List Cl} (hc : Names X x c)
      (hsu : ∀ (a : Addr) (oe : Obj) (cls : Value) (d : Option Addr) (pn : List (Addr × Obj)), Zc cls d oe → (∃ vs, oe.data = .fields vs) → PSs (X.suite a ((a, oe) :: pn)) (b0 :: suite) (ts a cls d)) (r : HdsA X hds l) :
      HdsA X (.ExceptHandler (some (.Name x np)) none (b0 :: suite) pos' :: hds) ((c, none, ts) :: l)
  | consAs {x n : Str} {i : Nat} {c : Value} {ts : Addr → Value → Option Addr → TS} {b0 : Stmt} {suite : List Stmt} {np pos' : Pos} {hds : List ExceptHandler} {l : List Cl} (hi : X.N[i]? = some n) (hln : X.env.kindOf n = some .local) (hc : Names X x c)
      (hsu : ∀ (a : Addr) (oe : Obj) (cls : Value) (d : Option Addr) (pn : List (Addr × Obj)), Zc cls d oe → (∃ vs, oe.data = .fields vs) → PSs (X.suite a ((a, oe) :: pn)) (b0 :: suite) (ts a cls d)) (r : HdsA X hds l) :
      HdsA X (.ExceptHandler (some (.Name x np)) (some n) (b0 :: suite) pos' :: hds) ((c, some i, ts) :: l)
section
variable {X : Cx} {body : List Stmt} {h0 : ExceptHandler} {hds : List ExceptHandler} {l : List Cl} {pos : Pos} {tb : WX → TS} {Wout : WX}
theorem ps_try_A (hs : X.stack = X.env :: X.outer) (hf : X.env.frame = some X.env.locals) (hN : X.N.Nodup) (tk : Takes X Wout)
    (hb : ∀ (W : WX) (pn : List (Addr × Obj)) (xe : Value → Shared → Prop), Takes (X.tr pn xe) W → PassesOwn (model X.prog X.w) X.A X.env xe → PSs (X.tr pn xe) body (tb W))
    (hh : HdsA X (h0 :: hds) l) : PS X (.Try body (h0 :: hds) [] [] pos) (fun D σ H => tb (wManyA X.K Wout D l) D σ H) := by
  refine ⟨fun pins s σ H D I h => ?_⟩
  have ok := I.ok
  have hfr : X.A.frames = some (X.env :: X.outer) := by rw [ok.frames, hs]
  refine wpAny_Try_except ?_
  refine wpAny_mono ((hb (wManyA X.K Wout D l) (X.pn ++ pins) (fun e s₁ => wpAny (model X.prog X.w) X.A (noteFrame e X.env) (fun _ s₂ => wpAny (model X.prog X.w) X.A (setFlight e none) (fun _ s₃ =>
    wpAny (model X.prog X.w) X.A (handleBy e X.env (h0 :: hds)) (SP X pins D) X.xe s₃) X.xe s₂) X.xe s₁) (fun u s' xx => ?_) PassesOwn.looking).run [] s σ H D (I.toTry _) h) (fun f s1 hsp => ?_) (fun e s1 he => he)
  · obtain ⟨a, B, sI, pins', σ', H', cls, d, rfl, J', nb, up, sky, na, os, ag, w⟩ := xx
    have J : Inv X pins σ' H' sI := J'.ofTry ok
    have sky' : Sky B (X.env :: X.outer) a (Zc cls d) X.env.locals s'.heap := by rw [← hs]; exact sky
    show wpAny (model X.prog X.w) X.A (noteFrame (.ref a) X.env) _ _ _
    refine Sky.land Zc.steady hfr hf sky' fun h3 fl3 up3 => ?_
    have J3 : Inv X pins σ' H' { s' with heap := h3 } := J.landed nb fl3.1 (up.trans up3) os ag
    obtain ⟨oe3, vs3, he3, hz3, hd3⟩ := fl3.there
    have notFr : ∀ {h : Heap} {o : Obj} {vs : Array Value}, h.FunFrames B (X.env :: X.outer) → h.get? a = some o → o.data = .fields vs → a ∉ frs (X.env :: X.outer) := fun {h o vs} ff e dd hm => by
      obtain ⟨_, o', e', hnf⟩ := ff.mem hm
      rw [e] at e'; cases e'
      exact hnf _ dd
    have nfr := notFr fl3.2.2.1 he3 hd3
    have nL : a ≠ X.env.locals := fun z => nfr (List.mem_filterMap.mpr ⟨X.env, List.mem_cons_self, by rw [hf, z]⟩)
    have nF : a ∉ X.fs := fun hm => by
      obtain ⟨e, he, q⟩ := List.mem_filterMap.mp hm
      exact nfr (List.mem_filterMap.mpr ⟨e, List.mem_cons_of_mem _ he, q⟩)
    have S3 := J3.suite he3 hd3 na nL nF
    have LT : PySem.W.Looks (model X.prog X.w) h3 (typeOf (.ref a)) cls := fun A Q E s k q => wpAny_typeOf_ref (k _ _ he3) (by rw [hz3.1]; exact q)
    have test : ∀ {x : Str} {c : Value} {np : Pos} {Q : Value → Shared → Prop} {E : Value → Shared → Prop}, Names X x c → Q c { s' with heap := h3 } → wpAny (model X.prog X.w) (X.A.mark (some (.ref a))) (eval (.Name x np) X.env) Q E { s' with heap := h3 } := fun {x c np Q E} hc q => by
      obtain ⟨hg, hdbg, hm | ⟨hm, hv, hnn⟩⟩ := hc
      · exact ld_glob (X := X.suite a ((a, oe3) :: (X.pn ++ pins))) S3 hg hm q hdbg
      · exact ld_blt (X := X.suite a ((a, oe3) :: (X.pn ++ pins))) S3 hg hm hv q hnn hdbg
    have go : ∀ {hds' : List ExceptHandler} {l' : List Cl}, HdsA X hds' l' → wManyA X.K Wout D l' cls d σ' H' →
        wpAny (model X.prog X.w) X.A (handleBy (.ref a) X.env hds') (SP X pins D) X.xe { s' with heap := h3 } := by
      intro hds' l' hk
      induction hk with
      | nil =>
        intro w
        refine wpAny_handleBy_nil ?_
        obtain ⟨k1, k2, k3, oe, vs, T, oT, ts', he, hz, hd, h1, hr⟩ := id fl3
        unfold PySem.passOn
        refine wpAny_bind (wpAny_field he hd h1 ?_)
        rw [if_neg (show ¬ ((Value.ref T == Value.none) = true) from by simp)]
        have fin : wpAny (model X.prog X.w) X.A (setFlight (.ref a) X.env.frame) (fun _ s4 => wpAny (model X.prog X.w) X.A (throw (.ref a) : Sem Flow) (SP X pins D) X.xe s4) X.xe { s' with heap := h3 } := by
          rw [hf]
          refine HandSPX.setFlight_upZ fl3 fun h4 hh4 up4 => wpAny_throw (tk _ _ ?_)
          exact ⟨a, B, sI, pins, σ', H', cls, d, rfl, J, nb, (up.trans up3).trans up4, .inr (.inr (by rw [hs]; exact hh4)), na, os, ag, w⟩
        first
          | exact wpAny_bind (wpAny_pure (wpAny_bind fin))
          | exact wpAny_bind fin
      | @cons x c ts b0 suite np pos' hds2 l2 hc hsu r ih =>
        intro w
        obtain ⟨b, hb1, hyes, hno⟩ := w
        refine wpAny_handleBy_cons (codeAny_handlers_test ?_) (by intro q; cases q)
        have LM := PySem.W.exm_one (M := model X.prog X.w) (J3.kIn) LT hb1
        refine test hc (LM.here ?_)
        cases b with
        | true =>
          refine codeAny_handlers_suite ?_
          refine HandSPX.lands_againZ fl3 fun h4 fl4 up4 => ?_
          have J4 : Inv X pins σ' H' { s' with heap := h4 } := J.landed nb fl4.1 ((up.trans up3).trans up4) os ag
          obtain ⟨oe4, vs4, he4, hz4, hd4⟩ := fl4.there
          have S4 := J4.suite he4 hd4 na nL nF
          refine wpAny_mono ((hsu a oe4 cls d (X.pn ++ pins) hz4 ⟨_, hd4⟩).run [] _ _ H' _ S4 (hyes rfl a na)) (fun f s6 hsp => ?_) (fun _ _ z => False.elim z)
          cases f with
          | next =>
            obtain ⟨σ6, H6, S6, q6⟩ := hsp
            exact ⟨_, _, S6.unsuite ok, q6⟩
          | brk =>
            obtain ⟨σ6, H6, S6, q6⟩ := hsp
            exact ⟨_, _, S6.unsuite ok, q6⟩
          | cont =>
            obtain ⟨σ6, H6, S6, q6⟩ := hsp
            exact ⟨_, _, S6.unsuite ok, q6⟩
          | ret u =>
            obtain ⟨v6, σ6, H6, S6, r6, q6⟩ := hsp
            exact ⟨_, _, _, S6.unsuite ok, r6, q6⟩
        | false =>
          show wpAny _ X.A (handleBy (.ref a) X.env hds2) _ _ _
          exact ih (hno rfl)
      | @consAs x n i c ts b0 suite np pos' hds2 l2 hi hln hc hsu r ih =>
        intro w
        obtain ⟨b, hb1, hyes, hno⟩ := w
        have hloc : Loc X.env.scope n := .inl hln
        refine wpAny_handleBy_cons (codeAny_handlers_test ?_) (by intro q; cases q)
        have LM := PySem.W.exm_one (M := model X.prog X.w) (J3.kIn) LT hb1
        refine test hc (LM.here ?_)
        cases b with
        | true =>
          refine codeAny_handlers_suite_as ?_
          refine HandSPX.lands_againZ fl3 fun h4 fl4 up4 => ?_
          have J4 : Inv X pins σ' H' { s' with heap := h4 } := J.landed nb fl4.1 ((up.trans up3).trans up4) os ag
          obtain ⟨oe4, vs4, he4, hz4, hd4⟩ := fl4.there
          have S4 := J4.suite he4 hd4 na nL nF
          refine store_ok (X := X.suite a ((a, oe4) :: (X.pn ++ pins))) (v := .ref a) S4 hN hi hloc rfl (fun s5 S5 => ?_) (.inr hln)
          refine wpAny_mono ((hsu a oe4 cls d (X.pn ++ pins) hz4 ⟨_, hd4⟩).run [] s5 _ H' _ S5 (hyes rfl a na)) (fun f s6 hsp => ?_) (fun _ _ z => False.elim z)
          have end_ : ∀ {σ6 : L2.St} {H6 : Hp} {Q : Shared → Prop}, Inv (X.suite a ((a, oe4) :: (X.pn ++ pins))) [] σ6 H6 s6 → (∀ s7, Inv X pins (σ6.set i none) H6 s7 → Q s7) →
              wpAny (model X.prog X.w) X.A (do bindName X.env n .none; unbindBehindTheSuite X.env n pos') (fun _ s7 => Q s7) X.xe s6 := fun {σ6 H6 Q} S6 hq => gone_ok (S6.unsuite ok) hN hi hln hq
          cases f with
          | next =>
            obtain ⟨σ6, H6, S6, q6⟩ := hsp
            exact end_ S6 fun s7 J7 => ⟨_, _, J7, q6⟩
          | brk =>
            obtain ⟨σ6, H6, S6, q6⟩ := hsp
            exact end_ S6 fun s7 J7 => ⟨_, _, J7, q6⟩
          | cont =>
            obtain ⟨σ6, H6, S6, q6⟩ := hsp
            exact end_ S6 fun s7 J7 => ⟨_, _, J7, q6⟩
          | ret u =>
            obtain ⟨v6, σ6, H6, S6, r6, q6⟩ := hsp
            exact end_ S6 fun s7 J7 => ⟨_, _, _, J7, r6, q6⟩
        | false =>
          show wpAny _ X.A (handleBy (.ref a) X.env hds2) _ _ _
          exact ih (hno rfl)
    exact go hh w
  · cases f with
    | next =>
      obtain ⟨σ', H', J', q⟩ := hsp
      exact wpAny_execs_nil ⟨σ', H', J'.ofTry ok, q⟩
    | brk =>
      obtain ⟨σ', H', J', q⟩ := hsp
      exact ⟨σ', H', J'.ofTry ok, q⟩
    | cont =>
      obtain ⟨σ', H', J', q⟩ := hsp
      exact ⟨σ', H', J'.ofTry ok, q⟩
    | ret u =>
      obtain ⟨v, σ', H', J', r, q⟩ := hsp
      exact ⟨v, σ', H', J'.ofTry ok, r, q⟩
end
/-! ### powers of great ints -/
section
variable {X : Cx}
def CPowW (i j : Int) : Prop := 0 ≤ j ∧ (Builtin.Int.intBits i : Int) * j ≤ 2 ^ 27
theorem op_powW : OpR X (binaryOp .Pow) (rI CPowW fun i j => .int (i ^ j.toNat)) := opI fun _ _ _ _ _ _ _ hc q => pow_int hc.1 hc.2 q
end
theorem powW_ok {i j : Int} {a : Nat} (h : i.natAbs < 2 ^ a) (ha : 0 < a) (h0 : 0 ≤ j) (h1 : (a : Int) * j ≤ 2 ^ 27) : CPowW i j := by
  refine ⟨h0, Int.le_trans (Int.mul_le_mul_of_nonneg_right ?_ h0) h1⟩
  have x := PySem.Flt.log2_lt_of ha h
  unfold Builtin.Int.intBits
  split <;> omega
end My
/-! Kit2: heaps in steps; what a value stands for. -/
namespace My
open PySem PySem.Spec PyProof.Rows L2
/-- every tracked object stands -/
def Le (H H' : Hp) : Prop := ∀ b o, H b = some o → H' b = some o
theorem Le.refl (H : Hp) : Le H H := fun _ _ h => h
theorem Le.trans {H H1 H2 : Hp} (a : Le H H1) (b : Le H1 H2) : Le H H2 := fun c o h => b c o (a c o h)
theorem Le.free {H H' : Hp} (e : Le H H') {l : Addr} (h : H' l = none) : H l = none := by
  cases q : H l with
  | none => rfl
  | some o => rw [e l o q] at h; cases h
theorem Le.new {H : Hp} {p : Addr} {o : HO} (h : H p = none) : Le H (upd H p o) := fun a u e => by
  rw [upd_ne (ne_of_none e h)]
  exact e
/-- .. an object that H does not know may change -/
theorem Le.mut {H H' : Hp} {p : Addr} {o : HO} (e : Le H H') (h : H p = none) : Le H (upd H' p o) := fun a u ha => by
  rw [upd_ne (ne_of_none ha h)]
  exact e a u ha
/-- the heap but the objects at m -/
def hide (m : List Addr) (H : Hp) : Hp := fun b => if b ∈ m then none else H b
theorem hide_le {m : List Addr} {H : Hp} : Le (hide m H) H := fun b o h => by
  unfold hide at h
  split at h
  · cases h
  · exact h
theorem hide_in {m : List Addr} {H : Hp} {b : Addr} (h : b ∈ m) : hide m H b = none := if_pos h
theorem hide_out {m : List Addr} {H : Hp} {b : Addr} (h : b ∉ m) : hide m H b = H b := if_neg h
theorem hide_nil {H : Hp} : hide [] H = H := funext fun _ => if_neg (by simp)
theorem hide_cons {m : List Addr} {H : Hp} {a : Addr} : Le (hide (a :: m) H) (hide m H) := fun b o h => by
  unfold hide at h ⊢
  split at h
  · cases h
  · rename_i n
    rw [if_neg fun z => n (List.mem_cons_of_mem _ z)]
    exact h
theorem hide_sub {m m' : List Addr} {H : Hp} (s : ∀ b ∈ m, b ∈ m') : Le (hide m' H) (hide m H) := fun b o h => by
  unfold hide at h ⊢
  split at h
  · cases h
  · rename_i n
    rw [if_neg fun z => n (s b z)]
    exact h
/-- from H to H' only the objects at m may have changed; what is tracked is tracked -/
structure Step (m : List Addr) (H H' : Hp) : Prop where
  keep : ∀ b o, b ∉ m → H b = some o → H' b = some o
  live : ∀ b, H' b = none → H b = none
section
variable {m m' : List Addr} {H H1 H2 : Hp} {a p b : Addr} {o u : HO}
theorem Step.refl (m : List Addr) (H : Hp) : Step m H H := ⟨fun _ _ _ h => h, fun _ h => h⟩
theorem Step.trans (x : Step m H H1) (y : Step m H1 H2) : Step m H H2 := ⟨fun b o n h => y.keep b o n (x.keep b o n h), fun b h => x.live b (y.live b h)⟩
theorem Step.mono (x : Step m H H1) (s : ∀ b ∈ m, b ∈ m') : Step m' H H1 := ⟨fun b o n h => x.keep b o (fun z => n (s b z)) h, x.live⟩
theorem Step.up (x : Step [] H H1) : Step m H H1 := x.mono fun _ z => nomatch z
theorem Step.le (x : Step m H H1) : Le (hide m H) (hide m H1) := fun b o h => by
  unfold hide at h ⊢
  split at h
  · cases h
  · rename_i n
    rw [if_neg n]
    exact x.keep b o n h
theorem Step.le0 (x : Step [] H H1) : Le H H1 := fun b o h => x.keep b o (by simp) h
theorem Step.at (x : Step m H H1) (h : H b = some o) (n : b ∉ m) : H1 b = some o := x.keep b o n h
/-- an object laid anew -/
theorem Step.new (h : H p = none) : Step m H (upd H p o) := ⟨fun b u _ e => Le.new h b u e, fun b e => by
  by_cases hb : b = p
  · rw [hb, upd_same] at e; cases e
  · rwa [upd_ne hb] at e⟩
theorem Step.add (x : Step m H H1) (h : H1 p = none) : Step m H (upd H1 p o) := x.trans (Step.new h)
/-- an object that H does not know may change -/
theorem Step.mut (x : Step m H H1) (h : H p = none) : Step m H (upd H1 p o) := ⟨fun b u n e => by
    rw [upd_ne (ne_of_none e h)]
    exact x.keep b u n e, fun b e => by
  by_cases hb : b = p
  · rw [hb, upd_same] at e; cases e
  · rw [upd_ne hb] at e; exact x.live b e⟩
/-- one of m's objects is changed -/
theorem Step.wr (x : Step m H H1) (h : p ∈ m) : Step m H (upd H1 p o) := ⟨fun b u n e => by
    rw [upd_ne fun z => n (by rw [z]; exact h)]
    exact x.keep b u n e, fun b e => by
  by_cases hb : b = p
  · rw [hb, upd_same] at e; cases e
  · rw [upd_ne hb] at e; exact x.live b e⟩
/-- what was new and changed is new to H all the same -/
theorem Step.drop (x : Step (p :: m) H H1) (h : H p = none) : Step m H H1 := ⟨fun b o n e => x.keep b o (fun z => (List.mem_cons.mp z).elim (ne_of_none e h) n) e, x.live⟩
theorem Step.fresh (x : Step m H H1) (h : H1 b = none) : H b = none := x.live b h
theorem Step.ne (x : Step m H H1) (h : H b = some o) (hp : H1 p = none) : b ≠ p := ne_of_none h (x.live p hp)
end
section
variable {H H1 : Hp} {a b : Addr} {o : HO}
theorem Step.at0 (x : Step [] H H1) (h : H b = some o) : H1 b = some o := x.keep b o (by simp) h
theorem Step.at1 (x : Step [a] H H1) (h : H b = some o) (n : b ≠ a) : H1 b = some o := x.keep b o (by simpa using n) h
theorem Step.at2 {c : Addr} (x : Step [a, c] H H1) (h : H b = some o) (n : b ≠ a) (m : b ≠ c) : H1 b = some o := x.keep b o (by simp [n, m]) h
/-- an object new to H is changed -/
theorem Step.via {H2 : Hp} {m : List Addr} (x : Step m H H1) (y : Step [b] H1 H2) (h : H b = none) : Step m H H2 := ⟨fun c o n e => y.at1 (x.keep c o n e) (ne_of_none e h), fun c e => x.live c (y.live c e)⟩
theorem Step.and1 {H2 : Hp} {m : List Addr} (x : Step m H H1) (y : Step [b] H1 H2) (h : b ∈ m) : Step m H H2 := x.trans (y.mono fun c hc => by rw [List.mem_singleton.mp hc]; exact h)
theorem Step.drop2 {p : Addr} (x : Step [a, p] H H1) (h : H p = none) : Step [a] H H1 := ⟨fun c o n e => x.keep c o (by
    have := ne_of_none e h
    simp only [List.mem_singleton] at n
    simp [n, this]) e, x.live⟩
theorem Step.sub1 (x : Step [b] H H1) (m : List Addr) (h : b ∈ m) : Step m H H1 := x.mono fun c hc => by rw [List.mem_singleton.mp hc]; exact h
end
theorem Step.hid {H H1 : Hp} {b : Addr} {m : List Addr} (x : Step [b] H H1) (h : b ∈ m) : Le (hide m H) (hide m H1) := (x.sub1 m h).le
theorem Step.hid0 {H H1 : Hp} {m : List Addr} (x : Step [] H H1) : Le (hide m H) (hide m H1) := (x.up (m := m)).le
theorem hide_at {m : List Addr} {H : Hp} {b : Addr} {o : HO} (h : H b = some o) (n : b ∉ m) : hide m H b = some o := by rw [hide_out n]; exact h
/-! ### what a value stands for -/
abbrev Rp (α : Type) := Hp → V → α → Prop
def Mono {α : Type} (r : Rp α) : Prop := ∀ H H' v x, Le H H' → r H v x → r H' v x
def rI : Rp Int := fun _ v i => v = .int i
def rS : Rp Str := fun _ v s => v = .str s
def rB : Rp Bool := fun _ v s => v = .bl s
def oV {α : Type} (f : α → V) : Option α → V
  | none => .non
  | some x => f x
def rOS : Rp (Option Str) := fun _ v s => v = oV V.str s
def All2 {α : Type} (r : V → α → Prop) : List V → List α → Prop := Paired r
def rL {α : Type} (r : Rp α) : Rp (List α) := fun H v xs => ∃ a vs, v = .ref a ∧ H a = some (.lst vs) ∧ Paired (r H) vs xs
/-- a tuple by its places -/
def rT (f : Hp → List V → Prop) : Hp → V → Prop := fun H v => ∃ a vs, v = .ref a ∧ H a = some (.tup vs) ∧ f H vs
def rP2 {α β : Type} (r : Rp α) (q : Rp β) : Rp (α × β) := fun H v x => ∃ a u w, v = .ref a ∧ H a = some (.tup [u, w]) ∧ r H u x.1 ∧ q H w x.2
def rP3 {α β γ : Type} (r : Rp α) (q : Rp β) (s : Rp γ) : Rp (α × β × γ) := fun H v x => ∃ a u w z, v = .ref a ∧ H a = some (.tup [u, w, z]) ∧ r H u x.1 ∧ q H w x.2.1 ∧ s H z x.2.2
def rP4 {α β γ δ : Type} (r : Rp α) (q : Rp β) (s : Rp γ) (t : Rp δ) : Rp (α × β × γ × δ) := fun H v x => ∃ a u w z y, v = .ref a ∧ H a = some (.tup [u, w, z, y]) ∧ r H u x.1 ∧ q H w x.2.1 ∧ s H z x.2.2.1 ∧ t H y x.2.2.2
/-- a dict with numbers as keys -/
def rDI {β : Type} (q : Rp β) : Rp (List (Int × β)) := fun H v xs => ∃ a kvs, v = .ref a ∧ H a = some (.dK kvs) ∧ Paired (fun (p : Key × V) (x : Int × β) => p.1 = Sum.inl x.1 ∧ q H p.2 x.2) kvs xs
section
variable {α β γ δ : Type} {r : Rp α} {q : Rp β} {s : Rp γ} {t : Rp δ} {H H' : Hp}
theorem Pmap {α β : Type} {F G : α → β → Prop} {l1 : List α} {l2 : List β} (h : Paired F l1 l2) (f : ∀ a b, F a b → G a b) : Paired G l1 l2 := Paired.mapP h f
theorem mI : Mono rI := fun _ _ _ _ _ h => h
theorem mS : Mono rS := fun _ _ _ _ _ h => h
theorem mB : Mono rB := fun _ _ _ _ _ h => h
theorem mOS : Mono rOS := fun _ _ _ _ _ h => h
theorem mL (m : Mono r) : Mono (rL r) := fun H H' v x e ⟨a, vs, h1, h2, h3⟩ => ⟨a, vs, h1, e _ _ h2, Pmap h3 fun v x z => m H H' v x e z⟩
theorem mP2 (m : Mono r) (n : Mono q) : Mono (rP2 r q) := fun H H' v x e ⟨a, u, w, h1, h2, h3, h4⟩ => ⟨a, u, w, h1, e _ _ h2, m H H' _ _ e h3, n H H' _ _ e h4⟩
theorem mP3 (m : Mono r) (n : Mono q) (k : Mono s) : Mono (rP3 r q s) := fun H H' v x e ⟨a, u, w, z, h1, h2, h3, h4, h5⟩ => ⟨a, u, w, z, h1, e _ _ h2, m H H' _ _ e h3, n H H' _ _ e h4, k H H' _ _ e h5⟩
theorem mP4 (m : Mono r) (n : Mono q) (k : Mono s) (l : Mono t) : Mono (rP4 r q s t) := fun H H' v x e ⟨a, u, w, z, y, h1, h2, h3, h4, h5, h6⟩ => ⟨a, u, w, z, y, h1, e _ _ h2, m H H' _ _ e h3, n H H' _ _ e h4, k H H' _ _ e h5, l H H' _ _ e h6⟩
theorem mDI (n : Mono q) : Mono (rDI q) := fun H H' v x e ⟨a, kvs, h1, h2, h3⟩ => ⟨a, kvs, h1, e _ _ h2, Pmap h3 fun v x ⟨z1, z2⟩ => ⟨z1, n H H' _ _ e z2⟩⟩
/-- pairs by places -/
theorem P_get {F : α → β → Prop} : ∀ {l1 : List α} {l2 : List β} {i : Nat} {x : α}, Paired F l1 l2 → l1[i]? = some x → ∃ y, l2[i]? = some y ∧ F x y
  | _, _, _, _, .nil, e => by simp at e
  | _, _, 0, _, .cons r _, e => by simp at e; subst e; exact ⟨_, rfl, r⟩
  | _, _, i + 1, x, .cons _ t, e => by
    obtain ⟨u, h1, h2⟩ := P_get (i := i) (x := x) t (by simpa using e)
    exact ⟨u, by simpa using h1, h2⟩
theorem P_get2 {F : α → β → Prop} : ∀ {l1 : List α} {l2 : List β} {i : Nat} {y : β}, Paired F l1 l2 → l2[i]? = some y → ∃ x, l1[i]? = some x ∧ F x y
  | _, _, _, _, .nil, e => by simp at e
  | _, _, 0, _, .cons r _, e => by simp at e; subst e; exact ⟨_, rfl, r⟩
  | _, _, i + 1, x, .cons _ t, e => by
    obtain ⟨u, h1, h2⟩ := P_get2 (i := i) (y := x) t (by simpa using e)
    exact ⟨u, by simpa using h1, h2⟩
theorem P_snoc {F : α → β → Prop} {x : α} {y : β} (q : F x y) : ∀ {l1 : List α} {l2 : List β}, Paired F l1 l2 → Paired F (l1 ++ [x]) (l2 ++ [y])
  | _, _, .nil => .cons q .nil
  | _, _, .cons r t => .cons r (P_snoc q t)
theorem P_len {F : α → β → Prop} {l1 : List α} {l2 : List β} (h : Paired F l1 l2) : l1.length = l2.length := Paired.length h
/-- pairs that are a map -/
theorem P_map {f : β → α} : ∀ {l2 : List β}, Paired (fun x y => x = f y) (l2.map f) l2
  | [] => .nil
  | _ :: _ => .cons rfl P_map
theorem P_eq {f : β → α} : ∀ {l1 : List α} {l2 : List β}, Paired (fun x y => x = f y) l1 l2 → l1 = l2.map f
  | _, _, .nil => rfl
  | _, _, .cons e t => by rw [e, P_eq t, List.map_cons]
theorem rL_nil {a : Addr} (h : H a = some (.lst [])) : rL r H (.ref a) [] := ⟨a, [], rfl, h, .nil⟩
theorem rL_len {v : V} {xs : List α} (h : rL r H v xs) : ∃ a vs, v = .ref a ∧ H a = some (.lst vs) ∧ vs.length = xs.length := by
  obtain ⟨a, vs, e, h1, h2⟩ := h
  exact ⟨a, vs, e, h1, P_len h2⟩
theorem rLS_of {a : Addr} {xs : List Str} (h : H a = some (.lst (xs.map V.str))) : rL rS H (.ref a) xs := ⟨a, _, rfl, h, P_map (f := V.str)⟩
theorem rLI_of {a : Addr} {xs : List Int} (h : H a = some (.lst (xs.map V.int))) : rL rI H (.ref a) xs := ⟨a, _, rfl, h, P_map (f := V.int)⟩
theorem rLS_at {v : V} {xs : List Str} (h : rL rS H v xs) : ∃ a, v = .ref a ∧ H a = some (.lst (xs.map V.str)) := by
  obtain ⟨a, vs, rfl, h1, h2⟩ := h
  exact ⟨a, rfl, by rw [h1, P_eq (f := V.str) h2]⟩
theorem rLI_at {v : V} {xs : List Int} (h : rL rI H v xs) : ∃ a, v = .ref a ∧ H a = some (.lst (xs.map V.int)) := by
  obtain ⟨a, vs, rfl, h1, h2⟩ := h
  exact ⟨a, rfl, by rw [h1, P_eq (f := V.int) h2]⟩
end
theorem erase_perm {α : Type} : ∀ {xs : List α} {k : Nat} (h : k < xs.length), (xs[k] :: xs.eraseIdx k).Perm xs
  | [], _, h => absurd h (Nat.not_lt_zero _)
  | _ :: _, 0, _ => List.Perm.refl _
  | x :: xs, k + 1, h => (List.Perm.swap x (xs[k]'(Nat.lt_of_succ_lt_succ h)) (xs.eraseIdx k)).trans ((erase_perm (xs := xs) (Nat.lt_of_succ_lt_succ h)).cons x)
/-- what is a permutation of a map is a map of a permutation -/
theorem perm_map {α β : Type} {f : α → β} : ∀ {ys : List β} {xs : List α}, ys.Perm (xs.map f) → ∃ zs : List α, zs.Perm xs ∧ ys = zs.map f := by
  intro ys xs h
  generalize hw : xs.map f = ws at h
  induction h generalizing xs with
  | nil => exact ⟨[], by rw [List.map_eq_nil_iff.mp hw], rfl⟩
  | @cons x l1 l2 _ ih =>
    cases xs with
    | nil => cases hw
    | cons y r =>
      obtain ⟨e1, e2⟩ := List.cons.inj hw
      obtain ⟨zs, hz, e⟩ := ih e2
      exact ⟨y :: zs, hz.cons y, by rw [List.map_cons, e1, e]⟩
  | swap x y l =>
    cases xs with
    | nil => cases hw
    | cons a r =>
      cases r with
      | nil => cases hw
      | cons b r =>
        obtain ⟨e1, e2⟩ := List.cons.inj hw
        obtain ⟨e2, e3⟩ := List.cons.inj e2
        exact ⟨b :: a :: r, List.Perm.swap a b r, by rw [List.map_cons, List.map_cons, e1, e2, e3]⟩
  | trans _ _ ih1 ih2 =>
    obtain ⟨z1, h1, e1⟩ := ih2 hw
    obtain ⟨z2, h2, e2⟩ := ih1 e1.symm
    exact ⟨z2, h2.trans h1, e2⟩
theorem perm_ints {ys : List V} {ns : List Int} (h : ys.Perm (ns.map V.int)) : ∃ zs : List Int, zs.Perm ns ∧ ys = zs.map V.int := perm_map h
theorem perm_strs {ys : List V} {ns : List Str} (h : ys.Perm (ns.map V.str)) : ∃ zs : List Str, zs.Perm ns ∧ ys = zs.map V.str := perm_map h
theorem sub_len {α : Type} [BEq α] [LawfulBEq α] : ∀ {l1 l2 : List α}, l1.Nodup → (∀ x ∈ l1, x ∈ l2) → l1.length ≤ l2.length
  | [], _, _, _ => Nat.zero_le _
  | x :: r, l2, hn, hs => by
    obtain ⟨h1, h2⟩ := List.nodup_cons.mp hn
    have hx := hs x (List.mem_cons_self ..)
    have ih := sub_len (l1 := r) (l2 := l2.erase x) h2 fun y hy => (List.mem_erase_of_ne (fun e => h1 (by rw [← e]; exact hy))).mpr (hs y (List.mem_cons_of_mem _ hy))
    have l := List.length_erase_of_mem hx
    have : 0 < l2.length := List.length_pos_of_mem hx
    rw [List.length_cons]
    omega
theorem cutV_to {xs : List V} {n : Int} (h : 0 ≤ n) : cutV xs none (some n) = xs.take n.toNat := by
  unfold cutV
  show (xs.drop 0).take ((if n < 0 then (n + (xs.length : Int)).toNat else min n.toNat xs.length) - 0) = _
  rw [if_neg (by omega), List.drop_zero, Nat.sub_zero, List.take_eq_take_iff]
  omega
theorem cutV_from {xs : List V} {n : Int} (h : 0 ≤ n) : cutV xs (some n) none = xs.drop n.toNat := by
  unfold cutV
  show (xs.drop (if n < 0 then (n + (xs.length : Int)).toNat else min n.toNat xs.length)).take (xs.length - (if n < 0 then (n + (xs.length : Int)).toNat else min n.toNat xs.length)) = _
  rw [if_neg (by omega), List.take_of_length_le (by rw [List.length_drop]; omega)]
  by_cases hl : n.toNat ≤ xs.length
  · rw [Nat.min_eq_left hl]
  · rw [Nat.min_eq_right (by omega), List.drop_of_length_le (Nat.le_refl _), List.drop_of_length_le (by omega)]
/-! ### the pot of a law's draws -/
def PotAt (H : Hp) (a : Addr) (c : Nat) : Prop := ∃ p0 p1 p2 : Int, H a = some (.lst [.int p0, .int p1, .int p2]) ∧ 0 ≤ p0 ∧ 0 ≤ p1 ∧ p1 < 2 ^ 128 ∧ 0 ≤ p2 ∧ p2 ≤ (c : Int)
theorem PotAt.mono {H : Hp} {a : Addr} {c c' : Nat} (h : PotAt H a c) (l : c ≤ c') : PotAt H a c' := by
  obtain ⟨p0, p1, p2, h1, h2, h3, h4, h5, h6⟩ := h
  exact ⟨p0, p1, p2, h1, h2, h3, h4, h5, by omega⟩
theorem PotAt.keep {H H' : Hp} {a : Addr} {c : Nat} (h : PotAt H a c) (k : ∀ o, H a = some o → H' a = some o) : PotAt H' a c := by
  obtain ⟨p0, p1, p2, h1, h2⟩ := h
  exact ⟨p0, p1, p2, k _ h1, h2⟩
theorem PotAt.upd {H : Hp} {a p : Addr} {c : Nat} {o : HO} (h : PotAt H a c) (n : a ≠ p) : PotAt (upd H p o) a c := h.keep fun _ e => by rw [upd_ne n]; exact e
theorem PotAt.ne {H : Hp} {a p : Addr} {c : Nat} (h : PotAt H a c) (n : H p = none) : a ≠ p := by
  obtain ⟨p0, p1, p2, h1, h2⟩ := h
  exact ne_of_none h1 n
theorem PotAt.step0 {H H' : Hp} {a : Addr} {c : Nat} (h : PotAt H a c) (x : Step [] H H') : PotAt H' a c := h.keep fun _ e => x.at0 e
theorem PotAt.step1 {H H' : Hp} {a b : Addr} {c : Nat} (h : PotAt H a c) (x : Step [b] H H') (n : a ≠ b) : PotAt H' a c := h.keep fun _ e => x.at1 e n
theorem ltLine {n : Nat} (h : n ≤ 100000) : n < sizeLine := Nat.lt_of_le_of_lt h (by decide)
theorem leLine {n : Nat} (h : n ≤ 100000) : n ≤ sizeLine := Nat.le_of_lt (ltLine h)
/-! names and single signs -/
abbrev cs (z : Str) : List Nat := z.cps.toList
theorem cs_len (z : Str) : (cs z).length = z.length := by simp [cs, Str.length]
theorem cs_inj {a b : Str} (h : cs a = cs b) : a = b := by
  obtain ⟨x⟩ := a
  obtain ⟨y⟩ := b
  have : x.toList = y.toList := h
  rw [Array.toList_inj] at this
  rw [this]
theorem cs_add (a b : Str) : cs (a ++ b) = cs a ++ cs b := by
  show ((a.cps ++ b.cps)).toList = _
  simp
theorem cs_cut (z : Str) (lo hi : Option Int) : cs (cutS z lo hi) = ((cs z).drop (HT.sIx z.length 0 lo)).take (HT.sIx z.length z.length hi - HT.sIx z.length 0 lo) := by
  unfold cutS cs
  simp
theorem cs_join0 : ∀ ys : List Str, cs (Str.join ("" : Str) ys) = (ys.map cs).flatten
  | [] => rfl
  | [x] => by simp [Str.join]
  | x :: y :: r => by
    show cs (x ++ ("" : Str) ++ Str.join ("" : Str) (y :: r)) = _
    have e : cs ("" : Str) = [] := by decide +kernel
    rw [cs_add, cs_add, e, cs_join0 (y :: r)]
    simp
def isLow (c : Nat) : Prop := 97 ≤ c ∧ c ≤ 122
structure IsNm (z : Str) : Prop where
  lo : 1 ≤ z.length
  hi : z.length ≤ 8
  low : ∀ c ∈ cs z, isLow c
theorem letters_low : ∀ c ∈ cs ("abcdefghijklmnopqrstuvwxyz" : Str), isLow c := by
  unfold isLow
  decide +kernel
theorem letters_len : (cs ("abcdefghijklmnopqrstuvwxyz" : Str)).length = 26 := by decide +kernel
theorem letters_line : ("abcdefghijklmnopqrstuvwxyz" : Str).length ≤ sizeLine := by decide +kernel
theorem letter_at {i : Int} (h0 : 0 ≤ i) (h1 : i < 26) : ∃ c, isLow c ∧ atI (cs ("abcdefghijklmnopqrstuvwxyz" : Str)) i = some c := by
  have l : i.toNat < (cs ("abcdefghijklmnopqrstuvwxyz" : Str)).length := by rw [letters_len]; omega
  refine ⟨(cs ("abcdefghijklmnopqrstuvwxyz" : Str))[i.toNat], letters_low _ (List.getElem_mem l), ?_⟩
  have e : i = ((i.toNat : Nat) : Int) := by omega
  conv => lhs; rw [e]
  exact atI_nat (List.getElem?_eq_getElem l)
/-- a list of single signs -/
theorem signs_flat : ∀ {ss : List Str}, (∀ s ∈ ss, ∃ c, s = ⟨#[c]⟩ ∧ isLow c) → (∀ c ∈ (ss.map cs).flatten, isLow c) ∧ ((ss.map cs).flatten).length = ss.length ∧ (ss.map (·.length)).sum = ss.length
  | [], _ => ⟨by simp, rfl, rfl⟩
  | s :: r, h => by
    obtain ⟨c, rfl, hc⟩ := h s (List.mem_cons_self ..)
    obtain ⟨h1, h2, h3⟩ := signs_flat (ss := r) fun s hs => h s (List.mem_cons_of_mem _ hs)
    refine ⟨fun d hd => ?_, ?_, ?_⟩
    · rw [List.map_cons, List.flatten_cons] at hd
      rcases List.mem_append.mp hd with hd | hd
      · have : d = c := by simpa [cs] using hd
        rw [this]; exact hc
      · exact h1 d hd
    · rw [List.map_cons, List.flatten_cons, List.length_append, h2]
      simp [cs]; omega
    · rw [List.map_cons, List.sum_cons, h3]
      simp [Str.length]; omega
theorem nm_of_signs {ss : List Str} (h : ∀ s ∈ ss, ∃ c, s = ⟨#[c]⟩ ∧ isLow c) (h1 : 1 ≤ ss.length) (h2 : ss.length ≤ 8) : IsNm (Str.join ("" : Str) ss) := by
  obtain ⟨e1, e2, e3⟩ := signs_flat h
  have l : (Str.join ("" : Str) ss).length = ss.length := by rw [← cs_len, cs_join0, e2]
  exact ⟨by omega, by omega, by rw [cs_join0]; exact e1⟩
theorem mem_cut {z : Str} {lo hi : Option Int} {c : Nat} (h : c ∈ cs (cutS z lo hi)) : c ∈ cs z := by
  rw [cs_cut] at h
  exact List.mem_of_mem_drop (List.mem_of_mem_take h)
theorem len_add (a b : Str) : (a ++ b).length = a.length + b.length := by rw [← cs_len, ← cs_len, ← cs_len, cs_add, List.length_append]
theorem len_cut_le (z : Str) (lo hi : Option Int) : (cutS z lo hi).length ≤ z.length := by
  rw [← cs_len, ← cs_len, cs_cut, List.length_take, List.length_drop]
  omega
theorem len_cut_to (z : Str) {k : Int} (h : 0 ≤ k) : (cutS z none (some k)).length = min k.toNat z.length := by
  rw [← cs_len, cs_cut, List.length_take, List.length_drop, cs_len]
  show min ((if k < 0 then (k + (z.length : Int)).toNat else min k.toNat z.length) - 0) (z.length - 0) = _
  rw [if_neg (by omega)]
  omega
theorem len_one {c : Nat} : (⟨#[c]⟩ : Str).length = 1 := rfl
/-- a name with one letter put in or exchanged -/
theorem nm_turn {old : Str} {lo hi : Option Int} {k : Int} {c : Nat} (h : IsNm old) (hc : isLow c) (h8 : k = 8) : IsNm (cutS (cutS old none lo ++ (⟨#[c]⟩ : Str) ++ cutS old hi none) none (some k)) := by
  subst h8
  have l : (cutS (cutS old none lo ++ (⟨#[c]⟩ : Str) ++ cutS old hi none) none (some 8)).length = min 8 (cutS old none lo ++ (⟨#[c]⟩ : Str) ++ cutS old hi none).length := len_cut_to _ (by decide)
  have l2 : (cutS old none lo ++ (⟨#[c]⟩ : Str) ++ cutS old hi none).length = (cutS old none lo).length + 1 + (cutS old hi none).length := by rw [len_add, len_add, len_one]
  refine ⟨by omega, by omega, fun d hd => ?_⟩
  have hd := mem_cut hd
  rw [cs_add, cs_add] at hd
  rcases List.mem_append.mp hd with hd | hd
  · rcases List.mem_append.mp hd with hd | hd
    · exact h.low d (mem_cut hd)
    · have : d = c := by simpa [cs] using hd
      rw [this]; exact hc
  · exact h.low d (mem_cut hd)
theorem at4 {x0 x1 x2 x3 j : Int} (h0 : 0 ≤ j) (h1 : j < 4) : ∃ m : Int, (m = x0 ∨ m = x1 ∨ m = x2 ∨ m = x3) ∧ atI [V.int x0, V.int x1, V.int x2, V.int x3] j = some (.int m) := by
  have : j = 0 ∨ j = 1 ∨ j = 2 ∨ j = 3 := by omega
  rcases this with rfl | rfl | rfl | rfl
  · exact ⟨x0, by simp, rfl⟩
  · exact ⟨x1, by simp, rfl⟩
  · exact ⟨x2, by simp, rfl⟩
  · exact ⟨x3, by simp, rfl⟩
end My
/-! Kit3: going through a reading, head by head. -/
namespace My
open PySem PySem.Spec PyProof.Rows L2
section
variable {K : PySem.W.Frag} {σ : L2.St} {H H1 : Hp} {Q : VK} {ta tb te tc : TE} {tA tB' : TT} {t u : TS} {nx bk ct : L2.St → Hp → Prop} {rt : VK} {v x y : V} {i j : Int} {xs ys : List V} {QT : Bool → Hp → Prop} {QA : List V → Hp → Prop} {tr : TA}
theorem g_seq (h : t ⟨u ⟨nx, rt, bk, ct⟩, rt, bk, ct⟩ σ H) : tSeq t u ⟨nx, rt, bk, ct⟩ σ H := h
theorem g_next (h : nx σ H) : tNext ⟨nx, rt, bk, ct⟩ σ H := h
theorem g_break (h : bk σ H) : tBreak ⟨nx, rt, bk, ct⟩ σ H := h
theorem g_cont (h : ct σ H) : tCont ⟨nx, rt, bk, ct⟩ σ H := h
theorem g_ret (h : te σ H rt) : tRet te ⟨nx, rt, bk, ct⟩ σ H := h
theorem g_retN (h : rt .non H) : tRetN ⟨nx, rt, bk, ct⟩ σ H := h
theorem g_drop (h : te σ H (fun _ H1 => nx σ H1)) : tDrop te ⟨nx, rt, bk, ct⟩ σ H := h
theorem g_set {k : Nat} (h : te σ H (fun x H1 => nx (σ.set k (some x)) H1)) : tAsg te (gName k) ⟨nx, rt, bk, ct⟩ σ H := h
theorem g_asg {g : TG} (h : te σ H (fun x H1 => g x σ H1 nx)) : tAsg te g ⟨nx, rt, bk, ct⟩ σ H := h
theorem g_name {k : Nat} {Q : L2.St → Hp → Prop} (h : Q (σ.set k (some x)) H) : gName k x σ H Q := h
theorem g_if (h : tA σ H (fun b H1 => if b = true then t ⟨nx, rt, bk, ct⟩ σ H1 else u ⟨nx, rt, bk, ct⟩ σ H1)) : tIfS tA t u ⟨nx, rt, bk, ct⟩ σ H := h
theorem g_ifE (h : tA σ H (fun b H1 => if b = true then ta σ H1 Q else tb σ H1 Q)) : tIf tA ta tb σ H Q := h
theorem g_op {r : R2} (h : ta σ H (fun x H1 => tb σ H1 (fun y H2 => r x y H2 Q))) : tOp r ta tb σ H Q := h
theorem g_un {r : V → Hp → VK → Prop} (h : ta σ H (fun x H1 => r x H1 Q)) : tUn r ta σ H Q := h
theorem g_var {k : Nat} (h : σ[k]? = some (some v)) (q : Q v H) : tVar k σ H Q := ⟨v, h, q⟩
theorem g_c (q : Q v H) : tC v σ H Q := q
theorem g_nil (q : QA [] H) : tNil σ H QA := q
theorem g_cons (h : ta σ H (fun x H1 => tr σ H1 (fun xs H2 => QA (x :: xs) H2))) : tCons ta tr σ H QA := h
theorem g_CB {r : List V → Hp → VK → Prop} (h : tr σ H (fun vs H1 => r vs H1 Q)) : tCB r tr σ H Q := h
theorem g_call {sp : Sp} {E : XK} (h : tr σ H (fun vs H1 => sp vs H1 Q E)) : tCall sp [] E tr σ H Q := by
  have e : (fun (vs : List V) (H1 : Hp) => sp (vs ++ []) H1 Q E) = fun vs H1 => sp vs H1 Q E := by
    funext vs H1
    rw [List.append_nil]
  show tr σ H (fun vs H1 => sp (vs ++ []) H1 Q E)
  rw [e]
  exact h
/-- a bool comes -/
def kB (Q : Bool → Hp → Prop) : VK := fun x H' => ∃ k, x = .bl k ∧ Q k H'
theorem g_kB {b : Bool} (q : QT b H) : kB QT (.bl b) H := ⟨b, rfl, q⟩
theorem g_test (h : te σ H (kB QT)) : tTest te σ H QT := h
theorem g_B (h : te σ H (kB QT)) : tB te σ H QT := h
theorem g_and (h : tA σ H (fun c H1 => if c = true then tB' σ H1 QT else QT false H1)) : tAnd tA tB' σ H QT := h
theorem g_or (h : tA σ H (fun c H1 => if c = true then QT true H1 else tB' σ H1 QT)) : tOr tA tB' σ H QT := h
theorem g_not (h : tA σ H (fun c H1 => QT (!c) H1)) : tNot tA σ H QT := h
def kAnd (tb : TE) (σ : L2.St) (Q : VK) : VK := fun x H1 => ∃ c, x = .bl c ∧ if c = true then tb σ H1 Q else Q (.bl false) H1
def kOr (tb : TE) (σ : L2.St) (Q : VK) : VK := fun x H1 => ∃ c, x = .bl c ∧ if c = true then Q (.bl true) H1 else tb σ H1 Q
theorem g_andV (h : ta σ H (kAnd tb σ Q)) : tAndV ta tb σ H Q := h
theorem g_orV (h : ta σ H (kOr tb σ Q)) : tOrV ta tb σ H Q := h
theorem g_kAnd {c : Bool} (h : if c = true then tb σ H Q else Q (.bl false) H) : kAnd tb σ Q (.bl c) H := ⟨c, rfl, h⟩
theorem g_kOr {c : Bool} (h : if c = true then Q (.bl true) H else tb σ H Q) : kOr tb σ Q (.bl c) H := ⟨c, rfl, h⟩
def kNot (Q : VK) : VK := fun x H1 => ∃ c, x = .bl c ∧ Q (.bl (!c)) H1
theorem g_notV (h : ta σ H (kNot Q)) : tNotV ta σ H Q := h
theorem g_kNot {c : Bool} (h : Q (.bl (!c)) H) : kNot Q (.bl c) H := ⟨c, rfl, h⟩
theorem g_I0 {g : Int → Int → V} (q : Q (g i j) H) : rI0 g (.int i) (.int j) H Q := ⟨i, j, rfl, rfl, q⟩
theorem g_I {C : Int → Int → Prop} {g : Int → Int → V} (c : C i j) (q : Q (g i j) H) : L2.rI C g (.int i) (.int j) H Q := ⟨i, j, rfl, rfl, c, q⟩
theorem g_U {g : Int → V} (q : Q (g i) H) : rU g (.int i) H Q := ⟨i, rfl, q⟩
theorem g_eq (s : scal x y = true) (q : Q (.bl (decide (x = y))) H) : rEq x y H Q := ⟨s, q⟩
theorem g_ne (s : scal x y = true) (q : Q (.bl (!decide (x = y))) H) : rNe x y H Q := ⟨s, q⟩
theorem g_eqI (q : Q (.bl (decide (i = j))) H) : rEq (.int i) (.int j) H Q := ⟨rfl, by
  have e : decide (V.int i = V.int j) = decide (i = j) := by by_cases h : i = j <;> simp [h]
  rw [e]
  exact q⟩
theorem g_neI (q : Q (.bl (!decide (i = j))) H) : rNe (.int i) (.int j) H Q := ⟨rfl, by
  have e : decide (V.int i = V.int j) = decide (i = j) := by by_cases h : i = j <;> simp [h]
  rw [e]
  exact q⟩
theorem g_eqS {a b : Str} (q : Q (.bl (decide (a = b))) H) : rEq (.str a) (.str b) H Q := ⟨rfl, by
  have e : decide (V.str a = V.str b) = decide (a = b) := by by_cases h : a = b <;> simp [h]
  rw [e]
  exact q⟩
theorem g_neS {a b : Str} (q : Q (.bl (!decide (a = b))) H) : rNe (.str a) (.str b) H Q := ⟨rfl, by
  have e : decide (V.str a = V.str b) = decide (a = b) := by by_cases h : a = b <;> simp [h]
  rw [e]
  exact q⟩
theorem g_ite {p : Prop} [Decidable p] {A B : Prop} (h1 : p → A) (h2 : ¬ p → B) : if decide p = true then A else B := by
  by_cases h : p
  · rw [if_pos (decide_eq_true h)]; exact h1 h
  · rw [if_neg (by simp [h])]; exact h2 h
theorem g_iteN {p : Prop} [Decidable p] {A B : Prop} (h1 : ¬ p → A) (h2 : p → B) : if (!decide p) = true then A else B := by
  by_cases h : p
  · rw [if_neg (by simp [h])]; exact h2 h
  · rw [if_pos (by simp [h])]; exact h1 h
theorem g_iteB {b : Bool} {A B : Prop} (h1 : b = true → A) (h2 : b = false → B) : if b = true then A else B := by
  cases b with
  | true => exact iteT (h1 rfl)
  | false => exact iteF (h2 rfl)
theorem g_iteNB {b : Bool} {A B : Prop} (h1 : b = false → A) (h2 : b = true → B) : if (!b) = true then A else B := by
  cases b with
  | false => exact iteT (h1 rfl)
  | true => exact iteF (h2 rfl)
/-! displays -/
def kLst (Q : VK) : List V → Hp → Prop := fun xs H1 => xs.length ≤ sizeLine ∧ ∀ p, H1 p = none → Q (.ref p) (upd H1 p (.lst xs))
def kTup (Q : VK) : List V → Hp → Prop := fun xs H1 => xs.length ≤ sizeLine ∧ ∀ p, H1 p = none → Q (.ref p) (upd H1 p (.tup xs))
theorem g_lst (h : tr σ H (kLst Q)) : tLst tr σ H Q := h
theorem g_tup (h : tr σ H (kTup Q)) : tTup tr σ H Q := h
theorem g_kLst (hl : xs.length ≤ sizeLine) (q : ∀ p H2, H p = none → Step [] H H2 → H2 p = some (.lst xs) → Q (.ref p) H2) : kLst Q xs H := ⟨hl, fun p hp => q p _ hp (Step.new hp) upd_same⟩
theorem g_kTup (hl : xs.length ≤ sizeLine) (q : ∀ p H2, H p = none → Step [] H H2 → H2 p = some (.tup xs) → Q (.ref p) H2) : kTup Q xs H := ⟨hl, fun p hp => q p _ hp (Step.new hp) upd_same⟩
theorem g_dnewK (q : ∀ p H2, H p = none → Step [] H H2 → H2 p = some (.dK []) → Q (.ref p) H2) : tDNewK σ H Q := fun p hp => q p _ hp (Step.new hp) upd_same
/-! items -/
theorem g_ixL {p : Addr} (h : H p = some (.lst xs)) (e : atI xs i = some v) (q : Q v H) : rIxL K (.ref p) (.int i) H Q := ⟨p, xs, i, v, rfl, rfl, SqL.of h, e, q⟩
theorem g_ixLK {p : Addr} (h : SqL K H p xs) (e : atI xs i = some v) (q : Q v H) : rIxL K (.ref p) (.int i) H Q := ⟨p, xs, i, v, rfl, rfl, h, e, q⟩
theorem g_ixT {p : Addr} (h : H p = some (.tup xs)) (e : atI xs i = some v) (q : Q v H) : rIxT K (.ref p) (.int i) H Q := ⟨p, xs, i, v, rfl, rfl, SqT.of h, e, q⟩
theorem g_ixS {z : Str} {c : Nat} (hl : z.length ≤ sizeLine) (e : atI z.cps.toList i = some c) (q : Q (.str ⟨#[c]⟩) H) : rIxS (.str z) (.int i) H Q := ⟨z, i, c, rfl, rfl, hl, e, q⟩
theorem at_nat {α : Type} {xs : List α} {k : Nat} {v : α} (h : xs[k]? = some v) : atI xs (k : Int) = some v := atI_nat h
theorem at_int {α : Type} {xs : List α} {i : Int} {v : α} (h0 : 0 ≤ i) (h : xs[i.toNat]? = some v) : atI xs i = some v := by
  have e : i = ((i.toNat : Nat) : Int) := by omega
  rw [e]
  exact atI_nat h
theorem at_in {α : Type} {xs : List α} {i : Int} (h0 : 0 ≤ i) (h : i < (xs.length : Int)) : ∃ v, xs[i.toNat]? = some v ∧ atI xs i = some v := by
  have l : i.toNat < xs.length := by omega
  exact ⟨xs[i.toNat], List.getElem?_eq_getElem l, at_int h0 (List.getElem?_eq_getElem l)⟩
theorem ixN_in {n : Nat} {i : Int} (h0 : 0 ≤ i) (h : i < (n : Int)) : ixN n i = some i.toNat := by
  unfold ixN
  rw [if_pos h0, if_pos h]
theorem seqIx_in {n : Nat} {i : Int} (h0 : 0 ≤ i) (h : i < (n : Int)) : seqIndex? i n = some i.toNat := (ixN_seq (ixN_in h0 h)).1
/-- o[i] = v, the list of a name -/
theorem g_gsub {ts : TSet} {Q : L2.St → Hp → Prop} (h : ta σ H (fun o H1 => tb σ H1 (fun k H2 => ts o k v H2 (fun H3 => Q σ H3)))) : gSub ta tb ts v σ H Q := h
theorem g_setL {p : Addr} {k : Nat} {QH : Hp → Prop} (h : H p = some (.lst xs)) (e : ixN xs.length i = some k) (q : ∀ H2, Step [p] H H2 → H2 p = some (.lst (xs.set k v)) → QH H2) : rSetL (.ref p) (.int i) v H QH :=
  ⟨p, xs, i, k, rfl, rfl, h, e, q _ ((Step.refl [p] H).wr (List.mem_singleton.mpr rfl)) upd_same⟩
/-! methods of lists -/
theorem g_bmL {p : Addr} {r : V → List V → Hp → VK → Prop} (h : H p = some (.lst xs)) (q : tr σ H (fun vs H2 => r (.ref p) vs H2 Q)) (hv : ta σ H (fun x H1 => x = .ref p ∧ H1 = H) → True := fun _ => trivial) (e : ∀ Q', Q' (.ref p) H → ta σ H Q') : tBM K "list" r ta tr σ H Q := by
  refine e _ ⟨.inl ⟨rfl, xs, SqL.of h⟩, q⟩
def kBM (K : PySem.W.Frag) (T : String) (r : V → List V → Hp → VK → Prop) (tr : TA) (σ : L2.St) (Q : VK) : VK := fun x H1 => tyV K T x H1 ∧ tr σ H1 (fun vs H2 => r x vs H2 Q)
theorem g_bm {T : String} {r : V → List V → Hp → VK → Prop} (h : ta σ H (kBM K T r tr σ Q)) : tBM K T r ta tr σ H Q := h
theorem g_kBM {p : Addr} {r : V → List V → Hp → VK → Prop} (h : H p = some (.lst xs)) (q : tr σ H (fun vs H2 => r (.ref p) vs H2 Q)) : kBM K "list" r tr σ Q (.ref p) H := ⟨.inl ⟨rfl, xs, SqL.of h⟩, q⟩
theorem g_append {p : Addr} (h : H p = some (.lst xs)) (hz : xs.length < sizeLine) (q : ∀ H2, Step [p] H H2 → H2 p = some (.lst (xs ++ [y])) → Q .non H2) : rAppend (.ref p) [y] H Q :=
  ⟨p, xs, y, rfl, rfl, h, hz, q _ ((Step.refl [p] H).wr (List.mem_singleton.mpr rfl)) upd_same⟩
theorem g_extend {p b : Addr} (h : H p = some (.lst xs)) (h2 : H b = some (.lst ys)) (hz : xs.length + ys.length ≤ sizeLine) (q : ∀ H2, Step [p] H H2 → H2 p = some (.lst (xs ++ ys)) → Q .non H2) : rExtend (.ref p) [.ref b] H Q :=
  ⟨p, b, xs, ys, rfl, rfl, h, h2, hz, q _ ((Step.refl [p] H).wr (List.mem_singleton.mpr rfl)) upd_same⟩
theorem g_popAt {p : Addr} {k : Nat} (h : H p = some (.lst xs)) (h0 : -(2 ^ 63) ≤ i) (h1 : i < 2 ^ 63) (e : seqIndex? i xs.length = some k) (ey : xs[k]? = some y) (q : ∀ H2, Step [p] H H2 → H2 p = some (.lst (xs.eraseIdx k)) → Q y H2) : rPopAt (.ref p) [.int i] H Q :=
  ⟨p, xs, i, k, y, rfl, rfl, h, h0, h1, e, ey, q _ ((Step.refl [p] H).wr (List.mem_singleton.mpr rfl)) upd_same⟩
/-! slices -/
theorem g_sl {r : V → Option Int → Option Int → Hp → VK → Prop} {tl th : TO} (h : ta σ H (fun x H1 => tl σ H1 (fun l H2 => th σ H2 (fun u H3 => r x l u H3 Q)))) : tSl r ta tl th σ H Q := h
def kI (Q : Option Int → Hp → Prop) : VK := fun x H1 => ∃ i, x = .int i ∧ Q (some i) H1
theorem g_part {Q : Option Int → Hp → Prop} (h : ta σ H (kI Q)) : tPart ta σ H Q := h
theorem g_kI {Q : Option Int → Hp → Prop} (h : Q (some i) H) : kI Q (.int i) H := ⟨i, rfl, h⟩
theorem g_noPart {Q : Option Int → Hp → Prop} (h : Q none H) : tNoPart σ H Q := h
theorem g_slL {p : Addr} {lo hi : Option Int} (h : H p = some (.lst xs)) (q : ∀ p' H2, H p' = none → Step [] H H2 → H2 p' = some (.lst (cutV xs lo hi)) → Q (.ref p') H2) : rSlL K (.ref p) lo hi H Q := ⟨p, xs, rfl, SqL.of h, fun p' hp => q p' _ hp (Step.new hp) upd_same⟩
theorem g_slS {z : Str} {lo hi : Option Int} (hl : z.length ≤ sizeLine) (q : Q (.str (cutS z lo hi)) H) : rSlS (.str z) lo hi H Q := ⟨z, rfl, hl, q⟩
theorem g_cat {p b : Addr} (h : H p = some (.lst xs)) (h2 : H b = some (.lst ys)) (hz : xs.length + ys.length ≤ sizeLine) (q : ∀ p' H2, H p' = none → Step [] H H2 → H2 p' = some (.lst (xs ++ ys)) → Q (.ref p') H2) : rCat (.ref p) (.ref b) H Q :=
  ⟨p, b, xs, ys, rfl, rfl, h, h2, hz, fun p' hp => q p' _ hp (Step.new hp) upd_same⟩
theorem g_inL {p : Addr} {neg : Bool} (h : H p = some (.lst xs)) (fx : flatV x = true) (fs : xs.all flatV = true) (q : Q (.bl (if neg then !inV x xs else inV x xs)) H) : rIn K neg x (.ref p) H Q := ⟨p, xs, rfl, .inl (SqL.of h), fx, fs, q⟩
theorem g_inT {p : Addr} {neg : Bool} (h : H p = some (.tup xs)) (fx : flatV x = true) (fs : xs.all flatV = true) (q : Q (.bl (if neg then !inV x xs else inV x xs)) H) : rIn K neg x (.ref p) H Q := ⟨p, xs, rfl, .inr (SqT.of h), fx, fs, q⟩
/-- text in a list of texts -/
theorem inV_str (z : Str) (ss : List Str) : inV (.str z) (ss.map V.str) = decide (z ∈ ss) := by
  induction ss with
  | nil => rfl
  | cons a r ih =>
    have e : inV (.str z) ((a :: r).map V.str) = (eqV (.str a) (.str z) || inV (.str z) (r.map V.str)) := rfl
    have e2 : eqV (.str a) (.str z) = decide (a = z) := by
      show decide (a = z) = _
      rfl
    rw [e, ih, e2]
    by_cases h : z = a
    · subst h; simp
    · have h2 : ¬ a = z := fun q => h q.symm
      simp [h, h2]
theorem flat_strs (ss : List Str) : (ss.map V.str).all flatV = true := by
  rw [List.all_eq_true]
  intro x hx
  obtain ⟨s, _, rfl⟩ := List.mem_map.mp hx
  rfl
theorem g_inS {p : Addr} {z : Str} {ss : List Str} (h : H p = some (.lst (ss.map V.str))) (q : Q (.bl (decide (z ∈ ss))) H) : rIn K false (.str z) (.ref p) H Q := g_inL h rfl (flat_strs ss) (by
  rw [inV_str]
  exact q)
theorem g_notInS {p : Addr} {z : Str} {ss : List Str} (h : H p = some (.lst (ss.map V.str))) (q : Q (.bl (!decide (z ∈ ss))) H) : rIn K true (.str z) (.ref p) H Q := g_inL h rfl (flat_strs ss) (by
  rw [inV_str]
  exact q)
/-! dicts -/
def kDGet (Q : VK) (x : V) : VK := fun y H2 => ∃ a v, x = .ref a ∧ DGet H2 a y (some v) ∧ Q v H2
theorem g_dget (h : ta σ H (fun x H1 => tb σ H1 (kDGet Q x))) : tDGet ta tb σ H Q := h
theorem g_kDGet {p : Addr} {kvs : List (Key × V)} (h : Rd H p (.dK kvs)) (e : valV kvs (Sum.inl i) = some v) (q : Q v H) : kDGet Q (.ref p) (.int i) H := ⟨p, v, rfl, .inl ⟨kvs, Sum.inl i, h, rfl, e.symm⟩, q⟩
theorem g_kDGetS {p : Addr} {kvs : List (Key × V)} {z : Str} (h : Rd H p (.dK kvs)) (e : valV kvs (Sum.inr z) = some v) (q : Q v H) : kDGet Q (.ref p) (.str z) H := ⟨p, v, rfl, .inl ⟨kvs, Sum.inr z, h, rfl, e.symm⟩, q⟩
def kDIn (Q : VK) (y : V) : VK := fun x H2 => ∃ a o, x = .ref a ∧ DGet H2 a y o ∧ Q (.bl o.isSome) H2
def kDNotIn (Q : VK) (y : V) : VK := fun x H2 => ∃ a o, x = .ref a ∧ DGet H2 a y o ∧ Q (.bl (!o.isSome)) H2
theorem g_din (h : ta σ H (fun y H1 => tb σ H1 (kDIn Q y))) : tDIn ta tb σ H Q := h
theorem g_dnotin (h : ta σ H (fun y H1 => tb σ H1 (kDNotIn Q y))) : tDNotIn ta tb σ H Q := h
theorem g_kDIn {p : Addr} {kvs : List (Key × V)} (h : Rd H p (.dK kvs)) (q : Q (.bl (valV kvs (Sum.inl i)).isSome) H) : kDIn Q (.int i) (.ref p) H := ⟨p, _, rfl, .inl ⟨kvs, Sum.inl i, h, rfl, rfl⟩, q⟩
theorem g_kDNotIn {p : Addr} {kvs : List (Key × V)} (h : Rd H p (.dK kvs)) (q : Q (.bl (!(valV kvs (Sum.inl i)).isSome)) H) : kDNotIn Q (.int i) (.ref p) H := ⟨p, _, rfl, .inl ⟨kvs, Sum.inl i, h, rfl, rfl⟩, q⟩
theorem g_kDInS {p : Addr} {kvs : List (Key × V)} {z : Str} (h : Rd H p (.dK kvs)) (q : Q (.bl (valV kvs (Sum.inr z)).isSome) H) : kDIn Q (.str z) (.ref p) H := ⟨p, _, rfl, .inl ⟨kvs, Sum.inr z, h, rfl, rfl⟩, q⟩
theorem g_kDNotInS {p : Addr} {kvs : List (Key × V)} {z : Str} (h : Rd H p (.dK kvs)) (q : Q (.bl (!(valV kvs (Sum.inr z)).isSome)) H) : kDNotIn Q (.str z) (.ref p) H := ⟨p, _, rfl, .inl ⟨kvs, Sum.inr z, h, rfl, rfl⟩, q⟩
/-- d[k] = v -/
def kDPut (nx : L2.St → Hp → Prop) (σ : L2.St) (v x : V) : VK := fun y H3 => ∃ a H4, x = .ref a ∧ DPut H3 a y v H4 ∧ nx σ H4
theorem g_dput (h : tc σ H (fun v H1 => ta σ H1 (fun x H2 => tb σ H2 (kDPut nx σ v x)))) : sDPut ta tb tc ⟨nx, rt, bk, ct⟩ σ H := h
theorem g_kDPut {p : Addr} {kvs : List (Key × V)} (h : H p = some (.dK kvs)) (hl : kvs.length < sizeLine) (q : ∀ H2, Step [p] H H2 → H2 p = some (.dK (putK kvs (Sum.inl i) v)) → nx σ H2) : kDPut nx σ v (.ref p) (.int i) H :=
  ⟨p, _, rfl, DPut.k (k := Sum.inl i) h hl, q _ ((Step.refl [p] H).wr (List.mem_singleton.mpr rfl)) upd_same⟩
theorem g_kDPutS {p : Addr} {kvs : List (Key × V)} {z : Str} (h : H p = some (.dK kvs)) (hl : kvs.length < sizeLine) (q : ∀ H2, Step [p] H H2 → H2 p = some (.dK (putK kvs (Sum.inr z) v)) → nx σ H2) : kDPut nx σ v (.ref p) (.str z) H :=
  ⟨p, _, rfl, DPut.k (k := Sum.inr z) h hl, q _ ((Step.refl [p] H).wr (List.mem_singleton.mpr rfl)) upd_same⟩
/-! texts' methods -/
def kM1 (r : V → List V → Hp → VK → Prop) (te : TE) (σ : L2.St) (Q : VK) : VK := fun x H1 => (∃ a, x = .str a) ∧ te σ H1 (fun y H2 => r x [y] H2 Q)
theorem g_m1 {r : V → List V → Hp → VK → Prop} (h : ta σ H (kM1 r te σ Q)) : tM1 r ta te σ H Q := h
theorem g_kM1 {r : V → List V → Hp → VK → Prop} {z : Str} (h : te σ H (fun y H2 => r (.str z) [y] H2 Q)) : kM1 r te σ Q (.str z) H := ⟨⟨z, rfl⟩, h⟩
end
/-! loops: an invariant by the turn, the slots, the heap -/
theorem Step.back {m : List Addr} {H H1 : Hp} {d : Addr} (x : Step (d :: m) H H1) (e : ∀ o, H d = some o → H1 d = some o) : Step m H H1 := ⟨fun b o n h => by
  by_cases hb : b = d
  · subst hb; exact e o h
  · exact x.keep b o (fun z => (List.mem_cons.mp z).elim hb n) h, x.live⟩
section
variable {K : PySem.W.Frag} {σ : L2.St} {H : Hp} {Q : VK} {tl td : TE} {t : TS} {nx bk ct : L2.St → Hp → Prop} {rt : VK} {tr : TA} {g : TG} {tt : TT} {te tk tv : TE} {ws : List Nat}
/-- the loop itself, whatever is walked -/
def wFor (J : It) (g : TG) (t : TS) (D : Ends) (σ : L2.St) (H : Hp) : Prop := ∃ W : Nat → Nat → L2.St → Hp → Prop, (∃ m, W 0 m σ H) ∧ ∀ i m σ H, W i m σ H →
  (J.stop i H ∧ D.nx σ H) ∨ (J.go i H ∧ ∃ N : L2.St → Hp → Prop, (∀ σ' H', N σ' H' → ∃ m', m' < m ∧ W (i + 1) m' σ' H') ∧ ∀ x H', J.yld i H x H' → g x σ H' fun σ2 H2 => t { D with nx := N, ct := N, bk := D.nx } σ2 H2)
theorem wFor_gen {J : It} (n : Nat) (Pv : Nat → L2.St → Hp → Prop) (h0 : Pv 0 σ H) (hg : ∀ i σ H, i < n → Pv i σ H → J.go i H) (hst : ∀ σ H, Pv n σ H → J.stop n H)
    (hs : ∀ i σ H x H', i < n → Pv i σ H → J.yld i H x H' → g x σ H' fun σ2 H2 => t ⟨Pv (i + 1), rt, nx, Pv (i + 1)⟩ σ2 H2) (hd : ∀ σ H, Pv n σ H → nx σ H) : wFor J g t ⟨nx, rt, bk, ct⟩ σ H := by
  refine ⟨fun i m σ H => m = n - i ∧ i ≤ n ∧ Pv i σ H, ⟨n, by simp, Nat.zero_le _, h0⟩, ?_⟩
  rintro i m σ H ⟨rfl, hi, p⟩
  by_cases hlt : i < n
  · exact .inr ⟨hg i σ H hlt p, Pv (i + 1), fun σ' H' p' => ⟨n - (i + 1), by omega, rfl, hlt, p'⟩, fun x H' y => hs i σ H x H' hlt p y⟩
  · have e : i = n := by omega
    subst e
    exact .inl ⟨hst σ H p, hd σ H p⟩
/-- a comprehension's turn -/
def kEl (D : Addr) (Nx : Hp → Prop) : VK := fun y H4 => ∃ acc, H4 D = some (.lst acc) ∧ acc.length < sizeLine ∧ Nx (upd H4 D (.lst (acc ++ [y])))
theorem g_kEl {D : Addr} {Nx : Hp → Prop} {y : V} {acc : List V} (h : H D = some (.lst acc)) (hz : acc.length < sizeLine) (q : ∀ H5, Step [D] H H5 → H5 D = some (.lst (acc ++ [y])) → Nx H5) : kEl D Nx y H :=
  ⟨acc, h, hz, q _ ((Step.refl [D] H).wr (List.mem_singleton.mpr rfl)) upd_same⟩
def kTst (te : TE) (σ2 : L2.St) (D : Addr) (Nx : Hp → Prop) : Bool → Hp → Prop := fun b H3 => if b = true then te σ2 H3 (kEl D Nx) else Nx H3
theorem g_kTst {D : Addr} {Nx : Hp → Prop} {b : Bool} (h : if b = true then te σ H (kEl D Nx) else Nx H) : kTst te σ D Nx b H := h
theorem g_kTstT {D : Addr} {Nx : Hp → Prop} (h : te σ H (kEl D Nx)) : kTst te σ D Nx true H := iteT h
def kTurn (tt : TT) (te : TE) (ws : List Nat) (σ : L2.St) (D : Addr) (Nx : Hp → Prop) : L2.St → Hp → Prop := fun σ2 H2 => wipe σ2 ws = wipe σ ws ∧ tt σ2 H2 (kTst te σ2 D Nx)
theorem g_kTurn {D : Addr} {Nx : Hp → Prop} {σ2 : L2.St} (e : wipe σ2 ws = wipe σ ws) (h : tt σ2 H (kTst te σ2 D Nx)) : kTurn tt te ws σ D Nx σ2 H := ⟨e, h⟩
theorem g_yes {Q : Bool → Hp → Prop} (h : Q true H) : tYes σ H Q := h
def wLc (J : It) (g : TG) (tt : TT) (te : TE) (ws : List Nat) (σ : L2.St) (Q : VK) (H1 : Hp) : Prop := ∀ D, H1 D = none → ∃ W : Nat → Nat → Hp → Prop, (∃ m, W 0 m (upd H1 D (.lst []))) ∧ ∀ i m H, W i m H →
  (J.stop i H ∧ Q (.ref D) H) ∨ (J.go i H ∧ ∃ Nx : Hp → Prop, (∀ H', Nx H' → ∃ m', m' < m ∧ W (i + 1) m' H') ∧ ∀ x H', J.yld i H x H' → g x (wipe σ ws) H' (kTurn tt te ws σ D Nx))
theorem wLc_gen {J : It} (n : Nat) (q : ∀ D H2, H D = none → Step [] H H2 → H2 D = some (.lst []) → ∃ Pv : Nat → Hp → Prop, Pv 0 H2 ∧ (∀ i H, i < n → Pv i H → J.go i H) ∧ (∀ H, Pv n H → J.stop n H) ∧
    (∀ i H x H', i < n → Pv i H → J.yld i H x H' → g x (wipe σ ws) H' (kTurn tt te ws σ D (Pv (i + 1)))) ∧ (∀ H, Pv n H → Q (.ref D) H)) : wLc J g tt te ws σ Q H := by
  intro D hD
  obtain ⟨Pv, h0, hg, hst, hs, hd⟩ := q D _ hD (Step.new hD) upd_same
  refine ⟨fun i m H => m = n - i ∧ i ≤ n ∧ Pv i H, ⟨n, by simp, Nat.zero_le _, h0⟩, ?_⟩
  rintro i m H ⟨rfl, hi, p⟩
  by_cases hlt : i < n
  · exact .inr ⟨hg i H hlt p, Pv (i + 1), fun H' p' => ⟨n - (i + 1), by omega, rfl, hlt, p'⟩, fun x H' y => hs i H x H' hlt p y⟩
  · have e : i = n := by omega
    subst e
    exact .inl ⟨hst H p, hd H p⟩
/-- a dict comprehension's turn -/
def kElD (D : Addr) (Nx : Hp → Prop) (y : V) : VK := fun z H5 => ∃ kvs k, y = kV k ∧ H5 D = some (.dK kvs) ∧ kvs.length < sizeLine ∧ Nx (upd H5 D (.dK (putK kvs k z)))
theorem g_kElD {D : Addr} {Nx : Hp → Prop} {z : V} {i : Int} {kvs : List (Key × V)} (h : H D = some (.dK kvs)) (hz : kvs.length < sizeLine) (q : ∀ H5, Step [D] H H5 → H5 D = some (.dK (putK kvs (Sum.inl i) z)) → Nx H5) : kElD D Nx (.int i) z H :=
  ⟨kvs, Sum.inl i, rfl, h, hz, q _ ((Step.refl [D] H).wr (List.mem_singleton.mpr rfl)) upd_same⟩
theorem g_kElDS {D : Addr} {Nx : Hp → Prop} {z : V} {i : Str} {kvs : List (Key × V)} (h : H D = some (.dK kvs)) (hz : kvs.length < sizeLine) (q : ∀ H5, Step [D] H H5 → H5 D = some (.dK (putK kvs (Sum.inr i) z)) → Nx H5) : kElD D Nx (.str i) z H :=
  ⟨kvs, Sum.inr i, rfl, h, hz, q _ ((Step.refl [D] H).wr (List.mem_singleton.mpr rfl)) upd_same⟩
def kTstD (tk tv : TE) (σ2 : L2.St) (D : Addr) (Nx : Hp → Prop) : Bool → Hp → Prop := fun b H3 => if b = true then tk σ2 H3 (fun y H4 => tv σ2 H4 (kElD D Nx y)) else Nx H3
theorem g_kTstD {D : Addr} {Nx : Hp → Prop} {b : Bool} (h : if b = true then tk σ H (fun y H4 => tv σ H4 (kElD D Nx y)) else Nx H) : kTstD tk tv σ D Nx b H := h
theorem g_kTstDT {D : Addr} {Nx : Hp → Prop} (h : tk σ H (fun y H4 => tv σ H4 (kElD D Nx y))) : kTstD tk tv σ D Nx true H := iteT h
def kTurnD (tt : TT) (tk tv : TE) (ws : List Nat) (σ : L2.St) (D : Addr) (Nx : Hp → Prop) : L2.St → Hp → Prop := fun σ2 H2 => wipe σ2 ws = wipe σ ws ∧ tt σ2 H2 (kTstD tk tv σ2 D Nx)
theorem g_kTurnD {D : Addr} {Nx : Hp → Prop} {σ2 : L2.St} (e : wipe σ2 ws = wipe σ ws) (h : tt σ2 H (kTstD tk tv σ2 D Nx)) : kTurnD tt tk tv ws σ D Nx σ2 H := ⟨e, h⟩
def wDc (J : It) (g : TG) (tt : TT) (tk tv : TE) (ws : List Nat) (σ : L2.St) (Q : VK) (H1 : Hp) : Prop := ∀ D, H1 D = none → ∃ W : Nat → Nat → Hp → Prop, (∃ m, W 0 m (upd H1 D (.dK []))) ∧ ∀ i m H, W i m H →
  (J.stop i H ∧ Q (.ref D) H) ∨ (J.go i H ∧ ∃ Nx : Hp → Prop, (∀ H', Nx H' → ∃ m', m' < m ∧ W (i + 1) m' H') ∧ ∀ x H', J.yld i H x H' → g x (wipe σ ws) H' (kTurnD tt tk tv ws σ D Nx))
theorem wDc_gen {J : It} (n : Nat) (q : ∀ D H2, H D = none → Step [] H H2 → H2 D = some (.dK []) → ∃ Pv : Nat → Hp → Prop, Pv 0 H2 ∧ (∀ i H, i < n → Pv i H → J.go i H) ∧ (∀ H, Pv n H → J.stop n H) ∧
    (∀ i H x H', i < n → Pv i H → J.yld i H x H' → g x (wipe σ ws) H' (kTurnD tt tk tv ws σ D (Pv (i + 1)))) ∧ (∀ H, Pv n H → Q (.ref D) H)) : wDc J g tt tk tv ws σ Q H := by
  intro D hD
  obtain ⟨Pv, h0, hg, hst, hs, hd⟩ := q D _ hD (Step.new hD) upd_same
  refine ⟨fun i m H => m = n - i ∧ i ≤ n ∧ Pv i H, ⟨n, by simp, Nat.zero_le _, h0⟩, ?_⟩
  rintro i m H ⟨rfl, hi, p⟩
  by_cases hlt : i < n
  · exact .inr ⟨hg i H hlt p, Pv (i + 1), fun H' p' => ⟨n - (i + 1), by omega, rfl, hlt, p'⟩, fun x H' y => hs i H x H' hlt p y⟩
  · have e : i = n := by omega
    subst e
    exact .inl ⟨hst H p, hd H p⟩
/-- the three as one: what is to be done with a walk -/
abbrev WK := It → Hp → Prop
theorem g_for {wi : TI} (h : wi σ H (fun J H1 => wFor J g t ⟨nx, rt, bk, ct⟩ σ H1)) : tFor wi g t ⟨nx, rt, bk, ct⟩ σ H := h
theorem g_lc {wi : TI} (h : wi σ H (fun J H1 => wLc J g tt te ws σ Q H1)) : tLc wi g tt te ws σ H Q := h
theorem g_dc {wi : TI} (h : wi σ H (fun J H1 => wDc J g tt tk tv ws σ Q H1)) : tDc wi g tt tk tv ws σ H Q := h
/-! the walks -/
def kRng1 (R : WK) : List V → Hp → Prop := fun vs H1 => ∃ j : Int, vs = [.int j] ∧ -(2 ^ 62) ≤ j ∧ j < 2 ^ 62 ∧ R (Itr 0 j.toNat) H1
def kRng2 (R : WK) : List V → Hp → Prop := fun vs H1 => ∃ i j : Int, vs = [.int i, .int j] ∧ (-(2 ^ 62) ≤ i ∧ i < 2 ^ 62 ∧ -(2 ^ 62) ≤ j ∧ j < 2 ^ 62) ∧ R (Itr i (j - i).toNat) H1
theorem g_rng1 {R : WK} (h : tr σ H (kRng1 R)) : iRng1 tr σ H R := h
theorem g_rng2 {R : WK} (h : tr σ H (kRng2 R)) : iRng2 tr σ H R := h
theorem g_kRng1 {R : WK} {n : Int} (h1 : -(2 ^ 62) ≤ n) (h2 : n < 2 ^ 62) (q : R (Itr 0 n.toNat) H) : kRng1 R [.int n] H := ⟨n, rfl, h1, h2, q⟩
theorem g_kRng2 {R : WK} {i j : Int} (h1 : -(2 ^ 62) ≤ i) (h2 : i < 2 ^ 62) (h3 : -(2 ^ 62) ≤ j) (h4 : j < 2 ^ 62) (q : R (Itr i (j - i).toNat) H) : kRng2 R [.int i, .int j] H := ⟨i, j, rfl, ⟨h1, h2, h3, h4⟩, q⟩
theorem wFor_rng {k : Nat} {lo : Int} {n : Nat} (Pv : Nat → L2.St → Hp → Prop) (h0 : Pv 0 σ H) (hs : ∀ i σ H, i < n → Pv i σ H → t ⟨Pv (i + 1), rt, nx, Pv (i + 1)⟩ (σ.set k (some (.int (lo + (i : Int))))) H) (hd : ∀ σ H, Pv n σ H → nx σ H) : wFor (Itr lo n) (gName k) t ⟨nx, rt, bk, ct⟩ σ H :=
  wFor_gen n Pv h0 (fun i _ _ hi _ => hi) (fun _ _ _ => Nat.le_refl _) (fun i σ H x H' hi p y => by
    obtain ⟨e1, e2⟩ := y
    subst e1 e2
    exact hs i σ _ hi p) hd
theorem wLc_rng {k : Nat} {lo : Int} {n : Nat} (q : ∀ D H2, H D = none → Step [] H H2 → H2 D = some (.lst []) → ∃ Pv : Nat → Hp → Prop, Pv 0 H2 ∧ (∀ i H, i < n → Pv i H → kTurn tt te ws σ D (Pv (i + 1)) ((wipe σ ws).set k (some (.int (lo + (i : Int))))) H) ∧ (∀ H, Pv n H → Q (.ref D) H)) : wLc (Itr lo n) (gName k) tt te ws σ Q H :=
  wLc_gen n fun D H2 h1 h2 h3 => by
    obtain ⟨Pv, p0, hs, hd⟩ := q D H2 h1 h2 h3
    refine ⟨Pv, p0, fun i _ hi _ => hi, fun _ _ => Nat.le_refl _, fun i H x H' hi p y => ?_, hd⟩
    obtain ⟨e1, e2⟩ := y
    subst e1 e2
    exact hs i _ hi p
def kList (K : PySem.W.Frag) (R : WK) : VK := fun x H1 => ∃ a, x = .ref a ∧ (∃ xs, SqL K H1 a xs) ∧ R (Itl K a) H1
theorem g_list {R : WK} (h : tl σ H (kList K R)) : iList K tl σ H R := h
theorem g_kList {R : WK} {a : Addr} {xs : List V} (h : H a = some (.lst xs)) (q : R (Itl K a) H) : kList K R (.ref a) H := ⟨a, rfl, ⟨xs, SqL.of h⟩, q⟩
/-- a list that the turns leave as it is -/
theorem wFor_list {a : Addr} {xs : List V} (Pv : Nat → L2.St → Hp → Prop) (h0 : Pv 0 σ H) (hl : ∀ i σ H, i ≤ xs.length → Pv i σ H → H a = some (.lst xs))
    (hs : ∀ i x σ H, xs[i]? = some x → Pv i σ H → g x σ H (fun σ2 H2 => t ⟨Pv (i + 1), rt, nx, Pv (i + 1)⟩ σ2 H2)) (hd : ∀ σ H, Pv xs.length σ H → nx σ H) : wFor (Itl K a) g t ⟨nx, rt, bk, ct⟩ σ H :=
  wFor_gen xs.length Pv h0 (fun i σ H hi p => ⟨xs, xs[i], SqL.of (hl i σ H (Nat.le_of_lt hi) p), List.getElem?_eq_getElem hi⟩) (fun σ H p => ⟨xs, SqL.of (hl _ σ H (Nat.le_refl _) p), Nat.le_refl _⟩) (fun i σ H x H' hi p y => by
    obtain ⟨e, y⟩ := y
    subst e
    exact hs i x σ _ (y xs (SqL.of (hl i σ _ (Nat.le_of_lt hi) p))) p) hd
theorem wLc_list {a : Addr} {xs : List V} (q : ∀ D H2, H D = none → Step [] H H2 → H2 D = some (.lst []) → ∃ Pv : Nat → Hp → Prop, Pv 0 H2 ∧ (∀ i H, i ≤ xs.length → Pv i H → H a = some (.lst xs)) ∧ (∀ i x H, xs[i]? = some x → Pv i H → g x (wipe σ ws) H (kTurn tt te ws σ D (Pv (i + 1)))) ∧ (∀ H, Pv xs.length H → Q (.ref D) H)) : wLc (Itl K a) g tt te ws σ Q H :=
  wLc_gen xs.length fun D H2 h1 h2 h3 => by
    obtain ⟨Pv, p0, hl, hs, hd⟩ := q D H2 h1 h2 h3
    refine ⟨Pv, p0, fun i H hi p => ⟨xs, xs[i], SqL.of (hl i H (Nat.le_of_lt hi) p), List.getElem?_eq_getElem hi⟩, fun H p => ⟨xs, SqL.of (hl _ H (Nat.le_refl _) p), Nat.le_refl _⟩, fun i H x H' hi p y => ?_, hd⟩
    obtain ⟨e, y⟩ := y
    subst e
    exact hs i x _ (y xs (SqL.of (hl i _ (Nat.le_of_lt hi) p))) p
/-- a text, sign by sign -/
def kStr (R : WK) : VK := fun v H1 => ∃ x, v = .str x ∧ R (Its x) H1
theorem g_str {R : WK} (h : tl σ H (kStr R)) : iStr tl σ H R := h
theorem g_kStr {R : WK} {z : Str} (q : R (Its z) H) : kStr R (.str z) H := ⟨z, rfl, q⟩
theorem wFor_str {z : Str} {k : Nat} (Pv : Nat → L2.St → Hp → Prop) (h0 : Pv 0 σ H) (hs : ∀ i c σ H, z.cps[i]? = some c → Pv i σ H → t ⟨Pv (i + 1), rt, nx, Pv (i + 1)⟩ (σ.set k (some (.str ⟨#[c]⟩))) H) (hd : ∀ σ H, Pv z.cps.size σ H → nx σ H) : wFor (Its z) (gName k) t ⟨nx, rt, bk, ct⟩ σ H :=
  wFor_gen z.cps.size Pv h0 (fun i _ _ hi _ => hi) (fun _ _ _ => Nat.le_refl _) (fun i σ H x H' hi p y => by
    obtain ⟨e1, c, e2, e3⟩ := y
    subst e1 e3
    exact hs i c σ _ e2 p) hd
theorem wLc_str {z : Str} {k : Nat} (q : ∀ D H2, H D = none → Step [] H H2 → H2 D = some (.lst []) → ∃ Pv : Nat → Hp → Prop, Pv 0 H2 ∧ (∀ i c H, z.cps[i]? = some c → Pv i H → kTurn tt te ws σ D (Pv (i + 1)) ((wipe σ ws).set k (some (.str ⟨#[c]⟩))) H) ∧ (∀ H, Pv z.cps.size H → Q (.ref D) H)) : wLc (Its z) (gName k) tt te ws σ Q H :=
  wLc_gen z.cps.size fun D H2 h1 h2 h3 => by
    obtain ⟨Pv, p0, hs, hd⟩ := q D H2 h1 h2 h3
    refine ⟨Pv, p0, fun i _ hi _ => hi, fun _ _ => Nat.le_refl _, fun i H x H' hi p y => ?_, hd⟩
    obtain ⟨e1, c, e2, e3⟩ := y
    subst e1 e3
    exact hs i c _ e2 p
/-! a dict under a lock -/
def lk (d : Addr) (od : Obj) (kvs : List (Key × V)) (f : L2.St → Hp → Prop) : L2.St → Hp → Prop := fun σ' H' => H' d = some (.frz od (.dK kvs)) ∧ f σ' (upd H' d (.dK kvs))
def lkV (d : Addr) (od : Obj) (kvs : List (Key × V)) (f : VK) : VK := fun v H' => H' d = some (.frz od (.dK kvs)) ∧ f v (upd H' d (.dK kvs))
theorem g_lock {d : Addr} {kvs : List (Key × V)} (h : H d = some (.dK kvs)) (q : ∀ od H2, Step [d] H H2 → H2 d = some (.frz od (.dK kvs)) → t ⟨lk d od kvs nx, lkV d od kvs rt, lk d od kvs bk, lk d od kvs ct⟩ σ H2) : tLock t ⟨nx, rt, bk, ct⟩ σ H :=
  ⟨d, .dK kvs, h, trivial, fun od => q od _ ((Step.refl [d] H).wr (List.mem_singleton.mpr rfl)) upd_same⟩
theorem g_lockE {d : Addr} {kvs : List (Key × V)} (h : H d = some (.dK kvs)) (q : ∀ od H2, Step [d] H H2 → H2 d = some (.frz od (.dK kvs)) → te σ H2 (lkV d od kvs Q)) : tLockE te σ H Q :=
  ⟨d, .dK kvs, h, trivial, fun od => q od _ ((Step.refl [d] H).wr (List.mem_singleton.mpr rfl)) upd_same⟩
theorem g_lk {d : Addr} {od : Obj} {kvs : List (Key × V)} {f : L2.St → Hp → Prop} (h : H d = some (.frz od (.dK kvs))) (q : ∀ H2, Step [d] H H2 → H2 d = some (.dK kvs) → f σ H2) : lk d od kvs f σ H := ⟨h, q _ ((Step.refl [d] H).wr (List.mem_singleton.mpr rfl)) upd_same⟩
theorem g_lkV {d : Addr} {od : Obj} {kvs : List (Key × V)} {f : VK} {v : V} (h : H d = some (.frz od (.dK kvs))) (q : ∀ H2, Step [d] H H2 → H2 d = some (.dK kvs) → f v H2) : lkV d od kvs f v H := ⟨h, q _ ((Step.refl [d] H).wr (List.mem_singleton.mpr rfl)) upd_same⟩
def kKeys (R : WK) : VK := fun x H1 => ∃ d o, x = .ref d ∧ ((∃ kvs, H1 d = some (.frz o (.dK kvs)) ∧ R (Itk d o kvs) H1) ∨ ∃ kvs, H1 d = some (.frz o (.dT kvs)) ∧ R (Itkt d o kvs) H1)
def kVals (R : WK) : VK := fun x H1 => ∃ d o kvs, x = .ref d ∧ H1 d = some (.frz o (.dK kvs)) ∧ R (Itd d o kvs) H1
def kItems (R : WK) : VK := fun x H1 => ∃ d o kvs, x = .ref d ∧ H1 d = some (.frz o (.dK kvs)) ∧ R (Iti d o kvs) H1
theorem g_keys {R : WK} (h : td σ H (kKeys R)) : iKeys td σ H R := h
theorem g_vals {R : WK} (h : td σ H (kVals R)) : iVals td σ H R := h
theorem g_items {R : WK} (h : td σ H (kItems R)) : iItems td σ H R := h
theorem g_kKeys {R : WK} {d : Addr} {o : Obj} {kvs : List (Key × V)} (h : H d = some (.frz o (.dK kvs))) (q : R (Itk d o kvs) H) : kKeys R (.ref d) H := ⟨d, o, rfl, .inl ⟨kvs, h, q⟩⟩
theorem g_kVals {R : WK} {d : Addr} {o : Obj} {kvs : List (Key × V)} (h : H d = some (.frz o (.dK kvs))) (q : R (Itd d o kvs) H) : kVals R (.ref d) H := ⟨d, o, kvs, rfl, h, q⟩
theorem g_kItems {R : WK} {d : Addr} {o : Obj} {kvs : List (Key × V)} (h : H d = some (.frz o (.dK kvs))) (q : R (Iti d o kvs) H) : kItems R (.ref d) H := ⟨d, o, kvs, rfl, h, q⟩
theorem wFor_keys {d : Addr} {o : Obj} {kvs : List (Key × V)} {k : Nat} (Pv : Nat → L2.St → Hp → Prop) (h0 : Pv 0 σ H) (hl : ∀ i σ H, i ≤ kvs.length → Pv i σ H → H d = some (.frz o (.dK kvs)))
    (hs : ∀ i p σ H, kvs[i]? = some p → Pv i σ H → t ⟨Pv (i + 1), rt, nx, Pv (i + 1)⟩ (σ.set k (some (kV p.1))) H) (hd : ∀ σ H, Pv kvs.length σ H → nx σ H) : wFor (Itk d o kvs) (gName k) t ⟨nx, rt, bk, ct⟩ σ H :=
  wFor_gen kvs.length Pv h0 (fun i σ H hi p => ⟨hl i σ H (Nat.le_of_lt hi) p, hi⟩) (fun σ H p => ⟨hl _ σ H (Nat.le_refl _) p, Nat.le_refl _⟩) (fun i σ H x H' hi p y => by
    obtain ⟨e1, k, v, e2, e3⟩ := y
    subst e1 e3
    exact hs i (k, v) σ _ e2 p) hd
theorem wFor_vals {d : Addr} {o : Obj} {kvs : List (Key × V)} {k : Nat} (Pv : Nat → L2.St → Hp → Prop) (h0 : Pv 0 σ H) (hl : ∀ i σ H, i ≤ kvs.length → Pv i σ H → H d = some (.frz o (.dK kvs)))
    (hs : ∀ i p σ H, kvs[i]? = some p → Pv i σ H → t ⟨Pv (i + 1), rt, nx, Pv (i + 1)⟩ (σ.set k (some p.2)) H) (hd : ∀ σ H, Pv kvs.length σ H → nx σ H) : wFor (Itd d o kvs) (gName k) t ⟨nx, rt, bk, ct⟩ σ H :=
  wFor_gen kvs.length Pv h0 (fun i σ H hi p => ⟨hl i σ H (Nat.le_of_lt hi) p, hi⟩) (fun σ H p => ⟨hl _ σ H (Nat.le_refl _) p, Nat.le_refl _⟩) (fun i σ H x H' hi p y => by
    obtain ⟨e1, k, e2⟩ := y
    subst e1
    exact hs i (k, x) σ _ e2 p) hd
/-- items: each pair a new tuple, taken apart -/
theorem wFor_items {d : Addr} {o : Obj} {kvs : List (Key × V)} {k l : Nat} (Pv : Nat → L2.St → Hp → Prop) (h0 : Pv 0 σ H) (hl : ∀ i σ H, i ≤ kvs.length → Pv i σ H → H d = some (.frz o (.dK kvs)))
    (hs : ∀ i p σ H H2 T, kvs[i]? = some p → Pv i σ H → H T = none → Step [] H H2 → H2 T = some (.tup [kV p.1, p.2]) → t ⟨Pv (i + 1), rt, nx, Pv (i + 1)⟩ ((σ.set k (some (kV p.1))).set l (some p.2)) H2) (hd : ∀ σ H, Pv kvs.length σ H → nx σ H) :
    wFor (Iti d o kvs) (gTup K 2 (gCons (gName k) (gCons (gName l) gNil))) t ⟨nx, rt, bk, ct⟩ σ H :=
  wFor_gen kvs.length Pv h0 (fun i σ H hi p => ⟨hl i σ H (Nat.le_of_lt hi) p, hi⟩) (fun σ H p => ⟨hl _ σ H (Nat.le_refl _) p, Nat.le_refl _⟩) (fun i σ H x H' hi p y => by
    obtain ⟨T, k, v, e2, e3, hT, e4⟩ := y
    subst e3 e4
    exact ⟨T, _, rfl, SqT.of upd_same, rfl, _, _, rfl, _, _, rfl, rfl, hs i (k, v) σ H _ T e2 p hT (Step.new hT) upd_same⟩) hd
theorem wDc_items {d : Addr} {o : Obj} {kvs : List (Key × V)} {k l : Nat} (q : ∀ D H2, H D = none → Step [] H H2 → H2 D = some (.dK []) → ∃ Pv : Nat → Hp → Prop, Pv 0 H2 ∧ (∀ i H, i ≤ kvs.length → Pv i H → H d = some (.frz o (.dK kvs))) ∧
    (∀ i p H H2 T, kvs[i]? = some p → Pv i H → H T = none → Step [] H H2 → H2 T = some (.tup [kV p.1, p.2]) → kTurnD tt tk tv ws σ D (Pv (i + 1)) (((wipe σ ws).set k (some (kV p.1))).set l (some p.2)) H2) ∧ (∀ H, Pv kvs.length H → Q (.ref D) H)) :
    wDc (Iti d o kvs) (gTup K 2 (gCons (gName k) (gCons (gName l) gNil))) tt tk tv ws σ Q H :=
  wDc_gen kvs.length fun D H2 h1 h2 h3 => by
    obtain ⟨Pv, p0, hl, hs, hd⟩ := q D H2 h1 h2 h3
    refine ⟨Pv, p0, fun i H hi p => ⟨hl i H (Nat.le_of_lt hi) p, hi⟩, fun H p => ⟨hl _ H (Nat.le_refl _) p, Nat.le_refl _⟩, fun i H x H' hi p y => ?_, hd⟩
    obtain ⟨T, k, v, e2, e3, hT, e4⟩ := y
    subst e3 e4
    exact ⟨T, _, rfl, SqT.of upd_same, rfl, _, _, rfl, _, _, rfl, rfl, hs i (k, v) H _ T e2 p hT (Step.new hT) upd_same⟩
theorem wDc_rng {k : Nat} {lo : Int} {n : Nat} (q : ∀ D H2, H D = none → Step [] H H2 → H2 D = some (.dK []) → ∃ Pv : Nat → Hp → Prop, Pv 0 H2 ∧ (∀ i H, i < n → Pv i H → kTurnD tt tk tv ws σ D (Pv (i + 1)) ((wipe σ ws).set k (some (.int (lo + (i : Int))))) H) ∧ (∀ H, Pv n H → Q (.ref D) H)) : wDc (Itr lo n) (gName k) tt tk tv ws σ Q H :=
  wDc_gen n fun D H2 h1 h2 h3 => by
    obtain ⟨Pv, p0, hs, hd⟩ := q D H2 h1 h2 h3
    refine ⟨Pv, p0, fun i _ hi _ => hi, fun _ _ => Nat.le_refl _, fun i H x H' hi p y => ?_, hd⟩
    obtain ⟨e1, e2⟩ := y
    subst e1 e2
    exact hs i _ hi p
end
/-! a tuple taken apart -/
section
variable {K : PySem.W.Frag} {σ : L2.St} {H : Hp} {Q : L2.St → Hp → Prop}
theorem g_tup2 {a : Addr} {x y : V} {k l : Nat} (h : H a = some (.tup [x, y])) (q : Q ((σ.set k (some x)).set l (some y)) H) : gTup K 2 (gCons (gName k) (gCons (gName l) gNil)) (.ref a) σ H Q := ⟨a, _, rfl, SqT.of h, rfl, _, _, rfl, _, _, rfl, rfl, q⟩
theorem g_tup3 {a : Addr} {x y z : V} {k l m : Nat} (h : H a = some (.tup [x, y, z])) (q : Q (((σ.set k (some x)).set l (some y)).set m (some z)) H) : gTup K 3 (gCons (gName k) (gCons (gName l) (gCons (gName m) gNil))) (.ref a) σ H Q := ⟨a, _, rfl, SqT.of h, rfl, _, _, rfl, _, _, rfl, _, _, rfl, rfl, q⟩
theorem g_tup4 {a : Addr} {x y z w : V} {k l m n : Nat} (h : H a = some (.tup [x, y, z, w])) (q : Q ((((σ.set k (some x)).set l (some y)).set m (some z)).set n (some w)) H) : gTup K 4 (gCons (gName k) (gCons (gName l) (gCons (gName m) (gCons (gName n) gNil)))) (.ref a) σ H Q := ⟨a, _, rfl, SqT.of h, rfl, _, _, rfl, _, _, rfl, _, _, rfl, _, _, rfl, rfl, q⟩
end
end My
/-! Kit4: named readings for operators and built-in calls. -/
namespace My
open PySem PySem.Spec PyProof.Rows L2
section
variable {X : Cx} {K : PySem.W.Frag} {H : Hp} {Q : VK} {i j : Int} {xs ys : List V} {p : Addr}
def rModP : R2 := fun x y H Q => ∃ i j, x = .int i ∧ y = .int j ∧ 0 < j ∧ Q (.int (i % j)) H
theorem op_modP : OpR X (binaryOp .Mod) rModP := by
  intro pins s σ H x y v u Q I rx ry h
  obtain ⟨i, j, e1, e2, hj, q⟩ := h
  exact op_modN pins s σ H x y v u Q I rx ry ⟨i, j, e1, e2, by omega, by show Q (.int (i.fmod j)) H; rw [Int.fmod_eq_emod_of_nonneg i (by omega)]; exact q⟩
theorem g_modP (h : 0 < j) (q : Q (.int (i % j)) H) : rModP (.int i) (.int j) H Q := ⟨i, j, rfl, rfl, h, q⟩
def rDivP : R2 := fun x y H Q => ∃ i j, x = .int i ∧ y = .int j ∧ CDivW i j ∧ Q (.int (i / j)) H
theorem op_divP : OpR X (binaryOp .FloorDiv) rDivP := op_fdivW
theorem g_divP (h : 0 < j) (h2 : j < 2 ^ 250) (q : Q (.int (i / j)) H) : rDivP (.int i) (.int j) H Q := ⟨i, j, rfl, rfl, wide_div (b := 250) h (by omega) (by decide) (by decide), q⟩
def rMulP : R2 := fun x y H Q => ∃ i j, x = .int i ∧ y = .int j ∧ CMulW i j ∧ Q (.int (i * j)) H
theorem op_mulP : OpR X (binaryOp .Mult) rMulP := op_mulW
theorem g_mulP (h1 : -(2 ^ 250) < i) (h2 : i < 2 ^ 250) (h3 : -(2 ^ 250) < j) (h4 : j < 2 ^ 250) (q : Q (.int (i * j)) H) : rMulP (.int i) (.int j) H Q :=
  ⟨i, j, rfl, rfl, wide_mul (a := 250) (b := 250) (by omega) (by omega) (by decide) (by decide) (by decide), q⟩
def rPowP : R2 := fun x y H Q => ∃ i j, x = .int i ∧ y = .int j ∧ CPowW i j ∧ Q (.int (i ^ j.toNat)) H
theorem op_powP : OpR X (binaryOp .Pow) rPowP := op_powW
theorem g_powP (h1 : -(2 ^ 250) < i) (h2 : i < 2 ^ 250) (h3 : 0 ≤ j) (h4 : j ≤ 1000) (q : Q (.int (i ^ j.toNat)) H) : rPowP (.int i) (.int j) H Q :=
  ⟨i, j, rfl, rfl, powW_ok (a := 250) (by omega) (by decide) h3 (by omega), q⟩
/-! len -/
def rLenL (K : PySem.W.Frag) : List V → Hp → VK → Prop := fun xs H Q => ∃ p ys, xs = [.ref p] ∧ (SqL K H p ys ∨ SqT K H p ys) ∧ Q (.int ys.length) H
theorem cr_lenL : CallR X (.builtin "len") (rLenL X.K) := call_len_seq
theorem g_lenL (h : H p = some (.lst xs)) (q : Q (.int (xs.length : Nat)) H) : rLenL K [.ref p] H Q := ⟨p, xs, rfl, .inl (SqL.of h), q⟩
theorem g_lenLK (h : SqL K H p xs) (q : Q (.int (xs.length : Nat)) H) : rLenL K [.ref p] H Q := ⟨p, xs, rfl, .inl h, q⟩
theorem g_lenT (h : H p = some (.tup xs)) (q : Q (.int (xs.length : Nat)) H) : rLenL K [.ref p] H Q := ⟨p, xs, rfl, .inr (SqT.of h), q⟩
def rLenSt : List V → Hp → VK → Prop := fun xs H Q => ∃ z : Str, xs = [.str z] ∧ z.length ≤ sizeLine ∧ Q (.int z.length) H
theorem cr_lenSt : CallR X (.builtin "len") rLenSt := call_len_str
theorem g_lenSt {z : Str} (hl : z.length ≤ sizeLine) (q : Q (.int (z.length : Nat)) H) : rLenSt [.str z] H Q := ⟨z, rfl, hl, q⟩
def rLenDi : List V → Hp → VK → Prop := fun xs H Q => ∃ a kvs, xs = [V.ref a] ∧ H a = some (.dK kvs) ∧ Q (.int kvs.length) H
theorem cr_lenDi : CallR X (.builtin "len") rLenDi := call_lenD
theorem g_lenDi {kvs : List (Key × V)} (h : H p = some (.dK kvs)) (q : Q (.int (kvs.length : Nat)) H) : rLenDi [.ref p] H Q := ⟨p, kvs, rfl, h, q⟩
/-! least, greatest of two -/
def rMax2 : List V → Hp → VK → Prop := fun xs H Q => ∃ i j, xs = [.int i, .int j] ∧ Q (.int (if j > i then j else i)) H
def rMin2 : List V → Hp → VK → Prop := fun xs H Q => ∃ i j, xs = [.int i, .int j] ∧ Q (.int (if j < i then j else i)) H
theorem cr_max2 (hc : X.calm = true) : CallR X (.builtin "max") rMax2 := call_max2 hc
theorem cr_min2 (hc : X.calm = true) : CallR X (.builtin "min") rMin2 := call_min2 hc
theorem g_max2 (q : Q (.int (max i j)) H) : rMax2 [.int i, .int j] H Q := ⟨i, j, rfl, by
  have e : (if j > i then j else i) = max i j := by
    rw [Int.max_def]
    split <;> split <;> omega
  rw [e]
  exact q⟩
theorem g_min2 (q : Q (.int (min i j)) H) : rMin2 [.int i, .int j] H Q := ⟨i, j, rfl, by
  have e : (if j < i then j else i) = min i j := by
    rw [Int.min_def]
    split <;> split <;> omega
  rw [e]
  exact q⟩
/-! sums, tests of lists -/
theorem g_sum {ns : List Int} (h : H p = some (.lst (ns.map V.int))) (q : Q (.int ns.sum) H) : rSum K [.ref p] H Q := ⟨p, ns, rfl, SqL.of h, q⟩
theorem g_all {bs : List Bool} (h : H p = some (.lst (bs.map V.bl))) (q : Q (.bl (bs.all id)) H) : rAll K [.ref p] H Q := ⟨p, bs, rfl, SqL.of h, q⟩
theorem g_any {bs : List Bool} (h : H p = some (.lst (bs.map V.bl))) (q : Q (.bl (bs.any id)) H) : rAny K [.ref p] H Q := ⟨p, bs, rfl, SqL.of h, q⟩
theorem g_sortedI {ns : List Int} (h : H p = some (.lst (ns.map V.int))) (hl : ns.length < 64) (q : ∀ (ns' : List Int) p' H2, ns'.Perm ns → ns'.Pairwise (· ≤ ·) → H p' = none → Step [] H H2 → H2 p' = some (.lst (ns'.map V.int)) → Q (.ref p') H2) : rSorted K [.ref p] H Q :=
  ⟨p, ns, rfl, SqL.of h, hl, fun ns' p' e1 e2 e3 => q ns' p' _ e1 e2 e3 (Step.new e3) upd_same⟩
theorem g_sortedS {ss : List Str} (h : H p = some (.lst (ss.map V.str))) (hl : ss.length < 64) (q : ∀ (ys : List Str) p' H2, ys.Perm ss → sortedS ys = true → H p' = none → Step [] H H2 → H2 p' = some (.lst (ys.map V.str)) → Q (.ref p') H2) : rSortedS K [.ref p] H Q :=
  ⟨p, ss, rfl, SqL.of h, hl, fun ns' p' e1 e2 e3 => q ns' p' _ e1 e2 e3 (Step.new e3) upd_same⟩
/-- sorted of a dict of numbers -/
def rSortedDI : List V → Hp → VK → Prop := fun xs H Q => ∃ (a : Addr) (kvs : List (Key × V)) (ks : List Int), xs = [.ref a] ∧ Rd H a (.dK kvs) ∧ kvs.map (·.1) = ks.map Sum.inl ∧ ks.length < 64 ∧ ∀ (ys : List Int) (p : Addr), ys.Perm ks → ys.Pairwise (· ≤ ·) → H p = none → Q (.ref p) (upd H p (.lst (ys.map V.int)))
theorem cr_sortedDI (hc : X.calm = true) : CallR X (.builtin "sorted") rSortedDI := call_sortedDI hc
theorem g_sortedDI {kvs : List (Key × V)} {ks : List Int} (h : Rd H p (.dK kvs)) (e : kvs.map (·.1) = ks.map Sum.inl) (hl : ks.length < 64) (q : ∀ (ns' : List Int) p' H2, ns'.Perm ks → ns'.Pairwise (· ≤ ·) → H p' = none → Step [] H H2 → H2 p' = some (.lst (ns'.map V.int)) → Q (.ref p') H2) : rSortedDI [.ref p] H Q :=
  ⟨p, kvs, ks, rfl, h, e, hl, fun ns' p' e1 e2 e3 => q ns' p' _ e1 e2 e3 (Step.new e3) upd_same⟩
/-! list(..) -/
def rListL (K : PySem.W.Frag) : List V → Hp → VK → Prop := fun xs H Q => ∃ p ys, xs = [.ref p] ∧ (SqL K H p ys ∨ SqT K H p ys) ∧ ∀ l, H l = none → Q (.ref l) (upd H l (.lst ys))
theorem cr_listL : CallR X (.type "list") (rListL X.K) := call_list_of
theorem g_listL (h : H p = some (.lst xs)) (q : ∀ l H2, H l = none → Step [] H H2 → H2 l = some (.lst xs) → Q (.ref l) H2) : rListL K [.ref p] H Q := ⟨p, xs, rfl, .inl (SqL.of h), fun l hl => q l _ hl (Step.new hl) upd_same⟩
theorem g_listT (h : H p = some (.tup xs)) (q : ∀ l H2, H l = none → Step [] H H2 → H2 l = some (.lst xs) → Q (.ref l) H2) : rListL K [.ref p] H Q := ⟨p, xs, rfl, .inr (SqT.of h), fun l hl => q l _ hl (Step.new hl) upd_same⟩
def rListDi : List V → Hp → VK → Prop := fun xs H Q => ∃ (a : Addr) (kvs : List (Key × V)), xs = [.ref a] ∧ Rd H a (.dK kvs) ∧ ∀ p, H p = none → Q (.ref p) (upd H p (.lst (kvs.map fun kv => kV kv.1)))
theorem cr_listDi (hc : X.calm = true) : CallR X (.type "list") rListDi := call_listD hc
theorem g_listDi {kvs : List (Key × V)} (h : Rd H p (.dK kvs)) (q : ∀ l H2, H l = none → Step [] H H2 → H2 l = some (.lst (kvs.map fun kv => kV kv.1)) → Q (.ref l) H2) : rListDi [.ref p] H Q := ⟨p, kvs, rfl, h, fun l hl => q l _ hl (Step.new hl) upd_same⟩
/-! join -/
def rJoin (K : PySem.W.Frag) : V → List V → Hp → VK → Prop := fun x xs H Q => ∃ a p, ∃ ys : List Str, x = .str a ∧ xs = [.ref p] ∧ (SqL K H p (ys.map V.str) ∨ SqT K H p (ys.map V.str)) ∧ (ys.map (·.length)).sum + ys.length * a.length ≤ 16777216 ∧ Q (.str (Txt.join a ys)) H
theorem mt_joinR : MtR X "str.join" (rJoin X.K) := mt_join
theorem g_join {z : Str} {ss : List Str} (h : H p = some (.lst (ss.map V.str))) (hl : (ss.map (·.length)).sum + ss.length * z.length ≤ 16777216) (q : Q (.str (Txt.join z ss)) H) : rJoin K (.str z) [.ref p] H Q := ⟨z, p, ss, rfl, rfl, .inl (SqL.of h), hl, q⟩
end
section
variable {X : Cx} {o e : Expr} {apos pos : Pos} {to te : TE}
theorem pe_joinR (ho : PE X o to) (he : PE X e te) (hs : starEach [e] X.env = [(false, eval e X.env)] := by rfl) (hbase : attributeBase o "join" X.env (eval o X.env) = eval o X.env := by rfl) (hline : (apos.endLine == pos.line) = true := by rfl) : PE X (.Call (.Attribute o "join" apos) [e] [] pos) (tM1 (rJoin X.K) to te) := pe_join ho he hs hbase hline
end
/-! words between: what follows is shown once -/
section
variable {X : Cx} {st : Stmt} {rest : List Stmt} {t u : TS} {e : Expr} {te : TE} {tt : TT} {σ : L2.St} {H : Hp} {Q : VK} {QT : Bool → Hp → Prop} {nx bk ct : L2.St → Hp → Prop} {rt : VK}
def tCutM (t u : TS) : TS := fun D σ H => ∃ Mid : L2.St → Hp → Prop, t ⟨Mid, D.rt, D.bk, D.ct⟩ σ H ∧ ∀ σ' H', Mid σ' H' → u D σ' H'
theorem pss_cutM (h1 : PS X st t) (h2 : PSs X rest u) : PSs X (st :: rest) (tCutM t u) := by
  refine ⟨fun pins s σ H D I h => ?_⟩
  obtain ⟨Mid, hm, hu⟩ := h
  refine wpAny_execs_cons (thn (h1.run pins s σ H ⟨Mid, D.rt, D.bk, D.ct⟩ I hm) fun f s1 q => ?_)
  cases f with
  | next =>
    obtain ⟨σ', H', I', q⟩ := q
    exact h2.run pins s1 σ' H' D I' (hu σ' H' q)
  | ret v => exact q
  | brk => exact q
  | cont => exact q
theorem g_cut (Mid : L2.St → Hp → Prop) (h1 : t ⟨Mid, rt, bk, ct⟩ σ H) (h2 : ∀ σ' H', Mid σ' H' → u ⟨nx, rt, bk, ct⟩ σ' H') : tCutM t u ⟨nx, rt, bk, ct⟩ σ H := ⟨Mid, h1, h2⟩
def tTCut (tt : TT) : TT := fun σ H Q => ∃ Mid : Bool → Hp → Prop, tt σ H Mid ∧ ∀ b H', Mid b H' → Q b H'
theorem pt_cut (h : PT X e tt) : PT X e (tTCut tt) := by
  refine ⟨fun pins s σ H Q I hq => ?_⟩
  obtain ⟨Mid, hm, hu⟩ := hq
  exact thn (h.run pins s σ H Mid I hm) fun b s1 ⟨H1, I1, q⟩ => ⟨H1, I1, hu b H1 q⟩
theorem g_tcut (Mid : Bool → Hp → Prop) (h1 : tt σ H Mid) (h2 : ∀ b H', Mid b H' → QT b H') : tTCut tt σ H QT := ⟨Mid, h1, h2⟩
def tECut (te : TE) : TE := fun σ H Q => ∃ Mid : V → Hp → Prop, te σ H Mid ∧ ∀ b H', Mid b H' → Q b H'
theorem pe_cut (h : PE X e te) : PE X e (tECut te) := by
  refine ⟨fun pins s σ H Q I hq => ?_⟩
  obtain ⟨Mid, hm, hu⟩ := hq
  exact thn (h.run pins s σ H Mid I hm) fun b s1 ⟨v, H1, I1, r, q⟩ => ⟨v, H1, I1, r, hu v H1 q⟩
theorem g_ecut (Mid : V → Hp → Prop) (h1 : te σ H Mid) (h2 : ∀ b H', Mid b H' → Q b H') : tECut te σ H Q := ⟨Mid, h1, h2⟩
def rAddS : R2 := fun x y H Q => ∃ i j, x = .str i ∧ y = .str j ∧ i.length + j.length ≤ sizeLine ∧ Q (.str (i ++ j)) H
theorem op_addS : OpR X (binaryOp .Add) rAddS := op_add_str
theorem g_addS {a b : Str} (hl : a.length + b.length ≤ sizeLine) (q : Q (.str (a ++ b)) H) : rAddS (.str a) (.str b) H Q := ⟨a, b, rfl, rfl, hl, q⟩
/-! == of data -/
theorem g_eqD {K : PySem.W.Frag} {x y : V} {d e : PyData} (h1 : Dp K H x d) (h2 : Dp K H y e) (s1 : SeqAt.shaped d = true) (s2 : SeqAt.shaped e = true) (q : Q (.bl (PyData.eqv d e)) H) : rEqD K x y H Q := ⟨d, e, h1, h2, s1, s2, q⟩
theorem g_neD {K : PySem.W.Frag} {x y : V} {d e : PyData} (h1 : Dp K H x d) (h2 : Dp K H y e) (s1 : SeqAt.shaped d = true) (s2 : SeqAt.shaped e = true) (q : Q (.bl (!PyData.eqv d e)) H) : rNeD K x y H Q := ⟨d, e, h1, h2, s1, s2, q⟩
end
/-! within a comprehension's block: the written part named outright -/
section
variable {X : Cx} {K : PySem.W.Frag} {e : Expr}
theorem kIx {r : PySem.W.Frag → R2} (h : IxR X (r X.K)) (hK : X.K = K := by rfl) : IxR X (r K) := by subst hK; exact h
theorem kSl {r : PySem.W.Frag → V → Option Int → Option Int → Hp → VK → Prop} (h : SlR X (r X.K)) (hK : X.K = K := by rfl) : SlR X (r K) := by subst hK; exact h
theorem kOp {f : Value → Value → Sem Value} {r : PySem.W.Frag → R2} (h : OpR X f (r X.K)) (hK : X.K = K := by rfl) : OpR X f (r K) := by subst hK; exact h
theorem kIn {f : Value → Value → Sem Value} {b : Bool} (h : OpR X f (rIn X.K b)) (hK : X.K = K := by rfl) : OpR X f (rIn K b) := by subst hK; exact h
theorem kCall {f : Value} {r : PySem.W.Frag → List V → Hp → VK → Prop} (h : CallR X f (r X.K)) (hK : X.K = K := by rfl) : CallR X f (r K) := by subst hK; exact h
theorem pe_bmK {T : String} {r : V → List V → Hp → VK → Prop} {to : TE} {t : TA} (h : PE X e (tBM X.K T r to t)) (hK : X.K = K := by rfl) : PE X e (tBM K T r to t) := by subst hK; exact h
theorem pe_bm0K {T : String} {r : V → List V → Hp → VK → Prop} {to : TE} (h : PE X e (tBM0 X.K T r to)) (hK : X.K = K := by rfl) : PE X e (tBM0 K T r to) := by subst hK; exact h
theorem pe_fldK {ta : TE} {f : Str} (h : PE X e (tFld X.K ta f)) (hK : X.K = K := by rfl) : PE X e (tFld K ta f) := by subst hK; exact h
theorem pi_listK {tg : Expr} {tl : TE} (h : PI X tg e (iList X.K tl)) (hK : X.K = K := by rfl) : PI X tg e (iList K tl) := by subst hK; exact h
end
/-! d.get(k, x) -/
section
variable {σ : L2.St} {H : Hp} {Q : VK} {td ty tx : TE} {p : Addr} {kvs : List (Key × V)} {i : Int} {z : V}
def kDG2b (Q : VK) (a : Addr) (y : V) : VK := fun z H3 => ∃ o, DGet H3 a y o ∧ Q (o.getD z) H3
def kDG2 (ty tx : TE) (σ : L2.St) (Q : VK) : VK := fun x H1 => ∃ a, x = .ref a ∧ IsD H1 a ∧ ty σ H1 fun y H2 => tx σ H2 (kDG2b Q a y)
theorem g_dget2 (h : td σ H (kDG2 ty tx σ Q)) : tDGet2 td ty tx σ H Q := h
theorem g_kDG2 (h : Rd H p (.dK kvs)) (q : ty σ H (fun y H2 => tx σ H2 (kDG2b Q p y))) : kDG2 ty tx σ Q (.ref p) H := ⟨p, rfl, .inl ⟨kvs, h⟩, q⟩
theorem g_kDG2b (h : Rd H p (.dK kvs)) (q : Q ((valV kvs (Sum.inl i)).getD z) H) : kDG2b Q p (.int i) z H := ⟨_, .inl ⟨kvs, Sum.inl i, h, rfl, rfl⟩, q⟩
theorem g_kDG2bS {s : Str} (h : Rd H p (.dK kvs)) (q : Q ((valV kvs (Sum.inr s)).getD z) H) : kDG2b Q p (.str s) z H := ⟨_, .inl ⟨kvs, Sum.inr s, h, rfl, rfl⟩, q⟩
def kDG1 (Q : VK) (a : Addr) : VK := fun y H2 => ∃ o, DGet H2 a y o ∧ Q (o.getD .non) H2
def kDG1a (ty : TE) (σ : L2.St) (Q : VK) : VK := fun x H1 => ∃ a, x = .ref a ∧ IsD H1 a ∧ ty σ H1 (kDG1 Q a)
theorem g_dget1 (h : td σ H (kDG1a ty σ Q)) : tDGet1 td ty σ H Q := h
theorem g_kDG1a (h : Rd H p (.dK kvs)) (q : ty σ H (kDG1 Q p)) : kDG1a ty σ Q (.ref p) H := ⟨p, rfl, .inl ⟨kvs, h⟩, q⟩
theorem g_kDG1 (h : Rd H p (.dK kvs)) (q : Q ((valV kvs (Sum.inl i)).getD .non) H) : kDG1 Q p (.int i) H := ⟨_, .inl ⟨kvs, Sum.inl i, h, rfl, rfl⟩, q⟩
end
end My
/-! Kit5: == of data, of dicts of data. -/
namespace My
open PySem PySem.Spec PyProof.Rows L2
/-! ### codecs: how a value reads as plain data -/
structure Cod {α : Type} (K : PySem.W.Frag) (r : Rp α) where
  enc : α → PyData
  ok : α → Prop
  lay : ∀ x, ok x → (enc x).canLay0 = true
  dep : Nat
  hdep : ∀ x, (enc x).depth ≤ dep
  eqv : ∀ x y, PyData.eqv (enc x) (enc y) = true ↔ x = y
  dp : ∀ H v x, r H v x → Dp K H v (enc x)
def StrOk (z : Str) : Prop := PyData.strOk z = true
theorem strOk_low {z : Str} (h : ∀ c ∈ cs z, c < 1114112) : StrOk z := by
  unfold StrOk PyData.strOk
  rw [← Array.all_toList, List.all_eq_true]
  intro c hc
  exact decide_eq_true (h c hc)
theorem IsNm.ok {z : Str} (h : IsNm z) : StrOk z := strOk_low fun c hc => by
  have := h.low c hc
  unfold isLow at this
  omega
theorem eqvAll_iff {α : Type} {f : α → PyData} (he : ∀ x y, PyData.eqv (f x) (f y) = true ↔ x = y) : ∀ xs ys : List α, PyData.eqvAll (xs.map f) (ys.map f) = true ↔ xs = ys
  | [], [] => by simp [PyData.eqvAll]
  | [], _ :: _ => by simp [PyData.eqvAll]
  | _ :: _, [] => by simp [PyData.eqvAll]
  | x :: xs, y :: ys => by
    simp only [List.map_cons, PyData.eqvAll, Bool.and_eq_true, he x y, eqvAll_iff he xs ys, List.cons.injEq]
theorem layAll {α : Type} {f : α → PyData} : ∀ {xs : List α}, (∀ x ∈ xs, (f x).canLay0 = true) → PyData.canLayAll0 (xs.map f) = true
  | [], _ => by simp [PyData.canLayAll0]
  | x :: xs, h => by
    simp only [List.map_cons, PyData.canLayAll0, Bool.and_eq_true]
    exact ⟨h x (List.mem_cons_self ..), layAll fun y hy => h y (List.mem_cons_of_mem _ hy)⟩
theorem depAll {α : Type} {f : α → PyData} {d : Nat} (h : ∀ x, (f x).depth ≤ d) : ∀ xs : List α, PyData.depthAll (xs.map f) ≤ d
  | [] => by simp [PyData.depthAll]
  | x :: xs => by
    simp only [List.map_cons, PyData.depthAll]
    exact Nat.max_le.mpr ⟨h x, depAll h xs⟩
theorem dpAll {α : Type} {K : PySem.W.Frag} {H : Hp} {f : α → PyData} {r : V → α → Prop} (h : ∀ v x, r v x → Dp K H v (f x)) : ∀ {vs : List V} {xs : List α}, Paired r vs xs → DpAll K H vs (xs.map f)
  | _, _, .nil => .nil
  | _, _, .cons a t => .cons (h _ _ a) (dpAll h t)
section
variable {K : PySem.W.Frag} {α β γ δ : Type} {r : Rp α} {q : Rp β} {s : Rp γ} {t : Rp δ}
def cI : Cod K rI := ⟨.int, fun _ => True, fun _ _ => by simp [PyData.canLay0], 0, fun _ => by simp [PyData.depth], fun x y => by simp [PyData.eqv], fun _ _ _ h => by rw [show _ = V.int _ from h]; exact .int _⟩
def cB : Cod K rB := ⟨.bool, fun _ => True, fun _ _ => by simp [PyData.canLay0], 0, fun _ => by simp [PyData.depth], fun x y => by simp [PyData.eqv], fun _ _ _ h => by rw [show _ = V.bl _ from h]; exact .bl _⟩
def cS : Cod K rS := ⟨.str, StrOk, fun _ h => by simpa [PyData.canLay0, StrOk] using h, 0, fun _ => by simp [PyData.depth], fun x y => by simp [PyData.eqv], fun _ _ _ h => by rw [show _ = V.str _ from h]; exact .str _⟩
def encO {α : Type} (f : α → PyData) : Option α → PyData
  | none => .none
  | some x => f x
def cOS : Cod K rOS := ⟨encO .str, fun o => ∀ x, o = some x → StrOk x, fun o h => by
  cases o with
  | none => simp [encO, PyData.canLay0]
  | some x => simpa [encO, PyData.canLay0, StrOk] using h x rfl, 0, fun o => by cases o <;> simp [encO, PyData.depth], fun x y => by cases x <;> cases y <;> simp [encO, PyData.eqv], fun _ v o h => by
  cases o with
  | none => rw [show v = V.non from h]; exact .non
  | some x => rw [show v = V.str x from h]; exact .str _⟩
def cL (c : Cod K r) : Cod K (rL r) := ⟨fun xs => .list (xs.map c.enc), fun xs => ∀ x ∈ xs, c.ok x, fun xs h => by
  simp only [PyData.canLay0]
  exact layAll fun x hx => c.lay x (h x hx), c.dep + 1, fun xs => by
  simp only [PyData.depth]
  exact Nat.succ_le_succ (depAll c.hdep xs), fun x y => by
  simp only [PyData.eqv]
  exact eqvAll_iff c.eqv x y, fun H v x h => by
  obtain ⟨a, vs, rfl, h1, h2⟩ := h
  exact .lst (SqL.of h1) (dpAll (c.dp H) h2)⟩
def cP2 (c : Cod K r) (d : Cod K q) : Cod K (rP2 r q) := ⟨fun x => .tuple [c.enc x.1, d.enc x.2], fun x => c.ok x.1 ∧ d.ok x.2, fun x h => by
  simp [PyData.canLay0, PyData.canLayAll0, c.lay _ h.1, d.lay _ h.2], max c.dep d.dep + 1, fun x => by
  have h1 := c.hdep x.1
  have h2 := d.hdep x.2
  simp only [PyData.depth, PyData.depthAll]
  omega, fun x y => by
  obtain ⟨x1, x2⟩ := x
  obtain ⟨y1, y2⟩ := y
  simp [PyData.eqv, PyData.eqvAll, c.eqv, d.eqv], fun H v x h => by
  obtain ⟨a, u, w, rfl, h1, h2, h3⟩ := h
  exact .tup (SqT.of h1) (.cons (c.dp _ _ _ h2) (.cons (d.dp _ _ _ h3) .nil))⟩
def cP3 (c : Cod K r) (d : Cod K q) (e : Cod K s) : Cod K (rP3 r q s) := ⟨fun x => .tuple [c.enc x.1, d.enc x.2.1, e.enc x.2.2], fun x => c.ok x.1 ∧ d.ok x.2.1 ∧ e.ok x.2.2, fun x h => by
  simp [PyData.canLay0, PyData.canLayAll0, c.lay _ h.1, d.lay _ h.2.1, e.lay _ h.2.2], max (max c.dep d.dep) e.dep + 1, fun x => by
  have h1 := c.hdep x.1
  have h2 := d.hdep x.2.1
  have h3 := e.hdep x.2.2
  simp only [PyData.depth, PyData.depthAll]
  omega, fun x y => by
  obtain ⟨x1, x2, x3⟩ := x
  obtain ⟨y1, y2, y3⟩ := y
  simp [PyData.eqv, PyData.eqvAll, c.eqv, d.eqv, e.eqv], fun H v x h => by
  obtain ⟨a, u, w, z, rfl, h1, h2, h3, h4⟩ := h
  exact .tup (SqT.of h1) (.cons (c.dp _ _ _ h2) (.cons (d.dp _ _ _ h3) (.cons (e.dp _ _ _ h4) .nil)))⟩
def cP4 (c : Cod K r) (d : Cod K q) (e : Cod K s) (f : Cod K t) : Cod K (rP4 r q s t) := ⟨fun x => .tuple [c.enc x.1, d.enc x.2.1, e.enc x.2.2.1, f.enc x.2.2.2], fun x => c.ok x.1 ∧ d.ok x.2.1 ∧ e.ok x.2.2.1 ∧ f.ok x.2.2.2, fun x h => by
  simp [PyData.canLay0, PyData.canLayAll0, c.lay _ h.1, d.lay _ h.2.1, e.lay _ h.2.2.1, f.lay _ h.2.2.2], max (max c.dep d.dep) (max e.dep f.dep) + 1, fun x => by
  have h1 := c.hdep x.1
  have h2 := d.hdep x.2.1
  have h3 := e.hdep x.2.2.1
  have h4 := f.hdep x.2.2.2
  simp only [PyData.depth, PyData.depthAll]
  omega, fun x y => by
  obtain ⟨x1, x2, x3, x4⟩ := x
  obtain ⟨y1, y2, y3, y4⟩ := y
  simp [PyData.eqv, PyData.eqvAll, c.eqv, d.eqv, e.eqv, f.eqv], fun H v x h => by
  obtain ⟨a, u, w, z, y, rfl, h1, h2, h3, h4, h5⟩ := h
  exact .tup (SqT.of h1) (.cons (c.dp _ _ _ h2) (.cons (d.dp _ _ _ h3) (.cons (e.dp _ _ _ h4) (.cons (f.dp _ _ _ h5) .nil))))⟩
theorem Cod.shaped (c : Cod K r) {x : α} (h : c.ok x) (hd : c.dep ≤ 64 := by exact Nat.le_of_ble_eq_true rfl) : SeqAt.shaped (c.enc x) = true := by
  unfold SeqAt.shaped
  rw [Bool.and_eq_true]
  exact ⟨c.lay x h, decide_eq_true (Nat.le_trans (c.hdep x) hd)⟩
theorem Cod.dec (c : Cod K r) [DecidableEq α] (x y : α) : PyData.eqv (c.enc x) (c.enc y) = decide (x = y) := by
  have := c.eqv x y
  by_cases h : x = y
  · rw [this.mpr h, decide_eq_true h]
  · rw [decide_eq_false h]
    cases e : PyData.eqv (c.enc x) (c.enc y) with
    | false => rfl
    | true => exact absurd (this.mp e) h
/-- x == y, x != y of data with one codec -/
theorem g_eqC [DecidableEq α] {H : Hp} {Q : VK} {u v : V} {x y : α} (c : Cod K r) (h1 : r H u x) (h2 : r H v y) (o1 : c.ok x) (o2 : c.ok y) (q : Q (.bl (decide (x = y))) H) (hd : c.dep ≤ 64 := by exact Nat.le_of_ble_eq_true rfl) : rEqD K u v H Q :=
  g_eqD (c.dp _ _ _ h1) (c.dp _ _ _ h2) (c.shaped o1 hd) (c.shaped o2 hd) (by rw [c.dec]; exact q)
theorem g_neC [DecidableEq α] {H : Hp} {Q : VK} {u v : V} {x y : α} (c : Cod K r) (h1 : r H u x) (h2 : r H v y) (o1 : c.ok x) (o2 : c.ok y) (q : Q (.bl (!decide (x = y))) H) (hd : c.dep ≤ 64 := by exact Nat.le_of_ble_eq_true rfl) : rNeD K u v H Q :=
  g_neD (c.dp _ _ _ h1) (c.dp _ _ _ h2) (c.shaped o1 hd) (c.shaped o2 hd) (by rw [c.dec]; exact q)
end
/-! ### == of two dicts whose values are data -/
section
variable {X : Cx}
/-- e: whether the values under a key are alike -/
def DDat (K : PySem.W.Frag) (H : Hp) (x y : V) (ks ls : List (Key × V)) (e : Key → Bool) : Prop := ∃ a b, x = .ref a ∧ y = .ref b ∧ H a = some (.dK ks) ∧ H b = some (.dK ls) ∧
  ∀ k v u, (k, v) ∈ ks → valV ls k = some u → ∃ d d', Dp K H v d ∧ Dp K H u d' ∧ SeqAt.shaped d = true ∧ SeqAt.shaped d' = true ∧ PyData.eqv d d' = e k
def rEqDD (K : PySem.W.Frag) : R2 := fun x y H Q => ∃ ks ls e, DDat K H x y ks ls e ∧ Q (.bl (ks.length == ls.length && ks.all fun p => (valV ls p.1).isSome && e p.1)) H
def rNeDD (K : PySem.W.Frag) : R2 := fun x y H Q => ∃ ks ls e, DDat K H x y ks ls e ∧ Q (.bl (!(ks.length == ls.length && ks.all fun p => (valV ls p.1).isSome && e p.1))) H
theorem P_mem2 {α β : Type} {F : α → β → Prop} : ∀ {l1 : List α} {l2 : List β} {y : β}, Paired F l1 l2 → y ∈ l2 → ∃ x, x ∈ l1 ∧ F x y
  | _, _, _, .nil, h => by cases h
  | _, _, _, .cons r t, h => by
    rcases List.mem_cons.mp h with rfl | h
    · exact ⟨_, List.mem_cons_self .., r⟩
    · obtain ⟨x, h1, h2⟩ := P_mem2 t h
      exact ⟨x, List.mem_cons_of_mem _ h1, h2⟩
theorem P_mem1 {α β : Type} {F : α → β → Prop} : ∀ {l1 : List α} {l2 : List β} {x : α}, Paired F l1 l2 → x ∈ l1 → ∃ y, y ∈ l2 ∧ F x y
  | _, _, _, .nil, h => by cases h
  | _, _, _, .cons r t, h => by
    rcases List.mem_cons.mp h with rfl | h
    · exact ⟨_, List.mem_cons_self .., r⟩
    · obtain ⟨x, h1, h2⟩ := P_mem1 t h
      exact ⟨x, List.mem_cons_of_mem _ h1, h2⟩
theorem dd_all {ls : List (Key × V)} {vb : List (Key × Value)} {e : Key → Bool} (rb : KV ls vb) : ∀ {ks : List (Key × V)} {va : List (Key × Value)}, KV ks va → (va.all fun p => (valueAt vb p.1).isSome && e p.1) = (ks.all fun p => (valV ls p.1).isSome && e p.1)
  | _, _, .nil => rfl
  | (k, v) :: ks, (k', u) :: va, .cons h t => by
    obtain ⟨h1, _⟩ := h
    have h1 : k = k' := h1
    subst h1
    rw [List.all_cons, List.all_cons, dd_all rb t, (RelO.isSome_eq (rb.val k)).symm]
theorem dd_in {pins : List (Addr × Obj)} {σ : L2.St} {H : Hp} {s : Shared} {ks ls : List (Key × V)} {va vb : List (Key × Value)} {e : Key → Bool} (hu : X.A.in1.in1.units + 64 < cLine) (I : Inv X pins σ H s) (ra : KV ks va) (rb : KV ls vb)
    (hd : ∀ k v u, (k, v) ∈ ks → valV ls k = some u → ∃ d d', Dp X.K H v d ∧ Dp X.K H u d' ∧ SeqAt.shaped d = true ∧ SeqAt.shaped d' = true ∧ PyData.eqv d d' = e k) :
    ∀ k v y, (k, v) ∈ va → valueAt vb k = some y → SeqAt.EqIn X.prog X.w X.A.in1 s v y (e k) := by
  intro k v y hm hv
  obtain ⟨⟨k', v'⟩, hm', hk, hr⟩ := P_mem2 ra hm
  have hk : k' = k := hk
  subst hk
  have rr := rb.val k'
  rw [hv] at rr
  cases hu' : valV ls k' with
  | none => rw [hu'] at rr; exact (show False from rr).elim
  | some u =>
    rw [hu'] at rr
    have rr : RelV u y := rr
    obtain ⟨d, d', h1, h2, s1, s2, e1⟩ := hd k' v' u hm' hu'
    obtain ⟨as, r1⟩ := Dp.reads I d v' v h1 hr
    obtain ⟨bs, r2⟩ := Dp.reads I d' u y h2 rr
    have q := SeqAt.eqAt_reads d d' X.A.in1 s v y as bs r1 r2 (SeqAt.canLay_of_shaped s1) (SeqAt.canLay_of_shaped s2) (SeqAt.room_of_shaped s1 (by have : X.A.in1.in1.units = X.A.in1.units + 1 := rfl; omega))
    rw [e1] at q
    exact q.inModel X.prog X.w
theorem op_eqDD (hu : X.A.units + 64 + 2 < cLine) : OpR X (compareOp .Eq) (rEqDD X.K) := by
  intro pins s σ H x y v u Q I rx ry h
  obtain ⟨ks, ls, e, ⟨a, b, rfl, rfl, ea, eb, hd⟩, q⟩ := h
  obtain rfl : v = Value.ref a := rx
  obtain rfl : u = Value.ref b := ry
  obtain ⟨_, ya, va, ra, da⟩ := (show ObjOk X.prog X.w H s.heap a (.dK ks) from I.hok a _ ea)
  obtain ⟨_, yb, vb, rb, db⟩ := (show ObjOk X.prog X.w H s.heap b (.dK ls) from I.hok b _ eb)
  refine PySem.W.keq_eqIn (knd := mixKind X.prog X.w) ya yb da db (by omega) (fun _ => PySem.W.KeqHitsIn.of va (dd_in (by show X.A.units + 1 + 1 + 64 < cLine; omega) I ra rb hd)) ⟨.bl _, H, I, rfl, ?_⟩
  rw [dd_all rb ra, ← ra.length, ← rb.length]
  exact q
theorem keq_neIn {prog : Program} {w : World} {K : Type} [DecidableEq K] {knd : KeyKind prog w K} {A : Around} {E : Value → Shared → Prop} {s : Shared} {a b : Addr} {ka kb : List (K × Value)} {r : Bool} {Q : Value → Shared → Prop} (ha : (a == sysModules) = false) (hb : (b == sysModules) = false)
    (da : s.heap.DictOf knd a ka) (db : s.heap.DictOf knd b kb) (hu : A.units < cLine) (hits : ka.length = kb.length → PySem.W.KeqHitsIn prog w A.in1 s kb ka r) (h : Q (.bool (!(ka.length == kb.length && r))) s) :
    wpAny (model prog w) A (compareOp .NotEq (.ref a) (.ref b)) Q E s := by
  refine wpAny_richCompare_same_room (op := .NotEq) da.typeIs db.typeIs PySem.F.slot_dict_ne (wpAny_call_entry PySem.F.slot_dict_ne da.typeIs PySem.F.entry_dict_ne ?_ (PySem.F.args_dict_ne_2 _ _)) hu
  show wpAny _ _ (Builtin.Dict.dictSlotArgs "__ne__" ⟨[.ref a, .ref b], []⟩ >>= _) _ _ s
  refine wpAny_bind ?_
  unfold Builtin.Dict.dictSlotArgs
  refine wpAny_bind (wpAny_notOrdered_dict da.typeIs ?_)
  show wpAny _ _ (pure (Value.ref a, Value.ref b)) _ _ s
  refine wpAny_pure ?_
  refine wpAny_bind (wpAny_isInstance (T := "dict") db.typeIs PySem.F.sub_dict_dict ?_)
  simp only [Bool.not_true, Bool.false_eq_true, if_false]
  refine wpAny_bind (wpAny_pure (wpAny_bind (wpAny_pure ?_)))
  refine wpAny_bind (PySem.W.keq_samePairsIn ha hb da db hits ?_)
  refine wpAny_pure ⟨_, rfl, ?_, ?_⟩
  · exact fun x => nomatch x
  · simpa using h
theorem op_neDD (hu : X.A.units + 64 + 2 < cLine) : OpR X (compareOp .NotEq) (rNeDD X.K) := by
  intro pins s σ H x y v u Q I rx ry h
  obtain ⟨ks, ls, e, ⟨a, b, rfl, rfl, ea, eb, hd⟩, q⟩ := h
  obtain rfl : v = Value.ref a := rx
  obtain rfl : u = Value.ref b := ry
  obtain ⟨_, ya, va, ra, da⟩ := (show ObjOk X.prog X.w H s.heap a (.dK ks) from I.hok a _ ea)
  obtain ⟨_, yb, vb, rb, db⟩ := (show ObjOk X.prog X.w H s.heap b (.dK ls) from I.hok b _ eb)
  refine keq_neIn (knd := mixKind X.prog X.w) ya yb da db (by omega) (fun _ => PySem.W.KeqHitsIn.of va (dd_in (by show X.A.units + 1 + 1 + 64 < cLine; omega) I ra rb hd)) ⟨.bl _, H, I, rfl, ?_⟩
  rw [dd_all rb ra, ← ra.length, ← rb.length]
  exact q
theorem OpR.or {f : Value → Value → Sem Value} {r r' : R2} (h : OpR X f r) (h' : OpR X f r') : OpR X f (fun x y H Q => r x y H Q ∨ r' x y H Q) := by
  intro pins s σ H x y v u Q I rx ry hq
  rcases hq with hq | hq
  · exact h pins s σ H x y v u Q I rx ry hq
  · exact h' pins s σ H x y v u Q I rx ry hq
def rEqX (K : PySem.W.Frag) : R2 := fun x y H Q => rEqD K x y H Q ∨ rEqDD K x y H Q
def rNeX (K : PySem.W.Frag) : R2 := fun x y H Q => rNeD K x y H Q ∨ rNeDD K x y H Q
theorem op_eqX (hu : X.A.units + 64 + 2 < cLine) : OpR X (compareOp .Eq) (rEqX X.K) := OpR.or (op_eqD (by omega)) (op_eqDD hu)
theorem op_neX (hu : X.A.units + 64 + 2 < cLine) : OpR X (compareOp .NotEq) (rNeX X.K) := OpR.or (op_neD (by omega)) (op_neDD hu)
end
theorem nodup_map_of {α β : Type} {f : α → β} (hf : ∀ a b, f a = f b → a = b) : ∀ {l : List α}, l.Nodup → (l.map f).Nodup
  | [], _ => List.nodup_nil
  | a :: r, h => by
    obtain ⟨h1, h2⟩ := List.nodup_cons.mp h
    rw [List.map_cons]
    refine List.nodup_cons.mpr ⟨fun m => ?_, nodup_map_of hf h2⟩
    obtain ⟨b, hb, e⟩ := List.mem_map.mp m
    exact h1 (by rw [← hf _ _ e]; exact hb)
theorem valV_of_mem {κ : Type} [DecidableEq κ] : ∀ {kvs : List (κ × V)} {k : κ} {v : V}, (kvs.map (·.1)).Nodup → (k, v) ∈ kvs → valV kvs k = some v
  | [], _, _, _, h => by cases h
  | p :: r, k, v, hn, h => by
    rw [List.map_cons, List.nodup_cons] at hn
    rcases List.mem_cons.mp h with e | h
    · subst e; exact valV_pos rfl
    · rw [valV_neg fun z => hn.1 (List.mem_map.mpr ⟨(k, v), h, z.symm⟩)]
      exact valV_of_mem hn.2 h
/-! dicts of numbers to data -/
section
variable {K : PySem.W.Frag} {β : Type} {q : Rp β} {H : Hp}
def lookI (xs : List (Int × β)) (i : Int) : Option β := (xs.find? fun p => decide (p.1 = i)).map (·.2)
theorem lookI_nil {i : Int} : lookI ([] : List (Int × β)) i = none := rfl
theorem lookI_pos {p : Int × β} {r : List (Int × β)} {i : Int} (e : p.1 = i) : lookI (p :: r) i = some p.2 := by simp [lookI, List.find?_cons, e]
theorem lookI_neg {p : Int × β} {r : List (Int × β)} {i : Int} (e : ¬ p.1 = i) : lookI (p :: r) i = lookI r i := by simp [lookI, List.find?_cons, e]
theorem kvs_look : ∀ {kvs : List (Key × V)} {xs : List (Int × β)} {i : Int}, Paired (fun (p : Key × V) (x : Int × β) => p.1 = Sum.inl x.1 ∧ q H p.2 x.2) kvs xs → (valV kvs (Sum.inl i) = none ∧ lookI xs i = none) ∨ ∃ v x, valV kvs (Sum.inl i) = some v ∧ lookI xs i = some x ∧ q H v x
  | _, _, _, .nil => .inl ⟨rfl, rfl⟩
  | (k, v) :: kvs, (j, x) :: xs, i, .cons h t => by
    obtain ⟨h1, h2⟩ := h
    have h1 : k = Sum.inl j := h1
    subst h1
    by_cases e : j = i
    · subst e
      exact .inr ⟨v, x, valV_pos rfl, lookI_pos rfl, h2⟩
    · rw [valV_neg (show ¬ (Sum.inl j : Key) = Sum.inl i from fun z => e (Sum.inl.inj z)), lookI_neg e]
      exact kvs_look t
theorem kvs_keys : ∀ {kvs : List (Key × V)} {xs : List (Int × β)}, Paired (fun (p : Key × V) (x : Int × β) => p.1 = Sum.inl x.1 ∧ q H p.2 x.2) kvs xs → kvs.map (·.1) = (xs.map (·.1)).map Sum.inl
  | _, _, .nil => rfl
  | _, _, .cons h t => by rw [List.map_cons, List.map_cons, List.map_cons, h.1, kvs_keys t]
/-- two such dicts, said to be alike -/
theorem dd_same (c : Cod K q) [DecidableEq β] {u v : V} {xs : List (Int × β)} (h1 : rDI q H u xs) (h2 : rDI q H v xs) (hok : ∀ p ∈ xs, c.ok p.2) (hn : (xs.map (·.1)).Nodup) (hd : c.dep ≤ 64 := by exact Nat.le_of_ble_eq_true rfl) :
    ∃ ks ls, DDat K H u v ks ls (fun _ => true) ∧ (ks.length == ls.length && ks.all fun p => (valV ls p.1).isSome && true) = true := by
  obtain ⟨a, ks, rfl, ha, pa⟩ := h1
  obtain ⟨b, ls, rfl, hb, pb⟩ := h2
  refine ⟨ks, ls, ⟨a, b, rfl, rfl, ha, hb, fun k v u hm hl => ?_⟩, ?_⟩
  · obtain ⟨⟨i, x⟩, hx, hk, hv⟩ := P_mem1 pa hm
    have hk : k = Sum.inl i := hk
    subst hk
    rcases kvs_look (i := i) pb with ⟨e1, _⟩ | ⟨v', x', e1, e2, e3⟩
    · rw [e1] at hl; cases hl
    · rw [e1] at hl
      cases hl
      have ex : x' = x := by
        have : lookI xs i = some x := by
          clear e2 e1 pb pa hv hm hok
          induction xs with
          | nil => cases hx
          | cons p r ih =>
            rw [List.map_cons, List.nodup_cons] at hn
            rcases List.mem_cons.mp hx with e | hx
            · subst e; exact lookI_pos rfl
            · rw [lookI_neg fun z => hn.1 (List.mem_map.mpr ⟨(i, x), hx, z.symm⟩)]
              exact ih hn.2 hx
        rw [this] at e2
        exact (Option.some.inj e2).symm
      subst ex
      have o := hok _ hx
      exact ⟨c.enc x', c.enc x', c.dp _ _ _ hv, c.dp _ _ _ e3, c.shaped o hd, c.shaped o hd, (c.eqv _ _).mpr rfl⟩
  · rw [P_len pa, P_len pb, beq_self_eq_true, Bool.true_and, List.all_eq_true]
    intro p hp
    obtain ⟨⟨i, x⟩, hx, hk, hv⟩ := P_mem1 pa hp
    rw [hk]
    rcases kvs_look (i := i) pb with ⟨_, e2⟩ | ⟨v', x', e1, e2, e3⟩
    · exfalso
      clear hn hok pa pb ha hb hp hk hv
      induction xs with
      | nil => cases hx
      | cons p r ih =>
        by_cases z : p.1 = i
        · rw [lookI_pos z] at e2; cases e2
        · rw [lookI_neg z] at e2
          rcases List.mem_cons.mp hx with e | hx
          · exact z (by rw [← e])
          · exact ih hx e2
    · rw [e1]; rfl
theorem g_eqDD (c : Cod K q) [DecidableEq β] {Q : VK} {u v : V} {xs : List (Int × β)} (h1 : rDI q H u xs) (h2 : rDI q H v xs) (hok : ∀ p ∈ xs, c.ok p.2) (hn : (xs.map (·.1)).Nodup) (k : Q (.bl true) H) (hd : c.dep ≤ 64 := by exact Nat.le_of_ble_eq_true rfl) : rEqDD K u v H Q := by
  obtain ⟨ks, ls, D, e⟩ := dd_same c h1 h2 hok hn hd
  exact ⟨ks, ls, _, D, by rw [e]; exact k⟩
theorem g_neDD (c : Cod K q) [DecidableEq β] {Q : VK} {u v : V} {xs : List (Int × β)} (h1 : rDI q H u xs) (h2 : rDI q H v xs) (hok : ∀ p ∈ xs, c.ok p.2) (hn : (xs.map (·.1)).Nodup) (k : Q (.bl false) H) (hd : c.dep ≤ 64 := by exact Nat.le_of_ble_eq_true rfl) : rNeDD K u v H Q := by
  obtain ⟨ks, ls, D, e⟩ := dd_same c h1 h2 hok hn hd
  exact ⟨ks, ls, _, D, by rw [e]; exact k⟩
end
end My
/-! Kit6: own exceptions made, raised, caught. -/
namespace My
open PySem PySem.Spec PyProof.Rows L2
/-- __init__ of an own exception: self.f = f, one after the other -/
def spI (C : Addr) (fs : List Str) : Sp := fun vs H Q _ => ∃ (a : Addr) (ws : List V), vs = .ref a :: ws ∧ ws.length = fs.length ∧ H a = some (exo a C none) ∧
  ∀ dx H2, H dx = none → dx ≠ a → H2 a = some (exo a C (some dx)) → H2 dx = some (exd dx (fs.zip ws).reverse) → (∀ b, b ≠ a → b ≠ dx → H2 b = H b) → Q .non H2
/-- what is known of an own exception class -/
structure HasX (P : Program) (w : World) (K : PySem.W.Frag) (mg : Str → Option Value) (base : Heap) (x : Str) (fs : List Str) : Prop where
  ex : ∃ fd : FuncData, FnOk P w K mg base CX0 1 (He.ma K (He.ga K x) "__init__") fd ("self" :: fs) (spI (He.ga K x) fs) ∧ Binds K fd ("self" :: fs) []
  tx : ExcT K (He.ga K x) fs
  mg : mg x = some (.ref (He.ga K x))
section
variable {K : PySem.W.Frag} {σ : L2.St} {H : Hp} {C : Addr} {f f1 f2 f3 : Str} {to te : TE} {nx bk ct : L2.St → Hp → Prop} {rt : VK} {tr : TA}
def kOst (K : PySem.W.Frag) (f : Str) (nx : L2.St → Hp → Prop) (σ : L2.St) (y : V) : VK := fun x H2 => ∃ a C : Addr, x = .ref a ∧ OexC K C ∧ PySem.W.findIn K (.ref C) f = some none ∧
  ((H2 a = some (exo a C none) ∧ ∀ dx, H2 dx = none → dx ≠ a → nx σ (upd (upd H2 dx (exd dx [(f, y)])) a (exo a C (some dx)))) ∨
    ∃ (dx : Addr) (fs : List (Str × V)), H2 a = some (exo a C (some dx)) ∧ H2 dx = some (exd dx fs) ∧ fs.length ≤ 900 ∧ nx σ (upd H2 dx (exd dx ((f, y) :: fs))))
theorem g_ost (h : te σ H (fun y H1 => to σ H1 (kOst K f nx σ y))) : tOst K f to te ⟨nx, rt, bk, ct⟩ σ H := h
theorem g_kOst1 {y : V} {a : Addr} (T : OexC K C) (n : PySem.W.findIn K (.ref C) f = some none) (h : H a = some (exo a C none)) (q : ∀ dx H2, H dx = none → dx ≠ a → H2 a = some (exo a C (some dx)) → H2 dx = some (exd dx [(f, y)]) → (∀ b, b ≠ a → b ≠ dx → H2 b = H b) → nx σ H2) : kOst K f nx σ y (.ref a) H :=
  ⟨a, C, rfl, T, n, .inl ⟨h, fun dx hd hne => q dx _ hd hne upd_same (by rw [upd_ne hne, upd_same]) fun b h1 h2 => by rw [upd_ne h1, upd_ne h2]⟩⟩
theorem g_kOst2 {y : V} {a dx : Addr} {fs : List (Str × V)} (T : OexC K C) (n : PySem.W.findIn K (.ref C) f = some none) (h : H a = some (exo a C (some dx))) (hd : H dx = some (exd dx fs)) (hne : dx ≠ a) (hl : fs.length ≤ 900)
    (q : ∀ H2, H2 a = some (exo a C (some dx)) → H2 dx = some (exd dx ((f, y) :: fs)) → (∀ b, b ≠ dx → H2 b = H b) → nx σ H2) : kOst K f nx σ y (.ref a) H :=
  ⟨a, C, rfl, T, n, .inr ⟨dx, fs, h, hd, hl, q _ (by rw [upd_ne hne.symm]; exact h) upd_same fun b hb => upd_ne hb⟩⟩
/-- C(e, ..) that is raised -/
def kMkO (C : Addr) (fs : List Str) (Q : XK) : List V → Hp → Prop := fun vs H1 => vs.length ≤ 1000 ∧ ∀ a, H1 a = none → spI C fs (.ref a :: (vs ++ [])) (upd H1 a (exo a C none))
  (fun v H2 => v = .non ∧ ∃ (d : Addr) (fs : List (Str × V)), H2 a = some (exo a C (some d)) ∧ H2 d = some (exd d fs) ∧ H1 d = none ∧ Q (.ref C) (some d) (upd (del H2 a) d (.xd fs))) (fun _ _ _ => False)
theorem g_mkO {fs : List Str} {Q : XK} (h : tr σ H (kMkO C fs Q)) : tMkO C (spI C fs) [] tr σ H Q := h
theorem g_kMkO {fs : List Str} {Q : XK} {ws : List V} (hl : ws.length = fs.length) (h9 : ws.length ≤ 900) (q : ∀ d H2, H d = none → Step [] H H2 → H2 d = some (.xd (fs.zip ws).reverse) → Q (.ref C) (some d) H2) : kMkO C fs Q ws H := by
  refine ⟨by omega, fun a ha => ⟨a, ws, by rw [List.append_nil], hl, upd_same, fun dx H2 hdx hne e1 e2 e3 => ⟨rfl, dx, _, e1, e2, ?_, ?_⟩⟩⟩
  · rwa [upd_ne hne] at hdx
  · have hdx : H dx = none := by rwa [upd_ne hne] at hdx
    refine q dx _ hdx ⟨fun b o _ h => ?_, fun b h => ?_⟩ upd_same
    · have h1 := ne_of_none h ha
      have h2 := ne_of_none h hdx
      rw [upd_ne h2, del_ne h1, e3 b h1 h2, upd_ne h1]
      exact h
    · by_cases h2 : b = dx
      · rw [h2, upd_same] at h; cases h
      · rw [upd_ne h2] at h
        by_cases h1 : b = a
        · rw [h1]; exact ha
        · rwa [del_ne h1, e3 b h1 h2, upd_ne h1] at h
theorem g_callS {sp : Sp} {E : L2.St → XK} {Q : VK} (h : tr σ H (fun vs H1 => sp vs H1 Q (E σ))) : tCallS sp E tr σ H Q := h
/-- err.f -/
def kXf (a : Addr) (cls : Value) (d : Option Addr) (C : Addr) (f : Str) (Q : VK) : VK := fun x H1 => x = .ref a ∧ cls = .ref C ∧ ∃ (dd : Addr) (fs : List (Str × V)) (v : V), d = some dd ∧ H1 dd = some (.xd fs) ∧ fs.lookup f = some v ∧ Q v H1
theorem g_xf {a : Addr} {cls : Value} {d : Option Addr} {Q : VK} (h : te σ H (kXf a cls d C f Q)) : tXf a cls d C f te σ H Q := h
theorem g_kXf {a dd : Addr} {fs : List (Str × V)} {v : V} {Q : VK} (h : H dd = some (.xd fs)) (e : fs.lookup f = some v) (q : Q v H) : kXf a (.ref C) (some dd) C f Q (.ref a) H := ⟨rfl, rfl, dd, fs, v, rfl, h, e, q⟩
end
/-! name = {.. for ..} on one line, the name a local -/
section
variable {X : Cx}
theorem ps_setDc {i : Nat} {y : Str} {py : Pos} {kx vx tg iter : Expr} {ifs : List Expr} {scope : Scope} {own : List (Str × Nat)} {pos spos : Pos} {wi : TI} {g : TG} {tt : TT} {tk tv : TE} (hc : X.calm = true) (hN : X.N.Nodup) (hy : X.N[i]? = some y) (hyl : X.env.scope.names.lookup y = some .local)
    (hsw : swapsWith (.DictComp kx vx [⟨tg, iter, ifs, 0⟩] scope pos) (some (.Name y py)) spos.line X.env = pure true) (hi : PI X tg iter wi) (ok : BlkOk X.N X.env.scope scope own)
    (hg : ∀ (s : Shared) (H : Hp) (C : Addr) (cl : List (Str × Addr)) (fp : List Addr), PG (X.blk s H scope (compEnvC scope cl C X.env) fp) tg g) (ht : ∀ (s : Shared) (H : Hp) (C : Addr) (cl : List (Str × Addr)) (fp : List Addr), PTs (X.blk s H scope (compEnvC scope cl C X.env) fp) ifs tt)
    (hk : ∀ (s : Shared) (H : Hp) (C : Addr) (cl : List (Str × Addr)) (fp : List Addr), PE (X.blk s H scope (compEnvC scope cl C X.env) fp) kx tk)
    (he : ∀ (s : Shared) (H : Hp) (C : Addr) (cl : List (Str × Addr)) (fp : List Addr), PE (X.blk s H scope (compEnvC scope cl C X.env) fp) vx tv) (hs : ∀ x, foldedSetIterable iter X.env x = pure x := by intro _; rfl) :
    PS X (.Assign [.Name y py] (.DictComp kx vx [⟨tg, iter, ifs, 0⟩] scope pos) spos) (tAsg (tDc wi g tt tk tv (own.map (·.2))) (gName i)) := by
  refine ⟨fun pins s σ H D I h => ?_⟩
  rw [exec_Assign_Name_used _ _ _ _ hsw]
  refine wpAny_bind (wpAny_standAt (wpAny_bind ?_))
  show wpAny _ X.A (do let _ ← comprehension (.DictComp kx vx [⟨tg, iter, ifs, 0⟩] scope pos) scope X.env (firstIterPos [⟨tg, iter, ifs, 0⟩] pos) newDict false (eval iter X.env) (some (assign (.Name y py) X.env))) _ _ s
  have h : tDc wi g tt tk tv (own.map (·.2)) σ H (fun x H1 => gName i x σ H1 D.nx) := h
  refine wpAny_bind (thn (dc_core (Qf := fun _ s' => SP X pins D .next s') hc hN I hi ok hg ht hk he hs h fun L C s' m H' I' q hn f => ?_) fun _ s' hq => wpAny_pure (wpAny_pure hq))
  show wpAny _ _ (assign (.Name y py) X.env (.ref L)) _ _ _
  refine wpAny_assign_Name (store_ok2 (v := V.ref L) I' hN hy (.inl hyl) rfl (fun s2 I2 ⟨a, sb, ha⟩ => ?_) (.inr hyl))
  obtain ⟨f0, f1, f2, f3, f4, f5⟩ := f
  have haC : C ≠ a := by
    rcases ha with z | z
    · rw [z]; exact f1
    · exact fun e => f4 y a z e.symm
  refine ⟨m, hn.sameBut sb haC, fun h3 sb3 => ?_⟩
  exact ⟨_, H', I2.turned (t' := s2.toks) (fun b o hb e => (sb3.2 b hb).trans e) f0 f1 f3 f4 f5, q⟩
theorem sw_trueD {kx vx : Expr} {gs : List Comprehension} {scope : Scope} {pos py : Pos} {y : Str} {l : Nat} {env : Env} (hk : env.scope.kind = .function) (hy : env.scope.names.lookup y = some .local) (hl : (py.line == pos.line) = true)
    (ha : (scope.names.any fun (n, k) => n == y && (k == .local || k == .cell)) = false) : swapsWith (.DictComp kx vx gs scope pos) (some (.Name y py)) l env = pure true := by
  have ky : env.kindOf y = some .local := hy
  have hb : env.blockKind = .function := by unfold Env.blockKind; rw [hk]; rfl
  unfold swapsWith
  simp only [hb, ky, ha, Expr.pos, hl]
  rfl
end
theorem unit2 {k : Nat} {A : Around} (hr : Room k A) : A.units + 64 + 2 < cLine := by
  have := hr.un
  omega
end My
/-! Kit7: ranges as values, isinstance. -/
namespace My
open PySem PySem.Spec PyProof.Rows L2
section
variable {X : Cx} {K : PySem.W.Frag} {H : Hp} {Q : VK} {i j : Int} {p : Addr}
def rRngV : List V → Hp → VK → Prop := fun vs H Q => ∃ j, vs = [V.int j] ∧ ∀ p, H p = none → Q (.ref p) (upd H p (.rng 0 j))
theorem cr_rngV : CallR X (.type "range") rRngV := by
  intro pins s σ H vs us Q I r h
  obtain ⟨j, rfl, q⟩ := h
  obtain ⟨u1, rfl, ri⟩ := vals1 r
  obtain ⟨t, rfl⟩ := ri
  refine call_range_1 ⟨.ref s.heap.objs.size, upd H s.heap.objs.size (.rng 0 j), I.laid (t' := s.toks + 1 + 1) (fun b o e => Heap.get?_push_of_some _ e) (Nat.le_refl _) ?_, rfl, q _ (I.hok.fresh (Nat.le_refl _))⟩
  exact ⟨s.toks, t, s.toks + 1, Heap.get?_push_size _ rfl⟩
theorem g_rngV (q : ∀ p H2, H p = none → Step [] H H2 → H2 p = some (.rng 0 j) → Q (.ref p) H2) : rRngV [.int j] H Q := ⟨j, rfl, fun p hp => q p _ hp (Step.new hp) upd_same⟩
def rInRng (neg : Bool) : R2 := fun x y H Q => ∃ i a lo hi, x = V.int i ∧ y = V.ref a ∧ H a = some (.rng lo hi) ∧ Q (.bl (if neg then !decide (lo ≤ i ∧ i < hi) else decide (lo ≤ i ∧ i < hi))) H
theorem op_inRng : OpR X (compareOp .In) (rInRng false) := op_in_rng
theorem op_notInRng : OpR X (compareOp .NotIn) (rInRng true) := by
  intro pins s σ H x y v u Q I rx ry h
  obtain ⟨i, a, lo, hi, rfl, rfl, ha, q⟩ := h
  obtain ⟨k, rfl⟩ := rx
  obtain rfl : u = Value.ref a := ry
  obtain ⟨t1, t2, t3, ho⟩ := I.hok a _ ha
  show wpAny _ _ (do return Value.bool (!(← contains (Value.ref a) (Value.int i k)))) _ _ s
  refine wpAny_bind (wpAny_contains_slot (T := "range") ⟨_, ho, rfl⟩ F.slot_range_contains (call_meets F.slot_range_contains ⟨_, ho, rfl⟩ F.entry_range_contains (F.args_range_contains_2 _ _) (q_contains a lo hi i t1 t2 t3 k)
    ⟨ho, wpAny_truthy_bool (wpAny_pure ⟨.bl _, H, I, rfl, ?_⟩)⟩))
  rw [place1]
  exact q
theorem g_inRng {lo hi : Int} (h : H p = some (.rng lo hi)) (q : Q (.bl (decide (lo ≤ i ∧ i < hi))) H) : rInRng false (.int i) (.ref p) H Q := ⟨i, p, lo, hi, rfl, rfl, h, q⟩
theorem g_notInRng {lo hi : Int} (h : H p = some (.rng lo hi)) (q : Q (.bl (!decide (lo ≤ i ∧ i < hi))) H) : rInRng true (.int i) (.ref p) H Q := ⟨i, p, lo, hi, rfl, rfl, h, q⟩
/-! isinstance -/
theorem g_isi {x : V} {a b : String} {r : Bool} (ty : TyX K H x (.type a)) (e : kitB a b = some r := by decide +kernel) (q : Q (.bl r) H) : rIsi K [x, .ty b] H Q := ⟨x, _, _, _, r, rfl, .ty b, ty, kit_ty e, q⟩
theorem g_isiDD {kvs : List (Key × V)} (h : H p = some (.dK kvs)) (q : Q (.bl true) H) : rIsi K [.ref p, .ty "dict"] H Q := g_isi (.base (.dK h)) (by decide +kernel) q
theorem g_isiDT {kvs : List (Key × V)} (h : H p = some (.dK kvs)) (q : Q (.bl false) H) : rIsi K [.ref p, .ty "tuple"] H Q := g_isi (.base (.dK h)) (by decide +kernel) q
theorem g_isiTT {xs : List V} (h : H p = some (.tup xs)) (q : Q (.bl true) H) : rIsi K [.ref p, .ty "tuple"] H Q := g_isi (.base (.tup h)) (by decide +kernel) q
theorem g_isiTD {xs : List V} (h : H p = some (.tup xs)) (q : Q (.bl false) H) : rIsi K [.ref p, .ty "dict"] H Q := g_isi (.base (.tup h)) (by decide +kernel) q
end
end My
/-! Kit8: enumerate(zip(xs, ys)) of two lists. -/
namespace My
open PySem PySem.Spec PyProof.Rows L2
section
variable {prog : Program} {w : World} {A : Around} {E : Value → Shared → Prop} {s : Shared} {z TI TO i1 i2 l1 l2 e : Addr}
abbrev IsZ (h : Heap) (z TI TO : Addr) (f0 f1 : Value) : Prop := h.get? z = some { cls := .type "zip", dict := none, data := .fields #[f0, f1, .bool false, .ref TI, .ref TO], slots := #[] }
/-- the pair given out ahead is free: as at the first turn -/
theorem zip_free {k1 k2 : Nat} {xs ys : Array Value} {x y a b f0 f1 : Value} {Q : Value → Shared → Prop} (D : ZipApart z TI TO i1 i2 l1 l2)
    (fr : ∀ Q' : Bool → Shared → Prop, Q' true s → wpAny (model prog w) A (Builtin.SmallTypes.ownedTupleIsFree (.ref z)) Q' E s)
    (hz : IsZ s.heap z TI TO f0 f1) (hI : IsPair s.heap TI (.ref i1) (.ref i2)) (hO : IsPair s.heap TO a b) (g1 : s.heap.IsListIter i1 l1 k1) (g2 : s.heap.IsListIter i2 l2 k2)
    (m1 : s.heap.IsList l1 xs) (m2 : s.heap.IsList l2 ys) (ex : xs[k1]? = some x) (ey : ys[k2]? = some y)
    (q : ∀ h', IsZ h' z TI TO (rawInt s.heap.objs.size) (.bool false) → IsPair h' TO x y → h'.IsListIter i1 l1 (k1 + 1) → h'.IsListIter i2 l2 (k2 + 1) → IsPair h' s.heap.objs.size x y → h'.objs.size = s.heap.objs.size + 1 →
      (∀ c o, c ≠ z → c ≠ TO → c ≠ i1 → c ≠ i2 → s.heap.get? c = some o → h'.get? c = some o) → Q (.ref s.heap.objs.size) { s with heap := h' }) :
    wpAny (model prog w) A (Builtin.«zip.__next__» ⟨[.ref z], []⟩) (fun fin s' => ∃ v, fin = .done (.ret v) ∧ Q v s') E s := by
  show wpAny (model prog w) A (field (.ref z) 2 >>= _) _ E s
  refine wpAny_bind (wpAny_field hz rfl (x := .bool false) rfl ?_); show wpAny (model prog w) A (field (.ref z) 3 >>= _) _ E s
  refine wpAny_bind (wpAny_field hz rfl (x := .ref TI) rfl (wpAny_bind (wpAny_seqItems hI rfl ?_))); show wpAny (model prog w) A (Builtin.SmallTypes.ownedTupleIsFree (.ref z) >>= _) _ E s
  refine wpAny_bind (fr _ ?_); simp only [if_true]
  refine wpAny_bind (wpAny_rule (wpAny_bind (wpAny_field hz rfl (x := .ref TO) rfl (wpAny_bind (wpAny_setField_rec hz (by simp) fun ha za ka => ?_)))))
  replace za : IsZ ha z TI TO .ellipsis f1 := za
  refine wpAny_bind ?_; simp only [List.zipIdx_cons, List.zipIdx_nil, List.forIn_cons, List.forIn_nil]
  refine wpAny_bind (wpAny_bind (wpAny_onRaise ?_)); show wpAny (model prog w) A (Builtin.SmallTypes.nextOf (.ref i1) >>= _) _ _ _
  refine wpAny_bind (wpAny_nextOf_list_item (g1.extBut ka.extBut D.i1z) (m1.extBut ka.extBut D.l1z) ex fun hb g1b kb => wpAny_pure ?_)
  have Ob : IsPair hb TO a b := kb.extBut TO _ D.TOi1 (ka.extBut TO _ D.TOz hO)
  refine wpAny_bind (wpAny_seqItems Ob rfl (wpAny_bind (wpAny_updateSeq_pair Ob fun hc Oc kc => ?_)))
  replace Oc : IsPair hc TO x b := Oc
  refine wpAny_bind (wpAny_letGo (wpAny_pure (wpAny_bind (wpAny_bind (wpAny_onRaise ?_))))); show wpAny (model prog w) A (Builtin.SmallTypes.nextOf (.ref i2) >>= _) _ _ _
  refine wpAny_bind (wpAny_nextOf_list_item (((g2.extBut ka.extBut D.i2z).extBut kb.extBut D.i12.symm).extBut kc.extBut D.TOi2.symm) (((m2.extBut ka.extBut D.l2z).extBut kb.extBut D.l2i1).extBut kc.extBut D.l2TO) ey fun hd g2d kd => wpAny_pure ?_)
  have Od : IsPair hd TO x b := kd.extBut TO _ D.TOi2 Oc
  refine wpAny_bind (wpAny_seqItems Od rfl (wpAny_bind (wpAny_updateSeq_pair Od fun he Oe ke => ?_)))
  replace Oe : IsPair he TO x y := Oe
  refine wpAny_bind (wpAny_letGo (wpAny_pure (wpAny_pure (wpAny_bind (wpAny_seqItems Oe rfl (wpAny_bind (wpAny_newTuple ?_)))))))
  have sz : he.objs.size = s.heap.objs.size := by rw [ke.1, kd.1, kc.1, kb.1, ka.1]
  have ze : IsZ he z TI TO .ellipsis f1 := ke.extBut z _ D.TOz.symm (kd.extBut z _ D.i2z.symm (kc.extBut z _ D.TOz.symm (kb.extBut z _ D.i1z.symm za)))
  have kk : ∀ c o, c ≠ z → c ≠ TO → c ≠ i1 → c ≠ i2 → s.heap.get? c = some o → he.get? c = some o := fun c o n1 n2 n3 n4 u => ke.extBut c o n2 (kd.extBut c o n4 (kc.extBut c o n2 (kb.extBut c o n3 (ka.extBut c o n1 u))))
  have g1e : he.IsListIter i1 l1 (k1 + 1) := ((g1b.extBut kc.extBut D.TOi1.symm).extBut kd.extBut D.i12).extBut ke.extBut D.TOi1.symm
  have g2e : he.IsListIter i2 l2 (k2 + 1) := g2d.extBut ke.extBut D.TOi2.symm
  have zlt : z < he.objs.size := Heap.lt_size ze
  show wpAny (model prog w) A (Builtin.SmallTypes.ownedTupleHandOut (.ref z) (.ref he.objs.size) >>= _) _ E _
  refine wpAny_bind ?_
  unfold Builtin.SmallTypes.ownedTupleHandOut
  have zf : IsZ (he.push { cls := .type "tuple", data := .seq #[x, y] }) z TI TO .ellipsis f1 := Heap.get?_push_of_some _ ze
  refine wpAny_bind (wpAny_setField_rec zf (by simp) fun hg zg kg => ?_)
  replace zg : IsZ hg z TI TO (rawInt he.objs.size) f1 := zg
  refine wpAny_setField_rec zg (by simp) fun hi zi ki => ?_
  replace zi : IsZ hi z TI TO (rawInt he.objs.size) (.bool false) := zi
  have up : ∀ c o, c ≠ z → he.get? c = some o → hi.get? c = some o := fun c o n1 u => ki.extBut c o n1 (kg.extBut c o n1 (Heap.get?_push_of_some _ u))
  have Ti : IsPair hi he.objs.size x y := ki.extBut _ _ (Nat.ne_of_gt zlt) (kg.extBut _ _ (Nat.ne_of_gt zlt) (Heap.get?_push_size _ rfl))
  have si : hi.objs.size = he.objs.size + 1 := by rw [ki.1, kg.1, Heap.size_push]
  rw [sz] at zi Ti si
  refine wpAny_pure ⟨_, rfl, ?_⟩
  show Q (.ref he.objs.size) _
  rw [sz]
  exact q hi zi (up TO _ D.TOz Oe) (g1e.at fun o u => up i1 o D.i1z u) (g2e.at fun o u => up i2 o D.i2z u) Ti si fun c o n1 n2 n3 n4 u => up c o n1 (kk c o n1 n2 n3 n4 u)
/-- what is known of such a zip -/
structure ZSt (h : Heap) (z TI TO i1 i2 l1 l2 : Addr) (k : Nat) : Prop where
  zp : ∃ f0 f1, IsZ h z TI TO f0 f1 ∧ ((f0 = .none ∧ f1 = .bool false) ∨ ∃ (T : Addr) (f : Bool), f0 = rawInt T ∧ f1 = .bool f)
  ti : IsPair h TI (.ref i1) (.ref i2)
  to : ∃ a b, IsPair h TO a b
  g1 : h.IsListIter i1 l1 k
  g2 : h.IsListIter i2 l2 k
theorem not_alive {a : Addr} {Q : Option Obj → Shared → Prop} (ho : s.heap.get? a = none) (h : Q none s) : wpAny (model prog w) A (loadIfAlive a) Q E s := by
  have k : Q (s.heap.get? a) s := by rw [ho]; exact h
  exact fun _ _ _ => k
theorem gone_is_free {T : Addr} {f1 : Value} (hz : IsZ s.heap z TI TO (rawInt T) f1) (hT : s.heap.get? T = none) (Q' : Bool → Shared → Prop) (h : Q' true s) : wpAny (model prog w) A (Builtin.SmallTypes.ownedTupleIsFree (.ref z)) Q' E s := by
  unfold Builtin.SmallTypes.ownedTupleIsFree
  refine wpAny_bind (wpAny_field hz rfl (x := rawInt T) rfl ?_); show wpAny (model prog w) A (loadIfAlive ((T : Int).toNat) >>= _) _ E s
  rw [Int.toNat_natCast]
  refine wpAny_bind (not_alive hT ?_)
  exact wpAny_pure h
theorem none_is_free {f1 : Value} (hz : IsZ s.heap z TI TO .none f1) (Q' : Bool → Shared → Prop) (h : Q' true s) : wpAny (model prog w) A (Builtin.SmallTypes.ownedTupleIsFree (.ref z)) Q' E s := by
  unfold Builtin.SmallTypes.ownedTupleIsFree
  exact wpAny_bind (wpAny_field hz rfl (x := .none) rfl (wpAny_pure h))
theorem zip_any {k : Nat} {xs ys : Array Value} {x y : Value} {Q : Value → Shared → Prop} (D : ZipApart z TI TO i1 i2 l1 l2) (st : ZSt s.heap z TI TO i1 i2 l1 l2 k)
    (m1 : s.heap.IsList l1 xs) (m2 : s.heap.IsList l2 ys) (ex : xs[k]? = some x) (ey : ys[k]? = some y)
    (q : ∀ h', ZSt h' z TI TO i1 i2 l1 l2 (k + 1) → IsPair h' s.heap.objs.size x y → h'.objs.size = s.heap.objs.size + 1 →
      (∀ c o, c ≠ z → c ≠ TO → c ≠ i1 → c ≠ i2 → s.heap.get? c = some o → h'.get? c = some o) → Q (.ref s.heap.objs.size) { s with heap := h' }) :
    wpAny (model prog w) A (Builtin.«zip.__next__» ⟨[.ref z], []⟩) (fun fin s' => ∃ v, fin = .done (.ret v) ∧ Q v s') E s := by
  obtain ⟨⟨f0, f1, hz, hf⟩, ti, ⟨a, b, to⟩, g1, g2⟩ := st
  have fresh : ∀ fr : (∀ Q' : Bool → Shared → Prop, Q' true s → wpAny (model prog w) A (Builtin.SmallTypes.ownedTupleIsFree (.ref z)) Q' E s), wpAny (model prog w) A (Builtin.«zip.__next__» ⟨[.ref z], []⟩) (fun fin s' => ∃ v, fin = .done (.ret v) ∧ Q v s') E s := fun fr =>
    zip_free D fr hz ti to g1 g2 m1 m2 ex ey fun h' a1 a2 a3 a4 a5 a6 a7 => q h' ⟨⟨_, _, a1, .inr ⟨_, _, rfl, rfl⟩⟩, a7 _ _ D.TIz D.TITO D.TIi1 D.TIi2 ti, ⟨_, _, a2⟩, a3, a4⟩ a5 a6 a7
  rcases hf with ⟨rfl, rfl⟩ | ⟨T, f, rfl, rfl⟩
  · exact fresh fun Q' hq => none_is_free hz Q' hq
  · cases hT : s.heap.get? T with
    | none => exact fresh fun Q' hq => gone_is_free hz hT Q' hq
    | some oT => exact zip_next_item_held D hz hT ti g1 g2 m1 m2 ex ey fun h' a1 a3 a4 a5 a6 a7 => q h' ⟨⟨_, _, a1, .inr ⟨_, _, rfl, rfl⟩⟩, a7 _ _ D.TIz D.TIi1 D.TIi2 ti, ⟨_, _, a7 _ _ D.TOz D.TOi1 D.TOi2 to⟩, a3, a4⟩ a5 a6 fun c o n1 n2 n3 n4 u => a7 c o n1 n3 n4 u
abbrev Ends4 (s : Shared) (z TO i1 i2 : Addr) (E : Value → Shared → Prop) : Prop := ∀ h' x, (∀ c o, c ≠ z → c ≠ TO → c ≠ i1 → c ≠ i2 → s.heap.get? c = some o → h'.get? c = some o) → (∃ o, h'.get? x = some o ∧ o.cls = .type "StopIteration") → E (.ref x) { s with heap := h' }
theorem zip_free_end {k : Nat} {xs ys : Array Value} {a b f0 f1 : Value} {Q : Fin → Shared → Prop} (hh : A.handled = none) (D : ZipApart z TI TO i1 i2 l1 l2)
    (fr : ∀ Q' : Bool → Shared → Prop, Q' true s → wpAny (model prog w) A (Builtin.SmallTypes.ownedTupleIsFree (.ref z)) Q' E s)
    (hz : IsZ s.heap z TI TO f0 f1) (hI : IsPair s.heap TI (.ref i1) (.ref i2)) (hO : IsPair s.heap TO a b) (g1 : s.heap.IsListIter i1 l1 k) (g2 : s.heap.IsListIter i2 l2 k)
    (m1 : s.heap.IsList l1 xs) (m2 : s.heap.IsList l2 ys) (ex : xs[k]? = none ∨ ys[k]? = none) (q : Ends4 s z TO i1 i2 E) : wpAny (model prog w) A (Builtin.«zip.__next__» ⟨[.ref z], []⟩) Q E s := by
  show wpAny (model prog w) A (field (.ref z) 2 >>= _) _ E s
  refine wpAny_bind (wpAny_field hz rfl (x := .bool false) rfl ?_); show wpAny (model prog w) A (field (.ref z) 3 >>= _) _ E s
  refine wpAny_bind (wpAny_field hz rfl (x := .ref TI) rfl (wpAny_bind (wpAny_seqItems hI rfl ?_))); show wpAny (model prog w) A (Builtin.SmallTypes.ownedTupleIsFree (.ref z) >>= _) _ E s
  refine wpAny_bind (fr _ ?_); simp only [if_true]
  refine wpAny_bind (wpAny_rule (wpAny_bind (wpAny_field hz rfl (x := .ref TO) rfl (wpAny_bind (wpAny_setField_rec hz (by simp) fun ha za ka => ?_)))))
  replace za : IsZ ha z TI TO .ellipsis f1 := za
  refine wpAny_bind ?_; simp only [List.zipIdx_cons, List.zipIdx_nil, List.forIn_cons, List.forIn_nil]
  refine wpAny_bind (wpAny_bind (wpAny_onRaise ?_)); show wpAny (model prog w) A (Builtin.SmallTypes.nextOf (.ref i1) >>= _) _ _ _
  have g1a := g1.extBut ka.extBut D.i1z
  have m1a := m1.extBut ka.extBut D.l1z
  cases e1 : xs[k]? with
  | none =>
    refine wpAny_bind (wpAny_nextOf_list_end hh g1a m1a e1 fun hb x kb hx => ?_)
    obtain ⟨ob, hob, cb⟩ := hx
    have zb : IsZ hb z TI TO .ellipsis f1 := kb z _ D.i1z.symm za
    have nz : x ≠ z := fun u => by subst u; rw [zb] at hob; cases hob; simp at cb
    exact wpAny_setField_rec zb (by simp) fun hc _ kc => q hc x (fun c o n1 _ n3 _ u => kc.extBut c o n1 (kb c o n3 (ka.extBut c o n1 u))) ⟨ob, kc.extBut x _ nz hob, cb⟩
  | some u1 =>
    have e2 : ys[k]? = none := by
      rcases ex with ex | ex
      · rw [e1] at ex; cases ex
      · exact ex
    refine wpAny_bind (wpAny_nextOf_list_item g1a m1a e1 fun hb g1b kb => wpAny_pure ?_)
    have Ob : IsPair hb TO a b := kb.extBut TO _ D.TOi1 (ka.extBut TO _ D.TOz hO)
    refine wpAny_bind (wpAny_seqItems Ob rfl (wpAny_bind (wpAny_updateSeq_pair Ob fun hc Oc kc => ?_)))
    refine wpAny_bind (wpAny_letGo (wpAny_pure (wpAny_bind (wpAny_bind (wpAny_onRaise ?_))))); show wpAny (model prog w) A (Builtin.SmallTypes.nextOf (.ref i2) >>= _) _ _ _
    refine wpAny_bind (wpAny_nextOf_list_end hh (((g2.extBut ka.extBut D.i2z).extBut kb.extBut D.i12.symm).extBut kc.extBut D.TOi2.symm) (((m2.extBut ka.extBut D.l2z).extBut kb.extBut D.l2i1).extBut kc.extBut D.l2TO) e2 fun hd x kd hx => ?_)
    obtain ⟨ob, hob, cb⟩ := hx
    have zd : IsZ hd z TI TO .ellipsis f1 := kd z _ D.i2z.symm (kc.extBut z _ D.TOz.symm (kb.extBut z _ D.i1z.symm za))
    have nz : x ≠ z := fun u => by subst u; rw [zd] at hob; cases hob; simp at cb
    exact wpAny_setField_rec zd (by simp) fun hf _ kf => q hf x (fun c o n1 n2 n3 n4 u => kf.extBut c o n1 (kd c o n4 (kc.extBut c o n2 (kb.extBut c o n3 (ka.extBut c o n1 u))))) ⟨ob, kf.extBut x _ nz hob, cb⟩
theorem zip_end {k : Nat} {xs ys : Array Value} {Q : Fin → Shared → Prop} (hh : A.handled = none) (D : ZipApart z TI TO i1 i2 l1 l2) (st : ZSt s.heap z TI TO i1 i2 l1 l2 k)
    (m1 : s.heap.IsList l1 xs) (m2 : s.heap.IsList l2 ys) (ex : xs[k]? = none ∨ ys[k]? = none) (q : Ends4 s z TO i1 i2 E) : wpAny (model prog w) A (Builtin.«zip.__next__» ⟨[.ref z], []⟩) Q E s := by
  obtain ⟨⟨f0, f1, hz, hf⟩, ti, ⟨a, b, to⟩, g1, g2⟩ := st
  rcases hf with ⟨rfl, rfl⟩ | ⟨T, f, rfl, rfl⟩
  · exact zip_free_end hh D (fun Q' hq => none_is_free hz Q' hq) hz ti to g1 g2 m1 m2 ex q
  · cases hT : s.heap.get? T with
    | none => exact zip_free_end hh D (fun Q' hq => gone_is_free hz hT Q' hq) hz ti to g1 g2 m1 m2 ex q
    | some oT => exact zip_next_end_held hh D hz hT ti g1 g2 m1 m2 ex fun h' x n hx => q h' x (fun c o n1 _ n3 n4 u => n c o n1 n3 n4 u) hx
theorem ZSt.ty {k : Nat} (st : ZSt s.heap z TI TO i1 i2 l1 l2 k) : s.TypeIs (.ref z) "zip" := by
  obtain ⟨f0, f1, hz, _⟩ := st.zp
  exact ⟨_, hz, rfl⟩
theorem zip_nextOf {k : Nat} {xs ys : Array Value} {x y : Value} {Q : Value → Shared → Prop} (D : ZipApart z TI TO i1 i2 l1 l2) (st : ZSt s.heap z TI TO i1 i2 l1 l2 k)
    (m1 : s.heap.IsList l1 xs) (m2 : s.heap.IsList l2 ys) (ex : xs[k]? = some x) (ey : ys[k]? = some y)
    (q : ∀ h', ZSt h' z TI TO i1 i2 l1 l2 (k + 1) → IsPair h' s.heap.objs.size x y → h'.objs.size = s.heap.objs.size + 1 →
      (∀ c o, c ≠ z → c ≠ TO → c ≠ i1 → c ≠ i2 → s.heap.get? c = some o → h'.get? c = some o) → Q (.ref s.heap.objs.size) { s with heap := h' }) :
    wpAny (model prog w) A (Builtin.SmallTypes.nextOf (.ref z)) Q E s := by
  unfold Builtin.SmallTypes.nextOf
  exact wpAny_bind (wpAny_callSpecial?_slot (name := Str.ofString "__next__") st.ty F.slot_zip_next (wpAny_call_entry F.slot_zip_next st.ty F.entry_zip_next
    (zip_any D st m1 m2 ex ey fun h' a1 a2 a3 a4 => wpAny_pure (q h' a1 a2 a3 a4)) (F.args_zip_next_1 _)))
theorem zip_nextOf_end {k : Nat} {xs ys : Array Value} {Q : Value → Shared → Prop} (hh : A.handled = none) (D : ZipApart z TI TO i1 i2 l1 l2) (st : ZSt s.heap z TI TO i1 i2 l1 l2 k)
    (m1 : s.heap.IsList l1 xs) (m2 : s.heap.IsList l2 ys) (ex : xs[k]? = none ∨ ys[k]? = none) (q : Ends4 s z TO i1 i2 E) : wpAny (model prog w) A (Builtin.SmallTypes.nextOf (.ref z)) Q E s := by
  unfold Builtin.SmallTypes.nextOf
  exact wpAny_bind (wpAny_callSpecial?_slot (name := Str.ofString "__next__") st.ty F.slot_zip_next (wpAny_call_entry F.slot_zip_next st.ty F.entry_zip_next
    (zip_end hh D st m1 m2 ex q) (F.args_zip_next_1 _)))
/-- a turn of enumerate over an iterator whose next lays an object -/
theorem enum_turn {it : Addr} {i : Nat} {old x : Value} {R : Heap → Prop} {Q : Option Value → Shared → Prop} (he : IsEnum s.heap e it i old)
    (hin : ∀ Q' E' : Value → Shared → Prop, (∀ h1, R h1 → IsEnum h1 e it i old → Q' x { s with heap := h1 }) → wpAny (model prog w) A.in1 (Builtin.SmallTypes.nextOf (.ref it)) Q' E' s)
    (q : ∀ h1 h', R h1 → IsEnumOut h' e it ((i : Int) + 1) x h1.objs.size → h'.get? h1.objs.size = some { cls := .type "tuple", data := .seq #[.int i s.toks, x] } → h'.objs.size = h1.objs.size + 1 →
      (∀ b o, b ≠ e → h1.get? b = some o → h'.get? b = some o) → Q (some (.ref h1.objs.size)) { s with heap := h', toks := s.toks + 1 }) :
    wpAny (model prog w) A (pyNext (.ref e)) Q E s := by
  have hT : s.TypeIs (.ref e) "enumerate" := ⟨_, he, rfl⟩
  unfold pyNext
  refine wpAny_bind (wpAny_attempt (wpAny_callSpecial?_slot (name := Str.ofString "__next__") hT F.slot_enumerate_next (wpAny_call_entry F.slot_enumerate_next hT F.entry_enumerate_next ?_ (F.args_enumerate_next_1 _))))
  obtain ⟨hp, g, d, tk, os⟩ := s
  show wpAny (model prog w) _ (field (.ref e) 2 >>= _) _ _ _
  refine wpAny_bind (wpAny_field he rfl (x := .ref it) rfl ?_)
  refine wpAny_bind (hin _ _ fun h1 r1 e1 => ?_)
  show wpAny (model prog w) _ (field (.ref e) 3 >>= _) _ _ ⟨h1, g, d, tk, os⟩
  refine wpAny_bind (wpAny_field e1 rfl (x := rawInt i) rfl ?_); show wpAny (model prog w) _ (field (.ref e) 4 >>= _) _ _ ⟨h1, g, d, tk, os⟩
  refine wpAny_bind (wpAny_field e1 rfl (x := .none) rfl ?_); show wpAny (model prog w) _ (mkInt i >>= _) _ _ ⟨h1, g, d, tk, os⟩
  refine wpAny_bind (wpAny_mkInt ?_); show wpAny (model prog w) _ (setField (.ref e) 3 (rawInt ((i : Int) + 1)) >>= _) _ _ ⟨h1, g, d, tk + 1, os⟩
  refine wpAny_bind (wpAny_setField_rec e1 (by simp) fun h2 e2 k2 => ?_)
  replace e2 : IsEnum h2 e it ((i : Int) + 1) old := e2
  replace k2 : Heap.SameBut e h1 h2 := k2
  show wpAny (model prog w) _ (setField (.ref e) 4 .none >>= _) _ _ ⟨h2, g, d, tk + 1, os⟩
  refine wpAny_bind (wpAny_setField_rec e2 (by simp) fun h3 e3 k3 => ?_)
  replace e3 : IsEnum h3 e it ((i : Int) + 1) old := e3
  replace k3 : Heap.SameBut e h2 h3 := k3
  show wpAny (model prog w) _ (newTuple [.int i tk, x] >>= _) _ _ ⟨h3, g, d, tk + 1, os⟩
  refine wpAny_bind (wpAny_newTuple ?_)
  have sz : h3.objs.size = h1.objs.size := by rw [k3.1, k2.1]
  have lt : e < h1.objs.size := Heap.lt_size e1
  have e4 : IsEnum (h3.push { cls := .type "tuple", data := .seq #[.int i tk, x] }) e it ((i : Int) + 1) old := Heap.get?_push_of_some _ e3
  have t4 : (h3.push { cls := .type "tuple", data := .seq #[.int i tk, x] }).get? h1.objs.size = some { cls := .type "tuple", data := .seq #[.int i tk, x] } := by rw [← sz]; exact Heap.get?_push_size _ rfl
  have z4 : (h3.push { cls := .type "tuple", data := .seq #[.int i tk, x] }).objs.size = h1.objs.size + 1 := by rw [Heap.size_push, sz]
  have u4 : ∀ b o, b ≠ e → h1.get? b = some o → (h3.push { cls := .type "tuple", data := .seq #[.int i tk, x] }).get? b = some o := fun b o n u => Heap.get?_push_of_some _ (k3.extBut b o n (k2.extBut b o n u))
  generalize h3.push { cls := .type "tuple", data := .seq #[.int i tk, x] } = h4 at e4 t4 z4 u4 ⊢
  show wpAny (model prog w) _ (Builtin.SmallTypes.ownedTupleIsFree (.ref e) >>= _) _ _ ⟨h4, g, d, tk + 1, os⟩
  rw [sz]
  refine wpAny_bind ?_
  unfold Builtin.SmallTypes.ownedTupleIsFree
  refine wpAny_bind (wpAny_field e4 rfl (x := .none) rfl (wpAny_pure ?_))
  simp only [if_true]
  refine wpAny_bind (wpAny_rule (wpAny_bind (wpAny_field e4 rfl (x := old) rfl (wpAny_bind (wpAny_setField_rec e4 (by simp) fun h5 e5 k5 => ?_)))))
  replace e5 : IsEnum h5 e it ((i : Int) + 1) x := e5
  replace k5 : Heap.SameBut e h4 h5 := k5
  show wpAny (model prog w) _ (Builtin.SmallTypes.ownedTupleHandOut (.ref e) (.ref h1.objs.size) >>= _) _ _ ⟨h5, g, d, tk + 1, os⟩
  refine wpAny_bind ?_
  unfold Builtin.SmallTypes.ownedTupleHandOut
  refine wpAny_bind (wpAny_setField_rec e5 (by simp) fun h6 e6 k6 => ?_)
  replace e6 : IsEnumOut h6 e it ((i : Int) + 1) x h1.objs.size := e6
  replace k6 : Heap.SameBut e h5 h6 := k6
  refine wpAny_setField_rec e6 (by simp) fun h7 e7 k7 => ?_
  replace e7 : IsEnumOut h7 e it ((i : Int) + 1) x h1.objs.size := e7
  replace k7 : Heap.SameBut e h6 h7 := k7
  have up : ∀ b o, b ≠ e → h4.get? b = some o → h7.get? b = some o := fun b o n u => k7.extBut b o n (k6.extBut b o n (k5.extBut b o n u))
  exact wpAny_bind (wpAny_letGo (wpAny_pure ⟨_, rfl, wpAny_pure (q h1 h7 r1 e7 (up _ _ (Nat.ne_of_gt lt) t4) (by rw [k7.1, k6.1, k5.1, z4]) fun b o n u => up b o n (u4 b o n u))⟩))
theorem enum_stop {it : Addr} {i : Nat} {old : Value} {R : Heap → Prop} {Q : Option Value → Shared → Prop} (he : IsEnum s.heap e it i old)
    (hin : ∀ Q' E' : Value → Shared → Prop, (∀ h1 x, R h1 → (∃ o, h1.get? x = some o ∧ o.cls = .type "StopIteration") → E' (.ref x) { s with heap := h1 }) → wpAny (model prog w) A.in1 (Builtin.SmallTypes.nextOf (.ref it)) Q' E' s)
    (q : ∀ h1, R h1 → Q none { s with heap := h1 }) : wpAny (model prog w) A (pyNext (.ref e)) Q E s := by
  have hT : s.TypeIs (.ref e) "enumerate" := ⟨_, he, rfl⟩
  unfold pyNext
  refine wpAny_bind (wpAny_attempt (wpAny_callSpecial?_slot (name := Str.ofString "__next__") hT F.slot_enumerate_next (wpAny_call_entry F.slot_enumerate_next hT F.entry_enumerate_next ?_ (F.args_enumerate_next_1 _))))
  show wpAny (model prog w) _ (field (.ref e) 2 >>= _) _ _ _
  refine wpAny_bind (wpAny_field he rfl (x := .ref it) rfl ?_)
  refine wpAny_bind (hin _ _ fun h1 x r1 ⟨o, ho, hc⟩ => ?_)
  refine wpAny_bind (wpAny_isInstance (T := "StopIteration") (b := true) ⟨o, ho, hc⟩ isSubtype_stop ?_)
  exact wpAny_pure (q h1 r1)
end
/-- the lists at a and b as they stand at each turn: the count with a pair of items -/
def Itez (K : PySem.W.Frag) (a b : Addr) : It :=
  ⟨fun i H => ∃ (xs ys : List V) (x y : V), SqL K H a xs ∧ SqL K H b ys ∧ xs[i]? = some x ∧ ys[i]? = some y,
    fun i H v H' => ∃ T U x y, v = .ref T ∧ H U = none ∧ H T = none ∧ T ≠ U ∧ H' = upd (upd H U (.tup [x, y])) T (.tup [.int (i : Nat), .ref U]) ∧ (∀ xs, SqL K H a xs → xs[i]? = some x) ∧ ∀ ys, SqL K H b ys → ys[i]? = some y,
    fun i H => ∃ xs ys : List V, SqL K H a xs ∧ SqL K H b ys ∧ (xs.length ≤ i ∨ ys.length ≤ i)⟩
structure EApart (e z TI TO i1 i2 : Addr) : Prop where
  ez : e ≠ z
  ei : e ≠ TI
  eo : e ≠ TO
  e1 : e ≠ i1
  e2 : e ≠ i2
theorem ZSt.keep {h h' : Heap} {z TI TO i1 i2 l1 l2 : Addr} {k : Nat} (st : ZSt h z TI TO i1 i2 l1 l2 k) (u : ∀ b, b = z ∨ b = TI ∨ b = TO ∨ b = i1 ∨ b = i2 → ∀ o, h.get? b = some o → h'.get? b = some o) : ZSt h' z TI TO i1 i2 l1 l2 k := by
  obtain ⟨⟨f0, f1, hz, hf⟩, ti, ⟨a, b, to⟩, g1, g2⟩ := st
  exact ⟨⟨f0, f1, u z (.inl rfl) _ hz, hf⟩, u TI (by simp) _ ti, ⟨a, b, u TO (by simp) _ to⟩, g1.at fun o x => u i1 (by simp) o x, g2.at fun o x => u i2 (by simp) o x⟩
theorem turn_ez {P : Program} {w : World} {K : PySem.W.Frag} {elts : List Expr} {kk : Nat} {tpos : Pos} {a b e z TI TO i1 i2 : Addr} (D : ZipApart z TI TO i1 i2 a b) (Z : EApart e z TI TO i1 i2) :
    Turn P w K (.Tuple elts kk tpos) (Itez K a b) [e, z, TI, TO, i1, i2] e (fun i h => (∃ old, IsEnum h e z ((i : Nat) : Int) old) ∧ ZSt h z TI TO i1 i2 a b i) where
  mem := by simp
  obj := fun i h st c hc => by
    obtain ⟨⟨old, he⟩, ⟨f0, f1, hz, hf⟩, hTI, ⟨x, y, hTO⟩, ⟨o1, e1, _, d1⟩, ⟨o2, e2, _, d2⟩⟩ := st
    have e' : c = e ∨ c = z ∨ c = TI ∨ c = TO ∨ c = i1 ∨ c = i2 := by simpa using hc
    rcases e' with q | q | q | q | q | q
    · rw [q]; exact ⟨_, he, fun v q => nomatch q⟩
    · rw [q]; exact ⟨_, hz, fun v q => nomatch q⟩
    · rw [q]; exact ⟨_, hTI, fun v q => nomatch q⟩
    · rw [q]; exact ⟨_, hTO, fun v q => nomatch q⟩
    · rw [q]; exact ⟨o1, e1, fun v q => by rw [d1] at q; cases q⟩
    · rw [q]; exact ⟨o2, e2, fun v q => by rw [d2] at q; cases q⟩
  keep := fun i h h' st k => by
    obtain ⟨⟨old, he⟩, hz⟩ := st
    refine ⟨⟨old, k e (by simp) _ he⟩, hz.keep fun c hc o u => k c ?_ o u⟩
    rcases hc with q | q | q | q | q <;> rw [q] <;> simp
  item := by
    intro X hP hw hK hc i pins s σ H E I hf st hg
    subst hP hw hK
    obtain ⟨⟨old, he⟩, hz⟩ := st
    obtain ⟨xs, ys, x, y, hqx, hqy, hx, hy⟩ := hg
    obtain ⟨its, rv, p, _⟩ := I.list hqx
    obtain ⟨its2, rv2, p2, _⟩ := I.list hqy
    obtain ⟨u, hu, ru⟩ := rv.get hx
    obtain ⟨u2, hu2, ru2⟩ := rv2.get hy
    have el : e < s.heap.objs.size := Heap.lt_size he
    refine enum_turn (x := .ref s.heap.objs.size) (R := fun h1 => ZSt h1 z TI TO i1 i2 a b (i + 1) ∧ IsPair h1 s.heap.objs.size u u2 ∧ h1.objs.size = s.heap.objs.size + 1 ∧ ∀ c o, c ≠ z → c ≠ TO → c ≠ i1 → c ≠ i2 → s.heap.get? c = some o → h1.get? c = some o) he (fun Q' E' hq => ?_) ?_
    · exact zip_nextOf D hz p.isList p2.isList (by simpa using hu) (by simpa using hu2) fun h1 a1 a2 a3 a4 => hq h1 ⟨a1, a2, a3, a4⟩ (a4 e _ Z.ez Z.eo Z.e1 Z.e2 he)
    rintro h1 h2 ⟨z1, t1, n1, k1⟩ he2 tt n2 k2
    refine ⟨_, rfl, wpAny_letOwnedTupleGo_enum (s := { s with heap := h2, toks := s.toks + 1 }) he2 fun h3 he3 sb => ?_⟩
    have I1 : Inv X pins σ (upd H s.heap.objs.size (.tup [x, y])) { s with heap := h1 } :=
      I.turnedNew (t' := s.toks) (ch := [z, TO, i1, i2]) (fun c o hc q => k1 c o (fun q' => hc (by simp [q'])) (fun q' => hc (by simp [q'])) (fun q' => hc (by simp [q'])) (fun q' => hc (by simp [q'])) q) (fun c hc => hf c (by
        have e' : c = z ∨ c = TO ∨ c = i1 ∨ c = i2 := by simpa using hc
        rcases e' with q | q | q | q <;> rw [q] <;> simp)) (Nat.le_refl _) ⟨by show 2 ≤ sizeLine; decide, [u, u2], .cons ru (.cons ru2 .nil), ⟨_, t1, rfl, _, rfl⟩⟩
    obtain ⟨f0, f1, f2, f3, f4, f5⟩ := hf e (by simp)
    have tt3 : h3.get? h1.objs.size = some { cls := .type "tuple", data := .seq #[.int i s.toks, .ref s.heap.objs.size] } := (sb.2 _ (Nat.ne_of_gt (by rw [n1]; exact Nat.lt_succ_of_lt el))).trans tt
    have I2 : Inv X pins σ (upd (upd H s.heap.objs.size (.tup [x, y])) h1.objs.size (.tup [.int (i : Nat), .ref s.heap.objs.size])) { s with heap := h3, toks := s.toks + 1 } :=
      I1.turnedNew (ch := [e]) (fun c o hc q => (sb.2 c (by simpa using hc)).trans (k2 c o (by simpa using hc) q)) (fun c hc => by
        rw [show c = e by simpa using hc]
        exact ⟨by rw [upd_ne (Nat.ne_of_lt el)]; exact f0, f1, f2, f3, f4, f5⟩) (Nat.le_refl _) ⟨by show 2 ≤ sizeLine; decide, [.int i s.toks, .ref s.heap.objs.size], .cons ⟨_, rfl⟩ (.cons rfl .nil), ⟨_, tt3, rfl, _, rfl⟩⟩
    have nn : h1.objs.size ≠ s.heap.objs.size := by rw [n1]; exact Nat.succ_ne_self _
    refine ⟨.ref h1.objs.size, _, I2, rfl, ⟨_, s.heap.objs.size, x, y, rfl, I.hok.fresh (Nat.le_refl _), I.hok.fresh (by rw [n1]; exact Nat.le_succ _), nn, rfl, fun l hl => by rw [I.list_inj hl hqx]; exact hx, fun l hl => by rw [I.list_inj hl hqy]; exact hy⟩, ⟨⟨.ref s.heap.objs.size, ?_⟩, z1.keep fun c hc o q => ?_⟩, fun c hc => ?_⟩
    · have e1 : ((i + 1 : Nat) : Int) = (i : Int) + 1 := by omega
      rw [e1]; exact he3
    · have ne : c ≠ e := by
        rcases hc with q | q | q | q | q <;> rw [q]
        · exact Z.ez.symm
        · exact Z.ei.symm
        · exact Z.eo.symm
        · exact Z.e1.symm
        · exact Z.e2.symm
      exact (sb.2 c ne).trans (k2 c o ne q)
    · have lt : c < s.heap.objs.size := by
        obtain ⟨⟨f0', f1', hz', _⟩, hTI, ⟨x', y', hTO⟩, ⟨o1, q1, _⟩, ⟨o2, q2, _⟩⟩ := hz
        have e' : c = e ∨ c = z ∨ c = TI ∨ c = TO ∨ c = i1 ∨ c = i2 := by simpa using hc
        rcases e' with q | q | q | q | q | q <;> rw [q]
        · exact el
        · exact Heap.lt_size hz'
        · exact Heap.lt_size hTI
        · exact Heap.lt_size hTO
        · exact Heap.lt_size q1
        · exact Heap.lt_size q2
      rw [upd_ne (Nat.ne_of_lt (by rw [n1]; exact Nat.lt_succ_of_lt lt)), upd_ne (Nat.ne_of_lt lt)]
      exact (hf c hc).1
  done := by
    intro X hP hw hK hc i pins s σ H E I hf st hg
    subst hP hw hK
    obtain ⟨⟨old, he⟩, hz⟩ := st
    obtain ⟨xs, ys, hqx, hqy, hend⟩ := hg
    obtain ⟨its, rv, p, _⟩ := I.list hqx
    obtain ⟨its2, rv2, p2, _⟩ := I.list hqy
    have l1 := rv.length
    have l2 := rv2.length
    have stop : its.toArray[i]? = none ∨ its2.toArray[i]? = none := by
      rcases hend with q | q
      · exact .inl (by simp; omega)
      · exact .inr (by simp; omega)
    refine enum_stop (R := fun h1 => ∀ c o, c ≠ z → c ≠ TO → c ≠ i1 → c ≠ i2 → s.heap.get? c = some o → h1.get? c = some o) he (fun Q' E' hq => ?_) ?_
    · exact zip_nextOf_end (I.ok.hd hc) D hz p.isList p2.isList stop fun h1 x k1 hx => hq h1 x k1 hx
    · intro h1 k1
      exact ⟨rfl, I.turnedL (t' := s.toks) (ch := [z, TO, i1, i2]) (fun c o hc q => k1 c o (fun q' => hc (by simp [q'])) (fun q' => hc (by simp [q'])) (fun q' => hc (by simp [q'])) (fun q' => hc (by simp [q'])) q) fun c hc => hf c (by
        have e' : c = z ∨ c = TO ∨ c = i1 ∨ c = i2 := by simpa using hc
        rcases e' with q | q | q | q <;> rw [q] <;> simp)⟩
  self := fun A i s Q E st h => let ⟨⟨_, he⟩, _⟩ := st; wpAny_pyIter_enum he h
open AutoSeq1 (wpAny_loadPart') in
theorem meets_enum_zip (z TI TO : Addr) : Meets (Builtin.«enumerate.__new__» ⟨[.type "enumerate", .ref z], []⟩) (fun _ R s => IsZip s.heap z TI TO .none ∧
    R (.ok (.ret (.ref s.heap.objs.size))) { s with heap := s.heap.push { cls := .type "enumerate", data := .fields #[.none, .bool false, .ref z, rawInt 0, .none, .none] } }) :=
  .of_wp fun prog w A R s h => by
    obtain ⟨hp, g, d, tk, os⟩ := s
    obtain ⟨hl, h⟩ := h
    have hsub := sub_enumerate
    have hZ : IsZip (Shared.heap ⟨hp, g, d, tk, os⟩) z TI TO .none := hl
    wp_walk using wpAny_loadPart' hl
    refine wpAny_stack_any fun st => wpAny_pure ?_
    split
    · rename_i c _ _ _ _ _
      cases (c == Value.type "enumerate") <;> (wp_walk using wpAny_loadPart' hl, wpAny_pyIter_zip hZ; exact ⟨_, rfl, h⟩)
    · wp_walk using wpAny_loadPart' hl, wpAny_pyIter_zip hZ
      exact ⟨_, rfl, h⟩
theorem call_enum_zip {prog : Program} {w : World} {A : Around} {E : Value → Shared → Prop} {s : Shared} {z TI TO : Addr} {Q : Value → Shared → Prop} (hz : IsZip s.heap z TI TO .none)
    (q : ∀ h', h'.objs.size = s.heap.objs.size + 1 → IsEnum h' s.heap.objs.size z 0 .none → (∀ b o, s.heap.get? b = some o → h'.get? b = some o) → Q (.ref s.heap.objs.size) { s with heap := h' }) :
    wpAny (model prog w) A (call (.type "enumerate") [.ref z]) Q E s := by
  refine callType_new F.called_enumerate (by decide) (F.typeCall_enumerate_1 _) (F.newCall_enumerate_1 _) (fun obj => F.args_object_init_2 obj _) F.entry_enumerate_new (meets_enum_zip z TI TO) ⟨hz, ?_⟩
  have he : IsEnum (s.heap.push { cls := .type "enumerate", data := .fields #[.none, .bool false, .ref z, rawInt 0, .none, .none] }) s.heap.objs.size z 0 .none := Heap.get?_push_size _ rfl
  exact ⟨⟨_, he, rfl⟩, q _ (Heap.size_push ..) he fun b o x => Heap.get?_push_of_some _ x⟩
def iEnumZip (K : PySem.W.Frag) (ta : TA) : TI := fun σ H R => ta σ H fun vs H1 => ∃ a b xs ys, vs = [.ref a, .ref b] ∧ SqL K H1 a xs ∧ SqL K H1 b ys ∧ R (Itez K a b) H1
theorem pi_enumZip {X : Cx} {e e2 : Expr} {ta : TA} {p pos p2 pos2 tpos : Pos} {elts : List Expr} {kk : Nat} (hg : Gl X "enumerate") (hm : X.mg "enumerate" = none) (hgz : Gl X "zip") (hmz : X.mg "zip" = none) (ha : PA X [e, e2] ta)
    (hs : starEach [e, e2] X.env = (false, eval e X.env) :: starEach [e2] X.env := by rfl) (hpl : (backTo pos2 (starEach [e2] X.env)).any (·.1) = false := by rfl)
    (hs1 : starEach [.Call (.Name "zip" p2) [e, e2] [] pos2] X.env = [(false, eval (.Call (.Name "zip" p2) [e, e2] [] pos2) X.env)] := by rfl) :
    PI X (.Tuple elts kk tpos) (.Call (.Name "enumerate" p) [.Call (.Name "zip" p2) [e, e2] [] pos2] [] pos) (iEnumZip X.K ta) := by
  refine ⟨fun pins s σ H R I h => ?_⟩
  refine Call_ (ld_blt I hg hm boot_enumerate (PyProof.Rows.callWith_type1 (args_cons (Call_ (ld_blt I hgz hmz PyProof.Rows.boot_zip (PyProof.Rows.callWith_type1 (thn (ha.run pos2 pins s σ H _ I h) fun us s1 ⟨vs, H1, I1, r1, q1⟩ => ?_) hs hpl))) hs1) hs1 rfl))
  obtain ⟨a, b, xs, ys, ex, hqx, hqy, q⟩ := q1
  subst ex
  cases r1 with
  | cons r rr =>
    cases rr with
    | cons r' rr =>
      cases rr
      cases r
      cases r'
      obtain ⟨its, rv, p1, _⟩ := I1.list hqx
      obtain ⟨its2, rv2, p2, _⟩ := I1.list hqy
      have la : a < s1.heap.objs.size := p1.lt
      have lb : b < s1.heap.objs.size := p2.lt
      refine call_zip_2 p1.isList p2.isList fun h' hz hTI hTO h1 h2 hsz hk => args_nil ?_
      refine call_enum_zip (s := { s1 with heap := h' }) hz fun h2' sz2 he kk2 => wpAny_pyIter_enum he ?_
      have I2 : Inv X pins σ H1 { s1 with heap := h2' } := I1.kept (t' := s1.toks) fun c o u => kk2 c o (hk c o u)
      have en : h'.objs.size = s1.heap.objs.size + 5 := hsz
      have ap : EApart h'.objs.size (s1.heap.objs.size + 4) (s1.heap.objs.size + 2) (s1.heap.objs.size + 3) s1.heap.objs.size (s1.heap.objs.size + 1) := by
        rw [en]
        constructor <;> first | exact Nat.ne_of_gt (Nat.add_lt_add_left (by decide) _) | exact Nat.ne_of_gt (Nat.lt_add_of_pos_right (by decide))
      refine ⟨h'.objs.size, [h'.objs.size, s1.heap.objs.size + 4, s1.heap.objs.size + 2, s1.heap.objs.size + 3, s1.heap.objs.size, s1.heap.objs.size + 1], _, _, H1, rfl, I2, turn_ez (PySem.W.ktu_apart s1.heap.objs.size a b la lb) ap,
        ⟨⟨_, he⟩, ⟨⟨_, _, kk2 _ _ hz, .inl ⟨rfl, rfl⟩⟩, kk2 _ _ hTI, ⟨_, _, kk2 _ _ hTO⟩, h1.at fun o x => kk2 _ o x, h2.at fun o x => kk2 _ o x⟩⟩, fun c hcm => ?_, q⟩
      have hle : s1.heap.objs.size ≤ c := by
        have e' : c = h'.objs.size ∨ c = s1.heap.objs.size + 4 ∨ c = s1.heap.objs.size + 2 ∨ c = s1.heap.objs.size + 3 ∨ c = s1.heap.objs.size ∨ c = s1.heap.objs.size + 1 := by simpa using hcm
        rcases e' with z | z | z | z | z | z
        · rw [z, en]; exact Nat.le_add_right _ _
        · rw [z]; exact Nat.le_add_right _ _
        · rw [z]; exact Nat.le_add_right _ _
        · rw [z]; exact Nat.le_add_right _ _
        · rw [z]; exact Nat.le_refl _
        · rw [z]; exact Nat.le_add_right _ _
      exact I1.fpOk hle (I1.hok.fresh hle)
end My
/-! Kit9: own classes, lists taken apart, enumerate(zip) walked, lists of anything said to be unlike. -/
namespace My
open PySem PySem.Spec PyProof.Rows L2
/-- C(..) of an own class -/
structure HasMk (P : Program) (w : World) (K : PySem.W.Frag) (mg : Str → Option Value) (base : Heap) (CX : CXT) (k : Nat) (x : Str) (ps : List Str) (sp : Sp) : Prop where
  ex : ∃ fd : FuncData, FnOk P w K mg base CX k (He.ma K (He.ga K x) "__init__") fd ps sp ∧ Binds K fd ps []
/-- o.m(..) of an own class -/
structure HasM (P : Program) (w : World) (K : PySem.W.Frag) (mg : Str → Option Value) (base : Heap) (CX : CXT) (k : Nat) (x m : Str) (ps : List Str) (sp : Sp) : Prop where
  ex : ∃ fd : FuncData, FnOk P w K mg base CX k (He.ma K (He.ga K x) m) fd ps sp ∧ Binds K fd ps []
/-- a def with defaults, all parameters written -/
theorem binds_full {K : PySem.W.Frag} {x qual : Str} {params : Arguments} {body : List Stmt} {scope : Scope} {dvs : List V} {kws : List (Str × V)} {f : Addr} {fd : FuncData} {ps : List Str} (F : FunD K x qual params body scope dvs kws f fd) (hd : dvs ≠ [])
    (h : ∀ (T : Addr) (kV doc pm : Value) (an : Option Addr) (cdv ct : Value) (us its : List Value), us.length = ps.length → its.length = dvs.length →
      ∃ k, bindArgs (PySem.W.fnOf x qual params body scope (.ref T) kV doc pm an cdv ct) ⟨us, []⟩ = seqItems? (.ref T) >>= k ∧ k (some its.toArray) = pure (ps.zip us)) : Binds K fd ps [] := by
  obtain ⟨ds, h1, h2⟩ := F.binds1 (ps := ps) ps.length dvs.length hd (by omega) fun T kV doc pm an cdv ct us its l1 l2 => by
    obtain ⟨k, e1, e2⟩ := h T kV doc pm an cdv ct us its l1 l2
    exact ⟨k, e1, by rw [e2, ← l2, List.drop_length, List.append_nil]⟩
  rw [List.drop_length] at h1
  cases h1
  exact h2
section
variable {K : PySem.W.Frag} {σ : L2.St} {H : Hp} {C : Addr} {f m : Str} {ta tb te : TE} {nx bk ct : L2.St → Hp → Prop} {rt Q : VK} {tr : TA} {sp : Sp} {E : XK} {v y : V}
def kMake (C : Addr) (sp : Sp) (E : XK) (Q : VK) : List V → Hp → Prop := fun vs H1 => ∀ x dx, H1 x = none → H1 dx = none → dx ≠ x → sp (.ref x :: vs) (upd (upd H1 dx (.own x)) x (.ins C dx [])) (fun v H2 => v = .non ∧ Q (.ref x) H2) E
theorem g_make (h : tr σ H (kMake C sp E Q)) : tMake C sp [] E tr σ H Q := by
  have e : (fun (vs : List V) (H1 : Hp) => ∀ x dx, H1 x = none → H1 dx = none → dx ≠ x → sp (.ref x :: (vs ++ [])) (upd (upd H1 dx (.own x)) x (.ins C dx [])) (fun v H2 => v = .non ∧ Q (.ref x) H2) E) = kMake C sp E Q := by
    funext vs H1
    rw [List.append_nil]
    rfl
  show tr σ H (fun (vs : List V) (H1 : Hp) => ∀ x dx, H1 x = none → H1 dx = none → dx ≠ x → sp (.ref x :: (vs ++ [])) (upd (upd H1 dx (.own x)) x (.ins C dx [])) (fun v H2 => v = .non ∧ Q (.ref x) H2) E)
  rw [e]
  exact h
theorem g_kMake {vs : List V} (q : ∀ x H2, H x = none → Step [] H H2 → (∃ dx, H2 x = some (.ins C dx [])) → sp (.ref x :: vs) H2 (fun v H3 => v = .non ∧ Q (.ref x) H3) E) : kMake C sp E Q vs H := fun x dx hx hd hne =>
  q x _ hx ((Step.new hd).trans (Step.new (by rw [upd_ne hne.symm]; exact hx))) ⟨dx, upd_same⟩
def kMeth (C : Addr) (m : Str) (sp : Sp) (tr : TA) (σ : L2.St) (E : XK) (Q : VK) : VK := fun x H1 => ∃ a dx fs, x = .ref a ∧ H1 a = some (.ins C dx fs) ∧ fs.lookup m = none ∧ tr σ H1 (fun vs H2 => sp (x :: vs) H2 Q E)
theorem g_meth (h : ta σ H (kMeth C m sp tr σ E Q)) : tMeth C m sp [] E ta tr σ H Q := by
  have e : (fun (x : V) (H1 : Hp) => ∃ a dx fs, x = .ref a ∧ H1 a = some (.ins C dx fs) ∧ fs.lookup m = none ∧ tr σ H1 fun vs H2 => sp (x :: (vs ++ [])) H2 Q E) = kMeth C m sp tr σ E Q := by
    funext x H1
    unfold kMeth
    have : (fun (vs : List V) (H2 : Hp) => sp (x :: (vs ++ [])) H2 Q E) = fun vs H2 => sp (x :: vs) H2 Q E := by
      funext vs H2
      rw [List.append_nil]
    rw [this]
  show ta σ H (fun (x : V) (H1 : Hp) => ∃ a dx fs, x = .ref a ∧ H1 a = some (.ins C dx fs) ∧ fs.lookup m = none ∧ tr σ H1 fun vs H2 => sp (x :: (vs ++ [])) H2 Q E)
  rw [e]
  exact h
theorem g_kMeth {a dx : Addr} {fs : List (Str × V)} (h : H a = some (.ins C dx fs)) (l : fs.lookup m = none) (q : tr σ H (fun vs H2 => sp (.ref a :: vs) H2 Q E)) : kMeth C m sp tr σ E Q (.ref a) H := ⟨a, dx, fs, rfl, h, l, q⟩
def kFld (K : PySem.W.Frag) (f : Str) (Q : VK) : VK := fun x H1 => ∃ a C dx fs v, x = .ref a ∧ H1 a = some (.ins C dx fs) ∧ Cls K C ∧ NoAttr K C f ∧ fs.lookup f = some v ∧ Q v H1
theorem g_fld (h : ta σ H (kFld K f Q)) : tFld K ta f σ H Q := h
theorem g_kFld {a dx : Addr} {fs : List (Str × V)} (h : H a = some (.ins C dx fs)) (c : Cls K C) (n : NoAttr K C f) (l : fs.lookup f = some v) (q : Q v H) : kFld K f Q (.ref a) H := ⟨a, C, dx, fs, v, rfl, h, c, n, l, q⟩
def kFldS (K : PySem.W.Frag) (f : Str) (nx : L2.St → Hp → Prop) (σ : L2.St) (y : V) : VK := fun x H2 => ∃ a C dx fs, x = .ref a ∧ H2 a = some (.ins C dx fs) ∧ Cls K C ∧ NoAttr K C f ∧ fs.length < 1000 ∧ nx σ (upd H2 a (.ins C dx (putF f y fs)))
theorem g_fldS (h : tb σ H (fun y H1 => ta σ H1 (kFldS K f nx σ y))) : sFld K ta tb f ⟨nx, rt, bk, ct⟩ σ H := h
theorem g_kFldS {a dx : Addr} {fs : List (Str × V)} (h : H a = some (.ins C dx fs)) (c : Cls K C) (n : NoAttr K C f) (l : fs.length < 1000) (q : ∀ H2, Step [a] H H2 → H2 a = some (.ins C dx (putF f y fs)) → nx σ H2) : kFldS K f nx σ y (.ref a) H :=
  ⟨a, C, dx, fs, rfl, h, c, n, l, q _ ((Step.refl [a] H).wr (List.mem_singleton.mpr rfl)) upd_same⟩
def kCh (r : R2) (tc : TE) (σ : L2.St) (y : V) (Q : VK) : VK := fun z H3 => ∃ k, z = .bl k ∧ if k = true then tc σ H3 (fun w H4 => r y w H4 Q) else Q (.bl false) H3
theorem g_chain {r r' : R2} {tc : TE} (h : ta σ H (fun x H1 => tb σ H1 (fun y H2 => r x y H2 (kCh r' tc σ y Q)))) : tChain r r' ta tb tc σ H Q := h
theorem g_kCh {r : R2} {tc : TE} {k : Bool} (h : if k = true then tc σ H (fun w H4 => r y w H4 Q) else Q (.bl false) H) : kCh r tc σ y Q (.bl k) H := ⟨k, rfl, h⟩
/-! a list taken apart -/
theorem g_lst2 {Q : L2.St → Hp → Prop} {a : Addr} {x y : V} {k l : Nat} (h : H a = some (.lst [x, y])) (q : Q ((σ.set k (some x)).set l (some y)) H) : gLst K 2 (gCons (gName k) (gCons (gName l) gNil)) (.ref a) σ H Q := ⟨a, _, rfl, SqL.of h, rfl, _, _, rfl, _, _, rfl, rfl, q⟩
/-! for i, (x, y) in enumerate(zip(xs, ys)) -/
def kEz (K : PySem.W.Frag) (R : WK) : List V → Hp → Prop := fun vs H1 => ∃ a b xs ys, vs = [.ref a, .ref b] ∧ SqL K H1 a xs ∧ SqL K H1 b ys ∧ R (Itez K a b) H1
theorem g_ez {R : WK} (h : tr σ H (kEz K R)) : iEnumZip K tr σ H R := h
theorem g_kEz {R : WK} {a b : Addr} {xs ys : List V} (h1 : H a = some (.lst xs)) (h2 : H b = some (.lst ys)) (q : R (Itez K a b) H) : kEz K R [.ref a, .ref b] H := ⟨a, b, xs, ys, rfl, SqL.of h1, SqL.of h2, q⟩
theorem wFor_ez {t : TS} {a b : Addr} {xs ys : List V} {k l m : Nat} (Pv : Nat → L2.St → Hp → Prop) (h0 : Pv 0 σ H) (hl : ∀ i σ H, i ≤ min xs.length ys.length → Pv i σ H → H a = some (.lst xs) ∧ H b = some (.lst ys))
    (hs : ∀ i x y σ H H2, xs[i]? = some x → ys[i]? = some y → Pv i σ H → Step [] H H2 → t ⟨Pv (i + 1), rt, nx, Pv (i + 1)⟩ (((σ.set k (some (.int i))).set l (some x)).set m (some y)) H2) (hd : ∀ σ H, Pv (min xs.length ys.length) σ H → nx σ H) :
    wFor (Itez K a b) (gTup K 2 (gCons (gName k) (gCons (gTup K 2 (gCons (gName l) (gCons (gName m) gNil))) gNil))) t ⟨nx, rt, bk, ct⟩ σ H :=
  wFor_gen (min xs.length ys.length) Pv h0 (fun i σ H hi p => ⟨xs, ys, xs[i]'(by omega), ys[i]'(by omega), SqL.of (hl i σ H (Nat.le_of_lt hi) p).1, SqL.of (hl i σ H (Nat.le_of_lt hi) p).2, List.getElem?_eq_getElem (by omega), List.getElem?_eq_getElem (by omega)⟩)
    (fun σ H p => ⟨xs, ys, SqL.of (hl _ σ H (Nat.le_refl _) p).1, SqL.of (hl _ σ H (Nat.le_refl _) p).2, by omega⟩) (fun i σ H x H' hi p yy => by
    obtain ⟨T, U, x, y, e3, hU, hT, hne, e4, f1, f2⟩ := yy
    subst e3 e4
    have st : Step [] H (upd (upd H U (.tup [x, y])) T (.tup [.int (i : Nat), .ref U])) := (Step.new hU).trans (Step.new (by rw [upd_ne hne]; exact hT))
    refine ⟨T, _, rfl, SqT.of upd_same, rfl, _, _, rfl, _, _, rfl, ⟨U, _, rfl, SqT.of (by rw [upd_ne hne.symm]; exact upd_same), rfl, _, _, rfl, _, _, rfl, rfl, ?_⟩⟩
    exact ⟨rfl, hs i x y σ H _ (f1 xs (SqL.of (hl i σ H (Nat.le_of_lt hi) p).1)) (f2 ys (SqL.of (hl i σ H (Nat.le_of_lt hi) p).2)) p st⟩) hd
theorem wDc_list {g : TG} {tt : TT} {tk tv : TE} {ws : List Nat} {a : Addr} {xs : List V} (q : ∀ D H2, H D = none → Step [] H H2 → H2 D = some (.dK []) → ∃ Pv : Nat → Hp → Prop, Pv 0 H2 ∧ (∀ i H, i ≤ xs.length → Pv i H → H a = some (.lst xs)) ∧ (∀ i x H, xs[i]? = some x → Pv i H → g x (wipe σ ws) H (kTurnD tt tk tv ws σ D (Pv (i + 1)))) ∧ (∀ H, Pv xs.length H → Q (.ref D) H)) : wDc (Itl K a) g tt tk tv ws σ Q H :=
  wDc_gen xs.length fun D H2 h1 h2 h3 => by
    obtain ⟨Pv, p0, hl, hs, hd⟩ := q D H2 h1 h2 h3
    refine ⟨Pv, p0, fun i H hi p => ⟨xs, xs[i], SqL.of (hl i H (Nat.le_of_lt hi) p), List.getElem?_eq_getElem hi⟩, fun H p => ⟨xs, SqL.of (hl _ H (Nat.le_refl _) p), Nat.le_refl _⟩, fun i H x H' hi p y => ?_, hd⟩
    obtain ⟨e, y⟩ := y
    subst e
    exact hs i x _ (y xs (SqL.of (hl i _ (Nat.le_of_lt hi) p))) p
/-! isinstance of a tuple of types -/
theorem g_isiT {x : V} {tp : Addr} {ts : List String} {a : String} {r : Bool} (ht : H tp = some (.tup (ts.map V.ty))) (ty : TyX K H x (.type a)) (e : ts.all (fun b => (kitB a b).isSome) = true := by decide +kernel) (e2 : ts.any (fun b => kitB a b == some true) = r := by decide +kernel) (q : Q (.bl r) H) : rIsiT K [x, .ref tp] H Q := by
  refine ⟨x, tp, ts.map V.ty, _, ts.map Value.type, r, rfl, ht, ?_, ty, ?_, q⟩
  · clear e e2 ht
    induction ts with
    | nil => exact .nil
    | cons b bs ih => exact .cons (.ty b) ih
  · clear ht q
    induction ts generalizing r with
    | nil => subst e2; exact kitAny_nil
    | cons b bs ih =>
      rw [List.all_cons, Bool.and_eq_true] at e
      cases hb : kitB a b with
      | none => rw [hb] at e; cases e.1
      | some k =>
        have ih2 := ih e.2 rfl
        rw [List.any_cons, hb] at e2
        cases k with
        | true =>
          have : r = true := by rw [← e2]; rfl
          subst this
          exact kitAny_cons (kit_ty hb) (fun z => nomatch z) fun _ => rfl
        | false =>
          have e3 : (bs.any fun b => kitB a b == some true) = r := by rw [← e2]; rfl
          rw [e3] at ih2
          exact kitAny_cons (kit_ty hb) (fun _ => ih2) fun z => nomatch z
end
/-! dicts with texts as keys -/
section
variable {β : Type} {q : Rp β} {H H' : Hp}
def rDS (q : Rp β) : Rp (List (Str × β)) := fun H v xs => ∃ a kvs, v = .ref a ∧ H a = some (.dK kvs) ∧ Paired (fun (p : Key × V) (x : Str × β) => p.1 = Sum.inr x.1 ∧ q H p.2 x.2) kvs xs
theorem mDS (n : Mono q) : Mono (rDS q) := fun H H' v xs e ⟨a, kvs, h1, h2, h3⟩ => ⟨a, kvs, h1, e _ _ h2, Pmap h3 fun v x ⟨z1, z2⟩ => ⟨z1, n H H' _ _ e z2⟩⟩
theorem dsKeys : ∀ {kvs : List (Key × V)} {xs : List (Str × β)}, Paired (fun (p : Key × V) (x : Str × β) => p.1 = Sum.inr x.1 ∧ q H p.2 x.2) kvs xs → kvs.map (·.1) = (xs.map (·.1)).map Sum.inr
  | _, _, .nil => rfl
  | _, _, .cons h t => by rw [List.map_cons, List.map_cons, List.map_cons, h.1, dsKeys t]
theorem dsNew : ∀ {kvs : List (Key × V)} {xs : List (Str × β)} {z : Str}, Paired (fun (p : Key × V) (x : Str × β) => p.1 = Sum.inr x.1 ∧ q H p.2 x.2) kvs xs → z ∉ xs.map (·.1) → valV kvs (Sum.inr z) = none
  | _, _, _, .nil, _ => rfl
  | (k, v) :: _, (j, x) :: _, z, .cons h t, hi => by
    have h1 : k = Sum.inr j := h.1
    rw [List.map_cons, List.mem_cons] at hi
    rw [valV_neg (by rw [h1]; exact fun y => hi (.inl (Sum.inr.inj y).symm))]
    exact dsNew t fun y => hi (.inr y)
theorem dsAt : ∀ {kvs : List (Key × V)} {xs : List (Str × β)} {z : Str} {x : β}, Paired (fun (p : Key × V) (x : Str × β) => p.1 = Sum.inr x.1 ∧ q H p.2 x.2) kvs xs → (xs.map (·.1)).Nodup → (z, x) ∈ xs → ∃ v, valV kvs (Sum.inr z) = some v ∧ q H v x
  | _, _, _, _, .nil, _, h => by cases h
  | (k, v) :: _, (j, y) :: _, z, x, .cons h t, hn, hm => by
    obtain ⟨h1, h2⟩ := h
    have h1 : k = Sum.inr j := h1
    subst h1
    rw [List.map_cons, List.nodup_cons] at hn
    rcases List.mem_cons.mp hm with e | hm
    · cases e
      exact ⟨v, valV_pos rfl, h2⟩
    · rw [valV_neg (fun e => hn.1 (List.mem_map.mpr ⟨(z, x), hm, (Sum.inr.inj e).symm⟩))]
      exact dsAt t hn.2 hm
end
def rSortedDS : List V → Hp → VK → Prop := fun xs H Q => ∃ (a : Addr) (kvs : List (Key × V)) (ks : List Str), xs = [.ref a] ∧ Rd H a (.dK kvs) ∧ kvs.map (·.1) = ks.map Sum.inr ∧ ks.length < 64 ∧
    ∀ ys p, ys.Perm ks → sortedS ys = true → H p = none → Q (.ref p) (upd H p (.lst (ys.map V.str)))
theorem cr_sortedDS {X : Cx} (hc : X.calm = true) : CallR X (.builtin "sorted") rSortedDS := call_sortedD hc
theorem g_sortedDS {H : Hp} {Q : VK} {p : Addr} {kvs : List (Key × V)} {ks : List Str} (h : Rd H p (.dK kvs)) (e : kvs.map (·.1) = ks.map Sum.inr) (hl : ks.length < 64) (q : ∀ (ys : List Str) p' H2, ys.Perm ks → sortedS ys = true → H p' = none → Step [] H H2 → H2 p' = some (.lst (ys.map V.str)) → Q (.ref p') H2) : rSortedDS [.ref p] H Q :=
  ⟨p, kvs, ks, rfl, h, e, hl, fun ys p' e1 e2 e3 => q ys p' _ e1 e2 e3 (Step.new e3) upd_same⟩
/-! != of two lists, their items compared within this program -/
section
variable {prog : Program} {w : World}
open AutoSeq1 (wpAny_loadPart') in
open PySem.SeqAt MeetsSeq MeetsSeq2 MeetsSeq3 in
theorem ne_walk (l b : Addr) (us vs : Array Value) (n n2 : Nat) (dd dd2 : Option Addr) (sl sl2 : Array (Option Value)) (hsz : us.size = vs.size) (e : Nat → Bool) (k : Nat) :
    ∀ i : Nat, us.size - i = k → MeetsIn prog w (Builtin.«list.__eq__.loop» ⟨[.ref l, .ref b, rawInt i, rawInt 3], []⟩)
      (fun A R s => s.heap.get? l = some { cls := .type "list", dict := dd, data := .seq us n, slots := sl } ∧ s.heap.get? b = some { cls := .type "list", dict := dd2, data := .seq vs n2, slots := sl2 } ∧
        (∀ j (h1 : j < us.size) (h2 : j < vs.size), EqIn prog w A.in1 s us[j] vs[j] (e j)) ∧ R (.ok (.ret (.bool (!((List.range us.size).drop i).all e)))) s) := by
  induction k with
  | zero =>
    intro i hk A R s h
    obtain ⟨hp, g, d, tk, os⟩ := s
    obtain ⟨hl, hb, he, h⟩ := h
    wp_walk using wpAny_loadPart' hl, wpAny_loadPart' hb
    have none1 : us[((i : Nat) : Int).toNat]? = none := by simp; omega
    have none2 : vs[((i : Nat) : Int).toNat]? = none := by simp; omega
    have nil : (List.range us.size).drop i = [] := by simp; omega
    rw [nil] at h
    rw [none1, none2]
    wp_walk using wpAny_loadPart' hl, wpAny_loadPart' hb
    show R (.ok (.ret (.bool (us.size != vs.size)))) _
    rw [hsz]
    simpa using h
  | succ k ih =>
    intro i hk A R s h
    obtain ⟨hp, g, d, tk, os⟩ := s
    obtain ⟨hl, hb, he, h⟩ := h
    wp_walk using wpAny_loadPart' hl, wpAny_loadPart' hb
    have lt1 : i < us.size := by omega
    have lt2 : i < vs.size := by omega
    have some1 : us[((i : Nat) : Int).toNat]? = some us[i] := by simp [lt1]
    have some2 : vs[((i : Nat) : Int).toNat]? = some vs[i] := by simp [lt2]
    have cut : (List.range us.size).drop i = i :: (List.range us.size).drop (i + 1) := by simp [List.drop_eq_getElem_cons, lt1]
    have cast : ((i : Int) + 1) = ((i + 1 : Nat) : Int) := by push_cast; rfl
    rw [cut, List.all_cons] at h
    rw [some1, some2]
    refine wpAny_bind (he i lt1 lt2 _ _ ?_)
    cases ei : e i with
    | true =>
      rw [ei] at h
      wp_walk
      rw [cast]
      exact ⟨plainId_quiet plain_eq_loop _, codeAny_builtin entry_eq_loop (by
        rw [Around.under_plainId plain_eq_loop _]
        exact ih (i + 1) (by omega) A R _ ⟨hl, hb, he, by simpa using h⟩)⟩
    | false =>
      rw [ei] at h
      wp_walk using wpAny_loadPart' hl, wpAny_loadPart' hb
      rw [some1, some2]
      wp_walk
      simpa using h
open AutoSeq1 (wpAny_loadPart') in
open PySem.SeqAt MeetsSeq MeetsSeq2 MeetsSeq3 in
theorem ne_start (l b : Addr) (us vs : Array Value) (n n2 : Nat) (dd dd2 : Option Addr) (sl sl2 : Array (Option Value)) (hsz : us.size = vs.size) (e : Nat → Bool) :
    MeetsIn prog w (Builtin.«list.__ne__» ⟨[.ref l, .ref b], []⟩)
      (fun A R s => s.heap.get? l = some { cls := .type "list", dict := dd, data := .seq us n, slots := sl } ∧ s.heap.get? b = some { cls := .type "list", dict := dd2, data := .seq vs n2, slots := sl2 } ∧
        (∀ j (h1 : j < us.size) (h2 : j < vs.size), EqIn prog w A.in1 s us[j] vs[j] (e j)) ∧ R (.ok (.ret (.bool (!(List.range us.size).all e)))) s) := by
  intro A R s h
  obtain ⟨hp, g, d, tk, os⟩ := s
  obtain ⟨hl, hb, he, h⟩ := h
  have f3 := AutoSeq1.sub_list_list
  have alike : ¬ (us.size != vs.size) = true := by simp [hsz]
  wp_walk using wpAny_loadPart' hl, wpAny_loadPart' hb
  exact ⟨plainId_quiet plain_eq_loop _, codeAny_builtin entry_eq_loop (by
    rw [Around.under_plainId plain_eq_loop _]
    exact ne_walk l b us vs n n2 dd dd2 sl sl2 hsz e _ 0 rfl A R _ ⟨hl, hb, he, by simpa using h⟩)⟩
theorem ne_listsIn {A : Around} {s : Shared} {E : Value → Shared → Prop} {l b : Addr} {us vs : Array Value} {e : Nat → Bool} {Q : Value → Shared → Prop} (hl : s.heap.IsList l us) (hb : s.heap.IsList b vs) (hsz : us.size = vs.size) (hu : A.units < cLine)
    (he : ∀ j (h1 : j < us.size) (h2 : j < vs.size), SeqAt.EqIn prog w A.in1 s us[j] vs[j] (e j)) (h : Q (.bool (!(List.range us.size).all e)) s) : wpAny (model prog w) A (compareOp .NotEq (.ref l) (.ref b)) Q E s := by
  obtain ⟨⟨cls, dd, data, sl⟩, ho, hc, n, hd⟩ := id hl
  obtain ⟨⟨cls2, dd2, data2, sl2⟩, ho2, hc2, n2, hd2⟩ := id hb
  simp only at hc hd hc2 hd2
  subst hc hd hc2 hd2
  exact wpAny_richCompare_same_room (T := "list") (op := .NotEq) ⟨_, ho, rfl⟩ ⟨_, ho2, rfl⟩ F.slot_list_ne (call_meetsIn F.slot_list_ne ⟨_, ho, rfl⟩ F.entry_list_ne (F.args_list_ne_2 _ _) (ne_start l b us vs n n2 dd dd2 sl sl2 hsz e)
    ⟨ho, ho2, he, show Value.bool (!(List.range us.size).all e) ≠ Value.notImplemented ∧ Q (.bool (!(List.range us.size).all e)) s from ⟨(fun x => nomatch x), h⟩⟩) hu
end
end My
local macro_rules | `(tactic| walk_at "go1") => `(tactic| first
  | with_reducible refine My.g_seq ?_
  | with_reducible refine My.g_set ?_
  | with_reducible refine My.g_var (by with_unfolding_all exact rfl) ?_
  | with_reducible refine My.g_c ?_
  | with_reducible refine My.g_op ?_
  | with_reducible refine My.g_I0 ?_
  | with_reducible refine My.g_cons ?_
  | with_reducible refine My.g_nil ?_
  | with_reducible refine My.g_call ?_
  | with_reducible refine My.g_CB ?_
  | with_reducible refine My.g_if ?_
  | with_reducible refine My.g_test ?_
  | with_reducible refine My.g_kB ?_
  | with_reducible refine My.g_ret ?_
  | with_reducible refine My.g_retN ?_
  | with_reducible refine My.g_drop ?_
  | with_reducible refine My.g_next ?_
  | with_reducible refine My.g_break ?_
  | with_reducible refine My.g_cont ?_
  | with_reducible refine My.g_asg ?_
  | with_reducible refine My.g_name ?_
  | with_reducible refine My.g_gsub ?_
  | with_reducible refine My.g_eqI ?_
  | with_reducible refine My.g_neI ?_
  | with_reducible refine My.g_eqS ?_
  | with_reducible refine My.g_neS ?_
  | with_reducible refine My.g_and ?_
  | with_reducible refine My.g_or ?_
  | with_reducible refine My.g_not ?_
  | with_reducible refine My.g_B ?_
  | with_reducible refine My.g_ifE ?_
  | with_reducible refine My.g_andV ?_
  | with_reducible refine My.g_orV ?_
  | with_reducible refine My.g_notV ?_
  | with_reducible refine My.g_kAnd ?_
  | with_reducible refine My.g_kOr ?_
  | with_reducible refine My.g_kNot ?_
  | with_reducible refine My.g_lst ?_
  | with_reducible refine My.g_tup ?_
  | with_reducible refine My.g_un ?_
  | with_reducible refine My.g_U ?_
  | with_reducible refine My.g_bm ?_
  | with_reducible refine My.g_sl ?_
  | with_reducible refine My.g_part ?_
  | with_reducible refine My.g_noPart ?_
  | with_reducible refine My.g_kI ?_
  | with_reducible refine My.g_dget ?_
  | with_reducible refine My.g_dget2 ?_
  | with_reducible refine My.g_dget1 ?_
  | with_reducible refine My.g_din ?_
  | with_reducible refine My.g_dnotin ?_
  | with_reducible refine My.g_dput ?_
  | with_reducible refine My.g_m1 ?_
  | with_reducible refine My.g_kM1 ?_
  | with_reducible refine My.g_for ?_
  | with_reducible refine My.g_lc ?_
  | with_reducible refine My.g_dc ?_
  | with_reducible refine My.g_rng1 ?_
  | with_reducible refine My.g_rng2 ?_
  | with_reducible refine My.g_list ?_
  | with_reducible refine My.g_str ?_
  | with_reducible refine My.g_kStr ?_
  | with_reducible refine My.g_keys ?_
  | with_reducible refine My.g_vals ?_
  | with_reducible refine My.g_items ?_
  | with_reducible refine My.g_yes ?_
  | with_reducible refine My.g_kTstT ?_
  | with_reducible refine My.g_kTstDT ?_
  | with_reducible refine My.g_kTurn (by with_unfolding_all exact rfl) ?_
  | with_reducible refine My.g_kTurnD (by with_unfolding_all exact rfl) ?_
  | with_reducible refine My.g_ixL (by with_unfolding_all assumption) (by first | with_unfolding_all exact rfl | assumption) ?_
  | with_reducible refine My.g_ixT (by with_unfolding_all assumption) (by first | with_unfolding_all exact rfl | assumption) ?_
  | with_reducible refine My.g_kBM (by with_unfolding_all assumption) ?_
  | with_reducible refine My.g_kList (by with_unfolding_all assumption) ?_
  | with_reducible refine My.g_modP (by with_unfolding_all first | decide | omega) ?_
  | with_reducible refine My.g_divP (by with_unfolding_all first | decide | omega) (by with_unfolding_all first | decide | omega) ?_
  | with_reducible refine My.g_mulP (by with_unfolding_all first | decide | omega) (by with_unfolding_all first | decide | omega) (by with_unfolding_all first | decide | omega) (by with_unfolding_all first | decide | omega) ?_
  | with_reducible refine My.g_powP (by with_unfolding_all first | decide | omega) (by with_unfolding_all first | decide | omega) (by with_unfolding_all first | decide | omega) (by with_unfolding_all first | decide | omega) ?_
  | with_reducible refine My.g_chain ?_
  | with_reducible refine My.g_kCh ?_
  | with_reducible refine My.g_make ?_
  | with_reducible refine My.g_meth ?_
  | with_reducible refine My.g_fld ?_
  | with_reducible refine My.g_fldS ?_
  | with_reducible refine My.g_ez ?_
  | with_reducible refine My.g_ost ?_
  | with_reducible refine My.g_mkO ?_
  | with_reducible refine My.g_callS ?_
  | with_reducible refine My.g_xf ?_
  | with_reducible refine My.g_max2 ?_
  | with_reducible refine My.g_min2 ?_
  | with_reducible refine My.g_lenL (by with_unfolding_all assumption) ?_
  | with_reducible refine My.g_lenLK (by with_unfolding_all assumption) ?_
  | with_reducible refine My.g_lenDi (by with_unfolding_all assumption) ?_
  | with_reducible refine My.g_kLst (by with_unfolding_all exact Nat.le_of_ble_eq_true rfl) ?_
  | with_reducible refine My.g_kTup (by with_unfolding_all exact Nat.le_of_ble_eq_true rfl) ?_)
local macro_rules | `(tactic| walk_at "go") => `(tactic| repeat walk_at "go1")
namespace My
open PySem PySem.Spec PyProof.Rows L2
def top (i : Nat) : Stmt := PySem.Challenge.pw_sherdhall_k76_moves_told.main.body.getD i (.Pass ⟨0, 0, 0, 0⟩)
abbrev s_NoPlace_init : Stmt := inClass (top 3) 0
theorem sc_NoPlace_init : FnScope ["self", "place"] ["self", "place"] (defScope s_NoPlace_init) := ⟨rfl, rfl, rfl, by decide +kernel, rfl, by decide +kernel, by decide +kernel⟩
abbrev N_NoPlace_init : List Str := ["self", "place"]
abbrev s_NoName_init : Stmt := inClass (top 4) 0
theorem sc_NoName_init : FnScope ["self", "name"] ["self", "name"] (defScope s_NoName_init) := ⟨rfl, rfl, rfl, by decide +kernel, rfl, by decide +kernel, by decide +kernel⟩
abbrev N_NoName_init : List Str := ["self", "name"]
abbrev s_Taken_init : Stmt := inClass (top 5) 0
theorem sc_Taken_init : FnScope ["self", "name"] ["self", "name"] (defScope s_Taken_init) := ⟨rfl, rfl, rfl, by decide +kernel, rfl, by decide +kernel, by decide +kernel⟩
abbrev N_Taken_init : List Str := ["self", "name"]
abbrev s_NoTicket_init : Stmt := inClass (top 6) 0
theorem sc_NoTicket_init : FnScope ["self", "ticket"] ["self", "ticket"] (defScope s_NoTicket_init) := ⟨rfl, rfl, rfl, by decide +kernel, rfl, by decide +kernel, by decide +kernel⟩
abbrev N_NoTicket_init : List Str := ["self", "ticket"]
abbrev s_NoWeight_init : Stmt := inClass (top 7) 0
theorem sc_NoWeight_init : FnScope ["self", "weight"] ["self", "weight"] (defScope s_NoWeight_init) := ⟨rfl, rfl, rfl, by decide +kernel, rfl, by decide +kernel, by decide +kernel⟩
abbrev N_NoWeight_init : List Str := ["self", "weight"]
abbrev s_moves_of : Stmt := top 9
theorem sc_moves_of : FnScope ["town", "table", "other", "names", "found", "ticket", "place", "one", "to"] ["town", "table", "other"] (defScope s_moves_of) := ⟨rfl, rfl, rfl, by decide +kernel, rfl, by decide +kernel, by decide +kernel⟩
abbrev N_moves_of : List Str := ["town", "table", "other", "names", "found", "ticket", "place", "one", "to"]
abbrev s_moved : Stmt := top 10
theorem sc_moved : FnScope ["table", "moves", "ticket", "found", "place", "one", "to", "homes"] ["table", "moves"] (defScope s_moved) := ⟨rfl, rfl, rfl, by decide +kernel, rfl, by decide +kernel, by decide +kernel⟩
abbrev N_moved : List Str := ["table", "moves", "ticket", "found", "place", "one", "to", "homes"]
abbrev s_is_whole : Stmt := top 14
theorem sc_is_whole : FnScope ["thing"] ["thing"] (defScope s_is_whole) := ⟨rfl, rfl, rfl, by decide +kernel, rfl, by decide +kernel, by decide +kernel⟩
abbrev N_is_whole : List Str := ["thing"]
abbrev s_is_name : Stmt := top 15
theorem sc_is_name : FnScope ["thing", "sign"] ["thing"] (defScope s_is_name) := ⟨rfl, rfl, rfl, by decide +kernel, rfl, by decide +kernel, by decide +kernel⟩
abbrev N_is_name : List Str := ["thing", "sign"]
abbrev s_need_name : Stmt := top 16
theorem sc_need_name : FnScope ["name"] ["name"] (defScope s_need_name) := ⟨rfl, rfl, rfl, by decide +kernel, rfl, by decide +kernel, by decide +kernel⟩
abbrev N_need_name : List Str := ["name"]
abbrev s_is_weight : Stmt := top 19
theorem sc_is_weight : FnScope ["thing"] ["thing"] (defScope s_is_weight) := ⟨rfl, rfl, rfl, by decide +kernel, rfl, by decide +kernel, by decide +kernel⟩
abbrev N_is_weight : List Str := ["thing"]
abbrev s_Town_init : Stmt := inClass (top 20) 0
theorem sc_Town_init : FnScope ["self", "rows", "found", "name", "where", "heavy"] ["self", "rows"] (defScope s_Town_init) := ⟨rfl, rfl, rfl, by decide +kernel, rfl, by decide +kernel, by decide +kernel⟩
abbrev N_Town_init : List Str := ["self", "rows", "found", "name", "where", "heavy"]
abbrev s_Town_house_names : Stmt := inClass (top 20) 5
theorem sc_Town_house_names : FnScope ["self"] ["self"] (defScope s_Town_house_names) := ⟨rfl, rfl, rfl, by decide +kernel, rfl, by decide +kernel, by decide +kernel⟩
abbrev N_Town_house_names : List Str := ["self"]
abbrev s_w_cell_at : Stmt := top 22
theorem sc_w_cell_at : FnScope ["script", "k"] ["script", "k"] (defScope s_w_cell_at) := ⟨rfl, rfl, rfl, by decide +kernel, rfl, by decide +kernel, by decide +kernel⟩
abbrev N_w_cell_at : List Str := ["script", "k"]
abbrev s_w_pot : Stmt := top 23
theorem sc_w_pot : FnScope ["cell"] ["cell"] (defScope s_w_pot) := ⟨rfl, rfl, rfl, by decide +kernel, rfl, by decide +kernel, by decide +kernel⟩
abbrev N_w_pot : List Str := ["cell"]
abbrev s_w_pick : Stmt := top 24
theorem sc_w_pick : FnScope ["pot", "many", "found", "mixed"] ["pot", "many"] (defScope s_w_pick) := ⟨rfl, rfl, rfl, by decide +kernel, rfl, by decide +kernel, by decide +kernel⟩
abbrev N_w_pick : List Str := ["pot", "many", "found", "mixed"]
abbrev s_w_name : Stmt := top 25
theorem sc_w_name : FnScope ["pot", "letters", "size", "k"] ["pot"] (defScope s_w_name) := ⟨rfl, rfl, rfl, by decide +kernel, rfl, by decide +kernel, by decide +kernel⟩
abbrev N_w_name : List Str := ["pot", "letters", "size", "k"]
abbrev s_w_names : Stmt := top 26
theorem sc_w_names : FnScope ["pot", "many", "letters", "way", "found", "k", "one", "old", "spot"] ["pot", "many"] (defScope s_w_names) := ⟨rfl, rfl, rfl, by decide +kernel, rfl, by decide +kernel, by decide +kernel⟩
abbrev N_w_names : List Str := ["pot", "many", "letters", "way", "found", "k", "one", "old", "spot"]
abbrev s_w_houses : Stmt := top 27
theorem sc_w_houses : FnScope ["pot", "most", "areas", "way", "found", "name", "heavy"] ["pot", "most"] (defScope s_w_houses) := ⟨rfl, rfl, rfl, by decide +kernel, rfl, by decide +kernel, by decide +kernel⟩
abbrev N_w_houses : List Str := ["pot", "most", "areas", "way", "found", "name", "heavy"]
abbrev s_w_alike : Stmt := top 28
theorem sc_w_alike : FnScope ["found", "due", "k"] ["found", "due"] (defScope s_w_alike) := ⟨rfl, rfl, rfl, by decide +kernel, rfl, by decide +kernel, by decide +kernel⟩
abbrev N_w_alike : List Str := ["found", "due", "k"]
abbrev s_w_mixed : Stmt := top 29
theorem sc_w_mixed : FnScope ["pot", "some", "left", "k"] ["pot", "some"] (defScope s_w_mixed) := ⟨rfl, rfl, rfl, by decide +kernel, rfl, by decide +kernel, by decide +kernel⟩
abbrev N_w_mixed : List Str := ["pot", "some", "left", "k"]
abbrev s_w_tickets : Stmt := top 30
theorem sc_w_tickets : FnScope ["pot", "many", "wide", "number", "found", "k"] ["pot", "many"] (defScope s_w_tickets) := ⟨rfl, rfl, rfl, by decide +kernel, rfl, by decide +kernel, by decide +kernel⟩
abbrev N_w_tickets : List Str := ["pot", "many", "wide", "number", "found", "k"]
abbrev s_w_homes : Stmt := top 31
theorem sc_w_homes : FnScope ["pot", "rows", "size", "pool", "one", "row", "letter"] ["pot", "rows", "size"] (defScope s_w_homes) := ⟨rfl, rfl, rfl, by decide +kernel, rfl, by decide +kernel, by decide +kernel⟩
abbrev N_w_homes : List Str := ["pot", "rows", "size", "pool", "one", "row", "letter"]
abbrev s_w_table : Stmt := top 32
theorem sc_w_table : FnScope ["pot", "rows", "most", "found", "ticket"] ["pot", "rows", "most"] (defScope s_w_table) := ⟨rfl, rfl, rfl, by decide +kernel, rfl, by decide +kernel, by decide +kernel⟩
abbrev N_w_table : List Str := ["pot", "rows", "most", "found", "ticket"]
abbrev s_w_copy : Stmt := top 33
theorem sc_w_copy : FnScope ["some", "found", "ticket"] ["some"] (defScope s_w_copy) := ⟨rfl, rfl, rfl, by decide +kernel, rfl, by decide +kernel, by decide +kernel⟩
abbrev N_w_copy : List Str := ["some", "found", "ticket"]
abbrev s_w_other : Stmt := top 34
theorem sc_w_other : FnScope ["pot", "rows", "some", "found", "ticket", "homes", "fresh", "spot", "one"] ["pot", "rows", "some"] (defScope s_w_other) := ⟨rfl, rfl, rfl, by decide +kernel, rfl, by decide +kernel, by decide +kernel⟩
abbrev N_w_other : List Str := ["pot", "rows", "some", "found", "ticket", "homes", "fresh", "spot", "one"]
abbrev s_w_due : Stmt := top 35
theorem sc_w_due : FnScope ["rows", "some", "other", "names", "found", "ticket", "spot", "one", "row"] ["rows", "some", "other"] (defScope s_w_due) := ⟨rfl, rfl, rfl, by decide +kernel, rfl, by decide +kernel, by decide +kernel⟩
abbrev N_w_due : List Str := ["rows", "some", "other", "names", "found", "ticket", "spot", "one", "row"]
abbrev s_w_no_mix : Stmt := top 36
theorem sc_w_no_mix : FnScope ["some", "other", "found", "ticket", "pairs", "k"] ["some", "other"] (defScope s_w_no_mix) := ⟨rfl, rfl, rfl, by decide +kernel, rfl, by decide +kernel, by decide +kernel⟩
abbrev N_w_no_mix : List Str := ["some", "other", "found", "ticket", "pairs", "k"]
abbrev s_w_right : Stmt := top 37
theorem sc_w_right : FnScope ["pot", "rows", "some", "other", "handed", "due", "found", "first", "second", "steps", "table", "behind"] ["pot"] (defScope s_w_right) := ⟨rfl, rfl, rfl, by decide +kernel, rfl, by decide +kernel, by decide +kernel⟩
abbrev N_w_right : List Str := ["pot", "rows", "some", "other", "handed", "due", "found", "first", "second", "steps", "table", "behind"]
abbrev s_law : Stmt := top 38
theorem sc_law : FnScope ["script", "k"] ["script"] (defScope s_law) := ⟨rfl, rfl, rfl, by decide +kernel, rfl, by decide +kernel, by decide +kernel⟩
abbrev N_law : List Str := ["script", "k"]
def d_NoPlace_init : He.DefD := ⟨("NoPlace", some "__init__"), "__init__", "NoPlace.__init__", defArgs s_NoPlace_init, defBody s_NoPlace_init, defScope s_NoPlace_init, [], []⟩
def d_NoName_init : He.DefD := ⟨("NoName", some "__init__"), "__init__", "NoName.__init__", defArgs s_NoName_init, defBody s_NoName_init, defScope s_NoName_init, [], []⟩
def d_Taken_init : He.DefD := ⟨("Taken", some "__init__"), "__init__", "Taken.__init__", defArgs s_Taken_init, defBody s_Taken_init, defScope s_Taken_init, [], []⟩
def d_NoTicket_init : He.DefD := ⟨("NoTicket", some "__init__"), "__init__", "NoTicket.__init__", defArgs s_NoTicket_init, defBody s_NoTicket_init, defScope s_NoTicket_init, [], []⟩
def d_NoWeight_init : He.DefD := ⟨("NoWeight", some "__init__"), "__init__", "NoWeight.__init__", defArgs s_NoWeight_init, defBody s_NoWeight_init, defScope s_NoWeight_init, [], []⟩
def d_moves_of : He.DefD := ⟨("moves_of", none), "moves_of", "moves_of", defArgs s_moves_of, defBody s_moves_of, defScope s_moves_of, [], []⟩
def d_moved : He.DefD := ⟨("moved", none), "moved", "moved", defArgs s_moved, defBody s_moved, defScope s_moved, [], []⟩
def d_is_whole : He.DefD := ⟨("is_whole", none), "is_whole", "is_whole", defArgs s_is_whole, defBody s_is_whole, defScope s_is_whole, [], []⟩
def d_is_name : He.DefD := ⟨("is_name", none), "is_name", "is_name", defArgs s_is_name, defBody s_is_name, defScope s_is_name, [], []⟩
def d_need_name : He.DefD := ⟨("need_name", none), "need_name", "need_name", defArgs s_need_name, defBody s_need_name, defScope s_need_name, [], []⟩
def d_is_weight : He.DefD := ⟨("is_weight", none), "is_weight", "is_weight", defArgs s_is_weight, defBody s_is_weight, defScope s_is_weight, [], []⟩
def d_Town_init : He.DefD := ⟨("Town", some "__init__"), "__init__", "Town.__init__", defArgs s_Town_init, defBody s_Town_init, defScope s_Town_init, [.adr (He.dflAt ("Town", some "__init__") 0)], []⟩
def d_Town_house_names : He.DefD := ⟨("Town", some "house_names"), "house_names", "Town.house_names", defArgs s_Town_house_names, defBody s_Town_house_names, defScope s_Town_house_names, [], []⟩
def d_w_cell_at : He.DefD := ⟨("_law_cell_at", none), "_law_cell_at", "_law_cell_at", defArgs s_w_cell_at, defBody s_w_cell_at, defScope s_w_cell_at, [], []⟩
def d_w_pot : He.DefD := ⟨("_law_pot", none), "_law_pot", "_law_pot", defArgs s_w_pot, defBody s_w_pot, defScope s_w_pot, [], []⟩
def d_w_pick : He.DefD := ⟨("_law_pick", none), "_law_pick", "_law_pick", defArgs s_w_pick, defBody s_w_pick, defScope s_w_pick, [], []⟩
def d_w_name : He.DefD := ⟨("_law_name", none), "_law_name", "_law_name", defArgs s_w_name, defBody s_w_name, defScope s_w_name, [], []⟩
def d_w_names : He.DefD := ⟨("_law_names", none), "_law_names", "_law_names", defArgs s_w_names, defBody s_w_names, defScope s_w_names, [], []⟩
def d_w_houses : He.DefD := ⟨("_law_houses", none), "_law_houses", "_law_houses", defArgs s_w_houses, defBody s_w_houses, defScope s_w_houses, [], []⟩
def d_w_alike : He.DefD := ⟨("_law_alike", none), "_law_alike", "_law_alike", defArgs s_w_alike, defBody s_w_alike, defScope s_w_alike, [], []⟩
def d_w_mixed : He.DefD := ⟨("_law_mixed", none), "_law_mixed", "_law_mixed", defArgs s_w_mixed, defBody s_w_mixed, defScope s_w_mixed, [], []⟩
def d_w_tickets : He.DefD := ⟨("_law_tickets", none), "_law_tickets", "_law_tickets", defArgs s_w_tickets, defBody s_w_tickets, defScope s_w_tickets, [], []⟩
def d_w_homes : He.DefD := ⟨("_law_homes", none), "_law_homes", "_law_homes", defArgs s_w_homes, defBody s_w_homes, defScope s_w_homes, [], []⟩
def d_w_table : He.DefD := ⟨("_law_table", none), "_law_table", "_law_table", defArgs s_w_table, defBody s_w_table, defScope s_w_table, [], []⟩
def d_w_copy : He.DefD := ⟨("_law_copy", none), "_law_copy", "_law_copy", defArgs s_w_copy, defBody s_w_copy, defScope s_w_copy, [], []⟩
def d_w_other : He.DefD := ⟨("_law_other", none), "_law_other", "_law_other", defArgs s_w_other, defBody s_w_other, defScope s_w_other, [], []⟩
def d_w_due : He.DefD := ⟨("_law_due", none), "_law_due", "_law_due", defArgs s_w_due, defBody s_w_due, defScope s_w_due, [], []⟩
def d_w_no_mix : He.DefD := ⟨("_law_no_mix", none), "_law_no_mix", "_law_no_mix", defArgs s_w_no_mix, defBody s_w_no_mix, defScope s_w_no_mix, [], []⟩
def d_w_right : He.DefD := ⟨("_law_right", none), "_law_right", "_law_right", defArgs s_w_right, defBody s_w_right, defScope s_w_right, [], []⟩
def d_law : He.DefD := ⟨("law", none), "law", "law", defArgs s_law, defBody s_law, defScope s_law, [], []⟩
def fn : List He.DefD := [d_NoPlace_init, d_NoName_init, d_Taken_init, d_NoTicket_init, d_NoWeight_init, d_moves_of, d_moved, d_is_whole, d_is_name, d_need_name, d_is_weight, d_Town_init, d_Town_house_names, d_w_cell_at, d_w_pot, d_w_pick, d_w_name, d_w_names, d_w_houses, d_w_alike, d_w_mixed, d_w_tickets, d_w_homes, d_w_table, d_w_copy, d_w_other, d_w_due, d_w_no_mix, d_w_right, d_law]
def ck : List (PySem.W.Frag → Bool) := [fun K => He.Fa.ok K (.glo "moves_of"),
  fun K => He.Fa.ok K (.glo "moved"),
  fun K => He.Fa.ok K (.glo "is_whole"),
  fun K => He.Fa.ok K (.glo "is_name"),
  fun K => He.Fa.ok K (.glo "need_name"),
  fun K => He.Fa.ok K (.glo "is_weight"),
  fun K => He.Fa.ok K (.glo "_law_cell_at"),
  fun K => He.Fa.ok K (.glo "_law_pot"),
  fun K => He.Fa.ok K (.glo "_law_pick"),
  fun K => He.Fa.ok K (.glo "_law_name"),
  fun K => He.Fa.ok K (.glo "_law_names"),
  fun K => He.Fa.ok K (.glo "_law_houses"),
  fun K => He.Fa.ok K (.glo "_law_alike"),
  fun K => He.Fa.ok K (.glo "_law_mixed"),
  fun K => He.Fa.ok K (.glo "_law_tickets"),
  fun K => He.Fa.ok K (.glo "_law_homes"),
  fun K => He.Fa.ok K (.glo "_law_table"),
  fun K => He.Fa.ok K (.glo "_law_copy"),
  fun K => He.Fa.ok K (.glo "_law_other"),
  fun K => He.Fa.ok K (.glo "_law_due"),
  fun K => He.Fa.ok K (.glo "_law_no_mix"),
  fun K => He.Fa.ok K (.glo "_law_right"),
  fun K => He.Fa.ok K (.glo "law"),
  fun K => He.Fa.ok K (.free "len"),
  fun K => He.Fa.ok K (.free "max"),
  fun K => He.Fa.ok K (.free "min"),
  fun K => He.Fa.ok K (.free "range"),
  fun K => He.Fa.ok K (.free "list"),
  fun K => He.Fa.ok K (.free "sorted"),
  fun K => He.Fa.ok K (.free "isinstance"),
  fun K => He.Fa.ok K (.free "dict"),
  fun K => He.Fa.ok K (.free "tuple"),
  fun K => He.Fa.ok K (.free "int"),
  fun K => He.Fa.ok K (.free "bool"),
  fun K => He.Fa.ok K (.free "str"),
  fun K => He.Fa.ok K (.free "all"),
  fun K => He.Fa.ok K (.free "enumerate"),
  fun K => He.Fa.ok K (.free "zip"),
  fun K => He.Fa.ok K (.glo "NoPlace"),
  fun K => excB K (He.ga K "NoPlace") ["place"],
  fun K => He.Fa.ok K (.exm "NoPlace" "NoPlace" true),
  fun K => He.Fa.ok K (.exm "NoPlace" "Taken" false),
  fun K => He.Fa.ok K (.exm "NoPlace" "NoTicket" false),
  fun K => He.Fa.ok K (.exm "NoPlace" "NoName" false),
  fun K => He.Fa.ok K (.exm "NoPlace" "NoWeight" false),
  fun K => He.Fa.ok K (.glo "Taken"),
  fun K => excB K (He.ga K "Taken") ["name"],
  fun K => He.Fa.ok K (.exm "Taken" "NoPlace" false),
  fun K => He.Fa.ok K (.exm "Taken" "Taken" true),
  fun K => He.Fa.ok K (.exm "Taken" "NoTicket" false),
  fun K => He.Fa.ok K (.exm "Taken" "NoName" false),
  fun K => He.Fa.ok K (.exm "Taken" "NoWeight" false),
  fun K => He.Fa.ok K (.glo "NoTicket"),
  fun K => excB K (He.ga K "NoTicket") ["ticket"],
  fun K => He.Fa.ok K (.exm "NoTicket" "NoPlace" false),
  fun K => He.Fa.ok K (.exm "NoTicket" "Taken" false),
  fun K => He.Fa.ok K (.exm "NoTicket" "NoTicket" true),
  fun K => He.Fa.ok K (.exm "NoTicket" "NoName" false),
  fun K => He.Fa.ok K (.exm "NoTicket" "NoWeight" false),
  fun K => He.Fa.ok K (.glo "NoName"),
  fun K => excB K (He.ga K "NoName") ["name"],
  fun K => He.Fa.ok K (.exm "NoName" "NoPlace" false),
  fun K => He.Fa.ok K (.exm "NoName" "Taken" false),
  fun K => He.Fa.ok K (.exm "NoName" "NoTicket" false),
  fun K => He.Fa.ok K (.exm "NoName" "NoName" true),
  fun K => He.Fa.ok K (.exm "NoName" "NoWeight" false),
  fun K => He.Fa.ok K (.glo "NoWeight"),
  fun K => excB K (He.ga K "NoWeight") ["weight"],
  fun K => He.Fa.ok K (.exm "NoWeight" "NoPlace" false),
  fun K => He.Fa.ok K (.exm "NoWeight" "Taken" false),
  fun K => He.Fa.ok K (.exm "NoWeight" "NoTicket" false),
  fun K => He.Fa.ok K (.exm "NoWeight" "NoName" false),
  fun K => He.Fa.ok K (.exm "NoWeight" "NoWeight" true),
  fun K => He.Fa.ok K (.glo "Town"),
  fun K => He.Fa.ok K (.cls "Town"),
  fun K => He.Fa.ok K (.mkr "Town"),
  fun K => He.Fa.ok K (.noat "Town" "by_name"),
  fun K => He.Fa.ok K (.meth "Town" "house_names"),
  fun K => He.Fa.ok K (.str "LETTERS" "abcdefghijklmnopqrstuvwxyz"),
  fun K => He.Fa.ok K (.int "LONGEST" 8),
  fun K => He.Fa.ok K (.int "HEAVIEST" 1000)]
structure Ctx (K : PySem.W.Frag) (mg : Str → Option Value) : Prop where
  ex : ∃ h : Heap, K.In h ∧ h.Ns mainGlobals mg
  c : SaysX ck fn K
section
variable {K : PySem.W.Frag} {mg : Str → Option Value}
theorem gl_moves_of (C : Ctx K mg) : mg "moves_of" = some (.ref (He.ga K "moves_of")) := let ⟨_, X, G⟩ := C.ex; He.glo_ok X G (C.c.fact 0 rfl)
theorem gl_moved (C : Ctx K mg) : mg "moved" = some (.ref (He.ga K "moved")) := let ⟨_, X, G⟩ := C.ex; He.glo_ok X G (C.c.fact 1 rfl)
theorem gl_is_whole (C : Ctx K mg) : mg "is_whole" = some (.ref (He.ga K "is_whole")) := let ⟨_, X, G⟩ := C.ex; He.glo_ok X G (C.c.fact 2 rfl)
theorem gl_is_name (C : Ctx K mg) : mg "is_name" = some (.ref (He.ga K "is_name")) := let ⟨_, X, G⟩ := C.ex; He.glo_ok X G (C.c.fact 3 rfl)
theorem gl_need_name (C : Ctx K mg) : mg "need_name" = some (.ref (He.ga K "need_name")) := let ⟨_, X, G⟩ := C.ex; He.glo_ok X G (C.c.fact 4 rfl)
theorem gl_is_weight (C : Ctx K mg) : mg "is_weight" = some (.ref (He.ga K "is_weight")) := let ⟨_, X, G⟩ := C.ex; He.glo_ok X G (C.c.fact 5 rfl)
theorem gl_w_cell_at (C : Ctx K mg) : mg "_law_cell_at" = some (.ref (He.ga K "_law_cell_at")) := let ⟨_, X, G⟩ := C.ex; He.glo_ok X G (C.c.fact 6 rfl)
theorem gl_w_pot (C : Ctx K mg) : mg "_law_pot" = some (.ref (He.ga K "_law_pot")) := let ⟨_, X, G⟩ := C.ex; He.glo_ok X G (C.c.fact 7 rfl)
theorem gl_w_pick (C : Ctx K mg) : mg "_law_pick" = some (.ref (He.ga K "_law_pick")) := let ⟨_, X, G⟩ := C.ex; He.glo_ok X G (C.c.fact 8 rfl)
theorem gl_w_name (C : Ctx K mg) : mg "_law_name" = some (.ref (He.ga K "_law_name")) := let ⟨_, X, G⟩ := C.ex; He.glo_ok X G (C.c.fact 9 rfl)
theorem gl_w_names (C : Ctx K mg) : mg "_law_names" = some (.ref (He.ga K "_law_names")) := let ⟨_, X, G⟩ := C.ex; He.glo_ok X G (C.c.fact 10 rfl)
theorem gl_w_houses (C : Ctx K mg) : mg "_law_houses" = some (.ref (He.ga K "_law_houses")) := let ⟨_, X, G⟩ := C.ex; He.glo_ok X G (C.c.fact 11 rfl)
theorem gl_w_alike (C : Ctx K mg) : mg "_law_alike" = some (.ref (He.ga K "_law_alike")) := let ⟨_, X, G⟩ := C.ex; He.glo_ok X G (C.c.fact 12 rfl)
theorem gl_w_mixed (C : Ctx K mg) : mg "_law_mixed" = some (.ref (He.ga K "_law_mixed")) := let ⟨_, X, G⟩ := C.ex; He.glo_ok X G (C.c.fact 13 rfl)
theorem gl_w_tickets (C : Ctx K mg) : mg "_law_tickets" = some (.ref (He.ga K "_law_tickets")) := let ⟨_, X, G⟩ := C.ex; He.glo_ok X G (C.c.fact 14 rfl)
theorem gl_w_homes (C : Ctx K mg) : mg "_law_homes" = some (.ref (He.ga K "_law_homes")) := let ⟨_, X, G⟩ := C.ex; He.glo_ok X G (C.c.fact 15 rfl)
theorem gl_w_table (C : Ctx K mg) : mg "_law_table" = some (.ref (He.ga K "_law_table")) := let ⟨_, X, G⟩ := C.ex; He.glo_ok X G (C.c.fact 16 rfl)
theorem gl_w_copy (C : Ctx K mg) : mg "_law_copy" = some (.ref (He.ga K "_law_copy")) := let ⟨_, X, G⟩ := C.ex; He.glo_ok X G (C.c.fact 17 rfl)
theorem gl_w_other (C : Ctx K mg) : mg "_law_other" = some (.ref (He.ga K "_law_other")) := let ⟨_, X, G⟩ := C.ex; He.glo_ok X G (C.c.fact 18 rfl)
theorem gl_w_due (C : Ctx K mg) : mg "_law_due" = some (.ref (He.ga K "_law_due")) := let ⟨_, X, G⟩ := C.ex; He.glo_ok X G (C.c.fact 19 rfl)
theorem gl_w_no_mix (C : Ctx K mg) : mg "_law_no_mix" = some (.ref (He.ga K "_law_no_mix")) := let ⟨_, X, G⟩ := C.ex; He.glo_ok X G (C.c.fact 20 rfl)
theorem gl_w_right (C : Ctx K mg) : mg "_law_right" = some (.ref (He.ga K "_law_right")) := let ⟨_, X, G⟩ := C.ex; He.glo_ok X G (C.c.fact 21 rfl)
theorem gl_law (C : Ctx K mg) : mg "law" = some (.ref (He.ga K "law")) := let ⟨_, X, G⟩ := C.ex; He.glo_ok X G (C.c.fact 22 rfl)
theorem fr_len (C : Ctx K mg) : mg "len" = none := let ⟨_, X, G⟩ := C.ex; He.free_ok X G (C.c.fact 23 rfl)
theorem fr_max (C : Ctx K mg) : mg "max" = none := let ⟨_, X, G⟩ := C.ex; He.free_ok X G (C.c.fact 24 rfl)
theorem fr_min (C : Ctx K mg) : mg "min" = none := let ⟨_, X, G⟩ := C.ex; He.free_ok X G (C.c.fact 25 rfl)
theorem fr_range (C : Ctx K mg) : mg "range" = none := let ⟨_, X, G⟩ := C.ex; He.free_ok X G (C.c.fact 26 rfl)
theorem fr_list (C : Ctx K mg) : mg "list" = none := let ⟨_, X, G⟩ := C.ex; He.free_ok X G (C.c.fact 27 rfl)
theorem fr_sorted (C : Ctx K mg) : mg "sorted" = none := let ⟨_, X, G⟩ := C.ex; He.free_ok X G (C.c.fact 28 rfl)
theorem fr_isinstance (C : Ctx K mg) : mg "isinstance" = none := let ⟨_, X, G⟩ := C.ex; He.free_ok X G (C.c.fact 29 rfl)
theorem fr_dict (C : Ctx K mg) : mg "dict" = none := let ⟨_, X, G⟩ := C.ex; He.free_ok X G (C.c.fact 30 rfl)
theorem fr_tuple (C : Ctx K mg) : mg "tuple" = none := let ⟨_, X, G⟩ := C.ex; He.free_ok X G (C.c.fact 31 rfl)
theorem fr_int (C : Ctx K mg) : mg "int" = none := let ⟨_, X, G⟩ := C.ex; He.free_ok X G (C.c.fact 32 rfl)
theorem fr_bool (C : Ctx K mg) : mg "bool" = none := let ⟨_, X, G⟩ := C.ex; He.free_ok X G (C.c.fact 33 rfl)
theorem fr_str (C : Ctx K mg) : mg "str" = none := let ⟨_, X, G⟩ := C.ex; He.free_ok X G (C.c.fact 34 rfl)
theorem fr_all (C : Ctx K mg) : mg "all" = none := let ⟨_, X, G⟩ := C.ex; He.free_ok X G (C.c.fact 35 rfl)
theorem fr_enumerate (C : Ctx K mg) : mg "enumerate" = none := let ⟨_, X, G⟩ := C.ex; He.free_ok X G (C.c.fact 36 rfl)
theorem fr_zip (C : Ctx K mg) : mg "zip" = none := let ⟨_, X, G⟩ := C.ex; He.free_ok X G (C.c.fact 37 rfl)
theorem gl_NoPlace (C : Ctx K mg) : mg "NoPlace" = some (.ref (He.ga K "NoPlace")) := let ⟨_, X, G⟩ := C.ex; He.glo_ok X G (C.c.fact 38 rfl)
theorem ex_NoPlace (C : Ctx K mg) : ExcT K (He.ga K "NoPlace") ["place"] := excB_ok (C.c.fact 39 rfl)
theorem em_NoPlace_NoPlace (C : Ctx K mg) : PySem.W.exmOne K (.ref (He.ga K "NoPlace")) (.ref (He.ga K "NoPlace")) = some true := He.exm_ok (C.c.fact 40 rfl)
theorem em_NoPlace_Taken (C : Ctx K mg) : PySem.W.exmOne K (.ref (He.ga K "NoPlace")) (.ref (He.ga K "Taken")) = some false := He.exm_ok (C.c.fact 41 rfl)
theorem em_NoPlace_NoTicket (C : Ctx K mg) : PySem.W.exmOne K (.ref (He.ga K "NoPlace")) (.ref (He.ga K "NoTicket")) = some false := He.exm_ok (C.c.fact 42 rfl)
theorem em_NoPlace_NoName (C : Ctx K mg) : PySem.W.exmOne K (.ref (He.ga K "NoPlace")) (.ref (He.ga K "NoName")) = some false := He.exm_ok (C.c.fact 43 rfl)
theorem em_NoPlace_NoWeight (C : Ctx K mg) : PySem.W.exmOne K (.ref (He.ga K "NoPlace")) (.ref (He.ga K "NoWeight")) = some false := He.exm_ok (C.c.fact 44 rfl)
theorem gl_Taken (C : Ctx K mg) : mg "Taken" = some (.ref (He.ga K "Taken")) := let ⟨_, X, G⟩ := C.ex; He.glo_ok X G (C.c.fact 45 rfl)
theorem ex_Taken (C : Ctx K mg) : ExcT K (He.ga K "Taken") ["name"] := excB_ok (C.c.fact 46 rfl)
theorem em_Taken_NoPlace (C : Ctx K mg) : PySem.W.exmOne K (.ref (He.ga K "Taken")) (.ref (He.ga K "NoPlace")) = some false := He.exm_ok (C.c.fact 47 rfl)
theorem em_Taken_Taken (C : Ctx K mg) : PySem.W.exmOne K (.ref (He.ga K "Taken")) (.ref (He.ga K "Taken")) = some true := He.exm_ok (C.c.fact 48 rfl)
theorem em_Taken_NoTicket (C : Ctx K mg) : PySem.W.exmOne K (.ref (He.ga K "Taken")) (.ref (He.ga K "NoTicket")) = some false := He.exm_ok (C.c.fact 49 rfl)
theorem em_Taken_NoName (C : Ctx K mg) : PySem.W.exmOne K (.ref (He.ga K "Taken")) (.ref (He.ga K "NoName")) = some false := He.exm_ok (C.c.fact 50 rfl)
theorem em_Taken_NoWeight (C : Ctx K mg) : PySem.W.exmOne K (.ref (He.ga K "Taken")) (.ref (He.ga K "NoWeight")) = some false := He.exm_ok (C.c.fact 51 rfl)
theorem gl_NoTicket (C : Ctx K mg) : mg "NoTicket" = some (.ref (He.ga K "NoTicket")) := let ⟨_, X, G⟩ := C.ex; He.glo_ok X G (C.c.fact 52 rfl)
theorem ex_NoTicket (C : Ctx K mg) : ExcT K (He.ga K "NoTicket") ["ticket"] := excB_ok (C.c.fact 53 rfl)
theorem em_NoTicket_NoPlace (C : Ctx K mg) : PySem.W.exmOne K (.ref (He.ga K "NoTicket")) (.ref (He.ga K "NoPlace")) = some false := He.exm_ok (C.c.fact 54 rfl)
theorem em_NoTicket_Taken (C : Ctx K mg) : PySem.W.exmOne K (.ref (He.ga K "NoTicket")) (.ref (He.ga K "Taken")) = some false := He.exm_ok (C.c.fact 55 rfl)
theorem em_NoTicket_NoTicket (C : Ctx K mg) : PySem.W.exmOne K (.ref (He.ga K "NoTicket")) (.ref (He.ga K "NoTicket")) = some true := He.exm_ok (C.c.fact 56 rfl)
theorem em_NoTicket_NoName (C : Ctx K mg) : PySem.W.exmOne K (.ref (He.ga K "NoTicket")) (.ref (He.ga K "NoName")) = some false := He.exm_ok (C.c.fact 57 rfl)
theorem em_NoTicket_NoWeight (C : Ctx K mg) : PySem.W.exmOne K (.ref (He.ga K "NoTicket")) (.ref (He.ga K "NoWeight")) = some false := He.exm_ok (C.c.fact 58 rfl)
theorem gl_NoName (C : Ctx K mg) : mg "NoName" = some (.ref (He.ga K "NoName")) := let ⟨_, X, G⟩ := C.ex; He.glo_ok X G (C.c.fact 59 rfl)
theorem ex_NoName (C : Ctx K mg) : ExcT K (He.ga K "NoName") ["name"] := excB_ok (C.c.fact 60 rfl)
theorem em_NoName_NoPlace (C : Ctx K mg) : PySem.W.exmOne K (.ref (He.ga K "NoName")) (.ref (He.ga K "NoPlace")) = some false := He.exm_ok (C.c.fact 61 rfl)
theorem em_NoName_Taken (C : Ctx K mg) : PySem.W.exmOne K (.ref (He.ga K "NoName")) (.ref (He.ga K "Taken")) = some false := He.exm_ok (C.c.fact 62 rfl)
theorem em_NoName_NoTicket (C : Ctx K mg) : PySem.W.exmOne K (.ref (He.ga K "NoName")) (.ref (He.ga K "NoTicket")) = some false := He.exm_ok (C.c.fact 63 rfl)
theorem em_NoName_NoName (C : Ctx K mg) : PySem.W.exmOne K (.ref (He.ga K "NoName")) (.ref (He.ga K "NoName")) = some true := He.exm_ok (C.c.fact 64 rfl)
theorem em_NoName_NoWeight (C : Ctx K mg) : PySem.W.exmOne K (.ref (He.ga K "NoName")) (.ref (He.ga K "NoWeight")) = some false := He.exm_ok (C.c.fact 65 rfl)
theorem gl_NoWeight (C : Ctx K mg) : mg "NoWeight" = some (.ref (He.ga K "NoWeight")) := let ⟨_, X, G⟩ := C.ex; He.glo_ok X G (C.c.fact 66 rfl)
theorem ex_NoWeight (C : Ctx K mg) : ExcT K (He.ga K "NoWeight") ["weight"] := excB_ok (C.c.fact 67 rfl)
theorem em_NoWeight_NoPlace (C : Ctx K mg) : PySem.W.exmOne K (.ref (He.ga K "NoWeight")) (.ref (He.ga K "NoPlace")) = some false := He.exm_ok (C.c.fact 68 rfl)
theorem em_NoWeight_Taken (C : Ctx K mg) : PySem.W.exmOne K (.ref (He.ga K "NoWeight")) (.ref (He.ga K "Taken")) = some false := He.exm_ok (C.c.fact 69 rfl)
theorem em_NoWeight_NoTicket (C : Ctx K mg) : PySem.W.exmOne K (.ref (He.ga K "NoWeight")) (.ref (He.ga K "NoTicket")) = some false := He.exm_ok (C.c.fact 70 rfl)
theorem em_NoWeight_NoName (C : Ctx K mg) : PySem.W.exmOne K (.ref (He.ga K "NoWeight")) (.ref (He.ga K "NoName")) = some false := He.exm_ok (C.c.fact 71 rfl)
theorem em_NoWeight_NoWeight (C : Ctx K mg) : PySem.W.exmOne K (.ref (He.ga K "NoWeight")) (.ref (He.ga K "NoWeight")) = some true := He.exm_ok (C.c.fact 72 rfl)
theorem gl_Town (C : Ctx K mg) : mg "Town" = some (.ref (He.ga K "Town")) := let ⟨_, X, G⟩ := C.ex; He.glo_ok X G (C.c.fact 73 rfl)
theorem cl_Town (C : Ctx K mg) : Cls K (He.ga K "Town") := He.cls_ok (C.c.fact 74 rfl)
theorem mk_Town (C : Ctx K mg) : Mk K (He.ga K "Town") (He.ma K (He.ga K "Town") "__init__") := He.mkr_ok (C.c.fact 75 rfl)
theorem na_Town_by_name (C : Ctx K mg) : NoAttr K (He.ga K "Town") "by_name" := He.noat_ok (C.c.fact 76 rfl)
theorem mt_Town_house_names (C : Ctx K mg) : Meth K (He.ga K "Town") "house_names" (He.ma K (He.ga K "Town") "house_names") := He.meth_ok (C.c.fact 77 rfl)
theorem ct_LETTERS (C : Ctx K mg) : ∃ t, mg "LETTERS" = some (.str "abcdefghijklmnopqrstuvwxyz" t) := let ⟨_, X, G⟩ := C.ex; He.str_ok X G (C.c.fact 78 rfl)
theorem ct_LONGEST (C : Ctx K mg) : ∃ t, mg "LONGEST" = some (.int 8 t) := let ⟨_, X, G⟩ := C.ex; He.int_ok X G (C.c.fact 79 rfl)
theorem ct_HEAVIEST (C : Ctx K mg) : ∃ t, mg "HEAVIEST" = some (.int 1000 t) := let ⟨_, X, G⟩ := C.ex; He.int_ok X G (C.c.fact 80 rfl)
theorem fn_NoPlace_init (C : Ctx K mg) : ∃ fd, FunD K "__init__" "NoPlace.__init__" (defArgs s_NoPlace_init) (defBody s_NoPlace_init) (defScope s_NoPlace_init) (d_NoPlace_init.dvs K) (d_NoPlace_init.kws K) (He.fAd K ("NoPlace", some "__init__")) fd := C.c.def_ 0 (d := d_NoPlace_init) rfl
theorem fn_NoName_init (C : Ctx K mg) : ∃ fd, FunD K "__init__" "NoName.__init__" (defArgs s_NoName_init) (defBody s_NoName_init) (defScope s_NoName_init) (d_NoName_init.dvs K) (d_NoName_init.kws K) (He.fAd K ("NoName", some "__init__")) fd := C.c.def_ 1 (d := d_NoName_init) rfl
theorem fn_Taken_init (C : Ctx K mg) : ∃ fd, FunD K "__init__" "Taken.__init__" (defArgs s_Taken_init) (defBody s_Taken_init) (defScope s_Taken_init) (d_Taken_init.dvs K) (d_Taken_init.kws K) (He.fAd K ("Taken", some "__init__")) fd := C.c.def_ 2 (d := d_Taken_init) rfl
theorem fn_NoTicket_init (C : Ctx K mg) : ∃ fd, FunD K "__init__" "NoTicket.__init__" (defArgs s_NoTicket_init) (defBody s_NoTicket_init) (defScope s_NoTicket_init) (d_NoTicket_init.dvs K) (d_NoTicket_init.kws K) (He.fAd K ("NoTicket", some "__init__")) fd := C.c.def_ 3 (d := d_NoTicket_init) rfl
theorem fn_NoWeight_init (C : Ctx K mg) : ∃ fd, FunD K "__init__" "NoWeight.__init__" (defArgs s_NoWeight_init) (defBody s_NoWeight_init) (defScope s_NoWeight_init) (d_NoWeight_init.dvs K) (d_NoWeight_init.kws K) (He.fAd K ("NoWeight", some "__init__")) fd := C.c.def_ 4 (d := d_NoWeight_init) rfl
theorem fn_moves_of (C : Ctx K mg) : ∃ fd, FunD K "moves_of" "moves_of" (defArgs s_moves_of) (defBody s_moves_of) (defScope s_moves_of) (d_moves_of.dvs K) (d_moves_of.kws K) (He.fAd K ("moves_of", none)) fd := C.c.def_ 5 (d := d_moves_of) rfl
theorem fn_moved (C : Ctx K mg) : ∃ fd, FunD K "moved" "moved" (defArgs s_moved) (defBody s_moved) (defScope s_moved) (d_moved.dvs K) (d_moved.kws K) (He.fAd K ("moved", none)) fd := C.c.def_ 6 (d := d_moved) rfl
theorem fn_is_whole (C : Ctx K mg) : ∃ fd, FunD K "is_whole" "is_whole" (defArgs s_is_whole) (defBody s_is_whole) (defScope s_is_whole) (d_is_whole.dvs K) (d_is_whole.kws K) (He.fAd K ("is_whole", none)) fd := C.c.def_ 7 (d := d_is_whole) rfl
theorem fn_is_name (C : Ctx K mg) : ∃ fd, FunD K "is_name" "is_name" (defArgs s_is_name) (defBody s_is_name) (defScope s_is_name) (d_is_name.dvs K) (d_is_name.kws K) (He.fAd K ("is_name", none)) fd := C.c.def_ 8 (d := d_is_name) rfl
theorem fn_need_name (C : Ctx K mg) : ∃ fd, FunD K "need_name" "need_name" (defArgs s_need_name) (defBody s_need_name) (defScope s_need_name) (d_need_name.dvs K) (d_need_name.kws K) (He.fAd K ("need_name", none)) fd := C.c.def_ 9 (d := d_need_name) rfl
theorem fn_is_weight (C : Ctx K mg) : ∃ fd, FunD K "is_weight" "is_weight" (defArgs s_is_weight) (defBody s_is_weight) (defScope s_is_weight) (d_is_weight.dvs K) (d_is_weight.kws K) (He.fAd K ("is_weight", none)) fd := C.c.def_ 10 (d := d_is_weight) rfl
theorem fn_Town_init (C : Ctx K mg) : ∃ fd, FunD K "__init__" "Town.__init__" (defArgs s_Town_init) (defBody s_Town_init) (defScope s_Town_init) (d_Town_init.dvs K) (d_Town_init.kws K) (He.fAd K ("Town", some "__init__")) fd := C.c.def_ 11 (d := d_Town_init) rfl
theorem fn_Town_house_names (C : Ctx K mg) : ∃ fd, FunD K "house_names" "Town.house_names" (defArgs s_Town_house_names) (defBody s_Town_house_names) (defScope s_Town_house_names) (d_Town_house_names.dvs K) (d_Town_house_names.kws K) (He.fAd K ("Town", some "house_names")) fd := C.c.def_ 12 (d := d_Town_house_names) rfl
theorem fn_w_cell_at (C : Ctx K mg) : ∃ fd, FunD K "_law_cell_at" "_law_cell_at" (defArgs s_w_cell_at) (defBody s_w_cell_at) (defScope s_w_cell_at) (d_w_cell_at.dvs K) (d_w_cell_at.kws K) (He.fAd K ("_law_cell_at", none)) fd := C.c.def_ 13 (d := d_w_cell_at) rfl
theorem fn_w_pot (C : Ctx K mg) : ∃ fd, FunD K "_law_pot" "_law_pot" (defArgs s_w_pot) (defBody s_w_pot) (defScope s_w_pot) (d_w_pot.dvs K) (d_w_pot.kws K) (He.fAd K ("_law_pot", none)) fd := C.c.def_ 14 (d := d_w_pot) rfl
theorem fn_w_pick (C : Ctx K mg) : ∃ fd, FunD K "_law_pick" "_law_pick" (defArgs s_w_pick) (defBody s_w_pick) (defScope s_w_pick) (d_w_pick.dvs K) (d_w_pick.kws K) (He.fAd K ("_law_pick", none)) fd := C.c.def_ 15 (d := d_w_pick) rfl
theorem fn_w_name (C : Ctx K mg) : ∃ fd, FunD K "_law_name" "_law_name" (defArgs s_w_name) (defBody s_w_name) (defScope s_w_name) (d_w_name.dvs K) (d_w_name.kws K) (He.fAd K ("_law_name", none)) fd := C.c.def_ 16 (d := d_w_name) rfl
theorem fn_w_names (C : Ctx K mg) : ∃ fd, FunD K "_law_names" "_law_names" (defArgs s_w_names) (defBody s_w_names) (defScope s_w_names) (d_w_names.dvs K) (d_w_names.kws K) (He.fAd K ("_law_names", none)) fd := C.c.def_ 17 (d := d_w_names) rfl
theorem fn_w_houses (C : Ctx K mg) : ∃ fd, FunD K "_law_houses" "_law_houses" (defArgs s_w_houses) (defBody s_w_houses) (defScope s_w_houses) (d_w_houses.dvs K) (d_w_houses.kws K) (He.fAd K ("_law_houses", none)) fd := C.c.def_ 18 (d := d_w_houses) rfl
theorem fn_w_alike (C : Ctx K mg) : ∃ fd, FunD K "_law_alike" "_law_alike" (defArgs s_w_alike) (defBody s_w_alike) (defScope s_w_alike) (d_w_alike.dvs K) (d_w_alike.kws K) (He.fAd K ("_law_alike", none)) fd := C.c.def_ 19 (d := d_w_alike) rfl
theorem fn_w_mixed (C : Ctx K mg) : ∃ fd, FunD K "_law_mixed" "_law_mixed" (defArgs s_w_mixed) (defBody s_w_mixed) (defScope s_w_mixed) (d_w_mixed.dvs K) (d_w_mixed.kws K) (He.fAd K ("_law_mixed", none)) fd := C.c.def_ 20 (d := d_w_mixed) rfl
theorem fn_w_tickets (C : Ctx K mg) : ∃ fd, FunD K "_law_tickets" "_law_tickets" (defArgs s_w_tickets) (defBody s_w_tickets) (defScope s_w_tickets) (d_w_tickets.dvs K) (d_w_tickets.kws K) (He.fAd K ("_law_tickets", none)) fd := C.c.def_ 21 (d := d_w_tickets) rfl
theorem fn_w_homes (C : Ctx K mg) : ∃ fd, FunD K "_law_homes" "_law_homes" (defArgs s_w_homes) (defBody s_w_homes) (defScope s_w_homes) (d_w_homes.dvs K) (d_w_homes.kws K) (He.fAd K ("_law_homes", none)) fd := C.c.def_ 22 (d := d_w_homes) rfl
theorem fn_w_table (C : Ctx K mg) : ∃ fd, FunD K "_law_table" "_law_table" (defArgs s_w_table) (defBody s_w_table) (defScope s_w_table) (d_w_table.dvs K) (d_w_table.kws K) (He.fAd K ("_law_table", none)) fd := C.c.def_ 23 (d := d_w_table) rfl
theorem fn_w_copy (C : Ctx K mg) : ∃ fd, FunD K "_law_copy" "_law_copy" (defArgs s_w_copy) (defBody s_w_copy) (defScope s_w_copy) (d_w_copy.dvs K) (d_w_copy.kws K) (He.fAd K ("_law_copy", none)) fd := C.c.def_ 24 (d := d_w_copy) rfl
theorem fn_w_other (C : Ctx K mg) : ∃ fd, FunD K "_law_other" "_law_other" (defArgs s_w_other) (defBody s_w_other) (defScope s_w_other) (d_w_other.dvs K) (d_w_other.kws K) (He.fAd K ("_law_other", none)) fd := C.c.def_ 25 (d := d_w_other) rfl
theorem fn_w_due (C : Ctx K mg) : ∃ fd, FunD K "_law_due" "_law_due" (defArgs s_w_due) (defBody s_w_due) (defScope s_w_due) (d_w_due.dvs K) (d_w_due.kws K) (He.fAd K ("_law_due", none)) fd := C.c.def_ 26 (d := d_w_due) rfl
theorem fn_w_no_mix (C : Ctx K mg) : ∃ fd, FunD K "_law_no_mix" "_law_no_mix" (defArgs s_w_no_mix) (defBody s_w_no_mix) (defScope s_w_no_mix) (d_w_no_mix.dvs K) (d_w_no_mix.kws K) (He.fAd K ("_law_no_mix", none)) fd := C.c.def_ 27 (d := d_w_no_mix) rfl
theorem fn_w_right (C : Ctx K mg) : ∃ fd, FunD K "_law_right" "_law_right" (defArgs s_w_right) (defBody s_w_right) (defScope s_w_right) (d_w_right.dvs K) (d_w_right.kws K) (He.fAd K ("_law_right", none)) fd := C.c.def_ 28 (d := d_w_right) rfl
theorem fn_law (C : Ctx K mg) : ∃ fd, FunD K "law" "law" (defArgs s_law) (defBody s_law) (defScope s_law) (d_law.dvs K) (d_law.kws K) (He.fAd K ("law", none)) fd := C.c.def_ 29 (d := d_law) rfl
end

end My
namespace My
open PySem PySem.Spec PyProof.Rows L2
/-! the law's draws -/
def sp_w_cell_at (K : PySem.W.Frag) : Sp := fun vs H Q _ => ∃ (a : Addr) (ns : List Int) (k : Nat), vs = [.ref a, .int k] ∧ SqL K H a (ns.map V.int) ∧ ∀ z, Q (.int z) H
def sp_w_pot : Sp := fun vs H Q _ => ∃ (z : Int), vs = [.int z] ∧ ∀ a H', H a = none → Step [] H H' → PotAt H' a 0 → Q (.ref a) H'
def sp_w_pick : Sp := fun vs H Q _ => ∃ (a : Addr) (n : Int) (c : Nat), vs = [.ref a, .int n] ∧ 0 < n ∧ n < 2 ^ 128 ∧ PotAt H a c ∧ c < 2 ^ 60 ∧ ∀ (r : Int) H', 0 ≤ r → r < n → Step [a] H H' → PotAt H' a (c + 1) → Q (.int r) H'
theorem go_pick {H : Hp} {Q : VK} {E : XK} {a : Addr} {n : Int} {c : Nat} (hp : PotAt H a c) (h0 : 0 < n) (h1 : n < 2 ^ 128) (hc : c < 2 ^ 60) (q : ∀ (r : Int) H', 0 ≤ r → r < n → Step [a] H H' → PotAt H' a (c + 1) → Q (.int r) H') : sp_w_pick [.ref a, .int n] H Q E := ⟨a, n, c, rfl, h0, h1, hp, hc, q⟩
section
variable {P : Program} {w : World} {K : PySem.W.Frag} {mg : Str → Option Value} {base : Heap}
theorem ok_w_cell_at (C : Ctx K mg) : Has P w K mg base CX0 1 "_law_cell_at" ["script", "k"] (sp_w_cell_at K) := by
  obtain ⟨fd, F⟩ := fn_w_cell_at C
  refine ⟨⟨_, fd, ?_, gl_w_cell_at C, F.kp, F.bindsN fun _ _ _ _ _ _ us hl => match us, hl with | [_, _], _ => rfl⟩⟩
  refine F.ok (CX := CX0) sc_w_cell_at (fun vs H Q E h => ?_) (fun cdv A outer s H vs Q E hr h => ?_)
  · first | (obtain ⟨_, rfl, _⟩ := h; rfl) | (obtain ⟨_, _, rfl, _⟩ := h; rfl) | (obtain ⟨_, _, _, rfl, _⟩ := h; rfl) | (obtain ⟨_, _, _, _, rfl, _⟩ := h; rfl) | (obtain ⟨_, _, _, _, _, rfl, _⟩ := h; rfl) | (obtain ⟨_, _, _, _, _, _, rfl, _⟩ := h; rfl) | (obtain ⟨_, _, _, _, _, _, _, rfl, _⟩ := h; rfl) | (obtain ⟨_, _, _, _, _, _, _, _, rfl, _⟩ := h; rfl) | (obtain ⟨_, _, _, _, _, _, _, _, _, rfl, _⟩ := h; rfl) | (obtain ⟨_, _, _, _, _, _, _, _, _, _, rfl, _⟩ := h; rfl) | (obtain ⟨_, _, _, _, _, _, _, _, _, _, _, rfl, _⟩ := h; rfl) | (obtain ⟨_, _, _, _, _, _, _, _, _, _, _, _, rfl, _⟩ := h; rfl)
  have hu := hu_of hr
  refine ⟨_, PSs.nox (pss_cons (ps_if (pt_cmpR op_lt (pv 1) (pe_callB cr_lenL (by rfl) (fr_len C) PySem.boot_len (pa_cons (pv 0) pa_nil)) (nomark _)) (pss_one (ps_ret (pe_ix ix_list (pv 0) (pv 1) (fun _ _ => rfl)))) pss_nil)
    (pss_one (ps_ret pe_int))), ?_⟩
  obtain ⟨a, ns, k, rfl, hS, q⟩ := h
  walk_at "go"
  refine g_ite (fun hk => ?_) (fun hk => ?_)
  · walk_at "go"
    rw [List.length_map] at hk
    exact g_ixLK hS (at_nat (by rw [List.getElem?_map, List.getElem?_eq_getElem (by omega : k < ns.length)]; rfl)) (q _)
  · walk_at "go"
    exact q _
theorem ok_w_pot (C : Ctx K mg) : Has P w K mg base CX0 1 "_law_pot" ["cell"] sp_w_pot := by
  obtain ⟨fd, F⟩ := fn_w_pot C
  refine ⟨⟨_, fd, ?_, gl_w_pot C, F.kp, F.bindsN fun _ _ _ _ _ _ us hl => match us, hl with | [_], _ => rfl⟩⟩
  refine F.ok (CX := CX0) sc_w_pot (fun vs H Q E h => ?_) (fun cdv A outer s H vs Q E hr h => ?_)
  · first | (obtain ⟨_, rfl, _⟩ := h; rfl) | (obtain ⟨_, _, rfl, _⟩ := h; rfl) | (obtain ⟨_, _, _, rfl, _⟩ := h; rfl) | (obtain ⟨_, _, _, _, rfl, _⟩ := h; rfl) | (obtain ⟨_, _, _, _, _, rfl, _⟩ := h; rfl) | (obtain ⟨_, _, _, _, _, _, rfl, _⟩ := h; rfl) | (obtain ⟨_, _, _, _, _, _, _, rfl, _⟩ := h; rfl) | (obtain ⟨_, _, _, _, _, _, _, _, rfl, _⟩ := h; rfl) | (obtain ⟨_, _, _, _, _, _, _, _, _, rfl, _⟩ := h; rfl) | (obtain ⟨_, _, _, _, _, _, _, _, _, _, rfl, _⟩ := h; rfl) | (obtain ⟨_, _, _, _, _, _, _, _, _, _, _, rfl, _⟩ := h; rfl) | (obtain ⟨_, _, _, _, _, _, _, _, _, _, _, _, rfl, _⟩ := h; rfl)
  have hu := hu_of hr
  refine ⟨_, PSs.nox (pss_one (ps_ret (pe_lst (pa_cons (pe_callB (cr_max2 rfl) (by rfl) (fr_max C) (by decide +kernel) (pa_cons pe_int (pa_cons (pe_op op_sub (pv 0) (pe_op op_powP pe_int pe_int)) pa_nil))) (pa_cons (pe_op op_modP (pv 0) pe_int) (pa_cons pe_int pa_nil)))))), ?_⟩
  obtain ⟨z, rfl, q⟩ := h
  walk_at "go"
  intro p H2 hp st h2
  refine q p H2 hp st ⟨_, _, _, h2, by omega, Int.emod_nonneg _ (by decide), ?_, by omega, by omega⟩
  have := Int.emod_lt_of_pos z (show (0 : Int) < 170141183460469231731687303715884105727 by decide)
  omega
theorem ok_w_pick (C : Ctx K mg) : Has P w K mg base CX0 1 "_law_pick" ["pot", "many"] sp_w_pick := by
  obtain ⟨fd, F⟩ := fn_w_pick C
  refine ⟨⟨_, fd, ?_, gl_w_pick C, F.kp, F.bindsN fun _ _ _ _ _ _ us hl => match us, hl with | [_, _], _ => rfl⟩⟩
  refine F.ok (CX := CX0) sc_w_pick (fun vs H Q E h => ?_) (fun cdv A outer s H vs Q E hr h => ?_)
  · first | (obtain ⟨_, rfl, _⟩ := h; rfl) | (obtain ⟨_, _, rfl, _⟩ := h; rfl) | (obtain ⟨_, _, _, rfl, _⟩ := h; rfl) | (obtain ⟨_, _, _, _, rfl, _⟩ := h; rfl) | (obtain ⟨_, _, _, _, _, rfl, _⟩ := h; rfl) | (obtain ⟨_, _, _, _, _, _, rfl, _⟩ := h; rfl) | (obtain ⟨_, _, _, _, _, _, _, rfl, _⟩ := h; rfl) | (obtain ⟨_, _, _, _, _, _, _, _, rfl, _⟩ := h; rfl) | (obtain ⟨_, _, _, _, _, _, _, _, _, rfl, _⟩ := h; rfl) | (obtain ⟨_, _, _, _, _, _, _, _, _, _, rfl, _⟩ := h; rfl) | (obtain ⟨_, _, _, _, _, _, _, _, _, _, _, rfl, _⟩ := h; rfl) | (obtain ⟨_, _, _, _, _, _, _, _, _, _, _, _, rfl, _⟩ := h; rfl)
  have hu := hu_of hr
  refine ⟨_, PSs.nox (pss_cons (ps_if (pt_cmpR op_gt (pe_ix ix_list (pv 0) pe_int (fun _ _ => rfl)) pe_int (nomark _)) (pss_cons (ps_set (i := 2) sc_w_pick.nd rfl (Or.inl rfl) (pe_op op_modP (pe_ix ix_list (pv 0) pe_int (fun _ _ => rfl)) (pv 1)))
    (pss_cons (ps_asg (pe_op op_divP (pe_ix ix_list (pv 0) pe_int (fun _ _ => rfl)) (pv 1)) (pg_sub (pv 0) pe_int set_list))
    (pss_one (ps_ret (pv 2))))) pss_nil)
    (pss_cons (ps_asg (pe_op op_add (pe_ix ix_list (pv 0) pe_int (fun _ _ => rfl)) pe_int) (pg_sub (pv 0) pe_int set_list))
    (pss_cons (ps_set (i := 3) sc_w_pick.nd rfl (Or.inl rfl) (pe_op op_modP (pe_op op_powP (pe_op op_add (pe_op op_add (pe_ix ix_list (pv 0) pe_int (fun _ _ => rfl)) (pe_op op_mulP pe_int (pe_ix ix_list (pv 0) pe_int (fun _ _ => rfl)))) pe_int) pe_int) pe_int))
    (pss_cons (ps_set (i := 3) sc_w_pick.nd rfl (Or.inl rfl) (pe_op op_modP (pe_op op_powP (pe_op op_add (pv 3) (pe_op op_mulP pe_int (pe_ix ix_list (pv 0) pe_int (fun _ _ => rfl)))) pe_int) pe_int))
    (pss_one (ps_ret (pe_op op_modP (pe_op op_divP (pv 3) pe_int) (pv 1)))))))), ?_⟩
  obtain ⟨a, n, c, rfl, hn, hn2, ⟨p0, p1, p2, hp, h0, h1, h2, h3, h4⟩, hc, q⟩ := h
  walk_at "go"
  refine g_ite (fun hk => ?_) (fun hk => ?_)
  · walk_at "go"
    refine g_setL hp rfl fun H2 st e2 => ?_
    walk_at "go"
    exact q _ H2 (Int.emod_nonneg _ (by omega)) (Int.emod_lt_of_pos _ hn) st ⟨_, _, _, e2, Int.ediv_nonneg h0 (by omega), h1, h2, h3, by omega⟩
  · walk_at "go"
    refine g_setL hp rfl fun H2 st e2 => ?_
    have e2 : H2 a = some (HO.lst [V.int p0, V.int p1, V.int (p2 + 1)]) := e2
    walk_at "go"
    have b1 := Int.emod_nonneg ((p1 + 9176263 * (p2 + 1) + 57) ^ Int.toNat 3) (show (162259276829213363391578010288127 : Int) ≠ 0 by decide)
    have b2 := Int.emod_lt_of_pos ((p1 + 9176263 * (p2 + 1) + 57) ^ Int.toNat 3) (show (0 : Int) < 162259276829213363391578010288127 by decide)
    generalize (p1 + 9176263 * (p2 + 1) + 57) ^ Int.toNat 3 % 162259276829213363391578010288127 = z at b1 b2 ⊢
    walk_at "go"
    exact q _ H2 (Int.emod_nonneg _ (by omega)) (Int.emod_lt_of_pos _ hn) st ⟨_, _, _, e2, h0, h1, h2, by omega, by omega⟩
end

end My
namespace My
open PySem PySem.Spec PyProof.Rows L2
/-! names -/
def sp_w_name : Sp := fun vs H Q _ => ∃ (a : Addr) (c : Nat), vs = [.ref a] ∧ PotAt H a c ∧ c < 2 ^ 59 ∧ ∀ (z : Str) H', IsNm z → Step [a] H H' → PotAt H' a (c + 10) → Q (.str z) H'
theorem go_name {H : Hp} {Q : VK} {E : XK} {a : Addr} {c : Nat} (hp : PotAt H a c) (hc : c < 2 ^ 59) (q : ∀ (z : Str) H', IsNm z → Step [a] H H' → PotAt H' a (c + 10) → Q (.str z) H') : sp_w_name [.ref a] H Q E := ⟨a, c, rfl, hp, hc, q⟩
def sp_w_names : Sp := fun vs H Q _ => ∃ (a : Addr) (n : Int) (c : Nat), vs = [.ref a, .int n] ∧ 0 ≤ n ∧ n ≤ 100 ∧ PotAt H a c ∧ c < 2 ^ 58 ∧
  ∀ D (zs : List Str) H', H D = none → (zs.length : Int) ≤ n → zs.Nodup → (∀ z ∈ zs, IsNm z) → (0 < n → zs ≠ []) → Step [a] H H' → H' D = some (.lst (zs.map V.str)) → PotAt H' a (c + 1 + 13 * n.toNat) → Q (.ref D) H'
section
variable {P : Program} {w : World} {K : PySem.W.Frag} {mg : Str → Option Value} {base : Heap}
theorem ok_w_name (C : Ctx K mg) : Has P w K mg base CX0 2 "_law_name" ["pot"] sp_w_name := by
  obtain ⟨fd, F⟩ := fn_w_name C
  obtain ⟨f_w_pick, fd_w_pick, G_w_pick, mg_w_pick, kp_w_pick, b_w_pick⟩ := (ok_w_pick (P := P) (w := w) (base := base) C).ex
  refine ⟨⟨_, fd, ?_, gl_w_name C, F.kp, F.bindsN fun _ _ _ _ _ _ us hl => match us, hl with | [_], _ => rfl⟩⟩
  refine F.ok (CX := CX0) sc_w_name (fun vs H Q E h => ?_) (fun cdv A outer s H vs Q E hr h => ?_)
  · first | (obtain ⟨_, rfl, _⟩ := h; rfl) | (obtain ⟨_, _, rfl, _⟩ := h; rfl) | (obtain ⟨_, _, _, rfl, _⟩ := h; rfl) | (obtain ⟨_, _, _, _, rfl, _⟩ := h; rfl) | (obtain ⟨_, _, _, _, _, rfl, _⟩ := h; rfl) | (obtain ⟨_, _, _, _, _, _, rfl, _⟩ := h; rfl) | (obtain ⟨_, _, _, _, _, _, _, rfl, _⟩ := h; rfl) | (obtain ⟨_, _, _, _, _, _, _, _, rfl, _⟩ := h; rfl) | (obtain ⟨_, _, _, _, _, _, _, _, _, rfl, _⟩ := h; rfl) | (obtain ⟨_, _, _, _, _, _, _, _, _, _, rfl, _⟩ := h; rfl) | (obtain ⟨_, _, _, _, _, _, _, _, _, _, _, rfl, _⟩ := h; rfl) | (obtain ⟨_, _, _, _, _, _, _, _, _, _, _, _, rfl, _⟩ := h; rfl)
  have hu := hu_of hr
  refine ⟨_, PSs.nox (pss_cons (ps_set (i := 1) sc_w_name.nd rfl (Or.inr rfl) pe_str)
    (pss_cons (ps_set (i := 2) sc_w_name.nd rfl (Or.inl rfl) (pe_ix ix_list (pe_lst (pa_cons pe_int (pa_cons pe_int (pa_cons pe_int (pa_cons (pe_op op_add pe_int (pe_call G_w_pick (hr.mono (by decide)) rfl mg_w_pick kp_w_pick b_w_pick .nil pass0 (pa_cons (pv 0) (pa_cons pe_int pa_nil)))) pa_nil))))) (pe_call G_w_pick (hr.mono (by decide)) rfl mg_w_pick kp_w_pick b_w_pick .nil pass0 (pa_cons (pv 0) (pa_cons pe_int pa_nil))) (fun _ _ => rfl)))
    (pss_one (ps_ret (pe_joinR pe_str (pe_lc (own := [("k", 3)]) (g := (gName 3)) (tt := tYes) rfl sc_w_name.nd (pi_range1 rfl (fr_range C) (pa_cons (pv 2) pa_nil)) (blkOk_by (N := N_w_name) (sc := defScope s_w_name) (own := [("k", 3)]) (by decide +kernel)) (fun _ _ _ _ _ => (pg_name (i := 3) sc_w_name.nd rfl (Or.inl rfl))) (fun _ _ _ _ _ => pts_nil) (fun _ _ _ _ _ => (pe_ix ix_str (pv 1) (pe_call G_w_pick (hr.mono (by decide)) rfl mg_w_pick kp_w_pick b_w_pick .nil pass0 (pa_cons (pv 0) (pa_cons pe_int pa_nil))) (fun _ _ => rfl))))))))), ?_⟩
  obtain ⟨a, c, rfl, hp, hc, q⟩ := h
  walk_at "go"
  refine go_pick hp (by decide) (by decide) (by omega) fun r1 H1 r10 r11 s1 p1 => ?_
  walk_at "go"
  intro l H2 hl s2 e2
  have la : l ≠ a := (p1.ne hl).symm
  walk_at "go"
  refine go_pick (p1.step0 s2) (by decide) (by decide) (by omega) fun r2 H3 r20 r21 s3 p3 => ?_
  obtain ⟨m, hm, em⟩ := at4 (x0 := 1) (x1 := 2) (x2 := 8) (x3 := 1 + r1) r20 r21
  refine g_ixL (s3.at1 e2 la) em ?_
  have hm1 : 1 ≤ m ∧ m ≤ 8 := by omega
  walk_at "go"
  refine g_kRng1 (by omega) (by omega) ?_
  refine wLc_rng fun D H4 hD s4 e4 => ?_
  have aD : a ≠ D := p3.ne hD
  refine ⟨fun i H => ∃ ss : List Str, ss.length = i ∧ (∀ s ∈ ss, ∃ c, s = ⟨#[c]⟩ ∧ isLow c) ∧ H D = some (.lst (ss.map V.str)) ∧ PotAt H a (c + 2 + i) ∧ Step [a] H3 H, ⟨[], rfl, by simp, e4, p3.step0 s4, s4.up⟩, ?_, ?_⟩
  · rintro i H5 hi ⟨ss, h1, h2, h3, h4, h5⟩
    walk_at "go"
    refine go_pick h4 (by decide) (by decide) (by omega) fun r3 H6 r30 r31 s6 p6 => ?_
    obtain ⟨ch, hch, ech⟩ := letter_at r30 r31
    refine g_ixS letters_line ech ?_
    refine g_kEl (s6.at1 h3 aD.symm) (ltLine (by rw [List.length_map]; omega)) fun H7 s7 e7 => ?_
    refine ⟨ss ++ [⟨#[ch]⟩], by simp [h1], fun s hs => ?_, by rw [e7, List.map_append]; rfl, (p6.step1 s7 aD).mono (by omega), (h5.trans s6).via s7 hD⟩
    · rcases List.mem_append.mp hs with hs | hs
      · exact h2 s hs
      · exact ⟨ch, by simpa using hs, hch⟩
  · rintro H5 ⟨ss, h1, h2, h3, h4, h5⟩
    obtain ⟨f1, f2, f3⟩ := signs_flat h2
    have ee : cs ("" : Str) = [] := by decide +kernel
    refine g_join h3 ?_ ?_
    · rw [f3, ← cs_len, ee]
      simp
      omega
    · rw [TL.join_eq]
      exact q _ H5 (nm_of_signs h2 (by omega) (by omega)) (((s1.trans s2.up).trans s3).trans h5) (h4.mono (by omega))
theorem ok_w_names (C : Ctx K mg) : Has P w K mg base CX0 3 "_law_names" ["pot", "many"] sp_w_names := by
  obtain ⟨fd, F⟩ := fn_w_names C
  obtain ⟨f_w_pick, fd_w_pick, G_w_pick, mg_w_pick, kp_w_pick, b_w_pick⟩ := (ok_w_pick (P := P) (w := w) (base := base) C).ex
  obtain ⟨f_w_name, fd_w_name, G_w_name, mg_w_name, kp_w_name, b_w_name⟩ := (ok_w_name (P := P) (w := w) (base := base) C).ex
  refine ⟨⟨_, fd, ?_, gl_w_names C, F.kp, F.bindsN fun _ _ _ _ _ _ us hl => match us, hl with | [_, _], _ => rfl⟩⟩
  refine F.ok (CX := CX0) sc_w_names (fun vs H Q E h => ?_) (fun cdv A outer s H vs Q E hr h => ?_)
  · first | (obtain ⟨_, rfl, _⟩ := h; rfl) | (obtain ⟨_, _, rfl, _⟩ := h; rfl) | (obtain ⟨_, _, _, rfl, _⟩ := h; rfl) | (obtain ⟨_, _, _, _, rfl, _⟩ := h; rfl) | (obtain ⟨_, _, _, _, _, rfl, _⟩ := h; rfl) | (obtain ⟨_, _, _, _, _, _, rfl, _⟩ := h; rfl) | (obtain ⟨_, _, _, _, _, _, _, rfl, _⟩ := h; rfl) | (obtain ⟨_, _, _, _, _, _, _, _, rfl, _⟩ := h; rfl) | (obtain ⟨_, _, _, _, _, _, _, _, _, rfl, _⟩ := h; rfl) | (obtain ⟨_, _, _, _, _, _, _, _, _, _, rfl, _⟩ := h; rfl) | (obtain ⟨_, _, _, _, _, _, _, _, _, _, _, rfl, _⟩ := h; rfl) | (obtain ⟨_, _, _, _, _, _, _, _, _, _, _, _, rfl, _⟩ := h; rfl)
  have hu := hu_of hr
  refine ⟨_, PSs.nox (pss_cons (ps_set (i := 2) sc_w_names.nd rfl (Or.inl rfl) pe_str)
    (pss_cons (ps_set (i := 3) sc_w_names.nd rfl (Or.inl rfl) (pe_call G_w_pick (hr.mono (by decide)) rfl mg_w_pick kp_w_pick b_w_pick .nil pass0 (pa_cons (pv 0) (pa_cons pe_int pa_nil))))
    (pss_cons (ps_set (i := 4) sc_w_names.nd rfl (Or.inl rfl) (pe_lst pa_nil))
    (pss_cons (ps_for PassesOwn.never rfl (pi_range1 rfl (fr_range C) (pa_cons (pv 1) pa_nil)) (pg_name (i := 5) sc_w_names.nd rfl (Or.inl rfl))
    (pss_cons (ps_set (i := 6) sc_w_names.nd rfl (Or.inl rfl) (pe_call G_w_name (hr.mono (by decide)) rfl mg_w_name kp_w_name b_w_name .nil pass0 (pa_cons (pv 0) pa_nil)))
    (pss_cutM (ps_if (pt_cut (PW.pt (pw_and (pt_cmpR op_gt (pv 3) pe_int (nomark _)) (pw_and1 (pt_cmpR (op_neD hr.units) (pv 4) (pe_lst pa_nil) (nomark _)))))) (pss_cons (ps_set (i := 7) sc_w_names.nd rfl (Or.inl rfl) (pe_ix ix_list (pv 4) (pe_call G_w_pick (hr.mono (by decide)) rfl mg_w_pick kp_w_pick b_w_pick .nil pass0 (pa_cons (pv 0) (pa_cons (pe_callB cr_lenL (by rfl) (fr_len C) PySem.boot_len (pa_cons (pv 4) pa_nil)) pa_nil))) (fun _ _ => rfl)))
    (pss_cons (ps_set (i := 8) sc_w_names.nd rfl (Or.inl rfl) (pe_call G_w_pick (hr.mono (by decide)) rfl mg_w_pick kp_w_pick b_w_pick .nil pass0 (pa_cons (pv 0) (pa_cons (pe_callB cr_lenSt (by rfl) (fr_len C) PySem.boot_len (pa_cons (pv 7) pa_nil)) pa_nil))))
    (pss_one (ps_set (i := 6) sc_w_names.nd rfl (Or.inl rfl) (pe_slice sl_str (pe_op op_addS (pe_op op_addS (pe_slice sl_str (pv 7) po_none (po_some (pv 8))) (pe_ix ix_str (pv 2) (pe_call G_w_pick (hr.mono (by decide)) rfl mg_w_pick kp_w_pick b_w_pick .nil pass0 (pa_cons (pv 0) (pa_cons pe_int pa_nil))) (fun _ _ => rfl))) (pe_slice sl_str (pv 7) (po_some (pe_op op_sub (pe_op op_add (pv 8) pe_int) (pv 3))) po_none)) po_none (po_some pe_int)))))) pss_nil)
    (pss_one (ps_if (pt_cmpR op_notIn_seq (pv 6) (pv 4) (by rfl)) (pss_one (ps_expr (pe_bm PySem.F.plainAttrs_list PySem.F.slot_list_append PySem.F.type_list_append mt_append (pv 4) (pa_cons (pv 6) pa_nil)))) pss_nil)))))
    (pss_one (ps_ret (pv 4))))))), ?_⟩
  obtain ⟨a, n, c, rfl, hn0, hn1, hp, hc, q⟩ := h
  walk_at "go"
  refine go_pick hp (by decide) (by decide) (by omega) fun way H1 w0 w1 s1 p1 => ?_
  walk_at "go"
  intro D H2 hD s2 e2
  have aD : a ≠ D := p1.ne hD
  walk_at "go"
  refine g_kRng1 (by omega) (by omega) ?_
  refine wFor_rng (fun i σ H => ∃ (zs : List Str) (v5 v6 v7 v8 : Option V), σ = [some (.ref a), some (.int n), some (.str "abcdefghijklmnopqrstuvwxyz"), some (.int way), some (.ref D), v5, v6, v7, v8] ∧
    zs.length ≤ i ∧ zs.Nodup ∧ (∀ z ∈ zs, IsNm z) ∧ (0 < i → zs ≠ []) ∧ H D = some (.lst (zs.map V.str)) ∧ PotAt H a (c + 1 + 13 * i) ∧ Step [a] H1 H) ⟨[], _, _, _, _, rfl, Nat.le_refl _, List.nodup_nil, by simp, by omega, e2, p1.step0 s2, s2.up⟩ ?_ ?_
  · rintro i σ H3 hi ⟨zs, v5, v6, v7, v8, rfl, h1, h2, h3, h4, h5, h6, h7⟩
    walk_at "go"
    refine go_name h6 (by omega) fun one H4 n1 s4 p4 => ?_
    walk_at "go"
    refine g_cut (fun σ H => ∃ (z : Str) (v7 v8 : Option V), σ = [some (.ref a), some (.int n), some (.str "abcdefghijklmnopqrstuvwxyz"), some (.int way), some (.ref D), some (.int (0 + i)), some (.str z), v7, v8] ∧ IsNm z ∧
      H D = some (.lst (zs.map V.str)) ∧ PotAt H a (c + 1 + 13 * i + 13) ∧ Step [a] H1 H) ?_ ?_
    · have e4 := s4.at1 h5 aD.symm
      walk_at "go"
      refine g_tcut (fun b H => (b = true → 0 < way ∧ zs ≠ []) ∧ H D = some (.lst (zs.map V.str)) ∧ PotAt H a (c + 1 + 13 * i + 10) ∧ Step [a] H1 H) ?_ ?_
      · walk_at "go"
        refine g_ite (fun hw => ?_) (fun hw => ?_)
        · walk_at "go"
          intro l H5 hl s5 e5
          refine g_neC (cL cS) (rLS_of (s5.at0 e4)) (rLS_of (xs := []) e5) (fun x hx => (h3 x hx).ok) (by intro x hx; cases hx) ?_
          walk_at "go"
          exact ⟨fun hb => ⟨hw, by simpa using hb⟩, s5.at0 e4, p4.step0 s5, (h7.trans s4).trans s5.up⟩
        · exact ⟨fun hb => (nomatch hb), e4, p4, h7.trans s4⟩
      · rintro b H5 ⟨hb, e5, p5, s5⟩
        refine g_iteB (fun hb1 => ?_) (fun hb1 => ?_)
        · obtain ⟨hw, hz⟩ := hb hb1
          have hz0 : 0 < zs.length := List.length_pos_iff.mpr hz
          walk_at "go"
          rw [List.length_map]
          refine go_pick p5 (by omega) (by omega) (by omega) fun r1 H6 r10 r11 s6 p6 => ?_
          have e6 := s6.at1 e5 aD.symm
          obtain ⟨old, ho, eo⟩ := at_in (xs := zs) r10 r11
          have n2 := h3 old (List.mem_of_getElem? ho)
          refine g_ixL e6 (at_int r10 (by rw [List.getElem?_map, ho]; rfl)) ?_
          walk_at "go"
          refine g_lenSt (leLine (by have := n2.hi; omega)) ?_
          have n3 := n2.lo
          have n4 := n2.hi
          walk_at "go"
          refine go_pick p6 (by omega) (by omega) (by omega) fun r2 H7 r20 r21 s7 p7 => ?_
          walk_at "go"
          refine g_slS (leLine (by omega)) ?_
          walk_at "go"
          refine go_pick p7 (by decide) (by decide) (by omega) fun r3 H8 r30 r31 s8 p8 => ?_
          obtain ⟨ch, hch, ech⟩ := letter_at r30 r31
          refine g_ixS letters_line ech ?_
          have l1 := len_cut_le old none (some r2)
          refine g_addS (leLine (by rw [len_one]; omega)) ?_
          walk_at "go"
          refine g_slS (leLine (by omega)) ?_
          have l2 := len_cut_le old (some (r2 + 2 - way)) none
          refine g_addS (leLine (by rw [len_add, len_one]; omega)) ?_
          walk_at "go"
          refine g_slS (leLine (by rw [len_add, len_add, len_one]; omega)) ?_
          exact ⟨_, _, _, rfl, nm_turn n2 hch rfl, s8.at1 (s7.at1 e6 aD.symm) aD.symm, p8.mono (by omega), ((s5.trans s6).trans s7).trans s8⟩
        · walk_at "go"
          exact ⟨_, _, _, rfl, n1, e5, p5.mono (by omega), s5⟩
    · rintro σ H5 ⟨z, v7, v8, rfl, nz, e5, p5, s5⟩
      walk_at "go"
      refine g_notInS e5 ?_
      walk_at "go"
      refine g_iteN (fun hz => ?_) (fun hz => ?_)
      · walk_at "go"
        refine g_append e5 (ltLine (by rw [List.length_map]; omega)) fun H6 s6 e6 => ?_
        refine ⟨zs ++ [z], _, _, _, _, rfl, by simp; omega, nd_snoc h2 hz, fun y hy => ?_, by simp, by rw [e6, List.map_append]; rfl, (p5.step1 s6 aD).mono (by omega), s5.via s6 hD⟩
        rcases List.mem_append.mp hy with hy | hy
        · exact h3 y hy
        · rw [List.mem_singleton.mp hy]; exact nz
      · walk_at "go"
        exact ⟨zs, _, _, _, _, rfl, by omega, h2, h3, (fun _ q => by rw [q] at hz; cases hz), e5, p5.mono (by omega), s5⟩
  · rintro σ H3 ⟨zs, v5, v6, v7, v8, rfl, h1, h2, h3, h4, h5, h6, h7⟩
    walk_at "go"
    exact q D zs H3 (s1.fresh hD) (by omega) h2 h3 (fun z => h4 (by omega)) (s1.trans h7) h5 (h6.mono (by omega))
end

end My
namespace My
open PySem PySem.Spec PyProof.Rows L2
/-! towns' rows, mixed lists, tickets -/
abbrev Row := Str × Str × Int
abbrev rRow : Rp Row := rP3 rS rS rI
theorem mRow : Mono rRow := mP3 mS mS mI
structure RowOk (r : Row) : Prop where
  nm : IsNm r.1
  zn : IsNm r.2.1
  w0 : 0 ≤ r.2.2
  w1 : r.2.2 ≤ 1000
def sp_w_houses : Sp := fun vs H Q _ => ∃ (a : Addr) (n : Int) (c : Nat), vs = [.ref a, .int n] ∧ 0 ≤ n ∧ n ≤ 30 ∧ PotAt H a c ∧ c < 2 ^ 57 ∧
  ∀ D (rows : List Row) H', H D = none → (rows.length : Int) ≤ n → (rows.map (·.1)).Nodup → (∀ r ∈ rows, RowOk r) → Step [a] H H' → rL rRow (hide [a] H') (.ref D) rows → PotAt H' a (c + 1000) → Q (.ref D) H'
def sp_w_mixed : Sp := fun vs H Q _ => ∃ (a l : Addr) (xs : List V) (c : Nat), vs = [.ref a, .ref l] ∧ H l = some (.lst xs) ∧ xs.length ≤ 1000 ∧ PotAt H a c ∧ c < 2 ^ 58 ∧
  ∀ D (ys : List V) H', H D = none → ys.Perm xs → Step [a] H H' → H' D = some (.lst ys) → PotAt H' a (c + xs.length) → Q (.ref D) H'
def sp_w_tickets : Sp := fun vs H Q _ => ∃ (a : Addr) (n : Int) (c : Nat), vs = [.ref a, .int n] ∧ 0 ≤ n ∧ n ≤ 30 ∧ PotAt H a c ∧ c < 2 ^ 57 ∧
  ∀ D (ns : List Int) H', H D = none → (ns.length : Int) = n → ns.Nodup → (∀ z ∈ ns, 0 ≤ z ∧ z < 2 ^ 120) → Step [a] H H' → H' D = some (.lst (ns.map V.int)) → PotAt H' a (c + 100) → Q (.ref D) H'
section
variable {P : Program} {w : World} {K : PySem.W.Frag} {mg : Str → Option Value} {base : Heap}
theorem ok_w_houses (C : Ctx K mg) : Has P w K mg base CX0 4 "_law_houses" ["pot", "most"] sp_w_houses := by
  obtain ⟨fd, F⟩ := fn_w_houses C
  obtain ⟨f_w_names, fd_w_names, G_w_names, mg_w_names, kp_w_names, b_w_names⟩ := (ok_w_names (P := P) (w := w) (base := base) C).ex
  obtain ⟨f_w_pick, fd_w_pick, G_w_pick, mg_w_pick, kp_w_pick, b_w_pick⟩ := (ok_w_pick (P := P) (w := w) (base := base) C).ex
  refine ⟨⟨_, fd, ?_, gl_w_houses C, F.kp, F.bindsN fun _ _ _ _ _ _ us hl => match us, hl with | [_, _], _ => rfl⟩⟩
  refine F.ok (CX := CX0) sc_w_houses (fun vs H Q E h => ?_) (fun cdv A outer s H vs Q E hr h => ?_)
  · first | (obtain ⟨_, rfl, _⟩ := h; rfl) | (obtain ⟨_, _, rfl, _⟩ := h; rfl) | (obtain ⟨_, _, _, rfl, _⟩ := h; rfl) | (obtain ⟨_, _, _, _, rfl, _⟩ := h; rfl) | (obtain ⟨_, _, _, _, _, rfl, _⟩ := h; rfl) | (obtain ⟨_, _, _, _, _, _, rfl, _⟩ := h; rfl) | (obtain ⟨_, _, _, _, _, _, _, rfl, _⟩ := h; rfl) | (obtain ⟨_, _, _, _, _, _, _, _, rfl, _⟩ := h; rfl) | (obtain ⟨_, _, _, _, _, _, _, _, _, rfl, _⟩ := h; rfl) | (obtain ⟨_, _, _, _, _, _, _, _, _, _, rfl, _⟩ := h; rfl) | (obtain ⟨_, _, _, _, _, _, _, _, _, _, _, rfl, _⟩ := h; rfl) | (obtain ⟨_, _, _, _, _, _, _, _, _, _, _, _, rfl, _⟩ := h; rfl)
  have hu := hu_of hr
  refine ⟨_, PSs.nox (pss_cons (ps_set (i := 2) sc_w_houses.nd rfl (Or.inl rfl) (pe_call G_w_names (hr.mono (by decide)) rfl mg_w_names kp_w_names b_w_names .nil pass0 (pa_cons (pv 0) (pa_cons (pe_op op_add pe_int (pe_call G_w_pick (hr.mono (by decide)) rfl mg_w_pick kp_w_pick b_w_pick .nil pass0 (pa_cons (pv 0) (pa_cons pe_int pa_nil)))) pa_nil))))
    (pss_cons (ps_set (i := 3) sc_w_houses.nd rfl (Or.inl rfl) (pe_call G_w_pick (hr.mono (by decide)) rfl mg_w_pick kp_w_pick b_w_pick .nil pass0 (pa_cons (pv 0) (pa_cons pe_int pa_nil))))
    (pss_cons (ps_set (i := 4) sc_w_houses.nd rfl (Or.inl rfl) (pe_lst pa_nil))
    (pss_cons (ps_for PassesOwn.never rfl (pi_list (pe_call G_w_names (hr.mono (by decide)) rfl mg_w_names kp_w_names b_w_names .nil pass0 (pa_cons (pv 0) (pa_cons (pe_call G_w_pick (hr.mono (by decide)) rfl mg_w_pick kp_w_pick b_w_pick .nil pass0 (pa_cons (pv 0) (pa_cons (pe_op op_add (pv 1) pe_int) pa_nil))) pa_nil)))) (pg_name (i := 5) sc_w_houses.nd rfl (Or.inl rfl))
    (pss_cons (ps_set (i := 6) sc_w_houses.nd rfl (Or.inl rfl) (pe_ix ix_list (pe_lst (pa_cons (pe_op op_add pe_int (pe_call G_w_pick (hr.mono (by decide)) rfl mg_w_pick kp_w_pick b_w_pick .nil pass0 (pa_cons (pv 0) (pa_cons pe_int pa_nil)))) (pa_cons pe_int (pa_cons (pe_call G_w_pick (hr.mono (by decide)) rfl mg_w_pick kp_w_pick b_w_pick .nil pass0 (pa_cons (pv 0) (pa_cons pe_int pa_nil))) (pa_cons (pe_call G_w_pick (hr.mono (by decide)) rfl mg_w_pick kp_w_pick b_w_pick .nil pass0 (pa_cons (pv 0) (pa_cons pe_int pa_nil))) pa_nil))))) (pv 3) (fun _ _ => rfl)))
    (pss_one (ps_expr (pe_bm PySem.F.plainAttrs_list PySem.F.slot_list_append PySem.F.type_list_append mt_append (pv 4) (pa_cons (pe_tup (pa_cons (pv 5) (pa_cons (pe_ix ix_list (pv 2) (pe_call G_w_pick (hr.mono (by decide)) rfl mg_w_pick kp_w_pick b_w_pick .nil pass0 (pa_cons (pv 0) (pa_cons (pe_callB cr_lenL (by rfl) (fr_len C) PySem.boot_len (pa_cons (pv 2) pa_nil)) pa_nil))) (fun _ _ => rfl)) (pa_cons (pv 6) pa_nil)))) pa_nil))))))
    (pss_one (ps_ret (pv 4))))))), ?_⟩
  obtain ⟨a, n, c, rfl, hn0, hn1, hp, hc, q⟩ := h
  walk_at "go"
  refine go_pick hp (by decide) (by decide) (by omega) fun r1 H1 r10 r11 s1 p1 => ?_
  walk_at "go"
  refine ⟨a, _, _, rfl, by omega, by omega, p1, by omega, fun Ar ars H2 hAr la na nma nea s2 eAr p2 => ?_⟩
  have p2 := p2.mono (show c + 1 + 1 + 13 * (1 + r1).toNat ≤ c + 50 by omega)
  walk_at "go"
  refine go_pick p2 (by decide) (by decide) (by omega) fun way H3 w0 w1 s3 p3 => ?_
  walk_at "go"
  intro D H4 hD s4 e4
  have aD : a ≠ D := p3.ne hD
  walk_at "go"
  refine go_pick (p3.step0 s4) (by omega) (by omega) (by omega) fun r5 H5 r50 r51 s5 p5 => ?_
  walk_at "go"
  refine ⟨a, _, _, rfl, by omega, by omega, p5, by omega, fun L zs H6 hL lz nz nmz _ s6 eL p6 => ?_⟩
  have p6 := p6.mono (show c + 50 + 1 + 1 + 1 + 13 * r5.toNat ≤ c + 60 + 400 by omega)
  have aL : a ≠ L := p5.ne hL
  have e5 := s5.at1 e4 aD.symm
  have DL : D ≠ L := ne_of_none e5 hL
  have aA : a ≠ Ar := p1.ne hAr
  have DA : Ar ≠ D := (s3.ne eAr hD)
  have eA6 := s6.at1 (s5.at1 (s4.at0 (s3.at1 eAr aA.symm)) aA.symm) aA.symm
  have LA : Ar ≠ L := s5.ne (s4.at0 (s3.at1 eAr aA.symm)) hL
  have e6 := s6.at1 e5 aD.symm
  refine g_kList eL (wFor_list (xs := zs.map V.str) (fun i σ H => ∃ (rows : List Row) (v5 v6 : Option V), σ = [some (.ref a), some (.int n), some (.ref Ar), some (.int way), some (.ref D), v5, v6] ∧ rows.map (·.1) = zs.take i ∧ (∀ r ∈ rows, RowOk r) ∧
      (∃ vs, H D = some (.lst vs) ∧ Paired (rRow (hide [a, D] H)) vs rows) ∧ PotAt H a (c + 460 + 5 * i) ∧ Step [a] H3 H ∧ H L = some (.lst (zs.map V.str)) ∧ H Ar = some (.lst (ars.map V.str)))
    ⟨[], none, none, rfl, by simp, by simp, ⟨[], e6, .nil⟩, p6.mono (by omega), (s4.up.trans s5).trans s6, eL, eA6⟩ ?_ ?_ ?_)
  · rintro i σ H7 _ ⟨rows, v5, v6, rfl, h1, h2, h3, h4, h5, h6, h7⟩
    exact h6
  · rintro i x σ H7 hx ⟨rows, v5, v6, rfl, h1, h2, ⟨vs, h3, h3p⟩, h4, h5, h6, h7⟩
    rw [List.getElem?_map, Option.map_eq_some_iff] at hx
    obtain ⟨z, hz, rfl⟩ := hx
    have hi : i < zs.length := (List.getElem?_eq_some_iff.mp hz).1
    walk_at "go"
    refine go_pick h4 (by decide) (by decide) (by omega) fun q1 G1 q10 q11 t1 u1 => ?_
    walk_at "go"
    refine go_pick u1 (by decide) (by decide) (by omega) fun q2 G2 q20 q21 t2 u2 => ?_
    walk_at "go"
    refine go_pick u2 (by decide) (by decide) (by omega) fun q3 G3 q30 q31 t3 u3 => ?_
    walk_at "go"
    intro l G4 hl t4 el
    obtain ⟨m, hm, em⟩ := at4 (x0 := 1 + q1) (x1 := 1) (x2 := q2) (x3 := q3) w0 w1
    have hm1 : 0 ≤ m ∧ m ≤ 1000 := by omega
    have g7 := t4.at0 (t3.at1 (t2.at1 (t1.at1 h3 aD.symm) aD.symm) aD.symm)
    have f7 := t4.at0 (t3.at1 (t2.at1 (t1.at1 h7 aA.symm) aA.symm) aA.symm)
    walk_at "go"
    have hA0 : 0 < ars.length := List.length_pos_iff.mpr (nea (by omega))
    rw [List.length_map]
    refine go_pick (u3.step0 t4) (by omega) (by omega) (by omega) fun q4 G5 q40 q41 t5 u5 => ?_
    obtain ⟨zn, hzn, ezn⟩ := at_in (xs := ars) q40 q41
    have f8 := t5.at1 f7 aA.symm
    refine g_ixL f8 (at_int q40 (by rw [List.getElem?_map, hzn]; rfl)) ?_
    walk_at "go"
    intro t G6 ht t6 et
    have S : Step [a] H7 G6 := ((((t1.trans t2).trans t3).trans t4.up).trans t5).trans t6.up
    have d6 : G6 D = some (.lst vs) := S.at1 h3 aD.symm
    have lv : vs.length = i := by rw [P_len h3p, ← List.length_map (f := fun r : Row => r.1), h1, List.length_take]; omega
    walk_at "go"
    refine g_append d6 (ltLine (by omega)) fun G7 t7 et7 => ?_
    have ta : t ≠ a := (u5.ne ht).symm
    have tD : t ≠ D := fun e => by rw [e, d6] at et; cases et
    have tt : hide [a, D] G7 t = some (.tup [.str z, .str zn, .int m]) := hide_at (t7.at1 et tD) (by simp [ta, tD])
    refine ⟨rows ++ [(z, zn, m)], _, _, rfl, ?_, fun r hr => ?_, ⟨_, et7, P_snoc ⟨t, _, _, _, rfl, tt, rfl, rfl, rfl⟩ (Pmap h3p fun v x r => mRow _ _ _ _ ((S.mono (m' := [a, D]) (by simp)).le.trans (t7.hid (by simp))) r)⟩, ((u5.step0 t6).step1 t7 aD).mono (by omega), (h5.trans S).via t7 hD, ?_, ?_⟩
    · rw [List.map_append, h1, List.take_add_one, hz]; rfl
    · rcases List.mem_append.mp hr with hr | hr
      · exact h2 r hr
      · rw [List.mem_singleton.mp hr]
        exact ⟨nmz z (List.mem_of_getElem? hz), nma zn (List.mem_of_getElem? hzn), hm1.1, hm1.2⟩
    · exact t7.at1 (S.at1 h6 aL.symm) DL.symm
    · exact t7.at1 (S.at1 h7 aA.symm) DA
  · rintro σ H7 ⟨rows, v5, v6, rfl, h1, h2, ⟨vs, h3, h3p⟩, h4, h5, h6, h7⟩
    walk_at "go"
    have l1 : rows.map (·.1) = zs := by rw [h1, List.length_map, List.take_length]
    have l2 : rows.length = zs.length := by rw [← l1, List.length_map]
    refine q D rows H7 (s1.fresh (s2.fresh (s3.fresh hD))) (by omega) (by rw [l1]; exact nz) h2 (((s1.trans s2).trans s3).trans h5) ⟨D, vs, rfl, hide_at h3 (by simpa using aD.symm), Pmap h3p fun v x r => mRow _ _ _ _ (hide_sub (by simp)) r⟩ (h4.mono ?_)
    rw [List.length_map]
    omega
theorem ok_w_mixed (C : Ctx K mg) : Has P w K mg base CX0 2 "_law_mixed" ["pot", "some"] sp_w_mixed := by
  obtain ⟨fd, F⟩ := fn_w_mixed C
  obtain ⟨f_w_pick, fd_w_pick, G_w_pick, mg_w_pick, kp_w_pick, b_w_pick⟩ := (ok_w_pick (P := P) (w := w) (base := base) C).ex
  refine ⟨⟨_, fd, ?_, gl_w_mixed C, F.kp, F.bindsN fun _ _ _ _ _ _ us hl => match us, hl with | [_, _], _ => rfl⟩⟩
  refine F.ok (CX := CX0) sc_w_mixed (fun vs H Q E h => ?_) (fun cdv A outer s H vs Q E hr h => ?_)
  · first | (obtain ⟨_, rfl, _⟩ := h; rfl) | (obtain ⟨_, _, rfl, _⟩ := h; rfl) | (obtain ⟨_, _, _, rfl, _⟩ := h; rfl) | (obtain ⟨_, _, _, _, rfl, _⟩ := h; rfl) | (obtain ⟨_, _, _, _, _, rfl, _⟩ := h; rfl) | (obtain ⟨_, _, _, _, _, _, rfl, _⟩ := h; rfl) | (obtain ⟨_, _, _, _, _, _, _, rfl, _⟩ := h; rfl) | (obtain ⟨_, _, _, _, _, _, _, _, rfl, _⟩ := h; rfl) | (obtain ⟨_, _, _, _, _, _, _, _, _, rfl, _⟩ := h; rfl) | (obtain ⟨_, _, _, _, _, _, _, _, _, _, rfl, _⟩ := h; rfl) | (obtain ⟨_, _, _, _, _, _, _, _, _, _, _, rfl, _⟩ := h; rfl) | (obtain ⟨_, _, _, _, _, _, _, _, _, _, _, _, rfl, _⟩ := h; rfl)
  have hu := hu_of hr
  refine ⟨_, PSs.nox (pss_cons (ps_set (i := 2) sc_w_mixed.nd rfl (Or.inr rfl) (pe_callTy cr_listL (by rfl) (fr_list C) (by decide +kernel) (pa_cons (pv 1) pa_nil)))
    (pss_one (ps_ret (pe_lc (own := [("k", 3)]) (g := (gName 3)) (tt := tYes) rfl sc_w_mixed.nd (pi_range1 rfl (fr_range C) (pa_cons (pe_callB cr_lenL (by rfl) (fr_len C) PySem.boot_len (pa_cons (pv 1) pa_nil)) pa_nil)) (blkOk_by (N := N_w_mixed) (sc := defScope s_w_mixed) (own := [("k", 3)]) (by decide +kernel)) (fun _ _ _ _ _ => (pg_name (i := 3) sc_w_mixed.nd rfl (Or.inl rfl))) (fun _ _ _ _ _ => pts_nil) (fun _ _ _ _ _ => (pe_bmK (K := K) (pe_bm PySem.F.plainAttrs_list PySem.F.slot_list_pop PySem.F.type_list_pop mt_popAt (pv 2) (pa_cons (pe_call G_w_pick (hr.mono (by decide)) rfl mg_w_pick kp_w_pick b_w_pick .nil pass0 (pa_cons (pv 0) (pa_cons (pe_callB (kCall (K := K) (r := rLenL) cr_lenL) (by rfl) (fr_len C) PySem.boot_len (pa_cons (pv 2) pa_nil)) pa_nil))) pa_nil)))))))), ?_⟩
  obtain ⟨a, l, xs, c, rfl, hl, hz, hp, hc, q⟩ := h
  walk_at "go"
  refine g_listL hl fun lf H1 hlf s1 e1 => ?_
  have alf : a ≠ lf := hp.ne hlf
  walk_at "go"
  have l1 := s1.at0 hl
  walk_at "go"
  refine g_kRng1 (by omega) (by omega) ?_
  refine wLc_rng fun D H2 hD s2 e2 => ?_
  have p1 := hp.step0 s1
  have aD : a ≠ D := p1.ne hD
  have lD : lf ≠ D := ne_of_none e1 hD
  refine ⟨fun i H => ∃ ys zs : List V, H D = some (.lst ys) ∧ H lf = some (.lst zs) ∧ (ys ++ zs).Perm xs ∧ ys.length = i ∧ PotAt H a (c + i) ∧ Step [a, lf] H1 H, ⟨[], xs, e2, s2.at0 e1, List.Perm.refl _, rfl, p1.step0 s2, s2.up⟩, ?_, ?_⟩
  · rintro i H3 hi ⟨ys, zs, h1, h2, h3, h4, h5, h6⟩
    have hlen := h3.length_eq
    rw [List.length_append] at hlen
    have hi : i < xs.length := by omega
    walk_at "go"
    refine go_pick h5 (by omega) (by omega) (by omega) fun r H4 r0 r1 s4 p4 => ?_
    have lt : r.toNat < zs.length := by omega
    refine g_popAt (k := r.toNat) (s4.at1 h2 alf.symm) (by omega) (by omega) (seqIx_in r0 r1) (List.getElem?_eq_getElem lt) fun H5 s5 e5 => ?_
    have d5 := s5.at1 (s4.at1 h1 aD.symm) lD.symm
    refine g_kEl d5 (ltLine (by omega)) fun H6 s6 e6 => ?_
    refine ⟨_, _, e6, s6.at1 e5 lD, ?_, by simp [h4], ((p4.step1 s5 alf).step1 s6 aD).mono (by omega), ((h6.trans (s4.sub1 _ (by simp))).trans (s5.sub1 _ (by simp))).via s6 hD⟩
    refine List.Perm.trans ?_ h3
    rw [List.append_assoc]
    exact List.Perm.append_left _ (erase_perm lt)
  · rintro H3 ⟨ys, zs, h1, h2, h3, h4, h5, h6⟩
    have hlen := h3.length_eq
    rw [List.length_append] at hlen
    have hz0 : zs = [] := List.length_eq_zero_iff.mp (by omega)
    rw [hz0, List.append_nil] at h3
    exact q D ys H3 (s1.fresh hD) h3 ((s1.up.trans h6).drop2 hlf) h1 (h5.mono (by omega))
end
section
variable {P : Program} {w : World} {K : PySem.W.Frag} {mg : Str → Option Value} {base : Heap}
theorem ok_w_tickets (C : Ctx K mg) : Has P w K mg base CX0 3 "_law_tickets" ["pot", "many"] sp_w_tickets := by
  obtain ⟨fd, F⟩ := fn_w_tickets C
  obtain ⟨f_w_pick, fd_w_pick, G_w_pick, mg_w_pick, kp_w_pick, b_w_pick⟩ := (ok_w_pick (P := P) (w := w) (base := base) C).ex
  obtain ⟨f_w_mixed, fd_w_mixed, G_w_mixed, mg_w_mixed, kp_w_mixed, b_w_mixed⟩ := (ok_w_mixed (P := P) (w := w) (base := base) C).ex
  refine ⟨⟨_, fd, ?_, gl_w_tickets C, F.kp, F.bindsN fun _ _ _ _ _ _ us hl => match us, hl with | [_, _], _ => rfl⟩⟩
  refine F.ok (CX := CX0) sc_w_tickets (fun vs H Q E h => ?_) (fun cdv A outer s H vs Q E hr h => ?_)
  · first | (obtain ⟨_, rfl, _⟩ := h; rfl) | (obtain ⟨_, _, rfl, _⟩ := h; rfl) | (obtain ⟨_, _, _, rfl, _⟩ := h; rfl) | (obtain ⟨_, _, _, _, rfl, _⟩ := h; rfl) | (obtain ⟨_, _, _, _, _, rfl, _⟩ := h; rfl) | (obtain ⟨_, _, _, _, _, _, rfl, _⟩ := h; rfl) | (obtain ⟨_, _, _, _, _, _, _, rfl, _⟩ := h; rfl) | (obtain ⟨_, _, _, _, _, _, _, _, rfl, _⟩ := h; rfl) | (obtain ⟨_, _, _, _, _, _, _, _, _, rfl, _⟩ := h; rfl) | (obtain ⟨_, _, _, _, _, _, _, _, _, _, rfl, _⟩ := h; rfl) | (obtain ⟨_, _, _, _, _, _, _, _, _, _, _, rfl, _⟩ := h; rfl) | (obtain ⟨_, _, _, _, _, _, _, _, _, _, _, _, rfl, _⟩ := h; rfl)
  have hu := hu_of hr
  refine ⟨_, PSs.nox (pss_cons (ps_set (i := 2) sc_w_tickets.nd rfl (Or.inl rfl) (pe_ix ix_list (pe_lst (pa_cons pe_int (pa_cons pe_int (pa_cons pe_int (pa_cons (pe_op op_powP pe_int pe_int) pa_nil))))) (pe_call G_w_pick (hr.mono (by decide)) rfl mg_w_pick kp_w_pick b_w_pick .nil pass0 (pa_cons (pv 0) (pa_cons pe_int pa_nil))) (fun _ _ => rfl)))
    (pss_cons (ps_set (i := 3) sc_w_tickets.nd rfl (Or.inl rfl) (pe_call G_w_pick (hr.mono (by decide)) rfl mg_w_pick kp_w_pick b_w_pick .nil pass0 (pa_cons (pv 0) (pa_cons pe_int pa_nil))))
    (pss_cons (ps_set (i := 4) sc_w_tickets.nd rfl (Or.inl rfl) (pe_lst pa_nil))
    (pss_cons (ps_for PassesOwn.never rfl (pi_range1 rfl (fr_range C) (pa_cons (pv 1) pa_nil)) (pg_name (i := 5) sc_w_tickets.nd rfl (Or.inl rfl))
    (pss_cons (ps_expr (pe_bm PySem.F.plainAttrs_list PySem.F.slot_list_append PySem.F.type_list_append mt_append (pv 4) (pa_cons (pv 3) pa_nil)))
    (pss_one (ps_set (i := 3) sc_w_tickets.nd rfl (Or.inl rfl) (pe_op op_add (pe_op op_add (pv 3) pe_int) (pe_call G_w_pick (hr.mono (by decide)) rfl mg_w_pick kp_w_pick b_w_pick .nil pass0 (pa_cons (pv 0) (pa_cons (pv 2) pa_nil))))))))
    (pss_one (ps_ret (pe_call G_w_mixed (hr.mono (by decide)) rfl mg_w_mixed kp_w_mixed b_w_mixed .nil pass0 (pa_cons (pv 0) (pa_cons (pv 4) pa_nil))))))))), ?_⟩
  obtain ⟨a, n, c, rfl, hn0, hn1, hp, hc, q⟩ := h
  have ea : (10 : Int) ^ Int.toNat 30 = 1000000000000000000000000000000 := by decide
  walk_at "go"
  intro l H0 hl s0 e0
  rw [ea] at e0
  have la : l ≠ a := (hp.ne hl).symm
  walk_at "go"
  refine go_pick (hp.step0 s0) (by decide) (by decide) (by omega) fun r1 H1 r10 r11 s1 p1 => ?_
  obtain ⟨wd, hw, ew⟩ := at4 (x0 := 1) (x1 := 1) (x2 := 40) (x3 := 1000000000000000000000000000000) r10 r11
  refine g_ixL (s1.at1 e0 la) ew ?_
  have hw1 : 1 ≤ wd ∧ wd ≤ 1000000000000000000000000000000 := by omega
  walk_at "go"
  refine go_pick p1 (by decide) (by decide) (by omega) fun r2 H2 r20 r21 s2 p2 => ?_
  walk_at "go"
  intro D H3 hD s3 e3
  have aD : a ≠ D := p2.ne hD
  walk_at "go"
  refine g_kRng1 (by omega) (by omega) ?_
  refine wFor_rng (fun i σ H => ∃ (ns : List Int) (z : Int) (v5 : Option V), σ = [some (.ref a), some (.int n), some (.int wd), some (.int z), some (.ref D), v5] ∧ ns.length = i ∧ ns.Nodup ∧ (∀ y ∈ ns, 0 ≤ y ∧ y < z) ∧
      0 ≤ z ∧ z ≤ 3 + 1000000000000000000000000000001 * (i : Int) ∧ H D = some (.lst (ns.map V.int)) ∧ PotAt H a (c + 2 + i) ∧ Step [a] H2 H) ⟨[], r2, none, rfl, rfl, List.nodup_nil, by simp, r20, by omega, e3, p2.step0 s3, s3.up⟩ ?_ ?_
  · rintro i σ H4 hi ⟨ns, z, v5, rfl, h1, h2, h3, h4, h5, h6, h7, h8⟩
    walk_at "go"
    refine g_append h6 (ltLine (by rw [List.length_map]; omega)) fun H5 s5 e5 => ?_
    walk_at "go"
    refine go_pick (h7.step1 s5 aD) (by omega) (by omega) (by omega) fun r3 H6 r30 r31 s6 p6 => ?_
    walk_at "go"
    refine ⟨ns ++ [z], _, _, rfl, by simp [h1], nd_snoc h2 fun hz => ?_, fun y hy => ?_, by omega, by omega, ?_, p6.mono (by omega), (h8.via s5 hD).trans s6⟩
    · have := h3 z hz
      omega
    · rcases List.mem_append.mp hy with hy | hy
      · have := h3 y hy
        omega
      · rw [List.mem_singleton.mp hy]
        omega
    · rw [s6.at1 e5 aD.symm, List.map_append]; rfl
  · rintro σ H4 ⟨ns, z, v5, rfl, h1, h2, h3, h4, h5, h6, h7, h8⟩
    walk_at "go"
    refine ⟨a, D, _, _, rfl, h6, by rw [List.length_map]; omega, h7, by omega, fun D2 ys H5 hD2 hp2 s5 e5 p5 => ?_⟩
    obtain ⟨ns2, hn2, rfl⟩ := perm_ints hp2
    have ll := hn2.length_eq
    refine q D2 ns2 H5 (s0.fresh (s1.fresh (s2.fresh (h8.fresh hD2)))) (by omega) ((List.Perm.nodup_iff hn2).mpr h2) (fun y hy => ?_) ((((s0.up.trans s1).trans s2).trans h8).trans s5) e5 (p5.mono (by rw [List.length_map]; omega))
    have := h3 y (hn2.mem_iff.mp hy)
    omega
end

end My
namespace My
open PySem PySem.Spec PyProof.Rows L2
/-! homes, tables, copies -/
def cand : List Str := (cs ("abcdefghij" : Str)).map fun c => ("zzzzzzz" : Str) ++ (⟨#[c]⟩ : Str)
theorem cand_nd : cand.Nodup := by decide +kernel
theorem cand_len : cand.length = 10 := by decide +kernel
theorem cand_nm : ∀ z ∈ cand, IsNm z := by
  have h : ∀ z ∈ cand, 1 ≤ z.length ∧ z.length ≤ 8 ∧ ∀ c ∈ cs z, 97 ≤ c ∧ c ≤ 122 := by decide +kernel
  exact fun z hz => ⟨(h z hz).1, (h z hz).2.1, (h z hz).2.2⟩
def sp_w_homes : Sp := fun vs H Q _ => ∃ (a R : Addr) (rows : List Row) (n : Int) (c : Nat), vs = [.ref a, .ref R, .int n] ∧ rL rRow (hide [a] H) (.ref R) rows ∧ (∀ r ∈ rows, RowOk r) ∧ (rows.map (·.1)).Nodup ∧ rows.length ≤ 30 ∧ 0 ≤ n ∧ n ≤ 10 ∧ PotAt H a c ∧ c < 2 ^ 57 ∧
  ∀ D (hs : List Str) H', H D = none → (hs.length : Int) = n → hs.Nodup → (∀ z ∈ hs, IsNm z) → Step [a] H H' → H' D = some (.lst (hs.map V.str)) → PotAt H' a (c + 100) → Q (.ref D) H'
section
variable {P : Program} {w : World} {K : PySem.W.Frag} {mg : Str → Option Value} {base : Heap}
theorem ok_w_homes (C : Ctx K mg) : Has P w K mg base CX0 3 "_law_homes" ["pot", "rows", "size"] sp_w_homes := by
  obtain ⟨fd, F⟩ := fn_w_homes C
  obtain ⟨f_w_pick, fd_w_pick, G_w_pick, mg_w_pick, kp_w_pick, b_w_pick⟩ := (ok_w_pick (P := P) (w := w) (base := base) C).ex
  obtain ⟨f_w_mixed, fd_w_mixed, G_w_mixed, mg_w_mixed, kp_w_mixed, b_w_mixed⟩ := (ok_w_mixed (P := P) (w := w) (base := base) C).ex
  refine ⟨⟨_, fd, ?_, gl_w_homes C, F.kp, F.bindsN fun _ _ _ _ _ _ us hl => match us, hl with | [_, _, _], _ => rfl⟩⟩
  refine F.ok (CX := CX0) sc_w_homes (fun vs H Q E h => ?_) (fun cdv A outer s H vs Q E hr h => ?_)
  · first | (obtain ⟨_, rfl, _⟩ := h; rfl) | (obtain ⟨_, _, rfl, _⟩ := h; rfl) | (obtain ⟨_, _, _, rfl, _⟩ := h; rfl) | (obtain ⟨_, _, _, _, rfl, _⟩ := h; rfl) | (obtain ⟨_, _, _, _, _, rfl, _⟩ := h; rfl) | (obtain ⟨_, _, _, _, _, _, rfl, _⟩ := h; rfl) | (obtain ⟨_, _, _, _, _, _, _, rfl, _⟩ := h; rfl) | (obtain ⟨_, _, _, _, _, _, _, _, rfl, _⟩ := h; rfl) | (obtain ⟨_, _, _, _, _, _, _, _, _, rfl, _⟩ := h; rfl) | (obtain ⟨_, _, _, _, _, _, _, _, _, _, rfl, _⟩ := h; rfl) | (obtain ⟨_, _, _, _, _, _, _, _, _, _, _, rfl, _⟩ := h; rfl) | (obtain ⟨_, _, _, _, _, _, _, _, _, _, _, _, rfl, _⟩ := h; rfl)
  have hu := hu_of hr
  refine ⟨_, PSs.nox (pss_cons (ps_setLc (i := 3) (own := [("row", 5)]) (g := (gName 5)) (tt := tYes) rfl sc_w_homes.nd rfl rfl (sw_true rfl rfl rfl (by decide +kernel)) (pi_list (pv 1)) (blkOk_by (N := N_w_homes) (sc := defScope s_w_homes) (own := [("row", 5)]) (by decide +kernel)) (fun _ _ _ _ _ => (pg_name (i := 5) sc_w_homes.nd rfl (Or.inl rfl))) (fun _ _ _ _ _ => pts_nil) (fun _ _ _ _ _ => (pe_ix (kIx (K := K) (r := rIxT) ix_tup) (pv 5) pe_int (fun _ _ => rfl))))
    (pss_cons (ps_for PassesOwn.never rfl (pi_list (pe_lc (own := [("letter", 6)]) (g := (gName 6)) (tt := tYes) rfl sc_w_homes.nd (pi_str pe_str) (blkOk_by (N := N_w_homes) (sc := defScope s_w_homes) (own := [("letter", 6)]) (by decide +kernel)) (fun _ _ _ _ _ => (pg_name (i := 6) sc_w_homes.nd rfl (Or.inl rfl))) (fun _ _ _ _ _ => pts_nil) (fun _ _ _ _ _ => (pe_op op_addS pe_str (pv 6))))) (pg_name (i := 4) sc_w_homes.nd rfl (Or.inl rfl))
    (pss_one (ps_if (pt_cut (PW.pt (pw_and (pt_cmpR op_notIn_seq (pv 4) (pv 3) (by rfl)) (pw_and1 (pt_cut (PW.pt (pw_or (pt_cmpR op_lt (pe_callB cr_lenL (by rfl) (fr_len C) PySem.boot_len (pa_cons (pv 3) pa_nil)) (pv 2) (nomark _)) (pw_or1 (pt_cmpR op_eq (pe_call G_w_pick (hr.mono (by decide)) rfl mg_w_pick kp_w_pick b_w_pick .nil pass0 (pa_cons (pv 0) (pa_cons pe_int pa_nil))) pe_int (nomark _)))))))))) (pss_one (ps_expr (pe_bm PySem.F.plainAttrs_list PySem.F.slot_list_append PySem.F.type_list_append mt_append (pv 3) (pa_cons (pv 4) pa_nil)))) pss_nil)))
    (pss_one (ps_ret (pe_slice sl_list (pe_call G_w_mixed (hr.mono (by decide)) rfl mg_w_mixed kp_w_mixed b_w_mixed .nil pass0 (pa_cons (pv 0) (pa_cons (pv 3) pa_nil))) po_none (po_some (pv 2))))))), ?_⟩
  obtain ⟨a, R, rows, n, c, rfl, hR, hok, hnd, hlr, hn0, hn1, hp, hc, q⟩ := h
  obtain ⟨_, rvs, ⟨⟩, hR1, hRp⟩ := id hR
  have hR2 := hide_le _ _ hR1
  have Ra : R ≠ a := fun e => by rw [e, hide_in (by simp)] at hR1; cases hR1
  walk_at "go"
  refine wLc_list (xs := rvs) fun Po H1 hPo s1 e1 => ?_
  have aP : a ≠ Po := hp.ne hPo
  have RP : R ≠ Po := ne_of_none hR2 hPo
  refine ⟨fun i H' => H' Po = some (.lst (((rows.map (·.1)).take i).map V.str)) ∧ Step [] H H', ⟨e1, s1⟩, fun i H' _ h => h.2.at0 hR2, ?_, ?_⟩
  · rintro i x H2 hx ⟨h1, h2⟩
    obtain ⟨r, hr, t, u1, u2, u3, rfl, ht, rfl, rfl, rfl⟩ := P_get hRp hx
    have ht2 := h2.at0 (hide_le _ _ ht)
    walk_at "go"
    refine g_kEl h1 (ltLine (by rw [List.length_map, List.length_take, List.length_map]; omega)) fun H3 s3 e3 => ⟨?_, h2.via s3 hPo⟩
    rw [e3, List.take_add_one, List.getElem?_map, hr, List.map_append]
    rfl
  · rintro H2 ⟨h1, h2⟩
    have el : rvs.length = (rows.map (·.1)).length := by rw [P_len hRp, List.length_map]
    rw [el, List.take_length] at h1
    walk_at "go"
    refine wLc_str fun Ca H3 hCa s3 e3 => ?_
    have PC : Po ≠ Ca := ne_of_none h1 hCa
    have aC : a ≠ Ca := (hp.step0 h2).ne hCa
    refine ⟨fun i H' => H' Ca = some (.lst ((cand.take i).map V.str)) ∧ Step [] H2 H', ⟨e3, s3⟩, ?_, ?_⟩
    · rintro i ch H4 hch ⟨h3, h4⟩
      walk_at "go"
      have lz : ("zzzzzzz" : Str).length = 7 := by decide +kernel
      refine g_addS (leLine (by rw [len_one, lz]; omega)) ?_
      refine g_kEl h3 (ltLine (by rw [List.length_map, List.length_take, cand_len]; omega)) fun H5 s5 e5 => ⟨?_, h4.via s5 hCa⟩
      have ec : cand[i]? = some (("zzzzzzz" : Str) ++ (⟨#[ch]⟩ : Str)) := by
        unfold cand
        rw [List.getElem?_map, show (cs ("abcdefghij" : Str))[i]? = some ch by rw [← hch]; simp [cs]]
        rfl
      rw [e5, List.take_add_one, ec, List.map_append]
      rfl
    · rintro H4 ⟨h3, h4⟩
      have l10 : (("abcdefghij" : Str).cps).size = 10 := by decide +kernel
      rw [l10, List.take_of_length_le (by rw [cand_len]; exact Nat.le_refl _)] at h3
      walk_at "go"
      have p4 := hp.step0 (h2.trans h4)
      refine wFor_list (xs := cand.map V.str) (fun i σ H' => ∃ (po : List Str) (v4 v5 v6 : Option V), σ = [some (.ref a), some (.ref R), some (.int n), some (.ref Po), v4, v5, v6] ∧ po.Nodup ∧ (∀ z ∈ po, IsNm z) ∧ po.length ≤ 30 + i ∧
        (n ≤ (po.length : Int) ∨ ∀ z ∈ cand.take i, z ∈ po) ∧ H' Po = some (.lst (po.map V.str)) ∧ H' Ca = some (.lst (cand.map V.str)) ∧ PotAt H' a (c + i) ∧ Step [a] H H')
        ⟨rows.map (·.1), _, _, _, rfl, hnd, fun z hz => ?_, by rw [List.length_map]; omega, .inr (by simp), h4.at0 h1, h3, p4, (h2.trans h4).up⟩ ?_ ?_ ?_
      · obtain ⟨r, hr, rfl⟩ := List.mem_map.mp hz
        exact (hok r hr).nm
      · rintro i σ H5 _ ⟨po, v4, v5, v6, rfl, g1, g2, g3, g4, g5, g6, g7, g8⟩
        exact g6
      · rintro i x σ H5 hx ⟨po, v4, v5, v6, rfl, g1, g2, g3, g4, g5, g6, g7, g8⟩
        rw [List.getElem?_map, Option.map_eq_some_iff] at hx
        obtain ⟨z, hz, rfl⟩ := hx
        have hi10 : i < 10 := by rw [← cand_len]; exact (List.getElem?_eq_some_iff.mp hz).1
        walk_at "go"
        refine g_tcut (fun b H' => (b = true → z ∉ po) ∧ (b = false → z ∈ po ∨ n ≤ (po.length : Int)) ∧ H' Po = some (.lst (po.map V.str)) ∧ H' Ca = some (.lst (cand.map V.str)) ∧ PotAt H' a (c + (i + 1)) ∧ Step [a] H H') ?_ ?_
        · walk_at "go"
          refine g_notInS g5 ?_
          walk_at "go"
          refine g_iteN (fun hz1 => ?_) (fun hz1 => ?_)
          · refine g_tcut (fun b H' => (b = false → n ≤ (po.length : Int)) ∧ H' Po = some (.lst (po.map V.str)) ∧ H' Ca = some (.lst (cand.map V.str)) ∧ PotAt H' a (c + (i + 1)) ∧ Step [a] H H') ?_ ?_
            · walk_at "go"
              rw [List.length_map]
              refine g_ite (fun hl => ?_) (fun hl => ?_)
              · exact ⟨fun q => (nomatch q), g5, g6, g7.mono (by omega), g8⟩
              · walk_at "go"
                refine go_pick g7 (by decide) (by decide) (by omega) fun r1 H6 r10 r11 s6 p6 => ?_
                walk_at "go"
                exact ⟨fun _ => by omega, s6.at1 g5 aP.symm, s6.at1 g6 aC.symm, p6, g8.trans s6⟩
            · rintro b H6 ⟨k1, k2, k3, k4, k5⟩
              exact ⟨fun _ => hz1, fun hb => .inr (k1 hb), k2, k3, k4, k5⟩
          · exact ⟨fun q => (nomatch q), fun _ => .inl hz1, g5, g6, g7.mono (by omega), g8⟩
        · rintro b H6 ⟨k1, k2, k3, k4, k5, k6⟩
          refine g_iteB (fun hb => ?_) (fun hb => ?_)
          · walk_at "go"
            refine g_append k3 (ltLine (by rw [List.length_map]; omega)) fun H7 s7 e7 => ?_
            refine ⟨po ++ [z], _, _, _, rfl, nd_snoc g1 (k1 hb), fun y hy => ?_, by rw [List.length_append]; simp; omega, ?_, by rw [e7, List.map_append]; rfl, s7.at1 k4 PC.symm, k5.step1 s7 aP, k6.via s7 hPo⟩
            · rcases List.mem_append.mp hy with hy | hy
              · exact g2 y hy
              · rw [List.mem_singleton.mp hy]
                exact cand_nm z (List.mem_of_getElem? hz)
            · rcases g4 with g4 | g4
              · exact .inl (by rw [List.length_append]; simp; omega)
              · refine .inr fun y hy => ?_
                rw [List.take_add_one, hz] at hy
                rcases List.mem_append.mp hy with hy | hy
                · exact List.mem_append_left _ (g4 y hy)
                · exact List.mem_append_right _ hy
          · walk_at "go"
            refine ⟨po, _, _, _, rfl, g1, g2, by omega, ?_, k3, k4, k5, k6⟩
            rcases k2 hb with k2 | k2
            · rcases g4 with g4 | g4
              · exact .inl g4
              · refine .inr fun y hy => ?_
                rw [List.take_add_one, hz] at hy
                rcases List.mem_append.mp hy with hy | hy
                · exact g4 y hy
                · have : y = z := by simpa using hy
                  rw [this]; exact k2
            · exact .inl k2
      · rintro σ H5 ⟨po, v4, v5, v6, rfl, g1, g2, g3, g4, g5, g6, g7, g8⟩
        rw [List.length_map, cand_len] at g3 g4 g7
        have hpl : n ≤ (po.length : Int) := by
          rcases g4 with g4 | g4
          · exact g4
          · rw [List.take_of_length_le (by rw [cand_len]; exact Nat.le_refl _)] at g4
            have := sub_len cand_nd g4
            rw [cand_len] at this
            omega
        walk_at "go"
        refine ⟨a, Po, _, _, rfl, g5, by rw [List.length_map]; omega, g7, by omega, fun D ys H6 hD hp6 s6 e6 p6 => ?_⟩
        obtain ⟨zs, hz, rfl⟩ := perm_strs hp6
        have ll := hz.length_eq
        walk_at "go"
        refine g_slL e6 fun D2 H7 hD2 s7 e7 => ?_
        rw [cutV_to hn0, ← List.map_take] at e7
        refine q D2 (zs.take n.toNat) H7 (g8.fresh (s6.fresh hD2)) (by rw [List.length_take]; omega) ((hz.nodup_iff.mpr g1).sublist (List.take_sublist _ _)) (fun z hzz => g2 z (hz.mem_iff.mp (List.mem_of_mem_take hzz))) ((g8.trans s6).trans s7.up) e7 ((p6.step0 s7).mono (by rw [List.length_map]; omega))
end

end My
namespace My
open PySem PySem.Spec PyProof.Rows L2
section
variable {P : Program} {w : World} {K : PySem.W.Frag} {mg : Str → Option Value} {base : Heap}
theorem ox_NoTicket (C : Ctx K mg) : HasX P w K mg base "NoTicket" ["ticket"] := by
  have T := ex_NoTicket C
  obtain ⟨fd, F⟩ := fn_NoTicket_init C
  refine ⟨⟨fd, ?_, F.bindsN fun _ _ _ _ _ _ us hl => match us, hl with | [_, _], _ => rfl⟩, T, gl_NoTicket C⟩
  refine F.ok (CX := CX0) sc_NoTicket_init (fun vs H Q E h => ?_) (fun cdv A outer s H vs Q E hr h => ?_)
  · obtain ⟨_, ws, rfl, l, _⟩ := h
    show ws.length + 1 = _
    rw [l]; rfl
  refine ⟨_, PSs.nox (pss_one (ps_ost (pv 0) (pv 1))), ?_⟩
  obtain ⟨a, ws, rfl, l, ha, q⟩ := h
  match ws, l with
  | [w0], _ =>
    walk_at "go"
    refine g_kOst1 T.ox (T.no _ (by decide)) ha fun dx H2 hd ne e1 e2 e3 => ?_
    exact q dx _ hd ne e1 e2 fun b h1 h2 => e3 b h1 h2
theorem ox_NoPlace (C : Ctx K mg) : HasX P w K mg base "NoPlace" ["place"] := by
  have T := ex_NoPlace C
  obtain ⟨fd, F⟩ := fn_NoPlace_init C
  refine ⟨⟨fd, ?_, F.bindsN fun _ _ _ _ _ _ us hl => match us, hl with | [_, _], _ => rfl⟩, T, gl_NoPlace C⟩
  refine F.ok (CX := CX0) sc_NoPlace_init (fun vs H Q E h => ?_) (fun cdv A outer s H vs Q E hr h => ?_)
  · obtain ⟨_, ws, rfl, l, _⟩ := h
    show ws.length + 1 = _
    rw [l]; rfl
  refine ⟨_, PSs.nox (pss_one (ps_ost (pv 0) (pv 1))), ?_⟩
  obtain ⟨a, ws, rfl, l, ha, q⟩ := h
  match ws, l with
  | [w0], _ =>
    walk_at "go"
    refine g_kOst1 T.ox (T.no _ (by decide)) ha fun dx H2 hd ne e1 e2 e3 => ?_
    exact q dx _ hd ne e1 e2 fun b h1 h2 => e3 b h1 h2
theorem ox_Taken (C : Ctx K mg) : HasX P w K mg base "Taken" ["name"] := by
  have T := ex_Taken C
  obtain ⟨fd, F⟩ := fn_Taken_init C
  refine ⟨⟨fd, ?_, F.bindsN fun _ _ _ _ _ _ us hl => match us, hl with | [_, _], _ => rfl⟩, T, gl_Taken C⟩
  refine F.ok (CX := CX0) sc_Taken_init (fun vs H Q E h => ?_) (fun cdv A outer s H vs Q E hr h => ?_)
  · obtain ⟨_, ws, rfl, l, _⟩ := h
    show ws.length + 1 = _
    rw [l]; rfl
  refine ⟨_, PSs.nox (pss_one (ps_ost (pv 0) (pv 1))), ?_⟩
  obtain ⟨a, ws, rfl, l, ha, q⟩ := h
  match ws, l with
  | [w0], _ =>
    walk_at "go"
    refine g_kOst1 T.ox (T.no _ (by decide)) ha fun dx H2 hd ne e1 e2 e3 => ?_
    exact q dx _ hd ne e1 e2 fun b h1 h2 => e3 b h1 h2
theorem ox_NoName (C : Ctx K mg) : HasX P w K mg base "NoName" ["name"] := by
  have T := ex_NoName C
  obtain ⟨fd, F⟩ := fn_NoName_init C
  refine ⟨⟨fd, ?_, F.bindsN fun _ _ _ _ _ _ us hl => match us, hl with | [_, _], _ => rfl⟩, T, gl_NoName C⟩
  refine F.ok (CX := CX0) sc_NoName_init (fun vs H Q E h => ?_) (fun cdv A outer s H vs Q E hr h => ?_)
  · obtain ⟨_, ws, rfl, l, _⟩ := h
    show ws.length + 1 = _
    rw [l]; rfl
  refine ⟨_, PSs.nox (pss_one (ps_ost (pv 0) (pv 1))), ?_⟩
  obtain ⟨a, ws, rfl, l, ha, q⟩ := h
  match ws, l with
  | [w0], _ =>
    walk_at "go"
    refine g_kOst1 T.ox (T.no _ (by decide)) ha fun dx H2 hd ne e1 e2 e3 => ?_
    exact q dx _ hd ne e1 e2 fun b h1 h2 => e3 b h1 h2
theorem ox_NoWeight (C : Ctx K mg) : HasX P w K mg base "NoWeight" ["weight"] := by
  have T := ex_NoWeight C
  obtain ⟨fd, F⟩ := fn_NoWeight_init C
  refine ⟨⟨fd, ?_, F.bindsN fun _ _ _ _ _ _ us hl => match us, hl with | [_, _], _ => rfl⟩, T, gl_NoWeight C⟩
  refine F.ok (CX := CX0) sc_NoWeight_init (fun vs H Q E h => ?_) (fun cdv A outer s H vs Q E hr h => ?_)
  · obtain ⟨_, ws, rfl, l, _⟩ := h
    show ws.length + 1 = _
    rw [l]; rfl
  refine ⟨_, PSs.nox (pss_one (ps_ost (pv 0) (pv 1))), ?_⟩
  obtain ⟨a, ws, rfl, l, ha, q⟩ := h
  match ws, l with
  | [w0], _ =>
    walk_at "go"
    refine g_kOst1 T.ox (T.no _ (by decide)) ha fun dx H2 hd ne e1 e2 e3 => ?_
    exact q dx _ hd ne e1 e2 fun b h1 h2 => e3 b h1 h2
end
def sp_is_whole : Sp := fun vs H Q _ => ∃ i : Int, vs = [.int i] ∧ Q (.bl true) H
def sp_is_name : Sp := fun vs H Q _ => ∃ z : Str, vs = [.str z] ∧ IsNm z ∧ ∀ H', Step [] H H' → Q (.bl true) H'
def sp_need_name : Sp := fun vs H Q _ => ∃ z : Str, vs = [.str z] ∧ IsNm z ∧ ∀ H', Step [] H H' → Q .non H'
def sp_is_weight : Sp := fun vs H Q _ => ∃ i : Int, vs = [.int i] ∧ 0 ≤ i ∧ i ≤ 1000 ∧ Q (.bl true) H
theorem low_letter {c : Nat} (h : isLow c) : c ∈ cs ("abcdefghijklmnopqrstuvwxyz" : Str) := by
  have e : cs ("abcdefghijklmnopqrstuvwxyz" : Str) = (List.range 26).map (97 + ·) := by decide +kernel
  rw [e]
  obtain ⟨h1, h2⟩ := h
  exact List.mem_map.mpr ⟨c - 97, List.mem_range.mpr (by omega), by omega⟩
section
variable {P : Program} {w : World} {K : PySem.W.Frag} {mg : Str → Option Value} {base : Heap}
theorem ok_is_whole (C : Ctx K mg) : Has P w K mg base CX0 1 "is_whole" ["thing"] sp_is_whole := by
  obtain ⟨fd, F⟩ := fn_is_whole C
  refine ⟨⟨_, fd, ?_, gl_is_whole C, F.kp, F.bindsN fun _ _ _ _ _ _ us hl => match us, hl with | [_], _ => rfl⟩⟩
  refine F.ok (CX := CX0) sc_is_whole (fun vs H Q E h => ?_) (fun cdv A outer s H vs Q E hr h => ?_)
  · first | (obtain ⟨_, rfl, _⟩ := h; rfl) | (obtain ⟨_, _, rfl, _⟩ := h; rfl) | (obtain ⟨_, _, _, rfl, _⟩ := h; rfl) | (obtain ⟨_, _, _, _, rfl, _⟩ := h; rfl) | (obtain ⟨_, _, _, _, _, rfl, _⟩ := h; rfl) | (obtain ⟨_, _, _, _, _, _, rfl, _⟩ := h; rfl) | (obtain ⟨_, _, _, _, _, _, _, rfl, _⟩ := h; rfl) | (obtain ⟨_, _, _, _, _, _, _, _, rfl, _⟩ := h; rfl) | (obtain ⟨_, _, _, _, _, _, _, _, _, rfl, _⟩ := h; rfl) | (obtain ⟨_, _, _, _, _, _, _, _, _, _, rfl, _⟩ := h; rfl) | (obtain ⟨_, _, _, _, _, _, _, _, _, _, _, rfl, _⟩ := h; rfl) | (obtain ⟨_, _, _, _, _, _, _, _, _, _, _, _, rfl, _⟩ := h; rfl)
  have hu := hu_of hr
  refine ⟨_, PSs.nox (pss_one (ps_ret (pe_and (pe_callB call_isi (by rfl) (fr_isinstance C) (by decide +kernel) (pa_cons (pv 0) (pa_cons (pe_bltn (v := .ty "int") (by rfl) (fr_int C) (by decide +kernel) rfl) pa_nil))) (pe_one (pe_not (pe_callB call_isi (by rfl) (fr_isinstance C) (by decide +kernel) (pa_cons (pv 0) (pa_cons (pe_bltn (v := .ty "bool") (by rfl) (fr_bool C) (by decide +kernel) rfl) pa_nil)))))))), ?_⟩
  obtain ⟨i, rfl, q⟩ := h
  walk_at "go"
  refine g_isi (r := true) (.base (.int i)) (by decide +kernel) ?_
  refine g_kAnd (iteT ?_)
  walk_at "go"
  refine g_isi (r := false) (.base (.int i)) (by decide +kernel) ?_
  walk_at "go"
  exact q
theorem ok_is_name (C : Ctx K mg) : Has P w K mg base CX0 1 "is_name" ["thing"] sp_is_name := by
  obtain ⟨fd, F⟩ := fn_is_name C
  obtain ⟨t_LONGEST, m_LONGEST⟩ := ct_LONGEST C
  obtain ⟨t_LETTERS, m_LETTERS⟩ := ct_LETTERS C
  refine ⟨⟨_, fd, ?_, gl_is_name C, F.kp, F.bindsN fun _ _ _ _ _ _ us hl => match us, hl with | [_], _ => rfl⟩⟩
  refine F.ok (CX := CX0) sc_is_name (fun vs H Q E h => ?_) (fun cdv A outer s H vs Q E hr h => ?_)
  · first | (obtain ⟨_, rfl, _⟩ := h; rfl) | (obtain ⟨_, _, rfl, _⟩ := h; rfl) | (obtain ⟨_, _, _, rfl, _⟩ := h; rfl) | (obtain ⟨_, _, _, _, rfl, _⟩ := h; rfl) | (obtain ⟨_, _, _, _, _, rfl, _⟩ := h; rfl) | (obtain ⟨_, _, _, _, _, _, rfl, _⟩ := h; rfl) | (obtain ⟨_, _, _, _, _, _, _, rfl, _⟩ := h; rfl) | (obtain ⟨_, _, _, _, _, _, _, _, rfl, _⟩ := h; rfl) | (obtain ⟨_, _, _, _, _, _, _, _, _, rfl, _⟩ := h; rfl) | (obtain ⟨_, _, _, _, _, _, _, _, _, _, rfl, _⟩ := h; rfl) | (obtain ⟨_, _, _, _, _, _, _, _, _, _, _, rfl, _⟩ := h; rfl) | (obtain ⟨_, _, _, _, _, _, _, _, _, _, _, _, rfl, _⟩ := h; rfl)
  have hu := hu_of hr
  refine ⟨_, PSs.nox (pss_cons (ps_if (pt_cut (PW.pt (pw_or (pt_not (pt_val (pe_callB call_isi (by rfl) (fr_isinstance C) (by decide +kernel) (pa_cons (pv 0) (pa_cons (pe_bltn (v := .ty "str") (by rfl) (fr_str C) (by decide +kernel) rfl) pa_nil))))) (pw_or (pt_cmpR op_lt (pe_callB cr_lenSt (by rfl) (fr_len C) PySem.boot_len (pa_cons (pv 0) pa_nil)) pe_int (nomark _)) (pw_or1 (pt_cmpR op_gt (pe_callB cr_lenSt (by rfl) (fr_len C) PySem.boot_len (pa_cons (pv 0) pa_nil)) (pe_glob (v := .int 8) (by rfl) m_LONGEST ⟨_, rfl⟩) (nomark _))))))) (pss_one (ps_ret pe_bl)) pss_nil)
    (pss_one (ps_ret (pe_callB (cr_all rfl) (by rfl) (fr_all C) (by decide +kernel) (pa_cons (pe_lc (own := [("sign", 1)]) (g := (gName 1)) (tt := tYes) rfl sc_is_name.nd (pi_str (pv 0)) (blkOk_by (N := N_is_name) (sc := defScope s_is_name) (own := [("sign", 1)]) (by decide +kernel)) (fun _ _ _ _ _ => (pg_name (i := 1) sc_is_name.nd rfl (Or.inl rfl))) (fun _ _ _ _ _ => pts_nil) (fun _ _ _ _ _ => (pe_cmpR op_in_sign (pv 1) (pe_glob (v := .str "abcdefghijklmnopqrstuvwxyz") (by rfl) m_LETTERS ⟨_, rfl⟩) (by rfl)))) pa_nil))))), ?_⟩
  obtain ⟨z, rfl, hz, q⟩ := h
  have hl := hz.lo
  have hh := hz.hi
  walk_at "go"
  refine g_tcut (fun b H' => b = false ∧ H' = H) ?_ ?_
  · walk_at "go"
    refine g_isi (r := true) (.base (.str z)) (by decide +kernel) ?_
    walk_at "go"
    refine iteF ?_
    walk_at "go"
    refine g_lenSt (leLine (by omega)) ?_
    walk_at "go"
    refine g_ite (fun hb => by omega) (fun _ => ?_)
    walk_at "go"
    refine g_lenSt (leLine (by omega)) ?_
    walk_at "go"
    exact ⟨decide_eq_false (by omega), rfl⟩
  · rintro b H' ⟨rfl, rfl⟩
    refine iteF ?_
    walk_at "go"
    refine wLc_str fun D H2 hD s2 e2 => ?_
    refine ⟨fun i G => G D = some (.lst ((List.replicate i true).map V.bl)) ∧ Step [] H' G, ⟨e2, s2⟩, ?_, ?_⟩
    · rintro i c H3 hc ⟨g1, g2⟩
      walk_at "go"
      have hi : i < z.cps.size := (Array.getElem?_eq_some_iff.mp hc).1
      have hm : c ∈ cs z := by
        have : z.cps.toList[i]? = some c := by simpa using hc
        exact List.mem_of_getElem? this
      refine ⟨c, _, rfl, rfl, ?_⟩
      rw [decide_eq_true (low_letter (hz.low c hm))]
      have hsz : z.cps.size = z.length := rfl
      refine g_kEl g1 (ltLine (by rw [List.length_map, List.length_replicate]; omega)) fun H4 s4 e4 => ⟨?_, g2.via s4 hD⟩
      rw [e4, ← List.map_singleton, ← List.map_append, ← List.replicate_succ']
    · rintro H3 ⟨g1, g2⟩
      walk_at "go"
      refine g_all g1 ?_
      have e : (List.replicate z.cps.size true).all id = true := by
        rw [List.all_eq_true]
        intro b hb
        rw [List.eq_of_mem_replicate hb]; rfl
      rw [e]
      exact q H3 g2
theorem ok_need_name (C : Ctx K mg) : Has P w K mg base CX0 3 "need_name" ["name"] sp_need_name := by
  obtain ⟨fd, F⟩ := fn_need_name C
  obtain ⟨f_is_name, fd_is_name, G_is_name, mg_is_name, kp_is_name, b_is_name⟩ := (ok_is_name (P := P) (w := w) (base := base) C).ex
  have X_NoName := ox_NoName (P := P) (w := w) (base := base) C
  obtain ⟨fd_NoName_init, G_NoName_init, b_NoName_init⟩ := X_NoName.ex
  refine ⟨⟨_, fd, ?_, gl_need_name C, F.kp, F.bindsN fun _ _ _ _ _ _ us hl => match us, hl with | [_], _ => rfl⟩⟩
  refine F.ok (CX := CX0) sc_need_name (fun vs H Q E h => ?_) (fun cdv A outer s H vs Q E hr h => ?_)
  · first | (obtain ⟨_, rfl, _⟩ := h; rfl) | (obtain ⟨_, _, rfl, _⟩ := h; rfl) | (obtain ⟨_, _, _, rfl, _⟩ := h; rfl) | (obtain ⟨_, _, _, _, rfl, _⟩ := h; rfl) | (obtain ⟨_, _, _, _, _, rfl, _⟩ := h; rfl) | (obtain ⟨_, _, _, _, _, _, rfl, _⟩ := h; rfl) | (obtain ⟨_, _, _, _, _, _, _, rfl, _⟩ := h; rfl) | (obtain ⟨_, _, _, _, _, _, _, _, rfl, _⟩ := h; rfl) | (obtain ⟨_, _, _, _, _, _, _, _, _, rfl, _⟩ := h; rfl) | (obtain ⟨_, _, _, _, _, _, _, _, _, _, rfl, _⟩ := h; rfl) | (obtain ⟨_, _, _, _, _, _, _, _, _, _, _, rfl, _⟩ := h; rfl) | (obtain ⟨_, _, _, _, _, _, _, _, _, _, _, _, rfl, _⟩ := h; rfl)
  have hu := hu_of hr
  refine ⟨_, PSs.nox (pss_one (ps_if (pt_not (pt_val (pe_call G_is_name (hr.mono (by decide)) rfl mg_is_name kp_is_name b_is_name .nil pass0 (pa_cons (pv 0) pa_nil)))) (pss_one (ps_raise rfl takes0 (pmk_oex X_NoName.tx.ox X_NoName.tx.ini X_NoName.tx.tI G_NoName_init (hr.mono (by decide)) b_NoName_init .nil pass0 rfl X_NoName.mg (pa_cons (pv 0) pa_nil)))) pss_nil)), ?_⟩
  obtain ⟨z, rfl, hz, q⟩ := h
  walk_at "go"
  refine ⟨z, rfl, hz, fun H' s1 => ?_⟩
  walk_at "go"
  refine iteF ?_
  walk_at "go"
  exact q H' s1
theorem ok_is_weight (C : Ctx K mg) : Has P w K mg base CX0 2 "is_weight" ["thing"] sp_is_weight := by
  obtain ⟨fd, F⟩ := fn_is_weight C
  obtain ⟨f_is_whole, fd_is_whole, G_is_whole, mg_is_whole, kp_is_whole, b_is_whole⟩ := (ok_is_whole (P := P) (w := w) (base := base) C).ex
  obtain ⟨t_HEAVIEST, m_HEAVIEST⟩ := ct_HEAVIEST C
  refine ⟨⟨_, fd, ?_, gl_is_weight C, F.kp, F.bindsN fun _ _ _ _ _ _ us hl => match us, hl with | [_], _ => rfl⟩⟩
  refine F.ok (CX := CX0) sc_is_weight (fun vs H Q E h => ?_) (fun cdv A outer s H vs Q E hr h => ?_)
  · first | (obtain ⟨_, rfl, _⟩ := h; rfl) | (obtain ⟨_, _, rfl, _⟩ := h; rfl) | (obtain ⟨_, _, _, rfl, _⟩ := h; rfl) | (obtain ⟨_, _, _, _, rfl, _⟩ := h; rfl) | (obtain ⟨_, _, _, _, _, rfl, _⟩ := h; rfl) | (obtain ⟨_, _, _, _, _, _, rfl, _⟩ := h; rfl) | (obtain ⟨_, _, _, _, _, _, _, rfl, _⟩ := h; rfl) | (obtain ⟨_, _, _, _, _, _, _, _, rfl, _⟩ := h; rfl) | (obtain ⟨_, _, _, _, _, _, _, _, _, rfl, _⟩ := h; rfl) | (obtain ⟨_, _, _, _, _, _, _, _, _, _, rfl, _⟩ := h; rfl) | (obtain ⟨_, _, _, _, _, _, _, _, _, _, _, rfl, _⟩ := h; rfl) | (obtain ⟨_, _, _, _, _, _, _, _, _, _, _, _, rfl, _⟩ := h; rfl)
  have hu := hu_of hr
  refine ⟨_, PSs.nox (pss_one (ps_ret (pe_and (pe_call G_is_whole (hr.mono (by decide)) rfl mg_is_whole kp_is_whole b_is_whole .nil pass0 (pa_cons (pv 0) pa_nil)) (pe_one (pe_chain op_le op_le pe_int (pv 0) (pe_glob (v := .int 1000) (by rfl) m_HEAVIEST ⟨_, rfl⟩)))))), ?_⟩
  obtain ⟨i, rfl, h0, h1, q⟩ := h
  walk_at "go"
  refine ⟨i, rfl, ?_⟩
  refine g_kAnd (iteT ?_)
  walk_at "go"
  rw [decide_eq_true h0]
  refine iteT ?_
  walk_at "go"
  rw [decide_eq_true h1]
  exact q
end

end My
namespace My
open PySem PySem.Spec PyProof.Rows L2
/-! towns -/
abbrev rSI : Rp (Str × Int) := rP2 rS rI
theorem mSI : Mono rSI := mP2 mS mI
def TownAt (K : PySem.W.Frag) (H : Hp) (t : Addr) (rows : List Row) : Prop := ∃ dx d : Addr, H t = some (.ins (He.ga K "Town") dx [("by_name", .ref d)]) ∧ rDS rSI H (.ref d) rows
theorem TownAt.le {K : PySem.W.Frag} {H H' : Hp} {t : Addr} {rows : List Row} (h : TownAt K H t rows) (e : Le H H') : TownAt K H' t rows := by
  obtain ⟨dx, d, h1, h2⟩ := h
  exact ⟨dx, d, e _ _ h1, mDS mSI _ _ _ _ e h2⟩
def sp_Town_init (K : PySem.W.Frag) : Sp := fun vs H Q _ => ∃ (t R dx : Addr) (rows : List Row), vs = [.ref t, .ref R] ∧ H t = some (.ins (He.ga K "Town") dx []) ∧ rL rRow H (.ref R) rows ∧ (∀ r ∈ rows, RowOk r) ∧ (rows.map (·.1)).Nodup ∧ rows.length ≤ 60 ∧
  ∀ (zs : List Row) H', zs.Perm rows → sortedS (zs.map (·.1)) = true → Step [t] H H' → TownAt K H' t zs → Q .non H'
def sp_Town_house_names (K : PySem.W.Frag) : Sp := fun vs H Q _ => ∃ (t : Addr) (rows : List Row), vs = [.ref t] ∧ TownAt K H t rows ∧
  ∀ l H', H l = none → Step [] H H' → H' l = some (.lst ((rows.map (·.1)).map V.str)) → Q (.ref l) H'
section
variable {P : Program} {w : World} {K : PySem.W.Frag} {mg : Str → Option Value} {base : Heap}
theorem ok_Town_init (C : Ctx K mg) : HasMk P w K mg base CX0 4 "Town" ["self", "rows"] (sp_Town_init K) := by
  obtain ⟨fd, F⟩ := fn_Town_init C
  obtain ⟨f_need_name, fd_need_name, G_need_name, mg_need_name, kp_need_name, b_need_name⟩ := (ok_need_name (P := P) (w := w) (base := base) C).ex
  obtain ⟨f_is_weight, fd_is_weight, G_is_weight, mg_is_weight, kp_is_weight, b_is_weight⟩ := (ok_is_weight (P := P) (w := w) (base := base) C).ex
  have X_NoWeight := ox_NoWeight (P := P) (w := w) (base := base) C
  obtain ⟨fd_NoWeight_init, G_NoWeight_init, b_NoWeight_init⟩ := X_NoWeight.ex
  have X_Taken := ox_Taken (P := P) (w := w) (base := base) C
  obtain ⟨fd_Taken_init, G_Taken_init, b_Taken_init⟩ := X_Taken.ex
  refine ⟨⟨fd, ?_, binds_full F (by simp [d_Town_init, He.DefD.dvs]) fun _ _ _ _ _ _ _ us its hl hi => match us, hl, its, hi with | [_, _], _, [_], _ => ⟨_, rfl, rfl⟩⟩⟩
  refine F.ok (CX := CX0) sc_Town_init (fun vs H Q E h => ?_) (fun cdv A outer s H vs Q E hr h => ?_)
  · first | (obtain ⟨_, rfl, _⟩ := h; rfl) | (obtain ⟨_, _, rfl, _⟩ := h; rfl) | (obtain ⟨_, _, _, rfl, _⟩ := h; rfl) | (obtain ⟨_, _, _, _, rfl, _⟩ := h; rfl) | (obtain ⟨_, _, _, _, _, rfl, _⟩ := h; rfl) | (obtain ⟨_, _, _, _, _, _, rfl, _⟩ := h; rfl) | (obtain ⟨_, _, _, _, _, _, _, rfl, _⟩ := h; rfl) | (obtain ⟨_, _, _, _, _, _, _, _, rfl, _⟩ := h; rfl) | (obtain ⟨_, _, _, _, _, _, _, _, _, rfl, _⟩ := h; rfl) | (obtain ⟨_, _, _, _, _, _, _, _, _, _, rfl, _⟩ := h; rfl) | (obtain ⟨_, _, _, _, _, _, _, _, _, _, _, rfl, _⟩ := h; rfl) | (obtain ⟨_, _, _, _, _, _, _, _, _, _, _, _, rfl, _⟩ := h; rfl)
  have hu := hu_of hr
  refine ⟨_, PSs.nox (pss_cons (ps_set (i := 2) sc_Town_init.nd rfl (Or.inr rfl) pe_dnewK)
    (pss_cons (ps_for PassesOwn.never rfl (pi_list (pv 1)) (pg_tup rfl (pgs_cons (pg_name (i := 3) sc_Town_init.nd rfl (Or.inl rfl)) (pgs_cons (pg_name (i := 4) sc_Town_init.nd rfl (Or.inl rfl)) (pgs_cons (pg_name (i := 5) sc_Town_init.nd rfl (Or.inl rfl)) pgs_nil))))
    (pss_cons (ps_expr (pe_call G_need_name (hr.mono (by decide)) rfl mg_need_name kp_need_name b_need_name .nil pass0 (pa_cons (pv 3) pa_nil)))
    (pss_cons (ps_expr (pe_call G_need_name (hr.mono (by decide)) rfl mg_need_name kp_need_name b_need_name .nil pass0 (pa_cons (pv 4) pa_nil)))
    (pss_cons (ps_if (pt_not (pt_val (pe_call G_is_weight (hr.mono (by decide)) rfl mg_is_weight kp_is_weight b_is_weight .nil pass0 (pa_cons (pv 5) pa_nil)))) (pss_one (ps_raise rfl takes0 (pmk_oex X_NoWeight.tx.ox X_NoWeight.tx.ini X_NoWeight.tx.tI G_NoWeight_init (hr.mono (by decide)) b_NoWeight_init .nil pass0 rfl X_NoWeight.mg (pa_cons (pv 5) pa_nil)))) pss_nil)
    (pss_cons (ps_if (pt_cmp (pc_din hu (pv 3) (pv 2))) (pss_one (ps_raise rfl takes0 (pmk_oex X_Taken.tx.ox X_Taken.tx.ini X_Taken.tx.tI G_Taken_init (hr.mono (by decide)) b_Taken_init .nil pass0 rfl X_Taken.mg (pa_cons (pv 3) pa_nil)))) pss_nil)
    (pss_one (ps_dput hu (pv 2) (pv 3) (pe_tup (pa_cons (pv 4) (pa_cons (pv 5) pa_nil))) rfl)))))))
    (pss_one (ps_fld (pv 0) (pe_dc (own := [("name", 3)]) (g := (gName 3)) (tt := tYes) rfl sc_Town_init.nd (pi_list (pe_callB (cr_sortedDS rfl) (by rfl) (fr_sorted C) (by decide +kernel) (pa_cons (pv 2) pa_nil))) (blkOk_by (N := N_Town_init) (sc := defScope s_Town_init) (own := [("name", 3)]) (by decide +kernel)) (fun _ _ _ _ _ => (pg_name (i := 3) sc_Town_init.nd rfl (Or.inl rfl))) (fun _ _ _ _ _ => pts_nil) (fun _ _ _ _ _ => (pv 3)) (fun _ _ _ _ _ => (pe_dget hu (pv 2) (pv 3) (fun _ _ => rfl)))) rfl)))), ?_⟩
  obtain ⟨t, R, dx, rows, rfl, ht, hR, okr, nr, lr, q⟩ := h
  obtain ⟨_, rvs, ⟨⟩, hR1, hRp⟩ := id hR
  have tR : t ≠ R := fun e => by rw [e, hR1] at ht; cases ht
  walk_at "go"
  refine g_dnewK fun F1 H1 hF s1 e1 => ?_
  have tF : t ≠ F1 := ne_of_none ht hF
  walk_at "go"
  refine g_kList (s1.at0 hR1) (wFor_list (xs := rvs) (fun i σ H' => ∃ (kvs : List (Key × V)) (v3 v4 v5 : Option V), σ = [some (.ref t), some (.ref R), some (.ref F1), v3, v4, v5] ∧ H' F1 = some (.dK kvs) ∧
      Paired (fun (p : Key × V) (x : Row) => p.1 = Sum.inr x.1 ∧ rSI (hide [t, F1] H') p.2 x.2) kvs (rows.take i) ∧ Step [] H H') ⟨[], _, _, _, rfl, e1, .nil, s1⟩ ?_ ?_ ?_)
  · rintro i σ H2 _ ⟨kvs, v3, v4, v5, rfl, g1, g2, g3⟩
    exact g3.at0 hR1
  · rintro i x σ H2 hx ⟨kvs, v3, v4, v5, rfl, g1, g2, g3⟩
    obtain ⟨⟨nm, zn, hv⟩, hz, hr⟩ := P_get hRp hx
    obtain ⟨T, _, _, _, rfl, hT, rfl, rfl, rfl⟩ := hr
    dsimp only at hT
    have ok := okr _ (List.mem_of_getElem? hz)
    have hi : i < rows.length := (List.getElem?_eq_some_iff.mp hz).1
    refine g_tup3 (g3.at0 hT) ?_
    walk_at "go"
    refine ⟨nm, rfl, ok.nm, fun H3 s3 => ?_⟩
    walk_at "go"
    refine ⟨zn, rfl, ok.zn, fun H4 s4 => ?_⟩
    walk_at "go"
    refine ⟨hv, rfl, ok.w0, ok.w1, ?_⟩
    walk_at "go"
    refine iteF ?_
    have S4 := g3.trans (s3.trans s4)
    have d4 := s4.at0 (s3.at0 g1)
    walk_at "go"
    refine g_kDInS (.inl d4) ?_
    have hnew : nm ∉ (rows.take i).map (·.1) := fun hm => by
      rw [List.map_take] at hm
      obtain ⟨j, hj, ej⟩ := List.mem_iff_getElem.mp hm
      rw [List.length_take] at hj
      rw [List.getElem_take] at ej
      have e1 : (rows.map (·.1))[j]? = some nm := by rw [List.getElem?_eq_getElem (by omega), ej]
      have e2 : (rows.map (·.1))[i]? = some nm := by rw [List.getElem?_map, hz]; rfl
      have := nd_ix nr e1 e2
      omega
    have hv0 := dsNew g2 hnew
    rw [hv0]
    walk_at "go"
    refine iteF ?_
    walk_at "go"
    intro T2 H5 hT2 s5 e5
    walk_at "go"
    have d5 := s5.at0 d4
    have T2F : T2 ≠ F1 := fun e => by rw [e, d5] at e5; cases e5
    have T2t : T2 ≠ t := (ne_of_none (S4.at0 ht) hT2).symm
    have lk : kvs.length = i := by rw [P_len g2, List.length_take]; omega
    refine g_kDPutS d5 (ltLine (by omega)) fun H6 s6 e6 => ?_
    rw [putK_new _ hv0] at e6
    have hle : Le (hide [t, F1] H2) (hide [t, F1] H6) := (s3.hid0.trans (s4.hid0.trans s5.hid0)).trans (s6.hid (by simp))
    refine ⟨_, _, _, _, rfl, e6, ?_, (S4.trans s5).via s6 hF⟩
    rw [List.take_add_one, hz]
    exact P_snoc ⟨rfl, T2, _, _, rfl, hide_at (s6.at1 e5 T2F) (by simp [T2F, T2t]), rfl, rfl⟩ (Pmap g2 fun p x r => ⟨r.1, mSI _ _ _ _ hle r.2⟩)
  · rintro σ H2 ⟨kvs, v3, v4, v5, rfl, g1, g2, g3⟩
    rw [P_len hRp, List.take_length] at g2
    walk_at "go"
    refine g_sortedDS (.inl g1) (dsKeys g2) (by rw [List.length_map]; omega) fun ys L H3 hp hs hL s3 e3 => ?_
    walk_at "go"
    obtain ⟨zs, hzp, rfl⟩ := perm_map hp
    refine wDc_list (xs := (zs.map (·.1)).map V.str) fun D H4 hD s4 e4 => ?_
    have S3 := g3.trans s3
    have Dt : D ≠ t := (ne_of_none (S3.at0 ht) hD).symm
    have DF : D ≠ F1 := (ne_of_none (s3.at0 g1) hD).symm
    have DL : D ≠ L := (ne_of_none e3 hD).symm
    refine ⟨fun i H' => ∃ kvs', H' D = some (.dK kvs') ∧ Paired (fun (p : Key × V) (x : Row) => p.1 = Sum.inr x.1 ∧ rSI (hide [t, D] H') p.2 x.2) kvs' (zs.take i) ∧ Step [] H3 H', ⟨[], e4, .nil, s4⟩, ?_, ?_, ?_⟩
    · rintro i H5 _ ⟨kvs', g4, g5, g6⟩
      exact g6.at0 e3
    · rintro i x H5 hx ⟨kvs', g4, g5, g6⟩
      rw [List.map_map, List.getElem?_map, Option.map_eq_some_iff] at hx
      obtain ⟨⟨nm, zn, hv⟩, hz, rfl⟩ := hx
      have hi : i < zs.length := (List.getElem?_eq_some_iff.mp hz).1
      have hl := hzp.length_eq
      walk_at "go"
      obtain ⟨u, hu, ru⟩ := dsAt g2 nr (hzp.mem_iff.mp (List.mem_of_getElem? hz))
      refine g_kDGetS (.inl (g6.at0 (s3.at0 g1))) hu ?_
      have lk : kvs'.length = i := by rw [P_len g5, List.length_take]; omega
      refine g_kElDS g4 (ltLine (by omega)) fun H6 s6 e6 => ?_
      have nz : (zs.map (·.1)).Nodup := (hzp.map (·.1)).nodup_iff.mpr nr
      have hnew : nm ∉ (zs.take i).map (·.1) := fun hm => by
        rw [List.map_take] at hm
        obtain ⟨j, hj, ej⟩ := List.mem_iff_getElem.mp hm
        rw [List.length_take] at hj
        rw [List.getElem_take] at ej
        have e1 : (zs.map (·.1))[j]? = some nm := by rw [List.getElem?_eq_getElem (by omega), ej]
        have e2 : (zs.map (·.1))[i]? = some nm := by rw [List.getElem?_map, hz]; rfl
        have := nd_ix nz e1 e2
        omega
      rw [putK_new _ (dsNew g5 hnew)] at e6
      refine ⟨_, e6, ?_, g6.via s6 hD⟩
      rw [List.take_add_one, hz]
      have hle : Le (hide [t, D] H5) (hide [t, D] H6) := s6.hid (by simp)
      refine P_snoc ⟨rfl, mSI _ _ _ _ (fun b o h => ?_) ru⟩ (Pmap g5 fun p x r => ⟨r.1, mSI _ _ _ _ hle r.2⟩)
      have h1 := hide_le _ _ h
      have h2 : b ∉ [t, F1] := fun z => by rw [hide_in z] at h; cases h
      have h3 := (s3.trans g6).at0 h1
      have bD : b ≠ D := ne_of_none (s3.at0 h1) hD
      refine hide_at (s6.at1 h3 bD) ?_
      simp only [List.mem_cons, List.not_mem_nil, or_false, not_or] at h2 ⊢
      exact ⟨h2.1, bD⟩
    · rintro H5 ⟨kvs', g4, g5, g6⟩
      rw [List.map_map, List.length_map, List.take_length] at g5
      have S5 := S3.trans g6
      walk_at "go"
      refine g_kFldS (S5.at0 ht) (cl_Town C) (na_Town_by_name C) (by decide) fun H6 s6 e6 => ?_
      refine q zs H6 hzp hs (S5.up.trans s6) ⟨dx, D, e6, D, kvs', rfl, s6.at1 g4 Dt, Pmap g5 fun p x r => ⟨r.1, mSI _ _ _ _ (fun b o h => ?_) r.2⟩⟩
      have h1 := hide_le _ _ h
      have h2 : b ∉ [t, D] := fun z => by rw [hide_in z] at h; cases h
      exact s6.at1 h1 (by simp only [List.mem_cons, List.not_mem_nil, or_false, not_or] at h2; exact h2.1)
theorem ok_Town_house_names (C : Ctx K mg) : HasM P w K mg base CX0 1 "Town" "house_names" ["self"] (sp_Town_house_names K) := by
  obtain ⟨fd, F⟩ := fn_Town_house_names C
  refine ⟨⟨fd, ?_, F.bindsN fun _ _ _ _ _ _ us hl => match us, hl with | [_], _ => rfl⟩⟩
  refine F.ok (CX := CX0) sc_Town_house_names (fun vs H Q E h => ?_) (fun cdv A outer s H vs Q E hr h => ?_)
  · first | (obtain ⟨_, rfl, _⟩ := h; rfl) | (obtain ⟨_, _, rfl, _⟩ := h; rfl) | (obtain ⟨_, _, _, rfl, _⟩ := h; rfl) | (obtain ⟨_, _, _, _, rfl, _⟩ := h; rfl) | (obtain ⟨_, _, _, _, _, rfl, _⟩ := h; rfl) | (obtain ⟨_, _, _, _, _, _, rfl, _⟩ := h; rfl) | (obtain ⟨_, _, _, _, _, _, _, rfl, _⟩ := h; rfl) | (obtain ⟨_, _, _, _, _, _, _, _, rfl, _⟩ := h; rfl) | (obtain ⟨_, _, _, _, _, _, _, _, _, rfl, _⟩ := h; rfl) | (obtain ⟨_, _, _, _, _, _, _, _, _, _, rfl, _⟩ := h; rfl) | (obtain ⟨_, _, _, _, _, _, _, _, _, _, _, rfl, _⟩ := h; rfl) | (obtain ⟨_, _, _, _, _, _, _, _, _, _, _, _, rfl, _⟩ := h; rfl)
  have hu := hu_of hr
  refine ⟨_, PSs.nox (pss_one (ps_ret (pe_callTy (cr_listDi rfl) (by rfl) (fr_list C) (by decide +kernel) (pa_cons (pe_fld (pv 0) rfl) pa_nil)))), ?_⟩
  obtain ⟨t, rows, rfl, ⟨dx, d, ht, hd⟩, q⟩ := h
  obtain ⟨_, kvs, ⟨⟩, hd1, hdp⟩ := id hd
  walk_at "go"
  refine g_kFld ht (cl_Town C) (na_Town_by_name C) rfl ?_
  walk_at "go"
  refine g_listDi (.inl hd1) fun l H2 hl s2 e2 => q l H2 hl s2 ?_
  rw [e2]
  congr 2
  have e : (kvs.map fun kv => kV kv.1) = (kvs.map (·.1)).map kV := by rw [List.map_map]; rfl
  rw [e, dsKeys hdp, List.map_map, List.map_map, List.map_map]
  rfl
end

end My
namespace My
open PySem PySem.Spec PyProof.Rows L2
/-! tables -/
abbrev Tb := List (Int × List Str)
abbrev rTb : Rp Tb := rDI (rL rS)
theorem mTb : Mono rTb := mDI (mL mS)
structure TbOk (xs : Tb) : Prop where
  nd : (xs.map (·.1)).Nodup
  nm : ∀ p ∈ xs, p.2.Nodup ∧ (∀ z ∈ p.2, IsNm z) ∧ 1 ≤ p.2.length ∧ p.2.length ≤ 10
  len : xs.length ≤ 12
/-- a table whose lists are one's own: the ticket, where its list stands, the list -/
structure TabAt (H : Hp) (D : Addr) (ts : List (Int × Addr × List Str)) : Prop where
  dk : H D = some (.dK (ts.map fun t => (Sum.inl t.1, V.ref t.2.1)))
  ls : ∀ t ∈ ts, H t.2.1 = some (.lst (t.2.2.map V.str))
def tbOf (ts : List (Int × Addr × List Str)) : Tb := ts.map fun t => (t.1, t.2.2)
theorem TabAt.rp {H : Hp} {D : Addr} {ts : List (Int × Addr × List Str)} (h : TabAt H D ts) : rTb H (.ref D) (tbOf ts) := by
  refine ⟨D, _, rfl, h.dk, ?_⟩
  have key : ∀ l : List (Int × Addr × List Str), (∀ t ∈ l, H t.2.1 = some (.lst (t.2.2.map V.str))) →
      Paired (fun (p : Key × V) (x : Int × List Str) => p.1 = Sum.inl x.1 ∧ rL rS H p.2 x.2) (l.map fun t => ((Sum.inl t.1 : Key), V.ref t.2.1)) (l.map fun t => (t.1, t.2.2)) := by
    intro l
    induction l with
    | nil => intro _; exact .nil
    | cons t r ih => exact fun hl => .cons ⟨rfl, rLS_of (hl t (List.mem_cons_self ..))⟩ (ih fun u hu => hl u (List.mem_cons_of_mem _ hu))
  exact key ts h.ls
theorem TabAt.step0 {H H' : Hp} {D : Addr} {ts : List (Int × Addr × List Str)} (h : TabAt H D ts) (s : Step [] H H') : TabAt H' D ts := ⟨s.at0 h.dk, fun t ht => s.at0 (h.ls t ht)⟩
theorem TabAt.step {H H' : Hp} {D : Addr} {m : List Addr} {ts : List (Int × Addr × List Str)} (h : TabAt H D ts) (s : Step m H H') (hD : D ∉ m) (hl : ∀ t ∈ ts, t.2.1 ∉ m) : TabAt H' D ts := ⟨s.keep _ _ hD h.dk, fun t ht => s.keep _ _ (hl t ht) (h.ls t ht)⟩
theorem find_new {β : Type} : ∀ {kvs : List (Key × V)} {xs : List (Int × β)} {q : V → β → Prop} {i : Int}, Paired (fun (p : Key × V) (x : Int × β) => p.1 = Sum.inl x.1 ∧ q p.2 x.2) kvs xs → i ∉ xs.map (·.1) → valV kvs (Sum.inl i) = none
  | _, _, _, _, .nil, _ => rfl
  | (k, v) :: _, (j, x) :: _, q, i, .cons h t, hi => by
    have h1 : k = Sum.inl j := h.1
    rw [List.map_cons, List.mem_cons] at hi
    rw [valV_neg (by rw [h1]; exact fun z => hi (.inl (Sum.inl.inj z).symm))]
    exact find_new t fun z => hi (.inr z)
abbrev Mv := Int × Int × Option Str × Str
abbrev rMv : Rp Mv := rP4 rI rI rOS rS
theorem mMv : Mono rMv := mP4 mI mI mOS mS
structure MvOk (m : Mv) : Prop where
  to : IsNm m.2.2.2
  fr : m.2.2.1 = none ∨ m.2.2.1 = some m.2.2.2
def sp_w_table : Sp := fun vs H Q _ => ∃ (a R : Addr) (rows : List Row) (n : Int) (c : Nat), vs = [.ref a, .ref R, .int n] ∧ rL rRow (hide [a] H) (.ref R) rows ∧ (∀ r ∈ rows, RowOk r) ∧ (rows.map (·.1)).Nodup ∧ rows.length ≤ 30 ∧ 0 ≤ n ∧ n ≤ 12 ∧ PotAt H a c ∧ c < 2 ^ 56 ∧
  ∀ D (xs : Tb) H', H D = none → TbOk xs → (xs.length : Int) ≤ n → Step [a] H H' → rTb (hide [a] H') (.ref D) xs → PotAt H' a (c + 2000) → Q (.ref D) H'
def sp_w_copy : Sp := fun vs H Q _ => ∃ (S : Addr) (xs : Tb), vs = [.ref S] ∧ rTb H (.ref S) xs ∧ (xs.map (·.1)).Nodup ∧ xs.length ≤ 1000 ∧
  ∀ D (ts : List (Int × Addr × List Str)) H', H D = none → (∀ t ∈ ts, H t.2.1 = none) → (ts.map (·.2.1)).Nodup → tbOf ts = xs → Step [] H H' → TabAt H' D ts → Q (.ref D) H'
section
variable {P : Program} {w : World} {K : PySem.W.Frag} {mg : Str → Option Value} {base : Heap}
theorem ok_w_table (C : Ctx K mg) : Has P w K mg base CX0 4 "_law_table" ["pot", "rows", "most"] sp_w_table := by
  obtain ⟨fd, F⟩ := fn_w_table C
  obtain ⟨f_w_tickets, fd_w_tickets, G_w_tickets, mg_w_tickets, kp_w_tickets, b_w_tickets⟩ := (ok_w_tickets (P := P) (w := w) (base := base) C).ex
  obtain ⟨f_w_pick, fd_w_pick, G_w_pick, mg_w_pick, kp_w_pick, b_w_pick⟩ := (ok_w_pick (P := P) (w := w) (base := base) C).ex
  obtain ⟨f_w_homes, fd_w_homes, G_w_homes, mg_w_homes, kp_w_homes, b_w_homes⟩ := (ok_w_homes (P := P) (w := w) (base := base) C).ex
  refine ⟨⟨_, fd, ?_, gl_w_table C, F.kp, F.bindsN fun _ _ _ _ _ _ us hl => match us, hl with | [_, _, _], _ => rfl⟩⟩
  refine F.ok (CX := CX0) sc_w_table (fun vs H Q E h => ?_) (fun cdv A outer s H vs Q E hr h => ?_)
  · first | (obtain ⟨_, rfl, _⟩ := h; rfl) | (obtain ⟨_, _, rfl, _⟩ := h; rfl) | (obtain ⟨_, _, _, rfl, _⟩ := h; rfl) | (obtain ⟨_, _, _, _, rfl, _⟩ := h; rfl) | (obtain ⟨_, _, _, _, _, rfl, _⟩ := h; rfl) | (obtain ⟨_, _, _, _, _, _, rfl, _⟩ := h; rfl) | (obtain ⟨_, _, _, _, _, _, _, rfl, _⟩ := h; rfl) | (obtain ⟨_, _, _, _, _, _, _, _, rfl, _⟩ := h; rfl) | (obtain ⟨_, _, _, _, _, _, _, _, _, rfl, _⟩ := h; rfl) | (obtain ⟨_, _, _, _, _, _, _, _, _, _, rfl, _⟩ := h; rfl) | (obtain ⟨_, _, _, _, _, _, _, _, _, _, _, rfl, _⟩ := h; rfl) | (obtain ⟨_, _, _, _, _, _, _, _, _, _, _, _, rfl, _⟩ := h; rfl)
  have hu := hu_of hr
  refine ⟨_, PSs.nox (pss_cons (ps_set (i := 3) sc_w_table.nd rfl (Or.inl rfl) pe_dnewK)
    (pss_cons (ps_for PassesOwn.never rfl (pi_list (pe_call G_w_tickets (hr.mono (by decide)) rfl mg_w_tickets kp_w_tickets b_w_tickets .nil pass0 (pa_cons (pv 0) (pa_cons (pe_call G_w_pick (hr.mono (by decide)) rfl mg_w_pick kp_w_pick b_w_pick .nil pass0 (pa_cons (pv 0) (pa_cons (pe_op op_add (pv 2) pe_int) pa_nil))) pa_nil)))) (pg_name (i := 4) sc_w_table.nd rfl (Or.inl rfl))
    (pss_one (ps_dput hu (pv 3) (pv 4) (pe_call G_w_homes (hr.mono (by decide)) rfl mg_w_homes kp_w_homes b_w_homes .nil pass0 (pa_cons (pv 0) (pa_cons (pv 1) (pa_cons (pe_op op_add pe_int (pe_call G_w_pick (hr.mono (by decide)) rfl mg_w_pick kp_w_pick b_w_pick .nil pass0 (pa_cons (pv 0) (pa_cons pe_int pa_nil)))) pa_nil)))) rfl)))
    (pss_one (ps_ret (pv 3))))), ?_⟩
  obtain ⟨a, R, rows, n, c, rfl, hR, hok, hnd, hlr, hn0, hn1, hp, hc, q⟩ := h
  obtain ⟨_, rvs, ⟨⟩, hR1, hRp⟩ := id hR
  have hR2 := hide_le _ _ hR1
  have Ra : R ≠ a := fun e => by rw [e, hide_in (by simp)] at hR1; cases hR1
  walk_at "go"
  refine g_dnewK fun D H1 hD s1 e1 => ?_
  have aD : a ≠ D := hp.ne hD
  have RD : R ≠ D := ne_of_none hR2 hD
  walk_at "go"
  refine go_pick (hp.step0 s1) (by omega) (by omega) (by omega) fun r1 H2 r10 r11 s2 p2 => ?_
  walk_at "go"
  refine ⟨a, _, _, rfl, by omega, by omega, p2, by omega, fun L ns H3 hL ln nn nb s3 eL p3 => ?_⟩
  have aL : a ≠ L := p2.ne hL
  have DL : D ≠ L := ne_of_none (s2.at1 e1 aD.symm) hL
  have RL : R ≠ L := ne_of_none (s2.at1 (s1.at0 hR2) Ra) hL
  refine g_kList eL (wFor_list (xs := ns.map V.int) (fun i σ H' => ∃ (xs : Tb) (kvs : List (Key × V)) (v4 : Option V), σ = [some (.ref a), some (.ref R), some (.int n), some (.ref D), v4] ∧ xs.map (·.1) = ns.take i ∧
      (∀ p ∈ xs, p.2.Nodup ∧ (∀ z ∈ p.2, IsNm z) ∧ 1 ≤ p.2.length ∧ p.2.length ≤ 10) ∧ H' D = some (.dK kvs) ∧
      Paired (fun (p : Key × V) (x : Int × List Str) => p.1 = Sum.inl x.1 ∧ rL rS (hide [a, D] H') p.2 x.2) kvs xs ∧ H' L = some (.lst (ns.map V.int)) ∧ PotAt H' a (c + 101 + 103 * i) ∧ Step [a] H H')
    ⟨[], [], none, rfl, by simp, by simp, s3.at1 (s2.at1 e1 aD.symm) aD.symm, .nil, eL, p3.mono (by omega), (s1.up.trans s2).trans s3⟩ ?_ ?_ ?_)
  · rintro i σ H5 _ ⟨xs, kvs, v4, rfl, g1, g2, g3, g4, g5, g6, g7⟩
    exact g5
  · rintro i x σ H5 hx ⟨xs, kvs, v4, rfl, g1, g2, g3, g4, g5, g6, g7⟩
    rw [List.getElem?_map, Option.map_eq_some_iff] at hx
    obtain ⟨z, hz, rfl⟩ := hx
    have hi : i < ns.length := (List.getElem?_eq_some_iff.mp hz).1
    walk_at "go"
    refine go_pick g6 (by omega) (by omega) (by omega) fun r3 H8 r30 r31 s8 p8 => ?_
    have S8 := g7.trans s8
    walk_at "go"
    refine ⟨a, R, rows, _, _, rfl, mL mRow _ _ _ _ S8.le hR, hok, hnd, hlr, by omega, by omega, p8, by omega, fun Hd hs H9 hHd lh nh bh s9 e9 p9 => ?_⟩
    have aH : a ≠ Hd := p8.ne hHd
    have d9 : H9 D = some (.dK kvs) := s9.at1 (s8.at1 g3 aD.symm) aD.symm
    have DH : Hd ≠ D := fun e => by rw [e, d9] at e9; cases e9
    have hnew : z ∉ xs.map (·.1) := by
      rw [g1]
      exact fun hm => by
        obtain ⟨j, hj, ej⟩ := List.mem_iff_getElem.mp hm
        rw [List.length_take] at hj
        rw [List.getElem_take] at ej
        have e1 : ns[j]? = some z := by rw [List.getElem?_eq_getElem (by omega), ej]
        have := nd_ix nn e1 hz
        omega
    have hv := find_new g4 hnew
    have lk : kvs.length = i := by rw [P_len g4, ← List.length_map (f := fun p : Int × List Str => p.1), g1, List.length_take]; omega
    walk_at "go"
    refine g_kDPut d9 (ltLine (by omega)) fun H10 s10 e10 => ?_
    rw [putK_new _ hv] at e10
    have hle : Le (hide [a, D] H5) (hide [a, D] H10) := ((s8.hid (by simp)).trans (s9.hid (by simp))).trans (s10.hid (by simp))
    refine ⟨xs ++ [(z, hs)], _, _, rfl, ?_, fun p hp => ?_, e10, P_snoc ⟨rfl, rLS_of (hide_at (s10.at1 e9 DH) (by simp [DH, aH.symm]))⟩ (Pmap g4 fun p x r => ⟨r.1, mL mS _ _ _ _ hle r.2⟩),
      s10.at1 (s9.at1 (s8.at1 g5 aL.symm) aL.symm) DL.symm, (p9.step1 s10 aD).mono (by omega), (S8.trans s9).via s10 hD⟩
    · rw [List.map_append, g1, List.take_add_one, hz]; rfl
    · rcases List.mem_append.mp hp with hp | hp
      · exact g2 p hp
      · rw [List.mem_singleton.mp hp]
        exact ⟨nh, bh, by show 1 ≤ hs.length; omega, by show hs.length ≤ 10; omega⟩
  · rintro σ H5 ⟨xs, kvs, v4, rfl, g1, g2, g3, g4, g5, g6, g7⟩
    walk_at "go"
    rw [List.length_map, List.take_length] at g1
    have ll : xs.length = ns.length := by rw [← g1, List.length_map]
    refine q D xs H5 hD ⟨by rw [g1]; exact nn, g2, by omega⟩ (by omega) g7 ⟨D, kvs, rfl, hide_at g3 (by simp [aD.symm]), Pmap g4 fun p x r => ⟨r.1, mL mS _ _ _ _ (hide_sub (by simp)) r.2⟩⟩ (g6.mono (by rw [List.length_map]; omega))
theorem ok_w_copy (C : Ctx K mg) : Has P w K mg base CX0 1 "_law_copy" ["some"] sp_w_copy := by
  obtain ⟨fd, F⟩ := fn_w_copy C
  refine ⟨⟨_, fd, ?_, gl_w_copy C, F.kp, F.bindsN fun _ _ _ _ _ _ us hl => match us, hl with | [_], _ => rfl⟩⟩
  refine F.ok (CX := CX0) sc_w_copy (fun vs H Q E h => ?_) (fun cdv A outer s H vs Q E hr h => ?_)
  · first | (obtain ⟨_, rfl, _⟩ := h; rfl) | (obtain ⟨_, _, rfl, _⟩ := h; rfl) | (obtain ⟨_, _, _, rfl, _⟩ := h; rfl) | (obtain ⟨_, _, _, _, rfl, _⟩ := h; rfl) | (obtain ⟨_, _, _, _, _, rfl, _⟩ := h; rfl) | (obtain ⟨_, _, _, _, _, _, rfl, _⟩ := h; rfl) | (obtain ⟨_, _, _, _, _, _, _, rfl, _⟩ := h; rfl) | (obtain ⟨_, _, _, _, _, _, _, _, rfl, _⟩ := h; rfl) | (obtain ⟨_, _, _, _, _, _, _, _, _, rfl, _⟩ := h; rfl) | (obtain ⟨_, _, _, _, _, _, _, _, _, _, rfl, _⟩ := h; rfl) | (obtain ⟨_, _, _, _, _, _, _, _, _, _, _, rfl, _⟩ := h; rfl) | (obtain ⟨_, _, _, _, _, _, _, _, _, _, _, _, rfl, _⟩ := h; rfl)
  have hu := hu_of hr
  refine ⟨_, PSs.nox (pss_cons (ps_set (i := 1) sc_w_copy.nd rfl (Or.inl rfl) pe_dnewK)
    (pss_cons (ps_lock (ps_for PassesOwn.never rfl (pi_keys (pv 0)) (pg_name (i := 2) sc_w_copy.nd rfl (Or.inl rfl))
    (pss_one (ps_dput hu (pv 1) (pv 2) (pe_callTy cr_listL (by rfl) (fr_list C) (by decide +kernel) (pa_cons (pe_dget hu (pv 0) (pv 2) (fun _ _ => rfl)) pa_nil)) rfl))))
    (pss_one (ps_ret (pv 1))))), ?_⟩
  obtain ⟨S, xs, rfl, hS, hnd, hlen, q⟩ := h
  obtain ⟨_, kvs, ⟨⟩, hS1, hSp⟩ := id hS
  walk_at "go"
  refine g_dnewK fun D H1 hD s1 e1 => ?_
  have SD : S ≠ D := ne_of_none hS1 hD
  walk_at "go"
  refine g_lock (s1.at0 hS1) fun od H2 s2 e2 => ?_
  walk_at "go"
  have lk : kvs.length = xs.length := P_len hSp
  refine g_kKeys e2 (wFor_keys (fun i σ H' => ∃ (ts : List (Int × Addr × List Str)) (v2 : Option V), σ = [some (.ref S), some (.ref D), v2] ∧ tbOf ts = xs.take i ∧ (∀ t ∈ ts, H t.2.1 = none ∧ t.2.1 ≠ D) ∧ (ts.map (·.2.1)).Nodup ∧ TabAt H' D ts ∧ H' S = some (.frz od (.dK kvs)) ∧ Step [S] H H')
    ⟨[], none, rfl, by simp [tbOf], by simp, List.nodup_nil, ⟨s2.at1 e1 SD.symm, by simp⟩, e2, s1.up.trans s2⟩ ?_ ?_ ?_)
  · rintro i σ H5 _ ⟨ts, v2, rfl, g1, g2, g3, g4, g5, g6⟩
    exact g5
  · rintro i p σ H5 hx ⟨ts, v2, rfl, g1, g2, g3, g4, g5, g6⟩
    obtain ⟨⟨z, hs⟩, hz, hk, hv⟩ := P_get hSp hx
    have hk : p.1 = Sum.inl z := hk
    have hi : i < xs.length := (List.getElem?_eq_some_iff.mp hz).1
    rw [hk]
    walk_at "go"
    obtain ⟨l, el, hl⟩ := rLS_at hv
    have lS : l ≠ S := fun e => by rw [e, hS1] at hl; cases hl
    have hval : valV kvs (Sum.inl z) = some (.ref l) := by
      rcases kvs_look (i := z) hSp with ⟨_, e⟩ | ⟨v', x', h1, h2, h3⟩
      · exact absurd (List.mem_map.mpr ⟨(z, hs), List.mem_of_getElem? hz, rfl⟩ : z ∈ xs.map (·.1)) (fun hm => by
          have := find_new (q := fun _ _ => True) (Pmap hSp fun p x r => ⟨r.1, trivial⟩) (i := z)
          rcases kvs_look (i := z) hSp with ⟨e1, _⟩ | ⟨v', x', h1, h2, h3⟩
          · have := valV_not e1
            rw [kvs_keys hSp] at this
            exact this (List.mem_map.mpr ⟨z, hm, rfl⟩)
          · rw [h2] at e; cases e)
      · rw [h1]
        have hm : (Sum.inl z, p.2) ∈ kvs := by
          have := List.mem_of_getElem? hx
          rwa [← hk]
        have hn : (kvs.map (·.1)).Nodup := by
          rw [kvs_keys hSp]
          exact nodup_map_of (fun a b e => Sum.inl.inj e) hnd
        have := valV_of_mem hn hm
        rw [h1] at this
        rw [this, el]
    refine g_kDGet (.inr ⟨od, g5⟩) hval ?_
    walk_at "go"
    refine g_listL (g6.at1 hl lS) fun l2 H6 hl2 s6 e6 => ?_
    walk_at "go"
    have hl2H : H l2 = none := g6.fresh hl2
    have d6 := s6.at0 g4.dk
    have l2D : l2 ≠ D := fun e => by rw [e, d6] at e6; cases e6
    have l2S : l2 ≠ S := (ne_of_none hS1 hl2H).symm
    have hnew : z ∉ ts.map (·.1) := fun hm => by
      have e : ts.map (·.1) = (xs.take i).map (·.1) := by rw [← g1]; simp [tbOf]
      rw [e, List.map_take] at hm
      obtain ⟨j, hj, ej⟩ := List.mem_iff_getElem.mp hm
      rw [List.length_take] at hj
      rw [List.getElem_take] at ej
      have hj2 : j < (xs.map (·.1)).length := by omega
      have e1 : (xs.map (·.1))[j]? = some z := by rw [List.getElem?_eq_getElem hj2, ej]
      have e2 : (xs.map (·.1))[i]? = some z := by rw [List.getElem?_map, hz]; rfl
      have := nd_ix hnd e1 e2
      omega
    have hv0 : valV (ts.map fun t => ((Sum.inl t.1 : Key), V.ref t.2.1)) (Sum.inl z) = none := by
      cases e : valV (ts.map fun t => ((Sum.inl t.1 : Key), V.ref t.2.1)) (Sum.inl z) with
      | none => rfl
      | some v =>
        have := valV_in e
        rw [List.map_map, List.mem_map] at this
        obtain ⟨t, ht, et⟩ := this
        exact absurd (List.mem_map.mpr ⟨t, ht, Sum.inl.inj et⟩) hnew
    have lt : ts.length = i := by
      have := congrArg List.length g1
      rw [List.length_take] at this
      unfold tbOf at this
      rw [List.length_map] at this
      omega
    refine g_kDPut d6 (ltLine (by rw [List.length_map]; omega)) fun H7 s7 e7 => ?_
    rw [putK_new _ hv0] at e7
    refine ⟨ts ++ [(z, l2, hs)], _, rfl, ?_, fun t ht => ?_, ?_, ⟨by rw [e7, List.map_append]; rfl, fun t ht => ?_⟩, s7.at1 (s6.at0 g5) SD, (g6.trans s6.up).via s7 hD⟩
    · unfold tbOf at g1 ⊢
      rw [List.map_append, g1, List.take_add_one, hz]; rfl
    · rcases List.mem_append.mp ht with ht | ht
      · exact g2 t ht
      · rw [List.mem_singleton.mp ht]; exact ⟨hl2H, l2D⟩
    · rw [List.map_append]
      refine nd_snoc g3 fun hm => ?_
      obtain ⟨t, ht, et⟩ := List.mem_map.mp hm
      have := g4.ls t ht
      rw [et, hl2] at this
      cases this
    · rcases List.mem_append.mp ht with ht | ht
      · exact s7.at1 (s6.at0 (g4.ls t ht)) (g2 t ht).2
      · rw [List.mem_singleton.mp ht]
        exact s7.at1 e6 l2D
  · rintro σ H5 ⟨ts, v2, rfl, g1, g2, g3, g4, g5, g6⟩
    rw [lk, List.take_length] at g1
    refine g_lk g5 fun H6 s6 e6 => ?_
    walk_at "go"
    have lS : ∀ t ∈ ts, t.2.1 ≠ S := fun t ht => (ne_of_none hS1 (g2 t ht).1).symm
    refine q D ts H6 hD (fun t ht => (g2 t ht).1) g3 g1 ((g6.trans s6).back fun o e => by rw [hS1] at e; cases e; exact e6) (g4.step s6 (by simpa using SD.symm) fun t ht => by simpa using lS t ht)
end

end My
namespace My
open PySem PySem.Spec PyProof.Rows L2
/-! moves done -/
inductive Rf where
  | ticket (i : Int)
  | place (i : Int)
  | taken (z : Str)
  deriving DecidableEq
def setT (xs : Tb) (k : Int) (hs : List Str) : Tb := xs.map fun p => if p.1 = k then (p.1, hs) else p
def mv1 (xs : Tb) (m : Mv) : Except Rf Tb :=
  match lookI xs m.1 with
  | none => .error (.ticket m.1)
  | some hs => if 0 ≤ m.2.1 ∧ m.2.1 < hs.length then
      (if m.2.2.2 ∈ hs.eraseIdx m.2.1.toNat then .error (.taken m.2.2.2) else .ok (setT xs m.1 (hs.set m.2.1.toNat m.2.2.2)))
    else .error (.place m.2.1)
def mvd (xs : Tb) : List Mv → Except Rf Tb
  | [] => .ok xs
  | m :: ms => match mv1 xs m with
    | .error r => .error r
    | .ok ys => mvd ys ms
theorem mvd_cons {m : Mv} {ms : List Mv} {xs : Tb} : mvd xs (m :: ms) = (match mv1 xs m with | .error r => .error r | .ok ys => mvd ys ms) := rfl
theorem mvd_app : ∀ {as bs : List Mv} {xs : Tb}, mvd xs (as ++ bs) = (match mvd xs as with | .error r => .error r | .ok ys => mvd ys bs)
  | [], _, _ => rfl
  | m :: as, bs, xs => by
    rw [List.cons_append, mvd_cons, mvd_cons]
    cases mv1 xs m with
    | error r => rfl
    | ok ys => exact mvd_app
theorem mvd_ok {ms : List Mv} {i : Nat} {m : Mv} {xs ys zs : Tb} (h : mvd xs (ms.take i) = .ok ys) (hm : ms[i]? = some m) (e : mv1 ys m = .ok zs) : mvd xs (ms.take (i + 1)) = .ok zs := by
  rw [List.take_add_one, hm, mvd_app, h]
  show mvd ys [m] = _
  unfold mvd
  rw [e]
  rfl
theorem mvd_err {ms : List Mv} {i : Nat} {m : Mv} {xs ys : Tb} {r : Rf} (h : mvd xs (ms.take i) = .ok ys) (hm : ms[i]? = some m) (e : mv1 ys m = .error r) : mvd xs ms = .error r := by
  have hl := (List.getElem?_eq_some_iff.mp hm)
  have : ms = ms.take i ++ m :: ms.drop (i + 1) := by
    obtain ⟨h1, h2⟩ := hl
    rw [← h2, List.getElem_cons_drop, List.take_append_drop]
  rw [this, mvd_app, h]
  show mvd ys (m :: _) = _
  unfold mvd
  rw [e]
/-! tables of one's own -/
theorem nd_inj {α β : Type} {f : α → β} : ∀ {l : List α} {a b : α}, (l.map f).Nodup → a ∈ l → b ∈ l → f a = f b → a = b
  | [], _, _, _, h, _, _ => by cases h
  | x :: r, a, b, hn, ha, hb, e => by
    rw [List.map_cons, List.nodup_cons] at hn
    rcases List.mem_cons.mp ha with ea | ha'
    · subst ea
      rcases List.mem_cons.mp hb with rfl | hb
      · rfl
      · exact (hn.1 (List.mem_map.mpr ⟨b, hb, e.symm⟩)).elim
    · rcases List.mem_cons.mp hb with eb | hb'
      · subst eb
        exact (hn.1 (List.mem_map.mpr ⟨a, ha', e⟩)).elim
      · exact nd_inj hn.2 ha' hb' e
abbrev TT := List (Int × Addr × List Str)
def updT (ts : TT) (k : Int) (hs : List Str) : TT := ts.map fun t => if t.1 = k then (t.1, t.2.1, hs) else t
theorem tbOf_upd {ts : TT} {k : Int} {hs : List Str} : tbOf (updT ts k hs) = setT (tbOf ts) k hs := by
  unfold tbOf updT setT
  rw [List.map_map, List.map_map]
  refine List.map_congr_left fun t _ => ?_
  by_cases h : t.1 = k <;> simp [h]
theorem updT_ad {ts : TT} {k : Int} {hs : List Str} : (updT ts k hs).map (·.2.1) = ts.map (·.2.1) := by
  unfold updT
  rw [List.map_map]
  refine List.map_congr_left fun t _ => ?_
  by_cases h : t.1 = k <;> simp [h]
theorem updT_ks {ts : TT} {k : Int} {hs : List Str} : (updT ts k hs).map (·.1) = ts.map (·.1) := by
  unfold updT
  rw [List.map_map]
  refine List.map_congr_left fun t _ => ?_
  by_cases h : t.1 = k <;> simp [h]
theorem updT_mem {ts : TT} {k : Int} {hs : List Str} {u : Int × Addr × List Str} (h : u ∈ updT ts k hs) : ∃ t, t ∈ ts ∧ u.1 = t.1 ∧ u.2.1 = t.2.1 ∧ ((t.1 = k ∧ u.2.2 = hs) ∨ (t.1 ≠ k ∧ u.2.2 = t.2.2)) := by
  obtain ⟨t, ht, e⟩ := List.mem_map.mp h
  refine ⟨t, ht, ?_⟩
  by_cases hk : t.1 = k
  · rw [if_pos hk] at e; subst e; exact ⟨rfl, rfl, .inl ⟨hk, rfl⟩⟩
  · rw [if_neg hk] at e; subst e; exact ⟨rfl, rfl, .inr ⟨hk, rfl⟩⟩
theorem TabAt.upd {H H' : Hp} {D : Addr} {ts : TT} {t : Int × Addr × List Str} {hs : List Str} (h : TabAt H D ts) (ht : t ∈ ts) (hk : (ts.map (·.1)).Nodup) (ha : (ts.map (·.2.1)).Nodup) (hD : t.2.1 ≠ D) (s : Step [t.2.1] H H') (e : H' t.2.1 = some (.lst (hs.map V.str))) : TabAt H' D (updT ts t.1 hs) := by
  refine ⟨?_, fun u hu => ?_⟩
  · rw [s.at1 h.dk hD.symm]
    unfold updT
    rw [List.map_map]
    congr 2
    refine List.map_congr_left fun u _ => ?_
    by_cases h : u.1 = t.1 <;> simp [h]
  · obtain ⟨v, hv, e1, e2, e3⟩ := updT_mem hu
    rcases e3 with ⟨e3, e4⟩ | ⟨e3, e4⟩
    · have := nd_inj hk hv ht e3
      rw [e2, e4, this]
      exact e
    · rw [e2, e4]
      exact s.at1 (h.ls v hv) fun z => e3 (by rw [nd_inj ha hv ht z])
theorem TabAt.look {H : Hp} {D : Addr} {ts : TT} (h : TabAt H D ts) (i : Int) : (valV (ts.map fun t => ((Sum.inl t.1 : Key), V.ref t.2.1)) (Sum.inl i) = none ∧ lookI (tbOf ts) i = none) ∨
    ∃ t, t ∈ ts ∧ t.1 = i ∧ valV (ts.map fun t => ((Sum.inl t.1 : Key), V.ref t.2.1)) (Sum.inl i) = some (.ref t.2.1) ∧ lookI (tbOf ts) i = some t.2.2 := by
  clear h
  induction ts with
  | nil => exact .inl ⟨rfl, rfl⟩
  | cons t r ih =>
    by_cases e : t.1 = i
    · exact .inr ⟨t, List.mem_cons_self .., e, by rw [List.map_cons, valV_pos (by rw [e])], lookI_pos e⟩
    · have e1 : valV ((t :: r).map fun t => ((Sum.inl t.1 : Key), V.ref t.2.1)) (Sum.inl i) = valV (r.map fun t => ((Sum.inl t.1 : Key), V.ref t.2.1)) (Sum.inl i) := by
        rw [List.map_cons, valV_neg (fun z => e (Sum.inl.inj z))]
      have e2 : lookI (tbOf (t :: r)) i = lookI (tbOf r) i := lookI_neg e
      rw [e1, e2]
      rcases ih with ih | ⟨u, h1, h2⟩
      · exact .inl ih
      · exact .inr ⟨u, List.mem_cons_of_mem _ h1, h2⟩
theorem tab_snoc {ts : TT} {xs : Tb} {i : Nat} {z : Int} {hs : List Str} (l : Addr) (hnd : (xs.map (·.1)).Nodup) (g1 : tbOf ts = xs.take i) (hz : xs[i]? = some (z, hs)) :
    putK (ts.map fun t => ((Sum.inl t.1 : Key), V.ref t.2.1)) (Sum.inl z) (.ref l) = (ts ++ [(z, l, hs)]).map (fun t => ((Sum.inl t.1 : Key), V.ref t.2.1)) ∧ tbOf (ts ++ [(z, l, hs)]) = xs.take (i + 1) ∧ ts.length = i := by
  have hi : i < xs.length := (List.getElem?_eq_some_iff.mp hz).1
  have hnew : z ∉ ts.map (·.1) := fun hm => by
    have e : ts.map (·.1) = (xs.take i).map (·.1) := by rw [← g1]; simp [tbOf]
    rw [e, List.map_take] at hm
    obtain ⟨j, hj, ej⟩ := List.mem_iff_getElem.mp hm
    rw [List.length_take] at hj
    rw [List.getElem_take] at ej
    have hj2 : j < (xs.map (·.1)).length := by omega
    have e1 : (xs.map (·.1))[j]? = some z := by rw [List.getElem?_eq_getElem hj2, ej]
    have e2 : (xs.map (·.1))[i]? = some z := by rw [List.getElem?_map, hz]; rfl
    have := nd_ix hnd e1 e2
    omega
  have hv0 : valV (ts.map fun t => ((Sum.inl t.1 : Key), V.ref t.2.1)) (Sum.inl z) = none := by
    cases e : valV (ts.map fun t => ((Sum.inl t.1 : Key), V.ref t.2.1)) (Sum.inl z) with
    | none => rfl
    | some v =>
      have := valV_in e
      rw [List.map_map, List.mem_map] at this
      obtain ⟨t, ht, et⟩ := this
      exact absurd (List.mem_map.mpr ⟨t, ht, Sum.inl.inj et⟩) hnew
  refine ⟨by rw [putK_new _ hv0, List.map_append]; rfl, ?_, ?_⟩
  · unfold tbOf at g1 ⊢
    rw [List.map_append, g1, List.take_add_one, hz]; rfl
  · have := congrArg List.length g1
    rw [List.length_take] at this
    unfold tbOf at this
    rw [List.length_map] at this
    omega
theorem cut_rest {ys : List Str} {i : Int} (h0 : 0 ≤ i) (h1 : i < ys.length) : cutV (ys.map V.str) none (some i) ++ cutV (ys.map V.str) (some (i + 1)) none = (ys.eraseIdx i.toNat).map V.str := by
  rw [cutV_to h0, cutV_from (by omega), ← List.map_take, ← List.map_drop, ← List.map_append]
  congr 1
  rw [List.eraseIdx_eq_take_drop_succ]
  congr 2
  omega
def rfV : Rf → V
  | .ticket i => .int i
  | .place i => .int i
  | .taken z => .str z
def rfF : Rf → Str
  | .ticket _ => "ticket"
  | .place _ => "place"
  | .taken _ => "name"
def rfC (K : PySem.W.Frag) : Rf → Addr
  | .ticket _ => He.ga K "NoTicket"
  | .place _ => He.ga K "NoPlace"
  | .taken _ => He.ga K "Taken"
def sp_moved (K : PySem.W.Frag) : Sp := fun vs H Q E => ∃ (S M : Addr) (xs : Tb) (ms : List Mv), vs = [.ref S, .ref M] ∧ rTb H (.ref S) xs ∧ TbOk xs ∧ rL rMv H (.ref M) ms ∧ ms.length ≤ 1000 ∧
  (∀ D (ts : List (Int × Addr × List Str)) H', mvd xs ms = .ok (tbOf ts) → H D = none → (∀ t ∈ ts, H t.2.1 = none) → (ts.map (·.2.1)).Nodup → Step [] H H' → TabAt H' D ts → Q (.ref D) H') ∧
  (∀ d r H', mvd xs ms = .error r → H d = none → Step [] H H' → H' d = some (.xd [(rfF r, rfV r)]) → E (.ref (rfC K r)) (some d) H')
section
variable {P : Program} {w : World} {K : PySem.W.Frag} {mg : Str → Option Value} {base : Heap}
theorem ok_moved (C : Ctx K mg) : Has P w K mg base (L2.CX P w) 3 "moved" ["table", "moves"] (sp_moved K) := by
  obtain ⟨fd, F⟩ := fn_moved C
  have X_NoTicket := ox_NoTicket (P := P) (w := w) (base := base) C
  obtain ⟨fd_NoTicket_init, G_NoTicket_init, b_NoTicket_init⟩ := X_NoTicket.ex
  have X_NoPlace := ox_NoPlace (P := P) (w := w) (base := base) C
  obtain ⟨fd_NoPlace_init, G_NoPlace_init, b_NoPlace_init⟩ := X_NoPlace.ex
  have X_Taken := ox_Taken (P := P) (w := w) (base := base) C
  obtain ⟨fd_Taken_init, G_Taken_init, b_Taken_init⟩ := X_Taken.ex
  refine ⟨⟨_, fd, ?_, gl_moved C, F.kp, F.bindsN fun _ _ _ _ _ _ us hl => match us, hl with | [_, _], _ => rfl⟩⟩
  refine F.ok (CX := L2.CX P w) sc_moved (fun vs H Q E h => ?_) (fun cdv A outer s H vs Q E hr h => ?_)
  · first | (obtain ⟨_, rfl, _⟩ := h; rfl) | (obtain ⟨_, _, rfl, _⟩ := h; rfl) | (obtain ⟨_, _, _, rfl, _⟩ := h; rfl) | (obtain ⟨_, _, _, _, rfl, _⟩ := h; rfl) | (obtain ⟨_, _, _, _, _, rfl, _⟩ := h; rfl) | (obtain ⟨_, _, _, _, _, _, rfl, _⟩ := h; rfl) | (obtain ⟨_, _, _, _, _, _, _, rfl, _⟩ := h; rfl) | (obtain ⟨_, _, _, _, _, _, _, _, rfl, _⟩ := h; rfl) | (obtain ⟨_, _, _, _, _, _, _, _, _, rfl, _⟩ := h; rfl) | (obtain ⟨_, _, _, _, _, _, _, _, _, _, rfl, _⟩ := h; rfl) | (obtain ⟨_, _, _, _, _, _, _, _, _, _, _, rfl, _⟩ := h; rfl) | (obtain ⟨_, _, _, _, _, _, _, _, _, _, _, _, rfl, _⟩ := h; rfl)
  have hu := hu_of hr
  refine ⟨_, (pss_cons (ps_lock (ps_setDc (i := 3) (own := [("ticket", 2), ("homes", 7)]) (g := (gTup K 2 (gCons (gName 2) (gCons (gName 7) gNil)))) (tt := tYes) rfl sc_moved.nd rfl rfl (sw_trueD rfl rfl rfl (by decide +kernel)) (pi_items (pv 0)) (blkOk_by (N := N_moved) (sc := defScope s_moved) (own := [("ticket", 2), ("homes", 7)]) (by decide +kernel)) (fun _ _ _ _ _ => (pg_tup rfl (pgs_cons (pg_name (i := 2) sc_moved.nd rfl (Or.inl rfl)) (pgs_cons (pg_name (i := 7) sc_moved.nd rfl (Or.inl rfl)) pgs_nil)))) (fun _ _ _ _ _ => pts_nil) (fun _ _ _ _ _ => (pv 2)) (fun _ _ _ _ _ => (pe_callTy (kCall (K := K) (r := rListL) cr_listL) (by rfl) (fr_list C) (by decide +kernel) (pa_cons (pv 7) pa_nil)))))
    (pss_cons (ps_for (passes_of rfl) rfl (pi_list (pv 1)) (pg_tup rfl (pgs_cons (pg_name (i := 2) sc_moved.nd rfl (Or.inl rfl)) (pgs_cons (pg_name (i := 4) sc_moved.nd rfl (Or.inl rfl)) (pgs_cons (pg_name (i := 5) sc_moved.nd rfl (Or.inl rfl)) (pgs_cons (pg_name (i := 6) sc_moved.nd rfl (Or.inl rfl)) pgs_nil)))))
    (pss_cons (ps_if (pt_cmp (pc_dnotin hu (pv 2) (pv 3))) (pss_one (ps_raise rfl (takes_of rfl rfl rfl rfl) (pmk_oex X_NoTicket.tx.ox X_NoTicket.tx.ini X_NoTicket.tx.tI G_NoTicket_init (hr.mono (by decide)) b_NoTicket_init .nil pass0 rfl X_NoTicket.mg (pa_cons (pv 2) pa_nil)))) pss_nil)
    (pss_cons (ps_if (pt_cut (PW.pt (pw_or (pt_cmpR op_lt (pv 4) pe_int (nomark _)) (pw_or1 (pt_cmpR op_ge (pv 4) (pe_callB cr_lenL (by rfl) (fr_len C) PySem.boot_len (pa_cons (pe_dget hu (pv 3) (pv 2) (fun _ _ => rfl)) pa_nil)) (nomark _)))))) (pss_one (ps_raise rfl (takes_of rfl rfl rfl rfl) (pmk_oex X_NoPlace.tx.ox X_NoPlace.tx.ini X_NoPlace.tx.tI G_NoPlace_init (hr.mono (by decide)) b_NoPlace_init .nil pass0 rfl X_NoPlace.mg (pa_cons (pv 4) pa_nil)))) pss_nil)
    (pss_cons (ps_if (pt_cmpR op_in_seq (pv 6) (pe_op op_cat (pe_slice sl_list (pe_dget hu (pv 3) (pv 2) (fun _ _ => rfl)) po_none (po_some (pv 4))) (pe_slice sl_list (pe_dget hu (pv 3) (pv 2) (fun _ _ => rfl)) (po_some (pe_op op_add (pv 4) pe_int)) po_none)) (by rfl)) (pss_one (ps_raise rfl (takes_of rfl rfl rfl rfl) (pmk_oex X_Taken.tx.ox X_Taken.tx.ini X_Taken.tx.tI G_Taken_init (hr.mono (by decide)) b_Taken_init .nil pass0 rfl X_Taken.mg (pa_cons (pv 6) pa_nil)))) pss_nil)
    (pss_one (ps_asg (pv 6) (pg_sub (pe_dget hu (pv 3) (pv 2) (fun _ _ => rfl)) (pv 4) set_list)))))))
    (pss_one (ps_ret (pv 3))))), ?_⟩
  obtain ⟨S, M, xs, ms, rfl, hS, tok, hM, hlm, qo, qe⟩ := h
  obtain ⟨_, kvs, ⟨⟩, hS1, hSp⟩ := id hS
  obtain ⟨_, mvs, ⟨⟩, hM1, hMp⟩ := id hM
  have SM : S ≠ M := fun e => by rw [e, hM1] at hS1; cases hS1
  have lk := P_len hSp
  have lx := tok.len
  refine g_lock hS1 fun od H1 s1 e1 => ?_
  walk_at "go"
  refine g_kItems e1 (wDc_items fun D H2 hD s2 e2 => ?_)
  have SD : S ≠ D := ne_of_none e1 hD
  have hD0 : H D = none := s1.fresh hD
  refine ⟨fun i H' => ∃ ts : TT, tbOf ts = xs.take i ∧ (∀ t ∈ ts, H t.2.1 = none ∧ t.2.1 ≠ D) ∧ (ts.map (·.2.1)).Nodup ∧ TabAt H' D ts ∧ H' S = some (.frz od (.dK kvs)) ∧ Step [S] H H', ⟨[], by simp [tbOf], by simp, List.nodup_nil, ⟨e2, by simp⟩, s2.at0 e1, s1.trans s2.up⟩, (fun i H' _ ⟨ts, _, _, _, _, g5, _⟩ => g5), ?_, ?_⟩
  · rintro i p H5 H6 T hx ⟨ts, g1, g2, g3, g4, g5, g6⟩ hT t1 u1
    obtain ⟨⟨z, hs⟩, hz, hk, hv⟩ := P_get hSp hx
    have hk : p.1 = Sum.inl z := hk
    obtain ⟨l, el, hl⟩ := rLS_at hv
    have lS : l ≠ S := fun e => by rw [e, hS1] at hl; cases hl
    have G6 := g6.trans t1.up
    rw [hk, el]
    walk_at "go"
    refine g_listL (G6.at1 hl lS) fun l2 H7 hl2 t2 u2 => ?_
    walk_at "go"
    have hl2H : H l2 = none := G6.fresh hl2
    obtain ⟨p1, p2, p3⟩ := tab_snoc l2 tok.nd g1 hz
    have d7 := t2.at0 (t1.at0 g4.dk)
    have l2D : l2 ≠ D := fun e => by rw [e, d7] at u2; cases u2
    have hi : i < xs.length := (List.getElem?_eq_some_iff.mp hz).1
    refine g_kElD d7 (ltLine (by rw [List.length_map]; omega)) fun H8 t3 u3 => ?_
    rw [p1] at u3
    have T3 := (G6.trans t2.up).via t3 hD0
    refine ⟨ts ++ [(z, l2, hs)], p2, fun t ht => ?_, ?_, ⟨u3, fun t ht => ?_⟩, t3.at1 (t2.at0 (t1.at0 g5)) SD, T3⟩
    · rcases List.mem_append.mp ht with ht | ht
      · exact g2 t ht
      · rw [List.mem_singleton.mp ht]; exact ⟨hl2H, l2D⟩
    · rw [List.map_append]
      refine nd_snoc g3 fun hm => ?_
      obtain ⟨t, ht, et⟩ := List.mem_map.mp hm
      have := t1.at0 (g4.ls t ht)
      rw [et, hl2] at this
      cases this
    · rcases List.mem_append.mp ht with ht | ht
      · exact t3.at1 (t2.at0 (t1.at0 (g4.ls t ht))) (g2 t ht).2
      · rw [List.mem_singleton.mp ht]
        exact t3.at1 u2 l2D
  · rintro H5 ⟨ts, g1, g2, g3, g4, g5, g6⟩
    rw [lk, List.take_length] at g1
    walk_at "go"
    refine g_lk g5 fun H6 s6 e6 => ?_
    have S6 : Step [] H H6 := (g6.trans s6).back fun o e => by rw [hS1] at e; cases e; exact e6
    have lS : ∀ t ∈ ts, t.2.1 ≠ S := fun t ht => (ne_of_none hS1 (g2 t ht).1).symm
    have T6 : TabAt H6 D ts := g4.step s6 (by simpa using SD.symm) fun t ht => by simpa using lS t ht
    walk_at "go"
    refine g_kList (S6.at0 hM1) (wFor_list (xs := mvs) (fun i σ H' => ∃ (ts : TT) (v2 v4 v5 v6 v7 : Option V), σ = [some (.ref S), some (.ref M), v2, some (.ref D), v4, v5, v6, v7] ∧ mvd xs (ms.take i) = .ok (tbOf ts) ∧ (∀ t ∈ ts, H t.2.1 = none ∧ t.2.1 ≠ D ∧ t.2.2.length ≤ 10) ∧ (ts.map (·.2.1)).Nodup ∧ (ts.map (·.1)).Nodup ∧ TabAt H' D ts ∧ Step [] H H')
      ⟨ts, _, _, _, _, _, rfl, by rw [g1]; rfl, fun t ht => ⟨(g2 t ht).1, (g2 t ht).2, ?_⟩, g3, ?_, T6, S6⟩ ?_ ?_ ?_)
    · have hm : (t.1, t.2.2) ∈ xs := by rw [← g1]; exact List.mem_map.mpr ⟨t, ht, rfl⟩
      exact (tok.nm _ hm).2.2.2
    · have := tok.nd
      rw [← g1] at this
      unfold tbOf at this
      rwa [List.map_map] at this
    · rintro i σ H7 _ ⟨ts, v2, v4, v5, v6, v7, rfl, k1, k2, k3, k4, k5, k6⟩
      exact k6.at0 hM1
    · rintro i x σ H7 hx ⟨ts, v2, v4, v5, v6, v7, rfl, k1, k2, k3, k4, k5, k6⟩
      obtain ⟨⟨tk, pl, fr, to⟩, hm, hr⟩ := P_get hMp hx
      obtain ⟨T, _, _, _, _, rfl, hT, rfl, rfl, rfl, rfl⟩ := hr
      dsimp only at hT
      refine g_tup4 (k6.at0 hT) ?_
      walk_at "go"
      refine g_kDNotIn (.inl k5.dk) ?_
      walk_at "go"
      rcases k5.look tk with ⟨e1, e2⟩ | ⟨t, ht, rfl, e1, e2⟩
      · rw [e1]
        refine iteT ?_
        walk_at "go"
        refine g_kMkO rfl (Nat.le_of_ble_eq_true rfl) fun d H8 hd t8 e8 => ?_
        refine qe d (.ticket tk) H8 (mvd_err k1 hm ?_) (k6.fresh hd) (k6.trans t8) e8
        unfold mv1
        rw [e2]
      · rw [e1]
        refine iteF ?_
        walk_at "go"
        obtain ⟨tk, la, hs⟩ := t
        have hdl := k5.ls _ ht
        obtain ⟨f1, f2, f3⟩ := k2 _ ht
        dsimp only at hdl f1 f2 f3 e1 e2 hm ⊢
        refine g_tcut (fun b H' => b = decide (pl < 0 ∨ (hs.length : Int) ≤ pl) ∧ H' = H7) ?_ ?_
        · walk_at "go"
          refine g_ite (fun hp => ⟨(decide_eq_true (.inl hp)).symm, rfl⟩) (fun hp => ?_)
          walk_at "go"
          refine g_kDGet (.inl k5.dk) e1 ?_
          walk_at "go"
          refine ⟨?_, rfl⟩
          rw [List.length_map]
          exact decide_eq_decide.mpr ⟨.inr, fun z => z.resolve_left hp⟩
        · rintro b H' ⟨rfl, rfl⟩
          refine g_ite (fun hp => ?_) (fun hp => ?_)
          · walk_at "go"
            refine g_kMkO rfl (Nat.le_of_ble_eq_true rfl) fun d H8 hd t8 e8 => ?_
            refine qe d (.place pl) H8 (mvd_err k1 hm ?_) (k6.fresh hd) (k6.trans t8) e8
            unfold mv1
            dsimp only
            rw [e2]
            dsimp only
            rw [if_neg (by omega)]
          · have hp0 : 0 ≤ pl := by omega
            have hp1 : pl < (hs.length : Int) := by omega
            walk_at "go"
            refine g_kDGet (.inl k5.dk) e1 ?_
            walk_at "go"
            refine g_slL hdl fun l1 H8 hl1 t8 u8 => ?_
            walk_at "go"
            refine g_kDGet (.inl (t8.at0 k5.dk)) e1 ?_
            walk_at "go"
            refine g_slL (t8.at0 hdl) fun l2 H9 hl2 t9 u9 => ?_
            refine g_cat (t9.at0 u8) u9 (leLine ?_) fun l3 H10 hl3 t10 u10 => ?_
            · rw [← List.length_append, cut_rest hp0 hp1, List.length_map]
              have := List.length_eraseIdx_le hs pl.toNat
              omega
            rw [cut_rest hp0 hp1] at u10
            have T10 := ((t8.trans t9).trans t10)
            refine g_inS u10 ?_
            walk_at "go"
            refine g_ite (fun hin => ?_) (fun hin => ?_)
            · walk_at "go"
              refine g_kMkO rfl (Nat.le_of_ble_eq_true rfl) fun d H8 hd t8 e8 => ?_
              have S8 := k6.trans (T10.trans t8)
              refine qe d (.taken to) H8 (mvd_err k1 hm ?_) (k6.fresh (T10.fresh hd)) S8 e8
              unfold mv1
              dsimp only
              rw [e2]
              dsimp only
              rw [if_pos ⟨hp0, hp1⟩, if_pos hin]
            · walk_at "go"
              refine g_kDGet (.inl (T10.at0 k5.dk)) e1 ?_
              walk_at "go"
              refine g_setL (T10.at0 hdl) (ixN_in hp0 (by rw [List.length_map]; exact hp1)) fun H11 t11 u11 => ?_
              rw [← List.map_set] at u11
              walk_at "go"
              have K11 := (k5.step0 T10).upd ht k4 k3 f2 t11 u11
              refine ⟨_, _, _, _, _, _, rfl, mvd_ok k1 hm ?_, fun u hu => ?_, by rw [updT_ad]; exact k3, by rw [updT_ks]; exact k4, K11, (k6.trans T10).via t11 f1⟩
              · unfold mv1
                dsimp only
                rw [e2]
                dsimp only
                rw [if_pos ⟨hp0, hp1⟩, if_neg hin, tbOf_upd]
              · obtain ⟨v, hv, w1, w2, w3⟩ := updT_mem hu
                rw [w2]
                refine ⟨(k2 v hv).1, (k2 v hv).2.1, ?_⟩
                rcases w3 with ⟨_, w3⟩ | ⟨_, w3⟩
                · rw [w3, List.length_set]; exact f3
                · rw [w3]; exact (k2 v hv).2.2
    · rintro σ H7 ⟨ts, v2, v4, v5, v6, v7, rfl, k1, k2, k3, k4, k5, k6⟩
      walk_at "go"
      rw [P_len hMp, List.take_length] at k1
      exact qo D ts H7 k1 hD0 (fun t ht => (k2 t ht).1) k3 k6 k5
end

end My
namespace My
open PySem PySem.Spec PyProof.Rows L2
/-! the moves from a table to another one, as the document has them -/
def srt (l : List Int) : List Int := l.mergeSort fun a b => decide (a ≤ b)
theorem eq_srt : ∀ {l1 l2 : List Int}, l1.Perm l2 → l1.Pairwise (· ≤ ·) → l2.Pairwise (· ≤ ·) → l1 = l2 := fun h h1 h2 => h.eq_of_pairwise (fun a b _ _ h3 h4 => Int.le_antisymm h3 h4) h1 h2
theorem srt_perm (l : List Int) : (srt l).Perm l := List.mergeSort_perm _ _
theorem srt_sorted (l : List Int) : (srt l).Pairwise (· ≤ ·) := by
  have := List.pairwise_mergeSort (le := fun (a b : Int) => decide (a ≤ b)) (fun a b c h1 h2 => by simp at *; omega) (fun a b => by simp; omega) l
  exact this.imp fun h => by simpa using h
theorem is_srt {l ks : List Int} (h : ks.Perm l) (hs : ks.Pairwise (· ≤ ·)) : ks = srt l := eq_srt (h.trans (srt_perm l).symm) hs (srt_sorted l)
def mv1At (ns : List Str) (k : Int) (xs ys : List Str) (i : Nat) : List Mv := match xs[i]?, ys[i]? with
  | some a, some b => if a = b then [] else [(k, (i : Int), if a ∈ ns then some a else none, b)]
  | _, _ => []
def mvUp (ns : List Str) (k : Int) (xs ys : List Str) : Nat → List Mv
  | 0 => []
  | i + 1 => mvUp ns k xs ys i ++ mv1At ns k xs ys i
def lookL (t : Tb) (k : Int) : List Str := (lookI t k).getD []
def mvK (ns : List Str) (t o : Tb) (k : Int) : List Mv := mvUp ns k (lookL t k) (lookL o k) (lookL t k).length
def mvs (ns : List Str) (t o : Tb) : List Mv := (srt (t.map (·.1))).flatMap (mvK ns t o)
theorem mv1At_congr {ns ns' : List Str} (h : ∀ a, a ∈ ns ↔ a ∈ ns') {k : Int} {xs ys : List Str} {i : Nat} : mv1At ns k xs ys i = mv1At ns' k xs ys i := by
  unfold mv1At
  split
  · rename_i a b _ _
    by_cases ha : a ∈ ns
    · rw [if_pos ha, if_pos ((h a).mp ha)]
    · rw [if_neg ha, if_neg fun z => ha ((h a).mpr z)]
  · rfl
theorem mvUp_congr {ns ns' : List Str} (h : ∀ a, a ∈ ns ↔ a ∈ ns') {k : Int} {xs ys : List Str} : ∀ i, mvUp ns k xs ys i = mvUp ns' k xs ys i
  | 0 => rfl
  | i + 1 => by rw [mvUp, mvUp, mvUp_congr h i, mv1At_congr h]
theorem mvs_congr {ns ns' : List Str} (h : ∀ a, a ∈ ns ↔ a ∈ ns') {t o : Tb} : mvs ns t o = mvs ns' t o := by
  unfold mvs
  congr 1
  funext k
  exact mvUp_congr h _
/-! done one after the other they lead from the one to the other -/
def NoMix (h o : List Str) : Prop := ∀ j : Nat, ∀ z, o[j]? = some z → z ∈ h → h[j]? = some z
theorem keys_setT {t : Tb} {k : Int} {l : List Str} : (setT t k l).map (·.1) = t.map (·.1) := by
  unfold setT
  rw [List.map_map]
  refine List.map_congr_left fun p _ => ?_
  by_cases h : p.1 = k <;> simp [h]
theorem lookI_setT : ∀ {t : Tb} {k : Int} {l : List Str}, k ∈ t.map (·.1) → lookI (setT t k l) k = some l
  | [], _, _, h => by cases h
  | p :: r, k, l, h => by
    by_cases e : p.1 = k
    · have : setT (p :: r) k l = (p.1, l) :: setT r k l := by simp [setT, e]
      rw [this]
      exact lookI_pos (p := (p.1, l)) e
    · have : setT (p :: r) k l = p :: setT r k l := by simp [setT, e]
      rw [this, lookI_neg e]
      refine lookI_setT ?_
      rw [List.map_cons, List.mem_cons] at h
      exact h.resolve_left fun z => e z.symm
theorem setT_setT {t : Tb} {k : Int} {l m : List Str} : setT (setT t k l) k m = setT t k m := by
  unfold setT
  rw [List.map_map]
  refine List.map_congr_left fun p _ => ?_
  by_cases h : p.1 = k <;> simp [h]
theorem inner {ns : List Str} {t : Tb} {k : Int} {h o : List Str} (hk : k ∈ t.map (·.1)) (hl : h.length = o.length) (no : o.Nodup) (nm : NoMix h o) : ∀ n, n ≤ h.length → mvd (setT t k h) (mvUp ns k h o n) = .ok (setT t k (o.take n ++ h.drop n))
  | 0, _ => by simp [mvUp, mvd]
  | n + 1, hn => by
    have hn1 : n < h.length := by omega
    have hn2 : n < o.length := by omega
    rw [mvUp, mvd_app, inner hk hl no nm n (by omega)]
    show mvd _ (mv1At ns k h o n) = _
    have lt : (o.take n).length = n := by rw [List.length_take]; omega
    have cut : o.take n ++ h.drop n = o.take n ++ h[n] :: h.drop (n + 1) := by rw [List.getElem_cons_drop]
    unfold mv1At
    rw [List.getElem?_eq_getElem hn1, List.getElem?_eq_getElem hn2]
    dsimp only
    by_cases e : h[n] = o[n]
    · rw [if_pos e]
      show Except.ok _ = _
      rw [cut, e, List.take_add_one, List.getElem?_eq_getElem hn2, List.append_assoc]
      rfl
    · rw [if_neg e, mvd_cons]
      have hin : ¬ o[n] ∈ h := fun z => by
        have := nm n o[n] (List.getElem?_eq_getElem hn2) z
        rw [List.getElem?_eq_getElem hn1] at this
        exact e (Option.some.inj this)
      have hm : mv1 (setT t k (o.take n ++ h.drop n)) (k, (n : Int), if h[n] ∈ ns then some h[n] else none, o[n]) = .ok (setT t k (o.take (n + 1) ++ h.drop (n + 1))) := by
        unfold mv1
        dsimp only
        rw [lookI_setT hk]
        dsimp only
        rw [if_pos ⟨by omega, by rw [List.length_append, lt, List.length_drop]; omega⟩, if_neg, setT_setT]
        · congr 2
          rw [Int.toNat_natCast, cut, List.set_append_right _ _ (by omega), lt, Nat.sub_self, List.set_cons_zero, List.take_add_one, List.getElem?_eq_getElem hn2, List.append_assoc]
          rfl
        · rw [Int.toNat_natCast, cut, List.eraseIdx_append_of_length_le (by omega), lt, Nat.sub_self, List.eraseIdx_cons_zero]
          intro z
          rcases List.mem_append.mp z with z | z
          · obtain ⟨j, hj, ej⟩ := List.mem_iff_getElem.mp z
            rw [lt] at hj
            rw [List.getElem_take] at ej
            have := nd_ix no (List.getElem?_eq_getElem (by omega : j < o.length)) (by rw [ej]; exact List.getElem?_eq_getElem hn2)
            omega
          · exact hin (List.mem_of_mem_drop z)
      rw [hm]
      rfl
abbrev PT := List (Int × List Str × List Str)
def fstT (ps : PT) : Tb := ps.map fun p => (p.1, p.2.1)
def sndT (ps : PT) : Tb := ps.map fun p => (p.1, p.2.2)
def midT (ps : PT) (d : List Int) : Tb := ps.map fun p => (p.1, if p.1 ∈ d then p.2.2 else p.2.1)
theorem mid_keys {ps : PT} {d : List Int} : (midT ps d).map (·.1) = ps.map (·.1) := by unfold midT; rw [List.map_map]; rfl
theorem mid_nil {ps : PT} : midT ps [] = fstT ps := by simp [midT, fstT]
theorem mid_all {ps : PT} {d : List Int} (h : ∀ p ∈ ps, p.1 ∈ d) : midT ps d = sndT ps := by
  unfold midT sndT
  exact List.map_congr_left fun p hp => by rw [if_pos (h p hp)]
theorem mid_set {ps : PT} {d : List Int} {p : Int × List Str × List Str} (hn : (ps.map (·.1)).Nodup) (hp : p ∈ ps) : setT (midT ps d) p.1 p.2.2 = midT ps (p.1 :: d) := by
  unfold setT midT
  rw [List.map_map]
  refine List.map_congr_left fun q hq => ?_
  by_cases e : q.1 = p.1
  · have := nd_inj hn hq hp e
    subst this
    simp
  · simp [e]
theorem mid_same {ps : PT} {d : List Int} {p : Int × List Str × List Str} (hn : (ps.map (·.1)).Nodup) (hp : p ∈ ps) (hd : p.1 ∉ d) : setT (midT ps d) p.1 p.2.1 = midT ps d := by
  unfold setT midT
  rw [List.map_map]
  refine List.map_congr_left fun q hq => ?_
  by_cases e : q.1 = p.1
  · have := nd_inj hn hq hp e
    subst this
    simp [hd]
  · simp [e]
theorem look_of {β : Type} : ∀ {xs : List (Int × β)} {i : Int} {x : β}, (xs.map (·.1)).Nodup → (i, x) ∈ xs → lookI xs i = some x
  | [], _, _, _, h => by cases h
  | p :: r, i, x, hn, hm => by
    rw [List.map_cons, List.nodup_cons] at hn
    rcases List.mem_cons.mp hm with e | hm
    · subst e; exact lookI_pos rfl
    · rw [lookI_neg fun e => hn.1 (List.mem_map.mpr ⟨(i, x), hm, e.symm⟩)]
      exact look_of hn.2 hm
theorem lead {ns : List Str} {ps : PT} (hn : (ps.map (·.1)).Nodup) (hl : ∀ p ∈ ps, p.2.1.length = p.2.2.length ∧ p.2.2.Nodup ∧ NoMix p.2.1 p.2.2) :
    ∀ (ks d : List Int), (∀ k ∈ ks, k ∈ ps.map (·.1) ∧ k ∉ d) → ks.Nodup → mvd (midT ps d) (ks.flatMap (mvK ns (fstT ps) (sndT ps))) = .ok (midT ps (ks.reverse ++ d))
  | [], d, _, _ => by simp [mvd]
  | k :: ks, d, h, nk => by
    obtain ⟨h1, h2⟩ := h k (List.mem_cons_self ..)
    obtain ⟨p, hp, rfl⟩ := List.mem_map.mp h1
    obtain ⟨n1, n2⟩ := List.nodup_cons.mp nk
    obtain ⟨l1, l2, l3⟩ := hl p hp
    have e1 : lookL (fstT ps) p.1 = p.2.1 := by
      unfold lookL
      rw [look_of (xs := fstT ps) (i := p.1) (x := p.2.1) (by unfold fstT; rw [List.map_map]; exact hn) (List.mem_map.mpr ⟨p, hp, rfl⟩)]
      rfl
    have e2 : lookL (sndT ps) p.1 = p.2.2 := by
      unfold lookL
      rw [look_of (xs := sndT ps) (i := p.1) (x := p.2.2) (by unfold sndT; rw [List.map_map]; exact hn) (List.mem_map.mpr ⟨p, hp, rfl⟩)]
      rfl
    rw [List.flatMap_cons, mvd_app]
    have : mvd (midT ps d) (mvK ns (fstT ps) (sndT ps) p.1) = .ok (midT ps (p.1 :: d)) := by
      unfold mvK
      rw [e1, e2, ← mid_same hn hp h2, inner (by rw [mid_keys]; exact List.mem_map.mpr ⟨p, hp, rfl⟩) l1 l2 l3 _ (Nat.le_refl _), List.drop_length, List.append_nil, l1, List.take_length, mid_set hn hp]
    rw [this]
    show mvd (midT ps (p.1 :: d)) _ = _
    rw [lead hn hl ks (p.1 :: d) (fun k hk => ⟨(h k (List.mem_cons_of_mem _ hk)).1, fun z => by
      rcases List.mem_cons.mp z with z | z
      · exact n1 (z ▸ hk)
      · exact (h k (List.mem_cons_of_mem _ hk)).2 z⟩) n2]
    congr 2
    simp
theorem mvs_lead {ns : List Str} {ps : PT} (hn : (ps.map (·.1)).Nodup) (hl : ∀ p ∈ ps, p.2.1.length = p.2.2.length ∧ p.2.2.Nodup ∧ NoMix p.2.1 p.2.2) : mvd (fstT ps) (mvs ns (fstT ps) (sndT ps)) = .ok (sndT ps) := by
  have ek : (fstT ps).map (·.1) = ps.map (·.1) := by unfold fstT; rw [List.map_map]; rfl
  unfold mvs
  rw [ek]
  have hp := srt_perm (ps.map (·.1))
  have := lead (ns := ns) hn hl (srt (ps.map (·.1))) [] (fun k hk => ⟨hp.mem_iff.mp hk, by simp⟩) (hp.nodup_iff.mpr hn)
  rw [mid_nil] at this
  rw [this, mid_all]
  intro p hp2
  rw [List.append_nil, List.mem_reverse]
  exact hp.mem_iff.mpr (List.mem_map.mpr ⟨p, hp2, rfl⟩)

end My
namespace My
open PySem PySem.Spec PyProof.Rows L2
/-! the moves told, by the program and by the law -/
def LsTb (xs : Tb) : Prop := (xs.map (·.1)).Nodup ∧ xs.length ≤ 12 ∧ ∀ p ∈ xs, p.2.length ≤ 10
def SameK (xs ys : Tb) : Prop := xs.map (·.1) = ys.map (·.1)
def sp_moves_of (K : PySem.W.Frag) : Sp := fun vs H Q _ => ∃ (t A B : Addr) (rows : List Row) (xs ys : Tb), vs = [.ref t, .ref A, .ref B] ∧ TownAt K H t rows ∧ rTb H (.ref A) xs ∧ rTb H (.ref B) ys ∧ LsTb xs ∧ LsTb ys ∧ SameK xs ys ∧ (∀ k, (lookL xs k).length = (lookL ys k).length) ∧
  ∀ l H', H l = none → Step [] H H' → rL rMv H' (.ref l) (mvs (rows.map (·.1)) xs ys) → Q (.ref l) H'
def sp_w_due : Sp := fun vs H Q _ => ∃ (R A B : Addr) (rows : List Row) (xs ys : Tb), vs = [.ref R, .ref A, .ref B] ∧ rL rRow H (.ref R) rows ∧ rows.length ≤ 30 ∧ rTb H (.ref A) xs ∧ rTb H (.ref B) ys ∧ LsTb xs ∧ LsTb ys ∧ SameK xs ys ∧ (∀ k, (lookL xs k).length = (lookL ys k).length) ∧
  ∀ l H', H l = none → Step [] H H' → rL rMv H' (.ref l) (mvs (rows.map (·.1)) xs ys) → Q (.ref l) H'
theorem mvUp_len {ns : List Str} {k : Int} {xs ys : List Str} : ∀ n, (mvUp ns k xs ys n).length ≤ n
  | 0 => by simp [mvUp]
  | n + 1 => by
    have := mvUp_len (ns := ns) (k := k) (xs := xs) (ys := ys) n
    have h2 : (mv1At ns k xs ys n).length ≤ 1 := by
      unfold mv1At
      split
      · split <;> simp
      · simp
    rw [mvUp, List.length_append]
    omega
theorem mvK_len {ns : List Str} {xs ys : Tb} {k : Int} (h : LsTb xs) : (mvK ns xs ys k).length ≤ 10 := by
  refine Nat.le_trans (mvUp_len _) ?_
  unfold lookL
  cases e : lookI xs k with
  | none => simp
  | some hs =>
    have hm : (k, hs) ∈ xs := by
      unfold lookI at e
      obtain ⟨p, hp1, hp2⟩ := Option.map_eq_some_iff.mp e
      have h1 := List.mem_of_find?_eq_some hp1
      have h2 := List.find?_some hp1
      have h2 : p.1 = k := by simpa using h2
      rw [← hp2, ← h2]
      exact h1
    exact h.2.2 _ hm
theorem mvsT_len {ns : List Str} {xs ys : Tb} (h : LsTb xs) : ∀ ks : List Int, (ks.flatMap (mvK ns xs ys)).length ≤ 10 * ks.length
  | [] => by simp
  | k :: ks => by
    have h1 := mvK_len (ns := ns) (ys := ys) (k := k) h
    have h2 := mvsT_len (ns := ns) (ys := ys) h ks
    rw [List.flatMap_cons, List.length_append, List.length_cons]
    omega
/-- a table's list by its ticket -/
theorem tb_at {H : Hp} {A : Addr} {xs : Tb} {k : Int} (h : rTb H (.ref A) xs) (hk : k ∈ xs.map (·.1)) : ∃ (kvs : List (Key × V)) (l : Addr), H A = some (.dK kvs) ∧ valV kvs (Sum.inl k) = some (.ref l) ∧ H l = some (.lst ((lookL xs k).map V.str)) := by
  obtain ⟨_, kvs, ⟨⟩, h1, h2⟩ := h
  rcases kvs_look (i := k) h2 with ⟨e, _⟩ | ⟨v, x, e1, e2, e3⟩
  · have := valV_not e
    rw [kvs_keys h2] at this
    exact absurd (List.mem_map.mpr ⟨k, hk, rfl⟩) this
  · obtain ⟨l, rfl, hl⟩ := rLS_at e3
    exact ⟨kvs, l, h1, e1, by unfold lookL; rw [e2]; exact hl⟩
section
variable {P : Program} {w : World} {K : PySem.W.Frag} {mg : Str → Option Value} {base : Heap}
theorem ok_moves_of (C : Ctx K mg) : Has P w K mg base CX0 3 "moves_of" ["town", "table", "other"] (sp_moves_of K) := by
  obtain ⟨fd, F⟩ := fn_moves_of C
  obtain ⟨fd_mt_Town_house_names, G_mt_Town_house_names, b_mt_Town_house_names⟩ := (ok_Town_house_names (P := P) (w := w) (base := base) C).ex
  refine ⟨⟨_, fd, ?_, gl_moves_of C, F.kp, F.bindsN fun _ _ _ _ _ _ us hl => match us, hl with | [_, _, _], _ => rfl⟩⟩
  refine F.ok (CX := CX0) sc_moves_of (fun vs H Q E h => ?_) (fun cdv A outer s H vs Q E hr h => ?_)
  · first | (obtain ⟨_, rfl, _⟩ := h; rfl) | (obtain ⟨_, _, rfl, _⟩ := h; rfl) | (obtain ⟨_, _, _, rfl, _⟩ := h; rfl) | (obtain ⟨_, _, _, _, rfl, _⟩ := h; rfl) | (obtain ⟨_, _, _, _, _, rfl, _⟩ := h; rfl) | (obtain ⟨_, _, _, _, _, _, rfl, _⟩ := h; rfl) | (obtain ⟨_, _, _, _, _, _, _, rfl, _⟩ := h; rfl) | (obtain ⟨_, _, _, _, _, _, _, _, rfl, _⟩ := h; rfl) | (obtain ⟨_, _, _, _, _, _, _, _, _, rfl, _⟩ := h; rfl) | (obtain ⟨_, _, _, _, _, _, _, _, _, _, rfl, _⟩ := h; rfl) | (obtain ⟨_, _, _, _, _, _, _, _, _, _, _, rfl, _⟩ := h; rfl) | (obtain ⟨_, _, _, _, _, _, _, _, _, _, _, _, rfl, _⟩ := h; rfl)
  have hu := hu_of hr
  refine ⟨_, PSs.nox (pss_cons (ps_set (i := 3) sc_moves_of.nd rfl (Or.inl rfl) (pe_meth0 (pv 0) (cl_Town C) (mt_Town_house_names C) G_mt_Town_house_names (hr.mono (by decide)) b_mt_Town_house_names .nil pass0))
    (pss_cons (ps_set (i := 4) sc_moves_of.nd rfl (Or.inl rfl) (pe_lst pa_nil))
    (pss_cons (ps_for PassesOwn.never rfl (pi_list (pe_callB (cr_sortedDI rfl) (by rfl) (fr_sorted C) (by decide +kernel) (pa_cons (pv 1) pa_nil))) (pg_name (i := 5) sc_moves_of.nd rfl (Or.inl rfl))
    (pss_one (ps_for PassesOwn.never rfl (pi_enumZip (by rfl) (fr_enumerate C) (by rfl) (fr_zip C) (pa_cons (pe_dget hu (pv 1) (pv 5) (fun _ _ => rfl)) (pa_cons (pe_dget hu (pv 2) (pv 5) (fun _ _ => rfl)) pa_nil))) (pg_tup rfl (pgs_cons (pg_name (i := 6) sc_moves_of.nd rfl (Or.inl rfl)) (pgs_cons (pg_tup rfl (pgs_cons (pg_name (i := 7) sc_moves_of.nd rfl (Or.inl rfl)) (pgs_cons (pg_name (i := 8) sc_moves_of.nd rfl (Or.inl rfl)) pgs_nil))) pgs_nil)))
    (pss_one (ps_if (pt_cmpR op_ne (pv 7) (pv 8) (nomark _)) (pss_one (ps_expr (pe_bm PySem.F.plainAttrs_list PySem.F.slot_list_append PySem.F.type_list_append mt_append (pv 4) (pa_cons (pe_tup (pa_cons (pv 5) (pa_cons (pv 6) (pa_cons (pe_ifExp (pt_cmpR op_in_seq (pv 7) (pv 3) (by rfl)) (pv 7) pe_non) (pa_cons (pv 8) pa_nil))))) pa_nil)))) pss_nil)))))
    (pss_one (ps_ret (pv 4)))))), ?_⟩
  obtain ⟨t, A, B, rows, xs, ys, rfl, hT, hA, hB, lx, ly, sk, sl, q⟩ := h
  obtain ⟨_, kvA, ⟨⟩, hA1, hAp⟩ := id hA
  have hlx := lx.2.1
  obtain ⟨dx, d, ht, hd⟩ := id hT
  walk_at "go"
  refine g_kMeth ht rfl ?_
  walk_at "go"
  refine ⟨t, rows, rfl, hT, fun Nl H1 hN s1 e1 => ?_⟩
  walk_at "go"
  intro D H2 hD s2 e2
  walk_at "go"
  have S2 := s1.trans s2
  refine g_sortedDI (.inl (S2.at0 hA1)) (kvs_keys hAp) (by rw [List.length_map]; omega) fun ks L H3 hp hs hL s3 e3 => ?_
  have ek := is_srt hp hs
  have hlk := hp.length_eq
  rw [List.length_map] at hlk
  have S3 := S2.trans s3
  have hD0 : H D = none := s1.fresh hD
  have DL : D ≠ L := ne_of_none (s3.at0 e2 |> fun _ => e2) hL
  have DN : D ≠ Nl := (ne_of_none e1 hD).symm
  generalize hns : rows.map (·.1) = ns at e1 q
  walk_at "go"
  refine wFor_list (xs := ks.map V.int) (fun i σ H' => ∃ (ms : List Mv) (v5 v6 v7 v8 : Option V), σ = [some (.ref t), some (.ref A), some (.ref B), some (.ref Nl), some (.ref D), v5, v6, v7, v8] ∧ ms = (ks.take i).flatMap (mvK ns xs ys) ∧ (∃ vs, H' D = some (.lst vs) ∧ Paired (rMv (hide [D] H')) vs ms) ∧ Step [D] H3 H')
    ⟨[], _, _, _, _, rfl, by simp, ⟨[], s3.at0 e2, .nil⟩, Step.refl _ _⟩ ?_ ?_ ?_
  · rintro i σ H4 _ ⟨ms, v5, v6, v7, v8, rfl, g1, g2, g3⟩
    exact g3.at1 e3 DL.symm
  · rintro i x σ H4 hx ⟨ms, v5, v6, v7, v8, rfl, g1, ⟨vs, g2, g2p⟩, g3⟩
    rw [List.getElem?_map, Option.map_eq_some_iff] at hx
    obtain ⟨k, hk, rfl⟩ := hx
    have hi : i < ks.length := (List.getElem?_eq_some_iff.mp hk).1
    have hkx : k ∈ xs.map (·.1) := hp.mem_iff.mp (List.mem_of_getElem? hk)
    obtain ⟨ka, la, a1, a2, a3⟩ := tb_at hA hkx
    obtain ⟨kb, lb, b1, b2, b3⟩ := tb_at hB (by rw [← sk]; exact hkx)
    have S4 : Step [] H H4 := S3.via g3 hD0
    walk_at "go"
    refine g_kDGet (.inl (S4.at0 a1)) a2 ?_
    walk_at "go"
    refine g_kDGet (.inl (S4.at0 b1)) b2 ?_
    walk_at "go"
    refine g_kEz (S4.at0 a3) (S4.at0 b3) ?_
    refine wFor_ez (xs := (lookL xs k).map V.str) (ys := (lookL ys k).map V.str) (fun j σ H' => ∃ (ms : List Mv) (v6 v7 v8 : Option V), σ = [some (.ref t), some (.ref A), some (.ref B), some (.ref Nl), some (.ref D), some (.int k), v6, v7, v8] ∧ ms = (ks.take i).flatMap (mvK ns xs ys) ++ mvUp ns k (lookL xs k) (lookL ys k) j ∧ (∃ vs, H' D = some (.lst vs) ∧ Paired (rMv (hide [D] H')) vs ms) ∧ Step [D] H3 H')
      ⟨ms, _, _, _, rfl, by rw [g1]; simp [mvUp], ⟨vs, g2, g2p⟩, g3⟩ ?_ ?_ ?_
    · rintro j σ H5 _ ⟨ms, v6, v7, v8, rfl, k1, k2, k3⟩
      have S5 : Step [] H H5 := S3.via k3 hD0
      exact ⟨S5.at0 a3, S5.at0 b3⟩
    · rintro j x y σ H5 H6 hx hy ⟨ms, v6, v7, v8, rfl, k1, ⟨ws, k2, k2p⟩, k3⟩ s6
      rw [List.getElem?_map, Option.map_eq_some_iff] at hx hy
      obtain ⟨a, ha, rfl⟩ := hx
      obtain ⟨b, hb, rfl⟩ := hy
      have hj : j < (lookL xs k).length := (List.getElem?_eq_some_iff.mp ha).1
      have hw : ws.length ≤ 200 := by
        rw [P_len k2p, k1, List.length_append]
        have h1 := mvsT_len (ns := ns) (ys := ys) lx (ks.take i)
        have h2 := mvUp_len (ns := ns) (k := k) (xs := lookL xs k) (ys := lookL ys k) j
        have h3 : (lookL xs k).length ≤ 10 := by
          unfold lookL
          rcases kvs_look (i := k) hAp with ⟨_, e⟩ | ⟨v', x', _, e, _⟩
          · rw [e]; simp
          · rw [e]
            have hm : (k, x') ∈ xs := by
              unfold lookI at e
              obtain ⟨p, hp1, hp2⟩ := Option.map_eq_some_iff.mp e
              have h1 := List.mem_of_find?_eq_some hp1
              have h2 := List.find?_some hp1
              have h2 : p.1 = k := by simpa using h2
              rw [← hp2, ← h2]
              exact h1
            exact lx.2.2 _ hm
        rw [List.length_take] at h1
        omega
      have k2' := s6.at0 k2
      have e16 := s6.at0 (k3.at1 (s3.at0 (s2.at0 e1)) DN.symm)
      walk_at "go"
      refine g_iteN (fun hne => ?_) (fun he => ?_)
      · have hmv : mv1At ns k (lookL xs k) (lookL ys k) j = [(k, (j : Int), if a ∈ ns then some a else none, b)] := by
          unfold mv1At
          rw [ha, hb]
          dsimp only
          rw [if_neg hne]
        walk_at "go"
        refine g_inS e16 ?_
        walk_at "go"
        refine g_ite (fun hin => ?_) (fun hin => ?_)
        all_goals
          walk_at "go"
          intro T H7 hT7 s7 e7
          have d7 := s7.at0 k2'
          have TD : T ≠ D := fun e => by rw [e, d7] at e7; cases e7
          walk_at "go"
          refine g_append d7 (ltLine (by omega)) fun H8 s8 e8 => ?_
          refine ⟨_, _, _, _, rfl, by rw [mvUp, ← List.append_assoc, ← k1, hmv], ⟨_, e8, P_snoc (y := (k, (j : Int), (if a ∈ ns then some a else none), b)) ⟨T, _, _, _, _, rfl, hide_at (s8.at1 e7 TD) (by simp [TD]), rfl, rfl, by show _ = _; first | (rw [if_pos hin]; rfl) | (rw [if_neg hin]; rfl), rfl⟩ (Pmap k2p fun v x r => mMv _ _ _ _ ((s6.hid0.trans s7.hid0).trans (s8.hid (by simp))) r)⟩, (k3.trans (s6.trans s7).up).trans s8⟩
      · have hmv : mv1At ns k (lookL xs k) (lookL ys k) j = [] := by
          unfold mv1At
          rw [ha, hb]
          dsimp only
          rw [if_pos he]
        walk_at "go"
        exact ⟨ms, _, _, _, rfl, by rw [mvUp, hmv, List.append_nil, k1], ⟨ws, k2', Pmap k2p fun v x r => mMv _ _ _ _ s6.hid0 r⟩, k3.trans s6.up⟩
    · rintro σ H5 ⟨ms, v6, v7, v8, rfl, k1, k2, k3⟩
      refine ⟨ms, _, _, _, _, rfl, ?_, k2, k3⟩
      rw [k1, List.take_add_one, hk, List.flatMap_append, List.length_map, List.length_map, ← sl k, Nat.min_self]
      simp [mvK]
  · rintro σ H4 ⟨ms, v5, v6, v7, v8, rfl, g1, ⟨vs, g2, g2p⟩, g3⟩
    walk_at "go"
    refine q D H4 hD0 (S3.via g3 hD0) ⟨D, vs, rfl, g2, ?_⟩
    rw [List.length_map, List.take_length, ek] at g1
    rw [show mvs ns xs ys = ms from g1.symm]
    exact Pmap g2p fun v x r => mMv _ _ _ _ hide_le r
theorem ok_w_due (C : Ctx K mg) : Has P w K mg base CX0 3 "_law_due" ["rows", "some", "other"] sp_w_due := by
  obtain ⟨fd, F⟩ := fn_w_due C
  refine ⟨⟨_, fd, ?_, gl_w_due C, F.kp, F.bindsN fun _ _ _ _ _ _ us hl => match us, hl with | [_, _, _], _ => rfl⟩⟩
  refine F.ok (CX := CX0) sc_w_due (fun vs H Q E h => ?_) (fun cdv A outer s H vs Q E hr h => ?_)
  · first | (obtain ⟨_, rfl, _⟩ := h; rfl) | (obtain ⟨_, _, rfl, _⟩ := h; rfl) | (obtain ⟨_, _, _, rfl, _⟩ := h; rfl) | (obtain ⟨_, _, _, _, rfl, _⟩ := h; rfl) | (obtain ⟨_, _, _, _, _, rfl, _⟩ := h; rfl) | (obtain ⟨_, _, _, _, _, _, rfl, _⟩ := h; rfl) | (obtain ⟨_, _, _, _, _, _, _, rfl, _⟩ := h; rfl) | (obtain ⟨_, _, _, _, _, _, _, _, rfl, _⟩ := h; rfl) | (obtain ⟨_, _, _, _, _, _, _, _, _, rfl, _⟩ := h; rfl) | (obtain ⟨_, _, _, _, _, _, _, _, _, _, rfl, _⟩ := h; rfl) | (obtain ⟨_, _, _, _, _, _, _, _, _, _, _, rfl, _⟩ := h; rfl) | (obtain ⟨_, _, _, _, _, _, _, _, _, _, _, _, rfl, _⟩ := h; rfl)
  have hu := hu_of hr
  refine ⟨_, PSs.nox (pss_cons (ps_setLc (i := 3) (own := [("row", 8)]) (g := (gName 8)) (tt := tYes) rfl sc_w_due.nd rfl rfl (sw_true rfl rfl rfl (by decide +kernel)) (pi_list (pv 0)) (blkOk_by (N := N_w_due) (sc := defScope s_w_due) (own := [("row", 8)]) (by decide +kernel)) (fun _ _ _ _ _ => (pg_name (i := 8) sc_w_due.nd rfl (Or.inl rfl))) (fun _ _ _ _ _ => pts_nil) (fun _ _ _ _ _ => (pe_ix (kIx (K := K) (r := rIxT) ix_tup) (pv 8) pe_int (fun _ _ => rfl))))
    (pss_cons (ps_set (i := 4) sc_w_due.nd rfl (Or.inl rfl) (pe_lst pa_nil))
    (pss_cons (ps_for PassesOwn.never rfl (pi_list (pe_callB (cr_sortedDI rfl) (by rfl) (fr_sorted C) (by decide +kernel) (pa_cons (pv 1) pa_nil))) (pg_name (i := 5) sc_w_due.nd rfl (Or.inl rfl))
    (pss_one (ps_for PassesOwn.never rfl (pi_range1 rfl (fr_range C) (pa_cons (pe_callB cr_lenL (by rfl) (fr_len C) PySem.boot_len (pa_cons (pe_dget hu (pv 1) (pv 5) (fun _ _ => rfl)) pa_nil)) pa_nil)) (pg_name (i := 6) sc_w_due.nd rfl (Or.inl rfl))
    (pss_cons (ps_set (i := 7) sc_w_due.nd rfl (Or.inl rfl) (pe_ix ix_list (pe_dget hu (pv 1) (pv 5) (fun _ _ => rfl)) (pv 6) (fun _ _ => rfl)))
    (pss_one (ps_if (pt_cmpR op_ne (pv 7) (pe_ix ix_list (pe_dget hu (pv 2) (pv 5) (fun _ _ => rfl)) (pv 6) (fun _ _ => rfl)) (nomark _)) (pss_one (ps_expr (pe_bm PySem.F.plainAttrs_list PySem.F.slot_list_append PySem.F.type_list_append mt_append (pv 4) (pa_cons (pe_tup (pa_cons (pv 5) (pa_cons (pv 6) (pa_cons (pe_ifExp (pt_cmpR op_in_seq (pv 7) (pv 3) (by rfl)) (pv 7) pe_non) (pa_cons (pe_ix ix_list (pe_dget hu (pv 2) (pv 5) (fun _ _ => rfl)) (pv 6) (fun _ _ => rfl)) pa_nil))))) pa_nil)))) pss_nil))))))
    (pss_one (ps_ret (pv 4)))))), ?_⟩
  obtain ⟨R, A, B, rows, xs, ys, rfl, hR, lr, hA, hB, lx, ly, sk, sl, q⟩ := h
  obtain ⟨_, kvA, ⟨⟩, hA1, hAp⟩ := id hA
  obtain ⟨_, rvs, ⟨⟩, hR1, hRp⟩ := id hR
  have hlx := lx.2.1
  walk_at "go"
  refine wLc_list (xs := rvs) fun Nl H1 hN s1 e1 => ?_
  refine ⟨fun i H' => H' Nl = some (.lst (((rows.map (·.1)).take i).map V.str)) ∧ Step [] H H', ⟨e1, s1⟩, fun i H' _ h => h.2.at0 hR1, ?_, ?_⟩
  · rintro i x H2 hx ⟨h1, h2⟩
    obtain ⟨r, hr, t, u1, u2, u3, rfl, ht, rfl, rfl, rfl⟩ := P_get hRp hx
    have ht2 := h2.at0 ht
    walk_at "go"
    refine g_kEl h1 (ltLine (by rw [List.length_map, List.length_take, List.length_map]; omega)) fun H3 s3 e3 => ⟨?_, h2.via s3 hN⟩
    rw [e3, List.take_add_one, List.getElem?_map, hr, List.map_append]
    rfl
  clear e1 s1 H1
  rintro H1 ⟨e1, s1⟩
  have el : rvs.length = (rows.map (·.1)).length := by rw [P_len hRp, List.length_map]
  rw [el, List.take_length] at e1
  walk_at "go"
  intro D H2 hD s2 e2
  walk_at "go"
  have S2 := s1.trans s2
  refine g_sortedDI (.inl (S2.at0 hA1)) (kvs_keys hAp) (by rw [List.length_map]; omega) fun ks L H3 hp hs hL s3 e3 => ?_
  have ek := is_srt hp hs
  have hlk := hp.length_eq
  rw [List.length_map] at hlk
  have S3 := S2.trans s3
  have hD0 : H D = none := s1.fresh hD
  have DL : D ≠ L := ne_of_none e2 hL
  have DN : D ≠ Nl := (ne_of_none e1 hD).symm
  generalize hns : rows.map (·.1) = ns at e1 q
  walk_at "go"
  refine wFor_list (xs := ks.map V.int) (fun i σ H' => ∃ (ms : List Mv) (v5 v6 v7 v8 : Option V), σ = [some (.ref R), some (.ref A), some (.ref B), some (.ref Nl), some (.ref D), v5, v6, v7, v8] ∧ ms = (ks.take i).flatMap (mvK ns xs ys) ∧ (∃ vs, H' D = some (.lst vs) ∧ Paired (rMv (hide [D] H')) vs ms) ∧ Step [D] H3 H')
    ⟨[], _, _, _, _, rfl, by simp, ⟨[], s3.at0 e2, .nil⟩, Step.refl _ _⟩ ?_ ?_ ?_
  · rintro i σ H4 _ ⟨ms, v5, v6, v7, v8, rfl, g1, g2, g3⟩
    exact g3.at1 e3 DL.symm
  · rintro i x σ H4 hx ⟨ms, v5, v6, v7, v8, rfl, g1, ⟨vs, g2, g2p⟩, g3⟩
    rw [List.getElem?_map, Option.map_eq_some_iff] at hx
    obtain ⟨k, hk, rfl⟩ := hx
    have hi : i < ks.length := (List.getElem?_eq_some_iff.mp hk).1
    have hkx : k ∈ xs.map (·.1) := hp.mem_iff.mp (List.mem_of_getElem? hk)
    obtain ⟨ka, la, a1, a2, a3⟩ := tb_at hA hkx
    obtain ⟨kb, lb, b1, b2, b3⟩ := tb_at hB (by rw [← sk]; exact hkx)
    have S4 : Step [] H H4 := S3.via g3 hD0
    have h3 : (lookL xs k).length ≤ 10 := by
      unfold lookL
      rcases kvs_look (i := k) hAp with ⟨_, e⟩ | ⟨v', x', _, e, _⟩
      · rw [e]; simp
      · rw [e]
        have hm : (k, x') ∈ xs := by
          unfold lookI at e
          obtain ⟨p, hp1, hp2⟩ := Option.map_eq_some_iff.mp e
          have h1 := List.mem_of_find?_eq_some hp1
          have h2 := List.find?_some hp1
          have h2 : p.1 = k := by simpa using h2
          rw [← hp2, ← h2]
          exact h1
        exact lx.2.2 _ hm
    walk_at "go"
    refine g_kDGet (.inl (S4.at0 a1)) a2 ?_
    have a34 := S4.at0 a3
    walk_at "go"
    rw [List.length_map]
    refine g_kRng1 (by omega) (by omega) ?_
    rw [Int.toNat_natCast]
    refine wFor_rng (fun j σ H' => ∃ (ms : List Mv) (v6 v7 v8 : Option V), σ = [some (.ref R), some (.ref A), some (.ref B), some (.ref Nl), some (.ref D), some (.int k), v6, v7, v8] ∧ ms = (ks.take i).flatMap (mvK ns xs ys) ++ mvUp ns k (lookL xs k) (lookL ys k) j ∧ (∃ vs, H' D = some (.lst vs) ∧ Paired (rMv (hide [D] H')) vs ms) ∧ Step [D] H3 H')
      ⟨ms, _, _, _, rfl, by rw [g1]; simp [mvUp], ⟨vs, g2, g2p⟩, g3⟩ ?_ ?_
    · rintro j σ H5 hj ⟨ms, v6, v7, v8, rfl, k1, ⟨ws, k2, k2p⟩, k3⟩
      simp only [Int.zero_add]
      have hj2 : j < (lookL ys k).length := by rw [← sl k]; exact hj
      have ha := List.getElem?_eq_getElem hj
      have hb := List.getElem?_eq_getElem hj2
      generalize (lookL xs k)[j] = a at ha
      generalize (lookL ys k)[j] = b at hb
      have hw : ws.length ≤ 200 := by
        rw [P_len k2p, k1, List.length_append]
        have h1 := mvsT_len (ns := ns) (ys := ys) lx (ks.take i)
        have h2 := mvUp_len (ns := ns) (k := k) (xs := lookL xs k) (ys := lookL ys k) j
        rw [List.length_take] at h1
        omega
      have S5 : Step [] H H5 := S3.via k3 hD0
      have e16 := k3.at1 (s3.at0 (s2.at0 e1)) DN.symm
      walk_at "go"
      refine g_kDGet (.inl (S5.at0 a1)) a2 ?_
      walk_at "go"
      refine g_ixL (S5.at0 a3) (v := .str a) (at_nat (by rw [List.getElem?_map, ha]; rfl)) ?_
      walk_at "go"
      refine g_kDGet (.inl (S5.at0 b1)) b2 ?_
      walk_at "go"
      refine g_ixL (S5.at0 b3) (v := .str b) (at_nat (by rw [List.getElem?_map, hb]; rfl)) ?_
      walk_at "go"
      refine g_iteN (fun hne => ?_) (fun he => ?_)
      · have hmv : mv1At ns k (lookL xs k) (lookL ys k) j = [(k, (j : Int), if a ∈ ns then some a else none, b)] := by
          unfold mv1At
          rw [ha, hb]
          dsimp only
          rw [if_neg hne]
        walk_at "go"
        refine g_inS e16 ?_
        walk_at "go"
        refine g_ite (fun hin => ?_) (fun hin => ?_)
        all_goals
          walk_at "go"
          refine g_kDGet (.inl (S5.at0 b1)) b2 ?_
          walk_at "go"
          refine g_ixL (S5.at0 b3) (v := .str b) (at_nat (by rw [List.getElem?_map, hb]; rfl)) ?_
          walk_at "go"
          intro T H7 hT7 s7 e7
          have d7 := s7.at0 k2
          have TD : T ≠ D := fun e => by rw [e, d7] at e7; cases e7
          walk_at "go"
          refine g_append d7 (ltLine (by omega)) fun H8 s8 e8 => ?_
          refine ⟨_, _, _, _, rfl, by rw [mvUp, ← List.append_assoc, ← k1, hmv], ⟨_, e8, P_snoc (y := (k, (j : Int), (if a ∈ ns then some a else none), b)) ⟨T, _, _, _, _, rfl, hide_at (s8.at1 e7 TD) (by simp [TD]), rfl, rfl, by show _ = _; first | (rw [if_pos hin]; rfl) | (rw [if_neg hin]; rfl), rfl⟩ (Pmap k2p fun v x r => mMv _ _ _ _ (s7.hid0.trans (s8.hid (by simp))) r)⟩, (k3.trans s7.up).trans s8⟩
      · have hmv : mv1At ns k (lookL xs k) (lookL ys k) j = [] := by
          unfold mv1At
          rw [ha, hb]
          dsimp only
          rw [if_pos he]
        walk_at "go"
        exact ⟨ms, _, _, _, rfl, by rw [mvUp, hmv, List.append_nil, k1], ⟨ws, k2, k2p⟩, k3⟩
    · rintro σ H5 ⟨ms, v6, v7, v8, rfl, k1, k2, k3⟩
      refine ⟨ms, _, _, _, _, rfl, ?_, k2, k3⟩
      rw [k1, List.take_add_one, hk, List.flatMap_append]
      simp [mvK]
  · rintro σ H4 ⟨ms, v5, v6, v7, v8, rfl, g1, ⟨vs, g2, g2p⟩, g3⟩
    walk_at "go"
    refine q D H4 hD0 (S3.via g3 hD0) ⟨D, vs, rfl, g2, ?_⟩
    rw [List.length_map, List.take_length, ek] at g1
    rw [show mvs ns xs ys = ms from g1.symm]
    exact Pmap g2p fun v x r => mMv _ _ _ _ hide_le r
end

end My
namespace My
open PySem PySem.Spec PyProof.Rows L2
/-! another table, tables without mix, data alike -/
def OtherOk (xs ys : Tb) : Prop := xs.map (·.1) = ys.map (·.1) ∧ ∀ i : Nat, ∀ p q, xs[i]? = some p → ys[i]? = some q → p.2.length = q.2.length ∧ q.2.Nodup ∧ ∀ z ∈ q.2, IsNm z
def sp_w_other : Sp := fun vs H Q _ => ∃ (a R S : Addr) (rows : List Row) (xs : Tb) (c : Nat), vs = [.ref a, .ref R, .ref S] ∧ rL rRow (hide [a] H) (.ref R) rows ∧ (∀ r ∈ rows, RowOk r) ∧ (rows.map (·.1)).Nodup ∧ rows.length ≤ 30 ∧ rTb (hide [a] H) (.ref S) xs ∧ TbOk xs ∧ PotAt H a c ∧ c < 2 ^ 56 ∧
  ∀ D (ys : Tb) H', H D = none → OtherOk xs ys → Step [a] H H' → rTb (hide [a] H') (.ref D) ys → PotAt H' a (c + 4000) → Q (.ref D) H'
def sp_w_no_mix : Sp := fun vs H Q _ => ∃ (A B : Addr) (xs ys : Tb), vs = [.ref A, .ref B] ∧ A ≠ B ∧ rTb H (.ref A) xs ∧ rTb H (.ref B) ys ∧ TbOk xs ∧ OtherOk xs ys ∧
  ∀ L D1 D2 (ps : PT) H', H L = none → H D1 = none → H D2 = none → Step [] H H' → H' L = some (.lst [.ref D1, .ref D2]) → rTb H' (.ref D1) (fstT ps) → rTb H' (.ref D2) (sndT ps) → (ps.map (·.1)).Nodup → ps.length ≤ 12 → (∀ p ∈ ps, (p.1, p.2.1) ∈ xs ∧ (p.1, p.2.2) ∈ ys ∧ NoMix p.2.1 p.2.2) → Q (.ref L) H'
theorem tb_val {H : Hp} {kvs : List (Key × V)} {xs : Tb} {z : Int} {hs : List Str} (h : Paired (fun (p : Key × V) (x : Int × List Str) => p.1 = Sum.inl x.1 ∧ rL rS H p.2 x.2) kvs xs) (hn : (xs.map (·.1)).Nodup) (hm : (z, hs) ∈ xs) :
    ∃ l : Addr, valV kvs (Sum.inl z) = some (.ref l) ∧ H l = some (.lst (hs.map V.str)) := by
  have e := look_of hn hm
  rcases kvs_look (i := z) h with ⟨_, e2⟩ | ⟨v, x, e1, e2, e3⟩
  · rw [e] at e2; cases e2
  · rw [e] at e2
    cases e2
    obtain ⟨l, rfl, hl⟩ := rLS_at e3
    exact ⟨l, e1, hl⟩
def inMix (hs os : List Str) (j : Nat) : Bool := match os[j]? with
  | some z => decide (z ∈ hs)
  | none => false
theorem noMix_of {hs os : List Str} {n : Nat} (hl : os.length ≤ n) (h : (((List.range n).filter (inMix hs os)).map fun j => decide (hs[j]? = os[j]?)).all id = true) : NoMix hs os := by
  intro j z hz hin
  have hj := (List.getElem?_eq_some_iff.mp hz).1
  rw [List.all_eq_true] at h
  have := h (decide (hs[j]? = os[j]?)) (List.mem_map.mpr ⟨j, List.mem_filter.mpr ⟨List.mem_range.mpr (by omega), by unfold inMix; rw [hz]; exact decide_eq_true hin⟩, rfl⟩)
  rw [of_decide_eq_true this]
  exact hz
theorem mixNd {hs fs cur : List Str} (h1 : hs.Nodup) (h2 : fs.Nodup) (h3 : ∀ z ∈ fs, z ∉ hs) (hl : cur.length = hs.length) (h : ∀ p : Nat, p < cur.length → cur[p]? = hs[p]? ∨ cur[p]? = fs[p]?) : cur.Nodup := by
  rw [List.nodup_iff_pairwise_ne, List.pairwise_iff_getElem]
  intro i j hi hj hij e
  have e1 : cur[i]? = some cur[i] := List.getElem?_eq_getElem hi
  have e2 : cur[j]? = some cur[i] := by rw [e]; exact List.getElem?_eq_getElem hj
  have a := h i hi
  have b := h j hj
  rw [e1] at a
  rw [e2] at b
  rcases a with a | a <;> rcases b with b | b
  · exact absurd (nd_ix h1 a.symm b.symm) (by omega)
  · exact h3 _ (List.mem_of_getElem? b.symm) (List.mem_of_getElem? a.symm)
  · exact h3 _ (List.mem_of_getElem? a.symm) (List.mem_of_getElem? b.symm)
  · exact absurd (nd_ix h2 a.symm b.symm) (by omega)
section
variable {P : Program} {w : World} {K : PySem.W.Frag} {mg : Str → Option Value} {base : Heap}
theorem ok_w_other (C : Ctx K mg) : Has P w K mg base CX0 4 "_law_other" ["pot", "rows", "some"] sp_w_other := by
  obtain ⟨fd, F⟩ := fn_w_other C
  obtain ⟨f_w_pick, fd_w_pick, G_w_pick, mg_w_pick, kp_w_pick, b_w_pick⟩ := (ok_w_pick (P := P) (w := w) (base := base) C).ex
  obtain ⟨f_w_mixed, fd_w_mixed, G_w_mixed, mg_w_mixed, kp_w_mixed, b_w_mixed⟩ := (ok_w_mixed (P := P) (w := w) (base := base) C).ex
  obtain ⟨f_w_homes, fd_w_homes, G_w_homes, mg_w_homes, kp_w_homes, b_w_homes⟩ := (ok_w_homes (P := P) (w := w) (base := base) C).ex
  refine ⟨⟨_, fd, ?_, gl_w_other C, F.kp, F.bindsN fun _ _ _ _ _ _ us hl => match us, hl with | [_, _, _], _ => rfl⟩⟩
  refine F.ok (CX := CX0) sc_w_other (fun vs H Q E h => ?_) (fun cdv A outer s H vs Q E hr h => ?_)
  · first | (obtain ⟨_, rfl, _⟩ := h; rfl) | (obtain ⟨_, _, rfl, _⟩ := h; rfl) | (obtain ⟨_, _, _, rfl, _⟩ := h; rfl) | (obtain ⟨_, _, _, _, rfl, _⟩ := h; rfl) | (obtain ⟨_, _, _, _, _, rfl, _⟩ := h; rfl) | (obtain ⟨_, _, _, _, _, _, rfl, _⟩ := h; rfl) | (obtain ⟨_, _, _, _, _, _, _, rfl, _⟩ := h; rfl) | (obtain ⟨_, _, _, _, _, _, _, _, rfl, _⟩ := h; rfl) | (obtain ⟨_, _, _, _, _, _, _, _, _, rfl, _⟩ := h; rfl) | (obtain ⟨_, _, _, _, _, _, _, _, _, _, rfl, _⟩ := h; rfl) | (obtain ⟨_, _, _, _, _, _, _, _, _, _, _, rfl, _⟩ := h; rfl) | (obtain ⟨_, _, _, _, _, _, _, _, _, _, _, _, rfl, _⟩ := h; rfl)
  have hu := hu_of hr
  refine ⟨_, PSs.nox (pss_cons (ps_set (i := 3) sc_w_other.nd rfl (Or.inl rfl) pe_dnewK)
    (pss_cons (ps_lock (ps_for PassesOwn.never rfl (pi_keys (pv 2)) (pg_name (i := 4) sc_w_other.nd rfl (Or.inl rfl))
    (pss_cons (ps_set (i := 5) sc_w_other.nd rfl (Or.inr rfl) (pe_callTy cr_listL (by rfl) (fr_list C) (by decide +kernel) (pa_cons (pe_dget hu (pv 2) (pv 4) (fun _ _ => rfl)) pa_nil)))
    (pss_cutM (ps_if (pt_cmpR op_eq (pe_call G_w_pick (hr.mono (by decide)) rfl mg_w_pick kp_w_pick b_w_pick .nil pass0 (pa_cons (pv 0) (pa_cons pe_int pa_nil))) pe_int (nomark _)) (pss_one (ps_set (i := 5) sc_w_other.nd rfl (Or.inr rfl) (pe_call G_w_mixed (hr.mono (by decide)) rfl mg_w_mixed kp_w_mixed b_w_mixed .nil pass0 (pa_cons (pv 0) (pa_cons (pv 5) pa_nil))))) pss_nil)
    (pss_cons (ps_setLc (i := 6) (own := [("one", 8)]) (g := (gName 8)) rfl sc_w_other.nd rfl rfl (sw_true rfl rfl rfl (by decide +kernel)) (pi_list (pe_call G_w_homes (hr.mono (by decide)) rfl mg_w_homes kp_w_homes b_w_homes .nil pass0 (pa_cons (pv 0) (pa_cons (pv 1) (pa_cons pe_int pa_nil))))) (blkOk_by (N := N_w_other) (sc := defScope s_w_other) (own := [("one", 8)]) (by decide +kernel)) (fun _ _ _ _ _ => (pg_name (i := 8) sc_w_other.nd rfl (Or.inl rfl))) (fun _ _ _ _ _ => (pts_one (pt_cmpR (kIn (K := K) op_notIn_seq) (pv 8) (pv 5) (by rfl)))) (fun _ _ _ _ _ => (pv 8)))
    (pss_cons (ps_for PassesOwn.never rfl (pi_range1 rfl (fr_range C) (pa_cons (pe_callB cr_lenL (by rfl) (fr_len C) PySem.boot_len (pa_cons (pv 5) pa_nil)) pa_nil)) (pg_name (i := 7) sc_w_other.nd rfl (Or.inl rfl))
    (pss_one (ps_if (pt_cut (PW.pt (pw_and (pt_cmpR op_eq (pe_call G_w_pick (hr.mono (by decide)) rfl mg_w_pick kp_w_pick b_w_pick .nil pass0 (pa_cons (pv 0) (pa_cons pe_int pa_nil))) pe_int (nomark _)) (pw_and1 (pt_cmpR op_lt (pv 7) (pe_callB cr_lenL (by rfl) (fr_len C) PySem.boot_len (pa_cons (pv 6) pa_nil)) (nomark _)))))) (pss_one (ps_asg (pe_ix ix_list (pv 6) (pv 7) (fun _ _ => rfl)) (pg_sub (pv 5) (pv 7) set_list))) pss_nil)))
    (pss_one (ps_dput hu (pv 3) (pv 4) (pv 5) rfl))))))))
    (pss_one (ps_ret (pv 3))))), ?_⟩
  obtain ⟨a, R, S, rows, xs, c, rfl, hR, okr, nr, lr, hS, tok, hp, hc, q⟩ := h
  obtain ⟨_, kvs, ⟨⟩, hS1, hSp⟩ := id hS
  obtain ⟨_, rvs, ⟨⟩, hR1, hRp⟩ := id hR
  have hS2 := hide_le _ _ hS1
  have Sa : S ≠ a := fun e => by rw [e, hide_in (by simp)] at hS1; cases hS1
  have hlx := tok.len
  have lk := P_len hSp
  walk_at "go"
  refine g_dnewK fun D H1 hD s1 e1 => ?_
  have aD : a ≠ D := hp.ne hD
  have SD : S ≠ D := ne_of_none hS2 hD
  walk_at "go"
  refine g_lock (s1.at0 hS2) fun od H2 s2 e2 => ?_
  walk_at "go"
  refine g_kKeys e2 (wFor_keys (fun i σ H' => ∃ (ys : Tb) (kd : List (Key × V)) (v4 v5 v6 v7 v8 : Option V), σ = [some (.ref a), some (.ref R), some (.ref S), some (.ref D), v4, v5, v6, v7, v8] ∧ OtherOk (xs.take i) ys ∧ H' D = some (.dK kd) ∧
      Paired (fun (p : Key × V) (x : Int × List Str) => p.1 = Sum.inl x.1 ∧ rL rS (hide [a, D, S] H') p.2 x.2) kd ys ∧ H' S = some (.frz od (.dK kvs)) ∧ PotAt H' a (c + 250 * i) ∧ Step [a, S] H H')
    ⟨[], [], _, _, _, _, _, rfl, ⟨rfl, fun i p q h => by simp at h⟩, s2.at1 e1 SD.symm, .nil, e2, (hp.step0 s1).step1 s2 Sa.symm, (s1.up.trans (s2.sub1 [a, S] (by simp)))⟩ ?_ ?_ ?_)
  · rintro i σ H5 _ ⟨ys, kd, v4, v5, v6, v7, v8, rfl, g1, g3, g4, g5, g6, g7⟩
    exact g5
  · rintro i p σ H5 hx ⟨ys, kd, v4, v5, v6, v7, v8, rfl, g1, g3, g4, g5, g6, g7⟩
    obtain ⟨⟨z, hs⟩, hz, hk, hv⟩ := P_get hSp hx
    have hk : p.1 = Sum.inl z := hk
    have hi : i < xs.length := (List.getElem?_eq_some_iff.mp hz).1
    have hm := List.mem_of_getElem? hz
    have ok := tok.nm _ hm
    obtain ⟨l, hval, hl⟩ := tb_val hSp tok.nd hm
    have hl2 := hide_le _ _ hl
    have la : l ≠ a := fun e => by rw [e, hide_in (by simp)] at hl; cases hl
    have lS : l ≠ S := fun e => by rw [e, hS2] at hl2; cases hl2
    have l10 : hs.length ≤ 10 := ok.2.2.2
    rw [hk]
    walk_at "go"
    refine g_kDGet (.inr ⟨od, g5⟩) hval ?_
    walk_at "go"
    refine g_listL (g7.at2 hl2 la lS) fun h0 H6 hh0 s6 e6 => ?_
    walk_at "go"
    refine g_cut (fun σ' H' => ∃ (hl : Addr) (cur : List Str), σ' = [some (.ref a), some (.ref R), some (.ref S), some (.ref D), some (.int z), some (.ref hl), v6, v7, v8] ∧ H5 hl = none ∧ H' hl = some (.lst (cur.map V.str)) ∧ cur.Perm hs ∧ Step [a] H5 H' ∧ PotAt H' a (c + 250 * i + 20)) ?_ ?_
    · walk_at "go"
      refine go_pick (g6.step0 s6) (by decide) (by decide) (by omega) fun r H7 r0 r1 s7 p7 => ?_
      have e7 := s7.at1 e6 (g6.ne hh0).symm
      walk_at "go"
      refine g_ite (fun _ => ?_) (fun _ => ?_)
      · walk_at "go"
        refine ⟨a, h0, _, _, rfl, e7, by rw [List.length_map]; omega, p7, by omega, fun M vs H8 hM hpm s8 e8 p8 => ?_⟩
        obtain ⟨cur, hc2, rfl⟩ := perm_strs hpm
        walk_at "go"
        refine ⟨M, cur, rfl, s6.fresh (s7.fresh hM), e8, hc2, (s6.up.trans s7).trans s8, p8.mono ?_⟩
        rw [List.length_map]
        have := ok.2.2.2
        simp only at this
        omega
      · walk_at "go"
        exact ⟨h0, hs, rfl, hh0, e7, List.Perm.refl _, s6.up.trans s7, p7.mono (by omega)⟩
    · rintro σ' H7 ⟨hl, cur, rfl, fr, e7, pm, s7, p7⟩
      have ahl : hl ≠ a := (g6.ne fr).symm
      have hlD : hl ≠ D := (ne_of_none g3 fr).symm
      have hlS : hl ≠ S := (ne_of_none g5 fr).symm
      have lcur := pm.length_eq
      have l10 : hs.length ≤ 10 := ok.2.2.2
      have ncur : cur.Nodup := pm.nodup_iff.mpr ok.1
      have keep7 : ∀ b o, hide [a] H b = some o → (∀ kv, o ≠ .dK kv) → hide [a] H7 b = some o := fun b o h hn => by
        have h1 := hide_le _ _ h
        have h2 : b ≠ a := fun e => by rw [e, hide_in (by simp)] at h; cases h
        have h3 : b ≠ S := fun e => by rw [e, hS2] at h1; exact hn _ (Option.some.inj h1).symm
        exact hide_at (s7.at1 (g7.at2 h1 h2 h3) h2) (by simp [h2])
      have rRow7 : rL rRow (hide [a] H7) (.ref R) rows := ⟨R, rvs, rfl, keep7 _ _ hR1 (fun _ e => nomatch e), Pmap hRp fun v x ⟨T, u1, u2, u3, e, hT, r⟩ => ⟨T, u1, u2, u3, e, keep7 _ _ hT (fun _ e => nomatch e), r⟩⟩
      walk_at "go"
      refine ⟨a, R, rows, _, _, rfl, rRow7, okr, nr, lr, by decide, by decide, p7, by omega, fun Hd hds H8 hHd lh nh bh s8 e8 p8 => ?_⟩
      walk_at "go"
      refine wLc_list (xs := hds.map V.str) fun Fr H9 hFr s9 e9 => ?_
      have e8h := s8.at1 e7 ahl
      refine ⟨fun j H' => H' Fr = some (.lst (((hds.take j).filter fun y => !decide (y ∈ cur)).map V.str)) ∧ Step [] H8 H', ⟨e9, s9⟩, fun j H' _ h => h.2.at0 e8, ?_, ?_⟩
      · rintro j x H10 hx ⟨k1, k2⟩
        rw [List.getElem?_map, Option.map_eq_some_iff] at hx
        obtain ⟨y, hy, rfl⟩ := hx
        have hj : j < hds.length := (List.getElem?_eq_some_iff.mp hy).1
        walk_at "go"
        refine g_notInS (k2.at0 e8h) ?_
        walk_at "go"
        have ef : (hds.take (j + 1)).filter (fun y => !decide (y ∈ cur)) = (hds.take j).filter (fun y => !decide (y ∈ cur)) ++ (if y ∈ cur then [] else [y]) := by
          rw [List.take_add_one, hy, List.filter_append]
          congr 1
          by_cases h : y ∈ cur <;> simp [h]
        refine g_kTst (g_iteN (fun hn => ?_) (fun hn => ?_))
        · walk_at "go"
          refine g_kEl k1 (ltLine ?_) fun H11 s11 e11 => ⟨?_, k2.via s11 hFr⟩
          · rw [List.length_map]
            have := List.length_filter_le (fun y => !decide (y ∈ cur)) (hds.take j)
            rw [List.length_take] at this
            omega
          · rw [e11, ef, if_neg hn, List.map_append]; rfl
        · exact ⟨by rw [k1, ef, if_pos hn, List.append_nil], k2⟩
      · rintro H10 ⟨k1, k2⟩
        rw [List.length_map, List.take_length] at k1
        have nfs : (hds.filter fun y => !decide (y ∈ cur)).Nodup := nh.filter _
        have ffs : ∀ y ∈ hds.filter (fun y => !decide (y ∈ cur)), y ∉ cur ∧ IsNm y := fun y hy => by
          rw [List.mem_filter] at hy
          exact ⟨by simpa using hy.2, bh y hy.1⟩
        have lfs : (hds.filter fun y => !decide (y ∈ cur)).length ≤ 5 := by
          have := List.length_filter_le (fun y => !decide (y ∈ cur)) hds
          omega
        generalize (hds.filter fun y => !decide (y ∈ cur)) = fs at k1 nfs ffs lfs
        have T10 : Step [a] H5 H10 := (s7.trans s8).trans k2.up
        have e10 := k2.at0 e8h
        have FrH : Fr ≠ hl := (ne_of_none e8h hFr).symm
        have Fra : Fr ≠ a := ((p8).ne hFr).symm
        walk_at "go"
        rw [List.length_map]
        refine g_kRng1 (by omega) (by omega) ?_
        rw [Int.toNat_natCast]
        refine wFor_rng (fun j σ H' => ∃ (cu : List Str) (v7 v8 : Option V), σ = [some (.ref a), some (.ref R), some (.ref S), some (.ref D), some (.int z), some (.ref hl), some (.ref Fr), v7, v8] ∧ H' hl = some (.lst (cu.map V.str)) ∧ cu.length = cur.length ∧
            (∀ p : Nat, p < cu.length → cu[p]? = cur[p]? ∨ cu[p]? = fs[p]?) ∧ H' Fr = some (.lst (fs.map V.str)) ∧ Step [a, hl] H5 H' ∧ PotAt H' a (c + 250 * i + 120 + j))
          ⟨cur, _, _, rfl, e10, rfl, fun p _ => .inl rfl, k1, T10.mono (by simp), (p8.step0 k2).mono (by omega)⟩ ?_ ?_
        · rintro j σ H11 hj ⟨cu, v7, v8, rfl, m1, m2, m3, m4, m5, m6⟩
          simp only [Int.zero_add]
          walk_at "go"
          refine g_tcut (fun b H' => (b = true → j < fs.length) ∧ Step [a] H11 H' ∧ PotAt H' a (c + 250 * i + 120 + (j + 1))) ?_ ?_
          · walk_at "go"
            refine go_pick m6 (by decide) (by decide) (by omega) fun r H12 r0 r1 s12 p12 => ?_
            have f12 := s12.at1 m4 Fra
            walk_at "go"
            refine g_ite (fun _ => ?_) (fun _ => ⟨fun z => (nomatch z), s12, p12⟩)
            walk_at "go"
            rw [List.length_map]
            exact ⟨fun z => by have := of_decide_eq_true z; omega, s12, p12⟩
          · rintro b H12 ⟨hb, s12, p12⟩
            have h12 := s12.at1 m1 ahl
            have f12 := s12.at1 m4 Fra
            cases b with
            | false =>
              refine iteF ?_
              walk_at "go"
              exact ⟨cu, _, _, rfl, h12, m2, m3, f12, m5.trans (s12.mono (by simp)), p12⟩
            | true =>
              have hjf := hb rfl
              have hf := List.getElem?_eq_getElem hjf
              generalize fs[j] = y at hf
              refine iteT ?_
              walk_at "go"
              refine g_ixL f12 (v := .str y) (at_nat (by rw [List.getElem?_map, hf]; rfl)) ?_
              walk_at "go"
              refine g_setL h12 (ixN_in (by omega) (by rw [List.length_map]; omega)) fun H13 s13 e13 => ?_
              rw [Int.toNat_natCast, ← List.map_set] at e13
              refine ⟨cu.set j y, _, _, rfl, e13, by rw [List.length_set, m2], fun p hp => ?_, s13.at1 f12 FrH, (m5.trans (s12.mono (by simp))).trans (s13.sub1 _ (by simp)), p12.step1 s13 ahl.symm⟩
              rw [List.length_set] at hp
              by_cases hpj : j = p
              · subst hpj
                rw [List.getElem?_set_self hp, hf]
                exact .inr rfl
              · rw [List.getElem?_set_ne hpj]
                exact m3 p hp
        · rintro σ H11 ⟨cu, v7, v8, rfl, m1, m2, m3, m4, m5, m6⟩
          have ncu : cu.Nodup := mixNd ncur nfs (fun y hy => (ffs y hy).1) m2 m3
          have icu : ∀ y ∈ cu, IsNm y := fun y hy => by
            obtain ⟨p, hp, ep⟩ := List.mem_iff_getElem.mp hy
            rcases m3 p hp with e | e
            · rw [List.getElem?_eq_getElem hp, ep] at e
              exact ok.2.1 y (pm.mem_iff.mp (List.mem_of_getElem? e.symm))
            · rw [List.getElem?_eq_getElem hp, ep] at e
              exact (ffs y (List.mem_of_getElem? e.symm)).2
          have d11 := m5.at2 g3 aD.symm hlD.symm
          have S11 := m5.at2 g5 Sa hlS.symm
          have lkd : kd.length = i := by
            rw [P_len g4]
            have := congrArg List.length g1.1
            rw [List.length_map, List.length_map, List.length_take] at this
            omega
          have hv0 : valV kd (Sum.inl z) = none := find_new g4 fun hm => by
            rw [← g1.1, List.map_take] at hm
            obtain ⟨j, hj, ej⟩ := List.mem_iff_getElem.mp hm
            rw [List.length_take, List.length_map] at hj
            rw [List.getElem_take] at ej
            have e1 : (xs.map (·.1))[j]? = some z := by rw [List.getElem?_eq_getElem (by rw [List.length_map]; omega), ej]
            have e2 : (xs.map (·.1))[i]? = some z := by rw [List.getElem?_map, hz]; rfl
            have := nd_ix tok.nd e1 e2
            omega
          walk_at "go"
          refine g_kDPut d11 (ltLine (by omega)) fun H12 s12 e12 => ?_
          rw [putK_new _ hv0] at e12
          have lys : ys.length = i := by rw [← P_len g4, lkd]
          refine ⟨ys ++ [(z, cu)], _, _, _, _, _, _, rfl, ⟨?_, fun j p q hp hq => ?_⟩, e12, P_snoc ⟨rfl, rLS_of (hide_at (s12.at1 m1 hlD) (by simp [ahl, hlD, hlS]))⟩ (Pmap g4 fun p x r => ⟨r.1, mL mS _ _ _ _ (fun b o h => ?_) r.2⟩), s12.at1 S11 SD, (m6.step1 s12 aD).mono (by omega), ?_⟩
          · rw [List.map_append, ← g1.1, List.take_add_one, hz, List.map_append]; rfl
          · rcases Nat.lt_or_ge j i with hji | hji
            · rw [List.getElem?_append_left (by omega)] at hq
              rw [List.getElem?_take_of_lt (by omega)] at hp
              exact g1.2 j p q (by rw [List.getElem?_take_of_lt hji]; exact hp) hq
            · have : j = i := by
                have := (List.getElem?_eq_some_iff.mp hq).1
                rw [List.length_append, lys, List.length_singleton] at this
                omega
              subst this
              rw [List.getElem?_append_right (by omega), lys, Nat.sub_self] at hq
              rw [List.getElem?_take_of_lt (by omega), hz] at hp
              cases hp
              cases hq
              exact ⟨by show hs.length = cu.length; omega, ncu, icu⟩
          · have h1 := hide_le _ _ h
            have h2 : b ∉ [a, D, S] := fun z => by rw [hide_in z] at h; cases h
            simp only [List.mem_cons, List.not_mem_nil, or_false, not_or] at h2
            have h3 : b ≠ hl := ne_of_none h1 fr
            exact hide_at (s12.at1 (m5.at2 h1 h2.1 h3) h2.2.1) (by simp [h2.1, h2.2.1, h2.2.2])
          · have Sx : Step [a, S] H H11 := ⟨fun b o n e => m5.keep b o (fun hb => by
              simp only [List.mem_cons, List.not_mem_nil, or_false] at hb n
              rcases hb with hb | hb
              · exact n (.inl hb)
              · exact absurd (g7.keep b o (by simpa using n) e) (by rw [hb, fr]; simp)) (g7.keep b o n e), fun b e => g7.live b (m5.live b e)⟩
            exact Sx.via s12 hD
  · rintro σ H5 ⟨ys, kd, v4, v5, v6, v7, v8, rfl, g1, g3, g4, g5, g6, g7⟩
    rw [lk, List.take_length] at g1
    refine g_lk g5 fun H6 s6 e6 => ?_
    walk_at "go"
    have S6 : Step [S, a] H H6 := (g7.mono (by simp)).trans (s6.sub1 [S, a] (by simp))
    refine q D ys H6 hD g1 (S6.back fun o e => by rw [hS2] at e; cases e; exact e6) ⟨D, kd, rfl, hide_at (s6.at1 g3 SD.symm) (by simp [aD.symm]), Pmap g4 fun p x r => ⟨r.1, mL mS _ _ _ _ (fun b o h => ?_) r.2⟩⟩ ((g6.step1 s6 Sa.symm).mono (by omega))
    have h1 := hide_le _ _ h
    have h2 : b ∉ [a, D, S] := fun z => by rw [hide_in z] at h; cases h
    simp only [List.mem_cons, List.not_mem_nil, or_false, not_or] at h2
    exact hide_at (s6.at1 h1 h2.2.2) (by simp [h2.1])
theorem ok_w_no_mix (C : Ctx K mg) : Has P w K mg base CX0 1 "_law_no_mix" ["some", "other"] sp_w_no_mix := by
  obtain ⟨fd, F⟩ := fn_w_no_mix C
  refine ⟨⟨_, fd, ?_, gl_w_no_mix C, F.kp, F.bindsN fun _ _ _ _ _ _ us hl => match us, hl with | [_, _], _ => rfl⟩⟩
  refine F.ok (CX := CX0) sc_w_no_mix (fun vs H Q E h => ?_) (fun cdv A outer s H vs Q E hr h => ?_)
  · first | (obtain ⟨_, rfl, _⟩ := h; rfl) | (obtain ⟨_, _, rfl, _⟩ := h; rfl) | (obtain ⟨_, _, _, rfl, _⟩ := h; rfl) | (obtain ⟨_, _, _, _, rfl, _⟩ := h; rfl) | (obtain ⟨_, _, _, _, _, rfl, _⟩ := h; rfl) | (obtain ⟨_, _, _, _, _, _, rfl, _⟩ := h; rfl) | (obtain ⟨_, _, _, _, _, _, _, rfl, _⟩ := h; rfl) | (obtain ⟨_, _, _, _, _, _, _, _, rfl, _⟩ := h; rfl) | (obtain ⟨_, _, _, _, _, _, _, _, _, rfl, _⟩ := h; rfl) | (obtain ⟨_, _, _, _, _, _, _, _, _, _, rfl, _⟩ := h; rfl) | (obtain ⟨_, _, _, _, _, _, _, _, _, _, _, rfl, _⟩ := h; rfl) | (obtain ⟨_, _, _, _, _, _, _, _, _, _, _, _, rfl, _⟩ := h; rfl)
  have hu := hu_of hr
  refine ⟨_, PSs.nox (pss_cons (ps_set (i := 2) sc_w_no_mix.nd rfl (Or.inl rfl) (pe_lst (pa_cons pe_dnewK (pa_cons pe_dnewK pa_nil))))
    (pss_cons (ps_lock (ps_for PassesOwn.never rfl (pi_keys (pv 0)) (pg_name (i := 3) sc_w_no_mix.nd rfl (Or.inr rfl))
    (pss_cons (ps_setLc (i := 4) (own := [("k", 5)]) (g := (gName 5)) rfl sc_w_no_mix.nd rfl rfl (sw_true rfl rfl rfl (by decide +kernel)) (pi_range1 rfl (fr_range C) (pa_cons (pe_callB cr_lenL (by rfl) (fr_len C) PySem.boot_len (pa_cons (pe_dget hu (pv 0) (pv 3) (fun _ _ => rfl)) pa_nil)) pa_nil)) (blkOk_by (N := N_w_no_mix) (sc := defScope s_w_no_mix) (own := [("k", 5)]) (by decide +kernel)) (fun _ _ _ _ _ => (pg_name (i := 5) sc_w_no_mix.nd rfl (Or.inl rfl))) (fun _ _ _ _ _ => (pts_one (pt_cmpR (kIn (K := K) op_in_seq) (pe_ix (kIx (K := K) (r := rIxL) ix_list) (pe_dget hu (pv 1) (pv 3) (fun _ _ => rfl)) (pv 5) (fun _ _ => rfl)) (pe_dget hu (pv 0) (pv 3) (fun _ _ => rfl)) (by rfl)))) (fun _ _ _ _ _ => (pv 5)))
    (pss_one (ps_if (pt_val (pe_callB (cr_all rfl) (by rfl) (fr_all C) (by decide +kernel) (pa_cons (pe_lc (own := [("k", 5)]) (g := (gName 5)) (tt := tYes) rfl sc_w_no_mix.nd (pi_list (pv 4)) (blkOk_by (N := N_w_no_mix) (sc := defScope s_w_no_mix) (own := [("k", 5)]) (by decide +kernel)) (fun _ _ _ _ _ => (pg_name (i := 5) sc_w_no_mix.nd rfl (Or.inl rfl))) (fun _ _ _ _ _ => pts_nil) (fun _ _ _ _ _ => (pe_cmpR op_eq (pe_ix (kIx (K := K) (r := rIxL) ix_list) (pe_dget hu (pv 0) (pv 3) (fun _ _ => rfl)) (pv 5) (fun _ _ => rfl)) (pe_ix (kIx (K := K) (r := rIxL) ix_list) (pe_dget hu (pv 1) (pv 3) (fun _ _ => rfl)) (pv 5) (fun _ _ => rfl)) (nomark _)))) pa_nil))) (pss_cons (ps_dput hu (pe_ix ix_list (pv 2) pe_int (fun _ _ => rfl)) (pv 3) (pe_dget hu (pv 0) (pv 3) (fun _ _ => rfl)) rfl)
    (pss_one (ps_dput hu (pe_ix ix_list (pv 2) pe_int (fun _ _ => rfl)) (pv 3) (pe_dget hu (pv 1) (pv 3) (fun _ _ => rfl)) rfl))) pss_nil)))))
    (pss_one (ps_ret (pv 2))))), ?_⟩
  obtain ⟨A, B, xs, ys, rfl, AB, hA, hB, tok, oth, q⟩ := h
  obtain ⟨_, ka, ⟨⟩, hA1, hAp⟩ := id hA
  obtain ⟨_, kb, ⟨⟩, hB1, hBp⟩ := id hB
  have hlx := tok.len
  have lka := P_len hAp
  have ndy : (ys.map (·.1)).Nodup := by rw [← oth.1]; exact tok.nd
  have lxy : xs.length = ys.length := by rw [← List.length_map (f := fun p : Int × List Str => p.1), oth.1, List.length_map]
  walk_at "go"
  refine g_dnewK fun D1 H1 hD1 s1 e1 => ?_
  walk_at "go"
  refine g_dnewK fun D2 H2 hD2 s2 e2 => ?_
  walk_at "go"
  intro L H3 hL s3 e3
  have S3 := (s1.trans s2).trans s3
  have AD1 : A ≠ D1 := ne_of_none hA1 hD1
  have AD2 : A ≠ D2 := ne_of_none (s1.at0 hA1) hD2
  have AL : A ≠ L := ne_of_none (s2.at0 (s1.at0 hA1)) hL
  have D12 : D1 ≠ D2 := ne_of_none e1 hD2
  have L1 : L ≠ D1 := (ne_of_none (s2.at0 e1) hL).symm
  have L2' : L ≠ D2 := (ne_of_none e2 hL).symm
  have h1D2 : H D2 = none := s1.fresh hD2
  have hL0 : H L = none := (s1.trans s2).fresh hL
  walk_at "go"
  refine g_lock (S3.at0 hA1) fun od H4 s4 e4 => ?_
  walk_at "go"
  refine g_kKeys e4 (wFor_keys (fun i σ H' => ∃ (ps : PT) (k1 k2 : List (Key × V)) (v3 v4 v5 : Option V), σ = [some (.ref A), some (.ref B), some (.ref L), v3, v4, v5] ∧ (∀ k ∈ ps.map (·.1), k ∈ (xs.take i).map (·.1)) ∧ (ps.map (·.1)).Nodup ∧ ps.length ≤ i ∧
      (∀ p ∈ ps, (p.1, p.2.1) ∈ xs ∧ (p.1, p.2.2) ∈ ys ∧ NoMix p.2.1 p.2.2) ∧ H' D1 = some (.dK k1) ∧ H' D2 = some (.dK k2) ∧
      Paired (fun (p : Key × V) (x : Int × List Str) => p.1 = Sum.inl x.1 ∧ rL rS (hide [A] H) p.2 x.2) k1 (fstT ps) ∧ Paired (fun (p : Key × V) (x : Int × List Str) => p.1 = Sum.inl x.1 ∧ rL rS (hide [A] H) p.2 x.2) k2 (sndT ps) ∧
      H' L = some (.lst [.ref D1, .ref D2]) ∧ H' A = some (.frz od (.dK ka)) ∧ Step [A] H H')
    ⟨[], [], [], _, _, _, rfl, by simp, List.nodup_nil, Nat.le_refl _, by simp, s4.at1 (s3.at0 (s2.at0 e1)) AD1.symm, s4.at1 (s3.at0 e2) AD2.symm, .nil, .nil, s4.at1 e3 AL.symm, e4, S3.up.trans s4⟩ ?_ ?_ ?_)
  · rintro i σ H5 _ ⟨ps, k1, k2, v3, v4, v5, rfl, g1, g2, g3, g4, g5, g6, g7, g8, g9, g10, g11⟩
    exact g10
  · rintro i p σ H5 hx ⟨ps, k1, k2, v3, v4, v5, rfl, g1, g2, g3, g4, g5, g6, g7, g8, g9, g10, g11⟩
    obtain ⟨⟨z, hs⟩, hz, hk, hv⟩ := P_get hAp hx
    have hk : p.1 = Sum.inl z := hk
    have hi : i < xs.length := (List.getElem?_eq_some_iff.mp hz).1
    obtain ⟨os, hos⟩ : ∃ os, ys[i]? = some (z, os) := by
      have : (xs.map (·.1))[i]? = some z := by rw [List.getElem?_map, hz]; rfl
      rw [oth.1, List.getElem?_map, Option.map_eq_some_iff] at this
      obtain ⟨⟨z', os⟩, h1, h2⟩ := this
      have h2 : z' = z := h2
      subst h2
      exact ⟨os, h1⟩
    have hmx := List.mem_of_getElem? hz
    have hmy := List.mem_of_getElem? hos
    obtain ⟨ol, ond, onm⟩ := oth.2 i _ _ hz hos
    have ol : hs.length = os.length := ol
    have l10 : hs.length ≤ 10 := (tok.nm _ hmx).2.2.2
    obtain ⟨la, va, ha⟩ := tb_val hAp tok.nd hmx
    obtain ⟨lb, vb, hb⟩ := tb_val hBp ndy hmy
    have laA : la ≠ A := fun e => by rw [e, hA1] at ha; cases ha
    have lbA : lb ≠ A := fun e => by rw [e, hA1] at hb; cases hb
    rw [hk]
    walk_at "go"
    refine g_kDGet (.inr ⟨od, g10⟩) va ?_
    have ha5 := g11.at1 ha laA
    have hb5 := g11.at1 hb lbA
    have B5 := g11.at1 hB1 AB.symm
    walk_at "go"
    rw [List.length_map]
    refine g_kRng1 (by omega) (by omega) ?_
    rw [Int.toNat_natCast]
    refine wLc_rng fun Pr H6 hPr s6 e6 => ?_
    refine ⟨fun j H' => H' Pr = some (.lst (((List.range j).filter (inMix hs os)).map fun q : Nat => V.int q)) ∧ Step [] H5 H', ⟨e6, s6⟩, ?_, ?_⟩
    · rintro j H7 hj ⟨m1, m2⟩
      simp only [Int.zero_add]
      have hjo := List.getElem?_eq_getElem (by omega : j < os.length)
      generalize os[j]'(by omega) = y at hjo
      walk_at "go"
      refine g_kDGet (.inl (m2.at0 B5)) vb ?_
      walk_at "go"
      refine g_ixL (m2.at0 hb5) (v := .str y) (at_nat (by rw [List.getElem?_map, hjo]; rfl)) ?_
      walk_at "go"
      refine g_kDGet (.inr ⟨od, m2.at0 g10⟩) va ?_
      refine g_inS (m2.at0 ha5) ?_
      walk_at "go"
      have em : inMix hs os j = decide (y ∈ hs) := by unfold inMix; rw [hjo]
      have el : ((List.range j).filter (inMix hs os)).length ≤ j := by
        have := List.length_filter_le (inMix hs os) (List.range j)
        rwa [List.length_range] at this
      refine g_kTst (g_ite (fun hin => ?_) (fun hin => ?_))
      · walk_at "go"
        refine g_kEl m1 (ltLine (by rw [List.length_map]; omega)) fun H8 s8 e8 => ⟨?_, m2.via s8 hPr⟩
        rw [e8, List.range_succ, List.filter_append, List.map_append]
        congr 3
        rw [List.filter_cons, em, decide_eq_true hin, if_pos rfl]
        rfl
      · refine ⟨?_, m2⟩
        rw [m1, List.range_succ, List.filter_append]
        congr 3
        rw [List.filter_cons, em, decide_eq_false hin, if_neg (by simp)]
        simp
    · rintro H7 ⟨m1, m2⟩
      have hPrH : H Pr = none := g11.fresh hPr
      generalize hpr : (List.range hs.length).filter (inMix hs os) = pr at m1
      have lpr : pr.length ≤ 10 := by
        rw [← hpr]
        have := List.length_filter_le (inMix hs os) (List.range hs.length)
        rw [List.length_range] at this
        omega
      have ipr : ∀ q ∈ pr, q < hs.length := fun q hq => by
        rw [← hpr, List.mem_filter, List.mem_range] at hq
        exact hq.1
      walk_at "go"
      refine wLc_list (xs := pr.map fun q : Nat => V.int q) fun Bs H8 hBs s8 e8 => ?_
      refine ⟨fun j H' => H' Bs = some (.lst (((pr.take j).map fun q => decide (hs[q]? = os[q]?)).map V.bl)) ∧ Step [] H7 H', ⟨e8, s8⟩, fun j H' _ h => h.2.at0 m1, ?_, ?_⟩
      · rintro j x H9 hx ⟨n1, n2⟩
        rw [List.getElem?_map, Option.map_eq_some_iff] at hx
        obtain ⟨q', hq, rfl⟩ := hx
        have hql := ipr q' (List.mem_of_getElem? hq)
        have hqh := List.getElem?_eq_getElem hql
        have hqo := List.getElem?_eq_getElem (by omega : q' < os.length)
        generalize hs[q'] = y1 at hqh
        generalize os[q']'(by omega) = y2 at hqo
        have n3 := m2.trans n2
        walk_at "go"
        refine g_kDGet (.inr ⟨od, n3.at0 g10⟩) va ?_
        walk_at "go"
        refine g_ixL (n3.at0 ha5) (v := .str y1) (at_nat (by rw [List.getElem?_map, hqh]; rfl)) ?_
        walk_at "go"
        refine g_kDGet (.inl (n3.at0 B5)) vb ?_
        walk_at "go"
        refine g_ixL (n3.at0 hb5) (v := .str y2) (at_nat (by rw [List.getElem?_map, hqo]; rfl)) ?_
        walk_at "go"
        refine g_kEl n1 (ltLine (by rw [List.length_map, List.length_map, List.length_take]; omega)) fun H10 s10 e10 => ⟨?_, n2.via s10 hBs⟩
        rw [e10, List.take_add_one, hq, List.map_append, List.map_append]
        congr 3
        show [V.bl (decide (y1 = y2))] = [V.bl (decide (hs[q']? = os[q']?))]
        rw [hqh, hqo]
        congr 2
        exact decide_eq_decide.mpr ⟨fun e => by rw [e], fun e => Option.some.inj e⟩
      · rintro H9 ⟨n1, n2⟩
        rw [List.length_map, List.take_length] at n1
        have n3 := m2.trans n2
        have T9 : Step [A] H H9 := g11.trans n3.up
        walk_at "go"
        refine g_all n1 ?_
        walk_at "go"
        refine g_iteB (fun hall => ?_) (fun _ => ?_)
        · have nomix : NoMix hs os := noMix_of (n := hs.length) (by omega) (by rw [hpr]; exact hall)
          have hnew : z ∉ ps.map (·.1) := fun hm => by
            have hm := g1 z hm
            rw [List.map_take] at hm
            obtain ⟨j, hj, ej⟩ := List.mem_iff_getElem.mp hm
            rw [List.length_take, List.length_map] at hj
            rw [List.getElem_take] at ej
            have e1 : (xs.map (·.1))[j]? = some z := by rw [List.getElem?_eq_getElem (by rw [List.length_map]; omega), ej]
            have e2 : (xs.map (·.1))[i]? = some z := by rw [List.getElem?_map, hz]; rfl
            have := nd_ix tok.nd e1 e2
            omega
          have kf : (fstT ps).map (·.1) = ps.map (·.1) := by unfold fstT; rw [List.map_map]; rfl
          have ks : (sndT ps).map (·.1) = ps.map (·.1) := by unfold sndT; rw [List.map_map]; rfl
          have w1 : valV k1 (Sum.inl z) = none := find_new g7 (by rw [kf]; exact hnew)
          have w2 : valV k2 (Sum.inl z) = none := find_new g8 (by rw [ks]; exact hnew)
          have lk1 : k1.length ≤ 12 := by rw [P_len g7]; unfold fstT; rw [List.length_map]; omega
          have lk2 : k2.length ≤ 12 := by rw [P_len g8]; unfold sndT; rw [List.length_map]; omega
          have L9 := n3.at0 g9
          walk_at "go"
          refine g_kDGet (.inr ⟨od, n3.at0 g10⟩) va ?_
          walk_at "go"
          refine g_kDPut (n3.at0 g5) (ltLine (by omega)) fun H10 s10 e10 => ?_
          rw [putK_new _ w1] at e10
          have L10 := s10.at1 L9 L1
          walk_at "go"
          refine g_kDGet (.inl (s10.at1 (n3.at0 B5) (ne_of_none hB1 hD1))) vb ?_
          walk_at "go"
          refine g_kDPut (s10.at1 (n3.at0 g6) D12.symm) (ltLine (by omega)) fun H11 s11 e11 => ?_
          rw [putK_new _ w2] at e11
          refine ⟨ps ++ [(z, hs, os)], _, _, _, _, _, rfl, fun k hk => ?_, ?_, by rw [List.length_append, List.length_singleton]; omega, fun p hp => ?_, s11.at1 e10 D12, e11, ?_, ?_, s11.at1 L10 L2', s11.at1 (s10.at1 (n3.at0 g10) AD1) AD2, (T9.via s10 hD1).via s11 h1D2⟩
          · rw [List.map_append] at hk
            rw [List.take_add_one, hz, List.map_append]
            rcases List.mem_append.mp hk with hk | hk
            · exact List.mem_append_left _ (g1 k hk)
            · exact List.mem_append_right _ (by simpa using hk)
          · rw [List.map_append]
            exact nd_snoc g2 hnew
          · rcases List.mem_append.mp hp with hp | hp
            · exact g4 p hp
            · rw [List.mem_singleton.mp hp]
              exact ⟨hmx, hmy, nomix⟩
          · unfold fstT
            rw [List.map_append]
            exact P_snoc ⟨rfl, rLS_of (hide_at ha (by simpa using laA))⟩ g7
          · unfold sndT
            rw [List.map_append]
            exact P_snoc ⟨rfl, rLS_of (hide_at hb (by simpa using lbA))⟩ g8
        · walk_at "go"
          exact ⟨ps, k1, k2, _, _, _, rfl, fun k hk => by
            rw [List.take_add_one, hz, List.map_append]
            exact List.mem_append_left _ (g1 k hk), g2, by omega, g4, n3.at0 g5, n3.at0 g6, g7, g8, n3.at0 g9, n3.at0 g10, T9⟩
  · rintro σ H5 ⟨ps, k1, k2, v3, v4, v5, rfl, g1, g2, g3, g4, g5, g6, g7, g8, g9, g10, g11⟩
    refine g_lk g10 fun H6 s6 e6 => ?_
    walk_at "go"
    have S6 : Step [] H H6 := (g11.trans s6).back fun o e => by rw [hA1] at e; cases e; exact e6
    have hle : Le (hide [A] H) H6 := fun b o h => S6.at0 (hide_le _ _ h)
    exact q L D1 D2 ps H6 hL0 hD1 h1D2 S6 (s6.at1 g9 AL.symm) ⟨D1, k1, rfl, s6.at1 g5 AD1.symm, Pmap g7 fun p x r => ⟨r.1, mL mS _ _ _ _ hle r.2⟩⟩ ⟨D2, k2, rfl, s6.at1 g6 AD2.symm, Pmap g8 fun p x r => ⟨r.1, mL mS _ _ _ _ hle r.2⟩⟩ g2 (by omega) g4
end

end My
namespace My
open PySem PySem.Spec PyProof.Rows L2
/-! data alike, by the law's own eye -/
inductive PlD : Nat → PyData → Prop
  | non {d : Nat} : PlD (d + 1) .none
  | int {d : Nat} (i : Int) : PlD (d + 1) (.int i)
  | str {d : Nat} (z : Str) : PlD (d + 1) (.str z)
  | lst {d : Nat} {ds : List PyData} : (∀ x ∈ ds, PlD d x) → ds.length ≤ 1000 → PlD (d + 1) (.list ds)
  | tup {d : Nat} {ds : List PyData} : (∀ x ∈ ds, PlD d x) → ds.length ≤ 1000 → PlD (d + 1) (.tuple ds)
def sp_w_alike (K : PySem.W.Frag) (d : Nat) : Sp := fun vs H Q _ => ∃ (x y : V) (dt : PyData), vs = [x, y] ∧ Dp K H x dt ∧ Dp K H y dt ∧ PlD d dt ∧ ∀ H', Step [] H H' → Q (.bl true) H'
theorem sq_step0 {K : PySem.W.Frag} {H H' : Hp} {a : Addr} {xs : List V} (h : SqL K H a xs) (s : Step [] H H') : SqL K H' a xs := by
  rcases h with (h | ⟨o, h⟩) | h
  · exact .inl (.inl (s.at0 h))
  · exact .inl (.inr ⟨o, s.at0 h⟩)
  · exact .inr h
theorem sqT_step0 {K : PySem.W.Frag} {H H' : Hp} {a : Addr} {xs : List V} (h : SqT K H a xs) (s : Step [] H H') : SqT K H' a xs := by
  rcases h with (h | ⟨o, h⟩) | h
  · exact .inl (.inl (s.at0 h))
  · exact .inl (.inr ⟨o, s.at0 h⟩)
  · exact .inr h
theorem tyL {K : PySem.W.Frag} {H : Hp} {a : Addr} {xs : List V} (h : SqL K H a xs) : TyX K H (.ref a) (.type "list") := by
  rcases h with (h | ⟨o, h⟩) | ⟨o, its, n, h1, h2, _⟩
  · exact .base (.lst h)
  · exact .base (.frz h)
  · exact .kList h1 h2
theorem tyT {K : PySem.W.Frag} {H : Hp} {a : Addr} {xs : List V} (h : SqT K H a xs) : TyX K H (.ref a) (.type "tuple") := by
  rcases h with (h | ⟨o, h⟩) | ⟨o, its, n, h1, h2, _⟩
  · exact .base (.tup h)
  · exact .fTuple h
  · exact .kTuple h1 h2
mutual
theorem dp_step {K : PySem.W.Frag} {H H' : Hp} (s : Step [] H H') : ∀ {v : V} {d : PyData}, Dp K H v d → Dp K H' v d
  | _, _, .non => .non
  | _, _, .bl b => .bl b
  | _, _, .int i => .int i
  | _, _, .str z => .str z
  | _, _, .lst h t => .lst (sq_step0 h s) (dpAll_step s t)
  | _, _, .tup h t => .tup (sqT_step0 h s) (dpAll_step s t)
theorem dpAll_step {K : PySem.W.Frag} {H H' : Hp} (s : Step [] H H') : ∀ {vs : List V} {ds : List PyData}, DpAll K H vs ds → DpAll K H' vs ds
  | _, _, .nil => .nil
  | _, _, .cons h t => .cons (dp_step s h) (dpAll_step s t)
end
theorem dpAll_at {K : PySem.W.Frag} {H : Hp} : ∀ {vs : List V} {ds : List PyData} {i : Nat} {d : PyData}, DpAll K H vs ds → ds[i]? = some d → ∃ v, vs[i]? = some v ∧ Dp K H v d
  | _, _, _, _, .nil, h => by simp at h
  | _, _, 0, _, .cons h _, e => by
    rw [List.getElem?_cons_zero] at e
    cases e
    exact ⟨_, rfl, h⟩
  | _, _, i + 1, d, .cons _ t, e => by
    rw [List.getElem?_cons_succ] at e
    obtain ⟨v, h1, h2⟩ := dpAll_at t e
    exact ⟨v, by rw [List.getElem?_cons_succ]; exact h1, h2⟩
theorem dpAll_len {K : PySem.W.Frag} {H : Hp} : ∀ {vs : List V} {ds : List PyData}, DpAll K H vs ds → vs.length = ds.length
  | _, _, .nil => rfl
  | _, _, .cons _ t => by rw [List.length_cons, List.length_cons, dpAll_len t]
theorem g_lenTK {K : PySem.W.Frag} {H : Hp} {Q : VK} {p : Addr} {xs : List V} (h : SqT K H p xs) (q : Q (.int (xs.length : Nat)) H) : rLenL K [.ref p] H Q := ⟨p, xs, rfl, .inr h, q⟩
theorem ix_L {K : PySem.W.Frag} {H : Hp} {Q : VK} {p : Addr} {xs : List V} {i : Nat} {v : V} (h : SqL K H p xs) (e : xs[i]? = some v) (q : Q v H) : rIx K (.ref p) (.int (i : Nat)) H Q := .inl ⟨p, xs, _, v, rfl, rfl, h, at_nat e, q⟩
theorem ix_T {K : PySem.W.Frag} {H : Hp} {Q : VK} {p : Addr} {xs : List V} {i : Nat} {v : V} (h : SqT K H p xs) (e : xs[i]? = some v) (q : Q v H) : rIx K (.ref p) (.int (i : Nat)) H Q := .inr (.inl ⟨p, xs, _, v, rfl, rfl, h, at_nat e, q⟩)
theorem all_true (n : Nat) : (List.replicate n true).all id = true := by
  rw [List.all_eq_true]
  intro b hb
  rw [List.eq_of_mem_replicate hb]; rfl
section
variable {P : Program} {w : World} {K : PySem.W.Frag} {mg : Str → Option Value} {base : Heap}
theorem okr_w_alike (C : Ctx K mg) (d : Nat) : Has P w K mg base CX0 (d + 1) "_law_alike" ["found", "due"] (sp_w_alike K d) := by
  obtain ⟨fd_w_alike, F⟩ := fn_w_alike C
  have mg_w_alike := gl_w_alike C
  have kp_w_alike := F.kp
  have b_w_alike : Binds K fd_w_alike ["found", "due"] [] := F.bindsN fun _ _ _ _ _ _ us hl => match us, hl with | [_, _], _ => rfl
  refine ⟨⟨_, fd_w_alike, ?_, mg_w_alike, kp_w_alike, b_w_alike⟩⟩
  induction d with
  | zero => exact ⟨fun vs H Q E ⟨_, _, _, _, _, _, h, _⟩ => (nomatch h), fun A outer s H args us vs Q E _ _ _ _ ⟨_, _, _, _, _, _, h, _⟩ => nomatch h⟩
  | succ d G_w_alike =>
    refine F.ok (CX := CX0) sc_w_alike (fun vs H Q E h => ?_) (fun cdv A outer s H vs Q E hr h => ?_)
    · obtain ⟨_, _, _, rfl, _⟩ := h; rfl
    have hu := hu_of hr
    refine ⟨_, PSs.nox (pss_cons (ps_if (pt_val (pe_callB call_isiT (by rfl) (fr_isinstance C) (by decide +kernel) (pa_cons (pv 1) (pa_cons (pe_tup (pa_cons (pe_bltn (v := .ty "list") (by rfl) (fr_list C) (by decide +kernel) rfl) (pa_cons (pe_bltn (v := .ty "tuple") (by rfl) (fr_tuple C) (by decide +kernel) rfl) pa_nil))) pa_nil)))) (pss_cons (ps_if (pt_cut (PW.pt (pw_or (pt_not (pt_val (pe_callB call_isiT (by rfl) (fr_isinstance C) (by decide +kernel) (pa_cons (pv 0) (pa_cons (pe_tup (pa_cons (pe_bltn (v := .ty "list") (by rfl) (fr_list C) (by decide +kernel) rfl) (pa_cons (pe_bltn (v := .ty "tuple") (by rfl) (fr_tuple C) (by decide +kernel) rfl) pa_nil))) pa_nil))))) (pw_or1 (pt_cmpR op_ne (pe_callB call_isi (by rfl) (fr_isinstance C) (by decide +kernel) (pa_cons (pv 0) (pa_cons (pe_bltn (v := .ty "list") (by rfl) (fr_list C) (by decide +kernel) rfl) pa_nil))) (pe_callB call_isi (by rfl) (fr_isinstance C) (by decide +kernel) (pa_cons (pv 1) (pa_cons (pe_bltn (v := .ty "list") (by rfl) (fr_list C) (by decide +kernel) rfl) pa_nil))) (nomark _)))))) (pss_one (ps_ret pe_bl)) pss_nil)
    (pss_cons (ps_if (pt_cmpR op_ne (pe_callB cr_lenL (by rfl) (fr_len C) PySem.boot_len (pa_cons (pv 0) pa_nil)) (pe_callB cr_lenL (by rfl) (fr_len C) PySem.boot_len (pa_cons (pv 1) pa_nil)) (nomark _)) (pss_one (ps_ret pe_bl)) pss_nil)
    (pss_one (ps_ret (pe_callB (cr_all rfl) (by rfl) (fr_all C) (by decide +kernel) (pa_cons (pe_lc (own := [("k", 2)]) (g := (gName 2)) (tt := tYes) rfl sc_w_alike.nd (pi_range1 rfl (fr_range C) (pa_cons (pe_callB cr_lenL (by rfl) (fr_len C) PySem.boot_len (pa_cons (pv 1) pa_nil)) pa_nil)) (blkOk_by (N := N_w_alike) (sc := defScope s_w_alike) (own := [("k", 2)]) (by decide +kernel)) (fun _ _ _ _ _ => (pg_name (i := 2) sc_w_alike.nd rfl (Or.inl rfl))) (fun _ _ _ _ _ => pts_nil) (fun _ _ _ _ _ => (pe_call G_w_alike (hr.mono (by omega)) rfl mg_w_alike kp_w_alike b_w_alike .nil pass0 (pa_cons (pe_ix (kIx (K := K) (r := rIx) ix_seq) (pv 0) (pv 2) (fun _ _ => rfl)) (pa_cons (pe_ix (kIx (K := K) (r := rIx) ix_seq) (pv 1) (pv 2) (fun _ _ => rfl)) pa_nil))))) pa_nil)))))) pss_nil)
    (pss_cons (ps_if (pt_cut (PW.pt (pw_or (pt_cmpR op_isN (pv 1) pe_non (nomark _)) (pw_or1 (pt_val (pe_callB call_isi (by rfl) (fr_isinstance C) (by decide +kernel) (pa_cons (pv 1) (pa_cons (pe_bltn (v := .ty "str") (by rfl) (fr_str C) (by decide +kernel) rfl) pa_nil)))))))) (pss_one (ps_ret (pe_and (pe_cmpR op_eq (pv 0) (pv 1) (nomark _)) (pe_one (pe_or (pe_cmpR op_isN (pv 0) pe_non (nomark _)) (pe_one (pe_callB call_isi (by rfl) (fr_isinstance C) (by decide +kernel) (pa_cons (pv 0) (pa_cons (pe_bltn (v := .ty "str") (by rfl) (fr_str C) (by decide +kernel) rfl) pa_nil))))))))) pss_nil)
    (pss_one (ps_ret (pe_and (pe_callB call_isi (by rfl) (fr_isinstance C) (by decide +kernel) (pa_cons (pv 0) (pa_cons (pe_bltn (v := .ty "int") (by rfl) (fr_int C) (by decide +kernel) rfl) pa_nil))) (pe_and (pe_not (pe_callB call_isi (by rfl) (fr_isinstance C) (by decide +kernel) (pa_cons (pv 0) (pa_cons (pe_bltn (v := .ty "bool") (by rfl) (fr_bool C) (by decide +kernel) rfl) pa_nil)))) (pe_one (pe_cmpR op_eq (pv 0) (pv 1) (nomark _))))))))), ?_⟩
    obtain ⟨x, y, dt, rfl, hx, hy, pl, q⟩ := h
    walk_at "go"
    cases pl with
    | non =>
      cases hx
      cases hy
      intro p H2 hp s2 e2
      walk_at "go"
      refine g_isiT (ts := ["list", "tuple"]) (r := false) e2 (.base .non) (by decide +kernel) (by decide +kernel) ?_
      walk_at "go"
      refine iteF ?_
      walk_at "go"
      refine g_tcut (fun b H' => b = true ∧ Step [] H H') ?_ ?_
      · walk_at "go"
        refine ⟨rfl, ?_⟩
        walk_at "go"
        rw [decide_eq_true rfl]
        exact iteT ⟨rfl, s2⟩
      · rintro b' H3 ⟨rfl, s3⟩
        refine iteT ?_
        walk_at "go"
        refine g_eq rfl ?_
        rw [decide_eq_true rfl]
        refine g_kAnd (iteT ?_)
        walk_at "go"
        refine ⟨rfl, ?_⟩
        rw [decide_eq_true rfl]
        exact g_kOr (iteT (q H3 s3))
    | int i =>
      cases hx
      cases hy
      intro p H2 hp s2 e2
      walk_at "go"
      refine g_isiT (ts := ["list", "tuple"]) (r := false) e2 (.base (.int i)) (by decide +kernel) (by decide +kernel) ?_
      walk_at "go"
      refine iteF ?_
      walk_at "go"
      refine g_tcut (fun b H' => b = false ∧ Step [] H H') ?_ ?_
      · walk_at "go"
        refine ⟨rfl, ?_⟩
        walk_at "go"
        rw [decide_eq_false (fun e => nomatch e)]
        refine iteF ?_
        walk_at "go"
        refine g_isi (r := false) (.base (.int i)) (by decide +kernel) ?_
        walk_at "go"
        exact ⟨rfl, s2⟩
      · rintro b' H3 ⟨rfl, s3⟩
        refine iteF ?_
        walk_at "go"
        refine g_isi (r := true) (.base (.int i)) (by decide +kernel) ?_
        refine g_kAnd (iteT ?_)
        walk_at "go"
        refine g_isi (r := false) (.base (.int i)) (by decide +kernel) ?_
        walk_at "go"
        refine iteT ?_
        walk_at "go"
        rw [decide_eq_true rfl]
        exact q H3 s3
    | str z =>
      cases hx
      cases hy
      intro p H2 hp s2 e2
      walk_at "go"
      refine g_isiT (ts := ["list", "tuple"]) (r := false) e2 (.base (.str z)) (by decide +kernel) (by decide +kernel) ?_
      walk_at "go"
      refine iteF ?_
      walk_at "go"
      refine g_tcut (fun b H' => b = true ∧ Step [] H H') ?_ ?_
      · walk_at "go"
        refine ⟨rfl, ?_⟩
        walk_at "go"
        rw [decide_eq_false (fun e => nomatch e)]
        refine iteF ?_
        walk_at "go"
        refine g_isi (r := true) (.base (.str z)) (by decide +kernel) ?_
        walk_at "go"
        exact ⟨rfl, s2⟩
      · rintro b' H3 ⟨rfl, s3⟩
        refine iteT ?_
        walk_at "go"
        rw [decide_eq_true rfl]
        refine iteT ?_
        walk_at "go"
        refine ⟨rfl, ?_⟩
        rw [decide_eq_false (fun e => nomatch e)]
        refine g_kOr (iteF ?_)
        walk_at "go"
        exact g_isi (r := true) (.base (.str z)) (by decide +kernel) (q H3 s3)
    | @lst _ ds hall hlen =>
      cases hx with
      | @lst a xs _ sx ax =>
      cases hy with
      | @lst b ys _ sy ay =>
      have lx := dpAll_len ax
      have ly := dpAll_len ay
      intro p H2 hp s2 e2
      walk_at "go"
      refine g_isiT (ts := ["list", "tuple"]) (r := true) e2 (tyL (sq_step0 sy s2)) (by decide +kernel) (by decide +kernel) ?_
      walk_at "go"
      refine iteT ?_
      walk_at "go"
      refine g_tcut (fun b H' => b = false ∧ Step [] H H') ?_ ?_
      · walk_at "go"
        intro p3 H3 hp3 s3 e3
        walk_at "go"
        refine g_isiT (ts := ["list", "tuple"]) (r := true) e3 (tyL (sq_step0 sx (s2.trans s3))) (by decide +kernel) (by decide +kernel) ?_
        walk_at "go"
        refine iteF ?_
        walk_at "go"
        refine g_isi (r := true) (tyL (sq_step0 sx (s2.trans s3))) (by decide +kernel) ?_
        walk_at "go"
        refine g_isi (r := true) (tyL (sq_step0 sy (s2.trans s3))) (by decide +kernel) ?_
        refine g_ne rfl ?_
        walk_at "go"
        exact ⟨by rw [decide_eq_true rfl]; rfl, s2.trans s3⟩
      · rintro b' H3 ⟨rfl, s3⟩
        refine iteF ?_
        walk_at "go"
        refine g_lenLK (sq_step0 sx s3) ?_
        walk_at "go"
        refine g_lenLK (sq_step0 sy s3) ?_
        walk_at "go"
        refine g_iteN (fun hne => absurd (by omega) hne) (fun _ => ?_)
        walk_at "go"
        refine g_lenLK (sq_step0 sy s3) ?_
        walk_at "go"
        refine g_kRng1 (by omega) (by omega) ?_
        rw [Int.toNat_natCast]
        refine wLc_rng fun D H4 hD s4 e4 => ?_
        refine ⟨fun j H' => H' D = some (.lst ((List.replicate j true).map V.bl)) ∧ Step [] H3 H', ⟨e4, s4⟩, ?_, ?_⟩
        · rintro j H5 hj ⟨g1, g2⟩
          simp only [Int.zero_add]
          have hjd := List.getElem?_eq_getElem (by omega : j < ds.length)
          generalize ds[j]'(by omega) = dj at hjd
          obtain ⟨u, hu, du⟩ := dpAll_at ax hjd
          obtain ⟨v, hv, dv⟩ := dpAll_at ay hjd
          have S5 := s3.trans g2
          walk_at "go"
          refine ix_L (sq_step0 sx S5) hu ?_
          walk_at "go"
          refine ix_L (sq_step0 sy S5) hv ?_
          walk_at "go"
          refine ⟨u, v, dj, rfl, dp_step S5 du, dp_step S5 dv, hall dj (List.mem_of_getElem? hjd), fun H6 s6 => ?_⟩
          refine g_kEl (s6.at0 g1) (ltLine (by rw [List.length_map, List.length_replicate]; omega)) fun H7 s7 e7 => ⟨?_, (g2.trans s6).via s7 hD⟩
          rw [e7, ← List.map_singleton, ← List.map_append, ← List.replicate_succ']
        · rintro H5 ⟨g1, g2⟩
          walk_at "go"
          refine g_all g1 ?_
          rw [all_true]
          exact q H5 (s3.trans g2)
    | @tup _ ds hall hlen =>
      cases hx with
      | @tup a xs _ sx ax =>
      cases hy with
      | @tup b ys _ sy ay =>
      have lx := dpAll_len ax
      have ly := dpAll_len ay
      intro p H2 hp s2 e2
      walk_at "go"
      refine g_isiT (ts := ["list", "tuple"]) (r := true) e2 (tyT (sqT_step0 sy s2)) (by decide +kernel) (by decide +kernel) ?_
      walk_at "go"
      refine iteT ?_
      walk_at "go"
      refine g_tcut (fun b H' => b = false ∧ Step [] H H') ?_ ?_
      · walk_at "go"
        intro p3 H3 hp3 s3 e3
        walk_at "go"
        refine g_isiT (ts := ["list", "tuple"]) (r := true) e3 (tyT (sqT_step0 sx (s2.trans s3))) (by decide +kernel) (by decide +kernel) ?_
        walk_at "go"
        refine iteF ?_
        walk_at "go"
        refine g_isi (r := false) (tyT (sqT_step0 sx (s2.trans s3))) (by decide +kernel) ?_
        walk_at "go"
        refine g_isi (r := false) (tyT (sqT_step0 sy (s2.trans s3))) (by decide +kernel) ?_
        refine g_ne rfl ?_
        walk_at "go"
        exact ⟨by rw [decide_eq_true rfl]; rfl, s2.trans s3⟩
      · rintro b' H3 ⟨rfl, s3⟩
        refine iteF ?_
        walk_at "go"
        refine g_lenTK (sqT_step0 sx s3) ?_
        walk_at "go"
        refine g_lenTK (sqT_step0 sy s3) ?_
        walk_at "go"
        refine g_iteN (fun hne => absurd (by omega) hne) (fun _ => ?_)
        walk_at "go"
        refine g_lenTK (sqT_step0 sy s3) ?_
        walk_at "go"
        refine g_kRng1 (by omega) (by omega) ?_
        rw [Int.toNat_natCast]
        refine wLc_rng fun D H4 hD s4 e4 => ?_
        refine ⟨fun j H' => H' D = some (.lst ((List.replicate j true).map V.bl)) ∧ Step [] H3 H', ⟨e4, s4⟩, ?_, ?_⟩
        · rintro j H5 hj ⟨g1, g2⟩
          simp only [Int.zero_add]
          have hjd := List.getElem?_eq_getElem (by omega : j < ds.length)
          generalize ds[j]'(by omega) = dj at hjd
          obtain ⟨u, hu, du⟩ := dpAll_at ax hjd
          obtain ⟨v, hv, dv⟩ := dpAll_at ay hjd
          have S5 := s3.trans g2
          walk_at "go"
          refine ix_T (sqT_step0 sx S5) hu ?_
          walk_at "go"
          refine ix_T (sqT_step0 sy S5) hv ?_
          walk_at "go"
          refine ⟨u, v, dj, rfl, dp_step S5 du, dp_step S5 dv, hall dj (List.mem_of_getElem? hjd), fun H6 s6 => ?_⟩
          refine g_kEl (s6.at0 g1) (ltLine (by rw [List.length_map, List.length_replicate]; omega)) fun H7 s7 e7 => ⟨?_, (g2.trans s6).via s7 hD⟩
          rw [e7, ← List.map_singleton, ← List.map_append, ← List.replicate_succ']
        · rintro H5 ⟨g1, g2⟩
          walk_at "go"
          refine g_all g1 ?_
          rw [all_true]
          exact q H5 (s3.trans g2)
theorem ok_w_alike (C : Ctx K mg) : Has P w K mg base CX0 4 "_law_alike" ["found", "due"] (sp_w_alike K 3) := okr_w_alike C 3
end

end My
namespace My
open PySem PySem.Spec PyProof.Rows L2
/-! two lists of tables said to be alike -/
section
variable {X : Cx}
theorem dd_inA {pins : List (Addr × Obj)} {σ : L2.St} {H : Hp} {s : Shared} {ks ls : List (Key × V)} {va vb : List (Key × Value)} {e : Key → Bool} (A : Around) (hu : A.units + 64 + 1 < cLine) (I : Inv X pins σ H s) (ra : KV ks va) (rb : KV ls vb)
    (hd : ∀ k v u, (k, v) ∈ ks → valV ls k = some u → ∃ d d', Dp X.K H v d ∧ Dp X.K H u d' ∧ SeqAt.shaped d = true ∧ SeqAt.shaped d' = true ∧ PyData.eqv d d' = e k) :
    ∀ k v y, (k, v) ∈ va → valueAt vb k = some y → SeqAt.EqIn X.prog X.w A s v y (e k) := by
  intro k v y hm hv
  obtain ⟨⟨k', v'⟩, hm', hk, hr⟩ := P_mem2 ra hm
  have hk : k' = k := hk
  subst hk
  have rr := rb.val k'
  rw [hv] at rr
  cases hu' : valV ls k' with
  | none => rw [hu'] at rr; exact (show False from rr).elim
  | some u =>
    rw [hu'] at rr
    have rr : RelV u y := rr
    obtain ⟨d, d', h1, h2, s1, s2, e1⟩ := hd k' v' u hm' hu'
    obtain ⟨as, r1⟩ := Dp.reads I d v' v h1 hr
    obtain ⟨bs, r2⟩ := Dp.reads I d' u y h2 rr
    have q := SeqAt.eqAt_reads d d' A s v y as bs r1 r2 (SeqAt.canLay_of_shaped s1) (SeqAt.canLay_of_shaped s2) (SeqAt.room_of_shaped s1 (by have : A.in1.units = A.units + 1 := rfl; omega))
    rw [e1] at q
    exact q.inModel X.prog X.w
def rNeLD (K : PySem.W.Frag) : R2 := fun x y H Q => ∃ (a b : Addr) (us vs : List V), x = .ref a ∧ y = .ref b ∧ H a = some (.lst us) ∧ H b = some (.lst vs) ∧ us.length = vs.length ∧
  (∀ (i : Nat) (u v : V), us[i]? = some u → vs[i]? = some v → ∃ ks ls, DDat K H u v ks ls (fun _ => true) ∧ (ks.length == ls.length && ks.all fun p => (valV ls p.1).isSome && true) = true) ∧ Q (.bl false) H
theorem op_neLD (hu : X.A.units + 64 + 4 < cLine) : OpR X (compareOp .NotEq) (rNeLD X.K) := by
  intro pins s σ H x y v u Q I rx ry h
  obtain ⟨a, b, us, vs, rfl, rfl, ea, eb, hl, hd, q⟩ := h
  obtain rfl : v = Value.ref a := rx
  obtain rfl : u = Value.ref b := ry
  obtain ⟨its, rv, p, _⟩ := I.list (SqL.of (K := X.K) ea)
  obtain ⟨its2, rv2, p2, _⟩ := I.list (SqL.of (K := X.K) eb)
  have l1 := rv.length
  have l2 := rv2.length
  refine ne_listsIn p.isList p2.isList (by simp; omega) (by omega) (e := fun _ => true) (fun j h1 h2 => ?_) ⟨.bl false, H, I, by rw [List.all_eq_true.mpr (fun _ _ => rfl)]; rfl, q⟩
  have h1' : j < us.length := by simp at h1; omega
  have h2' : j < vs.length := by omega
  obtain ⟨w1, g1, r1⟩ := rv.get (List.getElem?_eq_getElem h1')
  obtain ⟨w2, g2, r2⟩ := rv2.get (List.getElem?_eq_getElem h2')
  obtain ⟨ks, ls, ⟨c, d, ec, ed, hc, hdd, hh⟩, hall⟩ := hd j _ _ (List.getElem?_eq_getElem h1') (List.getElem?_eq_getElem h2')
  rw [ec] at r1
  rw [ed] at r2
  obtain rfl : w1 = Value.ref c := r1
  obtain rfl : w2 = Value.ref d := r2
  have x1 : its.toArray[j] = Value.ref c := by
    have := (List.getElem?_eq_some_iff.mp g1).2
    simpa using this
  have x2 : its2.toArray[j] = Value.ref d := by
    have := (List.getElem?_eq_some_iff.mp g2).2
    simpa using this
  rw [x1, x2]
  by_cases hcd : c = d
  · subst hcd
    exact (SeqAt.EqAt.same _).inModel _ _
  · obtain ⟨_, ya, va, ra, da⟩ := (show ObjOk X.prog X.w H s.heap c (.dK ks) from I.hok c _ hc)
    obtain ⟨_, yb, vb, rb, db⟩ := (show ObjOk X.prog X.w H s.heap d (.dK ls) from I.hok d _ hdd)
    refine SeqAt.EqIn.of_refs hcd fun E Q hq => PySem.W.keq_eqIn (knd := mixKind X.prog X.w) ya yb da db (by show X.A.units + 1 < cLine; omega) (fun _ => PySem.W.KeqHitsIn.of va (dd_inA X.A.in1.in1 (by show X.A.units + 1 + 1 + 64 + 1 < cLine; omega) I ra rb hh)) ?_
    rw [dd_all (e := fun _ => true) rb ra, ← ra.length, ← rb.length, hall]
    exact hq
end
theorem unit3 {k : Nat} {A : Around} (hr : Room k A) : A.units + 64 + 4 < cLine := by
  have := hr.un
  omega
theorem pair_of {R : Int × List Str → Int × List Str → Prop} : ∀ {xs ys : Tb}, xs.map (·.1) = ys.map (·.1) → (∀ i : Nat, ∀ p q, xs[i]? = some p → ys[i]? = some q → R p q) → Paired (fun p q => p.1 = q.1 ∧ R p q) xs ys
  | [], [], _, _ => .nil
  | [], _ :: _, h, _ => by cases h
  | _ :: _, [], h, _ => by cases h
  | x :: xs, y :: ys, h, r => by
    rw [List.map_cons, List.map_cons] at h
    obtain ⟨h1, h2⟩ := List.cons.inj h
    exact .cons ⟨h1, r 0 x y rfl rfl⟩ (pair_of h2 fun i p q hp hq => r (i + 1) p q hp hq)
theorem look_len : ∀ {xs ys : Tb}, Paired (fun p q => p.1 = q.1 ∧ p.2.length = q.2.length) xs ys → ∀ k, (lookL xs k).length = (lookL ys k).length
  | _, _, .nil, _ => rfl
  | p :: _, q :: _, .cons h t, k => by
    obtain ⟨h1, h2⟩ := h
    have ih := look_len t k
    unfold lookL at ih ⊢
    by_cases e : p.1 = k
    · rw [lookI_pos e, lookI_pos (h1 ▸ e)]
      exact h2
    · rw [lookI_neg e, lookI_neg (h1 ▸ e)]
      exact ih
theorem OtherOk.lens {xs ys : Tb} (h : OtherOk xs ys) (k : Int) : (lookL xs k).length = (lookL ys k).length := look_len (pair_of h.1 fun i p q hp hq => (h.2 i p q hp hq).1) k
theorem OtherOk.mem {xs ys : Tb} (h : OtherOk xs ys) (hn : (xs.map (·.1)).Nodup) {k : Int} {a b : List Str} (ha : (k, a) ∈ xs) (hb : (k, b) ∈ ys) : a.length = b.length ∧ b.Nodup ∧ ∀ z ∈ b, IsNm z := by
  obtain ⟨i, hi, ei⟩ := List.mem_iff_getElem.mp ha
  have e1 : xs[i]? = some (k, a) := by rw [List.getElem?_eq_getElem hi, ei]
  have hl : xs.length = ys.length := by rw [← List.length_map (f := fun p : Int × List Str => p.1), h.1, List.length_map]
  have e2 := List.getElem?_eq_getElem (by omega : i < ys.length)
  have ny : (ys.map (·.1)).Nodup := by rw [← h.1]; exact hn
  have ek : (ys[i]'(by omega)).1 = k := by
    have : (xs.map (·.1))[i]? = some k := by rw [List.getElem?_map, e1]; rfl
    rw [h.1, List.getElem?_map, e2] at this
    exact Option.some.inj this
  have := nd_inj ny (List.getElem_mem (by omega : i < ys.length)) hb ek
  have r := h.2 i _ _ e1 e2
  rw [this] at r
  exact r
theorem OtherOk.ls {xs ys : Tb} (h : OtherOk xs ys) (t : TbOk xs) : LsTb ys ∧ ∀ p ∈ ys, ∀ z ∈ p.2, IsNm z := by
  have hl : xs.length = ys.length := by rw [← List.length_map (f := fun p : Int × List Str => p.1), h.1, List.length_map]
  have at_ : ∀ p ∈ ys, p.2.length ≤ 10 ∧ ∀ z ∈ p.2, IsNm z := fun p hp => by
    obtain ⟨i, hi, ei⟩ := List.mem_iff_getElem.mp hp
    have r := h.2 i _ _ (List.getElem?_eq_getElem (by omega : i < xs.length)) (List.getElem?_eq_getElem hi)
    have := (t.nm _ (List.getElem_mem (by omega : i < xs.length))).2.2.2
    rw [ei] at r
    exact ⟨by omega, r.2.2⟩
  exact ⟨⟨by rw [← h.1]; exact t.nd, by rw [← hl]; exact t.len, fun p hp => (at_ p hp).1⟩, fun p hp => (at_ p hp).2⟩
theorem TbOk.ls {xs : Tb} (t : TbOk xs) : LsTb xs := ⟨t.nd, t.len, fun p hp => (t.nm p hp).2.2.2⟩
abbrev cMs (K : PySem.W.Frag) : Cod K (rL rMv) := cL (cP4 cI cI cOS cS)
theorem pl_ms {K : PySem.W.Frag} (ms : List Mv) (h : ms.length ≤ 1000) : PlD 3 ((cMs K).enc ms) := by
  refine .lst (fun x hx => ?_) (by rw [List.length_map]; exact h)
  obtain ⟨m, _, rfl⟩ := List.mem_map.mp hx
  refine .tup (fun y hy => ?_) (Nat.le_of_ble_eq_true rfl)
  simp only [List.mem_cons, List.not_mem_nil, or_false] at hy
  rcases hy with rfl | rfl | rfl | rfl
  · exact .int _
  · exact .int _
  · obtain ⟨_, _, o, _⟩ := m
    cases o with
    | none => exact .non
    | some z => exact .str z
  · exact .str _
theorem mvUp_nm {ns : List Str} {k : Int} {xs ys : List Str} (hx : ∀ z ∈ xs, IsNm z) (hy : ∀ z ∈ ys, IsNm z) : ∀ n, ∀ m ∈ mvUp ns k xs ys n, (∀ z, m.2.2.1 = some z → IsNm z) ∧ IsNm m.2.2.2
  | 0, m, h => by cases h
  | n + 1, m, h => by
    rw [mvUp] at h
    rcases List.mem_append.mp h with h | h
    · exact mvUp_nm hx hy n m h
    · unfold mv1At at h
      split at h
      · rename_i a b ha hb
        by_cases e : a = b
        · rw [if_pos e] at h; cases h
        · rw [if_neg e] at h
          rw [List.mem_singleton.mp h]
          refine ⟨fun z hz => ?_, hy b (List.mem_of_getElem? hb)⟩
          dsimp only at hz
          by_cases hn : a ∈ ns
          · rw [if_pos hn] at hz
            cases hz
            exact hx _ (List.mem_of_getElem? ha)
          · rw [if_neg hn] at hz; cases hz
      · cases h
theorem lookL_nm {xs : Tb} (h : ∀ p ∈ xs, ∀ z ∈ p.2, IsNm z) (k : Int) : ∀ z ∈ lookL xs k, IsNm z := by
  unfold lookL
  cases e : lookI xs k with
  | none => intro z hz; cases hz
  | some hs =>
    have hm : (k, hs) ∈ xs := by
      unfold lookI at e
      obtain ⟨p, hp1, hp2⟩ := Option.map_eq_some_iff.mp e
      have h1 := List.mem_of_find?_eq_some hp1
      have h2 := List.find?_some hp1
      have h2 : p.1 = k := by simpa using h2
      rw [← hp2, ← h2]
      exact h1
    exact h _ hm
theorem mvs_nm {ns : List Str} {xs ys : Tb} (hx : ∀ p ∈ xs, ∀ z ∈ p.2, IsNm z) (hy : ∀ p ∈ ys, ∀ z ∈ p.2, IsNm z) : ∀ m ∈ mvs ns xs ys, (∀ z, m.2.2.1 = some z → IsNm z) ∧ IsNm m.2.2.2 := by
  intro m hm
  obtain ⟨k, _, hk⟩ := List.mem_flatMap.mp hm
  exact mvUp_nm (lookL_nm hx k) (lookL_nm hy k) _ m hk
theorem mvs_len {ns : List Str} {xs ys : Tb} (h : LsTb xs) : (mvs ns xs ys).length ≤ 120 := by
  have := mvsT_len (ns := ns) (ys := ys) h (srt (xs.map (·.1)))
  rw [(srt_perm _).length_eq, List.length_map] at this
  have := h.2.1
  unfold mvs
  omega
theorem ms_ok {K : PySem.W.Frag} {ms : List Mv} (h : ∀ m ∈ ms, (∀ z, m.2.2.1 = some z → IsNm z) ∧ IsNm m.2.2.2) : (cMs K).ok ms := fun m hm => ⟨trivial, trivial, fun z hz => ((h m hm).1 z hz).ok, (h m hm).2.ok⟩
def sp_w_right : Sp := fun vs H Q _ => ∃ (a : Addr) (c : Nat), vs = [.ref a] ∧ PotAt H a c ∧ c < 2 ^ 40 ∧ ∀ H', Step [a] H H' → Q (.bl true) H'
section
variable {P : Program} {w : World} {K : PySem.W.Frag} {mg : Str → Option Value} {base : Heap}
theorem ok_w_right (C : Ctx K mg) : Has P w K mg base CX0 6 "_law_right" ["pot"] sp_w_right := by
  obtain ⟨fd, F⟩ := fn_w_right C
  obtain ⟨f_w_houses, fd_w_houses, G_w_houses, mg_w_houses, kp_w_houses, b_w_houses⟩ := (ok_w_houses (P := P) (w := w) (base := base) C).ex
  obtain ⟨f_w_table, fd_w_table, G_w_table, mg_w_table, kp_w_table, b_w_table⟩ := (ok_w_table (P := P) (w := w) (base := base) C).ex
  obtain ⟨f_w_other, fd_w_other, G_w_other, mg_w_other, kp_w_other, b_w_other⟩ := (ok_w_other (P := P) (w := w) (base := base) C).ex
  obtain ⟨f_w_copy, fd_w_copy, G_w_copy, mg_w_copy, kp_w_copy, b_w_copy⟩ := (ok_w_copy (P := P) (w := w) (base := base) C).ex
  obtain ⟨f_w_due, fd_w_due, G_w_due, mg_w_due, kp_w_due, b_w_due⟩ := (ok_w_due (P := P) (w := w) (base := base) C).ex
  obtain ⟨f_moves_of, fd_moves_of, G_moves_of, mg_moves_of, kp_moves_of, b_moves_of⟩ := (ok_moves_of (P := P) (w := w) (base := base) C).ex
  obtain ⟨f_w_alike, fd_w_alike, G_w_alike, mg_w_alike, kp_w_alike, b_w_alike⟩ := (ok_w_alike (P := P) (w := w) (base := base) C).ex
  obtain ⟨f_w_no_mix, fd_w_no_mix, G_w_no_mix, mg_w_no_mix, kp_w_no_mix, b_w_no_mix⟩ := (ok_w_no_mix (P := P) (w := w) (base := base) C).ex
  obtain ⟨f_moved, fd_moved, G_moved, mg_moved, kp_moved, b_moved⟩ := (ok_moved (P := P) (w := w) (base := base) C).ex
  obtain ⟨fd_mk_Town, G_mk_Town, b_mk_Town⟩ := (ok_Town_init (P := P) (w := w) (base := base) C).ex
  refine ⟨⟨_, fd, ?_, gl_w_right C, F.kp, F.bindsN fun _ _ _ _ _ _ us hl => match us, hl with | [_], _ => rfl⟩⟩
  refine F.ok (CX := CX0) sc_w_right (fun vs H Q E h => ?_) (fun cdv A outer s H vs Q E hr h => ?_)
  · first | (obtain ⟨_, rfl, _⟩ := h; rfl) | (obtain ⟨_, _, rfl, _⟩ := h; rfl) | (obtain ⟨_, _, _, rfl, _⟩ := h; rfl) | (obtain ⟨_, _, _, _, rfl, _⟩ := h; rfl) | (obtain ⟨_, _, _, _, _, rfl, _⟩ := h; rfl) | (obtain ⟨_, _, _, _, _, _, rfl, _⟩ := h; rfl) | (obtain ⟨_, _, _, _, _, _, _, rfl, _⟩ := h; rfl) | (obtain ⟨_, _, _, _, _, _, _, _, rfl, _⟩ := h; rfl) | (obtain ⟨_, _, _, _, _, _, _, _, _, rfl, _⟩ := h; rfl) | (obtain ⟨_, _, _, _, _, _, _, _, _, _, rfl, _⟩ := h; rfl) | (obtain ⟨_, _, _, _, _, _, _, _, _, _, _, rfl, _⟩ := h; rfl) | (obtain ⟨_, _, _, _, _, _, _, _, _, _, _, _, rfl, _⟩ := h; rfl)
  have hu := hu_of hr
  refine ⟨_, PSs.nox (pss_cons (ps_set (i := 1) sc_w_right.nd rfl (Or.inl rfl) (pe_call G_w_houses (hr.mono (by decide)) rfl mg_w_houses kp_w_houses b_w_houses .nil pass0 (pa_cons (pv 0) (pa_cons pe_int pa_nil))))
    (pss_cons (ps_set (i := 2) sc_w_right.nd rfl (Or.inl rfl) (pe_call G_w_table (hr.mono (by decide)) rfl mg_w_table kp_w_table b_w_table .nil pass0 (pa_cons (pv 0) (pa_cons (pv 1) (pa_cons pe_int pa_nil)))))
    (pss_cons (ps_set (i := 3) sc_w_right.nd rfl (Or.inl rfl) (pe_call G_w_other (hr.mono (by decide)) rfl mg_w_other kp_w_other b_w_other .nil pass0 (pa_cons (pv 0) (pa_cons (pv 1) (pa_cons (pv 2) pa_nil)))))
    (pss_cons (ps_set (i := 4) sc_w_right.nd rfl (Or.inl rfl) (pe_lst (pa_cons (pe_call G_w_copy (hr.mono (by decide)) rfl mg_w_copy kp_w_copy b_w_copy .nil pass0 (pa_cons (pv 2) pa_nil)) (pa_cons (pe_call G_w_copy (hr.mono (by decide)) rfl mg_w_copy kp_w_copy b_w_copy .nil pass0 (pa_cons (pv 3) pa_nil)) pa_nil))))
    (pss_cons (ps_set (i := 5) sc_w_right.nd rfl (Or.inl rfl) (pe_call G_w_due (hr.mono (by decide)) rfl mg_w_due kp_w_due b_w_due .nil pass0 (pa_cons (pv 1) (pa_cons (pv 2) (pa_cons (pv 3) pa_nil)))))
    (pss_cons (ps_set (i := 6) sc_w_right.nd rfl (Or.inl rfl) (pe_call G_moves_of (hr.mono (by decide)) rfl mg_moves_of kp_moves_of b_moves_of .nil pass0 (pa_cons (pe_make (mk_Town C) G_mk_Town (hr.mono (by decide)) rfl (gl_Town C) b_mk_Town .nil pass0 (pa_cons (pv 1) pa_nil)) (pa_cons (pe_ix ix_list (pv 4) pe_int (fun _ _ => rfl)) (pa_cons (pe_ix ix_list (pv 4) pe_int (fun _ _ => rfl)) pa_nil)))))
    (pss_cons (ps_if (pt_cut (PW.pt (pw_or (pt_not (pt_val (pe_callB call_isi (by rfl) (fr_isinstance C) (by decide +kernel) (pa_cons (pv 6) (pa_cons (pe_bltn (v := .ty "list") (by rfl) (fr_list C) (by decide +kernel) rfl) pa_nil))))) (pw_or (pt_not (pt_val (pe_call G_w_alike (hr.mono (by decide)) rfl mg_w_alike kp_w_alike b_w_alike .nil pass0 (pa_cons (pv 6) (pa_cons (pv 5) pa_nil))))) (pw_or1 (pt_cmpR (op_neLD (unit3 hr)) (pv 4) (pe_lst (pa_cons (pv 2) (pa_cons (pv 3) pa_nil))) (nomark _))))))) (pss_one (ps_ret pe_bl)) pss_nil)
    (pss_cons (ps_expr (pe_bm0 PySem.F.plainAttrs_list PySem.F.slot_list_clear PySem.F.type_list_clear mt_clear (pv 6)))
    (pss_cons (ps_if (pt_cmpR (op_neD hr.units) (pe_call G_moves_of (hr.mono (by decide)) rfl mg_moves_of kp_moves_of b_moves_of .nil pass0 (pa_cons (pe_make (mk_Town C) G_mk_Town (hr.mono (by decide)) rfl (gl_Town C) b_mk_Town .nil pass0 (pa_cons (pv 1) pa_nil)) (pa_cons (pe_ix ix_list (pv 4) pe_int (fun _ _ => rfl)) (pa_cons (pe_ix ix_list (pv 4) pe_int (fun _ _ => rfl)) pa_nil)))) (pv 5) (nomark _)) (pss_one (ps_ret pe_bl)) pss_nil)
    (pss_cons (ps_asg (pe_call G_w_no_mix (hr.mono (by decide)) rfl mg_w_no_mix kp_w_no_mix b_w_no_mix .nil pass0 (pa_cons (pv 2) (pa_cons (pv 3) pa_nil))) (pg_lst rfl (pgs_cons (pg_name (i := 7) sc_w_right.nd rfl (Or.inl rfl)) (pgs_cons (pg_name (i := 8) sc_w_right.nd rfl (Or.inl rfl)) pgs_nil))))
    (pss_cons (ps_set (i := 9) sc_w_right.nd rfl (Or.inl rfl) (pe_call G_moves_of (hr.mono (by decide)) rfl mg_moves_of kp_moves_of b_moves_of .nil pass0 (pa_cons (pe_make (mk_Town C) G_mk_Town (hr.mono (by decide)) rfl (gl_Town C) b_mk_Town .nil pass0 (pa_cons (pv 1) pa_nil)) (pa_cons (pe_call G_w_copy (hr.mono (by decide)) rfl mg_w_copy kp_w_copy b_w_copy .nil pass0 (pa_cons (pv 7) pa_nil)) (pa_cons (pe_call G_w_copy (hr.mono (by decide)) rfl mg_w_copy kp_w_copy b_w_copy .nil pass0 (pa_cons (pv 8) pa_nil)) pa_nil)))))
    (pss_cons (ps_set (i := 10) sc_w_right.nd rfl (Or.inl rfl) (pe_call G_w_copy (hr.mono (by decide)) rfl mg_w_copy kp_w_copy b_w_copy .nil pass0 (pa_cons (pv 7) pa_nil)))
    (pss_cons (ps_set (i := 11) sc_w_right.nd rfl (Or.inl rfl) (pe_callS G_moved (hr.mono (by decide)) rfl mg_moved kp_moved b_moved (fun σ => passAt takes0 σ) (pa_cons (pv 10) (pa_cons (pv 9) pa_nil))))
    (pss_one (ps_ret (pe_and (pe_callB call_isi (by rfl) (fr_isinstance C) (by decide +kernel) (pa_cons (pv 11) (pa_cons (pe_bltn (v := .ty "dict") (by rfl) (fr_dict C) (by decide +kernel) rfl) pa_nil))) (pe_and (pe_cmpR (op_eqDD (unit2 hr)) (pv 11) (pv 8) (nomark _)) (pe_and (pe_cmpR (op_eqDD (unit2 hr)) (pv 10) (pv 7) (nomark _)) (pe_one (pe_cmpR (op_eqDD (unit2 hr)) (pe_callS G_moved (hr.mono (by decide)) rfl mg_moved kp_moved b_moved (fun σ => passAt takes0 σ) (pa_cons (pv 8) (pa_cons (pe_lst pa_nil) pa_nil))) (pv 8) (nomark _))))))))))))))))))))), ?_⟩
  obtain ⟨a, c, rfl, hp, hc, q⟩ := h
  walk_at "go"
  refine ⟨a, _, _, rfl, by decide, by decide, hp, by omega, fun R rows H1 hR lr nr okr s1 e1 p1 => ?_⟩
  walk_at "go"
  refine ⟨a, R, rows, _, _, rfl, e1, okr, nr, by omega, by decide, by decide, p1, by omega, fun S xs H2 hS tok lx s2 e2 p2 => ?_⟩
  walk_at "go"
  refine ⟨a, R, S, rows, xs, _, rfl, mL mRow _ _ _ _ s2.le e1, okr, nr, by omega, e2, tok, p2, by omega, fun O ys H3 hO oth s3 e3 p3 => ?_⟩
  walk_at "go"
  have R3 : rL rRow H3 (.ref R) rows := mL mRow _ _ _ _ hide_le (mL mRow _ _ _ _ (s2.trans s3).le e1)
  have S3 : rTb H3 (.ref S) xs := mTb _ _ _ _ hide_le (mTb _ _ _ _ s3.le e2)
  have O3 : rTb H3 (.ref O) ys := mTb _ _ _ _ hide_le e3
  have Sa3 : Step [a] H H3 := (s1.trans s2).trans s3
  have SO : S ≠ O := by
    obtain ⟨_, ks, ⟨⟩, h1, _⟩ := id e2
    exact ne_of_none (hide_le _ _ h1) hO
  obtain ⟨lsy, nmy⟩ := oth.ls tok
  have lsx := tok.ls
  have nmx : ∀ p ∈ xs, ∀ z ∈ p.2, IsNm z := fun p hp => (tok.nm p hp).2.1
  have ndy : (ys.map (·.1)).Nodup := lsy.1
  refine ⟨S, xs, rfl, S3, tok.nd, by have := tok.len; omega, fun C1 ts1 H4 hC1 fr1 nt1 et1 s4 T4 => ?_⟩
  walk_at "go"
  refine ⟨O, ys, rfl, mTb _ _ _ _ s4.le0 O3, ndy, by have := lsy.2.1; omega, fun C2 ts2 H5 hC2 fr2 nt2 et2 s5 T5 => ?_⟩
  have C15 : rTb H5 (.ref C1) xs := by rw [← et1]; exact (T4.step0 s5).rp
  have C25 : rTb H5 (.ref C2) ys := by rw [← et2]; exact T5.rp
  clear T4 T5 fr1 fr2 nt1 nt2 et1 et2
  walk_at "go"
  intro Hd H6 hHd s6 e6
  have S36 : Step [] H3 H6 := (s4.trans s5).trans s6
  walk_at "go"
  refine ⟨R, S, O, rows, xs, ys, rfl, mL mRow _ _ _ _ S36.le0 R3, by omega, mTb _ _ _ _ S36.le0 S3, mTb _ _ _ _ S36.le0 O3, lsx, lsy, oth.1, oth.lens, fun Du H7 hDu s7 dR => ?_⟩
  have mnm := mvs_nm (ns := rows.map (·.1)) nmx nmy
  have mlen := mvs_len (ns := rows.map (·.1)) (ys := ys) lsx
  generalize hms : mvs (rows.map (·.1)) xs ys = ms at dR mnm mlen
  walk_at "go"
  have S37 := S36.trans s7
  refine g_kMake fun t1 H8 ht1 s8 ⟨dx1, i8⟩ => ?_
  refine ⟨t1, R, dx1, rows, rfl, i8, mL mRow _ _ _ _ (S37.trans s8).le0 R3, okr, nr, by omega, fun zs H9 hz hzs s9 T9 => ⟨rfl, ?_⟩⟩
  have s79 : Step [] H7 H9 := s8.via s9 ht1
  have e9 := (s7.trans s79).at0 e6
  have ez : mvs (zs.map (·.1)) xs ys = ms := by rw [← hms]; exact mvs_congr fun y => (hz.map (·.1)).mem_iff
  walk_at "go"
  have S69 := (s6.trans s7).trans s79
  refine ⟨t1, C1, C2, zs, xs, ys, rfl, T9, mTb _ _ _ _ S69.le0 C15, mTb _ _ _ _ S69.le0 C25, lsx, lsy, oth.1, oth.lens, fun F H10 hF s10 fR => ?_⟩
  rw [ez] at fR
  have S710 := s79.trans s10
  have dR10 := mL mMv _ _ _ _ S710.le0 dR
  obtain ⟨_, fvs, ⟨⟩, hF10, fP⟩ := id fR
  walk_at "go"
  have S610 := S69.trans s10
  refine g_tcut (fun b H' => b = false ∧ Step [] H10 H') ?_ ?_
  · walk_at "go"
    refine g_isi (r := true) (.base (.lst hF10)) (by decide +kernel) ?_
    walk_at "go"
    refine iteF ?_
    walk_at "go"
    refine ⟨.ref F, .ref Du, _, rfl, (cMs K).dp _ _ _ fR, (cMs K).dp _ _ _ dR10, pl_ms ms (by omega), fun H11 s11 => ?_⟩
    walk_at "go"
    refine iteF ?_
    walk_at "go"
    intro Li H12 hLi s12 e12
    have S1012 := s11.trans s12
    have S312 : Step [] H3 H12 := (S37.trans S710).trans S1012
    refine ⟨Hd, Li, _, _, rfl, rfl, S1012.at0 (S710.at0 (s7.at0 e6)), e12, rfl, fun i u v hu hv => ?_, ?_⟩
    · match i, hu, hv with
      | 0, hu, hv =>
        cases hu
        cases hv
        obtain ⟨ks, ls, d1, d2⟩ := dd_same (K := K) (cL cS) (mTb _ _ _ _ (S610.trans S1012).le0 C15) (mTb _ _ _ _ S312.le0 S3) (fun z hz y hy => (nmx z hz y hy).ok) tok.nd
        exact ⟨ks, ls, d1, d2⟩
      | 1, hu, hv =>
        cases hu
        cases hv
        obtain ⟨ks, ls, d1, d2⟩ := dd_same (K := K) (cL cS) (mTb _ _ _ _ (S610.trans S1012).le0 C25) (mTb _ _ _ _ S312.le0 O3) (fun z hz y hy => (nmy z hz y hy).ok) ndy
        exact ⟨ks, ls, d1, d2⟩
      | i + 2, hu, hv => simp at hu
    · walk_at "go"
      exact ⟨rfl, S1012⟩
  · rintro b H11 ⟨rfl, s11⟩
    refine iteF ?_
    walk_at "go"
    refine ⟨.ref F, rfl, .inl ⟨rfl, fvs, SqL.of (s11.at0 hF10)⟩, F, fvs, rfl, rfl, s11.at0 hF10, ?_⟩
    have hF7 : H7 F = none := s79.fresh hF
    have s711 : Step [] H7 (upd H11 F (.lst [])) := (S710.trans s11).via ((Step.refl [F] H11).wr (List.mem_singleton.mpr rfl)) hF7
    generalize upd H11 F (.lst []) = H12 at s711
    walk_at "go"
    have S312 := S37.trans s711
    refine g_kMake fun t2 H13 ht2 s13 ⟨dx2, i13⟩ => ?_
    refine ⟨t2, R, dx2, rows, rfl, i13, mL mRow _ _ _ _ (S312.trans s13).le0 R3, okr, nr, by omega, fun zs2 H14 hz2 hzs2 s14 T14 => ⟨rfl, ?_⟩⟩
    have s714 : Step [] H7 H14 := s711.trans (s13.via s14 ht2)
    have e14 := (s7.trans s714).at0 e6
    have ez2 : mvs (zs2.map (·.1)) xs ys = ms := by rw [← hms]; exact mvs_congr fun y => (hz2.map (·.1)).mem_iff
    walk_at "go"
    have S614 := (s6.trans s7).trans s714
    refine ⟨t2, C1, C2, zs2, xs, ys, rfl, T14, mTb _ _ _ _ S614.le0 C15, mTb _ _ _ _ S614.le0 C25, lsx, lsy, oth.1, oth.lens, fun F2 H15 hF2 s15 fR2 => ?_⟩
    rw [ez2] at fR2
    have S715 := s714.trans s15
    have dR15 := mL mMv _ _ _ _ S715.le0 dR
    walk_at "go"
    refine g_neC (cMs K) fR2 dR15 (ms_ok mnm) (ms_ok mnm) ?_
    walk_at "go"
    rw [decide_eq_true rfl]
    refine iteF ?_
    walk_at "go"
    have S315 := S37.trans S715
    refine ⟨S, O, xs, ys, rfl, SO, mTb _ _ _ _ S315.le0 S3, mTb _ _ _ _ S315.le0 O3, tok, oth, fun L D1 D2 ps H16 hL hD1 hD2 s16 e16 r1 r2 np lp pp => ?_⟩
    refine g_lst2 e16 ?_
    walk_at "go"
    have kf : (fstT ps).map (·.1) = ps.map (·.1) := by unfold fstT; rw [List.map_map]; rfl
    have ks : (sndT ps).map (·.1) = ps.map (·.1) := by unfold sndT; rw [List.map_map]; rfl
    have pmem : ∀ p ∈ ps, p.2.1.length = p.2.2.length ∧ p.2.2.Nodup ∧ ∀ z ∈ p.2.2, IsNm z := fun p hp => oth.mem tok.nd (pp p hp).1 (pp p hp).2.1
    have tokF : TbOk (fstT ps) := ⟨by rw [kf]; exact np, fun q hq => by
      obtain ⟨p, hp, rfl⟩ := List.mem_map.mp hq
      exact tok.nm _ (pp p hp).1, by unfold fstT; rw [List.length_map]; exact lp⟩
    have tokS : TbOk (sndT ps) := ⟨by rw [ks]; exact np, fun q hq => by
      obtain ⟨p, hp, rfl⟩ := List.mem_map.mp hq
      obtain ⟨l1, l2, l3⟩ := pmem p hp
      have l4 := tok.nm _ (pp p hp).1
      exact ⟨l2, l3, by show 1 ≤ p.2.2.length; rw [← l1]; exact l4.2.2.1, by show p.2.2.length ≤ 10; rw [← l1]; exact l4.2.2.2⟩, by unfold sndT; rw [List.length_map]; exact lp⟩
    have skk : SameK (fstT ps) (sndT ps) := kf.trans ks.symm
    have sll : ∀ k, (lookL (fstT ps) k).length = (lookL (sndT ps) k).length := by
      refine look_len (pair_of skk fun i p q hp hq => ?_)
      unfold fstT at hp
      unfold sndT at hq
      rw [List.getElem?_map, Option.map_eq_some_iff] at hp hq
      obtain ⟨u, hu, rfl⟩ := hp
      obtain ⟨u2, hu2, rfl⟩ := hq
      rw [hu] at hu2
      cases hu2
      exact (pmem u (List.mem_of_getElem? hu)).1
    have lead := fun ns => mvs_lead (ns := ns) np fun p hp => ⟨(pmem p hp).1, (pmem p hp).2.1, (pp p hp).2.2⟩
    have S316 := S315.trans s16
    refine g_kMake fun t3 H17 ht3 s17 ⟨dx3, i17⟩ => ?_
    refine ⟨t3, R, dx3, rows, rfl, i17, mL mRow _ _ _ _ (S316.trans s17).le0 R3, okr, nr, by omega, fun zs3 H18 hz3 hzs3 s18 T18 => ⟨rfl, ?_⟩⟩
    have s1618 : Step [] H16 H18 := s17.via s18 ht3
    walk_at "go"
    refine ⟨D1, fstT ps, rfl, mTb _ _ _ _ s1618.le0 r1, tokF.nd, by have := tokF.len; omega, fun C3 ts3 H19 hC3 fr3 nt3 et3 s19 T19 => ?_⟩
    walk_at "go"
    refine ⟨D2, sndT ps, rfl, mTb _ _ _ _ (s1618.trans s19).le0 r2, tokS.nd, by have := tokS.len; omega, fun C4 ts4 H20 hC4 fr4 nt4 et4 s20 T20 => ?_⟩
    have C3r : rTb H20 (.ref C3) (fstT ps) := by rw [← et3]; exact (T19.step0 s20).rp
    have C4r : rTb H20 (.ref C4) (sndT ps) := by rw [← et4]; exact T20.rp
    walk_at "go"
    refine ⟨t3, C3, C4, zs3, _, _, rfl, T18.le (s19.trans s20).le0, C3r, C4r, tokF.ls, tokS.ls, skk, sll, fun St H21 hSt s21 sR => ?_⟩
    have s1621 := (s1618.trans (s19.trans s20)).trans s21
    walk_at "go"
    refine ⟨D1, fstT ps, rfl, mTb _ _ _ _ s1621.le0 r1, tokF.nd, by have := tokF.len; omega, fun C5 ts5 H22 hC5 fr5 nt5 et5 s22 T22 => ?_⟩
    have C5r : rTb H22 (.ref C5) (fstT ps) := by rw [← et5]; exact T22.rp
    have s1622 := s1621.trans s22
    walk_at "go"
    refine ⟨C5, St, _, _, rfl, C5r, tokF, mL mMv _ _ _ _ s22.le0 sR, by have := mvs_len (ns := zs3.map (·.1)) (ys := sndT ps) tokF.ls; omega, fun B ts H23 em hB fr23 nd23 s23 T23 => ?_, fun d r H23 em _ _ _ => ?_⟩
    · rw [lead] at em
      have eb : sndT ps = tbOf ts := Except.ok.inj em
      have Br : rTb H23 (.ref B) (sndT ps) := by rw [eb]; exact T23.rp
      have s1623 := s1622.trans s23
      have okS : ∀ p ∈ sndT ps, (cL (cS (K := K))).ok p.2 := fun z hz y hy => ((tokS.nm z hz).2.1 y hy).ok
      have okF : ∀ p ∈ fstT ps, (cL (cS (K := K))).ok p.2 := fun z hz y hy => ((tokF.nm z hz).2.1 y hy).ok
      walk_at "go"
      refine g_isiDD T23.dk ?_
      walk_at "go"
      refine iteT ?_
      walk_at "go"
      refine g_eqDD (cL cS) Br (mTb _ _ _ _ s1623.le0 r2) okS tokS.nd ?_
      walk_at "go"
      refine iteT ?_
      walk_at "go"
      refine g_eqDD (cL cS) (mTb _ _ _ _ s23.le0 C5r) (mTb _ _ _ _ s1623.le0 r1) okF tokF.nd ?_
      walk_at "go"
      refine iteT ?_
      walk_at "go"
      intro Em H24 hEm s24 e24
      have s1624 := s1623.trans s24
      walk_at "go"
      refine ⟨D2, Em, _, [], rfl, mTb _ _ _ _ s1624.le0 r2, tokS, rL_nil e24, by simp, fun B2 ts' H25 em2 hB2 fr25 nd25 s25 T25 => ?_, fun d r H25 em2 _ _ _ => by cases em2⟩
      have eb2 : sndT ps = tbOf ts' := Except.ok.inj em2
      have Br2 : rTb H25 (.ref B2) (sndT ps) := by rw [eb2]; exact T25.rp
      walk_at "go"
      refine g_eqDD (cL cS) Br2 (mTb _ _ _ _ (s1624.trans s25).le0 r2) okS tokS.nd ?_
      exact q H25 (Sa3.trans ((S316.trans (s1624.trans s25)).up))
    · rw [lead] at em
      cases em
end

end My
namespace My
open PySem PySem.Spec PyProof.Rows L2
/-! the law -/
def sp_law (K : PySem.W.Frag) : Sp := fun vs H Q _ => ∃ (p : Addr) (ns : List Int), vs = [.ref p] ∧ SqL K H p (ns.map V.int) ∧ ∀ H', Q (.bl true) H'
section
variable {P : Program} {w : World} {K : PySem.W.Frag} {mg : Str → Option Value} {base : Heap}
theorem ok_law (C : Ctx K mg) {fd : FuncData} (F : FunD K "law" "law" (defArgs s_law) (defBody s_law) (defScope s_law) [] [] (He.fAd K ("law", none)) fd) : FnOk P w K mg base CX0 7 (He.fAd K ("law", none)) fd ["script"] (sp_law K) := by
  obtain ⟨f_w_right, fd_w_right, G_w_right, mg_w_right, kp_w_right, b_w_right⟩ := (ok_w_right (P := P) (w := w) (base := base) C).ex
  obtain ⟨f_w_pot, fd_w_pot, G_w_pot, mg_w_pot, kp_w_pot, b_w_pot⟩ := (ok_w_pot (P := P) (w := w) (base := base) C).ex
  obtain ⟨f_w_cell_at, fd_w_cell_at, G_w_cell_at, mg_w_cell_at, kp_w_cell_at, b_w_cell_at⟩ := (ok_w_cell_at (P := P) (w := w) (base := base) C).ex
  refine F.ok (CX := CX0) sc_law (fun vs H Q E h => ?_) (fun cdv A outer s H vs Q E hr h => ?_)
  · obtain ⟨_, _, rfl, _⟩ := h
    rfl
  have hu := hu_of hr
  refine ⟨_, PSs.nox (pss_cons (ps_for PassesOwn.never rfl (pi_range1 rfl (fr_range C) (pa_cons (pe_callB (cr_max2 rfl) (by rfl) (fr_max C) (by decide +kernel) (pa_cons pe_int (pa_cons (pe_callB (cr_min2 rfl) (by rfl) (fr_min C) (by decide +kernel) (pa_cons pe_int (pa_cons (pe_callB cr_lenL (by rfl) (fr_len C) PySem.boot_len (pa_cons (pv 0) pa_nil)) pa_nil))) pa_nil))) pa_nil)) (pg_name (i := 1) sc_law.nd rfl (Or.inl rfl))
    (pss_one (ps_if (pt_not (pt_val (pe_call G_w_right (hr.mono (by decide)) rfl mg_w_right kp_w_right b_w_right .nil pass0 (pa_cons (pe_call G_w_pot (hr.mono (by decide)) rfl mg_w_pot kp_w_pot b_w_pot .nil pass0 (pa_cons (pe_call G_w_cell_at (hr.mono (by decide)) rfl mg_w_cell_at kp_w_cell_at b_w_cell_at .nil pass0 (pa_cons (pv 0) (pa_cons (pv 1) pa_nil))) pa_nil)) pa_nil)))) (pss_one (ps_ret pe_bl)) pss_nil)))
    (pss_one (ps_ret pe_bl))), ?_⟩
  obtain ⟨p, ns, rfl, hS, q⟩ := h
  walk_at "go"
  refine g_kRng1 (by omega) (by omega) ?_
  refine wFor_rng (fun i σ H' => ∃ v1 : Option V, σ = [some (.ref p), v1] ∧ SqL K H' p (ns.map V.int)) ⟨_, rfl, hS⟩ ?_ ?_
  · rintro i σ H1 hi ⟨v1, rfl, h1⟩
    simp only [Int.zero_add]
    walk_at "go"
    refine ⟨p, ns, i, rfl, h1, fun z => ?_⟩
    walk_at "go"
    refine ⟨z, rfl, fun b H2 hb s2 p2 => ?_⟩
    walk_at "go"
    refine ⟨b, 0, rfl, p2, by decide, fun H3 s3 => ?_⟩
    walk_at "go"
    refine iteF ?_
    walk_at "go"
    exact ⟨_, rfl, sq_step0 h1 (s2.via s3 hb)⟩
  · rintro σ H1 ⟨v1, rfl, h1⟩
    walk_at "go"
    exact q H1
end

end My
namespace My
open PySem PySem.Spec PyProof.Rows L2
/-! the head -/
abbrev Rw : PySem.W.OpenRow := PySem.W.OpenLaw.row PySem.Challenge.rw_sherdhall_k76_moves_told
abbrev hk : PySem.W.Hook := hookX 4 ck fn
def ob (s : PySem.W.SharedT) : AlX := obsXG 4 ck fn (HandSHeadRun.getT s)
theorem ob_eq (s : PySem.W.SharedT) : ob s = hk.obs s.abs := obsXG_eq (HandSHeadRun.getT_eq s)
def loose0 : List Str := ["_wall", "SherdError", "NoPlace", "NoName", "Taken", "NoTicket", "NoWeight", "moves_of", "moved", "LETTERS", "LONGEST", "is_whole", "is_name", "need_name", "HEAVIEST", "is_weight", "Town", "_law_cell_at", "_law_pot", "_law_pick", "_law_name", "_law_names", "_law_houses", "_law_alike", "_law_mixed", "_law_tickets", "_law_homes", "_law_table", "_law_copy", "_law_other"]
def loose1 : List Str := ["_law_due", "_law_no_mix", "_law_right"]
def loose : List Str := loose0 ++ loose1
theorem run (w : World) : HandSHeadRun.RunEq Rw (PySem.W.view Rw.prog [38]) hk ob 4000 loose w := by
  intro os
  kernel_rfl

end My
namespace My
open PySem PySem.Spec PyProof.Rows L2
theorem facts {P : Program} {w : World} {K : PySem.W.Frag} {h : Heap} {mg : Str → Option Value} {f : Addr} (X : K.In h) (G : h.Ns mainGlobals mg) (hfa : mg ("law" : Str) = some (.ref f)) (c : SaysX ck fn K) :
    ∃ fd : FuncData, (∀ (s : Shared) (v : Value), BindsTo s fd ⟨[v], []⟩ [("script", v)]) ∧ ∀ base : Heap, K.In base → base.Ns mainGlobals mg → FnOk P w K mg base CX0 7 f fd ["script"] (sp_law K) := by
  have C : Ctx K mg := ⟨⟨_, X, G⟩, c⟩
  obtain ⟨fd, F⟩ := fn_law C
  have e := hfa.symm.trans (gl_law C)
  cases e
  have b := FunD.bindsA (ps := ["script"]) F fun _ _ _ _ _ _ us hl => match us, hl with | [_], _ => rfl
  exact ⟨fd, fun s v => b s [v] rfl, fun base _ _ => ok_law C F⟩
end My
open PySem PySem.W PySem.Calls PyProof.Rows
theorem PySem.Challenge.cw_sherdhall_k76_moves_told_holds : PySem.Challenge.rw_sherdhall_k76_moves_told.Holds := by
  w_on; o_law
  refine HandSHeadRun.head_any (r := OpenLaw.row PySem.Challenge.rw_sherdhall_k76_moves_told) (q := view (OpenLaw.row PySem.Challenge.rw_sherdhall_k76_moves_told).prog [38]) (H := My.hk) (ob := My.ob) (M := 4000) (loose := My.loose) (d := HandSHeadRun.topDef (OpenLaw.row PySem.Challenge.rw_sherdhall_k76_moves_told).prog 38) (kwd := []) My.ob_eq
    (by kernel_rfl) (fun s => by kernel_rfl) My.run (by kernel_rfl) (by kernel_rfl) (by kernel_rfl) (by rfl) (by first | assumption | decide +kernel) (by decide +kernel) ⟨rfl, rfl, rfl, rfl, rfl, by decide +kernel⟩ ?hw ?hc
  case hw => w_witness2
  case hc =>
    refine L2.walk_ofE (l := PySem.Challenge.rw_sherdhall_k76_moves_told) (n := 63) (k := 7) (x := "script") (CX := L2.CX0) rfl (by decide) (by kernel_rfl) ⟨rfl, by decide, by decide⟩ ?F (fun _ _ _ _ z => z)
    intro w mg fa h Y G hmg0
    obtain ⟨K, KX, c⟩ := Y
    have hmg : mg ("law" : PySem.Str) = some (.ref fa) := by
      have e : (HandSHeadRun.topDef (OpenLaw.row PySem.Challenge.rw_sherdhall_k76_moves_told).prog 38).name = ("law" : PySem.Str) := by kernel_rfl
      rw [← e]
      exact hmg0
    obtain ⟨fd, hb, hF⟩ := My.facts (P := (PySem.Challenge.rw_sherdhall_k76_moves_told).prog) (w := w) KX G hmg c
    exact ⟨K, fd, My.sp_law K, KX, hb, fun H a ns hl _ hS => ⟨a, ns, rfl, hS, fun _ => rfl⟩, hF⟩
namespace My

end My
