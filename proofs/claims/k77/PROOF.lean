import PyProof.Rows.All
import Wide.All
import OpenK.AllK
import Wide.FinOn
import HandS.ForMost
import HandS.Head0
import HandS.Head1
import HandS.Head2
import HandS.Head3
import HandS.HeadEnd
import HandS.HeadHook1
import HandS.HeadHook2
import HandS.Defaults
import HandS.Exc
import HandS.ExcInit
import HandS.Wide
import HandS.TryMany
import HandS.DictComp
import HandS.WordsExc
import HandS.IsInst
import HandS.DeepEq
import HandS.DictEq
import HandS.More
import HandS.ExcField
import HandS.Sort
import KE.KEqNest
import PySem.Challenge.RW_sherdhall_k77_moves_done
set_option Elab.async false
set_option linter.all false
set_option maxRecDepth 100000
set_option maxHeartbeats 4000000
/-! Kit: the head by facts, heaps in steps, the rules that lack. -/
namespace My
open PySem PySem.Spec PyProof.Rows L2
/-! ### facts by a Hook -/
abbrev AlX : Type := Bool × List He.FnW
def obsX (ck : List (PySem.W.Frag → Bool)) (fn : List He.DefD) (K : PySem.W.Frag) : AlX := ((ck.all fun f => f K) && fn.all fun d => d.ok K, fn.map fun d => He.fnW K d.at_)
def valX (fn : List He.DefD) : AlX := (true, fn.map He.DefD.val)
def SaysX (ck : List (PySem.W.Frag → Bool)) (fn : List He.DefD) (K : PySem.W.Frag) : Prop := obsX ck fn K = valX fn
def obsXG (n : Nat) (ck : List (PySem.W.Frag → Bool)) (fn : List He.DefD) (g : Addr → Option Obj) : AlX := obsX ck fn (He.frG g (He.asD g n))
def hookX (n : Nat) (ck : List (PySem.W.Frag → Bool)) (fn : List He.DefD) : PySem.W.Hook where
  α := AlX
  obs := fun s => obsXG n ck fn s.heap.get?
  val := fun _ => valX fn
  says := fun _ h => ∃ K : PySem.W.Frag, K.In h ∧ SaysX ck fn K
  of := fun _ _ e => ⟨_, He.frG_in, e⟩
  keeps := fun _ _ _ ⟨K, hK, c⟩ k => ⟨K, PySem.W.Frag.In.keeps hK k, c⟩
theorem obsXG_eq {n : Nat} {ck : List (PySem.W.Frag → Bool)} {fn : List He.DefD} {g : Addr → Option Obj} {s : Shared} (h : ∀ a, g a = s.heap.get? a) : obsXG n ck fn g = (hookX n ck fn).obs s := by
  have e : g = s.heap.get? := funext h
  rw [e] <;> rfl
section
variable {ck : List (PySem.W.Frag → Bool)} {fn : List He.DefD} {K : PySem.W.Frag}
theorem SaysX.fact (c : SaysX ck fn K) (i : Nat) {f : PySem.W.Frag → Bool} (h : ck[i]? = some f := by rfl) : f K = true := by
  have c1 := (He.ba (show ((ck.all fun f => f K) && fn.all fun d => d.ok K) = true from congrArg (fun z : AlX => z.1) c)).1
  exact List.all_eq_true.mp c1 f (List.mem_of_getElem? h)
theorem SaysX.def_ (c : SaysX ck fn K) (i : Nat) {d : He.DefD} (h : fn[i]? = some d := by rfl) : ∃ fd, FunD K d.name d.qual d.params d.body d.scope (d.dvs K) (d.kws K) (He.fAd K d.at_) fd := by
  have c2 := (He.ba (show ((ck.all fun f => f K) && fn.all fun d => d.ok K) = true from congrArg (fun z : AlX => z.1) c)).2
  have e : fn.map (fun d => He.fnW K d.at_) = fn.map He.DefD.val := congrArg (fun z : AlX => z.2) c
  have e2 : (fn.map fun d => He.fnW K d.at_)[i]? = (fn.map He.DefD.val)[i]? := by rw [e]
  rw [List.getElem?_map, List.getElem?_map, h] at e2
  exact He.DefD.funD (Option.some.inj e2) (List.all_eq_true.mp c2 d (List.mem_of_getElem? h))
end
/-- a def of the module as its callers see it -/
structure Has (P : Program) (w : World) (K : PySem.W.Frag) (mg : Str → Option Value) (base : Heap) (CX : CXT) (k : Nat) (x : Str) (ps : List Str) (sp : Sp) : Prop where
  ex : ∃ (f : Addr) (fd : FuncData), FnOk P w K mg base CX k f fd ps sp ∧ mg x = some (.ref f) ∧ PySem.W.keepIn K (.ref f) = true ∧ Binds K fd ps []
/-! ### own exceptions -/
/-- an own exception class, somewhere under ValueError -/
structure ExcT (K : PySem.W.Frag) (C : Addr) (fs : List Str) : Prop where
  ox : OexC K C
  xf : XfC K C
  no : ∀ f ∈ fs, PySem.W.findIn K (.ref C) f = some none
  ini : PySem.W.findIn K (.ref C) "__init__" = some (some (.ref (He.ma K C "__init__")))
  tI : PySem.W.typeIn K (.ref (He.ma K C "__init__")) = some (.type "function")
def excShape (K : PySem.W.Frag) (C : Addr) : Bool := match K.lookup C with
  | some ⟨.type "type", _, .cls cd, sl⟩ => (match cd.mro, sl.toList with
    | .ref C' :: bm, [_, _, _, _, some (.builtin n), _] => C' == C && (n == "ValueError.__new__" && (!cd.hasDel && (cd.hasDict && PySem.HandSPX.refsVE bm)))
    | _, _ => false)
  | _ => false
theorem excShape_ok {K : PySem.W.Frag} {C : Addr} (q : excShape K C = true) : ∃ nm q N bs bm sn sub ab col dd k0 k1 k2 k3 k5, K.lookup C = some (excClassObj nm q C N bs bm true sn sub ab col dd k0 k1 k2 k3 k5 "ValueError.__new__") ∧ PySem.HandSPX.refsVE bm = true := by
  unfold excShape at q
  split at q
  · rename_i dd cd sl ho
    split at q
    · rename_i C' bm k0 k1 k2 k3 n k5 hm hs
      simp only [Bool.and_eq_true, beq_iff_eq, Bool.not_eq_true'] at q
      obtain ⟨rfl, rfl, hdel, hdict, hb⟩ := q
      obtain ⟨nm, bs, mro, ns, qn, hd, sn, sub, ab, col, del⟩ := cd
      dsimp only at hm hdel hdict
      subst hm hdel hdict
      have hsl : sl = #[k0, k1, k2, k3, some (.builtin "ValueError.__new__"), k5] := by
        obtain ⟨l⟩ := sl
        simp only at hs
        rw [hs]
      subst hsl
      exact ⟨nm, qn, ns, bs, bm, sn, sub, ab, col, dd, k0, k1, k2, k3, k5, ho, hb⟩
    · cases q
  · cases q
def excB (K : PySem.W.Frag) (C : Addr) (fs : List Str) : Bool :=
  excShape K C && (He.eqO (PySem.W.findIn K (.ref C) "__setattr__") (some (some (.builtin "object.__setattr__"))) && (decide (PySem.W.subIn K (.ref C) (.type "BaseException") = some true) &&
    (decide (PySem.W.typeIn K (.ref C) = some (.type "type")) && (PySem.W.keepIn K (.ref C) && (xfB K C && ((fs.all fun f => He.eqO (PySem.W.findIn K (.ref C) f) (some none)) &&
    (He.eqO (PySem.W.findIn K (.ref C) "__init__") (some (some (.ref (He.ma K C "__init__")))) && decide (PySem.W.typeIn K (.ref (He.ma K C "__init__")) = some (.type "function")))))))))
theorem excB_ok {K : PySem.W.Frag} {C : Addr} {fs : List Str} (h : excB K C fs = true) : ExcT K C fs := by
  obtain ⟨h1, h⟩ := He.ba h
  obtain ⟨h2, h⟩ := He.ba h
  obtain ⟨h3, h⟩ := He.ba h
  obtain ⟨h4, h⟩ := He.ba h
  obtain ⟨h5, h⟩ := He.ba h
  obtain ⟨h6, h⟩ := He.ba h
  obtain ⟨h7, h⟩ := He.ba h
  obtain ⟨h8, h9⟩ := He.ba h
  exact ⟨⟨excShape_ok h1, He.eqO_ok h2, of_decide_eq_true h3, of_decide_eq_true h4, h5⟩, xfB_ok h6, fun f hf => He.eqO_ok (List.all_eq_true.mp h7 f hf), He.eqO_ok h8, of_decide_eq_true h9⟩
/-! ### several clauses, each with a name or without one -/
/-- behind a suite the name is gone -/
def endsAs (o : Option Nat) (D : Ends) : Ends := match o with
  | none => D
  | some i => { nx := fun σ' H' => D.nx (σ'.set i none) H', rt := D.rt, bk := fun σ' H' => D.bk (σ'.set i none) H', ct := fun σ' H' => D.ct (σ'.set i none) H' }
def slotAs (o : Option Nat) (a : Addr) (σ : L2.St) : L2.St := match o with
  | none => σ
  | some i => σ.set i (some (.ref a))
abbrev Cl := Value × Option Nat × (Addr → Value → Option Addr → TS)
def wManyA (K : PySem.W.Frag) (Wout : WX) (D : Ends) : List Cl → WX
  | [] => Wout
  | (c, o, ts) :: r => fun cls d σ H => ∃ b, PySem.W.exmOne K cls c = some b ∧ (b = true → ∀ a, H a = none → ts a cls d (endsAs o D) (slotAs o a σ) H) ∧ (b = false → wManyA K Wout D r cls d σ H)
inductive HdsA (X : Cx) : List ExceptHandler → List Cl → Prop
  | nil : HdsA X [] []
  | cons {x : Str} {c : Value} {ts : Addr → Value → Option Addr → TS} {b0 : Stmt} {suite : List Stmt} {np pos' : Pos} {hds : List ExceptHandler} {l : List Cl} (hc : Names X x c)
      (hsu : ∀ (a : Addr) (oe : Obj) (cls : Value) (d : Option Addr) (pn : List (Addr × Obj)), Zc cls d oe → (∃ vs, oe.data = .fields vs) → PSs (X.suite a ((a, oe) :: pn)) (b0 :: suite) (ts a cls d)) (r : HdsA X hds l) :
      HdsA X (.ExceptHandler (some (.Name x np)) none (b0 :: suite) pos' :: hds) ((c, none, ts) :: l)
  | consAs {x n : Str} {i : Nat} {c : Value} {ts : Addr → Value → Option Addr → TS} {b0 : Stmt} {suite : List Stmt} {np pos' : Pos} {hds : List ExceptHandler} {l : List Cl} (hi : X.N[i]? = some n) (hln : X.env.kindOf n = some .local) (hc : Names X x c)
      (hsu : ∀ (a : Addr) (oe : Obj) (cls : Value) (d : Option Addr) (pn : List (Addr × Obj)), Zc cls d oe → (∃ vs, oe.data = .fields vs) → PSs (X.suite a ((a, oe) :: pn)) (b0 :: suite) (ts a cls d)) (r : HdsA X hds l) :
      HdsA X (.ExceptHandler (some (.Name x np)) (some n) (b0 :: suite) pos' :: hds) ((c, some i, ts) :: l)
section
variable {X : Cx} {body : List Stmt} {h0 : ExceptHandler} {hds : List ExceptHandler} {l : List Cl} {pos : Pos} {tb : WX → TS} {Wout : WX}
theorem ps_try_A (hs : X.stack = X.env :: X.outer) (hf : X.env.frame = some X.env.locals) (hN : X.N.Nodup) (tk : Takes X Wout)
    (hb : ∀ (W : WX) (pn : List (Addr × Obj)) (xe : Value → Shared → Prop), Takes (X.tr pn xe) W → PassesOwn (model X.prog X.w) X.A X.env xe → PSs (X.tr pn xe) body (tb W))
    (hh : HdsA X (h0 :: hds) l) : PS X (.Try body (h0 :: hds) [] [] pos) (fun D σ H => tb (wManyA X.K Wout D l) D σ H) := by
  refine ⟨fun pins s σ H D I h => ?_⟩
  have ok := I.ok
  have hfr : X.A.frames = some (X.env :: X.outer) := by rw [ok.frames, hs]
  refine wpAny_Try_except ?_
  refine wpAny_mono ((hb (wManyA X.K Wout D l) (X.pn ++ pins) (fun e s₁ => wpAny (model X.prog X.w) X.A (noteFrame e X.env) (fun _ s₂ => wpAny (model X.prog X.w) X.A (setFlight e none) (fun _ s₃ =>
    wpAny (model X.prog X.w) X.A (handleBy e X.env (h0 :: hds)) (SP X pins D) X.xe s₃) X.xe s₂) X.xe s₁) (fun u s' xx => ?_) PassesOwn.looking).run [] s σ H D (I.toTry _) h) (fun f s1 hsp => ?_) (fun e s1 he => he)
  · obtain ⟨a, B, sI, pins', σ', H', cls, d, rfl, J', nb, up, sky, na, os, ag, w⟩ := xx
    have J : Inv X pins σ' H' sI := J'.ofTry ok
    have sky' : Sky B (X.env :: X.outer) a (Zc cls d) X.env.locals s'.heap := by rw [← hs]; exact sky
    show wpAny (model X.prog X.w) X.A (noteFrame (.ref a) X.env) _ _ _
    refine Sky.land Zc.steady hfr hf sky' fun h3 fl3 up3 => ?_
    have J3 : Inv X pins σ' H' { s' with heap := h3 } := J.landed nb fl3.1 (up.trans up3) os ag
    obtain ⟨oe3, vs3, he3, hz3, hd3⟩ := fl3.there
    have notFr : ∀ {h : Heap} {o : Obj} {vs : Array Value}, h.FunFrames B (X.env :: X.outer) → h.get? a = some o → o.data = .fields vs → a ∉ frs (X.env :: X.outer) := fun {h o vs} ff e dd hm => by
      obtain ⟨_, o', e', hnf⟩ := ff.mem hm
      rw [e] at e'; cases e'
      exact hnf _ dd
    have nfr := notFr fl3.2.2.1 he3 hd3
    have nL : a ≠ X.env.locals := fun z => nfr (List.mem_filterMap.mpr ⟨X.env, List.mem_cons_self, by rw [hf, z]⟩)
    have nF : a ∉ X.fs := fun hm => by
      obtain ⟨e, he, q⟩ := List.mem_filterMap.mp hm
      exact nfr (List.mem_filterMap.mpr ⟨e, List.mem_cons_of_mem _ he, q⟩)
    have S3 := J3.suite he3 hd3 na nL nF
    have LT : PySem.W.Looks (model X.prog X.w) h3 (typeOf (.ref a)) cls := fun A Q E s k q => wpAny_typeOf_ref (k _ _ he3) (by rw [hz3.1]; exact q)
    have test : ∀ {x : Str} {c : Value} {np : Pos} {Q : Value → Shared → Prop} {E : Value → Shared → Prop}, Names X x c → Q c { s' with heap := h3 } → wpAny (model X.prog X.w) (X.A.mark (some (.ref a))) (eval (.Name x np) X.env) Q E { s' with heap := h3 } := fun {x c np Q E} hc q => by
      obtain ⟨hg, hdbg, hm | ⟨hm, hv, hnn⟩⟩ := hc
      · exact ld_glob (X := X.suite a ((a, oe3) :: (X.pn ++ pins))) S3 hg hm q hdbg
      · exact ld_blt (X := X.suite a ((a, oe3) :: (X.pn ++ pins))) S3 hg hm hv q hnn hdbg
    have go : ∀ {hds' : List ExceptHandler} {l' : List Cl}, HdsA X hds' l' → wManyA X.K Wout D l' cls d σ' H' →
        wpAny (model X.prog X.w) X.A (handleBy (.ref a) X.env hds') (SP X pins D) X.xe { s' with heap := h3 } := by
      intro hds' l' hk
      induction hk with
      | nil =>
        intro w
        refine wpAny_handleBy_nil ?_
        obtain ⟨k1, k2, k3, oe, vs, T, oT, ts', he, hz, hd, h1, hr⟩ := id fl3
        unfold PySem.passOn
        refine wpAny_bind (wpAny_field he hd h1 ?_)
        rw [if_neg (show ¬ ((Value.ref T == Value.none) = true) from by simp)]
        have fin : wpAny (model X.prog X.w) X.A (setFlight (.ref a) X.env.frame) (fun _ s4 => wpAny (model X.prog X.w) X.A (throw (.ref a) : Sem Flow) (SP X pins D) X.xe s4) X.xe { s' with heap := h3 } := by
          rw [hf]
          refine HandSPX.setFlight_upZ fl3 fun h4 hh4 up4 => wpAny_throw (tk _ _ ?_)
          exact ⟨a, B, sI, pins, σ', H', cls, d, rfl, J, nb, (up.trans up3).trans up4, .inr (.inr (by rw [hs]; exact hh4)), na, os, ag, w⟩
        first
          | exact wpAny_bind (wpAny_pure (wpAny_bind fin))
          | exact wpAny_bind fin
      | @cons x c ts b0 suite np pos' hds2 l2 hc hsu r ih =>
        intro w
        obtain ⟨b, hb1, hyes, hno⟩ := w
        refine wpAny_handleBy_cons (codeAny_handlers_test ?_) (by intro q; cases q)
        have LM := PySem.W.exm_one (M := model X.prog X.w) (J3.kIn) LT hb1
        refine test hc (LM.here ?_)
        cases b with
        | true =>
          refine codeAny_handlers_suite ?_
          refine HandSPX.lands_againZ fl3 fun h4 fl4 up4 => ?_
          have J4 : Inv X pins σ' H' { s' with heap := h4 } := J.landed nb fl4.1 ((up.trans up3).trans up4) os ag
          obtain ⟨oe4, vs4, he4, hz4, hd4⟩ := fl4.there
          have S4 := J4.suite he4 hd4 na nL nF
          refine wpAny_mono ((hsu a oe4 cls d (X.pn ++ pins) hz4 ⟨_, hd4⟩).run [] _ _ H' _ S4 (hyes rfl a na)) (fun f s6 hsp => ?_) (fun _ _ z => False.elim z)
          cases f with
          | next =>
            obtain ⟨σ6, H6, S6, q6⟩ := hsp
            exact ⟨_, _, S6.unsuite ok, q6⟩
          | brk =>
            obtain ⟨σ6, H6, S6, q6⟩ := hsp
            exact ⟨_, _, S6.unsuite ok, q6⟩
          | cont =>
            obtain ⟨σ6, H6, S6, q6⟩ := hsp
            exact ⟨_, _, S6.unsuite ok, q6⟩
          | ret u =>
            obtain ⟨v6, σ6, H6, S6, r6, q6⟩ := hsp
            exact ⟨_, _, _, S6.unsuite ok, r6, q6⟩
        | false =>
          show wpAny _ X.A (handleBy (.ref a) X.env hds2) _ _ _
          exact ih (hno rfl)
      | @consAs x n i c ts b0 suite np pos' hds2 l2 hi hln hc hsu r ih =>
        intro w
        obtain ⟨b, hb1, hyes, hno⟩ := w
        have hloc : Loc X.env.scope n := .inl hln
        refine wpAny_handleBy_cons (codeAny_handlers_test ?_) (by intro q; cases q)
        have LM := PySem.W.exm_one (M := model X.prog X.w) (J3.kIn) LT hb1
        refine test hc (LM.here ?_)
        cases b with
        | true =>
          refine codeAny_handlers_suite_as ?_
          refine HandSPX.lands_againZ fl3 fun h4 fl4 up4 => ?_
          have J4 : Inv X pins σ' H' { s' with heap := h4 } := J.landed nb fl4.1 ((up.trans up3).trans up4) os ag
          obtain ⟨oe4, vs4, he4, hz4, hd4⟩ := fl4.there
          have S4 := J4.suite he4 hd4 na nL nF
          refine store_ok (X := X.suite a ((a, oe4) :: (X.pn ++ pins))) (v := .ref a) S4 hN hi hloc rfl (fun s5 S5 => ?_) (.inr hln)
          refine wpAny_mono ((hsu a oe4 cls d (X.pn ++ pins) hz4 ⟨_, hd4⟩).run [] s5 _ H' _ S5 (hyes rfl a na)) (fun f s6 hsp => ?_) (fun _ _ z => False.elim z)
          have end_ : ∀ {σ6 : L2.St} {H6 : Hp} {Q : Shared → Prop}, Inv (X.suite a ((a, oe4) :: (X.pn ++ pins))) [] σ6 H6 s6 → (∀ s7, Inv X pins (σ6.set i none) H6 s7 → Q s7) →
              wpAny (model X.prog X.w) X.A (do bindName X.env n .none; unbindBehindTheSuite X.env n pos') (fun _ s7 => Q s7) X.xe s6 := fun {σ6 H6 Q} S6 hq => gone_ok (S6.unsuite ok) hN hi hln hq
          cases f with
          | next =>
            obtain ⟨σ6, H6, S6, q6⟩ := hsp
            exact end_ S6 fun s7 J7 => ⟨_, _, J7, q6⟩
          | brk =>
            obtain ⟨σ6, H6, S6, q6⟩ := hsp
            exact end_ S6 fun s7 J7 => ⟨_, _, J7, q6⟩
          | cont =>
            obtain ⟨σ6, H6, S6, q6⟩ := hsp
            exact end_ S6 fun s7 J7 => ⟨_, _, J7, q6⟩
          | ret u =>
            obtain ⟨v6, σ6, H6, S6, r6, q6⟩ := hsp
            exact end_ S6 fun s7 J7 => ⟨_, _, _, J7, r6, q6⟩
        | false =>
          show wpAny _ X.A (handleBy (.ref a) X.env hds2) _ _ _
          exact ih (hno rfl)
    exact go hh w
  · cases f with
    | next =>
      obtain ⟨σ', H', J', q⟩ := hsp
      exact wpAny_execs_nil ⟨σ', H', J'.ofTry ok, q⟩
    | brk =>
      obtain ⟨σ', H', J', q⟩ := hsp
      exact ⟨σ', H', J'.ofTry ok, q⟩
    | cont =>
      obtain ⟨σ', H', J', q⟩ := hsp
      exact ⟨σ', H', J'.ofTry ok, q⟩
    | ret u =>
      obtain ⟨v, σ', H', J', r, q⟩ := hsp
      exact ⟨v, σ', H', J'.ofTry ok, r, q⟩
end
/-! ### powers of great ints -/
section
variable {X : Cx}
def CPowW (i j : Int) : Prop := 0 ≤ j ∧ (Builtin.Int.intBits i : Int) * j ≤ 2 ^ 27
theorem op_powW : OpR X (binaryOp .Pow) (rI CPowW fun i j => .int (i ^ j.toNat)) := opI fun _ _ _ _ _ _ _ hc q => pow_int hc.1 hc.2 q
end
theorem powW_ok {i j : Int} {a : Nat} (h : i.natAbs < 2 ^ a) (ha : 0 < a) (h0 : 0 ≤ j) (h1 : (a : Int) * j ≤ 2 ^ 27) : CPowW i j := by
  refine ⟨h0, Int.le_trans (Int.mul_le_mul_of_nonneg_right ?_ h0) h1⟩
  have x := PySem.Flt.log2_lt_of ha h
  unfold Builtin.Int.intBits
  split <;> omega
end My
/-! Kit2: heaps in steps; what a value stands for. -/
namespace My
open PySem PySem.Spec PyProof.Rows L2
/-- every tracked object stands -/
def Le (H H' : Hp) : Prop := ∀ b o, H b = some o → H' b = some o
theorem Le.refl (H : Hp) : Le H H := fun _ _ h => h
theorem Le.trans {H H1 H2 : Hp} (a : Le H H1) (b : Le H1 H2) : Le H H2 := fun c o h => b c o (a c o h)
theorem Le.free {H H' : Hp} (e : Le H H') {l : Addr} (h : H' l = none) : H l = none := by
  cases q : H l with
  | none => rfl
  | some o => rw [e l o q] at h; cases h
theorem Le.new {H : Hp} {p : Addr} {o : HO} (h : H p = none) : Le H (upd H p o) := fun a u e => by
  rw [upd_ne (ne_of_none e h)]
  exact e
/-- .. an object that H does not know may change -/
theorem Le.mut {H H' : Hp} {p : Addr} {o : HO} (e : Le H H') (h : H p = none) : Le H (upd H' p o) := fun a u ha => by
  rw [upd_ne (ne_of_none ha h)]
  exact e a u ha
/-- the heap but the objects at m -/
def hide (m : List Addr) (H : Hp) : Hp := fun b => if b ∈ m then none else H b
theorem hide_le {m : List Addr} {H : Hp} : Le (hide m H) H := fun b o h => by
  unfold hide at h
  split at h
  · cases h
  · exact h
theorem hide_in {m : List Addr} {H : Hp} {b : Addr} (h : b ∈ m) : hide m H b = none := if_pos h
theorem hide_out {m : List Addr} {H : Hp} {b : Addr} (h : b ∉ m) : hide m H b = H b := if_neg h
theorem hide_nil {H : Hp} : hide [] H = H := funext fun _ => if_neg (by simp)
theorem hide_cons {m : List Addr} {H : Hp} {a : Addr} : Le (hide (a :: m) H) (hide m H) := fun b o h => by
  unfold hide at h ⊢
  split at h
  · cases h
  · rename_i n
    rw [if_neg fun z => n (List.mem_cons_of_mem _ z)]
    exact h
theorem hide_sub {m m' : List Addr} {H : Hp} (s : ∀ b ∈ m, b ∈ m') : Le (hide m' H) (hide m H) := fun b o h => by
  unfold hide at h ⊢
  split at h
  · cases h
  · rename_i n
    rw [if_neg fun z => n (s b z)]
    exact h
/-- from H to H' only the objects at m may have changed; what is tracked is tracked -/
structure Step (m : List Addr) (H H' : Hp) : Prop where
  keep : ∀ b o, b ∉ m → H b = some o → H' b = some o
  live : ∀ b, H' b = none → H b = none
section
variable {m m' : List Addr} {H H1 H2 : Hp} {a p b : Addr} {o u : HO}
theorem Step.refl (m : List Addr) (H : Hp) : Step m H H := ⟨fun _ _ _ h => h, fun _ h => h⟩
theorem Step.trans (x : Step m H H1) (y : Step m H1 H2) : Step m H H2 := ⟨fun b o n h => y.keep b o n (x.keep b o n h), fun b h => x.live b (y.live b h)⟩
theorem Step.mono (x : Step m H H1) (s : ∀ b ∈ m, b ∈ m') : Step m' H H1 := ⟨fun b o n h => x.keep b o (fun z => n (s b z)) h, x.live⟩
theorem Step.up (x : Step [] H H1) : Step m H H1 := x.mono fun _ z => nomatch z
theorem Step.le (x : Step m H H1) : Le (hide m H) (hide m H1) := fun b o h => by
  unfold hide at h ⊢
  split at h
  · cases h
  · rename_i n
    rw [if_neg n]
    exact x.keep b o n h
theorem Step.le0 (x : Step [] H H1) : Le H H1 := fun b o h => x.keep b o (by simp) h
theorem Step.at (x : Step m H H1) (h : H b = some o) (n : b ∉ m) : H1 b = some o := x.keep b o n h
/-- an object laid anew -/
theorem Step.new (h : H p = none) : Step m H (upd H p o) := ⟨fun b u _ e => Le.new h b u e, fun b e => by
  by_cases hb : b = p
  · rw [hb, upd_same] at e; cases e
  · rwa [upd_ne hb] at e⟩
theorem Step.add (x : Step m H H1) (h : H1 p = none) : Step m H (upd H1 p o) := x.trans (Step.new h)
/-- an object that H does not know may change -/
theorem Step.mut (x : Step m H H1) (h : H p = none) : Step m H (upd H1 p o) := ⟨fun b u n e => by
    rw [upd_ne (ne_of_none e h)]
    exact x.keep b u n e, fun b e => by
  by_cases hb : b = p
  · rw [hb, upd_same] at e; cases e
  · rw [upd_ne hb] at e; exact x.live b e⟩
/-- one of m's objects is changed -/
theorem Step.wr (x : Step m H H1) (h : p ∈ m) : Step m H (upd H1 p o) := ⟨fun b u n e => by
    rw [upd_ne fun z => n (by rw [z]; exact h)]
    exact x.keep b u n e, fun b e => by
  by_cases hb : b = p
  · rw [hb, upd_same] at e; cases e
  · rw [upd_ne hb] at e; exact x.live b e⟩
/-- what was new and changed is new to H all the same -/
theorem Step.drop (x : Step (p :: m) H H1) (h : H p = none) : Step m H H1 := ⟨fun b o n e => x.keep b o (fun z => (List.mem_cons.mp z).elim (ne_of_none e h) n) e, x.live⟩
theorem Step.fresh (x : Step m H H1) (h : H1 b = none) : H b = none := x.live b h
theorem Step.ne (x : Step m H H1) (h : H b = some o) (hp : H1 p = none) : b ≠ p := ne_of_none h (x.live p hp)
end
section
variable {H H1 : Hp} {a b : Addr} {o : HO}
theorem Step.at0 (x : Step [] H H1) (h : H b = some o) : H1 b = some o := x.keep b o (by simp) h
theorem Step.at1 (x : Step [a] H H1) (h : H b = some o) (n : b ≠ a) : H1 b = some o := x.keep b o (by simpa using n) h
theorem Step.at2 {c : Addr} (x : Step [a, c] H H1) (h : H b = some o) (n : b ≠ a) (m : b ≠ c) : H1 b = some o := x.keep b o (by simp [n, m]) h
/-- an object new to H is changed -/
theorem Step.via {H2 : Hp} {m : List Addr} (x : Step m H H1) (y : Step [b] H1 H2) (h : H b = none) : Step m H H2 := ⟨fun c o n e => y.at1 (x.keep c o n e) (ne_of_none e h), fun c e => x.live c (y.live c e)⟩
theorem Step.and1 {H2 : Hp} {m : List Addr} (x : Step m H H1) (y : Step [b] H1 H2) (h : b ∈ m) : Step m H H2 := x.trans (y.mono fun c hc => by rw [List.mem_singleton.mp hc]; exact h)
theorem Step.drop2 {p : Addr} (x : Step [a, p] H H1) (h : H p = none) : Step [a] H H1 := ⟨fun c o n e => x.keep c o (by
    have := ne_of_none e h
    simp only [List.mem_singleton] at n
    simp [n, this]) e, x.live⟩
theorem Step.sub1 (x : Step [b] H H1) (m : List Addr) (h : b ∈ m) : Step m H H1 := x.mono fun c hc => by rw [List.mem_singleton.mp hc]; exact h
end
theorem Step.hid {H H1 : Hp} {b : Addr} {m : List Addr} (x : Step [b] H H1) (h : b ∈ m) : Le (hide m H) (hide m H1) := (x.sub1 m h).le
theorem Step.hid0 {H H1 : Hp} {m : List Addr} (x : Step [] H H1) : Le (hide m H) (hide m H1) := (x.up (m := m)).le
theorem hide_at {m : List Addr} {H : Hp} {b : Addr} {o : HO} (h : H b = some o) (n : b ∉ m) : hide m H b = some o := by rw [hide_out n]; exact h
/-! ### what a value stands for -/
abbrev Rp (α : Type) := Hp → V → α → Prop
def Mono {α : Type} (r : Rp α) : Prop := ∀ H H' v x, Le H H' → r H v x → r H' v x
def rI : Rp Int := fun _ v i => v = .int i
def rS : Rp Str := fun _ v s => v = .str s
def rB : Rp Bool := fun _ v s => v = .bl s
def oV {α : Type} (f : α → V) : Option α → V
  | none => .non
  | some x => f x
def rOS : Rp (Option Str) := fun _ v s => v = oV V.str s
def All2 {α : Type} (r : V → α → Prop) : List V → List α → Prop := Paired r
def rL {α : Type} (r : Rp α) : Rp (List α) := fun H v xs => ∃ a vs, v = .ref a ∧ H a = some (.lst vs) ∧ Paired (r H) vs xs
/-- a tuple by its places -/
def rT (f : Hp → List V → Prop) : Hp → V → Prop := fun H v => ∃ a vs, v = .ref a ∧ H a = some (.tup vs) ∧ f H vs
def rP2 {α β : Type} (r : Rp α) (q : Rp β) : Rp (α × β) := fun H v x => ∃ a u w, v = .ref a ∧ H a = some (.tup [u, w]) ∧ r H u x.1 ∧ q H w x.2
def rP3 {α β γ : Type} (r : Rp α) (q : Rp β) (s : Rp γ) : Rp (α × β × γ) := fun H v x => ∃ a u w z, v = .ref a ∧ H a = some (.tup [u, w, z]) ∧ r H u x.1 ∧ q H w x.2.1 ∧ s H z x.2.2
def rP4 {α β γ δ : Type} (r : Rp α) (q : Rp β) (s : Rp γ) (t : Rp δ) : Rp (α × β × γ × δ) := fun H v x => ∃ a u w z y, v = .ref a ∧ H a = some (.tup [u, w, z, y]) ∧ r H u x.1 ∧ q H w x.2.1 ∧ s H z x.2.2.1 ∧ t H y x.2.2.2
/-- a dict with numbers as keys -/
def rDI {β : Type} (q : Rp β) : Rp (List (Int × β)) := fun H v xs => ∃ a kvs, v = .ref a ∧ H a = some (.dK kvs) ∧ Paired (fun (p : Key × V) (x : Int × β) => p.1 = Sum.inl x.1 ∧ q H p.2 x.2) kvs xs
section
variable {α β γ δ : Type} {r : Rp α} {q : Rp β} {s : Rp γ} {t : Rp δ} {H H' : Hp}
theorem Pmap {α β : Type} {F G : α → β → Prop} {l1 : List α} {l2 : List β} (h : Paired F l1 l2) (f : ∀ a b, F a b → G a b) : Paired G l1 l2 := Paired.mapP h f
theorem mI : Mono rI := fun _ _ _ _ _ h => h
theorem mS : Mono rS := fun _ _ _ _ _ h => h
theorem mB : Mono rB := fun _ _ _ _ _ h => h
theorem mOS : Mono rOS := fun _ _ _ _ _ h => h
theorem mL (m : Mono r) : Mono (rL r) := fun H H' v x e ⟨a, vs, h1, h2, h3⟩ => ⟨a, vs, h1, e _ _ h2, Pmap h3 fun v x z => m H H' v x e z⟩
theorem mP2 (m : Mono r) (n : Mono q) : Mono (rP2 r q) := fun H H' v x e ⟨a, u, w, h1, h2, h3, h4⟩ => ⟨a, u, w, h1, e _ _ h2, m H H' _ _ e h3, n H H' _ _ e h4⟩
theorem mP3 (m : Mono r) (n : Mono q) (k : Mono s) : Mono (rP3 r q s) := fun H H' v x e ⟨a, u, w, z, h1, h2, h3, h4, h5⟩ => ⟨a, u, w, z, h1, e _ _ h2, m H H' _ _ e h3, n H H' _ _ e h4, k H H' _ _ e h5⟩
theorem mP4 (m : Mono r) (n : Mono q) (k : Mono s) (l : Mono t) : Mono (rP4 r q s t) := fun H H' v x e ⟨a, u, w, z, y, h1, h2, h3, h4, h5, h6⟩ => ⟨a, u, w, z, y, h1, e _ _ h2, m H H' _ _ e h3, n H H' _ _ e h4, k H H' _ _ e h5, l H H' _ _ e h6⟩
theorem mDI (n : Mono q) : Mono (rDI q) := fun H H' v x e ⟨a, kvs, h1, h2, h3⟩ => ⟨a, kvs, h1, e _ _ h2, Pmap h3 fun v x ⟨z1, z2⟩ => ⟨z1, n H H' _ _ e z2⟩⟩
/-- pairs by places -/
theorem P_get {F : α → β → Prop} : ∀ {l1 : List α} {l2 : List β} {i : Nat} {x : α}, Paired F l1 l2 → l1[i]? = some x → ∃ y, l2[i]? = some y ∧ F x y
  | _, _, _, _, .nil, e => by simp at e
  | _, _, 0, _, .cons r _, e => by simp at e; subst e; exact ⟨_, rfl, r⟩
  | _, _, i + 1, x, .cons _ t, e => by
    obtain ⟨u, h1, h2⟩ := P_get (i := i) (x := x) t (by simpa using e)
    exact ⟨u, by simpa using h1, h2⟩
theorem P_get2 {F : α → β → Prop} : ∀ {l1 : List α} {l2 : List β} {i : Nat} {y : β}, Paired F l1 l2 → l2[i]? = some y → ∃ x, l1[i]? = some x ∧ F x y
  | _, _, _, _, .nil, e => by simp at e
  | _, _, 0, _, .cons r _, e => by simp at e; subst e; exact ⟨_, rfl, r⟩
  | _, _, i + 1, x, .cons _ t, e => by
    obtain ⟨u, h1, h2⟩ := P_get2 (i := i) (y := x) t (by simpa using e)
    exact ⟨u, by simpa using h1, h2⟩
theorem P_snoc {F : α → β → Prop} {x : α} {y : β} (q : F x y) : ∀ {l1 : List α} {l2 : List β}, Paired F l1 l2 → Paired F (l1 ++ [x]) (l2 ++ [y])
  | _, _, .nil => .cons q .nil
  | _, _, .cons r t => .cons r (P_snoc q t)
theorem P_len {F : α → β → Prop} {l1 : List α} {l2 : List β} (h : Paired F l1 l2) : l1.length = l2.length := Paired.length h
/-- pairs that are a map -/
theorem P_map {f : β → α} : ∀ {l2 : List β}, Paired (fun x y => x = f y) (l2.map f) l2
  | [] => .nil
  | _ :: _ => .cons rfl P_map
theorem P_eq {f : β → α} : ∀ {l1 : List α} {l2 : List β}, Paired (fun x y => x = f y) l1 l2 → l1 = l2.map f
  | _, _, .nil => rfl
  | _, _, .cons e t => by rw [e, P_eq t, List.map_cons]
theorem rL_nil {a : Addr} (h : H a = some (.lst [])) : rL r H (.ref a) [] := ⟨a, [], rfl, h, .nil⟩
theorem rL_len {v : V} {xs : List α} (h : rL r H v xs) : ∃ a vs, v = .ref a ∧ H a = some (.lst vs) ∧ vs.length = xs.length := by
  obtain ⟨a, vs, e, h1, h2⟩ := h
  exact ⟨a, vs, e, h1, P_len h2⟩
theorem rLS_of {a : Addr} {xs : List Str} (h : H a = some (.lst (xs.map V.str))) : rL rS H (.ref a) xs := ⟨a, _, rfl, h, P_map (f := V.str)⟩
theorem rLI_of {a : Addr} {xs : List Int} (h : H a = some (.lst (xs.map V.int))) : rL rI H (.ref a) xs := ⟨a, _, rfl, h, P_map (f := V.int)⟩
theorem rLS_at {v : V} {xs : List Str} (h : rL rS H v xs) : ∃ a, v = .ref a ∧ H a = some (.lst (xs.map V.str)) := by
  obtain ⟨a, vs, rfl, h1, h2⟩ := h
  exact ⟨a, rfl, by rw [h1, P_eq (f := V.str) h2]⟩
theorem rLI_at {v : V} {xs : List Int} (h : rL rI H v xs) : ∃ a, v = .ref a ∧ H a = some (.lst (xs.map V.int)) := by
  obtain ⟨a, vs, rfl, h1, h2⟩ := h
  exact ⟨a, rfl, by rw [h1, P_eq (f := V.int) h2]⟩
end
theorem erase_perm {α : Type} : ∀ {xs : List α} {k : Nat} (h : k < xs.length), (xs[k] :: xs.eraseIdx k).Perm xs
  | [], _, h => absurd h (Nat.not_lt_zero _)
  | _ :: _, 0, _ => List.Perm.refl _
  | x :: xs, k + 1, h => (List.Perm.swap x (xs[k]'(Nat.lt_of_succ_lt_succ h)) (xs.eraseIdx k)).trans ((erase_perm (xs := xs) (Nat.lt_of_succ_lt_succ h)).cons x)
/-- what is a permutation of a map is a map of a permutation -/
theorem perm_map {α β : Type} {f : α → β} : ∀ {ys : List β} {xs : List α}, ys.Perm (xs.map f) → ∃ zs : List α, zs.Perm xs ∧ ys = zs.map f := by
  intro ys xs h
  generalize hw : xs.map f = ws at h
  induction h generalizing xs with
  | nil => exact ⟨[], by rw [List.map_eq_nil_iff.mp hw], rfl⟩
  | @cons x l1 l2 _ ih =>
    cases xs with
    | nil => cases hw
    | cons y r =>
      obtain ⟨e1, e2⟩ := List.cons.inj hw
      obtain ⟨zs, hz, e⟩ := ih e2
      exact ⟨y :: zs, hz.cons y, by rw [List.map_cons, e1, e]⟩
  | swap x y l =>
    cases xs with
    | nil => cases hw
    | cons a r =>
      cases r with
      | nil => cases hw
      | cons b r =>
        obtain ⟨e1, e2⟩ := List.cons.inj hw
        obtain ⟨e2, e3⟩ := List.cons.inj e2
        exact ⟨b :: a :: r, List.Perm.swap a b r, by rw [List.map_cons, List.map_cons, e1, e2, e3]⟩
  | trans _ _ ih1 ih2 =>
    obtain ⟨z1, h1, e1⟩ := ih2 hw
    obtain ⟨z2, h2, e2⟩ := ih1 e1.symm
    exact ⟨z2, h2.trans h1, e2⟩
theorem perm_ints {ys : List V} {ns : List Int} (h : ys.Perm (ns.map V.int)) : ∃ zs : List Int, zs.Perm ns ∧ ys = zs.map V.int := perm_map h
theorem perm_strs {ys : List V} {ns : List Str} (h : ys.Perm (ns.map V.str)) : ∃ zs : List Str, zs.Perm ns ∧ ys = zs.map V.str := perm_map h
theorem sub_len {α : Type} [BEq α] [LawfulBEq α] : ∀ {l1 l2 : List α}, l1.Nodup → (∀ x ∈ l1, x ∈ l2) → l1.length ≤ l2.length
  | [], _, _, _ => Nat.zero_le _
  | x :: r, l2, hn, hs => by
    obtain ⟨h1, h2⟩ := List.nodup_cons.mp hn
    have hx := hs x (List.mem_cons_self ..)
    have ih := sub_len (l1 := r) (l2 := l2.erase x) h2 fun y hy => (List.mem_erase_of_ne (fun e => h1 (by rw [← e]; exact hy))).mpr (hs y (List.mem_cons_of_mem _ hy))
    have l := List.length_erase_of_mem hx
    have : 0 < l2.length := List.length_pos_of_mem hx
    rw [List.length_cons]
    omega
theorem cutV_to {xs : List V} {n : Int} (h : 0 ≤ n) : cutV xs none (some n) = xs.take n.toNat := by
  unfold cutV
  show (xs.drop 0).take ((if n < 0 then (n + (xs.length : Int)).toNat else min n.toNat xs.length) - 0) = _
  rw [if_neg (by omega), List.drop_zero, Nat.sub_zero, List.take_eq_take_iff]
  omega
theorem cutV_from {xs : List V} {n : Int} (h : 0 ≤ n) : cutV xs (some n) none = xs.drop n.toNat := by
  unfold cutV
  show (xs.drop (if n < 0 then (n + (xs.length : Int)).toNat else min n.toNat xs.length)).take (xs.length - (if n < 0 then (n + (xs.length : Int)).toNat else min n.toNat xs.length)) = _
  rw [if_neg (by omega), List.take_of_length_le (by rw [List.length_drop]; omega)]
  by_cases hl : n.toNat ≤ xs.length
  · rw [Nat.min_eq_left hl]
  · rw [Nat.min_eq_right (by omega), List.drop_of_length_le (Nat.le_refl _), List.drop_of_length_le (by omega)]
/-! ### the pot of a law's draws -/
def PotAt (H : Hp) (a : Addr) (c : Nat) : Prop := ∃ p0 p1 p2 : Int, H a = some (.lst [.int p0, .int p1, .int p2]) ∧ 0 ≤ p0 ∧ 0 ≤ p1 ∧ p1 < 2 ^ 128 ∧ 0 ≤ p2 ∧ p2 ≤ (c : Int)
theorem PotAt.mono {H : Hp} {a : Addr} {c c' : Nat} (h : PotAt H a c) (l : c ≤ c') : PotAt H a c' := by
  obtain ⟨p0, p1, p2, h1, h2, h3, h4, h5, h6⟩ := h
  exact ⟨p0, p1, p2, h1, h2, h3, h4, h5, by omega⟩
theorem PotAt.keep {H H' : Hp} {a : Addr} {c : Nat} (h : PotAt H a c) (k : ∀ o, H a = some o → H' a = some o) : PotAt H' a c := by
  obtain ⟨p0, p1, p2, h1, h2⟩ := h
  exact ⟨p0, p1, p2, k _ h1, h2⟩
theorem PotAt.upd {H : Hp} {a p : Addr} {c : Nat} {o : HO} (h : PotAt H a c) (n : a ≠ p) : PotAt (upd H p o) a c := h.keep fun _ e => by rw [upd_ne n]; exact e
theorem PotAt.ne {H : Hp} {a p : Addr} {c : Nat} (h : PotAt H a c) (n : H p = none) : a ≠ p := by
  obtain ⟨p0, p1, p2, h1, h2⟩ := h
  exact ne_of_none h1 n
theorem PotAt.step0 {H H' : Hp} {a : Addr} {c : Nat} (h : PotAt H a c) (x : Step [] H H') : PotAt H' a c := h.keep fun _ e => x.at0 e
theorem PotAt.step1 {H H' : Hp} {a b : Addr} {c : Nat} (h : PotAt H a c) (x : Step [b] H H') (n : a ≠ b) : PotAt H' a c := h.keep fun _ e => x.at1 e n
theorem ltLine {n : Nat} (h : n ≤ 100000) : n < sizeLine := Nat.lt_of_le_of_lt h (by decide)
theorem leLine {n : Nat} (h : n ≤ 100000) : n ≤ sizeLine := Nat.le_of_lt (ltLine h)
/-! names and single signs -/
abbrev cs (z : Str) : List Nat := z.cps.toList
theorem cs_len (z : Str) : (cs z).length = z.length := by simp [cs, Str.length]
theorem cs_inj {a b : Str} (h : cs a = cs b) : a = b := by
  obtain ⟨x⟩ := a
  obtain ⟨y⟩ := b
  have : x.toList = y.toList := h
  rw [Array.toList_inj] at this
  rw [this]
theorem cs_add (a b : Str) : cs (a ++ b) = cs a ++ cs b := by
  show ((a.cps ++ b.cps)).toList = _
  simp
theorem cs_cut (z : Str) (lo hi : Option Int) : cs (cutS z lo hi) = ((cs z).drop (HT.sIx z.length 0 lo)).take (HT.sIx z.length z.length hi - HT.sIx z.length 0 lo) := by
  unfold cutS cs
  simp
theorem cs_join0 : ∀ ys : List Str, cs (Str.join ("" : Str) ys) = (ys.map cs).flatten
  | [] => rfl
  | [x] => by simp [Str.join]
  | x :: y :: r => by
    show cs (x ++ ("" : Str) ++ Str.join ("" : Str) (y :: r)) = _
    have e : cs ("" : Str) = [] := by decide +kernel
    rw [cs_add, cs_add, e, cs_join0 (y :: r)]
    simp
def isLow (c : Nat) : Prop := 97 ≤ c ∧ c ≤ 122
structure IsNm (z : Str) : Prop where
  lo : 1 ≤ z.length
  hi : z.length ≤ 8
  low : ∀ c ∈ cs z, isLow c
theorem letters_low : ∀ c ∈ cs ("abcdefghijklmnopqrstuvwxyz" : Str), isLow c := by
  unfold isLow
  decide +kernel
theorem letters_len : (cs ("abcdefghijklmnopqrstuvwxyz" : Str)).length = 26 := by decide +kernel
theorem letters_line : ("abcdefghijklmnopqrstuvwxyz" : Str).length ≤ sizeLine := by decide +kernel
theorem letter_at {i : Int} (h0 : 0 ≤ i) (h1 : i < 26) : ∃ c, isLow c ∧ atI (cs ("abcdefghijklmnopqrstuvwxyz" : Str)) i = some c := by
  have l : i.toNat < (cs ("abcdefghijklmnopqrstuvwxyz" : Str)).length := by rw [letters_len]; omega
  refine ⟨(cs ("abcdefghijklmnopqrstuvwxyz" : Str))[i.toNat], letters_low _ (List.getElem_mem l), ?_⟩
  have e : i = ((i.toNat : Nat) : Int) := by omega
  conv => lhs; rw [e]
  exact atI_nat (List.getElem?_eq_getElem l)
/-- a list of single signs -/
theorem signs_flat : ∀ {ss : List Str}, (∀ s ∈ ss, ∃ c, s = ⟨#[c]⟩ ∧ isLow c) → (∀ c ∈ (ss.map cs).flatten, isLow c) ∧ ((ss.map cs).flatten).length = ss.length ∧ (ss.map (·.length)).sum = ss.length
  | [], _ => ⟨by simp, rfl, rfl⟩
  | s :: r, h => by
    obtain ⟨c, rfl, hc⟩ := h s (List.mem_cons_self ..)
    obtain ⟨h1, h2, h3⟩ := signs_flat (ss := r) fun s hs => h s (List.mem_cons_of_mem _ hs)
    refine ⟨fun d hd => ?_, ?_, ?_⟩
    · rw [List.map_cons, List.flatten_cons] at hd
      rcases List.mem_append.mp hd with hd | hd
      · have : d = c := by simpa [cs] using hd
        rw [this]; exact hc
      · exact h1 d hd
    · rw [List.map_cons, List.flatten_cons, List.length_append, h2]
      simp [cs]; omega
    · rw [List.map_cons, List.sum_cons, h3]
      simp [Str.length]; omega
theorem nm_of_signs {ss : List Str} (h : ∀ s ∈ ss, ∃ c, s = ⟨#[c]⟩ ∧ isLow c) (h1 : 1 ≤ ss.length) (h2 : ss.length ≤ 8) : IsNm (Str.join ("" : Str) ss) := by
  obtain ⟨e1, e2, e3⟩ := signs_flat h
  have l : (Str.join ("" : Str) ss).length = ss.length := by rw [← cs_len, cs_join0, e2]
  exact ⟨by omega, by omega, by rw [cs_join0]; exact e1⟩
theorem mem_cut {z : Str} {lo hi : Option Int} {c : Nat} (h : c ∈ cs (cutS z lo hi)) : c ∈ cs z := by
  rw [cs_cut] at h
  exact List.mem_of_mem_drop (List.mem_of_mem_take h)
theorem len_add (a b : Str) : (a ++ b).length = a.length + b.length := by rw [← cs_len, ← cs_len, ← cs_len, cs_add, List.length_append]
theorem len_cut_le (z : Str) (lo hi : Option Int) : (cutS z lo hi).length ≤ z.length := by
  rw [← cs_len, ← cs_len, cs_cut, List.length_take, List.length_drop]
  omega
theorem len_cut_to (z : Str) {k : Int} (h : 0 ≤ k) : (cutS z none (some k)).length = min k.toNat z.length := by
  rw [← cs_len, cs_cut, List.length_take, List.length_drop, cs_len]
  show min ((if k < 0 then (k + (z.length : Int)).toNat else min k.toNat z.length) - 0) (z.length - 0) = _
  rw [if_neg (by omega)]
  omega
theorem len_one {c : Nat} : (⟨#[c]⟩ : Str).length = 1 := rfl
/-- a name with one letter put in or exchanged -/
theorem nm_turn {old : Str} {lo hi : Option Int} {k : Int} {c : Nat} (h : IsNm old) (hc : isLow c) (h8 : k = 8) : IsNm (cutS (cutS old none lo ++ (⟨#[c]⟩ : Str) ++ cutS old hi none) none (some k)) := by
  subst h8
  have l : (cutS (cutS old none lo ++ (⟨#[c]⟩ : Str) ++ cutS old hi none) none (some 8)).length = min 8 (cutS old none lo ++ (⟨#[c]⟩ : Str) ++ cutS old hi none).length := len_cut_to _ (by decide)
  have l2 : (cutS old none lo ++ (⟨#[c]⟩ : Str) ++ cutS old hi none).length = (cutS old none lo).length + 1 + (cutS old hi none).length := by rw [len_add, len_add, len_one]
  refine ⟨by omega, by omega, fun d hd => ?_⟩
  have hd := mem_cut hd
  rw [cs_add, cs_add] at hd
  rcases List.mem_append.mp hd with hd | hd
  · rcases List.mem_append.mp hd with hd | hd
    · exact h.low d (mem_cut hd)
    · have : d = c := by simpa [cs] using hd
      rw [this]; exact hc
  · exact h.low d (mem_cut hd)
theorem at4 {x0 x1 x2 x3 j : Int} (h0 : 0 ≤ j) (h1 : j < 4) : ∃ m : Int, (m = x0 ∨ m = x1 ∨ m = x2 ∨ m = x3) ∧ atI [V.int x0, V.int x1, V.int x2, V.int x3] j = some (.int m) := by
  have : j = 0 ∨ j = 1 ∨ j = 2 ∨ j = 3 := by omega
  rcases this with rfl | rfl | rfl | rfl
  · exact ⟨x0, by simp, rfl⟩
  · exact ⟨x1, by simp, rfl⟩
  · exact ⟨x2, by simp, rfl⟩
  · exact ⟨x3, by simp, rfl⟩
end My
/-! Kit3: going through a reading, head by head. -/
namespace My
open PySem PySem.Spec PyProof.Rows L2
section
variable {K : PySem.W.Frag} {σ : L2.St} {H H1 : Hp} {Q : VK} {ta tb te tc : TE} {tA tB' : TT} {t u : TS} {nx bk ct : L2.St → Hp → Prop} {rt : VK} {v x y : V} {i j : Int} {xs ys : List V} {QT : Bool → Hp → Prop} {QA : List V → Hp → Prop} {tr : TA}
theorem g_seq (h : t ⟨u ⟨nx, rt, bk, ct⟩, rt, bk, ct⟩ σ H) : tSeq t u ⟨nx, rt, bk, ct⟩ σ H := h
theorem g_next (h : nx σ H) : tNext ⟨nx, rt, bk, ct⟩ σ H := h
theorem g_break (h : bk σ H) : tBreak ⟨nx, rt, bk, ct⟩ σ H := h
theorem g_cont (h : ct σ H) : tCont ⟨nx, rt, bk, ct⟩ σ H := h
theorem g_ret (h : te σ H rt) : tRet te ⟨nx, rt, bk, ct⟩ σ H := h
theorem g_retN (h : rt .non H) : tRetN ⟨nx, rt, bk, ct⟩ σ H := h
theorem g_drop (h : te σ H (fun _ H1 => nx σ H1)) : tDrop te ⟨nx, rt, bk, ct⟩ σ H := h
theorem g_set {k : Nat} (h : te σ H (fun x H1 => nx (σ.set k (some x)) H1)) : tAsg te (gName k) ⟨nx, rt, bk, ct⟩ σ H := h
theorem g_asg {g : TG} (h : te σ H (fun x H1 => g x σ H1 nx)) : tAsg te g ⟨nx, rt, bk, ct⟩ σ H := h
theorem g_name {k : Nat} {Q : L2.St → Hp → Prop} (h : Q (σ.set k (some x)) H) : gName k x σ H Q := h
theorem g_if (h : tA σ H (fun b H1 => if b = true then t ⟨nx, rt, bk, ct⟩ σ H1 else u ⟨nx, rt, bk, ct⟩ σ H1)) : tIfS tA t u ⟨nx, rt, bk, ct⟩ σ H := h
theorem g_ifE (h : tA σ H (fun b H1 => if b = true then ta σ H1 Q else tb σ H1 Q)) : tIf tA ta tb σ H Q := h
theorem g_op {r : R2} (h : ta σ H (fun x H1 => tb σ H1 (fun y H2 => r x y H2 Q))) : tOp r ta tb σ H Q := h
theorem g_un {r : V → Hp → VK → Prop} (h : ta σ H (fun x H1 => r x H1 Q)) : tUn r ta σ H Q := h
theorem g_var {k : Nat} (h : σ[k]? = some (some v)) (q : Q v H) : tVar k σ H Q := ⟨v, h, q⟩
theorem g_c (q : Q v H) : tC v σ H Q := q
theorem g_nil (q : QA [] H) : tNil σ H QA := q
theorem g_cons (h : ta σ H (fun x H1 => tr σ H1 (fun xs H2 => QA (x :: xs) H2))) : tCons ta tr σ H QA := h
theorem g_CB {r : List V → Hp → VK → Prop} (h : tr σ H (fun vs H1 => r vs H1 Q)) : tCB r tr σ H Q := h
theorem g_call {sp : Sp} {E : XK} (h : tr σ H (fun vs H1 => sp vs H1 Q E)) : tCall sp [] E tr σ H Q := by
  have e : (fun (vs : List V) (H1 : Hp) => sp (vs ++ []) H1 Q E) = fun vs H1 => sp vs H1 Q E := by
    funext vs H1
    rw [List.append_nil]
  show tr σ H (fun vs H1 => sp (vs ++ []) H1 Q E)
  rw [e]
  exact h
/-- a bool comes -/
def kB (Q : Bool → Hp → Prop) : VK := fun x H' => ∃ k, x = .bl k ∧ Q k H'
theorem g_kB {b : Bool} (q : QT b H) : kB QT (.bl b) H := ⟨b, rfl, q⟩
theorem g_test (h : te σ H (kB QT)) : tTest te σ H QT := h
theorem g_B (h : te σ H (kB QT)) : tB te σ H QT := h
theorem g_and (h : tA σ H (fun c H1 => if c = true then tB' σ H1 QT else QT false H1)) : tAnd tA tB' σ H QT := h
theorem g_or (h : tA σ H (fun c H1 => if c = true then QT true H1 else tB' σ H1 QT)) : tOr tA tB' σ H QT := h
theorem g_not (h : tA σ H (fun c H1 => QT (!c) H1)) : tNot tA σ H QT := h
def kAnd (tb : TE) (σ : L2.St) (Q : VK) : VK := fun x H1 => ∃ c, x = .bl c ∧ if c = true then tb σ H1 Q else Q (.bl false) H1
def kOr (tb : TE) (σ : L2.St) (Q : VK) : VK := fun x H1 => ∃ c, x = .bl c ∧ if c = true then Q (.bl true) H1 else tb σ H1 Q
theorem g_andV (h : ta σ H (kAnd tb σ Q)) : tAndV ta tb σ H Q := h
theorem g_orV (h : ta σ H (kOr tb σ Q)) : tOrV ta tb σ H Q := h
theorem g_kAnd {c : Bool} (h : if c = true then tb σ H Q else Q (.bl false) H) : kAnd tb σ Q (.bl c) H := ⟨c, rfl, h⟩
theorem g_kOr {c : Bool} (h : if c = true then Q (.bl true) H else tb σ H Q) : kOr tb σ Q (.bl c) H := ⟨c, rfl, h⟩
def kNot (Q : VK) : VK := fun x H1 => ∃ c, x = .bl c ∧ Q (.bl (!c)) H1
theorem g_notV (h : ta σ H (kNot Q)) : tNotV ta σ H Q := h
theorem g_kNot {c : Bool} (h : Q (.bl (!c)) H) : kNot Q (.bl c) H := ⟨c, rfl, h⟩
theorem g_I0 {g : Int → Int → V} (q : Q (g i j) H) : rI0 g (.int i) (.int j) H Q := ⟨i, j, rfl, rfl, q⟩
theorem g_I {C : Int → Int → Prop} {g : Int → Int → V} (c : C i j) (q : Q (g i j) H) : L2.rI C g (.int i) (.int j) H Q := ⟨i, j, rfl, rfl, c, q⟩
theorem g_U {g : Int → V} (q : Q (g i) H) : rU g (.int i) H Q := ⟨i, rfl, q⟩
theorem g_eq (s : scal x y = true) (q : Q (.bl (decide (x = y))) H) : rEq x y H Q := ⟨s, q⟩
theorem g_ne (s : scal x y = true) (q : Q (.bl (!decide (x = y))) H) : rNe x y H Q := ⟨s, q⟩
theorem g_eqI (q : Q (.bl (decide (i = j))) H) : rEq (.int i) (.int j) H Q := ⟨rfl, by
  have e : decide (V.int i = V.int j) = decide (i = j) := by by_cases h : i = j <;> simp [h]
  rw [e]
  exact q⟩
theorem g_neI (q : Q (.bl (!decide (i = j))) H) : rNe (.int i) (.int j) H Q := ⟨rfl, by
  have e : decide (V.int i = V.int j) = decide (i = j) := by by_cases h : i = j <;> simp [h]
  rw [e]
  exact q⟩
theorem g_eqS {a b : Str} (q : Q (.bl (decide (a = b))) H) : rEq (.str a) (.str b) H Q := ⟨rfl, by
  have e : decide (V.str a = V.str b) = decide (a = b) := by by_cases h : a = b <;> simp [h]
  rw [e]
  exact q⟩
theorem g_neS {a b : Str} (q : Q (.bl (!decide (a = b))) H) : rNe (.str a) (.str b) H Q := ⟨rfl, by
  have e : decide (V.str a = V.str b) = decide (a = b) := by by_cases h : a = b <;> simp [h]
  rw [e]
  exact q⟩
theorem g_ite {p : Prop} [Decidable p] {A B : Prop} (h1 : p → A) (h2 : ¬ p → B) : if decide p = true then A else B := by
  by_cases h : p
  · rw [if_pos (decide_eq_true h)]; exact h1 h
  · rw [if_neg (by simp [h])]; exact h2 h
theorem g_iteN {p : Prop} [Decidable p] {A B : Prop} (h1 : ¬ p → A) (h2 : p → B) : if (!decide p) = true then A else B := by
  by_cases h : p
  · rw [if_neg (by simp [h])]; exact h2 h
  · rw [if_pos (by simp [h])]; exact h1 h
theorem g_iteB {b : Bool} {A B : Prop} (h1 : b = true → A) (h2 : b = false → B) : if b = true then A else B := by
  cases b with
  | true => exact iteT (h1 rfl)
  | false => exact iteF (h2 rfl)
theorem g_iteNB {b : Bool} {A B : Prop} (h1 : b = false → A) (h2 : b = true → B) : if (!b) = true then A else B := by
  cases b with
  | false => exact iteT (h1 rfl)
  | true => exact iteF (h2 rfl)
/-! displays -/
def kLst (Q : VK) : List V → Hp → Prop := fun xs H1 => xs.length ≤ sizeLine ∧ ∀ p, H1 p = none → Q (.ref p) (upd H1 p (.lst xs))
def kTup (Q : VK) : List V → Hp → Prop := fun xs H1 => xs.length ≤ sizeLine ∧ ∀ p, H1 p = none → Q (.ref p) (upd H1 p (.tup xs))
theorem g_lst (h : tr σ H (kLst Q)) : tLst tr σ H Q := h
theorem g_tup (h : tr σ H (kTup Q)) : tTup tr σ H Q := h
theorem g_kLst (hl : xs.length ≤ sizeLine) (q : ∀ p H2, H p = none → Step [] H H2 → H2 p = some (.lst xs) → Q (.ref p) H2) : kLst Q xs H := ⟨hl, fun p hp => q p _ hp (Step.new hp) upd_same⟩
theorem g_kTup (hl : xs.length ≤ sizeLine) (q : ∀ p H2, H p = none → Step [] H H2 → H2 p = some (.tup xs) → Q (.ref p) H2) : kTup Q xs H := ⟨hl, fun p hp => q p _ hp (Step.new hp) upd_same⟩
theorem g_dnewK (q : ∀ p H2, H p = none → Step [] H H2 → H2 p = some (.dK []) → Q (.ref p) H2) : tDNewK σ H Q := fun p hp => q p _ hp (Step.new hp) upd_same
/-! items -/
theorem g_ixL {p : Addr} (h : H p = some (.lst xs)) (e : atI xs i = some v) (q : Q v H) : rIxL K (.ref p) (.int i) H Q := ⟨p, xs, i, v, rfl, rfl, SqL.of h, e, q⟩
theorem g_ixLK {p : Addr} (h : SqL K H p xs) (e : atI xs i = some v) (q : Q v H) : rIxL K (.ref p) (.int i) H Q := ⟨p, xs, i, v, rfl, rfl, h, e, q⟩
theorem g_ixT {p : Addr} (h : H p = some (.tup xs)) (e : atI xs i = some v) (q : Q v H) : rIxT K (.ref p) (.int i) H Q := ⟨p, xs, i, v, rfl, rfl, SqT.of h, e, q⟩
theorem g_ixS {z : Str} {c : Nat} (hl : z.length ≤ sizeLine) (e : atI z.cps.toList i = some c) (q : Q (.str ⟨#[c]⟩) H) : rIxS (.str z) (.int i) H Q := ⟨z, i, c, rfl, rfl, hl, e, q⟩
theorem at_nat {α : Type} {xs : List α} {k : Nat} {v : α} (h : xs[k]? = some v) : atI xs (k : Int) = some v := atI_nat h
theorem at_int {α : Type} {xs : List α} {i : Int} {v : α} (h0 : 0 ≤ i) (h : xs[i.toNat]? = some v) : atI xs i = some v := by
  have e : i = ((i.toNat : Nat) : Int) := by omega
  rw [e]
  exact atI_nat h
theorem at_in {α : Type} {xs : List α} {i : Int} (h0 : 0 ≤ i) (h : i < (xs.length : Int)) : ∃ v, xs[i.toNat]? = some v ∧ atI xs i = some v := by
  have l : i.toNat < xs.length := by omega
  exact ⟨xs[i.toNat], List.getElem?_eq_getElem l, at_int h0 (List.getElem?_eq_getElem l)⟩
theorem ixN_in {n : Nat} {i : Int} (h0 : 0 ≤ i) (h : i < (n : Int)) : ixN n i = some i.toNat := by
  unfold ixN
  rw [if_pos h0, if_pos h]
theorem seqIx_in {n : Nat} {i : Int} (h0 : 0 ≤ i) (h : i < (n : Int)) : seqIndex? i n = some i.toNat := (ixN_seq (ixN_in h0 h)).1
/-- o[i] = v, the list of a name -/
theorem g_gsub {ts : TSet} {Q : L2.St → Hp → Prop} (h : ta σ H (fun o H1 => tb σ H1 (fun k H2 => ts o k v H2 (fun H3 => Q σ H3)))) : gSub ta tb ts v σ H Q := h
theorem g_setL {p : Addr} {k : Nat} {QH : Hp → Prop} (h : H p = some (.lst xs)) (e : ixN xs.length i = some k) (q : ∀ H2, Step [p] H H2 → H2 p = some (.lst (xs.set k v)) → QH H2) : rSetL (.ref p) (.int i) v H QH :=
  ⟨p, xs, i, k, rfl, rfl, h, e, q _ ((Step.refl [p] H).wr (List.mem_singleton.mpr rfl)) upd_same⟩
/-! methods of lists -/
theorem g_bmL {p : Addr} {r : V → List V → Hp → VK → Prop} (h : H p = some (.lst xs)) (q : tr σ H (fun vs H2 => r (.ref p) vs H2 Q)) (hv : ta σ H (fun x H1 => x = .ref p ∧ H1 = H) → True := fun _ => trivial) (e : ∀ Q', Q' (.ref p) H → ta σ H Q') : tBM K "list" r ta tr σ H Q := by
  refine e _ ⟨.inl ⟨rfl, xs, SqL.of h⟩, q⟩
def kBM (K : PySem.W.Frag) (T : String) (r : V → List V → Hp → VK → Prop) (tr : TA) (σ : L2.St) (Q : VK) : VK := fun x H1 => tyV K T x H1 ∧ tr σ H1 (fun vs H2 => r x vs H2 Q)
theorem g_bm {T : String} {r : V → List V → Hp → VK → Prop} (h : ta σ H (kBM K T r tr σ Q)) : tBM K T r ta tr σ H Q := h
theorem g_kBM {p : Addr} {r : V → List V → Hp → VK → Prop} (h : H p = some (.lst xs)) (q : tr σ H (fun vs H2 => r (.ref p) vs H2 Q)) : kBM K "list" r tr σ Q (.ref p) H := ⟨.inl ⟨rfl, xs, SqL.of h⟩, q⟩
theorem g_append {p : Addr} (h : H p = some (.lst xs)) (hz : xs.length < sizeLine) (q : ∀ H2, Step [p] H H2 → H2 p = some (.lst (xs ++ [y])) → Q .non H2) : rAppend (.ref p) [y] H Q :=
  ⟨p, xs, y, rfl, rfl, h, hz, q _ ((Step.refl [p] H).wr (List.mem_singleton.mpr rfl)) upd_same⟩
theorem g_extend {p b : Addr} (h : H p = some (.lst xs)) (h2 : H b = some (.lst ys)) (hz : xs.length + ys.length ≤ sizeLine) (q : ∀ H2, Step [p] H H2 → H2 p = some (.lst (xs ++ ys)) → Q .non H2) : rExtend (.ref p) [.ref b] H Q :=
  ⟨p, b, xs, ys, rfl, rfl, h, h2, hz, q _ ((Step.refl [p] H).wr (List.mem_singleton.mpr rfl)) upd_same⟩
theorem g_popAt {p : Addr} {k : Nat} (h : H p = some (.lst xs)) (h0 : -(2 ^ 63) ≤ i) (h1 : i < 2 ^ 63) (e : seqIndex? i xs.length = some k) (ey : xs[k]? = some y) (q : ∀ H2, Step [p] H H2 → H2 p = some (.lst (xs.eraseIdx k)) → Q y H2) : rPopAt (.ref p) [.int i] H Q :=
  ⟨p, xs, i, k, y, rfl, rfl, h, h0, h1, e, ey, q _ ((Step.refl [p] H).wr (List.mem_singleton.mpr rfl)) upd_same⟩
/-! slices -/
theorem g_sl {r : V → Option Int → Option Int → Hp → VK → Prop} {tl th : TO} (h : ta σ H (fun x H1 => tl σ H1 (fun l H2 => th σ H2 (fun u H3 => r x l u H3 Q)))) : tSl r ta tl th σ H Q := h
def kI (Q : Option Int → Hp → Prop) : VK := fun x H1 => ∃ i, x = .int i ∧ Q (some i) H1
theorem g_part {Q : Option Int → Hp → Prop} (h : ta σ H (kI Q)) : tPart ta σ H Q := h
theorem g_kI {Q : Option Int → Hp → Prop} (h : Q (some i) H) : kI Q (.int i) H := ⟨i, rfl, h⟩
theorem g_noPart {Q : Option Int → Hp → Prop} (h : Q none H) : tNoPart σ H Q := h
theorem g_slL {p : Addr} {lo hi : Option Int} (h : H p = some (.lst xs)) (q : ∀ p' H2, H p' = none → Step [] H H2 → H2 p' = some (.lst (cutV xs lo hi)) → Q (.ref p') H2) : rSlL K (.ref p) lo hi H Q := ⟨p, xs, rfl, SqL.of h, fun p' hp => q p' _ hp (Step.new hp) upd_same⟩
theorem g_slS {z : Str} {lo hi : Option Int} (hl : z.length ≤ sizeLine) (q : Q (.str (cutS z lo hi)) H) : rSlS (.str z) lo hi H Q := ⟨z, rfl, hl, q⟩
theorem g_cat {p b : Addr} (h : H p = some (.lst xs)) (h2 : H b = some (.lst ys)) (hz : xs.length + ys.length ≤ sizeLine) (q : ∀ p' H2, H p' = none → Step [] H H2 → H2 p' = some (.lst (xs ++ ys)) → Q (.ref p') H2) : rCat (.ref p) (.ref b) H Q :=
  ⟨p, b, xs, ys, rfl, rfl, h, h2, hz, fun p' hp => q p' _ hp (Step.new hp) upd_same⟩
theorem g_inL {p : Addr} {neg : Bool} (h : H p = some (.lst xs)) (fx : flatV x = true) (fs : xs.all flatV = true) (q : Q (.bl (if neg then !inV x xs else inV x xs)) H) : rIn K neg x (.ref p) H Q := ⟨p, xs, rfl, .inl (SqL.of h), fx, fs, q⟩
theorem g_inT {p : Addr} {neg : Bool} (h : H p = some (.tup xs)) (fx : flatV x = true) (fs : xs.all flatV = true) (q : Q (.bl (if neg then !inV x xs else inV x xs)) H) : rIn K neg x (.ref p) H Q := ⟨p, xs, rfl, .inr (SqT.of h), fx, fs, q⟩
/-- text in a list of texts -/
theorem inV_str (z : Str) (ss : List Str) : inV (.str z) (ss.map V.str) = decide (z ∈ ss) := by
  induction ss with
  | nil => rfl
  | cons a r ih =>
    have e : inV (.str z) ((a :: r).map V.str) = (eqV (.str a) (.str z) || inV (.str z) (r.map V.str)) := rfl
    have e2 : eqV (.str a) (.str z) = decide (a = z) := by
      show decide (a = z) = _
      rfl
    rw [e, ih, e2]
    by_cases h : z = a
    · subst h; simp
    · have h2 : ¬ a = z := fun q => h q.symm
      simp [h, h2]
theorem flat_strs (ss : List Str) : (ss.map V.str).all flatV = true := by
  rw [List.all_eq_true]
  intro x hx
  obtain ⟨s, _, rfl⟩ := List.mem_map.mp hx
  rfl
theorem g_inS {p : Addr} {z : Str} {ss : List Str} (h : H p = some (.lst (ss.map V.str))) (q : Q (.bl (decide (z ∈ ss))) H) : rIn K false (.str z) (.ref p) H Q := g_inL h rfl (flat_strs ss) (by
  rw [inV_str]
  exact q)
theorem g_notInS {p : Addr} {z : Str} {ss : List Str} (h : H p = some (.lst (ss.map V.str))) (q : Q (.bl (!decide (z ∈ ss))) H) : rIn K true (.str z) (.ref p) H Q := g_inL h rfl (flat_strs ss) (by
  rw [inV_str]
  exact q)
/-! dicts -/
def kDGet (Q : VK) (x : V) : VK := fun y H2 => ∃ a v, x = .ref a ∧ DGet H2 a y (some v) ∧ Q v H2
theorem g_dget (h : ta σ H (fun x H1 => tb σ H1 (kDGet Q x))) : tDGet ta tb σ H Q := h
theorem g_kDGet {p : Addr} {kvs : List (Key × V)} (h : Rd H p (.dK kvs)) (e : valV kvs (Sum.inl i) = some v) (q : Q v H) : kDGet Q (.ref p) (.int i) H := ⟨p, v, rfl, .inl ⟨kvs, Sum.inl i, h, rfl, e.symm⟩, q⟩
theorem g_kDGetS {p : Addr} {kvs : List (Key × V)} {z : Str} (h : Rd H p (.dK kvs)) (e : valV kvs (Sum.inr z) = some v) (q : Q v H) : kDGet Q (.ref p) (.str z) H := ⟨p, v, rfl, .inl ⟨kvs, Sum.inr z, h, rfl, e.symm⟩, q⟩
def kDIn (Q : VK) (y : V) : VK := fun x H2 => ∃ a o, x = .ref a ∧ DGet H2 a y o ∧ Q (.bl o.isSome) H2
def kDNotIn (Q : VK) (y : V) : VK := fun x H2 => ∃ a o, x = .ref a ∧ DGet H2 a y o ∧ Q (.bl (!o.isSome)) H2
theorem g_din (h : ta σ H (fun y H1 => tb σ H1 (kDIn Q y))) : tDIn ta tb σ H Q := h
theorem g_dnotin (h : ta σ H (fun y H1 => tb σ H1 (kDNotIn Q y))) : tDNotIn ta tb σ H Q := h
theorem g_kDIn {p : Addr} {kvs : List (Key × V)} (h : Rd H p (.dK kvs)) (q : Q (.bl (valV kvs (Sum.inl i)).isSome) H) : kDIn Q (.int i) (.ref p) H := ⟨p, _, rfl, .inl ⟨kvs, Sum.inl i, h, rfl, rfl⟩, q⟩
theorem g_kDNotIn {p : Addr} {kvs : List (Key × V)} (h : Rd H p (.dK kvs)) (q : Q (.bl (!(valV kvs (Sum.inl i)).isSome)) H) : kDNotIn Q (.int i) (.ref p) H := ⟨p, _, rfl, .inl ⟨kvs, Sum.inl i, h, rfl, rfl⟩, q⟩
theorem g_kDInS {p : Addr} {kvs : List (Key × V)} {z : Str} (h : Rd H p (.dK kvs)) (q : Q (.bl (valV kvs (Sum.inr z)).isSome) H) : kDIn Q (.str z) (.ref p) H := ⟨p, _, rfl, .inl ⟨kvs, Sum.inr z, h, rfl, rfl⟩, q⟩
theorem g_kDNotInS {p : Addr} {kvs : List (Key × V)} {z : Str} (h : Rd H p (.dK kvs)) (q : Q (.bl (!(valV kvs (Sum.inr z)).isSome)) H) : kDNotIn Q (.str z) (.ref p) H := ⟨p, _, rfl, .inl ⟨kvs, Sum.inr z, h, rfl, rfl⟩, q⟩
/-- d[k] = v -/
def kDPut (nx : L2.St → Hp → Prop) (σ : L2.St) (v x : V) : VK := fun y H3 => ∃ a H4, x = .ref a ∧ DPut H3 a y v H4 ∧ nx σ H4
theorem g_dput (h : tc σ H (fun v H1 => ta σ H1 (fun x H2 => tb σ H2 (kDPut nx σ v x)))) : sDPut ta tb tc ⟨nx, rt, bk, ct⟩ σ H := h
theorem g_kDPut {p : Addr} {kvs : List (Key × V)} (h : H p = some (.dK kvs)) (hl : kvs.length < sizeLine) (q : ∀ H2, Step [p] H H2 → H2 p = some (.dK (putK kvs (Sum.inl i) v)) → nx σ H2) : kDPut nx σ v (.ref p) (.int i) H :=
  ⟨p, _, rfl, DPut.k (k := Sum.inl i) h hl, q _ ((Step.refl [p] H).wr (List.mem_singleton.mpr rfl)) upd_same⟩
theorem g_kDPutS {p : Addr} {kvs : List (Key × V)} {z : Str} (h : H p = some (.dK kvs)) (hl : kvs.length < sizeLine) (q : ∀ H2, Step [p] H H2 → H2 p = some (.dK (putK kvs (Sum.inr z) v)) → nx σ H2) : kDPut nx σ v (.ref p) (.str z) H :=
  ⟨p, _, rfl, DPut.k (k := Sum.inr z) h hl, q _ ((Step.refl [p] H).wr (List.mem_singleton.mpr rfl)) upd_same⟩
/-! texts' methods -/
def kM1 (r : V → List V → Hp → VK → Prop) (te : TE) (σ : L2.St) (Q : VK) : VK := fun x H1 => (∃ a, x = .str a) ∧ te σ H1 (fun y H2 => r x [y] H2 Q)
theorem g_m1 {r : V → List V → Hp → VK → Prop} (h : ta σ H (kM1 r te σ Q)) : tM1 r ta te σ H Q := h
theorem g_kM1 {r : V → List V → Hp → VK → Prop} {z : Str} (h : te σ H (fun y H2 => r (.str z) [y] H2 Q)) : kM1 r te σ Q (.str z) H := ⟨⟨z, rfl⟩, h⟩
end
/-! loops: an invariant by the turn, the slots, the heap -/
theorem Step.back {m : List Addr} {H H1 : Hp} {d : Addr} (x : Step (d :: m) H H1) (e : ∀ o, H d = some o → H1 d = some o) : Step m H H1 := ⟨fun b o n h => by
  by_cases hb : b = d
  · subst hb; exact e o h
  · exact x.keep b o (fun z => (List.mem_cons.mp z).elim hb n) h, x.live⟩
section
variable {K : PySem.W.Frag} {σ : L2.St} {H : Hp} {Q : VK} {tl td : TE} {t : TS} {nx bk ct : L2.St → Hp → Prop} {rt : VK} {tr : TA} {g : TG} {tt : TT} {te tk tv : TE} {ws : List Nat}
/-- the loop itself, whatever is walked -/
def wFor (J : It) (g : TG) (t : TS) (D : Ends) (σ : L2.St) (H : Hp) : Prop := ∃ W : Nat → Nat → L2.St → Hp → Prop, (∃ m, W 0 m σ H) ∧ ∀ i m σ H, W i m σ H →
  (J.stop i H ∧ D.nx σ H) ∨ (J.go i H ∧ ∃ N : L2.St → Hp → Prop, (∀ σ' H', N σ' H' → ∃ m', m' < m ∧ W (i + 1) m' σ' H') ∧ ∀ x H', J.yld i H x H' → g x σ H' fun σ2 H2 => t { D with nx := N, ct := N, bk := D.nx } σ2 H2)
theorem wFor_gen {J : It} (n : Nat) (Pv : Nat → L2.St → Hp → Prop) (h0 : Pv 0 σ H) (hg : ∀ i σ H, i < n → Pv i σ H → J.go i H) (hst : ∀ σ H, Pv n σ H → J.stop n H)
    (hs : ∀ i σ H x H', i < n → Pv i σ H → J.yld i H x H' → g x σ H' fun σ2 H2 => t ⟨Pv (i + 1), rt, nx, Pv (i + 1)⟩ σ2 H2) (hd : ∀ σ H, Pv n σ H → nx σ H) : wFor J g t ⟨nx, rt, bk, ct⟩ σ H := by
  refine ⟨fun i m σ H => m = n - i ∧ i ≤ n ∧ Pv i σ H, ⟨n, by simp, Nat.zero_le _, h0⟩, ?_⟩
  rintro i m σ H ⟨rfl, hi, p⟩
  by_cases hlt : i < n
  · exact .inr ⟨hg i σ H hlt p, Pv (i + 1), fun σ' H' p' => ⟨n - (i + 1), by omega, rfl, hlt, p'⟩, fun x H' y => hs i σ H x H' hlt p y⟩
  · have e : i = n := by omega
    subst e
    exact .inl ⟨hst σ H p, hd σ H p⟩
/-- a comprehension's turn -/
def kEl (D : Addr) (Nx : Hp → Prop) : VK := fun y H4 => ∃ acc, H4 D = some (.lst acc) ∧ acc.length < sizeLine ∧ Nx (upd H4 D (.lst (acc ++ [y])))
theorem g_kEl {D : Addr} {Nx : Hp → Prop} {y : V} {acc : List V} (h : H D = some (.lst acc)) (hz : acc.length < sizeLine) (q : ∀ H5, Step [D] H H5 → H5 D = some (.lst (acc ++ [y])) → Nx H5) : kEl D Nx y H :=
  ⟨acc, h, hz, q _ ((Step.refl [D] H).wr (List.mem_singleton.mpr rfl)) upd_same⟩
def kTst (te : TE) (σ2 : L2.St) (D : Addr) (Nx : Hp → Prop) : Bool → Hp → Prop := fun b H3 => if b = true then te σ2 H3 (kEl D Nx) else Nx H3
theorem g_kTst {D : Addr} {Nx : Hp → Prop} {b : Bool} (h : if b = true then te σ H (kEl D Nx) else Nx H) : kTst te σ D Nx b H := h
theorem g_kTstT {D : Addr} {Nx : Hp → Prop} (h : te σ H (kEl D Nx)) : kTst te σ D Nx true H := iteT h
def kTurn (tt : TT) (te : TE) (ws : List Nat) (σ : L2.St) (D : Addr) (Nx : Hp → Prop) : L2.St → Hp → Prop := fun σ2 H2 => wipe σ2 ws = wipe σ ws ∧ tt σ2 H2 (kTst te σ2 D Nx)
theorem g_kTurn {D : Addr} {Nx : Hp → Prop} {σ2 : L2.St} (e : wipe σ2 ws = wipe σ ws) (h : tt σ2 H (kTst te σ2 D Nx)) : kTurn tt te ws σ D Nx σ2 H := ⟨e, h⟩
theorem g_yes {Q : Bool → Hp → Prop} (h : Q true H) : tYes σ H Q := h
def wLc (J : It) (g : TG) (tt : TT) (te : TE) (ws : List Nat) (σ : L2.St) (Q : VK) (H1 : Hp) : Prop := ∀ D, H1 D = none → ∃ W : Nat → Nat → Hp → Prop, (∃ m, W 0 m (upd H1 D (.lst []))) ∧ ∀ i m H, W i m H →
  (J.stop i H ∧ Q (.ref D) H) ∨ (J.go i H ∧ ∃ Nx : Hp → Prop, (∀ H', Nx H' → ∃ m', m' < m ∧ W (i + 1) m' H') ∧ ∀ x H', J.yld i H x H' → g x (wipe σ ws) H' (kTurn tt te ws σ D Nx))
theorem wLc_gen {J : It} (n : Nat) (q : ∀ D H2, H D = none → Step [] H H2 → H2 D = some (.lst []) → ∃ Pv : Nat → Hp → Prop, Pv 0 H2 ∧ (∀ i H, i < n → Pv i H → J.go i H) ∧ (∀ H, Pv n H → J.stop n H) ∧
    (∀ i H x H', i < n → Pv i H → J.yld i H x H' → g x (wipe σ ws) H' (kTurn tt te ws σ D (Pv (i + 1)))) ∧ (∀ H, Pv n H → Q (.ref D) H)) : wLc J g tt te ws σ Q H := by
  intro D hD
  obtain ⟨Pv, h0, hg, hst, hs, hd⟩ := q D _ hD (Step.new hD) upd_same
  refine ⟨fun i m H => m = n - i ∧ i ≤ n ∧ Pv i H, ⟨n, by simp, Nat.zero_le _, h0⟩, ?_⟩
  rintro i m H ⟨rfl, hi, p⟩
  by_cases hlt : i < n
  · exact .inr ⟨hg i H hlt p, Pv (i + 1), fun H' p' => ⟨n - (i + 1), by omega, rfl, hlt, p'⟩, fun x H' y => hs i H x H' hlt p y⟩
  · have e : i = n := by omega
    subst e
    exact .inl ⟨hst H p, hd H p⟩
/-- a dict comprehension's turn -/
def kElD (D : Addr) (Nx : Hp → Prop) (y : V) : VK := fun z H5 => ∃ kvs k, y = kV k ∧ H5 D = some (.dK kvs) ∧ kvs.length < sizeLine ∧ Nx (upd H5 D (.dK (putK kvs k z)))
theorem g_kElD {D : Addr} {Nx : Hp → Prop} {z : V} {i : Int} {kvs : List (Key × V)} (h : H D = some (.dK kvs)) (hz : kvs.length < sizeLine) (q : ∀ H5, Step [D] H H5 → H5 D = some (.dK (putK kvs (Sum.inl i) z)) → Nx H5) : kElD D Nx (.int i) z H :=
  ⟨kvs, Sum.inl i, rfl, h, hz, q _ ((Step.refl [D] H).wr (List.mem_singleton.mpr rfl)) upd_same⟩
theorem g_kElDS {D : Addr} {Nx : Hp → Prop} {z : V} {i : Str} {kvs : List (Key × V)} (h : H D = some (.dK kvs)) (hz : kvs.length < sizeLine) (q : ∀ H5, Step [D] H H5 → H5 D = some (.dK (putK kvs (Sum.inr i) z)) → Nx H5) : kElD D Nx (.str i) z H :=
  ⟨kvs, Sum.inr i, rfl, h, hz, q _ ((Step.refl [D] H).wr (List.mem_singleton.mpr rfl)) upd_same⟩
def kTstD (tk tv : TE) (σ2 : L2.St) (D : Addr) (Nx : Hp → Prop) : Bool → Hp → Prop := fun b H3 => if b = true then tk σ2 H3 (fun y H4 => tv σ2 H4 (kElD D Nx y)) else Nx H3
theorem g_kTstD {D : Addr} {Nx : Hp → Prop} {b : Bool} (h : if b = true then tk σ H (fun y H4 => tv σ H4 (kElD D Nx y)) else Nx H) : kTstD tk tv σ D Nx b H := h
theorem g_kTstDT {D : Addr} {Nx : Hp → Prop} (h : tk σ H (fun y H4 => tv σ H4 (kElD D Nx y))) : kTstD tk tv σ D Nx true H := iteT h
def kTurnD (tt : TT) (tk tv : TE) (ws : List Nat) (σ : L2.St) (D : Addr) (Nx : Hp → Prop) : L2.St → Hp → Prop := fun σ2 H2 => wipe σ2 ws = wipe σ ws ∧ tt σ2 H2 (kTstD tk tv σ2 D Nx)
theorem g_kTurnD {D : Addr} {Nx : Hp → Prop} {σ2 : L2.St} (e : wipe σ2 ws = wipe σ ws) (h : tt σ2 H (kTstD tk tv σ2 D Nx)) : kTurnD tt tk tv ws σ D Nx σ2 H := ⟨e, h⟩
def wDc (J : It) (g : TG) (tt : TT) (tk tv : TE) (ws : List Nat) (σ : L2.St) (Q : VK) (H1 : Hp) : Prop := ∀ D, H1 D = none → ∃ W : Nat → Nat → Hp → Prop, (∃ m, W 0 m (upd H1 D (.dK []))) ∧ ∀ i m H, W i m H →
  (J.stop i H ∧ Q (.ref D) H) ∨ (J.go i H ∧ ∃ Nx : Hp → Prop, (∀ H', Nx H' → ∃ m', m' < m ∧ W (i + 1) m' H') ∧ ∀ x H', J.yld i H x H' → g x (wipe σ ws) H' (kTurnD tt tk tv ws σ D Nx))
theorem wDc_gen {J : It} (n : Nat) (q : ∀ D H2, H D = none → Step [] H H2 → H2 D = some (.dK []) → ∃ Pv : Nat → Hp → Prop, Pv 0 H2 ∧ (∀ i H, i < n → Pv i H → J.go i H) ∧ (∀ H, Pv n H → J.stop n H) ∧
    (∀ i H x H', i < n → Pv i H → J.yld i H x H' → g x (wipe σ ws) H' (kTurnD tt tk tv ws σ D (Pv (i + 1)))) ∧ (∀ H, Pv n H → Q (.ref D) H)) : wDc J g tt tk tv ws σ Q H := by
  intro D hD
  obtain ⟨Pv, h0, hg, hst, hs, hd⟩ := q D _ hD (Step.new hD) upd_same
  refine ⟨fun i m H => m = n - i ∧ i ≤ n ∧ Pv i H, ⟨n, by simp, Nat.zero_le _, h0⟩, ?_⟩
  rintro i m H ⟨rfl, hi, p⟩
  by_cases hlt : i < n
  · exact .inr ⟨hg i H hlt p, Pv (i + 1), fun H' p' => ⟨n - (i + 1), by omega, rfl, hlt, p'⟩, fun x H' y => hs i H x H' hlt p y⟩
  · have e : i = n := by omega
    subst e
    exact .inl ⟨hst H p, hd H p⟩
/-- the three as one: what is to be done with a walk -/
abbrev WK := It → Hp → Prop
theorem g_for {wi : TI} (h : wi σ H (fun J H1 => wFor J g t ⟨nx, rt, bk, ct⟩ σ H1)) : tFor wi g t ⟨nx, rt, bk, ct⟩ σ H := h
theorem g_lc {wi : TI} (h : wi σ H (fun J H1 => wLc J g tt te ws σ Q H1)) : tLc wi g tt te ws σ H Q := h
theorem g_dc {wi : TI} (h : wi σ H (fun J H1 => wDc J g tt tk tv ws σ Q H1)) : tDc wi g tt tk tv ws σ H Q := h
/-! the walks -/
def kRng1 (R : WK) : List V → Hp → Prop := fun vs H1 => ∃ j : Int, vs = [.int j] ∧ -(2 ^ 62) ≤ j ∧ j < 2 ^ 62 ∧ R (Itr 0 j.toNat) H1
def kRng2 (R : WK) : List V → Hp → Prop := fun vs H1 => ∃ i j : Int, vs = [.int i, .int j] ∧ (-(2 ^ 62) ≤ i ∧ i < 2 ^ 62 ∧ -(2 ^ 62) ≤ j ∧ j < 2 ^ 62) ∧ R (Itr i (j - i).toNat) H1
theorem g_rng1 {R : WK} (h : tr σ H (kRng1 R)) : iRng1 tr σ H R := h
theorem g_rng2 {R : WK} (h : tr σ H (kRng2 R)) : iRng2 tr σ H R := h
theorem g_kRng1 {R : WK} {n : Int} (h1 : -(2 ^ 62) ≤ n) (h2 : n < 2 ^ 62) (q : R (Itr 0 n.toNat) H) : kRng1 R [.int n] H := ⟨n, rfl, h1, h2, q⟩
theorem g_kRng2 {R : WK} {i j : Int} (h1 : -(2 ^ 62) ≤ i) (h2 : i < 2 ^ 62) (h3 : -(2 ^ 62) ≤ j) (h4 : j < 2 ^ 62) (q : R (Itr i (j - i).toNat) H) : kRng2 R [.int i, .int j] H := ⟨i, j, rfl, ⟨h1, h2, h3, h4⟩, q⟩
theorem wFor_rng {k : Nat} {lo : Int} {n : Nat} (Pv : Nat → L2.St → Hp → Prop) (h0 : Pv 0 σ H) (hs : ∀ i σ H, i < n → Pv i σ H → t ⟨Pv (i + 1), rt, nx, Pv (i + 1)⟩ (σ.set k (some (.int (lo + (i : Int))))) H) (hd : ∀ σ H, Pv n σ H → nx σ H) : wFor (Itr lo n) (gName k) t ⟨nx, rt, bk, ct⟩ σ H :=
  wFor_gen n Pv h0 (fun i _ _ hi _ => hi) (fun _ _ _ => Nat.le_refl _) (fun i σ H x H' hi p y => by
    obtain ⟨e1, e2⟩ := y
    subst e1 e2
    exact hs i σ _ hi p) hd
theorem wLc_rng {k : Nat} {lo : Int} {n : Nat} (q : ∀ D H2, H D = none → Step [] H H2 → H2 D = some (.lst []) → ∃ Pv : Nat → Hp → Prop, Pv 0 H2 ∧ (∀ i H, i < n → Pv i H → kTurn tt te ws σ D (Pv (i + 1)) ((wipe σ ws).set k (some (.int (lo + (i : Int))))) H) ∧ (∀ H, Pv n H → Q (.ref D) H)) : wLc (Itr lo n) (gName k) tt te ws σ Q H :=
  wLc_gen n fun D H2 h1 h2 h3 => by
    obtain ⟨Pv, p0, hs, hd⟩ := q D H2 h1 h2 h3
    refine ⟨Pv, p0, fun i _ hi _ => hi, fun _ _ => Nat.le_refl _, fun i H x H' hi p y => ?_, hd⟩
    obtain ⟨e1, e2⟩ := y
    subst e1 e2
    exact hs i _ hi p
def kList (K : PySem.W.Frag) (R : WK) : VK := fun x H1 => ∃ a, x = .ref a ∧ (∃ xs, SqL K H1 a xs) ∧ R (Itl K a) H1
theorem g_list {R : WK} (h : tl σ H (kList K R)) : iList K tl σ H R := h
theorem g_kList {R : WK} {a : Addr} {xs : List V} (h : H a = some (.lst xs)) (q : R (Itl K a) H) : kList K R (.ref a) H := ⟨a, rfl, ⟨xs, SqL.of h⟩, q⟩
/-- a list that the turns leave as it is -/
theorem wFor_list {a : Addr} {xs : List V} (Pv : Nat → L2.St → Hp → Prop) (h0 : Pv 0 σ H) (hl : ∀ i σ H, i ≤ xs.length → Pv i σ H → H a = some (.lst xs))
    (hs : ∀ i x σ H, xs[i]? = some x → Pv i σ H → g x σ H (fun σ2 H2 => t ⟨Pv (i + 1), rt, nx, Pv (i + 1)⟩ σ2 H2)) (hd : ∀ σ H, Pv xs.length σ H → nx σ H) : wFor (Itl K a) g t ⟨nx, rt, bk, ct⟩ σ H :=
  wFor_gen xs.length Pv h0 (fun i σ H hi p => ⟨xs, xs[i], SqL.of (hl i σ H (Nat.le_of_lt hi) p), List.getElem?_eq_getElem hi⟩) (fun σ H p => ⟨xs, SqL.of (hl _ σ H (Nat.le_refl _) p), Nat.le_refl _⟩) (fun i σ H x H' hi p y => by
    obtain ⟨e, y⟩ := y
    subst e
    exact hs i x σ _ (y xs (SqL.of (hl i σ _ (Nat.le_of_lt hi) p))) p) hd
theorem wLc_list {a : Addr} {xs : List V} (q : ∀ D H2, H D = none → Step [] H H2 → H2 D = some (.lst []) → ∃ Pv : Nat → Hp → Prop, Pv 0 H2 ∧ (∀ i H, i ≤ xs.length → Pv i H → H a = some (.lst xs)) ∧ (∀ i x H, xs[i]? = some x → Pv i H → g x (wipe σ ws) H (kTurn tt te ws σ D (Pv (i + 1)))) ∧ (∀ H, Pv xs.length H → Q (.ref D) H)) : wLc (Itl K a) g tt te ws σ Q H :=
  wLc_gen xs.length fun D H2 h1 h2 h3 => by
    obtain ⟨Pv, p0, hl, hs, hd⟩ := q D H2 h1 h2 h3
    refine ⟨Pv, p0, fun i H hi p => ⟨xs, xs[i], SqL.of (hl i H (Nat.le_of_lt hi) p), List.getElem?_eq_getElem hi⟩, fun H p => ⟨xs, SqL.of (hl _ H (Nat.le_refl _) p), Nat.le_refl _⟩, fun i H x H' hi p y => ?_, hd⟩
    obtain ⟨e, y⟩ := y
    subst e
    exact hs i x _ (y xs (SqL.of (hl i _ (Nat.le_of_lt hi) p))) p
/-- a text, sign by sign -/
def kStr (R : WK) : VK := fun v H1 => ∃ x, v = .str x ∧ R (Its x) H1
theorem g_str {R : WK} (h : tl σ H (kStr R)) : iStr tl σ H R := h
theorem g_kStr {R : WK} {z : Str} (q : R (Its z) H) : kStr R (.str z) H := ⟨z, rfl, q⟩
theorem wFor_str {z : Str} {k : Nat} (Pv : Nat → L2.St → Hp → Prop) (h0 : Pv 0 σ H) (hs : ∀ i c σ H, z.cps[i]? = some c → Pv i σ H → t ⟨Pv (i + 1), rt, nx, Pv (i + 1)⟩ (σ.set k (some (.str ⟨#[c]⟩))) H) (hd : ∀ σ H, Pv z.cps.size σ H → nx σ H) : wFor (Its z) (gName k) t ⟨nx, rt, bk, ct⟩ σ H :=
  wFor_gen z.cps.size Pv h0 (fun i _ _ hi _ => hi) (fun _ _ _ => Nat.le_refl _) (fun i σ H x H' hi p y => by
    obtain ⟨e1, c, e2, e3⟩ := y
    subst e1 e3
    exact hs i c σ _ e2 p) hd
theorem wLc_str {z : Str} {k : Nat} (q : ∀ D H2, H D = none → Step [] H H2 → H2 D = some (.lst []) → ∃ Pv : Nat → Hp → Prop, Pv 0 H2 ∧ (∀ i c H, z.cps[i]? = some c → Pv i H → kTurn tt te ws σ D (Pv (i + 1)) ((wipe σ ws).set k (some (.str ⟨#[c]⟩))) H) ∧ (∀ H, Pv z.cps.size H → Q (.ref D) H)) : wLc (Its z) (gName k) tt te ws σ Q H :=
  wLc_gen z.cps.size fun D H2 h1 h2 h3 => by
    obtain ⟨Pv, p0, hs, hd⟩ := q D H2 h1 h2 h3
    refine ⟨Pv, p0, fun i _ hi _ => hi, fun _ _ => Nat.le_refl _, fun i H x H' hi p y => ?_, hd⟩
    obtain ⟨e1, c, e2, e3⟩ := y
    subst e1 e3
    exact hs i c _ e2 p
/-! a dict under a lock -/
def lk (d : Addr) (od : Obj) (kvs : List (Key × V)) (f : L2.St → Hp → Prop) : L2.St → Hp → Prop := fun σ' H' => H' d = some (.frz od (.dK kvs)) ∧ f σ' (upd H' d (.dK kvs))
def lkV (d : Addr) (od : Obj) (kvs : List (Key × V)) (f : VK) : VK := fun v H' => H' d = some (.frz od (.dK kvs)) ∧ f v (upd H' d (.dK kvs))
theorem g_lock {d : Addr} {kvs : List (Key × V)} (h : H d = some (.dK kvs)) (q : ∀ od H2, Step [d] H H2 → H2 d = some (.frz od (.dK kvs)) → t ⟨lk d od kvs nx, lkV d od kvs rt, lk d od kvs bk, lk d od kvs ct⟩ σ H2) : tLock t ⟨nx, rt, bk, ct⟩ σ H :=
  ⟨d, .dK kvs, h, trivial, fun od => q od _ ((Step.refl [d] H).wr (List.mem_singleton.mpr rfl)) upd_same⟩
theorem g_lockE {d : Addr} {kvs : List (Key × V)} (h : H d = some (.dK kvs)) (q : ∀ od H2, Step [d] H H2 → H2 d = some (.frz od (.dK kvs)) → te σ H2 (lkV d od kvs Q)) : tLockE te σ H Q :=
  ⟨d, .dK kvs, h, trivial, fun od => q od _ ((Step.refl [d] H).wr (List.mem_singleton.mpr rfl)) upd_same⟩
theorem g_lk {d : Addr} {od : Obj} {kvs : List (Key × V)} {f : L2.St → Hp → Prop} (h : H d = some (.frz od (.dK kvs))) (q : ∀ H2, Step [d] H H2 → H2 d = some (.dK kvs) → f σ H2) : lk d od kvs f σ H := ⟨h, q _ ((Step.refl [d] H).wr (List.mem_singleton.mpr rfl)) upd_same⟩
theorem g_lkV {d : Addr} {od : Obj} {kvs : List (Key × V)} {f : VK} {v : V} (h : H d = some (.frz od (.dK kvs))) (q : ∀ H2, Step [d] H H2 → H2 d = some (.dK kvs) → f v H2) : lkV d od kvs f v H := ⟨h, q _ ((Step.refl [d] H).wr (List.mem_singleton.mpr rfl)) upd_same⟩
def kKeys (R : WK) : VK := fun x H1 => ∃ d o, x = .ref d ∧ ((∃ kvs, H1 d = some (.frz o (.dK kvs)) ∧ R (Itk d o kvs) H1) ∨ ∃ kvs, H1 d = some (.frz o (.dT kvs)) ∧ R (Itkt d o kvs) H1)
def kVals (R : WK) : VK := fun x H1 => ∃ d o kvs, x = .ref d ∧ H1 d = some (.frz o (.dK kvs)) ∧ R (Itd d o kvs) H1
def kItems (R : WK) : VK := fun x H1 => ∃ d o kvs, x = .ref d ∧ H1 d = some (.frz o (.dK kvs)) ∧ R (Iti d o kvs) H1
theorem g_keys {R : WK} (h : td σ H (kKeys R)) : iKeys td σ H R := h
theorem g_vals {R : WK} (h : td σ H (kVals R)) : iVals td σ H R := h
theorem g_items {R : WK} (h : td σ H (kItems R)) : iItems td σ H R := h
theorem g_kKeys {R : WK} {d : Addr} {o : Obj} {kvs : List (Key × V)} (h : H d = some (.frz o (.dK kvs))) (q : R (Itk d o kvs) H) : kKeys R (.ref d) H := ⟨d, o, rfl, .inl ⟨kvs, h, q⟩⟩
theorem g_kVals {R : WK} {d : Addr} {o : Obj} {kvs : List (Key × V)} (h : H d = some (.frz o (.dK kvs))) (q : R (Itd d o kvs) H) : kVals R (.ref d) H := ⟨d, o, kvs, rfl, h, q⟩
theorem g_kItems {R : WK} {d : Addr} {o : Obj} {kvs : List (Key × V)} (h : H d = some (.frz o (.dK kvs))) (q : R (Iti d o kvs) H) : kItems R (.ref d) H := ⟨d, o, kvs, rfl, h, q⟩
theorem wFor_keys {d : Addr} {o : Obj} {kvs : List (Key × V)} {k : Nat} (Pv : Nat → L2.St → Hp → Prop) (h0 : Pv 0 σ H) (hl : ∀ i σ H, i ≤ kvs.length → Pv i σ H → H d = some (.frz o (.dK kvs)))
    (hs : ∀ i p σ H, kvs[i]? = some p → Pv i σ H → t ⟨Pv (i + 1), rt, nx, Pv (i + 1)⟩ (σ.set k (some (kV p.1))) H) (hd : ∀ σ H, Pv kvs.length σ H → nx σ H) : wFor (Itk d o kvs) (gName k) t ⟨nx, rt, bk, ct⟩ σ H :=
  wFor_gen kvs.length Pv h0 (fun i σ H hi p => ⟨hl i σ H (Nat.le_of_lt hi) p, hi⟩) (fun σ H p => ⟨hl _ σ H (Nat.le_refl _) p, Nat.le_refl _⟩) (fun i σ H x H' hi p y => by
    obtain ⟨e1, k, v, e2, e3⟩ := y
    subst e1 e3
    exact hs i (k, v) σ _ e2 p) hd
theorem wFor_vals {d : Addr} {o : Obj} {kvs : List (Key × V)} {k : Nat} (Pv : Nat → L2.St → Hp → Prop) (h0 : Pv 0 σ H) (hl : ∀ i σ H, i ≤ kvs.length → Pv i σ H → H d = some (.frz o (.dK kvs)))
    (hs : ∀ i p σ H, kvs[i]? = some p → Pv i σ H → t ⟨Pv (i + 1), rt, nx, Pv (i + 1)⟩ (σ.set k (some p.2)) H) (hd : ∀ σ H, Pv kvs.length σ H → nx σ H) : wFor (Itd d o kvs) (gName k) t ⟨nx, rt, bk, ct⟩ σ H :=
  wFor_gen kvs.length Pv h0 (fun i σ H hi p => ⟨hl i σ H (Nat.le_of_lt hi) p, hi⟩) (fun σ H p => ⟨hl _ σ H (Nat.le_refl _) p, Nat.le_refl _⟩) (fun i σ H x H' hi p y => by
    obtain ⟨e1, k, e2⟩ := y
    subst e1
    exact hs i (k, x) σ _ e2 p) hd
/-- items: each pair a new tuple, taken apart -/
theorem wFor_items {d : Addr} {o : Obj} {kvs : List (Key × V)} {k l : Nat} (Pv : Nat → L2.St → Hp → Prop) (h0 : Pv 0 σ H) (hl : ∀ i σ H, i ≤ kvs.length → Pv i σ H → H d = some (.frz o (.dK kvs)))
    (hs : ∀ i p σ H H2 T, kvs[i]? = some p → Pv i σ H → H T = none → Step [] H H2 → H2 T = some (.tup [kV p.1, p.2]) → t ⟨Pv (i + 1), rt, nx, Pv (i + 1)⟩ ((σ.set k (some (kV p.1))).set l (some p.2)) H2) (hd : ∀ σ H, Pv kvs.length σ H → nx σ H) :
    wFor (Iti d o kvs) (gTup K 2 (gCons (gName k) (gCons (gName l) gNil))) t ⟨nx, rt, bk, ct⟩ σ H :=
  wFor_gen kvs.length Pv h0 (fun i σ H hi p => ⟨hl i σ H (Nat.le_of_lt hi) p, hi⟩) (fun σ H p => ⟨hl _ σ H (Nat.le_refl _) p, Nat.le_refl _⟩) (fun i σ H x H' hi p y => by
    obtain ⟨T, k, v, e2, e3, hT, e4⟩ := y
    subst e3 e4
    exact ⟨T, _, rfl, SqT.of upd_same, rfl, _, _, rfl, _, _, rfl, rfl, hs i (k, v) σ H _ T e2 p hT (Step.new hT) upd_same⟩) hd
theorem wDc_items {d : Addr} {o : Obj} {kvs : List (Key × V)} {k l : Nat} (q : ∀ D H2, H D = none → Step [] H H2 → H2 D = some (.dK []) → ∃ Pv : Nat → Hp → Prop, Pv 0 H2 ∧ (∀ i H, i ≤ kvs.length → Pv i H → H d = some (.frz o (.dK kvs))) ∧
    (∀ i p H H2 T, kvs[i]? = some p → Pv i H → H T = none → Step [] H H2 → H2 T = some (.tup [kV p.1, p.2]) → kTurnD tt tk tv ws σ D (Pv (i + 1)) (((wipe σ ws).set k (some (kV p.1))).set l (some p.2)) H2) ∧ (∀ H, Pv kvs.length H → Q (.ref D) H)) :
    wDc (Iti d o kvs) (gTup K 2 (gCons (gName k) (gCons (gName l) gNil))) tt tk tv ws σ Q H :=
  wDc_gen kvs.length fun D H2 h1 h2 h3 => by
    obtain ⟨Pv, p0, hl, hs, hd⟩ := q D H2 h1 h2 h3
    refine ⟨Pv, p0, fun i H hi p => ⟨hl i H (Nat.le_of_lt hi) p, hi⟩, fun H p => ⟨hl _ H (Nat.le_refl _) p, Nat.le_refl _⟩, fun i H x H' hi p y => ?_, hd⟩
    obtain ⟨T, k, v, e2, e3, hT, e4⟩ := y
    subst e3 e4
    exact ⟨T, _, rfl, SqT.of upd_same, rfl, _, _, rfl, _, _, rfl, rfl, hs i (k, v) H _ T e2 p hT (Step.new hT) upd_same⟩
theorem wDc_rng {k : Nat} {lo : Int} {n : Nat} (q : ∀ D H2, H D = none → Step [] H H2 → H2 D = some (.dK []) → ∃ Pv : Nat → Hp → Prop, Pv 0 H2 ∧ (∀ i H, i < n → Pv i H → kTurnD tt tk tv ws σ D (Pv (i + 1)) ((wipe σ ws).set k (some (.int (lo + (i : Int))))) H) ∧ (∀ H, Pv n H → Q (.ref D) H)) : wDc (Itr lo n) (gName k) tt tk tv ws σ Q H :=
  wDc_gen n fun D H2 h1 h2 h3 => by
    obtain ⟨Pv, p0, hs, hd⟩ := q D H2 h1 h2 h3
    refine ⟨Pv, p0, fun i _ hi _ => hi, fun _ _ => Nat.le_refl _, fun i H x H' hi p y => ?_, hd⟩
    obtain ⟨e1, e2⟩ := y
    subst e1 e2
    exact hs i _ hi p
end
/-! a tuple taken apart -/
section
variable {K : PySem.W.Frag} {σ : L2.St} {H : Hp} {Q : L2.St → Hp → Prop}
theorem g_tup2 {a : Addr} {x y : V} {k l : Nat} (h : H a = some (.tup [x, y])) (q : Q ((σ.set k (some x)).set l (some y)) H) : gTup K 2 (gCons (gName k) (gCons (gName l) gNil)) (.ref a) σ H Q := ⟨a, _, rfl, SqT.of h, rfl, _, _, rfl, _, _, rfl, rfl, q⟩
theorem g_tup3 {a : Addr} {x y z : V} {k l m : Nat} (h : H a = some (.tup [x, y, z])) (q : Q (((σ.set k (some x)).set l (some y)).set m (some z)) H) : gTup K 3 (gCons (gName k) (gCons (gName l) (gCons (gName m) gNil))) (.ref a) σ H Q := ⟨a, _, rfl, SqT.of h, rfl, _, _, rfl, _, _, rfl, _, _, rfl, rfl, q⟩
theorem g_tup4 {a : Addr} {x y z w : V} {k l m n : Nat} (h : H a = some (.tup [x, y, z, w])) (q : Q ((((σ.set k (some x)).set l (some y)).set m (some z)).set n (some w)) H) : gTup K 4 (gCons (gName k) (gCons (gName l) (gCons (gName m) (gCons (gName n) gNil)))) (.ref a) σ H Q := ⟨a, _, rfl, SqT.of h, rfl, _, _, rfl, _, _, rfl, _, _, rfl, _, _, rfl, rfl, q⟩
end
end My
/-! Kit4: named readings for operators and built-in calls. -/
namespace My
open PySem PySem.Spec PyProof.Rows L2
section
variable {X : Cx} {K : PySem.W.Frag} {H : Hp} {Q : VK} {i j : Int} {xs ys : List V} {p : Addr}
def rModP : R2 := fun x y H Q => ∃ i j, x = .int i ∧ y = .int j ∧ 0 < j ∧ Q (.int (i % j)) H
theorem op_modP : OpR X (binaryOp .Mod) rModP := by
  intro pins s σ H x y v u Q I rx ry h
  obtain ⟨i, j, e1, e2, hj, q⟩ := h
  exact op_modN pins s σ H x y v u Q I rx ry ⟨i, j, e1, e2, by omega, by show Q (.int (i.fmod j)) H; rw [Int.fmod_eq_emod_of_nonneg i (by omega)]; exact q⟩
theorem g_modP (h : 0 < j) (q : Q (.int (i % j)) H) : rModP (.int i) (.int j) H Q := ⟨i, j, rfl, rfl, h, q⟩
def rDivP : R2 := fun x y H Q => ∃ i j, x = .int i ∧ y = .int j ∧ CDivW i j ∧ Q (.int (i / j)) H
theorem op_divP : OpR X (binaryOp .FloorDiv) rDivP := op_fdivW
theorem g_divP (h : 0 < j) (h2 : j < 2 ^ 250) (q : Q (.int (i / j)) H) : rDivP (.int i) (.int j) H Q := ⟨i, j, rfl, rfl, wide_div (b := 250) h (by omega) (by decide) (by decide), q⟩
def rMulP : R2 := fun x y H Q => ∃ i j, x = .int i ∧ y = .int j ∧ CMulW i j ∧ Q (.int (i * j)) H
theorem op_mulP : OpR X (binaryOp .Mult) rMulP := op_mulW
theorem g_mulP (h1 : -(2 ^ 250) < i) (h2 : i < 2 ^ 250) (h3 : -(2 ^ 250) < j) (h4 : j < 2 ^ 250) (q : Q (.int (i * j)) H) : rMulP (.int i) (.int j) H Q :=
  ⟨i, j, rfl, rfl, wide_mul (a := 250) (b := 250) (by omega) (by omega) (by decide) (by decide) (by decide), q⟩
def rPowP : R2 := fun x y H Q => ∃ i j, x = .int i ∧ y = .int j ∧ CPowW i j ∧ Q (.int (i ^ j.toNat)) H
theorem op_powP : OpR X (binaryOp .Pow) rPowP := op_powW
theorem g_powP (h1 : -(2 ^ 250) < i) (h2 : i < 2 ^ 250) (h3 : 0 ≤ j) (h4 : j ≤ 1000) (q : Q (.int (i ^ j.toNat)) H) : rPowP (.int i) (.int j) H Q :=
  ⟨i, j, rfl, rfl, powW_ok (a := 250) (by omega) (by decide) h3 (by omega), q⟩
/-! len -/
def rLenL (K : PySem.W.Frag) : List V → Hp → VK → Prop := fun xs H Q => ∃ p ys, xs = [.ref p] ∧ (SqL K H p ys ∨ SqT K H p ys) ∧ Q (.int ys.length) H
theorem cr_lenL : CallR X (.builtin "len") (rLenL X.K) := call_len_seq
theorem g_lenL (h : H p = some (.lst xs)) (q : Q (.int (xs.length : Nat)) H) : rLenL K [.ref p] H Q := ⟨p, xs, rfl, .inl (SqL.of h), q⟩
theorem g_lenLK (h : SqL K H p xs) (q : Q (.int (xs.length : Nat)) H) : rLenL K [.ref p] H Q := ⟨p, xs, rfl, .inl h, q⟩
theorem g_lenT (h : H p = some (.tup xs)) (q : Q (.int (xs.length : Nat)) H) : rLenL K [.ref p] H Q := ⟨p, xs, rfl, .inr (SqT.of h), q⟩
def rLenSt : List V → Hp → VK → Prop := fun xs H Q => ∃ z : Str, xs = [.str z] ∧ z.length ≤ sizeLine ∧ Q (.int z.length) H
theorem cr_lenSt : CallR X (.builtin "len") rLenSt := call_len_str
theorem g_lenSt {z : Str} (hl : z.length ≤ sizeLine) (q : Q (.int (z.length : Nat)) H) : rLenSt [.str z] H Q := ⟨z, rfl, hl, q⟩
def rLenDi : List V → Hp → VK → Prop := fun xs H Q => ∃ a kvs, xs = [V.ref a] ∧ H a = some (.dK kvs) ∧ Q (.int kvs.length) H
theorem cr_lenDi : CallR X (.builtin "len") rLenDi := call_lenD
theorem g_lenDi {kvs : List (Key × V)} (h : H p = some (.dK kvs)) (q : Q (.int (kvs.length : Nat)) H) : rLenDi [.ref p] H Q := ⟨p, kvs, rfl, h, q⟩
/-! least, greatest of two -/
def rMax2 : List V → Hp → VK → Prop := fun xs H Q => ∃ i j, xs = [.int i, .int j] ∧ Q (.int (if j > i then j else i)) H
def rMin2 : List V → Hp → VK → Prop := fun xs H Q => ∃ i j, xs = [.int i, .int j] ∧ Q (.int (if j < i then j else i)) H
theorem cr_max2 (hc : X.calm = true) : CallR X (.builtin "max") rMax2 := call_max2 hc
theorem cr_min2 (hc : X.calm = true) : CallR X (.builtin "min") rMin2 := call_min2 hc
theorem g_max2 (q : Q (.int (max i j)) H) : rMax2 [.int i, .int j] H Q := ⟨i, j, rfl, by
  have e : (if j > i then j else i) = max i j := by
    rw [Int.max_def]
    split <;> split <;> omega
  rw [e]
  exact q⟩
theorem g_min2 (q : Q (.int (min i j)) H) : rMin2 [.int i, .int j] H Q := ⟨i, j, rfl, by
  have e : (if j < i then j else i) = min i j := by
    rw [Int.min_def]
    split <;> split <;> omega
  rw [e]
  exact q⟩
/-! sums, tests of lists -/
theorem g_sum {ns : List Int} (h : H p = some (.lst (ns.map V.int))) (q : Q (.int ns.sum) H) : rSum K [.ref p] H Q := ⟨p, ns, rfl, SqL.of h, q⟩
theorem g_all {bs : List Bool} (h : H p = some (.lst (bs.map V.bl))) (q : Q (.bl (bs.all id)) H) : rAll K [.ref p] H Q := ⟨p, bs, rfl, SqL.of h, q⟩
theorem g_any {bs : List Bool} (h : H p = some (.lst (bs.map V.bl))) (q : Q (.bl (bs.any id)) H) : rAny K [.ref p] H Q := ⟨p, bs, rfl, SqL.of h, q⟩
theorem g_sortedI {ns : List Int} (h : H p = some (.lst (ns.map V.int))) (hl : ns.length < 64) (q : ∀ (ns' : List Int) p' H2, ns'.Perm ns → ns'.Pairwise (· ≤ ·) → H p' = none → Step [] H H2 → H2 p' = some (.lst (ns'.map V.int)) → Q (.ref p') H2) : rSorted K [.ref p] H Q :=
  ⟨p, ns, rfl, SqL.of h, hl, fun ns' p' e1 e2 e3 => q ns' p' _ e1 e2 e3 (Step.new e3) upd_same⟩
theorem g_sortedS {ss : List Str} (h : H p = some (.lst (ss.map V.str))) (hl : ss.length < 64) (q : ∀ (ys : List Str) p' H2, ys.Perm ss → sortedS ys = true → H p' = none → Step [] H H2 → H2 p' = some (.lst (ys.map V.str)) → Q (.ref p') H2) : rSortedS K [.ref p] H Q :=
  ⟨p, ss, rfl, SqL.of h, hl, fun ns' p' e1 e2 e3 => q ns' p' _ e1 e2 e3 (Step.new e3) upd_same⟩
/-- sorted of a dict of numbers -/
def rSortedDI : List V → Hp → VK → Prop := fun xs H Q => ∃ (a : Addr) (kvs : List (Key × V)) (ks : List Int), xs = [.ref a] ∧ Rd H a (.dK kvs) ∧ kvs.map (·.1) = ks.map Sum.inl ∧ ks.length < 64 ∧ ∀ (ys : List Int) (p : Addr), ys.Perm ks → ys.Pairwise (· ≤ ·) → H p = none → Q (.ref p) (upd H p (.lst (ys.map V.int)))
theorem cr_sortedDI (hc : X.calm = true) : CallR X (.builtin "sorted") rSortedDI := call_sortedDI hc
theorem g_sortedDI {kvs : List (Key × V)} {ks : List Int} (h : Rd H p (.dK kvs)) (e : kvs.map (·.1) = ks.map Sum.inl) (hl : ks.length < 64) (q : ∀ (ns' : List Int) p' H2, ns'.Perm ks → ns'.Pairwise (· ≤ ·) → H p' = none → Step [] H H2 → H2 p' = some (.lst (ns'.map V.int)) → Q (.ref p') H2) : rSortedDI [.ref p] H Q :=
  ⟨p, kvs, ks, rfl, h, e, hl, fun ns' p' e1 e2 e3 => q ns' p' _ e1 e2 e3 (Step.new e3) upd_same⟩
/-! list(..) -/
def rListL (K : PySem.W.Frag) : List V → Hp → VK → Prop := fun xs H Q => ∃ p ys, xs = [.ref p] ∧ (SqL K H p ys ∨ SqT K H p ys) ∧ ∀ l, H l = none → Q (.ref l) (upd H l (.lst ys))
theorem cr_listL : CallR X (.type "list") (rListL X.K) := call_list_of
theorem g_listL (h : H p = some (.lst xs)) (q : ∀ l H2, H l = none → Step [] H H2 → H2 l = some (.lst xs) → Q (.ref l) H2) : rListL K [.ref p] H Q := ⟨p, xs, rfl, .inl (SqL.of h), fun l hl => q l _ hl (Step.new hl) upd_same⟩
theorem g_listT (h : H p = some (.tup xs)) (q : ∀ l H2, H l = none → Step [] H H2 → H2 l = some (.lst xs) → Q (.ref l) H2) : rListL K [.ref p] H Q := ⟨p, xs, rfl, .inr (SqT.of h), fun l hl => q l _ hl (Step.new hl) upd_same⟩
def rListDi : List V → Hp → VK → Prop := fun xs H Q => ∃ (a : Addr) (kvs : List (Key × V)), xs = [.ref a] ∧ Rd H a (.dK kvs) ∧ ∀ p, H p = none → Q (.ref p) (upd H p (.lst (kvs.map fun kv => kV kv.1)))
theorem cr_listDi (hc : X.calm = true) : CallR X (.type "list") rListDi := call_listD hc
theorem g_listDi {kvs : List (Key × V)} (h : Rd H p (.dK kvs)) (q : ∀ l H2, H l = none → Step [] H H2 → H2 l = some (.lst (kvs.map fun kv => kV kv.1)) → Q (.ref l) H2) : rListDi [.ref p] H Q := ⟨p, kvs, rfl, h, fun l hl => q l _ hl (Step.new hl) upd_same⟩
/-! join -/
def rJoin (K : PySem.W.Frag) : V → List V → Hp → VK → Prop := fun x xs H Q => ∃ a p, ∃ ys : List Str, x = .str a ∧ xs = [.ref p] ∧ (SqL K H p (ys.map V.str) ∨ SqT K H p (ys.map V.str)) ∧ (ys.map (·.length)).sum + ys.length * a.length ≤ 16777216 ∧ Q (.str (Txt.join a ys)) H
theorem mt_joinR : MtR X "str.join" (rJoin X.K) := mt_join
theorem g_join {z : Str} {ss : List Str} (h : H p = some (.lst (ss.map V.str))) (hl : (ss.map (·.length)).sum + ss.length * z.length ≤ 16777216) (q : Q (.str (Txt.join z ss)) H) : rJoin K (.str z) [.ref p] H Q := ⟨z, p, ss, rfl, rfl, .inl (SqL.of h), hl, q⟩
end
section
variable {X : Cx} {o e : Expr} {apos pos : Pos} {to te : TE}
theorem pe_joinR (ho : PE X o to) (he : PE X e te) (hs : starEach [e] X.env = [(false, eval e X.env)] := by rfl) (hbase : attributeBase o "join" X.env (eval o X.env) = eval o X.env := by rfl) (hline : (apos.endLine == pos.line) = true := by rfl) : PE X (.Call (.Attribute o "join" apos) [e] [] pos) (tM1 (rJoin X.K) to te) := pe_join ho he hs hbase hline
end
/-! words between: what follows is shown once -/
section
variable {X : Cx} {st : Stmt} {rest : List Stmt} {t u : TS} {e : Expr} {te : TE} {tt : TT} {σ : L2.St} {H : Hp} {Q : VK} {QT : Bool → Hp → Prop} {nx bk ct : L2.St → Hp → Prop} {rt : VK}
def tCutM (t u : TS) : TS := fun D σ H => ∃ Mid : L2.St → Hp → Prop, t ⟨Mid, D.rt, D.bk, D.ct⟩ σ H ∧ ∀ σ' H', Mid σ' H' → u D σ' H'
theorem pss_cutM (h1 : PS X st t) (h2 : PSs X rest u) : PSs X (st :: rest) (tCutM t u) := by
  refine ⟨fun pins s σ H D I h => ?_⟩
  obtain ⟨Mid, hm, hu⟩ := h
  refine wpAny_execs_cons (thn (h1.run pins s σ H ⟨Mid, D.rt, D.bk, D.ct⟩ I hm) fun f s1 q => ?_)
  cases f with
  | next =>
    obtain ⟨σ', H', I', q⟩ := q
    exact h2.run pins s1 σ' H' D I' (hu σ' H' q)
  | ret v => exact q
  | brk => exact q
  | cont => exact q
theorem g_cut (Mid : L2.St → Hp → Prop) (h1 : t ⟨Mid, rt, bk, ct⟩ σ H) (h2 : ∀ σ' H', Mid σ' H' → u ⟨nx, rt, bk, ct⟩ σ' H') : tCutM t u ⟨nx, rt, bk, ct⟩ σ H := ⟨Mid, h1, h2⟩
def tTCut (tt : TT) : TT := fun σ H Q => ∃ Mid : Bool → Hp → Prop, tt σ H Mid ∧ ∀ b H', Mid b H' → Q b H'
theorem pt_cut (h : PT X e tt) : PT X e (tTCut tt) := by
  refine ⟨fun pins s σ H Q I hq => ?_⟩
  obtain ⟨Mid, hm, hu⟩ := hq
  exact thn (h.run pins s σ H Mid I hm) fun b s1 ⟨H1, I1, q⟩ => ⟨H1, I1, hu b H1 q⟩
theorem g_tcut (Mid : Bool → Hp → Prop) (h1 : tt σ H Mid) (h2 : ∀ b H', Mid b H' → QT b H') : tTCut tt σ H QT := ⟨Mid, h1, h2⟩
def tECut (te : TE) : TE := fun σ H Q => ∃ Mid : V → Hp → Prop, te σ H Mid ∧ ∀ b H', Mid b H' → Q b H'
theorem pe_cut (h : PE X e te) : PE X e (tECut te) := by
  refine ⟨fun pins s σ H Q I hq => ?_⟩
  obtain ⟨Mid, hm, hu⟩ := hq
  exact thn (h.run pins s σ H Mid I hm) fun b s1 ⟨v, H1, I1, r, q⟩ => ⟨v, H1, I1, r, hu v H1 q⟩
theorem g_ecut (Mid : V → Hp → Prop) (h1 : te σ H Mid) (h2 : ∀ b H', Mid b H' → Q b H') : tECut te σ H Q := ⟨Mid, h1, h2⟩
def rAddS : R2 := fun x y H Q => ∃ i j, x = .str i ∧ y = .str j ∧ i.length + j.length ≤ sizeLine ∧ Q (.str (i ++ j)) H
theorem op_addS : OpR X (binaryOp .Add) rAddS := op_add_str
theorem g_addS {a b : Str} (hl : a.length + b.length ≤ sizeLine) (q : Q (.str (a ++ b)) H) : rAddS (.str a) (.str b) H Q := ⟨a, b, rfl, rfl, hl, q⟩
/-! == of data -/
theorem g_eqD {K : PySem.W.Frag} {x y : V} {d e : PyData} (h1 : Dp K H x d) (h2 : Dp K H y e) (s1 : SeqAt.shaped d = true) (s2 : SeqAt.shaped e = true) (q : Q (.bl (PyData.eqv d e)) H) : rEqD K x y H Q := ⟨d, e, h1, h2, s1, s2, q⟩
theorem g_neD {K : PySem.W.Frag} {x y : V} {d e : PyData} (h1 : Dp K H x d) (h2 : Dp K H y e) (s1 : SeqAt.shaped d = true) (s2 : SeqAt.shaped e = true) (q : Q (.bl (!PyData.eqv d e)) H) : rNeD K x y H Q := ⟨d, e, h1, h2, s1, s2, q⟩
end
/-! within a comprehension's block: the written part named outright -/
section
variable {X : Cx} {K : PySem.W.Frag} {e : Expr}
theorem kIx {r : PySem.W.Frag → R2} (h : IxR X (r X.K)) (hK : X.K = K := by rfl) : IxR X (r K) := by subst hK; exact h
theorem kSl {r : PySem.W.Frag → V → Option Int → Option Int → Hp → VK → Prop} (h : SlR X (r X.K)) (hK : X.K = K := by rfl) : SlR X (r K) := by subst hK; exact h
theorem kOp {f : Value → Value → Sem Value} {r : PySem.W.Frag → R2} (h : OpR X f (r X.K)) (hK : X.K = K := by rfl) : OpR X f (r K) := by subst hK; exact h
theorem kIn {f : Value → Value → Sem Value} {b : Bool} (h : OpR X f (rIn X.K b)) (hK : X.K = K := by rfl) : OpR X f (rIn K b) := by subst hK; exact h
theorem kCall {f : Value} {r : PySem.W.Frag → List V → Hp → VK → Prop} (h : CallR X f (r X.K)) (hK : X.K = K := by rfl) : CallR X f (r K) := by subst hK; exact h
theorem pe_bmK {T : String} {r : V → List V → Hp → VK → Prop} {to : TE} {t : TA} (h : PE X e (tBM X.K T r to t)) (hK : X.K = K := by rfl) : PE X e (tBM K T r to t) := by subst hK; exact h
theorem pe_bm0K {T : String} {r : V → List V → Hp → VK → Prop} {to : TE} (h : PE X e (tBM0 X.K T r to)) (hK : X.K = K := by rfl) : PE X e (tBM0 K T r to) := by subst hK; exact h
theorem pe_fldK {ta : TE} {f : Str} (h : PE X e (tFld X.K ta f)) (hK : X.K = K := by rfl) : PE X e (tFld K ta f) := by subst hK; exact h
theorem pi_listK {tg : Expr} {tl : TE} (h : PI X tg e (iList X.K tl)) (hK : X.K = K := by rfl) : PI X tg e (iList K tl) := by subst hK; exact h
end
/-! d.get(k, x) -/
section
variable {σ : L2.St} {H : Hp} {Q : VK} {td ty tx : TE} {p : Addr} {kvs : List (Key × V)} {i : Int} {z : V}
def kDG2b (Q : VK) (a : Addr) (y : V) : VK := fun z H3 => ∃ o, DGet H3 a y o ∧ Q (o.getD z) H3
def kDG2 (ty tx : TE) (σ : L2.St) (Q : VK) : VK := fun x H1 => ∃ a, x = .ref a ∧ IsD H1 a ∧ ty σ H1 fun y H2 => tx σ H2 (kDG2b Q a y)
theorem g_dget2 (h : td σ H (kDG2 ty tx σ Q)) : tDGet2 td ty tx σ H Q := h
theorem g_kDG2 (h : Rd H p (.dK kvs)) (q : ty σ H (fun y H2 => tx σ H2 (kDG2b Q p y))) : kDG2 ty tx σ Q (.ref p) H := ⟨p, rfl, .inl ⟨kvs, h⟩, q⟩
theorem g_kDG2b (h : Rd H p (.dK kvs)) (q : Q ((valV kvs (Sum.inl i)).getD z) H) : kDG2b Q p (.int i) z H := ⟨_, .inl ⟨kvs, Sum.inl i, h, rfl, rfl⟩, q⟩
theorem g_kDG2bS {s : Str} (h : Rd H p (.dK kvs)) (q : Q ((valV kvs (Sum.inr s)).getD z) H) : kDG2b Q p (.str s) z H := ⟨_, .inl ⟨kvs, Sum.inr s, h, rfl, rfl⟩, q⟩
def kDG1 (Q : VK) (a : Addr) : VK := fun y H2 => ∃ o, DGet H2 a y o ∧ Q (o.getD .non) H2
def kDG1a (ty : TE) (σ : L2.St) (Q : VK) : VK := fun x H1 => ∃ a, x = .ref a ∧ IsD H1 a ∧ ty σ H1 (kDG1 Q a)
theorem g_dget1 (h : td σ H (kDG1a ty σ Q)) : tDGet1 td ty σ H Q := h
theorem g_kDG1a (h : Rd H p (.dK kvs)) (q : ty σ H (kDG1 Q p)) : kDG1a ty σ Q (.ref p) H := ⟨p, rfl, .inl ⟨kvs, h⟩, q⟩
theorem g_kDG1 (h : Rd H p (.dK kvs)) (q : Q ((valV kvs (Sum.inl i)).getD .non) H) : kDG1 Q p (.int i) H := ⟨_, .inl ⟨kvs, Sum.inl i, h, rfl, rfl⟩, q⟩
end
end My
/-! Kit5: == of data, of dicts of data. -/
namespace My
open PySem PySem.Spec PyProof.Rows L2
/-! ### codecs: how a value reads as plain data -/
structure Cod {α : Type} (K : PySem.W.Frag) (r : Rp α) where
  enc : α → PyData
  ok : α → Prop
  lay : ∀ x, ok x → (enc x).canLay0 = true
  dep : Nat
  hdep : ∀ x, (enc x).depth ≤ dep
  eqv : ∀ x y, PyData.eqv (enc x) (enc y) = true ↔ x = y
  dp : ∀ H v x, r H v x → Dp K H v (enc x)
def StrOk (z : Str) : Prop := PyData.strOk z = true
theorem strOk_low {z : Str} (h : ∀ c ∈ cs z, c < 1114112) : StrOk z := by
  unfold StrOk PyData.strOk
  rw [← Array.all_toList, List.all_eq_true]
  intro c hc
  exact decide_eq_true (h c hc)
theorem IsNm.ok {z : Str} (h : IsNm z) : StrOk z := strOk_low fun c hc => by
  have := h.low c hc
  unfold isLow at this
  omega
theorem eqvAll_iff {α : Type} {f : α → PyData} (he : ∀ x y, PyData.eqv (f x) (f y) = true ↔ x = y) : ∀ xs ys : List α, PyData.eqvAll (xs.map f) (ys.map f) = true ↔ xs = ys
  | [], [] => by simp [PyData.eqvAll]
  | [], _ :: _ => by simp [PyData.eqvAll]
  | _ :: _, [] => by simp [PyData.eqvAll]
  | x :: xs, y :: ys => by
    simp only [List.map_cons, PyData.eqvAll, Bool.and_eq_true, he x y, eqvAll_iff he xs ys, List.cons.injEq]
theorem layAll {α : Type} {f : α → PyData} : ∀ {xs : List α}, (∀ x ∈ xs, (f x).canLay0 = true) → PyData.canLayAll0 (xs.map f) = true
  | [], _ => by simp [PyData.canLayAll0]
  | x :: xs, h => by
    simp only [List.map_cons, PyData.canLayAll0, Bool.and_eq_true]
    exact ⟨h x (List.mem_cons_self ..), layAll fun y hy => h y (List.mem_cons_of_mem _ hy)⟩
theorem depAll {α : Type} {f : α → PyData} {d : Nat} (h : ∀ x, (f x).depth ≤ d) : ∀ xs : List α, PyData.depthAll (xs.map f) ≤ d
  | [] => by simp [PyData.depthAll]
  | x :: xs => by
    simp only [List.map_cons, PyData.depthAll]
    exact Nat.max_le.mpr ⟨h x, depAll h xs⟩
theorem dpAll {α : Type} {K : PySem.W.Frag} {H : Hp} {f : α → PyData} {r : V → α → Prop} (h : ∀ v x, r v x → Dp K H v (f x)) : ∀ {vs : List V} {xs : List α}, Paired r vs xs → DpAll K H vs (xs.map f)
  | _, _, .nil => .nil
  | _, _, .cons a t => .cons (h _ _ a) (dpAll h t)
section
variable {K : PySem.W.Frag} {α β γ δ : Type} {r : Rp α} {q : Rp β} {s : Rp γ} {t : Rp δ}
def cI : Cod K rI := ⟨.int, fun _ => True, fun _ _ => by simp [PyData.canLay0], 0, fun _ => by simp [PyData.depth], fun x y => by simp [PyData.eqv], fun _ _ _ h => by rw [show _ = V.int _ from h]; exact .int _⟩
def cB : Cod K rB := ⟨.bool, fun _ => True, fun _ _ => by simp [PyData.canLay0], 0, fun _ => by simp [PyData.depth], fun x y => by simp [PyData.eqv], fun _ _ _ h => by rw [show _ = V.bl _ from h]; exact .bl _⟩
def cS : Cod K rS := ⟨.str, StrOk, fun _ h => by simpa [PyData.canLay0, StrOk] using h, 0, fun _ => by simp [PyData.depth], fun x y => by simp [PyData.eqv], fun _ _ _ h => by rw [show _ = V.str _ from h]; exact .str _⟩
def encO {α : Type} (f : α → PyData) : Option α → PyData
  | none => .none
  | some x => f x
def cOS : Cod K rOS := ⟨encO .str, fun o => ∀ x, o = some x → StrOk x, fun o h => by
  cases o with
  | none => simp [encO, PyData.canLay0]
  | some x => simpa [encO, PyData.canLay0, StrOk] using h x rfl, 0, fun o => by cases o <;> simp [encO, PyData.depth], fun x y => by cases x <;> cases y <;> simp [encO, PyData.eqv], fun _ v o h => by
  cases o with
  | none => rw [show v = V.non from h]; exact .non
  | some x => rw [show v = V.str x from h]; exact .str _⟩
def cL (c : Cod K r) : Cod K (rL r) := ⟨fun xs => .list (xs.map c.enc), fun xs => ∀ x ∈ xs, c.ok x, fun xs h => by
  simp only [PyData.canLay0]
  exact layAll fun x hx => c.lay x (h x hx), c.dep + 1, fun xs => by
  simp only [PyData.depth]
  exact Nat.succ_le_succ (depAll c.hdep xs), fun x y => by
  simp only [PyData.eqv]
  exact eqvAll_iff c.eqv x y, fun H v x h => by
  obtain ⟨a, vs, rfl, h1, h2⟩ := h
  exact .lst (SqL.of h1) (dpAll (c.dp H) h2)⟩
def cP2 (c : Cod K r) (d : Cod K q) : Cod K (rP2 r q) := ⟨fun x => .tuple [c.enc x.1, d.enc x.2], fun x => c.ok x.1 ∧ d.ok x.2, fun x h => by
  simp [PyData.canLay0, PyData.canLayAll0, c.lay _ h.1, d.lay _ h.2], max c.dep d.dep + 1, fun x => by
  have h1 := c.hdep x.1
  have h2 := d.hdep x.2
  simp only [PyData.depth, PyData.depthAll]
  omega, fun x y => by
  obtain ⟨x1, x2⟩ := x
  obtain ⟨y1, y2⟩ := y
  simp [PyData.eqv, PyData.eqvAll, c.eqv, d.eqv], fun H v x h => by
  obtain ⟨a, u, w, rfl, h1, h2, h3⟩ := h
  exact .tup (SqT.of h1) (.cons (c.dp _ _ _ h2) (.cons (d.dp _ _ _ h3) .nil))⟩
def cP3 (c : Cod K r) (d : Cod K q) (e : Cod K s) : Cod K (rP3 r q s) := ⟨fun x => .tuple [c.enc x.1, d.enc x.2.1, e.enc x.2.2], fun x => c.ok x.1 ∧ d.ok x.2.1 ∧ e.ok x.2.2, fun x h => by
  simp [PyData.canLay0, PyData.canLayAll0, c.lay _ h.1, d.lay _ h.2.1, e.lay _ h.2.2], max (max c.dep d.dep) e.dep + 1, fun x => by
  have h1 := c.hdep x.1
  have h2 := d.hdep x.2.1
  have h3 := e.hdep x.2.2
  simp only [PyData.depth, PyData.depthAll]
  omega, fun x y => by
  obtain ⟨x1, x2, x3⟩ := x
  obtain ⟨y1, y2, y3⟩ := y
  simp [PyData.eqv, PyData.eqvAll, c.eqv, d.eqv, e.eqv], fun H v x h => by
  obtain ⟨a, u, w, z, rfl, h1, h2, h3, h4⟩ := h
  exact .tup (SqT.of h1) (.cons (c.dp _ _ _ h2) (.cons (d.dp _ _ _ h3) (.cons (e.dp _ _ _ h4) .nil)))⟩
def cP4 (c : Cod K r) (d : Cod K q) (e : Cod K s) (f : Cod K t) : Cod K (rP4 r q s t) := ⟨fun x => .tuple [c.enc x.1, d.enc x.2.1, e.enc x.2.2.1, f.enc x.2.2.2], fun x => c.ok x.1 ∧ d.ok x.2.1 ∧ e.ok x.2.2.1 ∧ f.ok x.2.2.2, fun x h => by
  simp [PyData.canLay0, PyData.canLayAll0, c.lay _ h.1, d.lay _ h.2.1, e.lay _ h.2.2.1, f.lay _ h.2.2.2], max (max c.dep d.dep) (max e.dep f.dep) + 1, fun x => by
  have h1 := c.hdep x.1
  have h2 := d.hdep x.2.1
  have h3 := e.hdep x.2.2.1
  have h4 := f.hdep x.2.2.2
  simp only [PyData.depth, PyData.depthAll]
  omega, fun x y => by
  obtain ⟨x1, x2, x3, x4⟩ := x
  obtain ⟨y1, y2, y3, y4⟩ := y
  simp [PyData.eqv, PyData.eqvAll, c.eqv, d.eqv, e.eqv, f.eqv], fun H v x h => by
  obtain ⟨a, u, w, z, y, rfl, h1, h2, h3, h4, h5⟩ := h
  exact .tup (SqT.of h1) (.cons (c.dp _ _ _ h2) (.cons (d.dp _ _ _ h3) (.cons (e.dp _ _ _ h4) (.cons (f.dp _ _ _ h5) .nil))))⟩
theorem Cod.shaped (c : Cod K r) {x : α} (h : c.ok x) (hd : c.dep ≤ 64 := by exact Nat.le_of_ble_eq_true rfl) : SeqAt.shaped (c.enc x) = true := by
  unfold SeqAt.shaped
  rw [Bool.and_eq_true]
  exact ⟨c.lay x h, decide_eq_true (Nat.le_trans (c.hdep x) hd)⟩
theorem Cod.dec (c : Cod K r) [DecidableEq α] (x y : α) : PyData.eqv (c.enc x) (c.enc y) = decide (x = y) := by
  have := c.eqv x y
  by_cases h : x = y
  · rw [this.mpr h, decide_eq_true h]
  · rw [decide_eq_false h]
    cases e : PyData.eqv (c.enc x) (c.enc y) with
    | false => rfl
    | true => exact absurd (this.mp e) h
/-- x == y, x != y of data with one codec -/
theorem g_eqC [DecidableEq α] {H : Hp} {Q : VK} {u v : V} {x y : α} (c : Cod K r) (h1 : r H u x) (h2 : r H v y) (o1 : c.ok x) (o2 : c.ok y) (q : Q (.bl (decide (x = y))) H) (hd : c.dep ≤ 64 := by exact Nat.le_of_ble_eq_true rfl) : rEqD K u v H Q :=
  g_eqD (c.dp _ _ _ h1) (c.dp _ _ _ h2) (c.shaped o1 hd) (c.shaped o2 hd) (by rw [c.dec]; exact q)
theorem g_neC [DecidableEq α] {H : Hp} {Q : VK} {u v : V} {x y : α} (c : Cod K r) (h1 : r H u x) (h2 : r H v y) (o1 : c.ok x) (o2 : c.ok y) (q : Q (.bl (!decide (x = y))) H) (hd : c.dep ≤ 64 := by exact Nat.le_of_ble_eq_true rfl) : rNeD K u v H Q :=
  g_neD (c.dp _ _ _ h1) (c.dp _ _ _ h2) (c.shaped o1 hd) (c.shaped o2 hd) (by rw [c.dec]; exact q)
end
/-! ### == of two dicts whose values are data -/
section
variable {X : Cx}
/-- e: whether the values under a key are alike -/
def DDat (K : PySem.W.Frag) (H : Hp) (x y : V) (ks ls : List (Key × V)) (e : Key → Bool) : Prop := ∃ a b, x = .ref a ∧ y = .ref b ∧ H a = some (.dK ks) ∧ H b = some (.dK ls) ∧
  ∀ k v u, (k, v) ∈ ks → valV ls k = some u → ∃ d d', Dp K H v d ∧ Dp K H u d' ∧ SeqAt.shaped d = true ∧ SeqAt.shaped d' = true ∧ PyData.eqv d d' = e k
def rEqDD (K : PySem.W.Frag) : R2 := fun x y H Q => ∃ ks ls e, DDat K H x y ks ls e ∧ Q (.bl (ks.length == ls.length && ks.all fun p => (valV ls p.1).isSome && e p.1)) H
def rNeDD (K : PySem.W.Frag) : R2 := fun x y H Q => ∃ ks ls e, DDat K H x y ks ls e ∧ Q (.bl (!(ks.length == ls.length && ks.all fun p => (valV ls p.1).isSome && e p.1))) H
theorem P_mem2 {α β : Type} {F : α → β → Prop} : ∀ {l1 : List α} {l2 : List β} {y : β}, Paired F l1 l2 → y ∈ l2 → ∃ x, x ∈ l1 ∧ F x y
  | _, _, _, .nil, h => by cases h
  | _, _, _, .cons r t, h => by
    rcases List.mem_cons.mp h with rfl | h
    · exact ⟨_, List.mem_cons_self .., r⟩
    · obtain ⟨x, h1, h2⟩ := P_mem2 t h
      exact ⟨x, List.mem_cons_of_mem _ h1, h2⟩
theorem P_mem1 {α β : Type} {F : α → β → Prop} : ∀ {l1 : List α} {l2 : List β} {x : α}, Paired F l1 l2 → x ∈ l1 → ∃ y, y ∈ l2 ∧ F x y
  | _, _, _, .nil, h => by cases h
  | _, _, _, .cons r t, h => by
    rcases List.mem_cons.mp h with rfl | h
    · exact ⟨_, List.mem_cons_self .., r⟩
    · obtain ⟨x, h1, h2⟩ := P_mem1 t h
      exact ⟨x, List.mem_cons_of_mem _ h1, h2⟩
theorem dd_all {ls : List (Key × V)} {vb : List (Key × Value)} {e : Key → Bool} (rb : KV ls vb) : ∀ {ks : List (Key × V)} {va : List (Key × Value)}, KV ks va → (va.all fun p => (valueAt vb p.1).isSome && e p.1) = (ks.all fun p => (valV ls p.1).isSome && e p.1)
  | _, _, .nil => rfl
  | (k, v) :: ks, (k', u) :: va, .cons h t => by
    obtain ⟨h1, _⟩ := h
    have h1 : k = k' := h1
    subst h1
    rw [List.all_cons, List.all_cons, dd_all rb t, (RelO.isSome_eq (rb.val k)).symm]
theorem dd_in {pins : List (Addr × Obj)} {σ : L2.St} {H : Hp} {s : Shared} {ks ls : List (Key × V)} {va vb : List (Key × Value)} {e : Key → Bool} (hu : X.A.in1.in1.units + 64 < cLine) (I : Inv X pins σ H s) (ra : KV ks va) (rb : KV ls vb)
    (hd : ∀ k v u, (k, v) ∈ ks → valV ls k = some u → ∃ d d', Dp X.K H v d ∧ Dp X.K H u d' ∧ SeqAt.shaped d = true ∧ SeqAt.shaped d' = true ∧ PyData.eqv d d' = e k) :
    ∀ k v y, (k, v) ∈ va → valueAt vb k = some y → SeqAt.EqIn X.prog X.w X.A.in1 s v y (e k) := by
  intro k v y hm hv
  obtain ⟨⟨k', v'⟩, hm', hk, hr⟩ := P_mem2 ra hm
  have hk : k' = k := hk
  subst hk
  have rr := rb.val k'
  rw [hv] at rr
  cases hu' : valV ls k' with
  | none => rw [hu'] at rr; exact (show False from rr).elim
  | some u =>
    rw [hu'] at rr
    have rr : RelV u y := rr
    obtain ⟨d, d', h1, h2, s1, s2, e1⟩ := hd k' v' u hm' hu'
    obtain ⟨as, r1⟩ := Dp.reads I d v' v h1 hr
    obtain ⟨bs, r2⟩ := Dp.reads I d' u y h2 rr
    have q := SeqAt.eqAt_reads d d' X.A.in1 s v y as bs r1 r2 (SeqAt.canLay_of_shaped s1) (SeqAt.canLay_of_shaped s2) (SeqAt.room_of_shaped s1 (by have : X.A.in1.in1.units = X.A.in1.units + 1 := rfl; omega))
    rw [e1] at q
    exact q.inModel X.prog X.w
theorem op_eqDD (hu : X.A.units + 64 + 2 < cLine) : OpR X (compareOp .Eq) (rEqDD X.K) := by
  intro pins s σ H x y v u Q I rx ry h
  obtain ⟨ks, ls, e, ⟨a, b, rfl, rfl, ea, eb, hd⟩, q⟩ := h
  obtain rfl : v = Value.ref a := rx
  obtain rfl : u = Value.ref b := ry
  obtain ⟨_, ya, va, ra, da⟩ := (show ObjOk X.prog X.w H s.heap a (.dK ks) from I.hok a _ ea)
  obtain ⟨_, yb, vb, rb, db⟩ := (show ObjOk X.prog X.w H s.heap b (.dK ls) from I.hok b _ eb)
  refine PySem.W.keq_eqIn (knd := mixKind X.prog X.w) ya yb da db (by omega) (fun _ => PySem.W.KeqHitsIn.of va (dd_in (by show X.A.units + 1 + 1 + 64 < cLine; omega) I ra rb hd)) ⟨.bl _, H, I, rfl, ?_⟩
  rw [dd_all rb ra, ← ra.length, ← rb.length]
  exact q
theorem keq_neIn {prog : Program} {w : World} {K : Type} [DecidableEq K] {knd : KeyKind prog w K} {A : Around} {E : Value → Shared → Prop} {s : Shared} {a b : Addr} {ka kb : List (K × Value)} {r : Bool} {Q : Value → Shared → Prop} (ha : (a == sysModules) = false) (hb : (b == sysModules) = false)
    (da : s.heap.DictOf knd a ka) (db : s.heap.DictOf knd b kb) (hu : A.units < cLine) (hits : ka.length = kb.length → PySem.W.KeqHitsIn prog w A.in1 s kb ka r) (h : Q (.bool (!(ka.length == kb.length && r))) s) :
    wpAny (model prog w) A (compareOp .NotEq (.ref a) (.ref b)) Q E s := by
  refine wpAny_richCompare_same_room (op := .NotEq) da.typeIs db.typeIs PySem.F.slot_dict_ne (wpAny_call_entry PySem.F.slot_dict_ne da.typeIs PySem.F.entry_dict_ne ?_ (PySem.F.args_dict_ne_2 _ _)) hu
  show wpAny _ _ (Builtin.Dict.dictSlotArgs "__ne__" ⟨[.ref a, .ref b], []⟩ >>= _) _ _ s
  refine wpAny_bind ?_
  unfold Builtin.Dict.dictSlotArgs
  refine wpAny_bind (wpAny_notOrdered_dict da.typeIs ?_)
  show wpAny _ _ (pure (Value.ref a, Value.ref b)) _ _ s
  refine wpAny_pure ?_
  refine wpAny_bind (wpAny_isInstance (T := "dict") db.typeIs PySem.F.sub_dict_dict ?_)
  simp only [Bool.not_true, Bool.false_eq_true, if_false]
  refine wpAny_bind (wpAny_pure (wpAny_bind (wpAny_pure ?_)))
  refine wpAny_bind (PySem.W.keq_samePairsIn ha hb da db hits ?_)
  refine wpAny_pure ⟨_, rfl, ?_, ?_⟩
  · exact fun x => nomatch x
  · simpa using h
theorem op_neDD (hu : X.A.units + 64 + 2 < cLine) : OpR X (compareOp .NotEq) (rNeDD X.K) := by
  intro pins s σ H x y v u Q I rx ry h
  obtain ⟨ks, ls, e, ⟨a, b, rfl, rfl, ea, eb, hd⟩, q⟩ := h
  obtain rfl : v = Value.ref a := rx
  obtain rfl : u = Value.ref b := ry
  obtain ⟨_, ya, va, ra, da⟩ := (show ObjOk X.prog X.w H s.heap a (.dK ks) from I.hok a _ ea)
  obtain ⟨_, yb, vb, rb, db⟩ := (show ObjOk X.prog X.w H s.heap b (.dK ls) from I.hok b _ eb)
  refine keq_neIn (knd := mixKind X.prog X.w) ya yb da db (by omega) (fun _ => PySem.W.KeqHitsIn.of va (dd_in (by show X.A.units + 1 + 1 + 64 < cLine; omega) I ra rb hd)) ⟨.bl _, H, I, rfl, ?_⟩
  rw [dd_all rb ra, ← ra.length, ← rb.length]
  exact q
theorem OpR.or {f : Value → Value → Sem Value} {r r' : R2} (h : OpR X f r) (h' : OpR X f r') : OpR X f (fun x y H Q => r x y H Q ∨ r' x y H Q) := by
  intro pins s σ H x y v u Q I rx ry hq
  rcases hq with hq | hq
  · exact h pins s σ H x y v u Q I rx ry hq
  · exact h' pins s σ H x y v u Q I rx ry hq
def rEqX (K : PySem.W.Frag) : R2 := fun x y H Q => rEqD K x y H Q ∨ rEqDD K x y H Q
def rNeX (K : PySem.W.Frag) : R2 := fun x y H Q => rNeD K x y H Q ∨ rNeDD K x y H Q
theorem op_eqX (hu : X.A.units + 64 + 2 < cLine) : OpR X (compareOp .Eq) (rEqX X.K) := OpR.or (op_eqD (by omega)) (op_eqDD hu)
theorem op_neX (hu : X.A.units + 64 + 2 < cLine) : OpR X (compareOp .NotEq) (rNeX X.K) := OpR.or (op_neD (by omega)) (op_neDD hu)
end
theorem nodup_map_of {α β : Type} {f : α → β} (hf : ∀ a b, f a = f b → a = b) : ∀ {l : List α}, l.Nodup → (l.map f).Nodup
  | [], _ => List.nodup_nil
  | a :: r, h => by
    obtain ⟨h1, h2⟩ := List.nodup_cons.mp h
    rw [List.map_cons]
    refine List.nodup_cons.mpr ⟨fun m => ?_, nodup_map_of hf h2⟩
    obtain ⟨b, hb, e⟩ := List.mem_map.mp m
    exact h1 (by rw [← hf _ _ e]; exact hb)
theorem valV_of_mem {κ : Type} [DecidableEq κ] : ∀ {kvs : List (κ × V)} {k : κ} {v : V}, (kvs.map (·.1)).Nodup → (k, v) ∈ kvs → valV kvs k = some v
  | [], _, _, _, h => by cases h
  | p :: r, k, v, hn, h => by
    rw [List.map_cons, List.nodup_cons] at hn
    rcases List.mem_cons.mp h with e | h
    · subst e; exact valV_pos rfl
    · rw [valV_neg fun z => hn.1 (List.mem_map.mpr ⟨(k, v), h, z.symm⟩)]
      exact valV_of_mem hn.2 h
/-! dicts of numbers to data -/
section
variable {K : PySem.W.Frag} {β : Type} {q : Rp β} {H : Hp}
def lookI (xs : List (Int × β)) (i : Int) : Option β := (xs.find? fun p => decide (p.1 = i)).map (·.2)
theorem lookI_nil {i : Int} : lookI ([] : List (Int × β)) i = none := rfl
theorem lookI_pos {p : Int × β} {r : List (Int × β)} {i : Int} (e : p.1 = i) : lookI (p :: r) i = some p.2 := by simp [lookI, List.find?_cons, e]
theorem lookI_neg {p : Int × β} {r : List (Int × β)} {i : Int} (e : ¬ p.1 = i) : lookI (p :: r) i = lookI r i := by simp [lookI, List.find?_cons, e]
theorem kvs_look : ∀ {kvs : List (Key × V)} {xs : List (Int × β)} {i : Int}, Paired (fun (p : Key × V) (x : Int × β) => p.1 = Sum.inl x.1 ∧ q H p.2 x.2) kvs xs → (valV kvs (Sum.inl i) = none ∧ lookI xs i = none) ∨ ∃ v x, valV kvs (Sum.inl i) = some v ∧ lookI xs i = some x ∧ q H v x
  | _, _, _, .nil => .inl ⟨rfl, rfl⟩
  | (k, v) :: kvs, (j, x) :: xs, i, .cons h t => by
    obtain ⟨h1, h2⟩ := h
    have h1 : k = Sum.inl j := h1
    subst h1
    by_cases e : j = i
    · subst e
      exact .inr ⟨v, x, valV_pos rfl, lookI_pos rfl, h2⟩
    · rw [valV_neg (show ¬ (Sum.inl j : Key) = Sum.inl i from fun z => e (Sum.inl.inj z)), lookI_neg e]
      exact kvs_look t
theorem kvs_keys : ∀ {kvs : List (Key × V)} {xs : List (Int × β)}, Paired (fun (p : Key × V) (x : Int × β) => p.1 = Sum.inl x.1 ∧ q H p.2 x.2) kvs xs → kvs.map (·.1) = (xs.map (·.1)).map Sum.inl
  | _, _, .nil => rfl
  | _, _, .cons h t => by rw [List.map_cons, List.map_cons, List.map_cons, h.1, kvs_keys t]
/-- two such dicts, said to be alike -/
theorem dd_same (c : Cod K q) [DecidableEq β] {u v : V} {xs : List (Int × β)} (h1 : rDI q H u xs) (h2 : rDI q H v xs) (hok : ∀ p ∈ xs, c.ok p.2) (hn : (xs.map (·.1)).Nodup) (hd : c.dep ≤ 64 := by exact Nat.le_of_ble_eq_true rfl) :
    ∃ ks ls, DDat K H u v ks ls (fun _ => true) ∧ (ks.length == ls.length && ks.all fun p => (valV ls p.1).isSome && true) = true := by
  obtain ⟨a, ks, rfl, ha, pa⟩ := h1
  obtain ⟨b, ls, rfl, hb, pb⟩ := h2
  refine ⟨ks, ls, ⟨a, b, rfl, rfl, ha, hb, fun k v u hm hl => ?_⟩, ?_⟩
  · obtain ⟨⟨i, x⟩, hx, hk, hv⟩ := P_mem1 pa hm
    have hk : k = Sum.inl i := hk
    subst hk
    rcases kvs_look (i := i) pb with ⟨e1, _⟩ | ⟨v', x', e1, e2, e3⟩
    · rw [e1] at hl; cases hl
    · rw [e1] at hl
      cases hl
      have ex : x' = x := by
        have : lookI xs i = some x := by
          clear e2 e1 pb pa hv hm hok
          induction xs with
          | nil => cases hx
          | cons p r ih =>
            rw [List.map_cons, List.nodup_cons] at hn
            rcases List.mem_cons.mp hx with e | hx
            · subst e; exact lookI_pos rfl
            · rw [lookI_neg fun z => hn.1 (List.mem_map.mpr ⟨(i, x), hx, z.symm⟩)]
              exact ih hn.2 hx
        rw [this] at e2
        exact (Option.some.inj e2).symm
      subst ex
      have o := hok _ hx
      exact ⟨c.enc x', c.enc x', c.dp _ _ _ hv, c.dp _ _ _ e3, c.shaped o hd, c.shaped o hd, (c.eqv _ _).mpr rfl⟩
  · rw [P_len pa, P_len pb, beq_self_eq_true, Bool.true_and, List.all_eq_true]
    intro p hp
    obtain ⟨⟨i, x⟩, hx, hk, hv⟩ := P_mem1 pa hp
    rw [hk]
    rcases kvs_look (i := i) pb with ⟨_, e2⟩ | ⟨v', x', e1, e2, e3⟩
    · exfalso
      clear hn hok pa pb ha hb hp hk hv
      induction xs with
      | nil => cases hx
      | cons p r ih =>
        by_cases z : p.1 = i
        · rw [lookI_pos z] at e2; cases e2
        · rw [lookI_neg z] at e2
          rcases List.mem_cons.mp hx with e | hx
          · exact z (by rw [← e])
          · exact ih hx e2
    · rw [e1]; rfl
theorem g_eqDD (c : Cod K q) [DecidableEq β] {Q : VK} {u v : V} {xs : List (Int × β)} (h1 : rDI q H u xs) (h2 : rDI q H v xs) (hok : ∀ p ∈ xs, c.ok p.2) (hn : (xs.map (·.1)).Nodup) (k : Q (.bl true) H) (hd : c.dep ≤ 64 := by exact Nat.le_of_ble_eq_true rfl) : rEqDD K u v H Q := by
  obtain ⟨ks, ls, D, e⟩ := dd_same c h1 h2 hok hn hd
  exact ⟨ks, ls, _, D, by rw [e]; exact k⟩
theorem g_neDD (c : Cod K q) [DecidableEq β] {Q : VK} {u v : V} {xs : List (Int × β)} (h1 : rDI q H u xs) (h2 : rDI q H v xs) (hok : ∀ p ∈ xs, c.ok p.2) (hn : (xs.map (·.1)).Nodup) (k : Q (.bl false) H) (hd : c.dep ≤ 64 := by exact Nat.le_of_ble_eq_true rfl) : rNeDD K u v H Q := by
  obtain ⟨ks, ls, D, e⟩ := dd_same c h1 h2 hok hn hd
  exact ⟨ks, ls, _, D, by rw [e]; exact k⟩
end
end My
/-! Kit6: own exceptions made, raised, caught. -/
namespace My
open PySem PySem.Spec PyProof.Rows L2
/-- __init__ of an own exception: self.f = f, one after the other -/
def spI (C : Addr) (fs : List Str) : Sp := fun vs H Q _ => ∃ (a : Addr) (ws : List V), vs = .ref a :: ws ∧ ws.length = fs.length ∧ H a = some (exo a C none) ∧
  ∀ dx H2, H dx = none → dx ≠ a → H2 a = some (exo a C (some dx)) → H2 dx = some (exd dx (fs.zip ws).reverse) → (∀ b, b ≠ a → b ≠ dx → H2 b = H b) → Q .non H2
/-- what is known of an own exception class -/
structure HasX (P : Program) (w : World) (K : PySem.W.Frag) (mg : Str → Option Value) (base : Heap) (x : Str) (fs : List Str) : Prop where
  ex : ∃ fd : FuncData, FnOk P w K mg base CX0 1 (He.ma K (He.ga K x) "__init__") fd ("self" :: fs) (spI (He.ga K x) fs) ∧ Binds K fd ("self" :: fs) []
  tx : ExcT K (He.ga K x) fs
  mg : mg x = some (.ref (He.ga K x))
section
variable {K : PySem.W.Frag} {σ : L2.St} {H : Hp} {C : Addr} {f f1 f2 f3 : Str} {to te : TE} {nx bk ct : L2.St → Hp → Prop} {rt : VK} {tr : TA}
def kOst (K : PySem.W.Frag) (f : Str) (nx : L2.St → Hp → Prop) (σ : L2.St) (y : V) : VK := fun x H2 => ∃ a C : Addr, x = .ref a ∧ OexC K C ∧ PySem.W.findIn K (.ref C) f = some none ∧
  ((H2 a = some (exo a C none) ∧ ∀ dx, H2 dx = none → dx ≠ a → nx σ (upd (upd H2 dx (exd dx [(f, y)])) a (exo a C (some dx)))) ∨
    ∃ (dx : Addr) (fs : List (Str × V)), H2 a = some (exo a C (some dx)) ∧ H2 dx = some (exd dx fs) ∧ fs.length ≤ 900 ∧ nx σ (upd H2 dx (exd dx ((f, y) :: fs))))
theorem g_ost (h : te σ H (fun y H1 => to σ H1 (kOst K f nx σ y))) : tOst K f to te ⟨nx, rt, bk, ct⟩ σ H := h
theorem g_kOst1 {y : V} {a : Addr} (T : OexC K C) (n : PySem.W.findIn K (.ref C) f = some none) (h : H a = some (exo a C none)) (q : ∀ dx H2, H dx = none → dx ≠ a → H2 a = some (exo a C (some dx)) → H2 dx = some (exd dx [(f, y)]) → (∀ b, b ≠ a → b ≠ dx → H2 b = H b) → nx σ H2) : kOst K f nx σ y (.ref a) H :=
  ⟨a, C, rfl, T, n, .inl ⟨h, fun dx hd hne => q dx _ hd hne upd_same (by rw [upd_ne hne, upd_same]) fun b h1 h2 => by rw [upd_ne h1, upd_ne h2]⟩⟩
theorem g_kOst2 {y : V} {a dx : Addr} {fs : List (Str × V)} (T : OexC K C) (n : PySem.W.findIn K (.ref C) f = some none) (h : H a = some (exo a C (some dx))) (hd : H dx = some (exd dx fs)) (hne : dx ≠ a) (hl : fs.length ≤ 900)
    (q : ∀ H2, H2 a = some (exo a C (some dx)) → H2 dx = some (exd dx ((f, y) :: fs)) → (∀ b, b ≠ dx → H2 b = H b) → nx σ H2) : kOst K f nx σ y (.ref a) H :=
  ⟨a, C, rfl, T, n, .inr ⟨dx, fs, h, hd, hl, q _ (by rw [upd_ne hne.symm]; exact h) upd_same fun b hb => upd_ne hb⟩⟩
/-- C(e, ..) that is raised -/
def kMkO (C : Addr) (fs : List Str) (Q : XK) : List V → Hp → Prop := fun vs H1 => vs.length ≤ 1000 ∧ ∀ a, H1 a = none → spI C fs (.ref a :: (vs ++ [])) (upd H1 a (exo a C none))
  (fun v H2 => v = .non ∧ ∃ (d : Addr) (fs : List (Str × V)), H2 a = some (exo a C (some d)) ∧ H2 d = some (exd d fs) ∧ H1 d = none ∧ Q (.ref C) (some d) (upd (del H2 a) d (.xd fs))) (fun _ _ _ => False)
theorem g_mkO {fs : List Str} {Q : XK} (h : tr σ H (kMkO C fs Q)) : tMkO C (spI C fs) [] tr σ H Q := h
theorem g_kMkO {fs : List Str} {Q : XK} {ws : List V} (hl : ws.length = fs.length) (h9 : ws.length ≤ 900) (q : ∀ d H2, H d = none → Step [] H H2 → H2 d = some (.xd (fs.zip ws).reverse) → Q (.ref C) (some d) H2) : kMkO C fs Q ws H := by
  refine ⟨by omega, fun a ha => ⟨a, ws, by rw [List.append_nil], hl, upd_same, fun dx H2 hdx hne e1 e2 e3 => ⟨rfl, dx, _, e1, e2, ?_, ?_⟩⟩⟩
  · rwa [upd_ne hne] at hdx
  · have hdx : H dx = none := by rwa [upd_ne hne] at hdx
    refine q dx _ hdx ⟨fun b o _ h => ?_, fun b h => ?_⟩ upd_same
    · have h1 := ne_of_none h ha
      have h2 := ne_of_none h hdx
      rw [upd_ne h2, del_ne h1, e3 b h1 h2, upd_ne h1]
      exact h
    · by_cases h2 : b = dx
      · rw [h2, upd_same] at h; cases h
      · rw [upd_ne h2] at h
        by_cases h1 : b = a
        · rw [h1]; exact ha
        · rwa [del_ne h1, e3 b h1 h2, upd_ne h1] at h
theorem g_callS {sp : Sp} {E : L2.St → XK} {Q : VK} (h : tr σ H (fun vs H1 => sp vs H1 Q (E σ))) : tCallS sp E tr σ H Q := h
/-- err.f -/
def kXf (a : Addr) (cls : Value) (d : Option Addr) (C : Addr) (f : Str) (Q : VK) : VK := fun x H1 => x = .ref a ∧ cls = .ref C ∧ ∃ (dd : Addr) (fs : List (Str × V)) (v : V), d = some dd ∧ H1 dd = some (.xd fs) ∧ fs.lookup f = some v ∧ Q v H1
theorem g_xf {a : Addr} {cls : Value} {d : Option Addr} {Q : VK} (h : te σ H (kXf a cls d C f Q)) : tXf a cls d C f te σ H Q := h
theorem g_kXf {a dd : Addr} {fs : List (Str × V)} {v : V} {Q : VK} (h : H dd = some (.xd fs)) (e : fs.lookup f = some v) (q : Q v H) : kXf a (.ref C) (some dd) C f Q (.ref a) H := ⟨rfl, rfl, dd, fs, v, rfl, h, e, q⟩
end
/-! name = {.. for ..} on one line, the name a local -/
section
variable {X : Cx}
theorem ps_setDc {i : Nat} {y : Str} {py : Pos} {kx vx tg iter : Expr} {ifs : List Expr} {scope : Scope} {own : List (Str × Nat)} {pos spos : Pos} {wi : TI} {g : TG} {tt : TT} {tk tv : TE} (hc : X.calm = true) (hN : X.N.Nodup) (hy : X.N[i]? = some y) (hyl : X.env.scope.names.lookup y = some .local)
    (hsw : swapsWith (.DictComp kx vx [⟨tg, iter, ifs, 0⟩] scope pos) (some (.Name y py)) spos.line X.env = pure true) (hi : PI X tg iter wi) (ok : BlkOk X.N X.env.scope scope own)
    (hg : ∀ (s : Shared) (H : Hp) (C : Addr) (cl : List (Str × Addr)) (fp : List Addr), PG (X.blk s H scope (compEnvC scope cl C X.env) fp) tg g) (ht : ∀ (s : Shared) (H : Hp) (C : Addr) (cl : List (Str × Addr)) (fp : List Addr), PTs (X.blk s H scope (compEnvC scope cl C X.env) fp) ifs tt)
    (hk : ∀ (s : Shared) (H : Hp) (C : Addr) (cl : List (Str × Addr)) (fp : List Addr), PE (X.blk s H scope (compEnvC scope cl C X.env) fp) kx tk)
    (he : ∀ (s : Shared) (H : Hp) (C : Addr) (cl : List (Str × Addr)) (fp : List Addr), PE (X.blk s H scope (compEnvC scope cl C X.env) fp) vx tv) (hs : ∀ x, foldedSetIterable iter X.env x = pure x := by intro _; rfl) :
    PS X (.Assign [.Name y py] (.DictComp kx vx [⟨tg, iter, ifs, 0⟩] scope pos) spos) (tAsg (tDc wi g tt tk tv (own.map (·.2))) (gName i)) := by
  refine ⟨fun pins s σ H D I h => ?_⟩
  rw [exec_Assign_Name_used _ _ _ _ hsw]
  refine wpAny_bind (wpAny_standAt (wpAny_bind ?_))
  show wpAny _ X.A (do let _ ← comprehension (.DictComp kx vx [⟨tg, iter, ifs, 0⟩] scope pos) scope X.env (firstIterPos [⟨tg, iter, ifs, 0⟩] pos) newDict false (eval iter X.env) (some (assign (.Name y py) X.env))) _ _ s
  have h : tDc wi g tt tk tv (own.map (·.2)) σ H (fun x H1 => gName i x σ H1 D.nx) := h
  refine wpAny_bind (thn (dc_core (Qf := fun _ s' => SP X pins D .next s') hc hN I hi ok hg ht hk he hs h fun L C s' m H' I' q hn f => ?_) fun _ s' hq => wpAny_pure (wpAny_pure hq))
  show wpAny _ _ (assign (.Name y py) X.env (.ref L)) _ _ _
  refine wpAny_assign_Name (store_ok2 (v := V.ref L) I' hN hy (.inl hyl) rfl (fun s2 I2 ⟨a, sb, ha⟩ => ?_) (.inr hyl))
  obtain ⟨f0, f1, f2, f3, f4, f5⟩ := f
  have haC : C ≠ a := by
    rcases ha with z | z
    · rw [z]; exact f1
    · exact fun e => f4 y a z e.symm
  refine ⟨m, hn.sameBut sb haC, fun h3 sb3 => ?_⟩
  exact ⟨_, H', I2.turned (t' := s2.toks) (fun b o hb e => (sb3.2 b hb).trans e) f0 f1 f3 f4 f5, q⟩
theorem sw_trueD {kx vx : Expr} {gs : List Comprehension} {scope : Scope} {pos py : Pos} {y : Str} {l : Nat} {env : Env} (hk : env.scope.kind = .function) (hy : env.scope.names.lookup y = some .local) (hl : (py.line == pos.line) = true)
    (ha : (scope.names.any fun (n, k) => n == y && (k == .local || k == .cell)) = false) : swapsWith (.DictComp kx vx gs scope pos) (some (.Name y py)) l env = pure true := by
  have ky : env.kindOf y = some .local := hy
  have hb : env.blockKind = .function := by unfold Env.blockKind; rw [hk]; rfl
  unfold swapsWith
  simp only [hb, ky, ha, Expr.pos, hl]
  rfl
end
theorem unit2 {k : Nat} {A : Around} (hr : Room k A) : A.units + 64 + 2 < cLine := by
  have := hr.un
  omega
end My
/-! Kit7: ranges as values, isinstance. -/
namespace My
open PySem PySem.Spec PyProof.Rows L2
section
variable {X : Cx} {K : PySem.W.Frag} {H : Hp} {Q : VK} {i j : Int} {p : Addr}
def rRngV : List V → Hp → VK → Prop := fun vs H Q => ∃ j, vs = [V.int j] ∧ ∀ p, H p = none → Q (.ref p) (upd H p (.rng 0 j))
theorem cr_rngV : CallR X (.type "range") rRngV := by
  intro pins s σ H vs us Q I r h
  obtain ⟨j, rfl, q⟩ := h
  obtain ⟨u1, rfl, ri⟩ := vals1 r
  obtain ⟨t, rfl⟩ := ri
  refine call_range_1 ⟨.ref s.heap.objs.size, upd H s.heap.objs.size (.rng 0 j), I.laid (t' := s.toks + 1 + 1) (fun b o e => Heap.get?_push_of_some _ e) (Nat.le_refl _) ?_, rfl, q _ (I.hok.fresh (Nat.le_refl _))⟩
  exact ⟨s.toks, t, s.toks + 1, Heap.get?_push_size _ rfl⟩
theorem g_rngV (q : ∀ p H2, H p = none → Step [] H H2 → H2 p = some (.rng 0 j) → Q (.ref p) H2) : rRngV [.int j] H Q := ⟨j, rfl, fun p hp => q p _ hp (Step.new hp) upd_same⟩
def rInRng (neg : Bool) : R2 := fun x y H Q => ∃ i a lo hi, x = V.int i ∧ y = V.ref a ∧ H a = some (.rng lo hi) ∧ Q (.bl (if neg then !decide (lo ≤ i ∧ i < hi) else decide (lo ≤ i ∧ i < hi))) H
theorem op_inRng : OpR X (compareOp .In) (rInRng false) := op_in_rng
theorem op_notInRng : OpR X (compareOp .NotIn) (rInRng true) := by
  intro pins s σ H x y v u Q I rx ry h
  obtain ⟨i, a, lo, hi, rfl, rfl, ha, q⟩ := h
  obtain ⟨k, rfl⟩ := rx
  obtain rfl : u = Value.ref a := ry
  obtain ⟨t1, t2, t3, ho⟩ := I.hok a _ ha
  show wpAny _ _ (do return Value.bool (!(← contains (Value.ref a) (Value.int i k)))) _ _ s
  refine wpAny_bind (wpAny_contains_slot (T := "range") ⟨_, ho, rfl⟩ F.slot_range_contains (call_meets F.slot_range_contains ⟨_, ho, rfl⟩ F.entry_range_contains (F.args_range_contains_2 _ _) (q_contains a lo hi i t1 t2 t3 k)
    ⟨ho, wpAny_truthy_bool (wpAny_pure ⟨.bl _, H, I, rfl, ?_⟩)⟩))
  rw [place1]
  exact q
theorem g_inRng {lo hi : Int} (h : H p = some (.rng lo hi)) (q : Q (.bl (decide (lo ≤ i ∧ i < hi))) H) : rInRng false (.int i) (.ref p) H Q := ⟨i, p, lo, hi, rfl, rfl, h, q⟩
theorem g_notInRng {lo hi : Int} (h : H p = some (.rng lo hi)) (q : Q (.bl (!decide (lo ≤ i ∧ i < hi))) H) : rInRng true (.int i) (.ref p) H Q := ⟨i, p, lo, hi, rfl, rfl, h, q⟩
/-! isinstance -/
theorem g_isi {x : V} {a b : String} {r : Bool} (ty : TyX K H x (.type a)) (e : kitB a b = some r := by decide +kernel) (q : Q (.bl r) H) : rIsi K [x, .ty b] H Q := ⟨x, _, _, _, r, rfl, .ty b, ty, kit_ty e, q⟩
theorem g_isiDD {kvs : List (Key × V)} (h : H p = some (.dK kvs)) (q : Q (.bl true) H) : rIsi K [.ref p, .ty "dict"] H Q := g_isi (.base (.dK h)) (by decide +kernel) q
theorem g_isiDT {kvs : List (Key × V)} (h : H p = some (.dK kvs)) (q : Q (.bl false) H) : rIsi K [.ref p, .ty "tuple"] H Q := g_isi (.base (.dK h)) (by decide +kernel) q
theorem g_isiTT {xs : List V} (h : H p = some (.tup xs)) (q : Q (.bl true) H) : rIsi K [.ref p, .ty "tuple"] H Q := g_isi (.base (.tup h)) (by decide +kernel) q
theorem g_isiTD {xs : List V} (h : H p = some (.tup xs)) (q : Q (.bl false) H) : rIsi K [.ref p, .ty "dict"] H Q := g_isi (.base (.tup h)) (by decide +kernel) q
end
end My
local macro_rules | `(tactic| walk_at "go1") => `(tactic| first
  | with_reducible refine My.g_seq ?_
  | with_reducible refine My.g_set ?_
  | with_reducible refine My.g_var (by with_unfolding_all exact rfl) ?_
  | with_reducible refine My.g_c ?_
  | with_reducible refine My.g_op ?_
  | with_reducible refine My.g_I0 ?_
  | with_reducible refine My.g_cons ?_
  | with_reducible refine My.g_nil ?_
  | with_reducible refine My.g_call ?_
  | with_reducible refine My.g_CB ?_
  | with_reducible refine My.g_if ?_
  | with_reducible refine My.g_test ?_
  | with_reducible refine My.g_kB ?_
  | with_reducible refine My.g_ret ?_
  | with_reducible refine My.g_retN ?_
  | with_reducible refine My.g_drop ?_
  | with_reducible refine My.g_next ?_
  | with_reducible refine My.g_break ?_
  | with_reducible refine My.g_cont ?_
  | with_reducible refine My.g_asg ?_
  | with_reducible refine My.g_name ?_
  | with_reducible refine My.g_gsub ?_
  | with_reducible refine My.g_eqI ?_
  | with_reducible refine My.g_neI ?_
  | with_reducible refine My.g_eqS ?_
  | with_reducible refine My.g_neS ?_
  | with_reducible refine My.g_and ?_
  | with_reducible refine My.g_or ?_
  | with_reducible refine My.g_not ?_
  | with_reducible refine My.g_B ?_
  | with_reducible refine My.g_ifE ?_
  | with_reducible refine My.g_andV ?_
  | with_reducible refine My.g_orV ?_
  | with_reducible refine My.g_notV ?_
  | with_reducible refine My.g_kAnd ?_
  | with_reducible refine My.g_kOr ?_
  | with_reducible refine My.g_kNot ?_
  | with_reducible refine My.g_lst ?_
  | with_reducible refine My.g_tup ?_
  | with_reducible refine My.g_un ?_
  | with_reducible refine My.g_U ?_
  | with_reducible refine My.g_bm ?_
  | with_reducible refine My.g_sl ?_
  | with_reducible refine My.g_part ?_
  | with_reducible refine My.g_noPart ?_
  | with_reducible refine My.g_kI ?_
  | with_reducible refine My.g_dget ?_
  | with_reducible refine My.g_dget2 ?_
  | with_reducible refine My.g_dget1 ?_
  | with_reducible refine My.g_din ?_
  | with_reducible refine My.g_dnotin ?_
  | with_reducible refine My.g_dput ?_
  | with_reducible refine My.g_m1 ?_
  | with_reducible refine My.g_kM1 ?_
  | with_reducible refine My.g_for ?_
  | with_reducible refine My.g_lc ?_
  | with_reducible refine My.g_dc ?_
  | with_reducible refine My.g_rng1 ?_
  | with_reducible refine My.g_rng2 ?_
  | with_reducible refine My.g_list ?_
  | with_reducible refine My.g_str ?_
  | with_reducible refine My.g_kStr ?_
  | with_reducible refine My.g_keys ?_
  | with_reducible refine My.g_vals ?_
  | with_reducible refine My.g_items ?_
  | with_reducible refine My.g_yes ?_
  | with_reducible refine My.g_kTstT ?_
  | with_reducible refine My.g_kTstDT ?_
  | with_reducible refine My.g_kTurn (by with_unfolding_all exact rfl) ?_
  | with_reducible refine My.g_kTurnD (by with_unfolding_all exact rfl) ?_
  | with_reducible refine My.g_ixL (by with_unfolding_all assumption) (by first | with_unfolding_all exact rfl | assumption) ?_
  | with_reducible refine My.g_ixT (by with_unfolding_all assumption) (by first | with_unfolding_all exact rfl | assumption) ?_
  | with_reducible refine My.g_kBM (by with_unfolding_all assumption) ?_
  | with_reducible refine My.g_kList (by with_unfolding_all assumption) ?_
  | with_reducible refine My.g_modP (by with_unfolding_all first | decide | omega) ?_
  | with_reducible refine My.g_divP (by with_unfolding_all first | decide | omega) (by with_unfolding_all first | decide | omega) ?_
  | with_reducible refine My.g_mulP (by with_unfolding_all first | decide | omega) (by with_unfolding_all first | decide | omega) (by with_unfolding_all first | decide | omega) (by with_unfolding_all first | decide | omega) ?_
  | with_reducible refine My.g_powP (by with_unfolding_all first | decide | omega) (by with_unfolding_all first | decide | omega) (by with_unfolding_all first | decide | omega) (by with_unfolding_all first | decide | omega) ?_
  | with_reducible refine My.g_ost ?_
  | with_reducible refine My.g_mkO ?_
  | with_reducible refine My.g_callS ?_
  | with_reducible refine My.g_xf ?_
  | with_reducible refine My.g_max2 ?_
  | with_reducible refine My.g_min2 ?_
  | with_reducible refine My.g_lenL (by with_unfolding_all assumption) ?_
  | with_reducible refine My.g_lenLK (by with_unfolding_all assumption) ?_
  | with_reducible refine My.g_lenDi (by with_unfolding_all assumption) ?_
  | with_reducible refine My.g_kLst (by with_unfolding_all exact Nat.le_of_ble_eq_true rfl) ?_
  | with_reducible refine My.g_kTup (by with_unfolding_all exact Nat.le_of_ble_eq_true rfl) ?_)
local macro_rules | `(tactic| walk_at "go") => `(tactic| repeat walk_at "go1")
namespace My
open PySem PySem.Spec PyProof.Rows L2
def top (i : Nat) : Stmt := PySem.Challenge.pw_sherdhall_k77_moves_done.main.body.getD i (.Pass ⟨0, 0, 0, 0⟩)
abbrev s_NoPlace_init : Stmt := inClass (top 2) 0
theorem sc_NoPlace_init : FnScope ["self", "place"] ["self", "place"] (defScope s_NoPlace_init) := ⟨rfl, rfl, rfl, by decide +kernel, rfl, by decide +kernel, by decide +kernel⟩
abbrev N_NoPlace_init : List Str := ["self", "place"]
abbrev s_Taken_init : Stmt := inClass (top 3) 0
theorem sc_Taken_init : FnScope ["self", "name"] ["self", "name"] (defScope s_Taken_init) := ⟨rfl, rfl, rfl, by decide +kernel, rfl, by decide +kernel, by decide +kernel⟩
abbrev N_Taken_init : List Str := ["self", "name"]
abbrev s_NoTicket_init : Stmt := inClass (top 4) 0
theorem sc_NoTicket_init : FnScope ["self", "ticket"] ["self", "ticket"] (defScope s_NoTicket_init) := ⟨rfl, rfl, rfl, by decide +kernel, rfl, by decide +kernel, by decide +kernel⟩
abbrev N_NoTicket_init : List Str := ["self", "ticket"]
abbrev s_moved : Stmt := top 6
theorem sc_moved : FnScope ["table", "moves", "ticket", "found", "place", "one", "to", "homes"] ["table", "moves"] (defScope s_moved) := ⟨rfl, rfl, rfl, by decide +kernel, rfl, by decide +kernel, by decide +kernel⟩
abbrev N_moved : List Str := ["table", "moves", "ticket", "found", "place", "one", "to", "homes"]
abbrev s_w_cell_at : Stmt := top 8
theorem sc_w_cell_at : FnScope ["script", "k"] ["script", "k"] (defScope s_w_cell_at) := ⟨rfl, rfl, rfl, by decide +kernel, rfl, by decide +kernel, by decide +kernel⟩
abbrev N_w_cell_at : List Str := ["script", "k"]
abbrev s_w_pot : Stmt := top 9
theorem sc_w_pot : FnScope ["cell"] ["cell"] (defScope s_w_pot) := ⟨rfl, rfl, rfl, by decide +kernel, rfl, by decide +kernel, by decide +kernel⟩
abbrev N_w_pot : List Str := ["cell"]
abbrev s_w_pick : Stmt := top 10
theorem sc_w_pick : FnScope ["pot", "many", "found", "mixed"] ["pot", "many"] (defScope s_w_pick) := ⟨rfl, rfl, rfl, by decide +kernel, rfl, by decide +kernel, by decide +kernel⟩
abbrev N_w_pick : List Str := ["pot", "many", "found", "mixed"]
abbrev s_w_name : Stmt := top 11
theorem sc_w_name : FnScope ["pot", "letters", "size", "k"] ["pot"] (defScope s_w_name) := ⟨rfl, rfl, rfl, by decide +kernel, rfl, by decide +kernel, by decide +kernel⟩
abbrev N_w_name : List Str := ["pot", "letters", "size", "k"]
abbrev s_w_names : Stmt := top 12
theorem sc_w_names : FnScope ["pot", "many", "letters", "way", "found", "k", "one", "old", "spot"] ["pot", "many"] (defScope s_w_names) := ⟨rfl, rfl, rfl, by decide +kernel, rfl, by decide +kernel, by decide +kernel⟩
abbrev N_w_names : List Str := ["pot", "many", "letters", "way", "found", "k", "one", "old", "spot"]
abbrev s_w_houses : Stmt := top 13
theorem sc_w_houses : FnScope ["pot", "most", "areas", "way", "found", "name", "heavy"] ["pot", "most"] (defScope s_w_houses) := ⟨rfl, rfl, rfl, by decide +kernel, rfl, by decide +kernel, by decide +kernel⟩
abbrev N_w_houses : List Str := ["pot", "most", "areas", "way", "found", "name", "heavy"]
abbrev s_w_mixed : Stmt := top 14
theorem sc_w_mixed : FnScope ["pot", "some", "left", "k"] ["pot", "some"] (defScope s_w_mixed) := ⟨rfl, rfl, rfl, by decide +kernel, rfl, by decide +kernel, by decide +kernel⟩
abbrev N_w_mixed : List Str := ["pot", "some", "left", "k"]
abbrev s_w_tickets : Stmt := top 15
theorem sc_w_tickets : FnScope ["pot", "many", "wide", "number", "found", "k"] ["pot", "many"] (defScope s_w_tickets) := ⟨rfl, rfl, rfl, by decide +kernel, rfl, by decide +kernel, by decide +kernel⟩
abbrev N_w_tickets : List Str := ["pot", "many", "wide", "number", "found", "k"]
abbrev s_w_homes : Stmt := top 16
theorem sc_w_homes : FnScope ["pot", "rows", "size", "pool", "one", "row", "letter"] ["pot", "rows", "size"] (defScope s_w_homes) := ⟨rfl, rfl, rfl, by decide +kernel, rfl, by decide +kernel, by decide +kernel⟩
abbrev N_w_homes : List Str := ["pot", "rows", "size", "pool", "one", "row", "letter"]
abbrev s_w_table : Stmt := top 17
theorem sc_w_table : FnScope ["pot", "rows", "most", "found", "ticket"] ["pot", "rows", "most"] (defScope s_w_table) := ⟨rfl, rfl, rfl, by decide +kernel, rfl, by decide +kernel, by decide +kernel⟩
abbrev N_w_table : List Str := ["pot", "rows", "most", "found", "ticket"]
abbrev s_w_copy : Stmt := top 18
theorem sc_w_copy : FnScope ["some", "found", "ticket"] ["some"] (defScope s_w_copy) := ⟨rfl, rfl, rfl, by decide +kernel, rfl, by decide +kernel, by decide +kernel⟩
abbrev N_w_copy : List Str := ["some", "found", "ticket"]
abbrev s_w_moves : Stmt := top 19
theorem sc_w_moves : FnScope ["pot", "rows", "some", "found", "bad", "tickets", "k", "ticket", "homes", "spot", "pool", "to"] ["pot", "rows", "some"] (defScope s_w_moves) := ⟨rfl, rfl, rfl, by decide +kernel, rfl, by decide +kernel, by decide +kernel⟩
abbrev N_w_moves : List Str := ["pot", "rows", "some", "found", "bad", "tickets", "k", "ticket", "homes", "spot", "pool", "to"]
abbrev s_w_due : Stmt := top 20
theorem sc_w_due : FnScope ["some", "steps", "found", "ticket", "spot", "one", "to", "k"] ["some", "steps"] (defScope s_w_due) := ⟨rfl, rfl, rfl, by decide +kernel, rfl, by decide +kernel, by decide +kernel⟩
abbrev N_w_due : List Str := ["some", "steps", "found", "ticket", "spot", "one", "to", "k"]
abbrev s_w_asked : Stmt := top 21
theorem sc_w_asked : FnScope ["table", "steps", "found", "e"] ["table", "steps"] (defScope s_w_asked) := ⟨rfl, rfl, rfl, by decide +kernel, rfl, by decide +kernel, by decide +kernel⟩
abbrev N_w_asked : List Str := ["table", "steps", "found", "e"]
abbrev s_w_right : Stmt := top 22
theorem sc_w_right : FnScope ["pot", "rows", "some", "steps", "table", "handed", "due", "found", "ticket"] ["pot"] (defScope s_w_right) := ⟨rfl, rfl, rfl, by decide +kernel, rfl, by decide +kernel, by decide +kernel⟩
abbrev N_w_right : List Str := ["pot", "rows", "some", "steps", "table", "handed", "due", "found", "ticket"]
abbrev s_law : Stmt := top 23
theorem sc_law : FnScope ["script", "k"] ["script"] (defScope s_law) := ⟨rfl, rfl, rfl, by decide +kernel, rfl, by decide +kernel, by decide +kernel⟩
abbrev N_law : List Str := ["script", "k"]
def d_NoPlace_init : He.DefD := ⟨("NoPlace", some "__init__"), "__init__", "NoPlace.__init__", defArgs s_NoPlace_init, defBody s_NoPlace_init, defScope s_NoPlace_init, [], []⟩
def d_Taken_init : He.DefD := ⟨("Taken", some "__init__"), "__init__", "Taken.__init__", defArgs s_Taken_init, defBody s_Taken_init, defScope s_Taken_init, [], []⟩
def d_NoTicket_init : He.DefD := ⟨("NoTicket", some "__init__"), "__init__", "NoTicket.__init__", defArgs s_NoTicket_init, defBody s_NoTicket_init, defScope s_NoTicket_init, [], []⟩
def d_moved : He.DefD := ⟨("moved", none), "moved", "moved", defArgs s_moved, defBody s_moved, defScope s_moved, [], []⟩
def d_w_cell_at : He.DefD := ⟨("_law_cell_at", none), "_law_cell_at", "_law_cell_at", defArgs s_w_cell_at, defBody s_w_cell_at, defScope s_w_cell_at, [], []⟩
def d_w_pot : He.DefD := ⟨("_law_pot", none), "_law_pot", "_law_pot", defArgs s_w_pot, defBody s_w_pot, defScope s_w_pot, [], []⟩
def d_w_pick : He.DefD := ⟨("_law_pick", none), "_law_pick", "_law_pick", defArgs s_w_pick, defBody s_w_pick, defScope s_w_pick, [], []⟩
def d_w_name : He.DefD := ⟨("_law_name", none), "_law_name", "_law_name", defArgs s_w_name, defBody s_w_name, defScope s_w_name, [], []⟩
def d_w_names : He.DefD := ⟨("_law_names", none), "_law_names", "_law_names", defArgs s_w_names, defBody s_w_names, defScope s_w_names, [], []⟩
def d_w_houses : He.DefD := ⟨("_law_houses", none), "_law_houses", "_law_houses", defArgs s_w_houses, defBody s_w_houses, defScope s_w_houses, [], []⟩
def d_w_mixed : He.DefD := ⟨("_law_mixed", none), "_law_mixed", "_law_mixed", defArgs s_w_mixed, defBody s_w_mixed, defScope s_w_mixed, [], []⟩
def d_w_tickets : He.DefD := ⟨("_law_tickets", none), "_law_tickets", "_law_tickets", defArgs s_w_tickets, defBody s_w_tickets, defScope s_w_tickets, [], []⟩
def d_w_homes : He.DefD := ⟨("_law_homes", none), "_law_homes", "_law_homes", defArgs s_w_homes, defBody s_w_homes, defScope s_w_homes, [], []⟩
def d_w_table : He.DefD := ⟨("_law_table", none), "_law_table", "_law_table", defArgs s_w_table, defBody s_w_table, defScope s_w_table, [], []⟩
def d_w_copy : He.DefD := ⟨("_law_copy", none), "_law_copy", "_law_copy", defArgs s_w_copy, defBody s_w_copy, defScope s_w_copy, [], []⟩
def d_w_moves : He.DefD := ⟨("_law_moves", none), "_law_moves", "_law_moves", defArgs s_w_moves, defBody s_w_moves, defScope s_w_moves, [], []⟩
def d_w_due : He.DefD := ⟨("_law_due", none), "_law_due", "_law_due", defArgs s_w_due, defBody s_w_due, defScope s_w_due, [], []⟩
def d_w_asked : He.DefD := ⟨("_law_asked", none), "_law_asked", "_law_asked", defArgs s_w_asked, defBody s_w_asked, defScope s_w_asked, [], []⟩
def d_w_right : He.DefD := ⟨("_law_right", none), "_law_right", "_law_right", defArgs s_w_right, defBody s_w_right, defScope s_w_right, [], []⟩
def d_law : He.DefD := ⟨("law", none), "law", "law", defArgs s_law, defBody s_law, defScope s_law, [], []⟩
def fn : List He.DefD := [d_NoPlace_init, d_Taken_init, d_NoTicket_init, d_moved, d_w_cell_at, d_w_pot, d_w_pick, d_w_name, d_w_names, d_w_houses, d_w_mixed, d_w_tickets, d_w_homes, d_w_table, d_w_copy, d_w_moves, d_w_due, d_w_asked, d_w_right, d_law]
def ck : List (PySem.W.Frag → Bool) := [fun K => He.Fa.ok K (.glo "moved"),
  fun K => He.Fa.ok K (.glo "_law_cell_at"),
  fun K => He.Fa.ok K (.glo "_law_pot"),
  fun K => He.Fa.ok K (.glo "_law_pick"),
  fun K => He.Fa.ok K (.glo "_law_name"),
  fun K => He.Fa.ok K (.glo "_law_names"),
  fun K => He.Fa.ok K (.glo "_law_houses"),
  fun K => He.Fa.ok K (.glo "_law_mixed"),
  fun K => He.Fa.ok K (.glo "_law_tickets"),
  fun K => He.Fa.ok K (.glo "_law_homes"),
  fun K => He.Fa.ok K (.glo "_law_table"),
  fun K => He.Fa.ok K (.glo "_law_copy"),
  fun K => He.Fa.ok K (.glo "_law_moves"),
  fun K => He.Fa.ok K (.glo "_law_due"),
  fun K => He.Fa.ok K (.glo "_law_asked"),
  fun K => He.Fa.ok K (.glo "_law_right"),
  fun K => He.Fa.ok K (.glo "law"),
  fun K => He.Fa.ok K (.free "len"),
  fun K => He.Fa.ok K (.free "max"),
  fun K => He.Fa.ok K (.free "min"),
  fun K => He.Fa.ok K (.free "range"),
  fun K => He.Fa.ok K (.free "list"),
  fun K => He.Fa.ok K (.free "sorted"),
  fun K => He.Fa.ok K (.free "isinstance"),
  fun K => He.Fa.ok K (.free "dict"),
  fun K => He.Fa.ok K (.free "tuple"),
  fun K => He.Fa.ok K (.glo "NoPlace"),
  fun K => excB K (He.ga K "NoPlace") ["place"],
  fun K => He.Fa.ok K (.exm "NoPlace" "NoPlace" true),
  fun K => He.Fa.ok K (.exm "NoPlace" "Taken" false),
  fun K => He.Fa.ok K (.exm "NoPlace" "NoTicket" false),
  fun K => He.Fa.ok K (.glo "Taken"),
  fun K => excB K (He.ga K "Taken") ["name"],
  fun K => He.Fa.ok K (.exm "Taken" "NoPlace" false),
  fun K => He.Fa.ok K (.exm "Taken" "Taken" true),
  fun K => He.Fa.ok K (.exm "Taken" "NoTicket" false),
  fun K => He.Fa.ok K (.glo "NoTicket"),
  fun K => excB K (He.ga K "NoTicket") ["ticket"],
  fun K => He.Fa.ok K (.exm "NoTicket" "NoPlace" false),
  fun K => He.Fa.ok K (.exm "NoTicket" "Taken" false),
  fun K => He.Fa.ok K (.exm "NoTicket" "NoTicket" true)]
structure Ctx (K : PySem.W.Frag) (mg : Str → Option Value) : Prop where
  ex : ∃ h : Heap, K.In h ∧ h.Ns mainGlobals mg
  c : SaysX ck fn K
section
variable {K : PySem.W.Frag} {mg : Str → Option Value}
theorem gl_moved (C : Ctx K mg) : mg "moved" = some (.ref (He.ga K "moved")) := let ⟨_, X, G⟩ := C.ex; He.glo_ok X G (C.c.fact 0 rfl)
theorem gl_w_cell_at (C : Ctx K mg) : mg "_law_cell_at" = some (.ref (He.ga K "_law_cell_at")) := let ⟨_, X, G⟩ := C.ex; He.glo_ok X G (C.c.fact 1 rfl)
theorem gl_w_pot (C : Ctx K mg) : mg "_law_pot" = some (.ref (He.ga K "_law_pot")) := let ⟨_, X, G⟩ := C.ex; He.glo_ok X G (C.c.fact 2 rfl)
theorem gl_w_pick (C : Ctx K mg) : mg "_law_pick" = some (.ref (He.ga K "_law_pick")) := let ⟨_, X, G⟩ := C.ex; He.glo_ok X G (C.c.fact 3 rfl)
theorem gl_w_name (C : Ctx K mg) : mg "_law_name" = some (.ref (He.ga K "_law_name")) := let ⟨_, X, G⟩ := C.ex; He.glo_ok X G (C.c.fact 4 rfl)
theorem gl_w_names (C : Ctx K mg) : mg "_law_names" = some (.ref (He.ga K "_law_names")) := let ⟨_, X, G⟩ := C.ex; He.glo_ok X G (C.c.fact 5 rfl)
theorem gl_w_houses (C : Ctx K mg) : mg "_law_houses" = some (.ref (He.ga K "_law_houses")) := let ⟨_, X, G⟩ := C.ex; He.glo_ok X G (C.c.fact 6 rfl)
theorem gl_w_mixed (C : Ctx K mg) : mg "_law_mixed" = some (.ref (He.ga K "_law_mixed")) := let ⟨_, X, G⟩ := C.ex; He.glo_ok X G (C.c.fact 7 rfl)
theorem gl_w_tickets (C : Ctx K mg) : mg "_law_tickets" = some (.ref (He.ga K "_law_tickets")) := let ⟨_, X, G⟩ := C.ex; He.glo_ok X G (C.c.fact 8 rfl)
theorem gl_w_homes (C : Ctx K mg) : mg "_law_homes" = some (.ref (He.ga K "_law_homes")) := let ⟨_, X, G⟩ := C.ex; He.glo_ok X G (C.c.fact 9 rfl)
theorem gl_w_table (C : Ctx K mg) : mg "_law_table" = some (.ref (He.ga K "_law_table")) := let ⟨_, X, G⟩ := C.ex; He.glo_ok X G (C.c.fact 10 rfl)
theorem gl_w_copy (C : Ctx K mg) : mg "_law_copy" = some (.ref (He.ga K "_law_copy")) := let ⟨_, X, G⟩ := C.ex; He.glo_ok X G (C.c.fact 11 rfl)
theorem gl_w_moves (C : Ctx K mg) : mg "_law_moves" = some (.ref (He.ga K "_law_moves")) := let ⟨_, X, G⟩ := C.ex; He.glo_ok X G (C.c.fact 12 rfl)
theorem gl_w_due (C : Ctx K mg) : mg "_law_due" = some (.ref (He.ga K "_law_due")) := let ⟨_, X, G⟩ := C.ex; He.glo_ok X G (C.c.fact 13 rfl)
theorem gl_w_asked (C : Ctx K mg) : mg "_law_asked" = some (.ref (He.ga K "_law_asked")) := let ⟨_, X, G⟩ := C.ex; He.glo_ok X G (C.c.fact 14 rfl)
theorem gl_w_right (C : Ctx K mg) : mg "_law_right" = some (.ref (He.ga K "_law_right")) := let ⟨_, X, G⟩ := C.ex; He.glo_ok X G (C.c.fact 15 rfl)
theorem gl_law (C : Ctx K mg) : mg "law" = some (.ref (He.ga K "law")) := let ⟨_, X, G⟩ := C.ex; He.glo_ok X G (C.c.fact 16 rfl)
theorem fr_len (C : Ctx K mg) : mg "len" = none := let ⟨_, X, G⟩ := C.ex; He.free_ok X G (C.c.fact 17 rfl)
theorem fr_max (C : Ctx K mg) : mg "max" = none := let ⟨_, X, G⟩ := C.ex; He.free_ok X G (C.c.fact 18 rfl)
theorem fr_min (C : Ctx K mg) : mg "min" = none := let ⟨_, X, G⟩ := C.ex; He.free_ok X G (C.c.fact 19 rfl)
theorem fr_range (C : Ctx K mg) : mg "range" = none := let ⟨_, X, G⟩ := C.ex; He.free_ok X G (C.c.fact 20 rfl)
theorem fr_list (C : Ctx K mg) : mg "list" = none := let ⟨_, X, G⟩ := C.ex; He.free_ok X G (C.c.fact 21 rfl)
theorem fr_sorted (C : Ctx K mg) : mg "sorted" = none := let ⟨_, X, G⟩ := C.ex; He.free_ok X G (C.c.fact 22 rfl)
theorem fr_isinstance (C : Ctx K mg) : mg "isinstance" = none := let ⟨_, X, G⟩ := C.ex; He.free_ok X G (C.c.fact 23 rfl)
theorem fr_dict (C : Ctx K mg) : mg "dict" = none := let ⟨_, X, G⟩ := C.ex; He.free_ok X G (C.c.fact 24 rfl)
theorem fr_tuple (C : Ctx K mg) : mg "tuple" = none := let ⟨_, X, G⟩ := C.ex; He.free_ok X G (C.c.fact 25 rfl)
theorem gl_NoPlace (C : Ctx K mg) : mg "NoPlace" = some (.ref (He.ga K "NoPlace")) := let ⟨_, X, G⟩ := C.ex; He.glo_ok X G (C.c.fact 26 rfl)
theorem ex_NoPlace (C : Ctx K mg) : ExcT K (He.ga K "NoPlace") ["place"] := excB_ok (C.c.fact 27 rfl)
theorem em_NoPlace_NoPlace (C : Ctx K mg) : PySem.W.exmOne K (.ref (He.ga K "NoPlace")) (.ref (He.ga K "NoPlace")) = some true := He.exm_ok (C.c.fact 28 rfl)
theorem em_NoPlace_Taken (C : Ctx K mg) : PySem.W.exmOne K (.ref (He.ga K "NoPlace")) (.ref (He.ga K "Taken")) = some false := He.exm_ok (C.c.fact 29 rfl)
theorem em_NoPlace_NoTicket (C : Ctx K mg) : PySem.W.exmOne K (.ref (He.ga K "NoPlace")) (.ref (He.ga K "NoTicket")) = some false := He.exm_ok (C.c.fact 30 rfl)
theorem gl_Taken (C : Ctx K mg) : mg "Taken" = some (.ref (He.ga K "Taken")) := let ⟨_, X, G⟩ := C.ex; He.glo_ok X G (C.c.fact 31 rfl)
theorem ex_Taken (C : Ctx K mg) : ExcT K (He.ga K "Taken") ["name"] := excB_ok (C.c.fact 32 rfl)
theorem em_Taken_NoPlace (C : Ctx K mg) : PySem.W.exmOne K (.ref (He.ga K "Taken")) (.ref (He.ga K "NoPlace")) = some false := He.exm_ok (C.c.fact 33 rfl)
theorem em_Taken_Taken (C : Ctx K mg) : PySem.W.exmOne K (.ref (He.ga K "Taken")) (.ref (He.ga K "Taken")) = some true := He.exm_ok (C.c.fact 34 rfl)
theorem em_Taken_NoTicket (C : Ctx K mg) : PySem.W.exmOne K (.ref (He.ga K "Taken")) (.ref (He.ga K "NoTicket")) = some false := He.exm_ok (C.c.fact 35 rfl)
theorem gl_NoTicket (C : Ctx K mg) : mg "NoTicket" = some (.ref (He.ga K "NoTicket")) := let ⟨_, X, G⟩ := C.ex; He.glo_ok X G (C.c.fact 36 rfl)
theorem ex_NoTicket (C : Ctx K mg) : ExcT K (He.ga K "NoTicket") ["ticket"] := excB_ok (C.c.fact 37 rfl)
theorem em_NoTicket_NoPlace (C : Ctx K mg) : PySem.W.exmOne K (.ref (He.ga K "NoTicket")) (.ref (He.ga K "NoPlace")) = some false := He.exm_ok (C.c.fact 38 rfl)
theorem em_NoTicket_Taken (C : Ctx K mg) : PySem.W.exmOne K (.ref (He.ga K "NoTicket")) (.ref (He.ga K "Taken")) = some false := He.exm_ok (C.c.fact 39 rfl)
theorem em_NoTicket_NoTicket (C : Ctx K mg) : PySem.W.exmOne K (.ref (He.ga K "NoTicket")) (.ref (He.ga K "NoTicket")) = some true := He.exm_ok (C.c.fact 40 rfl)
theorem fn_NoPlace_init (C : Ctx K mg) : ∃ fd, FunD K "__init__" "NoPlace.__init__" (defArgs s_NoPlace_init) (defBody s_NoPlace_init) (defScope s_NoPlace_init) [] [] (He.fAd K ("NoPlace", some "__init__")) fd := C.c.def_ 0 (d := d_NoPlace_init) rfl
theorem fn_Taken_init (C : Ctx K mg) : ∃ fd, FunD K "__init__" "Taken.__init__" (defArgs s_Taken_init) (defBody s_Taken_init) (defScope s_Taken_init) [] [] (He.fAd K ("Taken", some "__init__")) fd := C.c.def_ 1 (d := d_Taken_init) rfl
theorem fn_NoTicket_init (C : Ctx K mg) : ∃ fd, FunD K "__init__" "NoTicket.__init__" (defArgs s_NoTicket_init) (defBody s_NoTicket_init) (defScope s_NoTicket_init) [] [] (He.fAd K ("NoTicket", some "__init__")) fd := C.c.def_ 2 (d := d_NoTicket_init) rfl
theorem fn_moved (C : Ctx K mg) : ∃ fd, FunD K "moved" "moved" (defArgs s_moved) (defBody s_moved) (defScope s_moved) [] [] (He.fAd K ("moved", none)) fd := C.c.def_ 3 (d := d_moved) rfl
theorem fn_w_cell_at (C : Ctx K mg) : ∃ fd, FunD K "_law_cell_at" "_law_cell_at" (defArgs s_w_cell_at) (defBody s_w_cell_at) (defScope s_w_cell_at) [] [] (He.fAd K ("_law_cell_at", none)) fd := C.c.def_ 4 (d := d_w_cell_at) rfl
theorem fn_w_pot (C : Ctx K mg) : ∃ fd, FunD K "_law_pot" "_law_pot" (defArgs s_w_pot) (defBody s_w_pot) (defScope s_w_pot) [] [] (He.fAd K ("_law_pot", none)) fd := C.c.def_ 5 (d := d_w_pot) rfl
theorem fn_w_pick (C : Ctx K mg) : ∃ fd, FunD K "_law_pick" "_law_pick" (defArgs s_w_pick) (defBody s_w_pick) (defScope s_w_pick) [] [] (He.fAd K ("_law_pick", none)) fd := C.c.def_ 6 (d := d_w_pick) rfl
theorem fn_w_name (C : Ctx K mg) : ∃ fd, FunD K "_law_name" "_law_name" (defArgs s_w_name) (defBody s_w_name) (defScope s_w_name) [] [] (He.fAd K ("_law_name", none)) fd := C.c.def_ 7 (d := d_w_name) rfl
theorem fn_w_names (C : Ctx K mg) : ∃ fd, FunD K "_law_names" "_law_names" (defArgs s_w_names) (defBody s_w_names) (defScope s_w_names) [] [] (He.fAd K ("_law_names", none)) fd := C.c.def_ 8 (d := d_w_names) rfl
theorem fn_w_houses (C : Ctx K mg) : ∃ fd, FunD K "_law_houses" "_law_houses" (defArgs s_w_houses) (defBody s_w_houses) (defScope s_w_houses) [] [] (He.fAd K ("_law_houses", none)) fd := C.c.def_ 9 (d := d_w_houses) rfl
theorem fn_w_mixed (C : Ctx K mg) : ∃ fd, FunD K "_law_mixed" "_law_mixed" (defArgs s_w_mixed) (defBody s_w_mixed) (defScope s_w_mixed) [] [] (He.fAd K ("_law_mixed", none)) fd := C.c.def_ 10 (d := d_w_mixed) rfl
theorem fn_w_tickets (C : Ctx K mg) : ∃ fd, FunD K "_law_tickets" "_law_tickets" (defArgs s_w_tickets) (defBody s_w_tickets) (defScope s_w_tickets) [] [] (He.fAd K ("_law_tickets", none)) fd := C.c.def_ 11 (d := d_w_tickets) rfl
theorem fn_w_homes (C : Ctx K mg) : ∃ fd, FunD K "_law_homes" "_law_homes" (defArgs s_w_homes) (defBody s_w_homes) (defScope s_w_homes) [] [] (He.fAd K ("_law_homes", none)) fd := C.c.def_ 12 (d := d_w_homes) rfl
theorem fn_w_table (C : Ctx K mg) : ∃ fd, FunD K "_law_table" "_law_table" (defArgs s_w_table) (defBody s_w_table) (defScope s_w_table) [] [] (He.fAd K ("_law_table", none)) fd := C.c.def_ 13 (d := d_w_table) rfl
theorem fn_w_copy (C : Ctx K mg) : ∃ fd, FunD K "_law_copy" "_law_copy" (defArgs s_w_copy) (defBody s_w_copy) (defScope s_w_copy) [] [] (He.fAd K ("_law_copy", none)) fd := C.c.def_ 14 (d := d_w_copy) rfl
theorem fn_w_moves (C : Ctx K mg) : ∃ fd, FunD K "_law_moves" "_law_moves" (defArgs s_w_moves) (defBody s_w_moves) (defScope s_w_moves) [] [] (He.fAd K ("_law_moves", none)) fd := C.c.def_ 15 (d := d_w_moves) rfl
theorem fn_w_due (C : Ctx K mg) : ∃ fd, FunD K "_law_due" "_law_due" (defArgs s_w_due) (defBody s_w_due) (defScope s_w_due) [] [] (He.fAd K ("_law_due", none)) fd := C.c.def_ 16 (d := d_w_due) rfl
theorem fn_w_asked (C : Ctx K mg) : ∃ fd, FunD K "_law_asked" "_law_asked" (defArgs s_w_asked) (defBody s_w_asked) (defScope s_w_asked) [] [] (He.fAd K ("_law_asked", none)) fd := C.c.def_ 17 (d := d_w_asked) rfl
theorem fn_w_right (C : Ctx K mg) : ∃ fd, FunD K "_law_right" "_law_right" (defArgs s_w_right) (defBody s_w_right) (defScope s_w_right) [] [] (He.fAd K ("_law_right", none)) fd := C.c.def_ 18 (d := d_w_right) rfl
theorem fn_law (C : Ctx K mg) : ∃ fd, FunD K "law" "law" (defArgs s_law) (defBody s_law) (defScope s_law) [] [] (He.fAd K ("law", none)) fd := C.c.def_ 19 (d := d_law) rfl
end

end My
namespace My
open PySem PySem.Spec PyProof.Rows L2
/-! the law's draws -/
def sp_w_cell_at (K : PySem.W.Frag) : Sp := fun vs H Q _ => ∃ (a : Addr) (ns : List Int) (k : Nat), vs = [.ref a, .int k] ∧ SqL K H a (ns.map V.int) ∧ ∀ z, Q (.int z) H
def sp_w_pot : Sp := fun vs H Q _ => ∃ (z : Int), vs = [.int z] ∧ ∀ a H', H a = none → Step [] H H' → PotAt H' a 0 → Q (.ref a) H'
def sp_w_pick : Sp := fun vs H Q _ => ∃ (a : Addr) (n : Int) (c : Nat), vs = [.ref a, .int n] ∧ 0 < n ∧ n < 2 ^ 128 ∧ PotAt H a c ∧ c < 2 ^ 60 ∧ ∀ (r : Int) H', 0 ≤ r → r < n → Step [a] H H' → PotAt H' a (c + 1) → Q (.int r) H'
theorem go_pick {H : Hp} {Q : VK} {E : XK} {a : Addr} {n : Int} {c : Nat} (hp : PotAt H a c) (h0 : 0 < n) (h1 : n < 2 ^ 128) (hc : c < 2 ^ 60) (q : ∀ (r : Int) H', 0 ≤ r → r < n → Step [a] H H' → PotAt H' a (c + 1) → Q (.int r) H') : sp_w_pick [.ref a, .int n] H Q E := ⟨a, n, c, rfl, h0, h1, hp, hc, q⟩
section
variable {P : Program} {w : World} {K : PySem.W.Frag} {mg : Str → Option Value} {base : Heap}
theorem ok_w_cell_at (C : Ctx K mg) : Has P w K mg base CX0 1 "_law_cell_at" ["script", "k"] (sp_w_cell_at K) := by
  obtain ⟨fd, F⟩ := fn_w_cell_at C
  refine ⟨⟨_, fd, ?_, gl_w_cell_at C, F.kp, F.bindsN fun _ _ _ _ _ _ us hl => match us, hl with | [_, _], _ => rfl⟩⟩
  refine F.ok (CX := CX0) sc_w_cell_at (fun vs H Q E h => ?_) (fun cdv A outer s H vs Q E hr h => ?_)
  · first | (obtain ⟨_, rfl, _⟩ := h; rfl) | (obtain ⟨_, _, rfl, _⟩ := h; rfl) | (obtain ⟨_, _, _, rfl, _⟩ := h; rfl) | (obtain ⟨_, _, _, _, rfl, _⟩ := h; rfl) | (obtain ⟨_, _, _, _, _, rfl, _⟩ := h; rfl) | (obtain ⟨_, _, _, _, _, _, rfl, _⟩ := h; rfl) | (obtain ⟨_, _, _, _, _, _, _, rfl, _⟩ := h; rfl) | (obtain ⟨_, _, _, _, _, _, _, _, rfl, _⟩ := h; rfl) | (obtain ⟨_, _, _, _, _, _, _, _, _, rfl, _⟩ := h; rfl) | (obtain ⟨_, _, _, _, _, _, _, _, _, _, rfl, _⟩ := h; rfl) | (obtain ⟨_, _, _, _, _, _, _, _, _, _, _, rfl, _⟩ := h; rfl) | (obtain ⟨_, _, _, _, _, _, _, _, _, _, _, _, rfl, _⟩ := h; rfl)
  have hu := hu_of hr
  refine ⟨_, PSs.nox (pss_cons (ps_if (pt_cmpR op_lt (pv 1) (pe_callB cr_lenL (by rfl) (fr_len C) PySem.boot_len (pa_cons (pv 0) pa_nil)) (nomark _)) (pss_one (ps_ret (pe_ix ix_list (pv 0) (pv 1) (fun _ _ => rfl)))) pss_nil)
    (pss_one (ps_ret pe_int))), ?_⟩
  obtain ⟨a, ns, k, rfl, hS, q⟩ := h
  walk_at "go"
  refine g_ite (fun hk => ?_) (fun hk => ?_)
  · walk_at "go"
    rw [List.length_map] at hk
    exact g_ixLK hS (at_nat (by rw [List.getElem?_map, List.getElem?_eq_getElem (by omega : k < ns.length)]; rfl)) (q _)
  · walk_at "go"
    exact q _
theorem ok_w_pot (C : Ctx K mg) : Has P w K mg base CX0 1 "_law_pot" ["cell"] sp_w_pot := by
  obtain ⟨fd, F⟩ := fn_w_pot C
  refine ⟨⟨_, fd, ?_, gl_w_pot C, F.kp, F.bindsN fun _ _ _ _ _ _ us hl => match us, hl with | [_], _ => rfl⟩⟩
  refine F.ok (CX := CX0) sc_w_pot (fun vs H Q E h => ?_) (fun cdv A outer s H vs Q E hr h => ?_)
  · first | (obtain ⟨_, rfl, _⟩ := h; rfl) | (obtain ⟨_, _, rfl, _⟩ := h; rfl) | (obtain ⟨_, _, _, rfl, _⟩ := h; rfl) | (obtain ⟨_, _, _, _, rfl, _⟩ := h; rfl) | (obtain ⟨_, _, _, _, _, rfl, _⟩ := h; rfl) | (obtain ⟨_, _, _, _, _, _, rfl, _⟩ := h; rfl) | (obtain ⟨_, _, _, _, _, _, _, rfl, _⟩ := h; rfl) | (obtain ⟨_, _, _, _, _, _, _, _, rfl, _⟩ := h; rfl) | (obtain ⟨_, _, _, _, _, _, _, _, _, rfl, _⟩ := h; rfl) | (obtain ⟨_, _, _, _, _, _, _, _, _, _, rfl, _⟩ := h; rfl) | (obtain ⟨_, _, _, _, _, _, _, _, _, _, _, rfl, _⟩ := h; rfl) | (obtain ⟨_, _, _, _, _, _, _, _, _, _, _, _, rfl, _⟩ := h; rfl)
  have hu := hu_of hr
  refine ⟨_, PSs.nox (pss_one (ps_ret (pe_lst (pa_cons (pe_callB (cr_max2 rfl) (by rfl) (fr_max C) (by decide +kernel) (pa_cons pe_int (pa_cons (pe_op op_sub (pv 0) (pe_op op_powP pe_int pe_int)) pa_nil))) (pa_cons (pe_op op_modP (pv 0) pe_int) (pa_cons pe_int pa_nil)))))), ?_⟩
  obtain ⟨z, rfl, q⟩ := h
  walk_at "go"
  intro p H2 hp st h2
  refine q p H2 hp st ⟨_, _, _, h2, by omega, Int.emod_nonneg _ (by decide), ?_, by omega, by omega⟩
  have := Int.emod_lt_of_pos z (show (0 : Int) < 170141183460469231731687303715884105727 by decide)
  omega
theorem ok_w_pick (C : Ctx K mg) : Has P w K mg base CX0 1 "_law_pick" ["pot", "many"] sp_w_pick := by
  obtain ⟨fd, F⟩ := fn_w_pick C
  refine ⟨⟨_, fd, ?_, gl_w_pick C, F.kp, F.bindsN fun _ _ _ _ _ _ us hl => match us, hl with | [_, _], _ => rfl⟩⟩
  refine F.ok (CX := CX0) sc_w_pick (fun vs H Q E h => ?_) (fun cdv A outer s H vs Q E hr h => ?_)
  · first | (obtain ⟨_, rfl, _⟩ := h; rfl) | (obtain ⟨_, _, rfl, _⟩ := h; rfl) | (obtain ⟨_, _, _, rfl, _⟩ := h; rfl) | (obtain ⟨_, _, _, _, rfl, _⟩ := h; rfl) | (obtain ⟨_, _, _, _, _, rfl, _⟩ := h; rfl) | (obtain ⟨_, _, _, _, _, _, rfl, _⟩ := h; rfl) | (obtain ⟨_, _, _, _, _, _, _, rfl, _⟩ := h; rfl) | (obtain ⟨_, _, _, _, _, _, _, _, rfl, _⟩ := h; rfl) | (obtain ⟨_, _, _, _, _, _, _, _, _, rfl, _⟩ := h; rfl) | (obtain ⟨_, _, _, _, _, _, _, _, _, _, rfl, _⟩ := h; rfl) | (obtain ⟨_, _, _, _, _, _, _, _, _, _, _, rfl, _⟩ := h; rfl) | (obtain ⟨_, _, _, _, _, _, _, _, _, _, _, _, rfl, _⟩ := h; rfl)
  have hu := hu_of hr
  refine ⟨_, PSs.nox (pss_cons (ps_if (pt_cmpR op_gt (pe_ix ix_list (pv 0) pe_int (fun _ _ => rfl)) pe_int (nomark _)) (pss_cons (ps_set (i := 2) sc_w_pick.nd rfl (Or.inl rfl) (pe_op op_modP (pe_ix ix_list (pv 0) pe_int (fun _ _ => rfl)) (pv 1)))
    (pss_cons (ps_asg (pe_op op_divP (pe_ix ix_list (pv 0) pe_int (fun _ _ => rfl)) (pv 1)) (pg_sub (pv 0) pe_int set_list))
    (pss_one (ps_ret (pv 2))))) pss_nil)
    (pss_cons (ps_asg (pe_op op_add (pe_ix ix_list (pv 0) pe_int (fun _ _ => rfl)) pe_int) (pg_sub (pv 0) pe_int set_list))
    (pss_cons (ps_set (i := 3) sc_w_pick.nd rfl (Or.inl rfl) (pe_op op_modP (pe_op op_powP (pe_op op_add (pe_op op_add (pe_ix ix_list (pv 0) pe_int (fun _ _ => rfl)) (pe_op op_mulP pe_int (pe_ix ix_list (pv 0) pe_int (fun _ _ => rfl)))) pe_int) pe_int) pe_int))
    (pss_cons (ps_set (i := 3) sc_w_pick.nd rfl (Or.inl rfl) (pe_op op_modP (pe_op op_powP (pe_op op_add (pv 3) (pe_op op_mulP pe_int (pe_ix ix_list (pv 0) pe_int (fun _ _ => rfl)))) pe_int) pe_int))
    (pss_one (ps_ret (pe_op op_modP (pe_op op_divP (pv 3) pe_int) (pv 1)))))))), ?_⟩
  obtain ⟨a, n, c, rfl, hn, hn2, ⟨p0, p1, p2, hp, h0, h1, h2, h3, h4⟩, hc, q⟩ := h
  walk_at "go"
  refine g_ite (fun hk => ?_) (fun hk => ?_)
  · walk_at "go"
    refine g_setL hp rfl fun H2 st e2 => ?_
    walk_at "go"
    exact q _ H2 (Int.emod_nonneg _ (by omega)) (Int.emod_lt_of_pos _ hn) st ⟨_, _, _, e2, Int.ediv_nonneg h0 (by omega), h1, h2, h3, by omega⟩
  · walk_at "go"
    refine g_setL hp rfl fun H2 st e2 => ?_
    have e2 : H2 a = some (HO.lst [V.int p0, V.int p1, V.int (p2 + 1)]) := e2
    walk_at "go"
    have b1 := Int.emod_nonneg ((p1 + 9176263 * (p2 + 1) + 57) ^ Int.toNat 3) (show (162259276829213363391578010288127 : Int) ≠ 0 by decide)
    have b2 := Int.emod_lt_of_pos ((p1 + 9176263 * (p2 + 1) + 57) ^ Int.toNat 3) (show (0 : Int) < 162259276829213363391578010288127 by decide)
    generalize (p1 + 9176263 * (p2 + 1) + 57) ^ Int.toNat 3 % 162259276829213363391578010288127 = z at b1 b2 ⊢
    walk_at "go"
    exact q _ H2 (Int.emod_nonneg _ (by omega)) (Int.emod_lt_of_pos _ hn) st ⟨_, _, _, e2, h0, h1, h2, by omega, by omega⟩
end

end My
namespace My
open PySem PySem.Spec PyProof.Rows L2
/-! names -/
def sp_w_name : Sp := fun vs H Q _ => ∃ (a : Addr) (c : Nat), vs = [.ref a] ∧ PotAt H a c ∧ c < 2 ^ 59 ∧ ∀ (z : Str) H', IsNm z → Step [a] H H' → PotAt H' a (c + 10) → Q (.str z) H'
theorem go_name {H : Hp} {Q : VK} {E : XK} {a : Addr} {c : Nat} (hp : PotAt H a c) (hc : c < 2 ^ 59) (q : ∀ (z : Str) H', IsNm z → Step [a] H H' → PotAt H' a (c + 10) → Q (.str z) H') : sp_w_name [.ref a] H Q E := ⟨a, c, rfl, hp, hc, q⟩
def sp_w_names : Sp := fun vs H Q _ => ∃ (a : Addr) (n : Int) (c : Nat), vs = [.ref a, .int n] ∧ 0 ≤ n ∧ n ≤ 100 ∧ PotAt H a c ∧ c < 2 ^ 58 ∧
  ∀ D (zs : List Str) H', H D = none → (zs.length : Int) ≤ n → zs.Nodup → (∀ z ∈ zs, IsNm z) → (0 < n → zs ≠ []) → Step [a] H H' → H' D = some (.lst (zs.map V.str)) → PotAt H' a (c + 1 + 13 * n.toNat) → Q (.ref D) H'
section
variable {P : Program} {w : World} {K : PySem.W.Frag} {mg : Str → Option Value} {base : Heap}
theorem ok_w_name (C : Ctx K mg) : Has P w K mg base CX0 2 "_law_name" ["pot"] sp_w_name := by
  obtain ⟨fd, F⟩ := fn_w_name C
  obtain ⟨f_w_pick, fd_w_pick, G_w_pick, mg_w_pick, kp_w_pick, b_w_pick⟩ := (ok_w_pick (P := P) (w := w) (base := base) C).ex
  refine ⟨⟨_, fd, ?_, gl_w_name C, F.kp, F.bindsN fun _ _ _ _ _ _ us hl => match us, hl with | [_], _ => rfl⟩⟩
  refine F.ok (CX := CX0) sc_w_name (fun vs H Q E h => ?_) (fun cdv A outer s H vs Q E hr h => ?_)
  · first | (obtain ⟨_, rfl, _⟩ := h; rfl) | (obtain ⟨_, _, rfl, _⟩ := h; rfl) | (obtain ⟨_, _, _, rfl, _⟩ := h; rfl) | (obtain ⟨_, _, _, _, rfl, _⟩ := h; rfl) | (obtain ⟨_, _, _, _, _, rfl, _⟩ := h; rfl) | (obtain ⟨_, _, _, _, _, _, rfl, _⟩ := h; rfl) | (obtain ⟨_, _, _, _, _, _, _, rfl, _⟩ := h; rfl) | (obtain ⟨_, _, _, _, _, _, _, _, rfl, _⟩ := h; rfl) | (obtain ⟨_, _, _, _, _, _, _, _, _, rfl, _⟩ := h; rfl) | (obtain ⟨_, _, _, _, _, _, _, _, _, _, rfl, _⟩ := h; rfl) | (obtain ⟨_, _, _, _, _, _, _, _, _, _, _, rfl, _⟩ := h; rfl) | (obtain ⟨_, _, _, _, _, _, _, _, _, _, _, _, rfl, _⟩ := h; rfl)
  have hu := hu_of hr
  refine ⟨_, PSs.nox (pss_cons (ps_set (i := 1) sc_w_name.nd rfl (Or.inr rfl) pe_str)
    (pss_cons (ps_set (i := 2) sc_w_name.nd rfl (Or.inl rfl) (pe_ix ix_list (pe_lst (pa_cons pe_int (pa_cons pe_int (pa_cons pe_int (pa_cons (pe_op op_add pe_int (pe_call G_w_pick (hr.mono (by decide)) rfl mg_w_pick kp_w_pick b_w_pick .nil pass0 (pa_cons (pv 0) (pa_cons pe_int pa_nil)))) pa_nil))))) (pe_call G_w_pick (hr.mono (by decide)) rfl mg_w_pick kp_w_pick b_w_pick .nil pass0 (pa_cons (pv 0) (pa_cons pe_int pa_nil))) (fun _ _ => rfl)))
    (pss_one (ps_ret (pe_joinR pe_str (pe_lc (own := [("k", 3)]) (g := (gName 3)) (tt := tYes) rfl sc_w_name.nd (pi_range1 rfl (fr_range C) (pa_cons (pv 2) pa_nil)) (blkOk_by (N := N_w_name) (sc := defScope s_w_name) (own := [("k", 3)]) (by decide +kernel)) (fun _ _ _ _ _ => (pg_name (i := 3) sc_w_name.nd rfl (Or.inl rfl))) (fun _ _ _ _ _ => pts_nil) (fun _ _ _ _ _ => (pe_ix ix_str (pv 1) (pe_call G_w_pick (hr.mono (by decide)) rfl mg_w_pick kp_w_pick b_w_pick .nil pass0 (pa_cons (pv 0) (pa_cons pe_int pa_nil))) (fun _ _ => rfl))))))))), ?_⟩
  obtain ⟨a, c, rfl, hp, hc, q⟩ := h
  walk_at "go"
  refine go_pick hp (by decide) (by decide) (by omega) fun r1 H1 r10 r11 s1 p1 => ?_
  walk_at "go"
  intro l H2 hl s2 e2
  have la : l ≠ a := (p1.ne hl).symm
  walk_at "go"
  refine go_pick (p1.step0 s2) (by decide) (by decide) (by omega) fun r2 H3 r20 r21 s3 p3 => ?_
  obtain ⟨m, hm, em⟩ := at4 (x0 := 1) (x1 := 2) (x2 := 8) (x3 := 1 + r1) r20 r21
  refine g_ixL (s3.at1 e2 la) em ?_
  have hm1 : 1 ≤ m ∧ m ≤ 8 := by omega
  walk_at "go"
  refine g_kRng1 (by omega) (by omega) ?_
  refine wLc_rng fun D H4 hD s4 e4 => ?_
  have aD : a ≠ D := p3.ne hD
  refine ⟨fun i H => ∃ ss : List Str, ss.length = i ∧ (∀ s ∈ ss, ∃ c, s = ⟨#[c]⟩ ∧ isLow c) ∧ H D = some (.lst (ss.map V.str)) ∧ PotAt H a (c + 2 + i) ∧ Step [a] H3 H, ⟨[], rfl, by simp, e4, p3.step0 s4, s4.up⟩, ?_, ?_⟩
  · rintro i H5 hi ⟨ss, h1, h2, h3, h4, h5⟩
    walk_at "go"
    refine go_pick h4 (by decide) (by decide) (by omega) fun r3 H6 r30 r31 s6 p6 => ?_
    obtain ⟨ch, hch, ech⟩ := letter_at r30 r31
    refine g_ixS letters_line ech ?_
    refine g_kEl (s6.at1 h3 aD.symm) (ltLine (by rw [List.length_map]; omega)) fun H7 s7 e7 => ?_
    refine ⟨ss ++ [⟨#[ch]⟩], by simp [h1], fun s hs => ?_, by rw [e7, List.map_append]; rfl, (p6.step1 s7 aD).mono (by omega), (h5.trans s6).via s7 hD⟩
    · rcases List.mem_append.mp hs with hs | hs
      · exact h2 s hs
      · exact ⟨ch, by simpa using hs, hch⟩
  · rintro H5 ⟨ss, h1, h2, h3, h4, h5⟩
    obtain ⟨f1, f2, f3⟩ := signs_flat h2
    have ee : cs ("" : Str) = [] := by decide +kernel
    refine g_join h3 ?_ ?_
    · rw [f3, ← cs_len, ee]
      simp
      omega
    · rw [TL.join_eq]
      exact q _ H5 (nm_of_signs h2 (by omega) (by omega)) (((s1.trans s2.up).trans s3).trans h5) (h4.mono (by omega))
theorem ok_w_names (C : Ctx K mg) : Has P w K mg base CX0 3 "_law_names" ["pot", "many"] sp_w_names := by
  obtain ⟨fd, F⟩ := fn_w_names C
  obtain ⟨f_w_pick, fd_w_pick, G_w_pick, mg_w_pick, kp_w_pick, b_w_pick⟩ := (ok_w_pick (P := P) (w := w) (base := base) C).ex
  obtain ⟨f_w_name, fd_w_name, G_w_name, mg_w_name, kp_w_name, b_w_name⟩ := (ok_w_name (P := P) (w := w) (base := base) C).ex
  refine ⟨⟨_, fd, ?_, gl_w_names C, F.kp, F.bindsN fun _ _ _ _ _ _ us hl => match us, hl with | [_, _], _ => rfl⟩⟩
  refine F.ok (CX := CX0) sc_w_names (fun vs H Q E h => ?_) (fun cdv A outer s H vs Q E hr h => ?_)
  · first | (obtain ⟨_, rfl, _⟩ := h; rfl) | (obtain ⟨_, _, rfl, _⟩ := h; rfl) | (obtain ⟨_, _, _, rfl, _⟩ := h; rfl) | (obtain ⟨_, _, _, _, rfl, _⟩ := h; rfl) | (obtain ⟨_, _, _, _, _, rfl, _⟩ := h; rfl) | (obtain ⟨_, _, _, _, _, _, rfl, _⟩ := h; rfl) | (obtain ⟨_, _, _, _, _, _, _, rfl, _⟩ := h; rfl) | (obtain ⟨_, _, _, _, _, _, _, _, rfl, _⟩ := h; rfl) | (obtain ⟨_, _, _, _, _, _, _, _, _, rfl, _⟩ := h; rfl) | (obtain ⟨_, _, _, _, _, _, _, _, _, _, rfl, _⟩ := h; rfl) | (obtain ⟨_, _, _, _, _, _, _, _, _, _, _, rfl, _⟩ := h; rfl) | (obtain ⟨_, _, _, _, _, _, _, _, _, _, _, _, rfl, _⟩ := h; rfl)
  have hu := hu_of hr
  refine ⟨_, PSs.nox (pss_cons (ps_set (i := 2) sc_w_names.nd rfl (Or.inl rfl) pe_str)
    (pss_cons (ps_set (i := 3) sc_w_names.nd rfl (Or.inl rfl) (pe_call G_w_pick (hr.mono (by decide)) rfl mg_w_pick kp_w_pick b_w_pick .nil pass0 (pa_cons (pv 0) (pa_cons pe_int pa_nil))))
    (pss_cons (ps_set (i := 4) sc_w_names.nd rfl (Or.inl rfl) (pe_lst pa_nil))
    (pss_cons (ps_for PassesOwn.never rfl (pi_range1 rfl (fr_range C) (pa_cons (pv 1) pa_nil)) (pg_name (i := 5) sc_w_names.nd rfl (Or.inl rfl))
    (pss_cons (ps_set (i := 6) sc_w_names.nd rfl (Or.inl rfl) (pe_call G_w_name (hr.mono (by decide)) rfl mg_w_name kp_w_name b_w_name .nil pass0 (pa_cons (pv 0) pa_nil)))
    (pss_cutM (ps_if (pt_cut (PW.pt (pw_and (pt_cmpR op_gt (pv 3) pe_int (nomark _)) (pw_and1 (pt_cmpR (op_neD hr.units) (pv 4) (pe_lst pa_nil) (nomark _)))))) (pss_cons (ps_set (i := 7) sc_w_names.nd rfl (Or.inl rfl) (pe_ix ix_list (pv 4) (pe_call G_w_pick (hr.mono (by decide)) rfl mg_w_pick kp_w_pick b_w_pick .nil pass0 (pa_cons (pv 0) (pa_cons (pe_callB cr_lenL (by rfl) (fr_len C) PySem.boot_len (pa_cons (pv 4) pa_nil)) pa_nil))) (fun _ _ => rfl)))
    (pss_cons (ps_set (i := 8) sc_w_names.nd rfl (Or.inl rfl) (pe_call G_w_pick (hr.mono (by decide)) rfl mg_w_pick kp_w_pick b_w_pick .nil pass0 (pa_cons (pv 0) (pa_cons (pe_callB cr_lenSt (by rfl) (fr_len C) PySem.boot_len (pa_cons (pv 7) pa_nil)) pa_nil))))
    (pss_one (ps_set (i := 6) sc_w_names.nd rfl (Or.inl rfl) (pe_slice sl_str (pe_op op_addS (pe_op op_addS (pe_slice sl_str (pv 7) po_none (po_some (pv 8))) (pe_ix ix_str (pv 2) (pe_call G_w_pick (hr.mono (by decide)) rfl mg_w_pick kp_w_pick b_w_pick .nil pass0 (pa_cons (pv 0) (pa_cons pe_int pa_nil))) (fun _ _ => rfl))) (pe_slice sl_str (pv 7) (po_some (pe_op op_sub (pe_op op_add (pv 8) pe_int) (pv 3))) po_none)) po_none (po_some pe_int)))))) pss_nil)
    (pss_one (ps_if (pt_cmpR op_notIn_seq (pv 6) (pv 4) (by rfl)) (pss_one (ps_expr (pe_bm PySem.F.plainAttrs_list PySem.F.slot_list_append PySem.F.type_list_append mt_append (pv 4) (pa_cons (pv 6) pa_nil)))) pss_nil)))))
    (pss_one (ps_ret (pv 4))))))), ?_⟩
  obtain ⟨a, n, c, rfl, hn0, hn1, hp, hc, q⟩ := h
  walk_at "go"
  refine go_pick hp (by decide) (by decide) (by omega) fun way H1 w0 w1 s1 p1 => ?_
  walk_at "go"
  intro D H2 hD s2 e2
  have aD : a ≠ D := p1.ne hD
  walk_at "go"
  refine g_kRng1 (by omega) (by omega) ?_
  refine wFor_rng (fun i σ H => ∃ (zs : List Str) (v5 v6 v7 v8 : Option V), σ = [some (.ref a), some (.int n), some (.str "abcdefghijklmnopqrstuvwxyz"), some (.int way), some (.ref D), v5, v6, v7, v8] ∧
    zs.length ≤ i ∧ zs.Nodup ∧ (∀ z ∈ zs, IsNm z) ∧ (0 < i → zs ≠ []) ∧ H D = some (.lst (zs.map V.str)) ∧ PotAt H a (c + 1 + 13 * i) ∧ Step [a] H1 H) ⟨[], _, _, _, _, rfl, Nat.le_refl _, List.nodup_nil, by simp, by omega, e2, p1.step0 s2, s2.up⟩ ?_ ?_
  · rintro i σ H3 hi ⟨zs, v5, v6, v7, v8, rfl, h1, h2, h3, h4, h5, h6, h7⟩
    walk_at "go"
    refine go_name h6 (by omega) fun one H4 n1 s4 p4 => ?_
    walk_at "go"
    refine g_cut (fun σ H => ∃ (z : Str) (v7 v8 : Option V), σ = [some (.ref a), some (.int n), some (.str "abcdefghijklmnopqrstuvwxyz"), some (.int way), some (.ref D), some (.int (0 + i)), some (.str z), v7, v8] ∧ IsNm z ∧
      H D = some (.lst (zs.map V.str)) ∧ PotAt H a (c + 1 + 13 * i + 13) ∧ Step [a] H1 H) ?_ ?_
    · have e4 := s4.at1 h5 aD.symm
      walk_at "go"
      refine g_tcut (fun b H => (b = true → 0 < way ∧ zs ≠ []) ∧ H D = some (.lst (zs.map V.str)) ∧ PotAt H a (c + 1 + 13 * i + 10) ∧ Step [a] H1 H) ?_ ?_
      · walk_at "go"
        refine g_ite (fun hw => ?_) (fun hw => ?_)
        · walk_at "go"
          intro l H5 hl s5 e5
          refine g_neC (cL cS) (rLS_of (s5.at0 e4)) (rLS_of (xs := []) e5) (fun x hx => (h3 x hx).ok) (by intro x hx; cases hx) ?_
          walk_at "go"
          exact ⟨fun hb => ⟨hw, by simpa using hb⟩, s5.at0 e4, p4.step0 s5, (h7.trans s4).trans s5.up⟩
        · exact ⟨fun hb => (nomatch hb), e4, p4, h7.trans s4⟩
      · rintro b H5 ⟨hb, e5, p5, s5⟩
        refine g_iteB (fun hb1 => ?_) (fun hb1 => ?_)
        · obtain ⟨hw, hz⟩ := hb hb1
          have hz0 : 0 < zs.length := List.length_pos_iff.mpr hz
          walk_at "go"
          rw [List.length_map]
          refine go_pick p5 (by omega) (by omega) (by omega) fun r1 H6 r10 r11 s6 p6 => ?_
          have e6 := s6.at1 e5 aD.symm
          obtain ⟨old, ho, eo⟩ := at_in (xs := zs) r10 r11
          have n2 := h3 old (List.mem_of_getElem? ho)
          refine g_ixL e6 (at_int r10 (by rw [List.getElem?_map, ho]; rfl)) ?_
          walk_at "go"
          refine g_lenSt (leLine (by have := n2.hi; omega)) ?_
          have n3 := n2.lo
          have n4 := n2.hi
          walk_at "go"
          refine go_pick p6 (by omega) (by omega) (by omega) fun r2 H7 r20 r21 s7 p7 => ?_
          walk_at "go"
          refine g_slS (leLine (by omega)) ?_
          walk_at "go"
          refine go_pick p7 (by decide) (by decide) (by omega) fun r3 H8 r30 r31 s8 p8 => ?_
          obtain ⟨ch, hch, ech⟩ := letter_at r30 r31
          refine g_ixS letters_line ech ?_
          have l1 := len_cut_le old none (some r2)
          refine g_addS (leLine (by rw [len_one]; omega)) ?_
          walk_at "go"
          refine g_slS (leLine (by omega)) ?_
          have l2 := len_cut_le old (some (r2 + 2 - way)) none
          refine g_addS (leLine (by rw [len_add, len_one]; omega)) ?_
          walk_at "go"
          refine g_slS (leLine (by rw [len_add, len_add, len_one]; omega)) ?_
          exact ⟨_, _, _, rfl, nm_turn n2 hch rfl, s8.at1 (s7.at1 e6 aD.symm) aD.symm, p8.mono (by omega), ((s5.trans s6).trans s7).trans s8⟩
        · walk_at "go"
          exact ⟨_, _, _, rfl, n1, e5, p5.mono (by omega), s5⟩
    · rintro σ H5 ⟨z, v7, v8, rfl, nz, e5, p5, s5⟩
      walk_at "go"
      refine g_notInS e5 ?_
      walk_at "go"
      refine g_iteN (fun hz => ?_) (fun hz => ?_)
      · walk_at "go"
        refine g_append e5 (ltLine (by rw [List.length_map]; omega)) fun H6 s6 e6 => ?_
        refine ⟨zs ++ [z], _, _, _, _, rfl, by simp; omega, nd_snoc h2 hz, fun y hy => ?_, by simp, by rw [e6, List.map_append]; rfl, (p5.step1 s6 aD).mono (by omega), s5.via s6 hD⟩
        rcases List.mem_append.mp hy with hy | hy
        · exact h3 y hy
        · rw [List.mem_singleton.mp hy]; exact nz
      · walk_at "go"
        exact ⟨zs, _, _, _, _, rfl, by omega, h2, h3, (fun _ q => by rw [q] at hz; cases hz), e5, p5.mono (by omega), s5⟩
  · rintro σ H3 ⟨zs, v5, v6, v7, v8, rfl, h1, h2, h3, h4, h5, h6, h7⟩
    walk_at "go"
    exact q D zs H3 (s1.fresh hD) (by omega) h2 h3 (fun z => h4 (by omega)) (s1.trans h7) h5 (h6.mono (by omega))
end

end My
namespace My
open PySem PySem.Spec PyProof.Rows L2
/-! towns' rows, mixed lists, tickets -/
abbrev Row := Str × Str × Int
abbrev rRow : Rp Row := rP3 rS rS rI
theorem mRow : Mono rRow := mP3 mS mS mI
structure RowOk (r : Row) : Prop where
  nm : IsNm r.1
  zn : IsNm r.2.1
  w0 : 0 ≤ r.2.2
  w1 : r.2.2 ≤ 1000
def sp_w_houses : Sp := fun vs H Q _ => ∃ (a : Addr) (n : Int) (c : Nat), vs = [.ref a, .int n] ∧ 0 ≤ n ∧ n ≤ 30 ∧ PotAt H a c ∧ c < 2 ^ 57 ∧
  ∀ D (rows : List Row) H', H D = none → (rows.length : Int) ≤ n → (rows.map (·.1)).Nodup → (∀ r ∈ rows, RowOk r) → Step [a] H H' → rL rRow (hide [a] H') (.ref D) rows → PotAt H' a (c + 1000) → Q (.ref D) H'
def sp_w_mixed : Sp := fun vs H Q _ => ∃ (a l : Addr) (xs : List V) (c : Nat), vs = [.ref a, .ref l] ∧ H l = some (.lst xs) ∧ xs.length ≤ 1000 ∧ PotAt H a c ∧ c < 2 ^ 58 ∧
  ∀ D (ys : List V) H', H D = none → ys.Perm xs → Step [a] H H' → H' D = some (.lst ys) → PotAt H' a (c + xs.length) → Q (.ref D) H'
def sp_w_tickets : Sp := fun vs H Q _ => ∃ (a : Addr) (n : Int) (c : Nat), vs = [.ref a, .int n] ∧ 0 ≤ n ∧ n ≤ 30 ∧ PotAt H a c ∧ c < 2 ^ 57 ∧
  ∀ D (ns : List Int) H', H D = none → (ns.length : Int) = n → ns.Nodup → (∀ z ∈ ns, 0 ≤ z ∧ z < 2 ^ 120) → Step [a] H H' → H' D = some (.lst (ns.map V.int)) → PotAt H' a (c + 100) → Q (.ref D) H'
section
variable {P : Program} {w : World} {K : PySem.W.Frag} {mg : Str → Option Value} {base : Heap}
theorem ok_w_houses (C : Ctx K mg) : Has P w K mg base CX0 4 "_law_houses" ["pot", "most"] sp_w_houses := by
  obtain ⟨fd, F⟩ := fn_w_houses C
  obtain ⟨f_w_names, fd_w_names, G_w_names, mg_w_names, kp_w_names, b_w_names⟩ := (ok_w_names (P := P) (w := w) (base := base) C).ex
  obtain ⟨f_w_pick, fd_w_pick, G_w_pick, mg_w_pick, kp_w_pick, b_w_pick⟩ := (ok_w_pick (P := P) (w := w) (base := base) C).ex
  refine ⟨⟨_, fd, ?_, gl_w_houses C, F.kp, F.bindsN fun _ _ _ _ _ _ us hl => match us, hl with | [_, _], _ => rfl⟩⟩
  refine F.ok (CX := CX0) sc_w_houses (fun vs H Q E h => ?_) (fun cdv A outer s H vs Q E hr h => ?_)
  · first | (obtain ⟨_, rfl, _⟩ := h; rfl) | (obtain ⟨_, _, rfl, _⟩ := h; rfl) | (obtain ⟨_, _, _, rfl, _⟩ := h; rfl) | (obtain ⟨_, _, _, _, rfl, _⟩ := h; rfl) | (obtain ⟨_, _, _, _, _, rfl, _⟩ := h; rfl) | (obtain ⟨_, _, _, _, _, _, rfl, _⟩ := h; rfl) | (obtain ⟨_, _, _, _, _, _, _, rfl, _⟩ := h; rfl) | (obtain ⟨_, _, _, _, _, _, _, _, rfl, _⟩ := h; rfl) | (obtain ⟨_, _, _, _, _, _, _, _, _, rfl, _⟩ := h; rfl) | (obtain ⟨_, _, _, _, _, _, _, _, _, _, rfl, _⟩ := h; rfl) | (obtain ⟨_, _, _, _, _, _, _, _, _, _, _, rfl, _⟩ := h; rfl) | (obtain ⟨_, _, _, _, _, _, _, _, _, _, _, _, rfl, _⟩ := h; rfl)
  have hu := hu_of hr
  refine ⟨_, PSs.nox (pss_cons (ps_set (i := 2) sc_w_houses.nd rfl (Or.inl rfl) (pe_call G_w_names (hr.mono (by decide)) rfl mg_w_names kp_w_names b_w_names .nil pass0 (pa_cons (pv 0) (pa_cons (pe_op op_add pe_int (pe_call G_w_pick (hr.mono (by decide)) rfl mg_w_pick kp_w_pick b_w_pick .nil pass0 (pa_cons (pv 0) (pa_cons pe_int pa_nil)))) pa_nil))))
    (pss_cons (ps_set (i := 3) sc_w_houses.nd rfl (Or.inl rfl) (pe_call G_w_pick (hr.mono (by decide)) rfl mg_w_pick kp_w_pick b_w_pick .nil pass0 (pa_cons (pv 0) (pa_cons pe_int pa_nil))))
    (pss_cons (ps_set (i := 4) sc_w_houses.nd rfl (Or.inl rfl) (pe_lst pa_nil))
    (pss_cons (ps_for PassesOwn.never rfl (pi_list (pe_call G_w_names (hr.mono (by decide)) rfl mg_w_names kp_w_names b_w_names .nil pass0 (pa_cons (pv 0) (pa_cons (pe_call G_w_pick (hr.mono (by decide)) rfl mg_w_pick kp_w_pick b_w_pick .nil pass0 (pa_cons (pv 0) (pa_cons (pe_op op_add (pv 1) pe_int) pa_nil))) pa_nil)))) (pg_name (i := 5) sc_w_houses.nd rfl (Or.inl rfl))
    (pss_cons (ps_set (i := 6) sc_w_houses.nd rfl (Or.inl rfl) (pe_ix ix_list (pe_lst (pa_cons (pe_op op_add pe_int (pe_call G_w_pick (hr.mono (by decide)) rfl mg_w_pick kp_w_pick b_w_pick .nil pass0 (pa_cons (pv 0) (pa_cons pe_int pa_nil)))) (pa_cons pe_int (pa_cons (pe_call G_w_pick (hr.mono (by decide)) rfl mg_w_pick kp_w_pick b_w_pick .nil pass0 (pa_cons (pv 0) (pa_cons pe_int pa_nil))) (pa_cons (pe_call G_w_pick (hr.mono (by decide)) rfl mg_w_pick kp_w_pick b_w_pick .nil pass0 (pa_cons (pv 0) (pa_cons pe_int pa_nil))) pa_nil))))) (pv 3) (fun _ _ => rfl)))
    (pss_one (ps_expr (pe_bm PySem.F.plainAttrs_list PySem.F.slot_list_append PySem.F.type_list_append mt_append (pv 4) (pa_cons (pe_tup (pa_cons (pv 5) (pa_cons (pe_ix ix_list (pv 2) (pe_call G_w_pick (hr.mono (by decide)) rfl mg_w_pick kp_w_pick b_w_pick .nil pass0 (pa_cons (pv 0) (pa_cons (pe_callB cr_lenL (by rfl) (fr_len C) PySem.boot_len (pa_cons (pv 2) pa_nil)) pa_nil))) (fun _ _ => rfl)) (pa_cons (pv 6) pa_nil)))) pa_nil))))))
    (pss_one (ps_ret (pv 4))))))), ?_⟩
  obtain ⟨a, n, c, rfl, hn0, hn1, hp, hc, q⟩ := h
  walk_at "go"
  refine go_pick hp (by decide) (by decide) (by omega) fun r1 H1 r10 r11 s1 p1 => ?_
  walk_at "go"
  refine ⟨a, _, _, rfl, by omega, by omega, p1, by omega, fun Ar ars H2 hAr la na nma nea s2 eAr p2 => ?_⟩
  have p2 := p2.mono (show c + 1 + 1 + 13 * (1 + r1).toNat ≤ c + 50 by omega)
  walk_at "go"
  refine go_pick p2 (by decide) (by decide) (by omega) fun way H3 w0 w1 s3 p3 => ?_
  walk_at "go"
  intro D H4 hD s4 e4
  have aD : a ≠ D := p3.ne hD
  walk_at "go"
  refine go_pick (p3.step0 s4) (by omega) (by omega) (by omega) fun r5 H5 r50 r51 s5 p5 => ?_
  walk_at "go"
  refine ⟨a, _, _, rfl, by omega, by omega, p5, by omega, fun L zs H6 hL lz nz nmz _ s6 eL p6 => ?_⟩
  have p6 := p6.mono (show c + 50 + 1 + 1 + 1 + 13 * r5.toNat ≤ c + 60 + 400 by omega)
  have aL : a ≠ L := p5.ne hL
  have e5 := s5.at1 e4 aD.symm
  have DL : D ≠ L := ne_of_none e5 hL
  have aA : a ≠ Ar := p1.ne hAr
  have DA : Ar ≠ D := (s3.ne eAr hD)
  have eA6 := s6.at1 (s5.at1 (s4.at0 (s3.at1 eAr aA.symm)) aA.symm) aA.symm
  have LA : Ar ≠ L := s5.ne (s4.at0 (s3.at1 eAr aA.symm)) hL
  have e6 := s6.at1 e5 aD.symm
  refine g_kList eL (wFor_list (xs := zs.map V.str) (fun i σ H => ∃ (rows : List Row) (v5 v6 : Option V), σ = [some (.ref a), some (.int n), some (.ref Ar), some (.int way), some (.ref D), v5, v6] ∧ rows.map (·.1) = zs.take i ∧ (∀ r ∈ rows, RowOk r) ∧
      (∃ vs, H D = some (.lst vs) ∧ Paired (rRow (hide [a, D] H)) vs rows) ∧ PotAt H a (c + 460 + 5 * i) ∧ Step [a] H3 H ∧ H L = some (.lst (zs.map V.str)) ∧ H Ar = some (.lst (ars.map V.str)))
    ⟨[], none, none, rfl, by simp, by simp, ⟨[], e6, .nil⟩, p6.mono (by omega), (s4.up.trans s5).trans s6, eL, eA6⟩ ?_ ?_ ?_)
  · rintro i σ H7 _ ⟨rows, v5, v6, rfl, h1, h2, h3, h4, h5, h6, h7⟩
    exact h6
  · rintro i x σ H7 hx ⟨rows, v5, v6, rfl, h1, h2, ⟨vs, h3, h3p⟩, h4, h5, h6, h7⟩
    rw [List.getElem?_map, Option.map_eq_some_iff] at hx
    obtain ⟨z, hz, rfl⟩ := hx
    have hi : i < zs.length := (List.getElem?_eq_some_iff.mp hz).1
    walk_at "go"
    refine go_pick h4 (by decide) (by decide) (by omega) fun q1 G1 q10 q11 t1 u1 => ?_
    walk_at "go"
    refine go_pick u1 (by decide) (by decide) (by omega) fun q2 G2 q20 q21 t2 u2 => ?_
    walk_at "go"
    refine go_pick u2 (by decide) (by decide) (by omega) fun q3 G3 q30 q31 t3 u3 => ?_
    walk_at "go"
    intro l G4 hl t4 el
    obtain ⟨m, hm, em⟩ := at4 (x0 := 1 + q1) (x1 := 1) (x2 := q2) (x3 := q3) w0 w1
    have hm1 : 0 ≤ m ∧ m ≤ 1000 := by omega
    have g7 := t4.at0 (t3.at1 (t2.at1 (t1.at1 h3 aD.symm) aD.symm) aD.symm)
    have f7 := t4.at0 (t3.at1 (t2.at1 (t1.at1 h7 aA.symm) aA.symm) aA.symm)
    walk_at "go"
    have hA0 : 0 < ars.length := List.length_pos_iff.mpr (nea (by omega))
    rw [List.length_map]
    refine go_pick (u3.step0 t4) (by omega) (by omega) (by omega) fun q4 G5 q40 q41 t5 u5 => ?_
    obtain ⟨zn, hzn, ezn⟩ := at_in (xs := ars) q40 q41
    have f8 := t5.at1 f7 aA.symm
    refine g_ixL f8 (at_int q40 (by rw [List.getElem?_map, hzn]; rfl)) ?_
    walk_at "go"
    intro t G6 ht t6 et
    have S : Step [a] H7 G6 := ((((t1.trans t2).trans t3).trans t4.up).trans t5).trans t6.up
    have d6 : G6 D = some (.lst vs) := S.at1 h3 aD.symm
    have lv : vs.length = i := by rw [P_len h3p, ← List.length_map (f := fun r : Row => r.1), h1, List.length_take]; omega
    walk_at "go"
    refine g_append d6 (ltLine (by omega)) fun G7 t7 et7 => ?_
    have ta : t ≠ a := (u5.ne ht).symm
    have tD : t ≠ D := fun e => by rw [e, d6] at et; cases et
    have tt : hide [a, D] G7 t = some (.tup [.str z, .str zn, .int m]) := hide_at (t7.at1 et tD) (by simp [ta, tD])
    refine ⟨rows ++ [(z, zn, m)], _, _, rfl, ?_, fun r hr => ?_, ⟨_, et7, P_snoc ⟨t, _, _, _, rfl, tt, rfl, rfl, rfl⟩ (Pmap h3p fun v x r => mRow _ _ _ _ ((S.mono (m' := [a, D]) (by simp)).le.trans (t7.hid (by simp))) r)⟩, ((u5.step0 t6).step1 t7 aD).mono (by omega), (h5.trans S).via t7 hD, ?_, ?_⟩
    · rw [List.map_append, h1, List.take_add_one, hz]; rfl
    · rcases List.mem_append.mp hr with hr | hr
      · exact h2 r hr
      · rw [List.mem_singleton.mp hr]
        exact ⟨nmz z (List.mem_of_getElem? hz), nma zn (List.mem_of_getElem? hzn), hm1.1, hm1.2⟩
    · exact t7.at1 (S.at1 h6 aL.symm) DL.symm
    · exact t7.at1 (S.at1 h7 aA.symm) DA
  · rintro σ H7 ⟨rows, v5, v6, rfl, h1, h2, ⟨vs, h3, h3p⟩, h4, h5, h6, h7⟩
    walk_at "go"
    have l1 : rows.map (·.1) = zs := by rw [h1, List.length_map, List.take_length]
    have l2 : rows.length = zs.length := by rw [← l1, List.length_map]
    refine q D rows H7 (s1.fresh (s2.fresh (s3.fresh hD))) (by omega) (by rw [l1]; exact nz) h2 (((s1.trans s2).trans s3).trans h5) ⟨D, vs, rfl, hide_at h3 (by simpa using aD.symm), Pmap h3p fun v x r => mRow _ _ _ _ (hide_sub (by simp)) r⟩ (h4.mono ?_)
    rw [List.length_map]
    omega
theorem ok_w_mixed (C : Ctx K mg) : Has P w K mg base CX0 2 "_law_mixed" ["pot", "some"] sp_w_mixed := by
  obtain ⟨fd, F⟩ := fn_w_mixed C
  obtain ⟨f_w_pick, fd_w_pick, G_w_pick, mg_w_pick, kp_w_pick, b_w_pick⟩ := (ok_w_pick (P := P) (w := w) (base := base) C).ex
  refine ⟨⟨_, fd, ?_, gl_w_mixed C, F.kp, F.bindsN fun _ _ _ _ _ _ us hl => match us, hl with | [_, _], _ => rfl⟩⟩
  refine F.ok (CX := CX0) sc_w_mixed (fun vs H Q E h => ?_) (fun cdv A outer s H vs Q E hr h => ?_)
  · first | (obtain ⟨_, rfl, _⟩ := h; rfl) | (obtain ⟨_, _, rfl, _⟩ := h; rfl) | (obtain ⟨_, _, _, rfl, _⟩ := h; rfl) | (obtain ⟨_, _, _, _, rfl, _⟩ := h; rfl) | (obtain ⟨_, _, _, _, _, rfl, _⟩ := h; rfl) | (obtain ⟨_, _, _, _, _, _, rfl, _⟩ := h; rfl) | (obtain ⟨_, _, _, _, _, _, _, rfl, _⟩ := h; rfl) | (obtain ⟨_, _, _, _, _, _, _, _, rfl, _⟩ := h; rfl) | (obtain ⟨_, _, _, _, _, _, _, _, _, rfl, _⟩ := h; rfl) | (obtain ⟨_, _, _, _, _, _, _, _, _, _, rfl, _⟩ := h; rfl) | (obtain ⟨_, _, _, _, _, _, _, _, _, _, _, rfl, _⟩ := h; rfl) | (obtain ⟨_, _, _, _, _, _, _, _, _, _, _, _, rfl, _⟩ := h; rfl)
  have hu := hu_of hr
  refine ⟨_, PSs.nox (pss_cons (ps_set (i := 2) sc_w_mixed.nd rfl (Or.inr rfl) (pe_callTy cr_listL (by rfl) (fr_list C) (by decide +kernel) (pa_cons (pv 1) pa_nil)))
    (pss_one (ps_ret (pe_lc (own := [("k", 3)]) (g := (gName 3)) (tt := tYes) rfl sc_w_mixed.nd (pi_range1 rfl (fr_range C) (pa_cons (pe_callB cr_lenL (by rfl) (fr_len C) PySem.boot_len (pa_cons (pv 1) pa_nil)) pa_nil)) (blkOk_by (N := N_w_mixed) (sc := defScope s_w_mixed) (own := [("k", 3)]) (by decide +kernel)) (fun _ _ _ _ _ => (pg_name (i := 3) sc_w_mixed.nd rfl (Or.inl rfl))) (fun _ _ _ _ _ => pts_nil) (fun _ _ _ _ _ => (pe_bmK (K := K) (pe_bm PySem.F.plainAttrs_list PySem.F.slot_list_pop PySem.F.type_list_pop mt_popAt (pv 2) (pa_cons (pe_call G_w_pick (hr.mono (by decide)) rfl mg_w_pick kp_w_pick b_w_pick .nil pass0 (pa_cons (pv 0) (pa_cons (pe_callB (kCall (K := K) (r := rLenL) cr_lenL) (by rfl) (fr_len C) PySem.boot_len (pa_cons (pv 2) pa_nil)) pa_nil))) pa_nil)))))))), ?_⟩
  obtain ⟨a, l, xs, c, rfl, hl, hz, hp, hc, q⟩ := h
  walk_at "go"
  refine g_listL hl fun lf H1 hlf s1 e1 => ?_
  have alf : a ≠ lf := hp.ne hlf
  walk_at "go"
  have l1 := s1.at0 hl
  walk_at "go"
  refine g_kRng1 (by omega) (by omega) ?_
  refine wLc_rng fun D H2 hD s2 e2 => ?_
  have p1 := hp.step0 s1
  have aD : a ≠ D := p1.ne hD
  have lD : lf ≠ D := ne_of_none e1 hD
  refine ⟨fun i H => ∃ ys zs : List V, H D = some (.lst ys) ∧ H lf = some (.lst zs) ∧ (ys ++ zs).Perm xs ∧ ys.length = i ∧ PotAt H a (c + i) ∧ Step [a, lf] H1 H, ⟨[], xs, e2, s2.at0 e1, List.Perm.refl _, rfl, p1.step0 s2, s2.up⟩, ?_, ?_⟩
  · rintro i H3 hi ⟨ys, zs, h1, h2, h3, h4, h5, h6⟩
    have hlen := h3.length_eq
    rw [List.length_append] at hlen
    have hi : i < xs.length := by omega
    walk_at "go"
    refine go_pick h5 (by omega) (by omega) (by omega) fun r H4 r0 r1 s4 p4 => ?_
    have lt : r.toNat < zs.length := by omega
    refine g_popAt (k := r.toNat) (s4.at1 h2 alf.symm) (by omega) (by omega) (seqIx_in r0 r1) (List.getElem?_eq_getElem lt) fun H5 s5 e5 => ?_
    have d5 := s5.at1 (s4.at1 h1 aD.symm) lD.symm
    refine g_kEl d5 (ltLine (by omega)) fun H6 s6 e6 => ?_
    refine ⟨_, _, e6, s6.at1 e5 lD, ?_, by simp [h4], ((p4.step1 s5 alf).step1 s6 aD).mono (by omega), ((h6.trans (s4.sub1 _ (by simp))).trans (s5.sub1 _ (by simp))).via s6 hD⟩
    refine List.Perm.trans ?_ h3
    rw [List.append_assoc]
    exact List.Perm.append_left _ (erase_perm lt)
  · rintro H3 ⟨ys, zs, h1, h2, h3, h4, h5, h6⟩
    have hlen := h3.length_eq
    rw [List.length_append] at hlen
    have hz0 : zs = [] := List.length_eq_zero_iff.mp (by omega)
    rw [hz0, List.append_nil] at h3
    exact q D ys H3 (s1.fresh hD) h3 ((s1.up.trans h6).drop2 hlf) h1 (h5.mono (by omega))
end
section
variable {P : Program} {w : World} {K : PySem.W.Frag} {mg : Str → Option Value} {base : Heap}
theorem ok_w_tickets (C : Ctx K mg) : Has P w K mg base CX0 3 "_law_tickets" ["pot", "many"] sp_w_tickets := by
  obtain ⟨fd, F⟩ := fn_w_tickets C
  obtain ⟨f_w_pick, fd_w_pick, G_w_pick, mg_w_pick, kp_w_pick, b_w_pick⟩ := (ok_w_pick (P := P) (w := w) (base := base) C).ex
  obtain ⟨f_w_mixed, fd_w_mixed, G_w_mixed, mg_w_mixed, kp_w_mixed, b_w_mixed⟩ := (ok_w_mixed (P := P) (w := w) (base := base) C).ex
  refine ⟨⟨_, fd, ?_, gl_w_tickets C, F.kp, F.bindsN fun _ _ _ _ _ _ us hl => match us, hl with | [_, _], _ => rfl⟩⟩
  refine F.ok (CX := CX0) sc_w_tickets (fun vs H Q E h => ?_) (fun cdv A outer s H vs Q E hr h => ?_)
  · first | (obtain ⟨_, rfl, _⟩ := h; rfl) | (obtain ⟨_, _, rfl, _⟩ := h; rfl) | (obtain ⟨_, _, _, rfl, _⟩ := h; rfl) | (obtain ⟨_, _, _, _, rfl, _⟩ := h; rfl) | (obtain ⟨_, _, _, _, _, rfl, _⟩ := h; rfl) | (obtain ⟨_, _, _, _, _, _, rfl, _⟩ := h; rfl) | (obtain ⟨_, _, _, _, _, _, _, rfl, _⟩ := h; rfl) | (obtain ⟨_, _, _, _, _, _, _, _, rfl, _⟩ := h; rfl) | (obtain ⟨_, _, _, _, _, _, _, _, _, rfl, _⟩ := h; rfl) | (obtain ⟨_, _, _, _, _, _, _, _, _, _, rfl, _⟩ := h; rfl) | (obtain ⟨_, _, _, _, _, _, _, _, _, _, _, rfl, _⟩ := h; rfl) | (obtain ⟨_, _, _, _, _, _, _, _, _, _, _, _, rfl, _⟩ := h; rfl)
  have hu := hu_of hr
  refine ⟨_, PSs.nox (pss_cons (ps_set (i := 2) sc_w_tickets.nd rfl (Or.inl rfl) (pe_ix ix_list (pe_lst (pa_cons pe_int (pa_cons pe_int (pa_cons pe_int (pa_cons (pe_op op_powP pe_int pe_int) pa_nil))))) (pe_call G_w_pick (hr.mono (by decide)) rfl mg_w_pick kp_w_pick b_w_pick .nil pass0 (pa_cons (pv 0) (pa_cons pe_int pa_nil))) (fun _ _ => rfl)))
    (pss_cons (ps_set (i := 3) sc_w_tickets.nd rfl (Or.inl rfl) (pe_call G_w_pick (hr.mono (by decide)) rfl mg_w_pick kp_w_pick b_w_pick .nil pass0 (pa_cons (pv 0) (pa_cons pe_int pa_nil))))
    (pss_cons (ps_set (i := 4) sc_w_tickets.nd rfl (Or.inl rfl) (pe_lst pa_nil))
    (pss_cons (ps_for PassesOwn.never rfl (pi_range1 rfl (fr_range C) (pa_cons (pv 1) pa_nil)) (pg_name (i := 5) sc_w_tickets.nd rfl (Or.inl rfl))
    (pss_cons (ps_expr (pe_bm PySem.F.plainAttrs_list PySem.F.slot_list_append PySem.F.type_list_append mt_append (pv 4) (pa_cons (pv 3) pa_nil)))
    (pss_one (ps_set (i := 3) sc_w_tickets.nd rfl (Or.inl rfl) (pe_op op_add (pe_op op_add (pv 3) pe_int) (pe_call G_w_pick (hr.mono (by decide)) rfl mg_w_pick kp_w_pick b_w_pick .nil pass0 (pa_cons (pv 0) (pa_cons (pv 2) pa_nil))))))))
    (pss_one (ps_ret (pe_call G_w_mixed (hr.mono (by decide)) rfl mg_w_mixed kp_w_mixed b_w_mixed .nil pass0 (pa_cons (pv 0) (pa_cons (pv 4) pa_nil))))))))), ?_⟩
  obtain ⟨a, n, c, rfl, hn0, hn1, hp, hc, q⟩ := h
  have ea : (10 : Int) ^ Int.toNat 30 = 1000000000000000000000000000000 := by decide
  walk_at "go"
  intro l H0 hl s0 e0
  rw [ea] at e0
  have la : l ≠ a := (hp.ne hl).symm
  walk_at "go"
  refine go_pick (hp.step0 s0) (by decide) (by decide) (by omega) fun r1 H1 r10 r11 s1 p1 => ?_
  obtain ⟨wd, hw, ew⟩ := at4 (x0 := 1) (x1 := 1) (x2 := 40) (x3 := 1000000000000000000000000000000) r10 r11
  refine g_ixL (s1.at1 e0 la) ew ?_
  have hw1 : 1 ≤ wd ∧ wd ≤ 1000000000000000000000000000000 := by omega
  walk_at "go"
  refine go_pick p1 (by decide) (by decide) (by omega) fun r2 H2 r20 r21 s2 p2 => ?_
  walk_at "go"
  intro D H3 hD s3 e3
  have aD : a ≠ D := p2.ne hD
  walk_at "go"
  refine g_kRng1 (by omega) (by omega) ?_
  refine wFor_rng (fun i σ H => ∃ (ns : List Int) (z : Int) (v5 : Option V), σ = [some (.ref a), some (.int n), some (.int wd), some (.int z), some (.ref D), v5] ∧ ns.length = i ∧ ns.Nodup ∧ (∀ y ∈ ns, 0 ≤ y ∧ y < z) ∧
      0 ≤ z ∧ z ≤ 3 + 1000000000000000000000000000001 * (i : Int) ∧ H D = some (.lst (ns.map V.int)) ∧ PotAt H a (c + 2 + i) ∧ Step [a] H2 H) ⟨[], r2, none, rfl, rfl, List.nodup_nil, by simp, r20, by omega, e3, p2.step0 s3, s3.up⟩ ?_ ?_
  · rintro i σ H4 hi ⟨ns, z, v5, rfl, h1, h2, h3, h4, h5, h6, h7, h8⟩
    walk_at "go"
    refine g_append h6 (ltLine (by rw [List.length_map]; omega)) fun H5 s5 e5 => ?_
    walk_at "go"
    refine go_pick (h7.step1 s5 aD) (by omega) (by omega) (by omega) fun r3 H6 r30 r31 s6 p6 => ?_
    walk_at "go"
    refine ⟨ns ++ [z], _, _, rfl, by simp [h1], nd_snoc h2 fun hz => ?_, fun y hy => ?_, by omega, by omega, ?_, p6.mono (by omega), (h8.via s5 hD).trans s6⟩
    · have := h3 z hz
      omega
    · rcases List.mem_append.mp hy with hy | hy
      · have := h3 y hy
        omega
      · rw [List.mem_singleton.mp hy]
        omega
    · rw [s6.at1 e5 aD.symm, List.map_append]; rfl
  · rintro σ H4 ⟨ns, z, v5, rfl, h1, h2, h3, h4, h5, h6, h7, h8⟩
    walk_at "go"
    refine ⟨a, D, _, _, rfl, h6, by rw [List.length_map]; omega, h7, by omega, fun D2 ys H5 hD2 hp2 s5 e5 p5 => ?_⟩
    obtain ⟨ns2, hn2, rfl⟩ := perm_ints hp2
    have ll := hn2.length_eq
    refine q D2 ns2 H5 (s0.fresh (s1.fresh (s2.fresh (h8.fresh hD2)))) (by omega) ((List.Perm.nodup_iff hn2).mpr h2) (fun y hy => ?_) ((((s0.up.trans s1).trans s2).trans h8).trans s5) e5 (p5.mono (by rw [List.length_map]; omega))
    have := h3 y (hn2.mem_iff.mp hy)
    omega
end

end My
namespace My
open PySem PySem.Spec PyProof.Rows L2
/-! homes, tables, copies -/
def cand : List Str := (cs ("abcdefghij" : Str)).map fun c => ("zzzzzzz" : Str) ++ (⟨#[c]⟩ : Str)
theorem cand_nd : cand.Nodup := by decide +kernel
theorem cand_len : cand.length = 10 := by decide +kernel
theorem cand_nm : ∀ z ∈ cand, IsNm z := by
  have h : ∀ z ∈ cand, 1 ≤ z.length ∧ z.length ≤ 8 ∧ ∀ c ∈ cs z, 97 ≤ c ∧ c ≤ 122 := by decide +kernel
  exact fun z hz => ⟨(h z hz).1, (h z hz).2.1, (h z hz).2.2⟩
def sp_w_homes : Sp := fun vs H Q _ => ∃ (a R : Addr) (rows : List Row) (n : Int) (c : Nat), vs = [.ref a, .ref R, .int n] ∧ rL rRow (hide [a] H) (.ref R) rows ∧ (∀ r ∈ rows, RowOk r) ∧ (rows.map (·.1)).Nodup ∧ rows.length ≤ 30 ∧ 0 ≤ n ∧ n ≤ 10 ∧ PotAt H a c ∧ c < 2 ^ 57 ∧
  ∀ D (hs : List Str) H', H D = none → (hs.length : Int) = n → hs.Nodup → (∀ z ∈ hs, IsNm z) → Step [a] H H' → H' D = some (.lst (hs.map V.str)) → PotAt H' a (c + 100) → Q (.ref D) H'
section
variable {P : Program} {w : World} {K : PySem.W.Frag} {mg : Str → Option Value} {base : Heap}
theorem ok_w_homes (C : Ctx K mg) : Has P w K mg base CX0 3 "_law_homes" ["pot", "rows", "size"] sp_w_homes := by
  obtain ⟨fd, F⟩ := fn_w_homes C
  obtain ⟨f_w_pick, fd_w_pick, G_w_pick, mg_w_pick, kp_w_pick, b_w_pick⟩ := (ok_w_pick (P := P) (w := w) (base := base) C).ex
  obtain ⟨f_w_mixed, fd_w_mixed, G_w_mixed, mg_w_mixed, kp_w_mixed, b_w_mixed⟩ := (ok_w_mixed (P := P) (w := w) (base := base) C).ex
  refine ⟨⟨_, fd, ?_, gl_w_homes C, F.kp, F.bindsN fun _ _ _ _ _ _ us hl => match us, hl with | [_, _, _], _ => rfl⟩⟩
  refine F.ok (CX := CX0) sc_w_homes (fun vs H Q E h => ?_) (fun cdv A outer s H vs Q E hr h => ?_)
  · first | (obtain ⟨_, rfl, _⟩ := h; rfl) | (obtain ⟨_, _, rfl, _⟩ := h; rfl) | (obtain ⟨_, _, _, rfl, _⟩ := h; rfl) | (obtain ⟨_, _, _, _, rfl, _⟩ := h; rfl) | (obtain ⟨_, _, _, _, _, rfl, _⟩ := h; rfl) | (obtain ⟨_, _, _, _, _, _, rfl, _⟩ := h; rfl) | (obtain ⟨_, _, _, _, _, _, _, rfl, _⟩ := h; rfl) | (obtain ⟨_, _, _, _, _, _, _, _, rfl, _⟩ := h; rfl) | (obtain ⟨_, _, _, _, _, _, _, _, _, rfl, _⟩ := h; rfl) | (obtain ⟨_, _, _, _, _, _, _, _, _, _, rfl, _⟩ := h; rfl) | (obtain ⟨_, _, _, _, _, _, _, _, _, _, _, rfl, _⟩ := h; rfl) | (obtain ⟨_, _, _, _, _, _, _, _, _, _, _, _, rfl, _⟩ := h; rfl)
  have hu := hu_of hr
  refine ⟨_, PSs.nox (pss_cons (ps_setLc (i := 3) (own := [("row", 5)]) (g := (gName 5)) (tt := tYes) rfl sc_w_homes.nd rfl rfl (sw_true rfl rfl rfl (by decide +kernel)) (pi_list (pv 1)) (blkOk_by (N := N_w_homes) (sc := defScope s_w_homes) (own := [("row", 5)]) (by decide +kernel)) (fun _ _ _ _ _ => (pg_name (i := 5) sc_w_homes.nd rfl (Or.inl rfl))) (fun _ _ _ _ _ => pts_nil) (fun _ _ _ _ _ => (pe_ix (kIx (K := K) (r := rIxT) ix_tup) (pv 5) pe_int (fun _ _ => rfl))))
    (pss_cons (ps_for PassesOwn.never rfl (pi_list (pe_lc (own := [("letter", 6)]) (g := (gName 6)) (tt := tYes) rfl sc_w_homes.nd (pi_str pe_str) (blkOk_by (N := N_w_homes) (sc := defScope s_w_homes) (own := [("letter", 6)]) (by decide +kernel)) (fun _ _ _ _ _ => (pg_name (i := 6) sc_w_homes.nd rfl (Or.inl rfl))) (fun _ _ _ _ _ => pts_nil) (fun _ _ _ _ _ => (pe_op op_addS pe_str (pv 6))))) (pg_name (i := 4) sc_w_homes.nd rfl (Or.inl rfl))
    (pss_one (ps_if (pt_cut (PW.pt (pw_and (pt_cmpR op_notIn_seq (pv 4) (pv 3) (by rfl)) (pw_and1 (pt_cut (PW.pt (pw_or (pt_cmpR op_lt (pe_callB cr_lenL (by rfl) (fr_len C) PySem.boot_len (pa_cons (pv 3) pa_nil)) (pv 2) (nomark _)) (pw_or1 (pt_cmpR op_eq (pe_call G_w_pick (hr.mono (by decide)) rfl mg_w_pick kp_w_pick b_w_pick .nil pass0 (pa_cons (pv 0) (pa_cons pe_int pa_nil))) pe_int (nomark _)))))))))) (pss_one (ps_expr (pe_bm PySem.F.plainAttrs_list PySem.F.slot_list_append PySem.F.type_list_append mt_append (pv 3) (pa_cons (pv 4) pa_nil)))) pss_nil)))
    (pss_one (ps_ret (pe_slice sl_list (pe_call G_w_mixed (hr.mono (by decide)) rfl mg_w_mixed kp_w_mixed b_w_mixed .nil pass0 (pa_cons (pv 0) (pa_cons (pv 3) pa_nil))) po_none (po_some (pv 2))))))), ?_⟩
  obtain ⟨a, R, rows, n, c, rfl, hR, hok, hnd, hlr, hn0, hn1, hp, hc, q⟩ := h
  obtain ⟨_, rvs, ⟨⟩, hR1, hRp⟩ := id hR
  have hR2 := hide_le _ _ hR1
  have Ra : R ≠ a := fun e => by rw [e, hide_in (by simp)] at hR1; cases hR1
  walk_at "go"
  refine wLc_list (xs := rvs) fun Po H1 hPo s1 e1 => ?_
  have aP : a ≠ Po := hp.ne hPo
  have RP : R ≠ Po := ne_of_none hR2 hPo
  refine ⟨fun i H' => H' Po = some (.lst (((rows.map (·.1)).take i).map V.str)) ∧ Step [] H H', ⟨e1, s1⟩, fun i H' _ h => h.2.at0 hR2, ?_, ?_⟩
  · rintro i x H2 hx ⟨h1, h2⟩
    obtain ⟨r, hr, t, u1, u2, u3, rfl, ht, rfl, rfl, rfl⟩ := P_get hRp hx
    have ht2 := h2.at0 (hide_le _ _ ht)
    walk_at "go"
    refine g_kEl h1 (ltLine (by rw [List.length_map, List.length_take, List.length_map]; omega)) fun H3 s3 e3 => ⟨?_, h2.via s3 hPo⟩
    rw [e3, List.take_add_one, List.getElem?_map, hr, List.map_append]
    rfl
  · rintro H2 ⟨h1, h2⟩
    have el : rvs.length = (rows.map (·.1)).length := by rw [P_len hRp, List.length_map]
    rw [el, List.take_length] at h1
    walk_at "go"
    refine wLc_str fun Ca H3 hCa s3 e3 => ?_
    have PC : Po ≠ Ca := ne_of_none h1 hCa
    have aC : a ≠ Ca := (hp.step0 h2).ne hCa
    refine ⟨fun i H' => H' Ca = some (.lst ((cand.take i).map V.str)) ∧ Step [] H2 H', ⟨e3, s3⟩, ?_, ?_⟩
    · rintro i ch H4 hch ⟨h3, h4⟩
      walk_at "go"
      have lz : ("zzzzzzz" : Str).length = 7 := by decide +kernel
      refine g_addS (leLine (by rw [len_one, lz]; omega)) ?_
      refine g_kEl h3 (ltLine (by rw [List.length_map, List.length_take, cand_len]; omega)) fun H5 s5 e5 => ⟨?_, h4.via s5 hCa⟩
      have ec : cand[i]? = some (("zzzzzzz" : Str) ++ (⟨#[ch]⟩ : Str)) := by
        unfold cand
        rw [List.getElem?_map, show (cs ("abcdefghij" : Str))[i]? = some ch by rw [← hch]; simp [cs]]
        rfl
      rw [e5, List.take_add_one, ec, List.map_append]
      rfl
    · rintro H4 ⟨h3, h4⟩
      have l10 : (("abcdefghij" : Str).cps).size = 10 := by decide +kernel
      rw [l10, List.take_of_length_le (by rw [cand_len]; exact Nat.le_refl _)] at h3
      walk_at "go"
      have p4 := hp.step0 (h2.trans h4)
      refine wFor_list (xs := cand.map V.str) (fun i σ H' => ∃ (po : List Str) (v4 v5 v6 : Option V), σ = [some (.ref a), some (.ref R), some (.int n), some (.ref Po), v4, v5, v6] ∧ po.Nodup ∧ (∀ z ∈ po, IsNm z) ∧ po.length ≤ 30 + i ∧
        (n ≤ (po.length : Int) ∨ ∀ z ∈ cand.take i, z ∈ po) ∧ H' Po = some (.lst (po.map V.str)) ∧ H' Ca = some (.lst (cand.map V.str)) ∧ PotAt H' a (c + i) ∧ Step [a] H H')
        ⟨rows.map (·.1), _, _, _, rfl, hnd, fun z hz => ?_, by rw [List.length_map]; omega, .inr (by simp), h4.at0 h1, h3, p4, (h2.trans h4).up⟩ ?_ ?_ ?_
      · obtain ⟨r, hr, rfl⟩ := List.mem_map.mp hz
        exact (hok r hr).nm
      · rintro i σ H5 _ ⟨po, v4, v5, v6, rfl, g1, g2, g3, g4, g5, g6, g7, g8⟩
        exact g6
      · rintro i x σ H5 hx ⟨po, v4, v5, v6, rfl, g1, g2, g3, g4, g5, g6, g7, g8⟩
        rw [List.getElem?_map, Option.map_eq_some_iff] at hx
        obtain ⟨z, hz, rfl⟩ := hx
        have hi10 : i < 10 := by rw [← cand_len]; exact (List.getElem?_eq_some_iff.mp hz).1
        walk_at "go"
        refine g_tcut (fun b H' => (b = true → z ∉ po) ∧ (b = false → z ∈ po ∨ n ≤ (po.length : Int)) ∧ H' Po = some (.lst (po.map V.str)) ∧ H' Ca = some (.lst (cand.map V.str)) ∧ PotAt H' a (c + (i + 1)) ∧ Step [a] H H') ?_ ?_
        · walk_at "go"
          refine g_notInS g5 ?_
          walk_at "go"
          refine g_iteN (fun hz1 => ?_) (fun hz1 => ?_)
          · refine g_tcut (fun b H' => (b = false → n ≤ (po.length : Int)) ∧ H' Po = some (.lst (po.map V.str)) ∧ H' Ca = some (.lst (cand.map V.str)) ∧ PotAt H' a (c + (i + 1)) ∧ Step [a] H H') ?_ ?_
            · walk_at "go"
              rw [List.length_map]
              refine g_ite (fun hl => ?_) (fun hl => ?_)
              · exact ⟨fun q => (nomatch q), g5, g6, g7.mono (by omega), g8⟩
              · walk_at "go"
                refine go_pick g7 (by decide) (by decide) (by omega) fun r1 H6 r10 r11 s6 p6 => ?_
                walk_at "go"
                exact ⟨fun _ => by omega, s6.at1 g5 aP.symm, s6.at1 g6 aC.symm, p6, g8.trans s6⟩
            · rintro b H6 ⟨k1, k2, k3, k4, k5⟩
              exact ⟨fun _ => hz1, fun hb => .inr (k1 hb), k2, k3, k4, k5⟩
          · exact ⟨fun q => (nomatch q), fun _ => .inl hz1, g5, g6, g7.mono (by omega), g8⟩
        · rintro b H6 ⟨k1, k2, k3, k4, k5, k6⟩
          refine g_iteB (fun hb => ?_) (fun hb => ?_)
          · walk_at "go"
            refine g_append k3 (ltLine (by rw [List.length_map]; omega)) fun H7 s7 e7 => ?_
            refine ⟨po ++ [z], _, _, _, rfl, nd_snoc g1 (k1 hb), fun y hy => ?_, by rw [List.length_append]; simp; omega, ?_, by rw [e7, List.map_append]; rfl, s7.at1 k4 PC.symm, k5.step1 s7 aP, k6.via s7 hPo⟩
            · rcases List.mem_append.mp hy with hy | hy
              · exact g2 y hy
              · rw [List.mem_singleton.mp hy]
                exact cand_nm z (List.mem_of_getElem? hz)
            · rcases g4 with g4 | g4
              · exact .inl (by rw [List.length_append]; simp; omega)
              · refine .inr fun y hy => ?_
                rw [List.take_add_one, hz] at hy
                rcases List.mem_append.mp hy with hy | hy
                · exact List.mem_append_left _ (g4 y hy)
                · exact List.mem_append_right _ hy
          · walk_at "go"
            refine ⟨po, _, _, _, rfl, g1, g2, by omega, ?_, k3, k4, k5, k6⟩
            rcases k2 hb with k2 | k2
            · rcases g4 with g4 | g4
              · exact .inl g4
              · refine .inr fun y hy => ?_
                rw [List.take_add_one, hz] at hy
                rcases List.mem_append.mp hy with hy | hy
                · exact g4 y hy
                · have : y = z := by simpa using hy
                  rw [this]; exact k2
            · exact .inl k2
      · rintro σ H5 ⟨po, v4, v5, v6, rfl, g1, g2, g3, g4, g5, g6, g7, g8⟩
        rw [List.length_map, cand_len] at g3 g4 g7
        have hpl : n ≤ (po.length : Int) := by
          rcases g4 with g4 | g4
          · exact g4
          · rw [List.take_of_length_le (by rw [cand_len]; exact Nat.le_refl _)] at g4
            have := sub_len cand_nd g4
            rw [cand_len] at this
            omega
        walk_at "go"
        refine ⟨a, Po, _, _, rfl, g5, by rw [List.length_map]; omega, g7, by omega, fun D ys H6 hD hp6 s6 e6 p6 => ?_⟩
        obtain ⟨zs, hz, rfl⟩ := perm_strs hp6
        have ll := hz.length_eq
        walk_at "go"
        refine g_slL e6 fun D2 H7 hD2 s7 e7 => ?_
        rw [cutV_to hn0, ← List.map_take] at e7
        refine q D2 (zs.take n.toNat) H7 (g8.fresh (s6.fresh hD2)) (by rw [List.length_take]; omega) ((hz.nodup_iff.mpr g1).sublist (List.take_sublist _ _)) (fun z hzz => g2 z (hz.mem_iff.mp (List.mem_of_mem_take hzz))) ((g8.trans s6).trans s7.up) e7 ((p6.step0 s7).mono (by rw [List.length_map]; omega))
end

end My
namespace My
open PySem PySem.Spec PyProof.Rows L2
/-! tables -/
abbrev Tb := List (Int × List Str)
abbrev rTb : Rp Tb := rDI (rL rS)
theorem mTb : Mono rTb := mDI (mL mS)
structure TbOk (xs : Tb) : Prop where
  nd : (xs.map (·.1)).Nodup
  nm : ∀ p ∈ xs, p.2.Nodup ∧ (∀ z ∈ p.2, IsNm z) ∧ 1 ≤ p.2.length ∧ p.2.length ≤ 10
  len : xs.length ≤ 12
/-- a table whose lists are one's own: the ticket, where its list stands, the list -/
structure TabAt (H : Hp) (D : Addr) (ts : List (Int × Addr × List Str)) : Prop where
  dk : H D = some (.dK (ts.map fun t => (Sum.inl t.1, V.ref t.2.1)))
  ls : ∀ t ∈ ts, H t.2.1 = some (.lst (t.2.2.map V.str))
def tbOf (ts : List (Int × Addr × List Str)) : Tb := ts.map fun t => (t.1, t.2.2)
theorem TabAt.rp {H : Hp} {D : Addr} {ts : List (Int × Addr × List Str)} (h : TabAt H D ts) : rTb H (.ref D) (tbOf ts) := by
  refine ⟨D, _, rfl, h.dk, ?_⟩
  have key : ∀ l : List (Int × Addr × List Str), (∀ t ∈ l, H t.2.1 = some (.lst (t.2.2.map V.str))) →
      Paired (fun (p : Key × V) (x : Int × List Str) => p.1 = Sum.inl x.1 ∧ rL rS H p.2 x.2) (l.map fun t => ((Sum.inl t.1 : Key), V.ref t.2.1)) (l.map fun t => (t.1, t.2.2)) := by
    intro l
    induction l with
    | nil => intro _; exact .nil
    | cons t r ih => exact fun hl => .cons ⟨rfl, rLS_of (hl t (List.mem_cons_self ..))⟩ (ih fun u hu => hl u (List.mem_cons_of_mem _ hu))
  exact key ts h.ls
theorem TabAt.step0 {H H' : Hp} {D : Addr} {ts : List (Int × Addr × List Str)} (h : TabAt H D ts) (s : Step [] H H') : TabAt H' D ts := ⟨s.at0 h.dk, fun t ht => s.at0 (h.ls t ht)⟩
theorem TabAt.step {H H' : Hp} {D : Addr} {m : List Addr} {ts : List (Int × Addr × List Str)} (h : TabAt H D ts) (s : Step m H H') (hD : D ∉ m) (hl : ∀ t ∈ ts, t.2.1 ∉ m) : TabAt H' D ts := ⟨s.keep _ _ hD h.dk, fun t ht => s.keep _ _ (hl t ht) (h.ls t ht)⟩
theorem find_new {β : Type} : ∀ {kvs : List (Key × V)} {xs : List (Int × β)} {q : V → β → Prop} {i : Int}, Paired (fun (p : Key × V) (x : Int × β) => p.1 = Sum.inl x.1 ∧ q p.2 x.2) kvs xs → i ∉ xs.map (·.1) → valV kvs (Sum.inl i) = none
  | _, _, _, _, .nil, _ => rfl
  | (k, v) :: _, (j, x) :: _, q, i, .cons h t, hi => by
    have h1 : k = Sum.inl j := h.1
    rw [List.map_cons, List.mem_cons] at hi
    rw [valV_neg (by rw [h1]; exact fun z => hi (.inl (Sum.inl.inj z).symm))]
    exact find_new t fun z => hi (.inr z)
def sp_w_table : Sp := fun vs H Q _ => ∃ (a R : Addr) (rows : List Row) (n : Int) (c : Nat), vs = [.ref a, .ref R, .int n] ∧ rL rRow (hide [a] H) (.ref R) rows ∧ (∀ r ∈ rows, RowOk r) ∧ (rows.map (·.1)).Nodup ∧ rows.length ≤ 30 ∧ 0 ≤ n ∧ n ≤ 12 ∧ PotAt H a c ∧ c < 2 ^ 56 ∧
  ∀ D (xs : Tb) H', H D = none → TbOk xs → (xs.length : Int) ≤ n → Step [a] H H' → rTb (hide [a] H') (.ref D) xs → PotAt H' a (c + 2000) → Q (.ref D) H'
def sp_w_copy : Sp := fun vs H Q _ => ∃ (S : Addr) (xs : Tb), vs = [.ref S] ∧ rTb H (.ref S) xs ∧ (xs.map (·.1)).Nodup ∧ xs.length ≤ 1000 ∧
  ∀ D (ts : List (Int × Addr × List Str)) H', H D = none → (∀ t ∈ ts, H t.2.1 = none) → (ts.map (·.2.1)).Nodup → tbOf ts = xs → Step [] H H' → TabAt H' D ts → Q (.ref D) H'
section
variable {P : Program} {w : World} {K : PySem.W.Frag} {mg : Str → Option Value} {base : Heap}
theorem ok_w_table (C : Ctx K mg) : Has P w K mg base CX0 4 "_law_table" ["pot", "rows", "most"] sp_w_table := by
  obtain ⟨fd, F⟩ := fn_w_table C
  obtain ⟨f_w_tickets, fd_w_tickets, G_w_tickets, mg_w_tickets, kp_w_tickets, b_w_tickets⟩ := (ok_w_tickets (P := P) (w := w) (base := base) C).ex
  obtain ⟨f_w_pick, fd_w_pick, G_w_pick, mg_w_pick, kp_w_pick, b_w_pick⟩ := (ok_w_pick (P := P) (w := w) (base := base) C).ex
  obtain ⟨f_w_homes, fd_w_homes, G_w_homes, mg_w_homes, kp_w_homes, b_w_homes⟩ := (ok_w_homes (P := P) (w := w) (base := base) C).ex
  refine ⟨⟨_, fd, ?_, gl_w_table C, F.kp, F.bindsN fun _ _ _ _ _ _ us hl => match us, hl with | [_, _, _], _ => rfl⟩⟩
  refine F.ok (CX := CX0) sc_w_table (fun vs H Q E h => ?_) (fun cdv A outer s H vs Q E hr h => ?_)
  · first | (obtain ⟨_, rfl, _⟩ := h; rfl) | (obtain ⟨_, _, rfl, _⟩ := h; rfl) | (obtain ⟨_, _, _, rfl, _⟩ := h; rfl) | (obtain ⟨_, _, _, _, rfl, _⟩ := h; rfl) | (obtain ⟨_, _, _, _, _, rfl, _⟩ := h; rfl) | (obtain ⟨_, _, _, _, _, _, rfl, _⟩ := h; rfl) | (obtain ⟨_, _, _, _, _, _, _, rfl, _⟩ := h; rfl) | (obtain ⟨_, _, _, _, _, _, _, _, rfl, _⟩ := h; rfl) | (obtain ⟨_, _, _, _, _, _, _, _, _, rfl, _⟩ := h; rfl) | (obtain ⟨_, _, _, _, _, _, _, _, _, _, rfl, _⟩ := h; rfl) | (obtain ⟨_, _, _, _, _, _, _, _, _, _, _, rfl, _⟩ := h; rfl) | (obtain ⟨_, _, _, _, _, _, _, _, _, _, _, _, rfl, _⟩ := h; rfl)
  have hu := hu_of hr
  refine ⟨_, PSs.nox (pss_cons (ps_set (i := 3) sc_w_table.nd rfl (Or.inl rfl) pe_dnewK)
    (pss_cons (ps_for PassesOwn.never rfl (pi_list (pe_call G_w_tickets (hr.mono (by decide)) rfl mg_w_tickets kp_w_tickets b_w_tickets .nil pass0 (pa_cons (pv 0) (pa_cons (pe_call G_w_pick (hr.mono (by decide)) rfl mg_w_pick kp_w_pick b_w_pick .nil pass0 (pa_cons (pv 0) (pa_cons (pe_op op_add (pv 2) pe_int) pa_nil))) pa_nil)))) (pg_name (i := 4) sc_w_table.nd rfl (Or.inl rfl))
    (pss_one (ps_dput hu (pv 3) (pv 4) (pe_call G_w_homes (hr.mono (by decide)) rfl mg_w_homes kp_w_homes b_w_homes .nil pass0 (pa_cons (pv 0) (pa_cons (pv 1) (pa_cons (pe_op op_add pe_int (pe_call G_w_pick (hr.mono (by decide)) rfl mg_w_pick kp_w_pick b_w_pick .nil pass0 (pa_cons (pv 0) (pa_cons (pe_ix ix_list (pe_lst (pa_cons pe_int (pa_cons pe_int pa_nil))) (pe_op op_divP (pe_call G_w_pick (hr.mono (by decide)) rfl mg_w_pick kp_w_pick b_w_pick .nil pass0 (pa_cons (pv 0) (pa_cons pe_int pa_nil))) pe_int) (fun _ _ => rfl)) pa_nil)))) pa_nil)))) rfl)))
    (pss_one (ps_ret (pv 3))))), ?_⟩
  obtain ⟨a, R, rows, n, c, rfl, hR, hok, hnd, hlr, hn0, hn1, hp, hc, q⟩ := h
  obtain ⟨_, rvs, ⟨⟩, hR1, hRp⟩ := id hR
  have hR2 := hide_le _ _ hR1
  have Ra : R ≠ a := fun e => by rw [e, hide_in (by simp)] at hR1; cases hR1
  walk_at "go"
  refine g_dnewK fun D H1 hD s1 e1 => ?_
  have aD : a ≠ D := hp.ne hD
  have RD : R ≠ D := ne_of_none hR2 hD
  walk_at "go"
  refine go_pick (hp.step0 s1) (by omega) (by omega) (by omega) fun r1 H2 r10 r11 s2 p2 => ?_
  walk_at "go"
  refine ⟨a, _, _, rfl, by omega, by omega, p2, by omega, fun L ns H3 hL ln nn nb s3 eL p3 => ?_⟩
  have aL : a ≠ L := p2.ne hL
  have DL : D ≠ L := ne_of_none (s2.at1 e1 aD.symm) hL
  have RL : R ≠ L := ne_of_none (s2.at1 (s1.at0 hR2) Ra) hL
  refine g_kList eL (wFor_list (xs := ns.map V.int) (fun i σ H' => ∃ (xs : Tb) (kvs : List (Key × V)) (v4 : Option V), σ = [some (.ref a), some (.ref R), some (.int n), some (.ref D), v4] ∧ xs.map (·.1) = ns.take i ∧
      (∀ p ∈ xs, p.2.Nodup ∧ (∀ z ∈ p.2, IsNm z) ∧ 1 ≤ p.2.length ∧ p.2.length ≤ 10) ∧ H' D = some (.dK kvs) ∧
      Paired (fun (p : Key × V) (x : Int × List Str) => p.1 = Sum.inl x.1 ∧ rL rS (hide [a, D] H') p.2 x.2) kvs xs ∧ H' L = some (.lst (ns.map V.int)) ∧ PotAt H' a (c + 101 + 103 * i) ∧ Step [a] H H')
    ⟨[], [], none, rfl, by simp, by simp, s3.at1 (s2.at1 e1 aD.symm) aD.symm, .nil, eL, p3.mono (by omega), (s1.up.trans s2).trans s3⟩ ?_ ?_ ?_)
  · rintro i σ H5 _ ⟨xs, kvs, v4, rfl, g1, g2, g3, g4, g5, g6, g7⟩
    exact g5
  · rintro i x σ H5 hx ⟨xs, kvs, v4, rfl, g1, g2, g3, g4, g5, g6, g7⟩
    rw [List.getElem?_map, Option.map_eq_some_iff] at hx
    obtain ⟨z, hz, rfl⟩ := hx
    have hi : i < ns.length := (List.getElem?_eq_some_iff.mp hz).1
    walk_at "go"
    intro l H6 hl s6 e6
    have la : l ≠ a := (g6.ne hl).symm
    walk_at "go"
    refine go_pick (g6.step0 s6) (by decide) (by decide) (by omega) fun r2 H7 r20 r21 s7 p7 => ?_
    walk_at "go"
    obtain ⟨m, hm, em⟩ : ∃ m : Int, (m = 4 ∨ m = 10) ∧ atI [V.int 4, V.int 10] (r2 / 3) = some (.int m) := by
      have : r2 / 3 = 0 ∨ r2 / 3 = 1 := by omega
      rcases this with e | e
      · exact ⟨4, .inl rfl, by rw [e]; rfl⟩
      · exact ⟨10, .inr rfl, by rw [e]; rfl⟩
    refine g_ixL (s7.at1 e6 la) em ?_
    walk_at "go"
    refine go_pick p7 (by omega) (by omega) (by omega) fun r3 H8 r30 r31 s8 p8 => ?_
    have S8 := (g7.trans s6.up).trans (s7.trans s8)
    walk_at "go"
    refine ⟨a, R, rows, _, _, rfl, mL mRow _ _ _ _ S8.le hR, hok, hnd, hlr, by omega, by omega, p8, by omega, fun Hd hs H9 hHd lh nh bh s9 e9 p9 => ?_⟩
    have aH : a ≠ Hd := p8.ne hHd
    have d9 : H9 D = some (.dK kvs) := s9.at1 (s8.at1 (s7.at1 (s6.at0 g3) aD.symm) aD.symm) aD.symm
    have DH : Hd ≠ D := fun e => by rw [e, d9] at e9; cases e9
    have hnew : z ∉ xs.map (·.1) := by
      rw [g1]
      exact fun hm => by
        obtain ⟨j, hj, ej⟩ := List.mem_iff_getElem.mp hm
        rw [List.length_take] at hj
        rw [List.getElem_take] at ej
        have e1 : ns[j]? = some z := by rw [List.getElem?_eq_getElem (by omega), ej]
        have := nd_ix nn e1 hz
        omega
    have hv := find_new g4 hnew
    have lk : kvs.length = i := by rw [P_len g4, ← List.length_map (f := fun p : Int × List Str => p.1), g1, List.length_take]; omega
    walk_at "go"
    refine g_kDPut d9 (ltLine (by omega)) fun H10 s10 e10 => ?_
    rw [putK_new _ hv] at e10
    have hle : Le (hide [a, D] H5) (hide [a, D] H10) := (s6.hid0.trans ((s7.hid (by simp)).trans ((s8.hid (by simp)).trans (s9.hid (by simp))))).trans (s10.hid (by simp))
    refine ⟨xs ++ [(z, hs)], _, _, rfl, ?_, fun p hp => ?_, e10, P_snoc ⟨rfl, rLS_of (hide_at (s10.at1 e9 DH) (by simp [DH, aH.symm]))⟩ (Pmap g4 fun p x r => ⟨r.1, mL mS _ _ _ _ hle r.2⟩),
      s10.at1 (s9.at1 (s8.at1 (s7.at1 (s6.at0 g5) aL.symm) aL.symm) aL.symm) DL.symm, (p9.step1 s10 aD).mono (by omega), (S8.trans s9).via s10 hD⟩
    · rw [List.map_append, g1, List.take_add_one, hz]; rfl
    · rcases List.mem_append.mp hp with hp | hp
      · exact g2 p hp
      · rw [List.mem_singleton.mp hp]
        exact ⟨nh, bh, by show 1 ≤ hs.length; omega, by show hs.length ≤ 10; omega⟩
  · rintro σ H5 ⟨xs, kvs, v4, rfl, g1, g2, g3, g4, g5, g6, g7⟩
    walk_at "go"
    rw [List.length_map, List.take_length] at g1
    have ll : xs.length = ns.length := by rw [← g1, List.length_map]
    refine q D xs H5 hD ⟨by rw [g1]; exact nn, g2, by omega⟩ (by omega) g7 ⟨D, kvs, rfl, hide_at g3 (by simp [aD.symm]), Pmap g4 fun p x r => ⟨r.1, mL mS _ _ _ _ (hide_sub (by simp)) r.2⟩⟩ (g6.mono (by rw [List.length_map]; omega))
theorem ok_w_copy (C : Ctx K mg) : Has P w K mg base CX0 1 "_law_copy" ["some"] sp_w_copy := by
  obtain ⟨fd, F⟩ := fn_w_copy C
  refine ⟨⟨_, fd, ?_, gl_w_copy C, F.kp, F.bindsN fun _ _ _ _ _ _ us hl => match us, hl with | [_], _ => rfl⟩⟩
  refine F.ok (CX := CX0) sc_w_copy (fun vs H Q E h => ?_) (fun cdv A outer s H vs Q E hr h => ?_)
  · first | (obtain ⟨_, rfl, _⟩ := h; rfl) | (obtain ⟨_, _, rfl, _⟩ := h; rfl) | (obtain ⟨_, _, _, rfl, _⟩ := h; rfl) | (obtain ⟨_, _, _, _, rfl, _⟩ := h; rfl) | (obtain ⟨_, _, _, _, _, rfl, _⟩ := h; rfl) | (obtain ⟨_, _, _, _, _, _, rfl, _⟩ := h; rfl) | (obtain ⟨_, _, _, _, _, _, _, rfl, _⟩ := h; rfl) | (obtain ⟨_, _, _, _, _, _, _, _, rfl, _⟩ := h; rfl) | (obtain ⟨_, _, _, _, _, _, _, _, _, rfl, _⟩ := h; rfl) | (obtain ⟨_, _, _, _, _, _, _, _, _, _, rfl, _⟩ := h; rfl) | (obtain ⟨_, _, _, _, _, _, _, _, _, _, _, rfl, _⟩ := h; rfl) | (obtain ⟨_, _, _, _, _, _, _, _, _, _, _, _, rfl, _⟩ := h; rfl)
  have hu := hu_of hr
  refine ⟨_, PSs.nox (pss_cons (ps_set (i := 1) sc_w_copy.nd rfl (Or.inl rfl) pe_dnewK)
    (pss_cons (ps_lock (ps_for PassesOwn.never rfl (pi_keys (pv 0)) (pg_name (i := 2) sc_w_copy.nd rfl (Or.inl rfl))
    (pss_one (ps_dput hu (pv 1) (pv 2) (pe_callTy cr_listL (by rfl) (fr_list C) (by decide +kernel) (pa_cons (pe_dget hu (pv 0) (pv 2) (fun _ _ => rfl)) pa_nil)) rfl))))
    (pss_one (ps_ret (pv 1))))), ?_⟩
  obtain ⟨S, xs, rfl, hS, hnd, hlen, q⟩ := h
  obtain ⟨_, kvs, ⟨⟩, hS1, hSp⟩ := id hS
  walk_at "go"
  refine g_dnewK fun D H1 hD s1 e1 => ?_
  have SD : S ≠ D := ne_of_none hS1 hD
  walk_at "go"
  refine g_lock (s1.at0 hS1) fun od H2 s2 e2 => ?_
  walk_at "go"
  have lk : kvs.length = xs.length := P_len hSp
  refine g_kKeys e2 (wFor_keys (fun i σ H' => ∃ (ts : List (Int × Addr × List Str)) (v2 : Option V), σ = [some (.ref S), some (.ref D), v2] ∧ tbOf ts = xs.take i ∧ (∀ t ∈ ts, H t.2.1 = none ∧ t.2.1 ≠ D) ∧ (ts.map (·.2.1)).Nodup ∧ TabAt H' D ts ∧ H' S = some (.frz od (.dK kvs)) ∧ Step [S] H H')
    ⟨[], none, rfl, by simp [tbOf], by simp, List.nodup_nil, ⟨s2.at1 e1 SD.symm, by simp⟩, e2, s1.up.trans s2⟩ ?_ ?_ ?_)
  · rintro i σ H5 _ ⟨ts, v2, rfl, g1, g2, g3, g4, g5, g6⟩
    exact g5
  · rintro i p σ H5 hx ⟨ts, v2, rfl, g1, g2, g3, g4, g5, g6⟩
    obtain ⟨⟨z, hs⟩, hz, hk, hv⟩ := P_get hSp hx
    have hk : p.1 = Sum.inl z := hk
    have hi : i < xs.length := (List.getElem?_eq_some_iff.mp hz).1
    rw [hk]
    walk_at "go"
    obtain ⟨l, el, hl⟩ := rLS_at hv
    have lS : l ≠ S := fun e => by rw [e, hS1] at hl; cases hl
    have hval : valV kvs (Sum.inl z) = some (.ref l) := by
      rcases kvs_look (i := z) hSp with ⟨_, e⟩ | ⟨v', x', h1, h2, h3⟩
      · exact absurd (List.mem_map.mpr ⟨(z, hs), List.mem_of_getElem? hz, rfl⟩ : z ∈ xs.map (·.1)) (fun hm => by
          have := find_new (q := fun _ _ => True) (Pmap hSp fun p x r => ⟨r.1, trivial⟩) (i := z)
          rcases kvs_look (i := z) hSp with ⟨e1, _⟩ | ⟨v', x', h1, h2, h3⟩
          · have := valV_not e1
            rw [kvs_keys hSp] at this
            exact this (List.mem_map.mpr ⟨z, hm, rfl⟩)
          · rw [h2] at e; cases e)
      · rw [h1]
        have hm : (Sum.inl z, p.2) ∈ kvs := by
          have := List.mem_of_getElem? hx
          rwa [← hk]
        have hn : (kvs.map (·.1)).Nodup := by
          rw [kvs_keys hSp]
          exact nodup_map_of (fun a b e => Sum.inl.inj e) hnd
        have := valV_of_mem hn hm
        rw [h1] at this
        rw [this, el]
    refine g_kDGet (.inr ⟨od, g5⟩) hval ?_
    walk_at "go"
    refine g_listL (g6.at1 hl lS) fun l2 H6 hl2 s6 e6 => ?_
    walk_at "go"
    have hl2H : H l2 = none := g6.fresh hl2
    have d6 := s6.at0 g4.dk
    have l2D : l2 ≠ D := fun e => by rw [e, d6] at e6; cases e6
    have l2S : l2 ≠ S := (ne_of_none hS1 hl2H).symm
    have hnew : z ∉ ts.map (·.1) := fun hm => by
      have e : ts.map (·.1) = (xs.take i).map (·.1) := by rw [← g1]; simp [tbOf]
      rw [e, List.map_take] at hm
      obtain ⟨j, hj, ej⟩ := List.mem_iff_getElem.mp hm
      rw [List.length_take] at hj
      rw [List.getElem_take] at ej
      have hj2 : j < (xs.map (·.1)).length := by omega
      have e1 : (xs.map (·.1))[j]? = some z := by rw [List.getElem?_eq_getElem hj2, ej]
      have e2 : (xs.map (·.1))[i]? = some z := by rw [List.getElem?_map, hz]; rfl
      have := nd_ix hnd e1 e2
      omega
    have hv0 : valV (ts.map fun t => ((Sum.inl t.1 : Key), V.ref t.2.1)) (Sum.inl z) = none := by
      cases e : valV (ts.map fun t => ((Sum.inl t.1 : Key), V.ref t.2.1)) (Sum.inl z) with
      | none => rfl
      | some v =>
        have := valV_in e
        rw [List.map_map, List.mem_map] at this
        obtain ⟨t, ht, et⟩ := this
        exact absurd (List.mem_map.mpr ⟨t, ht, Sum.inl.inj et⟩) hnew
    have lt : ts.length = i := by
      have := congrArg List.length g1
      rw [List.length_take] at this
      unfold tbOf at this
      rw [List.length_map] at this
      omega
    refine g_kDPut d6 (ltLine (by rw [List.length_map]; omega)) fun H7 s7 e7 => ?_
    rw [putK_new _ hv0] at e7
    refine ⟨ts ++ [(z, l2, hs)], _, rfl, ?_, fun t ht => ?_, ?_, ⟨by rw [e7, List.map_append]; rfl, fun t ht => ?_⟩, s7.at1 (s6.at0 g5) SD, (g6.trans s6.up).via s7 hD⟩
    · unfold tbOf at g1 ⊢
      rw [List.map_append, g1, List.take_add_one, hz]; rfl
    · rcases List.mem_append.mp ht with ht | ht
      · exact g2 t ht
      · rw [List.mem_singleton.mp ht]; exact ⟨hl2H, l2D⟩
    · rw [List.map_append]
      refine nd_snoc g3 fun hm => ?_
      obtain ⟨t, ht, et⟩ := List.mem_map.mp hm
      have := g4.ls t ht
      rw [et, hl2] at this
      cases this
    · rcases List.mem_append.mp ht with ht | ht
      · exact s7.at1 (s6.at0 (g4.ls t ht)) (g2 t ht).2
      · rw [List.mem_singleton.mp ht]
        exact s7.at1 e6 l2D
  · rintro σ H5 ⟨ts, v2, rfl, g1, g2, g3, g4, g5, g6⟩
    rw [lk, List.take_length] at g1
    refine g_lk g5 fun H6 s6 e6 => ?_
    walk_at "go"
    have lS : ∀ t ∈ ts, t.2.1 ≠ S := fun t ht => (ne_of_none hS1 (g2 t ht).1).symm
    refine q D ts H6 hD (fun t ht => (g2 t ht).1) g3 g1 ((g6.trans s6).back fun o e => by rw [hS1] at e; cases e; exact e6) (g4.step s6 (by simpa using SD.symm) fun t ht => by simpa using lS t ht)
end

end My
namespace My
open PySem PySem.Spec PyProof.Rows L2
/-! refusals, moves done -/
section
variable {P : Program} {w : World} {K : PySem.W.Frag} {mg : Str → Option Value} {base : Heap}
theorem ox_NoTicket (C : Ctx K mg) : HasX P w K mg base "NoTicket" ["ticket"] := by
  have T := ex_NoTicket C
  obtain ⟨fd, F⟩ := fn_NoTicket_init C
  refine ⟨⟨fd, ?_, F.bindsN fun _ _ _ _ _ _ us hl => match us, hl with | [_, _], _ => rfl⟩, T, gl_NoTicket C⟩
  refine F.ok (CX := CX0) sc_NoTicket_init (fun vs H Q E h => ?_) (fun cdv A outer s H vs Q E hr h => ?_)
  · obtain ⟨_, ws, rfl, l, _⟩ := h
    show ws.length + 1 = _
    rw [l]; rfl
  refine ⟨_, PSs.nox (pss_one (ps_ost (pv 0) (pv 1))), ?_⟩
  obtain ⟨a, ws, rfl, l, ha, q⟩ := h
  match ws, l with
  | [w0], _ =>
    walk_at "go"
    refine g_kOst1 T.ox (T.no _ (by decide)) ha fun dx H2 hd ne e1 e2 e3 => ?_
    exact q dx _ hd ne e1 e2 fun b h1 h2 => e3 b h1 h2
theorem ox_NoPlace (C : Ctx K mg) : HasX P w K mg base "NoPlace" ["place"] := by
  have T := ex_NoPlace C
  obtain ⟨fd, F⟩ := fn_NoPlace_init C
  refine ⟨⟨fd, ?_, F.bindsN fun _ _ _ _ _ _ us hl => match us, hl with | [_, _], _ => rfl⟩, T, gl_NoPlace C⟩
  refine F.ok (CX := CX0) sc_NoPlace_init (fun vs H Q E h => ?_) (fun cdv A outer s H vs Q E hr h => ?_)
  · obtain ⟨_, ws, rfl, l, _⟩ := h
    show ws.length + 1 = _
    rw [l]; rfl
  refine ⟨_, PSs.nox (pss_one (ps_ost (pv 0) (pv 1))), ?_⟩
  obtain ⟨a, ws, rfl, l, ha, q⟩ := h
  match ws, l with
  | [w0], _ =>
    walk_at "go"
    refine g_kOst1 T.ox (T.no _ (by decide)) ha fun dx H2 hd ne e1 e2 e3 => ?_
    exact q dx _ hd ne e1 e2 fun b h1 h2 => e3 b h1 h2
theorem ox_Taken (C : Ctx K mg) : HasX P w K mg base "Taken" ["name"] := by
  have T := ex_Taken C
  obtain ⟨fd, F⟩ := fn_Taken_init C
  refine ⟨⟨fd, ?_, F.bindsN fun _ _ _ _ _ _ us hl => match us, hl with | [_, _], _ => rfl⟩, T, gl_Taken C⟩
  refine F.ok (CX := CX0) sc_Taken_init (fun vs H Q E h => ?_) (fun cdv A outer s H vs Q E hr h => ?_)
  · obtain ⟨_, ws, rfl, l, _⟩ := h
    show ws.length + 1 = _
    rw [l]; rfl
  refine ⟨_, PSs.nox (pss_one (ps_ost (pv 0) (pv 1))), ?_⟩
  obtain ⟨a, ws, rfl, l, ha, q⟩ := h
  match ws, l with
  | [w0], _ =>
    walk_at "go"
    refine g_kOst1 T.ox (T.no _ (by decide)) ha fun dx H2 hd ne e1 e2 e3 => ?_
    exact q dx _ hd ne e1 e2 fun b h1 h2 => e3 b h1 h2
end
abbrev Mv := Int × Int × Option Str × Str
abbrev rMv : Rp Mv := rP4 rI rI rOS rS
theorem mMv : Mono rMv := mP4 mI mI mOS mS
structure MvOk (m : Mv) : Prop where
  to : IsNm m.2.2.2
  fr : m.2.2.1 = none ∨ m.2.2.1 = some m.2.2.2
theorem at2o {j : Int} {v : V} (h0 : 0 ≤ j) (h1 : j < 2) : ∃ u, (u = .non ∨ u = v) ∧ atI [V.non, v] j = some u := by
  have : j = 0 ∨ j = 1 := by omega
  rcases this with rfl | rfl
  · exact ⟨_, .inl rfl, rfl⟩
  · exact ⟨_, .inr rfl, rfl⟩
def sp_w_moves : Sp := fun vs H Q _ => ∃ (a R S : Addr) (rows : List Row) (xs : Tb) (c : Nat), vs = [.ref a, .ref R, .ref S] ∧ rL rRow (hide [a] H) (.ref R) rows ∧ (∀ r ∈ rows, RowOk r) ∧ (rows.map (·.1)).Nodup ∧ rows.length ≤ 30 ∧ rTb (hide [a] H) (.ref S) xs ∧ TbOk xs ∧ PotAt H a c ∧ c < 2 ^ 56 ∧
  ∀ D (ms : List Mv) H', H D = none → (∀ m ∈ ms, MvOk m) → ms.length ≤ 10 → Step [a] H H' → rL rMv (hide [a] H') (.ref D) ms → PotAt H' a (c + 2000) → Q (.ref D) H'
theorem cutV_bad {xs : List Int} {b : Int} (h0 : 0 ≤ b) : ∃ ys : List Int, cutV (xs.map V.int) none (some b) = ys.map V.int ∧ ys.length ≤ xs.length := ⟨xs.take b.toNat, by rw [cutV_to h0, List.map_take], by rw [List.length_take]; omega⟩
section
variable {P : Program} {w : World} {K : PySem.W.Frag} {mg : Str → Option Value} {base : Heap}
theorem ok_w_moves (C : Ctx K mg) : Has P w K mg base CX0 4 "_law_moves" ["pot", "rows", "some"] sp_w_moves := by
  obtain ⟨fd, F⟩ := fn_w_moves C
  obtain ⟨f_w_pick, fd_w_pick, G_w_pick, mg_w_pick, kp_w_pick, b_w_pick⟩ := (ok_w_pick (P := P) (w := w) (base := base) C).ex
  obtain ⟨f_w_homes, fd_w_homes, G_w_homes, mg_w_homes, kp_w_homes, b_w_homes⟩ := (ok_w_homes (P := P) (w := w) (base := base) C).ex
  refine ⟨⟨_, fd, ?_, gl_w_moves C, F.kp, F.bindsN fun _ _ _ _ _ _ us hl => match us, hl with | [_, _, _], _ => rfl⟩⟩
  refine F.ok (CX := CX0) sc_w_moves (fun vs H Q E h => ?_) (fun cdv A outer s H vs Q E hr h => ?_)
  · first | (obtain ⟨_, rfl, _⟩ := h; rfl) | (obtain ⟨_, _, rfl, _⟩ := h; rfl) | (obtain ⟨_, _, _, rfl, _⟩ := h; rfl) | (obtain ⟨_, _, _, _, rfl, _⟩ := h; rfl) | (obtain ⟨_, _, _, _, _, rfl, _⟩ := h; rfl) | (obtain ⟨_, _, _, _, _, _, rfl, _⟩ := h; rfl) | (obtain ⟨_, _, _, _, _, _, _, rfl, _⟩ := h; rfl) | (obtain ⟨_, _, _, _, _, _, _, _, rfl, _⟩ := h; rfl) | (obtain ⟨_, _, _, _, _, _, _, _, _, rfl, _⟩ := h; rfl) | (obtain ⟨_, _, _, _, _, _, _, _, _, _, rfl, _⟩ := h; rfl) | (obtain ⟨_, _, _, _, _, _, _, _, _, _, _, rfl, _⟩ := h; rfl) | (obtain ⟨_, _, _, _, _, _, _, _, _, _, _, _, rfl, _⟩ := h; rfl)
  have hu := hu_of hr
  refine ⟨_, PSs.nox (pss_cons (ps_set (i := 3) sc_w_moves.nd rfl (Or.inl rfl) (pe_lst pa_nil))
    (pss_cons (ps_set (i := 4) sc_w_moves.nd rfl (Or.inl rfl) (pe_call G_w_pick (hr.mono (by decide)) rfl mg_w_pick kp_w_pick b_w_pick .nil pass0 (pa_cons (pv 0) (pa_cons pe_int pa_nil))))
    (pss_cons (ps_set (i := 5) sc_w_moves.nd rfl (Or.inl rfl) (pe_op op_cat (pe_callB (cr_sortedDI rfl) (by rfl) (fr_sorted C) (by decide +kernel) (pa_cons (pv 2) pa_nil)) (pe_slice sl_list (pe_lst (pa_cons (pe_op op_powP pe_int pe_int) (pa_cons (pe_un un_neg pe_int) pa_nil))) po_none (po_some (pv 4)))))
    (pss_cons (ps_for PassesOwn.never rfl (pi_range1 rfl (fr_range C) (pa_cons (pe_op op_mulP (pe_call G_w_pick (hr.mono (by decide)) rfl mg_w_pick kp_w_pick b_w_pick .nil pass0 (pa_cons (pv 0) (pa_cons pe_int pa_nil))) (pe_callB (cr_min2 rfl) (by rfl) (fr_min C) (by decide +kernel) (pa_cons pe_int (pa_cons (pe_callB cr_lenL (by rfl) (fr_len C) PySem.boot_len (pa_cons (pv 5) pa_nil)) pa_nil)))) pa_nil)) (pg_name (i := 6) sc_w_moves.nd rfl (Or.inl rfl))
    (pss_cons (ps_set (i := 7) sc_w_moves.nd rfl (Or.inl rfl) (pe_ix ix_list (pv 5) (pe_call G_w_pick (hr.mono (by decide)) rfl mg_w_pick kp_w_pick b_w_pick .nil pass0 (pa_cons (pv 0) (pa_cons (pe_callB cr_lenL (by rfl) (fr_len C) PySem.boot_len (pa_cons (pv 5) pa_nil)) pa_nil))) (fun _ _ => rfl)))
    (pss_cons (ps_set (i := 8) sc_w_moves.nd rfl (Or.inl rfl) (pe_dget2 hu (pv 2) (pv 7) (pe_lst (pa_cons pe_str pa_nil)) (by exact ⟨rfl, rfl, rfl, rfl⟩)))
    (pss_cons (ps_set (i := 9) sc_w_moves.nd rfl (Or.inl rfl) (pe_op op_sub (pe_call G_w_pick (hr.mono (by decide)) rfl mg_w_pick kp_w_pick b_w_pick .nil pass0 (pa_cons (pv 0) (pa_cons (pe_op op_add (pe_callB cr_lenL (by rfl) (fr_len C) PySem.boot_len (pa_cons (pv 8) pa_nil)) (pv 4)) pa_nil))) (pe_op op_divP (pv 4) pe_int)))
    (pss_cons (ps_set (i := 10) sc_w_moves.nd rfl (Or.inl rfl) (pe_op op_cat (pe_call G_w_homes (hr.mono (by decide)) rfl mg_w_homes kp_w_homes b_w_homes .nil pass0 (pa_cons (pv 0) (pa_cons (pv 1) (pa_cons pe_int pa_nil)))) (pv 8)))
    (pss_cons (ps_set (i := 11) sc_w_moves.nd rfl (Or.inl rfl) (pe_ix ix_list (pv 10) (pe_call G_w_pick (hr.mono (by decide)) rfl mg_w_pick kp_w_pick b_w_pick .nil pass0 (pa_cons (pv 0) (pa_cons (pe_callB cr_lenL (by rfl) (fr_len C) PySem.boot_len (pa_cons (pv 10) pa_nil)) pa_nil))) (fun _ _ => rfl)))
    (pss_one (ps_expr (pe_bm PySem.F.plainAttrs_list PySem.F.slot_list_append PySem.F.type_list_append mt_append (pv 3) (pa_cons (pe_tup (pa_cons (pv 7) (pa_cons (pv 9) (pa_cons (pe_ix ix_list (pe_lst (pa_cons pe_non (pa_cons (pv 11) pa_nil))) (pe_call G_w_pick (hr.mono (by decide)) rfl mg_w_pick kp_w_pick b_w_pick .nil pass0 (pa_cons (pv 0) (pa_cons pe_int pa_nil))) (fun _ _ => rfl)) (pa_cons (pv 11) pa_nil))))) pa_nil))))))))))
    (pss_one (ps_ret (pv 3))))))), ?_⟩
  obtain ⟨a, R, S, rows, xs, c, rfl, hR, hok, hnd, hlr, hS, tok, hp, hc, q⟩ := h
  obtain ⟨_, kvs, ⟨⟩, hS1, hSp⟩ := id hS
  have hS2 := hide_le _ _ hS1
  have Sa : S ≠ a := fun e => by rw [e, hide_in (by simp)] at hS1; cases hS1
  have hlen := tok.len
  walk_at "go"
  intro D H1 hD s1 e1
  have aD : a ≠ D := hp.ne hD
  have SD : S ≠ D := ne_of_none hS2 hD
  walk_at "go"
  refine go_pick (hp.step0 s1) (by decide) (by decide) (by omega) fun bad H2 b0 b1 s2 p2 => ?_
  walk_at "go"
  have S2 : Step [a] H H2 := s1.up.trans s2
  refine g_sortedDI (.inl (S2.at1 hS2 Sa)) (kvs_keys hSp) (by rw [List.length_map]; omega) fun ns L1 H3 hpm hpw hL1 s3 e3 => ?_
  have ea : (10 : Int) ^ Int.toNat 9 = 1000000000 := by decide
  walk_at "go"
  intro L2 H4 hL2 s4 e4
  walk_at "go"
  refine g_slL e4 fun L3 H5 hL3 s5 e5 => ?_
  obtain ⟨ys, ey, ly⟩ := cutV_bad (xs := [10 ^ Int.toNat 9, -1]) b0
  have ey : cutV [V.int (10 ^ Int.toNat 9), V.int (-1)] none (some bad) = ys.map V.int := ey
  rw [ey] at e5
  have ll := hpm.length_eq
  rw [List.length_map] at ll
  have ly : ys.length ≤ 2 := ly
  refine g_cat (s5.at0 (s4.at0 e3)) e5 (leLine (by rw [List.length_map, List.length_map]; omega)) fun L H6 hL s6 e6 => ?_
  rw [← List.map_append] at e6
  have hns : ∀ z ∈ ns, z ∈ xs.map (·.1) := fun z hz => hpm.mem_iff.mp hz
  have lt : (ns ++ ys).length ≤ 14 := by rw [List.length_append]; omega
  have S6 : Step [a] H H6 := (((S2.trans s3.up).trans s4.up).trans s5.up).trans s6.up
  have p6 := (((p2.step0 s3).step0 s4).step0 s5).step0 s6
  have aL : a ≠ L := (((p2.step0 s3).step0 s4).step0 s5).ne hL
  have d6 : H6 D = some (.lst []) := s6.at0 (s5.at0 (s4.at0 (s3.at0 (s2.at1 e1 aD.symm))))
  have DL : D ≠ L := ne_of_none (s5.at0 (s4.at0 (s3.at0 (s2.at1 e1 aD.symm)))) hL
  generalize hts : ns ++ ys = ts at e6 lt
  walk_at "go"
  refine go_pick p6 (by decide) (by decide) (by omega) fun r1 H7 r10 r11 s7 p7 => ?_
  have e7 := s7.at1 e6 aL.symm
  walk_at "go"
  rw [List.length_map]
  have hmul : 0 ≤ r1 * min 1 (ts.length : Int) ∧ r1 * min 1 (ts.length : Int) ≤ 6 ∧ (0 < r1 * min 1 (ts.length : Int) → 0 < ts.length) := by
    rcases Nat.eq_zero_or_pos ts.length with e | e
    · have : min 1 (ts.length : Int) = 0 := by omega
      rw [this, Int.mul_zero]
      omega
    · have : min 1 (ts.length : Int) = 1 := by omega
      rw [this, Int.mul_one]
      omega
  refine g_kRng1 (by omega) (by omega) ?_
  generalize r1 * min 1 (ts.length : Int) = m at hmul
  refine wFor_rng (fun i σ H' => ∃ (ms : List Mv) (v6 v7 v8 v9 v10 v11 : Option V), σ = [some (.ref a), some (.ref R), some (.ref S), some (.ref D), some (.int bad), some (.ref L), v6, v7, v8, v9, v10, v11] ∧ (∀ m ∈ ms, MvOk m) ∧ ms.length = i ∧
      (∃ vs, H' D = some (.lst vs) ∧ Paired (rMv (hide [a, D] H')) vs ms) ∧ H' L = some (.lst (ts.map V.int)) ∧ PotAt H' a (c + 2 + 110 * i) ∧ Step [a] H H')
      ⟨[], _, _, _, _, _, _, rfl, by simp, rfl, ⟨[], s7.at1 d6 aD.symm, .nil⟩, e7, p7.mono (by omega), S6.trans s7⟩ ?_ ?_
  · rintro i σ H8 hi ⟨ms, v6, v7, v8, v9, v10, v11, rfl, g1, g2, ⟨vs, g3, g3p⟩, g4, g5, g6⟩
    have hts0 := hmul.2.2 (by omega)
    walk_at "go"
    rw [List.length_map]
    refine go_pick g5 (by omega) (by omega) (by omega) fun q1 G1 q10 q11 t1 u1 => ?_
    have f1 := t1.at1 g4 aL.symm
    obtain ⟨tk, htk, etk⟩ := at_in (xs := ts) q10 q11
    refine g_ixL f1 (at_int q10 (by rw [List.getElem?_map, htk]; rfl)) ?_
    walk_at "go"
    have S1 := g6.trans t1
    refine g_kDG2 (.inl (S1.at1 hS2 Sa)) ?_
    walk_at "go"
    intro A1 G2 hA1 t2 f2
    have T2 := S1.trans t2.up
    refine g_kDG2b (.inl (T2.at1 hS2 Sa)) ?_
    obtain ⟨hl, hs, ehl, fhl, hs1, hs2, hs3, hlD⟩ : ∃ (hl : Addr) (hs : List Str), (valV kvs (Sum.inl tk)).getD (.ref A1) = .ref hl ∧ G2 hl = some (.lst (hs.map V.str)) ∧ (∀ z ∈ hs, IsNm z) ∧ 1 ≤ hs.length ∧ hs.length ≤ 10 ∧ hl ≠ a := by
      rcases kvs_look (i := tk) hSp with ⟨e1, _⟩ | ⟨v', x', k1, k2, k3⟩
      · exact ⟨A1, ["a"], by rw [e1]; rfl, f2, fun z hz => by rw [List.mem_singleton.mp hz]; exact ⟨by decide +kernel, by decide +kernel, by unfold isLow; decide +kernel⟩, by decide, by decide, (u1.ne hA1).symm⟩
      · obtain ⟨l, rfl, hl⟩ := rLS_at k3
        have hl2 := hide_le _ _ hl
        have la : l ≠ a := fun e => by rw [e, hide_in (by simp)] at hl; cases hl
        have hm : (tk, x') ∈ xs := by
          unfold lookI at k2
          obtain ⟨p, hp1, hp2⟩ := Option.map_eq_some_iff.mp k2
          have h1 := List.mem_of_find?_eq_some hp1
          have h2 := List.find?_some hp1
          have h2 : p.1 = tk := by simpa using h2
          rw [← hp2, ← h2]
          exact h1
        have ok := tok.nm _ hm
        exact ⟨l, x', by rw [k1]; rfl, T2.at1 hl2 la, ok.2.1, ok.2.2.1, ok.2.2.2, la⟩
    rw [ehl]
    walk_at "go"
    rw [List.length_map]
    refine go_pick (u1.step0 t2) (by omega) (by omega) (by omega) fun q2 G3 q20 q21 t3 u3 => ?_
    walk_at "go"
    have T3 := T2.trans t3
    refine ⟨a, R, rows, _, _, rfl, mL mRow _ _ _ _ T3.le hR, hok, hnd, hlr, by decide, by decide, u3, by omega, fun Hd hs' G4 hHd lh nh bh t4 f4 u4 => ?_⟩
    walk_at "go"
    have T4 := T3.trans t4
    have fh4 := t4.at1 (t3.at1 fhl hlD) hlD
    refine g_cat f4 fh4 (leLine (by rw [List.length_map, List.length_map]; omega)) fun Po G5 hPo t5 f5 => ?_
    rw [← List.map_append] at f5
    walk_at "go"
    rw [List.length_map]
    have lp : (hs' ++ hs).length = hs'.length + hs.length := List.length_append
    refine go_pick (u4.step0 t5) (by omega) (by omega) (by omega) fun q3 G6 q30 q31 t6 u6 => ?_
    have aP : a ≠ Po := u4.ne hPo
    have f6 := t6.at1 f5 aP.symm
    obtain ⟨to, hto, eto⟩ := at_in (xs := hs' ++ hs) q30 q31
    refine g_ixL f6 (at_int q30 (by rw [List.getElem?_map, hto]; rfl)) ?_
    have nto : IsNm to := by
      rcases List.mem_append.mp (List.mem_of_getElem? hto) with h | h
      · exact bh to h
      · exact hs1 to h
    have T6 := (T4.trans t5.up).trans t6
    have St : Step [a] H8 G6 := ((((t1.trans t2.up).trans t3).trans t4).trans t5.up).trans t6
    have d6' := St.at1 g3 aD.symm
    walk_at "go"
    intro A2 G7 hA2 t7 f7
    have A2a : A2 ≠ a := (u6.ne hA2).symm
    have d7 := t7.at0 d6'
    walk_at "go"
    refine go_pick (u6.step0 t7) (by decide) (by decide) (by omega) fun q4 G8 q40 q41 t8 u8 => ?_
    obtain ⟨fr, hfr, efr⟩ := at2o (v := .str to) q40 q41
    refine g_ixL (t8.at1 f7 A2a) efr ?_
    have d8 := t8.at1 d7 aD.symm
    walk_at "go"
    intro tp G9 htp t9 f9
    have d9 := t9.at0 d8
    have tpa : tp ≠ a := (u8.ne htp).symm
    have tpD : tp ≠ D := fun e => by rw [e, d9] at f9; cases f9
    walk_at "go"
    have lv : vs.length = i := by rw [P_len g3p, g2]
    refine g_append d9 (ltLine (by omega)) fun G10 t10 f10 => ?_
    have hle : Le (hide [a, D] H8) (hide [a, D] G10) := ((St.mono (m' := [a, D]) (by simp)).le.trans (t7.hid0.trans (t8.hid (by simp)))).trans (t9.hid0.trans (t10.hid (by simp)))
    obtain ⟨fo, hfo, hfo2⟩ : ∃ fo : Option Str, fr = oV V.str fo ∧ (fo = none ∨ fo = some to) := by
      rcases hfr with rfl | rfl
      · exact ⟨none, rfl, .inl rfl⟩
      · exact ⟨some to, rfl, .inr rfl⟩
    subst hfo
    refine ⟨ms ++ [(tk, q2 - bad / 2, fo, to)], _, _, _, _, _, _, rfl, fun m hm => ?_, by simp [g2], ⟨_, f10, P_snoc ⟨tp, _, _, _, _, rfl, hide_at (t10.at1 f9 tpD) (by simp [tpa, tpD]), rfl, rfl, rfl, rfl⟩ (Pmap g3p fun v x r => mMv _ _ _ _ hle r)⟩,
      t10.at1 (t9.at0 (t8.at1 (t7.at0 (St.at1 g4 aL.symm)) aL.symm)) DL.symm, ((u8.step0 t9).step1 t10 aD).mono (by omega), (((T6.trans t7.up).trans t8).trans t9.up).via t10 hD⟩
    rcases List.mem_append.mp hm with hm | hm
    · exact g1 m hm
    · rw [List.mem_singleton.mp hm]
      exact ⟨nto, hfo2⟩
  · rintro σ H8 ⟨ms, v6, v7, v8, v9, v10, v11, rfl, g1, g2, ⟨vs, g3, g3p⟩, g4, g5, g6⟩
    walk_at "go"
    exact q D ms H8 hD g1 (by omega) g6 ⟨D, vs, rfl, hide_at g3 (by simp [aD.symm]), Pmap g3p fun v x r => mMv _ _ _ _ (hide_sub (by simp)) r⟩ (g5.mono (by omega))
end

end My
namespace My
open PySem PySem.Spec PyProof.Rows L2
/-! moves done -/
inductive Rf where
  | ticket (i : Int)
  | place (i : Int)
  | taken (z : Str)
  deriving DecidableEq
def setT (xs : Tb) (k : Int) (hs : List Str) : Tb := xs.map fun p => if p.1 = k then (p.1, hs) else p
def mv1 (xs : Tb) (m : Mv) : Except Rf Tb :=
  match lookI xs m.1 with
  | none => .error (.ticket m.1)
  | some hs => if 0 ≤ m.2.1 ∧ m.2.1 < hs.length then
      (if m.2.2.2 ∈ hs.eraseIdx m.2.1.toNat then .error (.taken m.2.2.2) else .ok (setT xs m.1 (hs.set m.2.1.toNat m.2.2.2)))
    else .error (.place m.2.1)
def mvd (xs : Tb) : List Mv → Except Rf Tb
  | [] => .ok xs
  | m :: ms => match mv1 xs m with
    | .error r => .error r
    | .ok ys => mvd ys ms
theorem mvd_cons {m : Mv} {ms : List Mv} {xs : Tb} : mvd xs (m :: ms) = (match mv1 xs m with | .error r => .error r | .ok ys => mvd ys ms) := rfl
theorem mvd_app : ∀ {as bs : List Mv} {xs : Tb}, mvd xs (as ++ bs) = (match mvd xs as with | .error r => .error r | .ok ys => mvd ys bs)
  | [], _, _ => rfl
  | m :: as, bs, xs => by
    rw [List.cons_append, mvd_cons, mvd_cons]
    cases mv1 xs m with
    | error r => rfl
    | ok ys => exact mvd_app
theorem mvd_ok {ms : List Mv} {i : Nat} {m : Mv} {xs ys zs : Tb} (h : mvd xs (ms.take i) = .ok ys) (hm : ms[i]? = some m) (e : mv1 ys m = .ok zs) : mvd xs (ms.take (i + 1)) = .ok zs := by
  rw [List.take_add_one, hm, mvd_app, h]
  show mvd ys [m] = _
  unfold mvd
  rw [e]
  rfl
theorem mvd_err {ms : List Mv} {i : Nat} {m : Mv} {xs ys : Tb} {r : Rf} (h : mvd xs (ms.take i) = .ok ys) (hm : ms[i]? = some m) (e : mv1 ys m = .error r) : mvd xs ms = .error r := by
  have hl := (List.getElem?_eq_some_iff.mp hm)
  have : ms = ms.take i ++ m :: ms.drop (i + 1) := by
    obtain ⟨h1, h2⟩ := hl
    rw [← h2, List.getElem_cons_drop, List.take_append_drop]
  rw [this, mvd_app, h]
  show mvd ys (m :: _) = _
  unfold mvd
  rw [e]
/-! tables of one's own -/
theorem nd_inj {α β : Type} {f : α → β} : ∀ {l : List α} {a b : α}, (l.map f).Nodup → a ∈ l → b ∈ l → f a = f b → a = b
  | [], _, _, _, h, _, _ => by cases h
  | x :: r, a, b, hn, ha, hb, e => by
    rw [List.map_cons, List.nodup_cons] at hn
    rcases List.mem_cons.mp ha with ea | ha'
    · subst ea
      rcases List.mem_cons.mp hb with rfl | hb
      · rfl
      · exact (hn.1 (List.mem_map.mpr ⟨b, hb, e.symm⟩)).elim
    · rcases List.mem_cons.mp hb with eb | hb'
      · subst eb
        exact (hn.1 (List.mem_map.mpr ⟨a, ha', e⟩)).elim
      · exact nd_inj hn.2 ha' hb' e
abbrev TT := List (Int × Addr × List Str)
def updT (ts : TT) (k : Int) (hs : List Str) : TT := ts.map fun t => if t.1 = k then (t.1, t.2.1, hs) else t
theorem tbOf_upd {ts : TT} {k : Int} {hs : List Str} : tbOf (updT ts k hs) = setT (tbOf ts) k hs := by
  unfold tbOf updT setT
  rw [List.map_map, List.map_map]
  refine List.map_congr_left fun t _ => ?_
  by_cases h : t.1 = k <;> simp [h]
theorem updT_ad {ts : TT} {k : Int} {hs : List Str} : (updT ts k hs).map (·.2.1) = ts.map (·.2.1) := by
  unfold updT
  rw [List.map_map]
  refine List.map_congr_left fun t _ => ?_
  by_cases h : t.1 = k <;> simp [h]
theorem updT_ks {ts : TT} {k : Int} {hs : List Str} : (updT ts k hs).map (·.1) = ts.map (·.1) := by
  unfold updT
  rw [List.map_map]
  refine List.map_congr_left fun t _ => ?_
  by_cases h : t.1 = k <;> simp [h]
theorem updT_mem {ts : TT} {k : Int} {hs : List Str} {u : Int × Addr × List Str} (h : u ∈ updT ts k hs) : ∃ t, t ∈ ts ∧ u.1 = t.1 ∧ u.2.1 = t.2.1 ∧ ((t.1 = k ∧ u.2.2 = hs) ∨ (t.1 ≠ k ∧ u.2.2 = t.2.2)) := by
  obtain ⟨t, ht, e⟩ := List.mem_map.mp h
  refine ⟨t, ht, ?_⟩
  by_cases hk : t.1 = k
  · rw [if_pos hk] at e; subst e; exact ⟨rfl, rfl, .inl ⟨hk, rfl⟩⟩
  · rw [if_neg hk] at e; subst e; exact ⟨rfl, rfl, .inr ⟨hk, rfl⟩⟩
theorem TabAt.upd {H H' : Hp} {D : Addr} {ts : TT} {t : Int × Addr × List Str} {hs : List Str} (h : TabAt H D ts) (ht : t ∈ ts) (hk : (ts.map (·.1)).Nodup) (ha : (ts.map (·.2.1)).Nodup) (hD : t.2.1 ≠ D) (s : Step [t.2.1] H H') (e : H' t.2.1 = some (.lst (hs.map V.str))) : TabAt H' D (updT ts t.1 hs) := by
  refine ⟨?_, fun u hu => ?_⟩
  · rw [s.at1 h.dk hD.symm]
    unfold updT
    rw [List.map_map]
    congr 2
    refine List.map_congr_left fun u _ => ?_
    by_cases h : u.1 = t.1 <;> simp [h]
  · obtain ⟨v, hv, e1, e2, e3⟩ := updT_mem hu
    rcases e3 with ⟨e3, e4⟩ | ⟨e3, e4⟩
    · have := nd_inj hk hv ht e3
      rw [e2, e4, this]
      exact e
    · rw [e2, e4]
      exact s.at1 (h.ls v hv) fun z => e3 (by rw [nd_inj ha hv ht z])
theorem TabAt.look {H : Hp} {D : Addr} {ts : TT} (h : TabAt H D ts) (i : Int) : (valV (ts.map fun t => ((Sum.inl t.1 : Key), V.ref t.2.1)) (Sum.inl i) = none ∧ lookI (tbOf ts) i = none) ∨
    ∃ t, t ∈ ts ∧ t.1 = i ∧ valV (ts.map fun t => ((Sum.inl t.1 : Key), V.ref t.2.1)) (Sum.inl i) = some (.ref t.2.1) ∧ lookI (tbOf ts) i = some t.2.2 := by
  clear h
  induction ts with
  | nil => exact .inl ⟨rfl, rfl⟩
  | cons t r ih =>
    by_cases e : t.1 = i
    · exact .inr ⟨t, List.mem_cons_self .., e, by rw [List.map_cons, valV_pos (by rw [e])], lookI_pos e⟩
    · have e1 : valV ((t :: r).map fun t => ((Sum.inl t.1 : Key), V.ref t.2.1)) (Sum.inl i) = valV (r.map fun t => ((Sum.inl t.1 : Key), V.ref t.2.1)) (Sum.inl i) := by
        rw [List.map_cons, valV_neg (fun z => e (Sum.inl.inj z))]
      have e2 : lookI (tbOf (t :: r)) i = lookI (tbOf r) i := lookI_neg e
      rw [e1, e2]
      rcases ih with ih | ⟨u, h1, h2⟩
      · exact .inl ih
      · exact .inr ⟨u, List.mem_cons_of_mem _ h1, h2⟩
theorem tab_snoc {ts : TT} {xs : Tb} {i : Nat} {z : Int} {hs : List Str} (l : Addr) (hnd : (xs.map (·.1)).Nodup) (g1 : tbOf ts = xs.take i) (hz : xs[i]? = some (z, hs)) :
    putK (ts.map fun t => ((Sum.inl t.1 : Key), V.ref t.2.1)) (Sum.inl z) (.ref l) = (ts ++ [(z, l, hs)]).map (fun t => ((Sum.inl t.1 : Key), V.ref t.2.1)) ∧ tbOf (ts ++ [(z, l, hs)]) = xs.take (i + 1) ∧ ts.length = i := by
  have hi : i < xs.length := (List.getElem?_eq_some_iff.mp hz).1
  have hnew : z ∉ ts.map (·.1) := fun hm => by
    have e : ts.map (·.1) = (xs.take i).map (·.1) := by rw [← g1]; simp [tbOf]
    rw [e, List.map_take] at hm
    obtain ⟨j, hj, ej⟩ := List.mem_iff_getElem.mp hm
    rw [List.length_take] at hj
    rw [List.getElem_take] at ej
    have hj2 : j < (xs.map (·.1)).length := by omega
    have e1 : (xs.map (·.1))[j]? = some z := by rw [List.getElem?_eq_getElem hj2, ej]
    have e2 : (xs.map (·.1))[i]? = some z := by rw [List.getElem?_map, hz]; rfl
    have := nd_ix hnd e1 e2
    omega
  have hv0 : valV (ts.map fun t => ((Sum.inl t.1 : Key), V.ref t.2.1)) (Sum.inl z) = none := by
    cases e : valV (ts.map fun t => ((Sum.inl t.1 : Key), V.ref t.2.1)) (Sum.inl z) with
    | none => rfl
    | some v =>
      have := valV_in e
      rw [List.map_map, List.mem_map] at this
      obtain ⟨t, ht, et⟩ := this
      exact absurd (List.mem_map.mpr ⟨t, ht, Sum.inl.inj et⟩) hnew
  refine ⟨by rw [putK_new _ hv0, List.map_append]; rfl, ?_, ?_⟩
  · unfold tbOf at g1 ⊢
    rw [List.map_append, g1, List.take_add_one, hz]; rfl
  · have := congrArg List.length g1
    rw [List.length_take] at this
    unfold tbOf at this
    rw [List.length_map] at this
    omega
theorem cut_rest {ys : List Str} {i : Int} (h0 : 0 ≤ i) (h1 : i < ys.length) : cutV (ys.map V.str) none (some i) ++ cutV (ys.map V.str) (some (i + 1)) none = (ys.eraseIdx i.toNat).map V.str := by
  rw [cutV_to h0, cutV_from (by omega), ← List.map_take, ← List.map_drop, ← List.map_append]
  congr 1
  rw [List.eraseIdx_eq_take_drop_succ]
  congr 2
  omega
def rfV : Rf → V
  | .ticket i => .int i
  | .place i => .int i
  | .taken z => .str z
def rfF : Rf → Str
  | .ticket _ => "ticket"
  | .place _ => "place"
  | .taken _ => "name"
def rfC (K : PySem.W.Frag) : Rf → Addr
  | .ticket _ => He.ga K "NoTicket"
  | .place _ => He.ga K "NoPlace"
  | .taken _ => He.ga K "Taken"
def sp_moved (K : PySem.W.Frag) : Sp := fun vs H Q E => ∃ (S M : Addr) (xs : Tb) (ms : List Mv), vs = [.ref S, .ref M] ∧ rTb H (.ref S) xs ∧ TbOk xs ∧ rL rMv H (.ref M) ms ∧ ms.length ≤ 100 ∧
  (∀ D (ts : List (Int × Addr × List Str)) H', mvd xs ms = .ok (tbOf ts) → H D = none → (∀ t ∈ ts, H t.2.1 = none) → (ts.map (·.2.1)).Nodup → Step [] H H' → TabAt H' D ts → Q (.ref D) H') ∧
  (∀ d r H', mvd xs ms = .error r → H d = none → Step [] H H' → H' d = some (.xd [(rfF r, rfV r)]) → E (.ref (rfC K r)) (some d) H')
section
variable {P : Program} {w : World} {K : PySem.W.Frag} {mg : Str → Option Value} {base : Heap}
theorem ok_moved (C : Ctx K mg) : Has P w K mg base (L2.CX P w) 3 "moved" ["table", "moves"] (sp_moved K) := by
  obtain ⟨fd, F⟩ := fn_moved C
  have X_NoTicket := ox_NoTicket (P := P) (w := w) (base := base) C
  obtain ⟨fd_NoTicket_init, G_NoTicket_init, b_NoTicket_init⟩ := X_NoTicket.ex
  have X_NoPlace := ox_NoPlace (P := P) (w := w) (base := base) C
  obtain ⟨fd_NoPlace_init, G_NoPlace_init, b_NoPlace_init⟩ := X_NoPlace.ex
  have X_Taken := ox_Taken (P := P) (w := w) (base := base) C
  obtain ⟨fd_Taken_init, G_Taken_init, b_Taken_init⟩ := X_Taken.ex
  refine ⟨⟨_, fd, ?_, gl_moved C, F.kp, F.bindsN fun _ _ _ _ _ _ us hl => match us, hl with | [_, _], _ => rfl⟩⟩
  refine F.ok (CX := L2.CX P w) sc_moved (fun vs H Q E h => ?_) (fun cdv A outer s H vs Q E hr h => ?_)
  · first | (obtain ⟨_, rfl, _⟩ := h; rfl) | (obtain ⟨_, _, rfl, _⟩ := h; rfl) | (obtain ⟨_, _, _, rfl, _⟩ := h; rfl) | (obtain ⟨_, _, _, _, rfl, _⟩ := h; rfl) | (obtain ⟨_, _, _, _, _, rfl, _⟩ := h; rfl) | (obtain ⟨_, _, _, _, _, _, rfl, _⟩ := h; rfl) | (obtain ⟨_, _, _, _, _, _, _, rfl, _⟩ := h; rfl) | (obtain ⟨_, _, _, _, _, _, _, _, rfl, _⟩ := h; rfl) | (obtain ⟨_, _, _, _, _, _, _, _, _, rfl, _⟩ := h; rfl) | (obtain ⟨_, _, _, _, _, _, _, _, _, _, rfl, _⟩ := h; rfl) | (obtain ⟨_, _, _, _, _, _, _, _, _, _, _, rfl, _⟩ := h; rfl) | (obtain ⟨_, _, _, _, _, _, _, _, _, _, _, _, rfl, _⟩ := h; rfl)
  have hu := hu_of hr
  refine ⟨_, (pss_cons (ps_lock (ps_setDc (i := 3) (own := [("ticket", 2), ("homes", 7)]) (g := (gTup K 2 (gCons (gName 2) (gCons (gName 7) gNil)))) (tt := tYes) rfl sc_moved.nd rfl rfl (sw_trueD rfl rfl rfl (by decide +kernel)) (pi_items (pv 0)) (blkOk_by (N := N_moved) (sc := defScope s_moved) (own := [("ticket", 2), ("homes", 7)]) (by decide +kernel)) (fun _ _ _ _ _ => (pg_tup rfl (pgs_cons (pg_name (i := 2) sc_moved.nd rfl (Or.inl rfl)) (pgs_cons (pg_name (i := 7) sc_moved.nd rfl (Or.inl rfl)) pgs_nil)))) (fun _ _ _ _ _ => pts_nil) (fun _ _ _ _ _ => (pv 2)) (fun _ _ _ _ _ => (pe_callTy (kCall (K := K) (r := rListL) cr_listL) (by rfl) (fr_list C) (by decide +kernel) (pa_cons (pv 7) pa_nil)))))
    (pss_cons (ps_for (passes_of rfl) rfl (pi_list (pv 1)) (pg_tup rfl (pgs_cons (pg_name (i := 2) sc_moved.nd rfl (Or.inl rfl)) (pgs_cons (pg_name (i := 4) sc_moved.nd rfl (Or.inl rfl)) (pgs_cons (pg_name (i := 5) sc_moved.nd rfl (Or.inl rfl)) (pgs_cons (pg_name (i := 6) sc_moved.nd rfl (Or.inl rfl)) pgs_nil)))))
    (pss_cons (ps_if (pt_cmp (pc_dnotin hu (pv 2) (pv 3))) (pss_one (ps_raise rfl (takes_of rfl rfl rfl rfl) (pmk_oex X_NoTicket.tx.ox X_NoTicket.tx.ini X_NoTicket.tx.tI G_NoTicket_init (hr.mono (by decide)) b_NoTicket_init .nil pass0 rfl X_NoTicket.mg (pa_cons (pv 2) pa_nil)))) pss_nil)
    (pss_cons (ps_if (pt_cut (PW.pt (pw_or (pt_cmpR op_lt (pv 4) pe_int (nomark _)) (pw_or1 (pt_cmpR op_ge (pv 4) (pe_callB cr_lenL (by rfl) (fr_len C) PySem.boot_len (pa_cons (pe_dget hu (pv 3) (pv 2) (fun _ _ => rfl)) pa_nil)) (nomark _)))))) (pss_one (ps_raise rfl (takes_of rfl rfl rfl rfl) (pmk_oex X_NoPlace.tx.ox X_NoPlace.tx.ini X_NoPlace.tx.tI G_NoPlace_init (hr.mono (by decide)) b_NoPlace_init .nil pass0 rfl X_NoPlace.mg (pa_cons (pv 4) pa_nil)))) pss_nil)
    (pss_cons (ps_if (pt_cmpR op_in_seq (pv 6) (pe_op op_cat (pe_slice sl_list (pe_dget hu (pv 3) (pv 2) (fun _ _ => rfl)) po_none (po_some (pv 4))) (pe_slice sl_list (pe_dget hu (pv 3) (pv 2) (fun _ _ => rfl)) (po_some (pe_op op_add (pv 4) pe_int)) po_none)) (by rfl)) (pss_one (ps_raise rfl (takes_of rfl rfl rfl rfl) (pmk_oex X_Taken.tx.ox X_Taken.tx.ini X_Taken.tx.tI G_Taken_init (hr.mono (by decide)) b_Taken_init .nil pass0 rfl X_Taken.mg (pa_cons (pv 6) pa_nil)))) pss_nil)
    (pss_one (ps_asg (pv 6) (pg_sub (pe_dget hu (pv 3) (pv 2) (fun _ _ => rfl)) (pv 4) set_list)))))))
    (pss_one (ps_ret (pv 3))))), ?_⟩
  obtain ⟨S, M, xs, ms, rfl, hS, tok, hM, hlm, qo, qe⟩ := h
  obtain ⟨_, kvs, ⟨⟩, hS1, hSp⟩ := id hS
  obtain ⟨_, mvs, ⟨⟩, hM1, hMp⟩ := id hM
  have SM : S ≠ M := fun e => by rw [e, hM1] at hS1; cases hS1
  have lk := P_len hSp
  have lx := tok.len
  refine g_lock hS1 fun od H1 s1 e1 => ?_
  walk_at "go"
  refine g_kItems e1 (wDc_items fun D H2 hD s2 e2 => ?_)
  have SD : S ≠ D := ne_of_none e1 hD
  have hD0 : H D = none := s1.fresh hD
  refine ⟨fun i H' => ∃ ts : TT, tbOf ts = xs.take i ∧ (∀ t ∈ ts, H t.2.1 = none ∧ t.2.1 ≠ D) ∧ (ts.map (·.2.1)).Nodup ∧ TabAt H' D ts ∧ H' S = some (.frz od (.dK kvs)) ∧ Step [S] H H', ⟨[], by simp [tbOf], by simp, List.nodup_nil, ⟨e2, by simp⟩, s2.at0 e1, s1.trans s2.up⟩, (fun i H' _ ⟨ts, _, _, _, _, g5, _⟩ => g5), ?_, ?_⟩
  · rintro i p H5 H6 T hx ⟨ts, g1, g2, g3, g4, g5, g6⟩ hT t1 u1
    obtain ⟨⟨z, hs⟩, hz, hk, hv⟩ := P_get hSp hx
    have hk : p.1 = Sum.inl z := hk
    obtain ⟨l, el, hl⟩ := rLS_at hv
    have lS : l ≠ S := fun e => by rw [e, hS1] at hl; cases hl
    have G6 := g6.trans t1.up
    rw [hk, el]
    walk_at "go"
    refine g_listL (G6.at1 hl lS) fun l2 H7 hl2 t2 u2 => ?_
    walk_at "go"
    have hl2H : H l2 = none := G6.fresh hl2
    obtain ⟨p1, p2, p3⟩ := tab_snoc l2 tok.nd g1 hz
    have d7 := t2.at0 (t1.at0 g4.dk)
    have l2D : l2 ≠ D := fun e => by rw [e, d7] at u2; cases u2
    have hi : i < xs.length := (List.getElem?_eq_some_iff.mp hz).1
    refine g_kElD d7 (ltLine (by rw [List.length_map]; omega)) fun H8 t3 u3 => ?_
    rw [p1] at u3
    have T3 := (G6.trans t2.up).via t3 hD0
    refine ⟨ts ++ [(z, l2, hs)], p2, fun t ht => ?_, ?_, ⟨u3, fun t ht => ?_⟩, t3.at1 (t2.at0 (t1.at0 g5)) SD, T3⟩
    · rcases List.mem_append.mp ht with ht | ht
      · exact g2 t ht
      · rw [List.mem_singleton.mp ht]; exact ⟨hl2H, l2D⟩
    · rw [List.map_append]
      refine nd_snoc g3 fun hm => ?_
      obtain ⟨t, ht, et⟩ := List.mem_map.mp hm
      have := t1.at0 (g4.ls t ht)
      rw [et, hl2] at this
      cases this
    · rcases List.mem_append.mp ht with ht | ht
      · exact t3.at1 (t2.at0 (t1.at0 (g4.ls t ht))) (g2 t ht).2
      · rw [List.mem_singleton.mp ht]
        exact t3.at1 u2 l2D
  · rintro H5 ⟨ts, g1, g2, g3, g4, g5, g6⟩
    rw [lk, List.take_length] at g1
    walk_at "go"
    refine g_lk g5 fun H6 s6 e6 => ?_
    have S6 : Step [] H H6 := (g6.trans s6).back fun o e => by rw [hS1] at e; cases e; exact e6
    have lS : ∀ t ∈ ts, t.2.1 ≠ S := fun t ht => (ne_of_none hS1 (g2 t ht).1).symm
    have T6 : TabAt H6 D ts := g4.step s6 (by simpa using SD.symm) fun t ht => by simpa using lS t ht
    walk_at "go"
    refine g_kList (S6.at0 hM1) (wFor_list (xs := mvs) (fun i σ H' => ∃ (ts : TT) (v2 v4 v5 v6 v7 : Option V), σ = [some (.ref S), some (.ref M), v2, some (.ref D), v4, v5, v6, v7] ∧ mvd xs (ms.take i) = .ok (tbOf ts) ∧ (∀ t ∈ ts, H t.2.1 = none ∧ t.2.1 ≠ D ∧ t.2.2.length ≤ 10) ∧ (ts.map (·.2.1)).Nodup ∧ (ts.map (·.1)).Nodup ∧ TabAt H' D ts ∧ Step [] H H')
      ⟨ts, _, _, _, _, _, rfl, by rw [g1]; rfl, fun t ht => ⟨(g2 t ht).1, (g2 t ht).2, ?_⟩, g3, ?_, T6, S6⟩ ?_ ?_ ?_)
    · have hm : (t.1, t.2.2) ∈ xs := by rw [← g1]; exact List.mem_map.mpr ⟨t, ht, rfl⟩
      exact (tok.nm _ hm).2.2.2
    · have := tok.nd
      rw [← g1] at this
      unfold tbOf at this
      rwa [List.map_map] at this
    · rintro i σ H7 _ ⟨ts, v2, v4, v5, v6, v7, rfl, k1, k2, k3, k4, k5, k6⟩
      exact k6.at0 hM1
    · rintro i x σ H7 hx ⟨ts, v2, v4, v5, v6, v7, rfl, k1, k2, k3, k4, k5, k6⟩
      obtain ⟨⟨tk, pl, fr, to⟩, hm, hr⟩ := P_get hMp hx
      obtain ⟨T, _, _, _, _, rfl, hT, rfl, rfl, rfl, rfl⟩ := hr
      dsimp only at hT
      refine g_tup4 (k6.at0 hT) ?_
      walk_at "go"
      refine g_kDNotIn (.inl k5.dk) ?_
      walk_at "go"
      rcases k5.look tk with ⟨e1, e2⟩ | ⟨t, ht, rfl, e1, e2⟩
      · rw [e1]
        refine iteT ?_
        walk_at "go"
        refine g_kMkO rfl (Nat.le_of_ble_eq_true rfl) fun d H8 hd t8 e8 => ?_
        refine qe d (.ticket tk) H8 (mvd_err k1 hm ?_) (k6.fresh hd) (k6.trans t8) e8
        unfold mv1
        rw [e2]
      · rw [e1]
        refine iteF ?_
        walk_at "go"
        obtain ⟨tk, la, hs⟩ := t
        have hdl := k5.ls _ ht
        obtain ⟨f1, f2, f3⟩ := k2 _ ht
        dsimp only at hdl f1 f2 f3 e1 e2 hm ⊢
        refine g_tcut (fun b H' => b = decide (pl < 0 ∨ (hs.length : Int) ≤ pl) ∧ H' = H7) ?_ ?_
        · walk_at "go"
          refine g_ite (fun hp => ⟨(decide_eq_true (.inl hp)).symm, rfl⟩) (fun hp => ?_)
          walk_at "go"
          refine g_kDGet (.inl k5.dk) e1 ?_
          walk_at "go"
          refine ⟨?_, rfl⟩
          rw [List.length_map]
          exact decide_eq_decide.mpr ⟨.inr, fun z => z.resolve_left hp⟩
        · rintro b H' ⟨rfl, rfl⟩
          refine g_ite (fun hp => ?_) (fun hp => ?_)
          · walk_at "go"
            refine g_kMkO rfl (Nat.le_of_ble_eq_true rfl) fun d H8 hd t8 e8 => ?_
            refine qe d (.place pl) H8 (mvd_err k1 hm ?_) (k6.fresh hd) (k6.trans t8) e8
            unfold mv1
            dsimp only
            rw [e2]
            dsimp only
            rw [if_neg (by omega)]
          · have hp0 : 0 ≤ pl := by omega
            have hp1 : pl < (hs.length : Int) := by omega
            walk_at "go"
            refine g_kDGet (.inl k5.dk) e1 ?_
            walk_at "go"
            refine g_slL hdl fun l1 H8 hl1 t8 u8 => ?_
            walk_at "go"
            refine g_kDGet (.inl (t8.at0 k5.dk)) e1 ?_
            walk_at "go"
            refine g_slL (t8.at0 hdl) fun l2 H9 hl2 t9 u9 => ?_
            refine g_cat (t9.at0 u8) u9 (leLine ?_) fun l3 H10 hl3 t10 u10 => ?_
            · rw [← List.length_append, cut_rest hp0 hp1, List.length_map]
              have := List.length_eraseIdx_le hs pl.toNat
              omega
            rw [cut_rest hp0 hp1] at u10
            have T10 := ((t8.trans t9).trans t10)
            refine g_inS u10 ?_
            walk_at "go"
            refine g_ite (fun hin => ?_) (fun hin => ?_)
            · walk_at "go"
              refine g_kMkO rfl (Nat.le_of_ble_eq_true rfl) fun d H8 hd t8 e8 => ?_
              have S8 := k6.trans (T10.trans t8)
              refine qe d (.taken to) H8 (mvd_err k1 hm ?_) (k6.fresh (T10.fresh hd)) S8 e8
              unfold mv1
              dsimp only
              rw [e2]
              dsimp only
              rw [if_pos ⟨hp0, hp1⟩, if_pos hin]
            · walk_at "go"
              refine g_kDGet (.inl (T10.at0 k5.dk)) e1 ?_
              walk_at "go"
              refine g_setL (T10.at0 hdl) (ixN_in hp0 (by rw [List.length_map]; exact hp1)) fun H11 t11 u11 => ?_
              rw [← List.map_set] at u11
              walk_at "go"
              have K11 := (k5.step0 T10).upd ht k4 k3 f2 t11 u11
              refine ⟨_, _, _, _, _, _, rfl, mvd_ok k1 hm ?_, fun u hu => ?_, by rw [updT_ad]; exact k3, by rw [updT_ks]; exact k4, K11, (k6.trans T10).via t11 f1⟩
              · unfold mv1
                dsimp only
                rw [e2]
                dsimp only
                rw [if_pos ⟨hp0, hp1⟩, if_neg hin, tbOf_upd]
              · obtain ⟨v, hv, w1, w2, w3⟩ := updT_mem hu
                rw [w2]
                refine ⟨(k2 v hv).1, (k2 v hv).2.1, ?_⟩
                rcases w3 with ⟨_, w3⟩ | ⟨_, w3⟩
                · rw [w3, List.length_set]; exact f3
                · rw [w3]; exact (k2 v hv).2.2
    · rintro σ H7 ⟨ts, v2, v4, v5, v6, v7, rfl, k1, k2, k3, k4, k5, k6⟩
      walk_at "go"
      rw [P_len hMp, List.take_length] at k1
      exact qo D ts H7 k1 hD0 (fun t ht => (k2 t ht).1) k3 k6 k5
end

end My
namespace My
open PySem PySem.Spec PyProof.Rows L2
/-! the law's own reckoning -/
def rfS : Rf → Str
  | .ticket _ => "ticket"
  | .place _ => "place"
  | .taken _ => "taken"
/-- what due and asked tell: a table of one's own, or a pair -/
def Told (H0 H : Hp) (p : Addr) (r : Except Rf Tb) : Prop := match r with
  | .ok ys => ∃ ts : TT, tbOf ts = ys ∧ (∀ t ∈ ts, H0 t.2.1 = none) ∧ (ts.map (·.2.1)).Nodup ∧ TabAt H p ts
  | .error r => H p = some (.tup [.str (rfS r), rfV r])
def sp_w_due : Sp := fun vs H Q _ => ∃ (S M : Addr) (xs : Tb) (ms : List Mv), vs = [.ref S, .ref M] ∧ rTb H (.ref S) xs ∧ TbOk xs ∧ rL rMv H (.ref M) ms ∧ ms.length ≤ 100 ∧
  ∀ p H', H p = none → Step [] H H' → Told H H' p (mvd xs ms) → Q (.ref p) H'
def sp_w_asked : Sp := fun vs H Q _ => ∃ (S M : Addr) (xs : Tb) (ms : List Mv), vs = [.ref S, .ref M] ∧ rTb H (.ref S) xs ∧ TbOk xs ∧ rL rMv H (.ref M) ms ∧ ms.length ≤ 100 ∧
  ∀ p H', H p = none → Step [] H H' → Told H H' p (mvd xs ms) → Q (.ref p) H'
section
variable {P : Program} {w : World} {K : PySem.W.Frag} {mg : Str → Option Value} {base : Heap}
theorem ok_w_due (C : Ctx K mg) : Has P w K mg base CX0 2 "_law_due" ["some", "steps"] sp_w_due := by
  obtain ⟨fd, F⟩ := fn_w_due C
  obtain ⟨f_w_copy, fd_w_copy, G_w_copy, mg_w_copy, kp_w_copy, b_w_copy⟩ := (ok_w_copy (P := P) (w := w) (base := base) C).ex
  refine ⟨⟨_, fd, ?_, gl_w_due C, F.kp, F.bindsN fun _ _ _ _ _ _ us hl => match us, hl with | [_, _], _ => rfl⟩⟩
  refine F.ok (CX := CX0) sc_w_due (fun vs H Q E h => ?_) (fun cdv A outer s H vs Q E hr h => ?_)
  · first | (obtain ⟨_, rfl, _⟩ := h; rfl) | (obtain ⟨_, _, rfl, _⟩ := h; rfl) | (obtain ⟨_, _, _, rfl, _⟩ := h; rfl) | (obtain ⟨_, _, _, _, rfl, _⟩ := h; rfl) | (obtain ⟨_, _, _, _, _, rfl, _⟩ := h; rfl) | (obtain ⟨_, _, _, _, _, _, rfl, _⟩ := h; rfl) | (obtain ⟨_, _, _, _, _, _, _, rfl, _⟩ := h; rfl) | (obtain ⟨_, _, _, _, _, _, _, _, rfl, _⟩ := h; rfl) | (obtain ⟨_, _, _, _, _, _, _, _, _, rfl, _⟩ := h; rfl) | (obtain ⟨_, _, _, _, _, _, _, _, _, _, rfl, _⟩ := h; rfl) | (obtain ⟨_, _, _, _, _, _, _, _, _, _, _, rfl, _⟩ := h; rfl) | (obtain ⟨_, _, _, _, _, _, _, _, _, _, _, _, rfl, _⟩ := h; rfl)
  have hu := hu_of hr
  refine ⟨_, PSs.nox (pss_cons (ps_set (i := 2) sc_w_due.nd rfl (Or.inr rfl) (pe_call G_w_copy (hr.mono (by decide)) rfl mg_w_copy kp_w_copy b_w_copy .nil pass0 (pa_cons (pv 0) pa_nil)))
    (pss_cons (ps_for PassesOwn.never rfl (pi_list (pv 1)) (pg_tup rfl (pgs_cons (pg_name (i := 3) sc_w_due.nd rfl (Or.inr rfl)) (pgs_cons (pg_name (i := 4) sc_w_due.nd rfl (Or.inr rfl)) (pgs_cons (pg_name (i := 5) sc_w_due.nd rfl (Or.inl rfl)) (pgs_cons (pg_name (i := 6) sc_w_due.nd rfl (Or.inr rfl)) pgs_nil)))))
    (pss_cons (ps_if (pt_cmp (pc_dnotin hu (pv 3) (pv 2))) (pss_one (ps_ret (pe_tup (pa_cons pe_str (pa_cons (pv 3) pa_nil))))) pss_nil)
    (pss_cons (ps_if (pt_cmpR op_notInRng (pv 4) (pe_callTy cr_rngV (by rfl) (fr_range C) (by decide +kernel) (pa_cons (pe_callB cr_lenL (by rfl) (fr_len C) PySem.boot_len (pa_cons (pe_dget hu (pv 2) (pv 3) (fun _ _ => rfl)) pa_nil)) pa_nil)) (by rfl)) (pss_one (ps_ret (pe_tup (pa_cons pe_str (pa_cons (pv 4) pa_nil))))) pss_nil)
    (pss_cons (ps_if (pt_cmpR (op_neD hr.units) (pe_lc (own := [("k", 7)]) (g := (gName 7)) rfl sc_w_due.nd (pi_range1 rfl (fr_range C) (pa_cons (pe_callB cr_lenL (by rfl) (fr_len C) PySem.boot_len (pa_cons (pe_dget hu (pv 2) (pv 3) (fun _ _ => rfl)) pa_nil)) pa_nil)) (blkOk_by (N := N_w_due) (sc := defScope s_w_due) (own := [("k", 7)]) (by decide +kernel)) (fun _ _ _ _ _ => (pg_name (i := 7) sc_w_due.nd rfl (Or.inl rfl))) (fun _ _ _ _ _ => (pts_one (pt_cut (PW.pt (pw_and (pt_cmpR op_ne (pv 7) (pv 4) (nomark _)) (pw_and1 (pt_cmpR op_eq (pe_ix (kIx (K := K) (r := rIxL) ix_list) (pe_dget hu (pv 2) (pv 3) (fun _ _ => rfl)) (pv 7) (fun _ _ => rfl)) (pv 6) (nomark _)))))))) (fun _ _ _ _ _ => (pv 7))) (pe_lst pa_nil) (nomark _)) (pss_one (ps_ret (pe_tup (pa_cons pe_str (pa_cons (pv 6) pa_nil))))) pss_nil)
    (pss_one (ps_asg (pv 6) (pg_sub (pe_dget hu (pv 2) (pv 3) (fun _ _ => rfl)) (pv 4) set_list)))))))
    (pss_one (ps_ret (pv 2))))), ?_⟩
  obtain ⟨S, M, xs, ms, rfl, hS, tok, hM, hlm, q⟩ := h
  obtain ⟨_, mvs, ⟨⟩, hM1, hMp⟩ := id hM
  have lx := tok.len
  walk_at "go"
  refine ⟨S, xs, rfl, hS, tok.nd, by omega, fun D ts H1 hD0 fr nd et S6 T6 => ?_⟩
  walk_at "go"
  refine g_kList (S6.at0 hM1) (wFor_list (xs := mvs) (fun i σ H' => ∃ (ts : TT) (v3 v4 v5 v6 v7 : Option V), σ = [some (.ref S), some (.ref M), some (.ref D), v3, v4, v5, v6, v7] ∧ mvd xs (ms.take i) = .ok (tbOf ts) ∧ (∀ t ∈ ts, H t.2.1 = none ∧ t.2.1 ≠ D ∧ t.2.2.length ≤ 10) ∧ (ts.map (·.2.1)).Nodup ∧ (ts.map (·.1)).Nodup ∧ TabAt H' D ts ∧ Step [] H H')
    ⟨ts, _, _, _, _, _, rfl, by rw [et]; rfl, fun t ht => ⟨fr t ht, ?_, ?_⟩, nd, ?_, T6, S6⟩ ?_ ?_ ?_)
  · have := T6.ls t ht
    intro e
    rw [e, T6.dk] at this
    cases this
  · have hm : (t.1, t.2.2) ∈ xs := by rw [← et]; exact List.mem_map.mpr ⟨t, ht, rfl⟩
    exact (tok.nm _ hm).2.2.2
  · have := tok.nd
    rw [← et] at this
    unfold tbOf at this
    rwa [List.map_map] at this
  · rintro i σ H7 _ ⟨ts, v2, v4, v5, v6, v7, rfl, k1, k2, k3, k4, k5, k6⟩
    exact k6.at0 hM1
  · rintro i x σ H7 hx ⟨ts, v2, v4, v5, v6, v7, rfl, k1, k2, k3, k4, k5, k6⟩
    obtain ⟨⟨tk, pl, fo, to⟩, hm, hr⟩ := P_get hMp hx
    obtain ⟨T, _, _, _, _, rfl, hT, rfl, rfl, rfl, rfl⟩ := hr
    dsimp only at hT
    refine g_tup4 (k6.at0 hT) ?_
    walk_at "go"
    refine g_kDNotIn (.inl k5.dk) ?_
    walk_at "go"
    rcases k5.look tk with ⟨e1, e2⟩ | ⟨t, ht, rfl, e1, e2⟩
    · rw [e1]
      refine iteT ?_
      walk_at "go"
      intro p H8 hp t8 e8
      refine q p H8 (k6.fresh hp) (k6.trans t8) ?_
      have e : mvd xs ms = .error (.ticket tk) := mvd_err k1 hm (by unfold mv1; rw [e2])
      rw [e]
      exact e8
    · rw [e1]
      refine iteF ?_
      obtain ⟨tk, la, hs⟩ := t
      have hdl := k5.ls _ ht
      obtain ⟨f1, f2, f3⟩ := k2 _ ht
      dsimp only at hdl f1 f2 f3 e1 e2 hm ⊢
      walk_at "go"
      refine g_kDGet (.inl k5.dk) e1 ?_
      walk_at "go"
      rw [List.length_map]
      refine g_rngV fun r H8 hr t8 e8 => ?_
      refine g_notInRng e8 ?_
      walk_at "go"
      refine g_iteN (fun hp => ?_) (fun hp => ?_)
      · walk_at "go"
        intro p H9 hp2 t9 e9
        refine q p H9 (k6.fresh (t8.fresh hp2)) ((k6.trans t8).trans t9) ?_
        have e : mvd xs ms = .error (.place pl) := mvd_err k1 hm (by unfold mv1; dsimp only; rw [e2]; dsimp only; rw [if_neg hp])
        rw [e]
        exact e9
      · have S8 := k6.trans t8
        have hdl8 := t8.at0 hdl
        have K8 := k5.step0 t8
        walk_at "go"
        refine g_kDGet (.inl K8.dk) e1 ?_
        walk_at "go"
        rw [List.length_map]
        refine g_kRng1 (by omega) (by omega) ?_
        refine wLc_rng fun L H9 hL t9 e9 => ?_
        refine ⟨fun i H' => ∃ ks : List Int, H' L = some (.lst (ks.map V.int)) ∧ ks.length ≤ i ∧ (ks = [] ↔ ∀ j : Nat, j < i → (j : Int) ≠ pl → hs[j]? ≠ some to) ∧ Step [] H8 H', ⟨[], e9, by simp, by simp, t9⟩, ?_, ?_⟩
        · rintro j H10 hj ⟨ks, w1, w2, w3, w4⟩
          have hj : j < hs.length := by omega
          walk_at "go"
          simp only [Int.zero_add]
          refine g_tcut (fun b H' => b = decide (¬ (j : Int) = pl ∧ hs[j]? = some to) ∧ H' = H10) ?_ ?_
          · walk_at "go"
            refine g_iteN (fun hne => ?_) (fun he => ⟨(decide_eq_false fun z => z.1 he).symm, rfl⟩)
            walk_at "go"
            refine g_kDGet (.inl (w4.at0 K8.dk)) e1 ?_
            walk_at "go"
            refine g_ixL (w4.at0 hdl8) (v := .str hs[j]) (at_nat (by rw [List.getElem?_map, List.getElem?_eq_getElem hj]; rfl)) ?_
            walk_at "go"
            refine ⟨decide_eq_decide.mpr ?_, rfl⟩
            rw [List.getElem?_eq_getElem hj]
            exact ⟨fun z => ⟨hne, by rw [z]⟩, fun z => Option.some.inj z.2⟩
          · rintro b H' ⟨rfl, rfl⟩
            refine g_kTst (g_ite (fun hb => ?_) (fun hb => ?_))
            · walk_at "go"
              refine g_kEl w1 (ltLine (by rw [List.length_map]; omega)) fun H11 t11 u11 => ?_
              refine ⟨ks ++ [(j : Int)], by rw [u11, List.map_append]; rfl, by rw [List.length_append, List.length_singleton]; omega, ⟨fun z => ?_, fun z => ?_⟩, w4.via t11 hL⟩
              · simp at z
              · exact absurd hb.2 (z j (Nat.lt_succ_self j) hb.1)
            · refine ⟨ks, w1, by omega, w3.trans ⟨fun z k hk hne => ?_, fun z k hk => z k (by omega)⟩, w4⟩
              rcases Nat.lt_succ_iff_lt_or_eq.mp hk with hk | rfl
              · exact z k hk hne
              · exact fun e => hb ⟨hne, e⟩
        · rintro H10 ⟨ks, w1, w2, w3, w4⟩
          walk_at "go"
          intro l2 H11 hl2 t11 e11
          walk_at "go"
          have hin : to ∈ hs.eraseIdx pl.toNat ↔ ¬ ks = [] := by
            rw [List.mem_eraseIdx_iff_getElem?, w3]
            constructor
            · rintro ⟨k, hk, e⟩ z
              have hl := (List.getElem?_eq_some_iff.mp e).1
              exact z k (by omega) (by omega) e
            · intro z
              refine Classical.byContradiction fun hn => z fun k hk hne e => hn ⟨k, by omega, e⟩
          have S11 := S8.trans (w4.trans t11)
          have K11 := (K8.step0 w4).step0 t11
          refine g_neC (cL cI) (x := ks) (y := []) (rLI_of (t11.at0 w1)) (rLI_of e11) (fun _ _ => trivial) (fun _ _ => trivial) ?_
          walk_at "go"
          refine g_iteN (fun hb => ?_) (fun hb => ?_)
          · walk_at "go"
            intro p H12 hp12 t12 e12
            refine q p H12 (S11.fresh hp12) (S11.trans t12) ?_
            have e : mvd xs ms = .error (.taken to) := mvd_err k1 hm (by unfold mv1; dsimp only; rw [e2]; dsimp only; rw [if_pos hp, if_pos (hin.mpr hb)])
            rw [e]
            exact e12
          · walk_at "go"
            refine g_kDGet (.inl K11.dk) e1 ?_
            walk_at "go"
            refine g_setL (t11.at0 (w4.at0 hdl8)) (ixN_in hp.1 (by rw [List.length_map]; exact hp.2)) fun H12 t12 u12 => ?_
            rw [← List.map_set] at u12
            walk_at "go"
            have K12 := K11.upd ht k4 k3 f2 t12 u12
            refine ⟨_, _, _, _, _, _, rfl, mvd_ok k1 hm ?_, fun u hu => ?_, by rw [updT_ad]; exact k3, by rw [updT_ks]; exact k4, K12, S11.via t12 f1⟩
            · unfold mv1
              dsimp only
              rw [e2]
              dsimp only
              rw [if_pos hp, if_neg (fun z => hin.mp z hb), tbOf_upd]
            · obtain ⟨v, hv, w1, w2, w3⟩ := updT_mem hu
              rw [w2]
              refine ⟨(k2 v hv).1, (k2 v hv).2.1, ?_⟩
              rcases w3 with ⟨_, w3⟩ | ⟨_, w3⟩
              · rw [w3, List.length_set]; exact f3
              · rw [w3]; exact (k2 v hv).2.2
  · rintro σ H7 ⟨ts, v2, v4, v5, v6, v7, rfl, k1, k2, k3, k4, k5, k6⟩
    walk_at "go"
    rw [P_len hMp, List.take_length] at k1
    refine q D H7 hD0 k6 ?_
    rw [k1]
    exact ⟨ts, rfl, fun t ht => (k2 t ht).1, k3, k5⟩
theorem ok_w_asked (C : Ctx K mg) : Has P w K mg base CX0 4 "_law_asked" ["table", "steps"] sp_w_asked := by
  obtain ⟨fd, F⟩ := fn_w_asked C
  obtain ⟨f_moved, fd_moved, G_moved, mg_moved, kp_moved, b_moved⟩ := (ok_moved (P := P) (w := w) (base := base) C).ex
  have X_Taken := ox_Taken (P := P) (w := w) (base := base) C
  obtain ⟨fd_Taken_init, G_Taken_init, b_Taken_init⟩ := X_Taken.ex
  have X_NoPlace := ox_NoPlace (P := P) (w := w) (base := base) C
  obtain ⟨fd_NoPlace_init, G_NoPlace_init, b_NoPlace_init⟩ := X_NoPlace.ex
  have X_NoTicket := ox_NoTicket (P := P) (w := w) (base := base) C
  obtain ⟨fd_NoTicket_init, G_NoTicket_init, b_NoTicket_init⟩ := X_NoTicket.ex
  refine ⟨⟨_, fd, ?_, gl_w_asked C, F.kp, F.bindsN fun _ _ _ _ _ _ us hl => match us, hl with | [_, _], _ => rfl⟩⟩
  refine F.ok (CX := CX0) sc_w_asked (fun vs H Q E h => ?_) (fun cdv A outer s H vs Q E hr h => ?_)
  · first | (obtain ⟨_, rfl, _⟩ := h; rfl) | (obtain ⟨_, _, rfl, _⟩ := h; rfl) | (obtain ⟨_, _, _, rfl, _⟩ := h; rfl) | (obtain ⟨_, _, _, _, rfl, _⟩ := h; rfl) | (obtain ⟨_, _, _, _, _, rfl, _⟩ := h; rfl) | (obtain ⟨_, _, _, _, _, _, rfl, _⟩ := h; rfl) | (obtain ⟨_, _, _, _, _, _, _, rfl, _⟩ := h; rfl) | (obtain ⟨_, _, _, _, _, _, _, _, rfl, _⟩ := h; rfl) | (obtain ⟨_, _, _, _, _, _, _, _, _, rfl, _⟩ := h; rfl) | (obtain ⟨_, _, _, _, _, _, _, _, _, _, rfl, _⟩ := h; rfl) | (obtain ⟨_, _, _, _, _, _, _, _, _, _, _, rfl, _⟩ := h; rfl) | (obtain ⟨_, _, _, _, _, _, _, _, _, _, _, _, rfl, _⟩ := h; rfl)
  have hu := hu_of hr
  refine ⟨_, PSs.nox (pss_cons (ps_set (i := 2) sc_w_asked.nd rfl (Or.inl rfl) pe_non)
    (pss_cutM (ps_try_A rfl rfl sc_w_asked.nd takes0 (fun W pn xe tk ppt => (pss_one (ps_set (i := 2) sc_w_asked.nd rfl (Or.inl rfl) (pe_callS G_moved (hr.mono (by decide)) rfl mg_moved kp_moved b_moved (fun σ => passAt tk σ) (pa_cons (pv 0) (pa_cons (pv 1) pa_nil))))))
    (HdsA.consAs (i := 3) rfl rfl ⟨rfl, by decide, .inl X_NoTicket.mg⟩ (fun a oe cls d pn hz hf => (pss_one (ps_set (i := 2) sc_w_asked.nd rfl (Or.inl rfl) (pe_tup (pa_cons pe_str (pa_cons (pe_xf X_NoTicket.tx.xf (X_NoTicket.tx.no _ (by decide)) hz hf (pv 3)) pa_nil))))))
    (HdsA.consAs (i := 3) rfl rfl ⟨rfl, by decide, .inl X_NoPlace.mg⟩ (fun a oe cls d pn hz hf => (pss_one (ps_set (i := 2) sc_w_asked.nd rfl (Or.inl rfl) (pe_tup (pa_cons pe_str (pa_cons (pe_xf X_NoPlace.tx.xf (X_NoPlace.tx.no _ (by decide)) hz hf (pv 3)) pa_nil))))))
    (HdsA.consAs (i := 3) rfl rfl ⟨rfl, by decide, .inl X_Taken.mg⟩ (fun a oe cls d pn hz hf => (pss_one (ps_set (i := 2) sc_w_asked.nd rfl (Or.inl rfl) (pe_tup (pa_cons pe_str (pa_cons (pe_xf X_Taken.tx.xf (X_Taken.tx.no _ (by decide)) hz hf (pv 3)) pa_nil))))))
    HdsA.nil))))
    (pss_one (ps_ret (pv 2))))), ?_⟩
  obtain ⟨S, M, xs, ms, rfl, hS, tok, hM, hlm, q⟩ := h
  walk_at "go"
  refine g_cut (fun σ' H' => ∃ (p : Addr) (v3 : Option V), σ' = [some (.ref S), some (.ref M), some (.ref p), v3] ∧ H p = none ∧ Step [] H H' ∧ Told H H' p (mvd xs ms)) ?_ ?_
  · walk_at "go"
    refine ⟨S, M, xs, ms, rfl, hS, tok, hM, hlm, fun D ts H' e hD fr nd s6 T => ?_, fun d r H' e hd s6 x6 => ?_⟩
    · walk_at "go"
      exact ⟨D, _, rfl, hD, s6, by rw [e]; exact ⟨ts, rfl, fr, nd, T⟩⟩
    · rw [e]
      cases r with
      | ticket z =>
        refine ⟨true, em_NoTicket_NoTicket C, fun _ a ha => ?_, fun z => nomatch z⟩
        walk_at "go"
        refine g_kXf x6 rfl ?_
        walk_at "go"
        intro p H8 hp t8 e8
        exact ⟨p, _, rfl, s6.fresh hp, s6.trans t8, e8⟩
      | place z =>
        refine ⟨false, em_NoPlace_NoTicket C, fun z => (nomatch z), fun _ => ⟨true, em_NoPlace_NoPlace C, fun _ a ha => ?_, fun z => nomatch z⟩⟩
        walk_at "go"
        refine g_kXf x6 rfl ?_
        walk_at "go"
        intro p H8 hp t8 e8
        exact ⟨p, _, rfl, s6.fresh hp, s6.trans t8, e8⟩
      | taken z =>
        refine ⟨false, em_Taken_NoTicket C, fun z => (nomatch z), fun _ => ⟨false, em_Taken_NoPlace C, fun z => (nomatch z), fun _ => ⟨true, em_Taken_Taken C, fun _ a ha => ?_, fun z => nomatch z⟩⟩⟩
        walk_at "go"
        refine g_kXf x6 rfl ?_
        walk_at "go"
        intro p H8 hp t8 e8
        exact ⟨p, _, rfl, s6.fresh hp, s6.trans t8, e8⟩
  · rintro σ' H' ⟨p, v3, rfl, hp, s6, w⟩
    walk_at "go"
    exact q p H' hp s6 w
end

end My
namespace My
open PySem PySem.Spec PyProof.Rows L2
/-! what is told is alike -/
def LsOk (hs : List Str) : Prop := (∀ z ∈ hs, IsNm z) ∧ hs.length ≤ 10
def TOk (xs : Tb) : Prop := (xs.map (·.1)).Nodup ∧ (∀ p ∈ xs, LsOk p.2) ∧ xs.length ≤ 12
def ROk : Except Rf Tb → Prop
  | .ok ys => TOk ys
  | .error (.taken z) => IsNm z
  | .error _ => True
theorem TbOk.tok {xs : Tb} (h : TbOk xs) : TOk xs := ⟨h.nd, fun p hp => ⟨(h.nm p hp).2.1, (h.nm p hp).2.2.2⟩, h.len⟩
theorem lookI_mem {xs : Tb} {i : Int} {hs : List Str} (h : lookI xs i = some hs) : (i, hs) ∈ xs := by
  unfold lookI at h
  obtain ⟨p, hp1, hp2⟩ := Option.map_eq_some_iff.mp h
  have h1 := List.mem_of_find?_eq_some hp1
  have h2 := List.find?_some hp1
  have h2 : p.1 = i := by simpa using h2
  rw [← hp2, ← h2]
  exact h1
theorem LsOk.set {hs : List Str} {z : Str} (k : Nat) (h : LsOk hs) (hz : IsNm z) : LsOk (hs.set k z) := ⟨fun y hy => by
  rcases List.mem_or_eq_of_mem_set hy with hy | rfl
  · exact h.1 y hy
  · exact hz, by rw [List.length_set]; exact h.2⟩
theorem TOk.set {xs : Tb} {k : Int} {hs : List Str} (h : TOk xs) (hl : LsOk hs) : TOk (setT xs k hs) := by
  refine ⟨?_, fun p hp => ?_, by unfold setT; rw [List.length_map]; exact h.2.2⟩
  · have : (setT xs k hs).map (·.1) = xs.map (·.1) := by
      unfold setT
      rw [List.map_map]
      refine List.map_congr_left fun t _ => ?_
      by_cases h : t.1 = k <;> simp [h]
    rw [this]; exact h.1
  · obtain ⟨t, ht, e⟩ := List.mem_map.mp hp
    by_cases hk : t.1 = k
    · rw [if_pos hk] at e; subst e; exact hl
    · rw [if_neg hk] at e; subst e; exact h.2.1 _ ht
theorem mv1_rok {xs : Tb} {m : Mv} (h : TOk xs) (hm : IsNm m.2.2.2) : ROk (mv1 xs m) := by
  unfold mv1
  cases e : lookI xs m.1 with
  | none => trivial
  | some hs =>
    dsimp only
    split
    · split
      · exact hm
      · exact h.set ((h.2.1 _ (lookI_mem e)).set _ hm)
    · trivial
theorem mvd_rok : ∀ {ms : List Mv} {xs : Tb}, TOk xs → (∀ m ∈ ms, IsNm m.2.2.2) → ROk (mvd xs ms)
  | [], _, h, _ => h
  | m :: ms, xs, h, hm => by
    rw [mvd_cons]
    have h1 := mv1_rok h (hm m (List.mem_cons_self ..))
    cases e : mv1 xs m with
    | error r => rw [e] at h1; exact h1
    | ok ys => rw [e] at h1; exact mvd_rok h1 fun z hz => hm z (List.mem_cons_of_mem _ hz)
theorem Told.step0 {H0 H H' : Hp} {p : Addr} {r : Except Rf Tb} (h : Told H0 H p r) (s : Step [] H H') : Told H0 H' p r := by
  cases r with
  | ok ys =>
    obtain ⟨ts, h1, h2, h3, h4⟩ := h
    exact ⟨ts, h1, h2, h3, h4.step0 s⟩
  | error r => exact s.at0 h
def rfD : Rf → PyData
  | .ticket i => .int i
  | .place i => .int i
  | .taken z => .str z
theorem rfS_ok (r : Rf) : StrOk (rfS r) := by
  cases r
  · show PyData.strOk "ticket" = true; decide +kernel
  · show PyData.strOk "place" = true; decide +kernel
  · show PyData.strOk "taken" = true; decide +kernel
theorem rf_dp {K : PySem.W.Frag} {H : Hp} {p : Addr} {r : Rf} (h : H p = some (.tup [.str (rfS r), rfV r])) : Dp K H (.ref p) (.tuple [.str (rfS r), rfD r]) := by
  refine .tup (SqT.of h) (.cons (.str _) (.cons ?_ .nil))
  cases r <;> first | exact .int _ | exact .str _
theorem rf_shaped {r : Rf} (h : ROk (.error r)) : SeqAt.shaped (.tuple [.str (rfS r), rfD r]) = true := by
  cases r with
  | ticket i => exact (cP2 (K := default) cS cI).shaped (x := (rfS (.ticket i), i)) ⟨rfS_ok _, trivial⟩
  | place i => exact (cP2 (K := default) cS cI).shaped (x := (rfS (.place i), i)) ⟨rfS_ok _, trivial⟩
  | taken z => exact (cP2 (K := default) cS cS).shaped (x := (rfS (.taken z), z)) ⟨rfS_ok _, IsNm.ok h⟩
theorem rf_eqv (r : Rf) : PyData.eqv (.tuple [.str (rfS r), rfD r]) (.tuple [.str (rfS r), rfD r]) = true := by
  cases r <;> simp [rfD, PyData.eqv, PyData.eqvAll]
section
variable {K : PySem.W.Frag} {H0 H1 H : Hp} {p p2 : Addr} {r : Except Rf Tb} {Q : VK}
theorem told_eq (h1 : Told H0 H p r) (h2 : Told H1 H p2 r) (ok : ROk r) (q : Q (.bl true) H) : rEqX K (.ref p) (.ref p2) H Q := by
  cases r with
  | ok ys =>
    obtain ⟨ts, rfl, _, _, T⟩ := h1
    obtain ⟨us, e, _, _, U⟩ := h2
    have U2 := U.rp
    rw [e] at U2
    exact .inr (g_eqDD (cL cS) T.rp U2 (fun z hz y hy => ((ok.2.1 z hz).1 y hy).ok) ok.1 q)
  | error r => exact .inl (g_eqD (rf_dp h1) (rf_dp h2) (rf_shaped ok) (rf_shaped ok) (by rw [rf_eqv]; exact q))
theorem told_ne (h1 : Told H0 H p r) (h2 : Told H1 H p2 r) (ok : ROk r) (q : Q (.bl false) H) : rNeX K (.ref p) (.ref p2) H Q := by
  cases r with
  | ok ys =>
    obtain ⟨ts, rfl, _, _, T⟩ := h1
    obtain ⟨us, e, _, _, U⟩ := h2
    have U2 := U.rp
    rw [e] at U2
    exact .inr (g_neDD (cL cS) T.rp U2 (fun z hz y hy => ((ok.2.1 z hz).1 y hy).ok) ok.1 q)
  | error r => exact .inl (g_neD (rf_dp h1) (rf_dp h2) (rf_shaped ok) (rf_shaped ok) (by rw [rf_eqv]; exact q))
/-- whether it is a dict -/
def Told.isD : Except Rf Tb → Bool
  | .ok _ => true
  | .error _ => false
theorem told_isD (h1 : Told H0 H p r) (q : Q (.bl (Told.isD r)) H) : rIsi K [.ref p, .ty "dict"] H Q := by
  cases r with
  | ok ys =>
    obtain ⟨ts, rfl, _, _, T⟩ := h1
    exact g_isiDD T.dk q
  | error r => exact g_isiTD h1 q
theorem told_isT (h1 : Told H0 H p r) (q : Q (.bl (!Told.isD r)) H) : rIsi K [.ref p, .ty "tuple"] H Q := by
  cases r with
  | ok ys =>
    obtain ⟨ts, rfl, _, _, T⟩ := h1
    exact g_isiDT T.dk q
  | error r => exact g_isiTT h1 q
end
/-- objects that are new to H may change -/
theorem Step.viaM {H H1 H2 : Hp} {m n : List Addr} (x : Step m H H1) (y : Step n H1 H2) (h : ∀ b ∈ n, H b = none) : Step m H H2 := ⟨fun c o k e => y.keep c o (fun z => by rw [h c z] at e; cases e) (x.keep c o k e), fun c e => x.live c (y.live c e)⟩
def sp_w_right : Sp := fun vs H Q _ => ∃ (a : Addr) (c : Nat), vs = [.ref a] ∧ PotAt H a c ∧ c < 2 ^ 40 ∧ ∀ H', Step [a] H H' → Q (.bl true) H'
section
variable {P : Program} {w : World} {K : PySem.W.Frag} {mg : Str → Option Value} {base : Heap}
theorem ok_w_right (C : Ctx K mg) : Has P w K mg base CX0 5 "_law_right" ["pot"] sp_w_right := by
  obtain ⟨fd, F⟩ := fn_w_right C
  obtain ⟨f_w_houses, fd_w_houses, G_w_houses, mg_w_houses, kp_w_houses, b_w_houses⟩ := (ok_w_houses (P := P) (w := w) (base := base) C).ex
  obtain ⟨f_w_table, fd_w_table, G_w_table, mg_w_table, kp_w_table, b_w_table⟩ := (ok_w_table (P := P) (w := w) (base := base) C).ex
  obtain ⟨f_w_moves, fd_w_moves, G_w_moves, mg_w_moves, kp_w_moves, b_w_moves⟩ := (ok_w_moves (P := P) (w := w) (base := base) C).ex
  obtain ⟨f_w_copy, fd_w_copy, G_w_copy, mg_w_copy, kp_w_copy, b_w_copy⟩ := (ok_w_copy (P := P) (w := w) (base := base) C).ex
  obtain ⟨f_w_due, fd_w_due, G_w_due, mg_w_due, kp_w_due, b_w_due⟩ := (ok_w_due (P := P) (w := w) (base := base) C).ex
  obtain ⟨f_w_asked, fd_w_asked, G_w_asked, mg_w_asked, kp_w_asked, b_w_asked⟩ := (ok_w_asked (P := P) (w := w) (base := base) C).ex
  refine ⟨⟨_, fd, ?_, gl_w_right C, F.kp, F.bindsN fun _ _ _ _ _ _ us hl => match us, hl with | [_], _ => rfl⟩⟩
  refine F.ok (CX := CX0) sc_w_right (fun vs H Q E h => ?_) (fun cdv A outer s H vs Q E hr h => ?_)
  · first | (obtain ⟨_, rfl, _⟩ := h; rfl) | (obtain ⟨_, _, rfl, _⟩ := h; rfl) | (obtain ⟨_, _, _, rfl, _⟩ := h; rfl) | (obtain ⟨_, _, _, _, rfl, _⟩ := h; rfl) | (obtain ⟨_, _, _, _, _, rfl, _⟩ := h; rfl) | (obtain ⟨_, _, _, _, _, _, rfl, _⟩ := h; rfl) | (obtain ⟨_, _, _, _, _, _, _, rfl, _⟩ := h; rfl) | (obtain ⟨_, _, _, _, _, _, _, _, rfl, _⟩ := h; rfl) | (obtain ⟨_, _, _, _, _, _, _, _, _, rfl, _⟩ := h; rfl) | (obtain ⟨_, _, _, _, _, _, _, _, _, _, rfl, _⟩ := h; rfl) | (obtain ⟨_, _, _, _, _, _, _, _, _, _, _, rfl, _⟩ := h; rfl) | (obtain ⟨_, _, _, _, _, _, _, _, _, _, _, _, rfl, _⟩ := h; rfl)
  have hu := hu_of hr
  refine ⟨_, PSs.nox (pss_cons (ps_set (i := 1) sc_w_right.nd rfl (Or.inl rfl) (pe_call G_w_houses (hr.mono (by decide)) rfl mg_w_houses kp_w_houses b_w_houses .nil pass0 (pa_cons (pv 0) (pa_cons pe_int pa_nil))))
    (pss_cons (ps_set (i := 2) sc_w_right.nd rfl (Or.inl rfl) (pe_call G_w_table (hr.mono (by decide)) rfl mg_w_table kp_w_table b_w_table .nil pass0 (pa_cons (pv 0) (pa_cons (pv 1) (pa_cons pe_int pa_nil)))))
    (pss_cons (ps_set (i := 3) sc_w_right.nd rfl (Or.inl rfl) (pe_call G_w_moves (hr.mono (by decide)) rfl mg_w_moves kp_w_moves b_w_moves .nil pass0 (pa_cons (pv 0) (pa_cons (pv 1) (pa_cons (pv 2) pa_nil)))))
    (pss_cons (ps_set (i := 4) sc_w_right.nd rfl (Or.inl rfl) (pe_call G_w_copy (hr.mono (by decide)) rfl mg_w_copy kp_w_copy b_w_copy .nil pass0 (pa_cons (pv 2) pa_nil)))
    (pss_cons (ps_set (i := 5) sc_w_right.nd rfl (Or.inl rfl) (pe_callTy cr_listL (by rfl) (fr_list C) (by decide +kernel) (pa_cons (pv 3) pa_nil)))
    (pss_cons (ps_set (i := 6) sc_w_right.nd rfl (Or.inl rfl) (pe_call G_w_due (hr.mono (by decide)) rfl mg_w_due kp_w_due b_w_due .nil pass0 (pa_cons (pv 2) (pa_cons (pv 3) pa_nil))))
    (pss_cons (ps_set (i := 7) sc_w_right.nd rfl (Or.inl rfl) (pe_call G_w_asked (hr.mono (by decide)) rfl mg_w_asked kp_w_asked b_w_asked .nil pass0 (pa_cons (pv 4) (pa_cons (pv 5) pa_nil))))
    (pss_cons (ps_if (pt_cut (PW.pt (pw_or (pt_cmpR (op_neX (unit2 hr)) (pv 7) (pv 6) (nomark _)) (pw_or (pt_cmpR op_ne (pe_callB call_isi (by rfl) (fr_isinstance C) (by decide +kernel) (pa_cons (pv 7) (pa_cons (pe_bltn (v := .ty "dict") (by rfl) (fr_dict C) (by decide +kernel) rfl) pa_nil))) (pe_callB call_isi (by rfl) (fr_isinstance C) (by decide +kernel) (pa_cons (pv 6) (pa_cons (pe_bltn (v := .ty "dict") (by rfl) (fr_dict C) (by decide +kernel) rfl) pa_nil))) (nomark _)) (pw_or (pt_cmpR (op_neDD (unit2 hr)) (pv 4) (pv 2) (nomark _)) (pw_or1 (pt_cmpR (op_neD hr.units) (pv 5) (pv 3) (nomark _)))))))) (pss_one (ps_ret pe_bl)) pss_nil)
    (pss_cons (ps_if (pt_val (pe_callB call_isi (by rfl) (fr_isinstance C) (by decide +kernel) (pa_cons (pv 6) (pa_cons (pe_bltn (v := .ty "tuple") (by rfl) (fr_tuple C) (by decide +kernel) rfl) pa_nil)))) (pss_one (ps_ret pe_bl)) pss_nil)
    (pss_cons (ps_lock (ps_for PassesOwn.never rfl (pi_keys (pv 7)) (pg_name (i := 8) sc_w_right.nd rfl (Or.inl rfl))
    (pss_one (ps_expr (pe_bm PySem.F.plainAttrs_list PySem.F.slot_list_append PySem.F.type_list_append mt_append (pe_dget hu (pv 7) (pv 8) (fun _ _ => rfl)) (pa_cons pe_str pa_nil))))))
    (pss_one (ps_ret (pe_and (pe_cmpR (op_eqDD (unit2 hr)) (pv 4) (pv 2) (nomark _)) (pe_one (pe_cmpR (op_eqX (unit2 hr)) (pe_call G_w_asked (hr.mono (by decide)) rfl mg_w_asked kp_w_asked b_w_asked .nil pass0 (pa_cons (pv 4) (pa_cons (pv 5) pa_nil))) (pv 6) (nomark _)))))))))))))))), ?_⟩
  obtain ⟨a, c, rfl, hp, hc, q⟩ := h
  walk_at "go"
  refine ⟨a, _, _, rfl, by decide, by decide, hp, by omega, fun R rows H1 hR lr nr okr s1 e1 p1 => ?_⟩
  walk_at "go"
  refine ⟨a, R, rows, _, _, rfl, e1, okr, nr, by omega, by decide, by decide, p1, by omega, fun S xs H2 hS tok lx s2 e2 p2 => ?_⟩
  walk_at "go"
  refine ⟨a, R, S, rows, xs, _, rfl, mL mRow _ _ _ _ s2.le e1, okr, nr, by omega, e2, tok, p2, by omega, fun M ms H3 hM okm lm s3 e3 p3 => ?_⟩
  walk_at "go"
  have S3 : rTb H3 (.ref S) xs := mTb _ _ _ _ hide_le (mTb _ _ _ _ s3.le e2)
  refine ⟨S, xs, rfl, S3, tok.nd, by omega, fun T ts H4 hT fr nt et s4 T4 => ?_⟩
  walk_at "go"
  have M4 : rL rMv H4 (.ref M) ms := mL mMv _ _ _ _ s4.le0 (mL mMv _ _ _ _ hide_le e3)
  obtain ⟨_, mvs, ⟨⟩, hM4, hMp⟩ := id M4
  refine g_listL hM4 fun N H5 hN s5 e5 => ?_
  have M5 : rL rMv H5 (.ref M) ms := mL mMv _ _ _ _ s5.le0 M4
  have N5 : rL rMv H5 (.ref N) ms := ⟨N, mvs, rfl, e5, Pmap hMp fun v x r => mMv _ _ _ _ s5.le0 r⟩
  have S5 : rTb H5 (.ref S) xs := mTb _ _ _ _ (s4.trans s5).le0 S3
  walk_at "go"
  refine ⟨S, M, xs, ms, rfl, S5, tok, M5, by omega, fun D H6 hD s6 d6 => ?_⟩
  walk_at "go"
  have T6 := (T4.step0 s5).step0 s6
  have T6r : rTb H6 (.ref T) xs := by rw [← et]; exact T6.rp
  have N6 : rL rMv H6 (.ref N) ms := mL mMv _ _ _ _ s6.le0 N5
  refine ⟨T, N, xs, ms, rfl, T6r, tok, N6, by omega, fun F2 H7 hF s7 f7 => ?_⟩
  walk_at "go"
  have d7 := d6.step0 s7
  have rok := mvd_rok (ms := ms) tok.tok fun m hm => (okm m hm).to
  have S7 : rTb H7 (.ref S) xs := mTb _ _ _ _ (s6.trans s7).le0 S5
  have M7 : rL rMv H7 (.ref M) ms := mL mMv _ _ _ _ (s6.trans s7).le0 M5
  have N7 : rL rMv H7 (.ref N) ms := mL mMv _ _ _ _ s7.le0 N6
  have T7r : rTb H7 (.ref T) xs := mTb _ _ _ _ s7.le0 T6r
  have Sa : Step [a] H H7 := ((s1.trans s2).trans s3).trans (((s4.trans s5).trans (s6.trans s7)).up)
  refine g_tcut (fun b H' => b = false ∧ H' = H7) ?_ ?_
  · walk_at "go"
    refine told_ne f7 d7 rok ?_
    walk_at "go"
    refine iteF ?_
    walk_at "go"
    refine told_isD f7 ?_
    walk_at "go"
    refine told_isD d7 ?_
    refine g_ne rfl ?_
    walk_at "go"
    rw [decide_eq_true rfl]
    refine iteF ?_
    walk_at "go"
    refine g_neDD (cL cS) T7r S7 (fun z hz y hy => ((tok.nm z hz).2.1 y hy).ok) tok.nd ?_
    walk_at "go"
    refine iteF ?_
    walk_at "go"
    have oks : ∀ m ∈ ms, True ∧ True ∧ (∀ x, m.2.2.1 = some x → StrOk x) ∧ StrOk m.2.2.2 := fun m hm => ⟨trivial, trivial, fun x hx => by
      rcases (okm m hm).fr with e | e
      · rw [e] at hx; cases hx
      · rw [e] at hx; cases hx; exact (okm m hm).to.ok, (okm m hm).to.ok⟩
    refine g_neC (cL (cP4 cI cI cOS cS)) N7 M7 oks oks ?_
    · walk_at "go"
      rw [decide_eq_true rfl]
      exact ⟨rfl, rfl⟩
  · rintro b H' ⟨rfl, rfl⟩
    refine iteF ?_
    walk_at "go"
    refine told_isT d7 ?_
    walk_at "go"
    cases hr : mvd xs ms with
    | error r =>
      refine iteT ?_
      walk_at "go"
      exact q H' Sa
    | ok ys =>
      refine iteF ?_
      walk_at "go"
      rw [hr] at f7 rok
      obtain ⟨us, rfl, ufr, und, U⟩ := f7
      have unk : (us.map (·.1)).Nodup := by
        have := rok.1
        unfold tbOf at this
        rwa [List.map_map] at this
      have ulen : us.length ≤ 12 := by
        have := rok.2.2
        unfold tbOf at this
        rwa [List.length_map] at this
      have uls : ∀ t ∈ us, t.2.2.length ≤ 10 := fun t ht => (rok.2.1 (t.1, t.2.2) (List.mem_map.mpr ⟨t, ht, rfl⟩)).2
      have uF : ∀ t ∈ us, t.2.1 ≠ F2 := fun t ht e => by
        have := U.ls t ht
        rw [e, U.dk] at this
        cases this
      refine g_lock U.dk fun od H8 s8 e8 => ?_
      walk_at "go"
      have U8 : ∀ t ∈ us, H8 t.2.1 = some (.lst (t.2.2.map V.str)) := fun t ht => s8.at1 (U.ls t ht) (uF t ht)
      have new6 : ∀ b ∈ F2 :: us.map (·.2.1), H6 b = none := fun b hb => by
        rcases List.mem_cons.mp hb with rfl | hb
        · exact hF
        · obtain ⟨t, ht, rfl⟩ := List.mem_map.mp hb
          exact ufr t ht
      refine g_kKeys e8 (wFor_keys (fun i σ Hx => ∃ v8 : Option V, σ = [some (.ref a), some (.ref R), some (.ref S), some (.ref M), some (.ref T), some (.ref N), some (.ref D), some (.ref F2), v8] ∧ Hx F2 = some (.frz od (.dK (us.map fun t => ((Sum.inl t.1 : Key), V.ref t.2.1)))) ∧ (∀ t ∈ us, ∃ vs, Hx t.2.1 = some (.lst vs) ∧ vs.length ≤ 10 + i) ∧ Step (F2 :: us.map (·.2.1)) H' Hx)
        ⟨none, rfl, e8, fun t ht => ⟨_, U8 t ht, by rw [List.length_map]; exact uls t ht⟩, s8.sub1 _ (List.mem_cons_self ..)⟩ ?_ ?_ ?_)
      · rintro i σ H9 _ ⟨v8, rfl, g1, g2, g3⟩
        exact g1
      · rintro i p σ H9 hx ⟨v8, rfl, g1, g2, g3⟩
        rw [List.getElem?_map, Option.map_eq_some_iff] at hx
        obtain ⟨t, ht, rfl⟩ := hx
        have hi : i < us.length := (List.getElem?_eq_some_iff.mp ht).1
        have ht := List.mem_of_getElem? ht
        walk_at "go"
        have hval : valV (us.map fun t => ((Sum.inl t.1 : Key), V.ref t.2.1)) (Sum.inl t.1) = some (.ref t.2.1) := by
          refine valV_of_mem ?_ (List.mem_map.mpr ⟨t, ht, rfl⟩)
          rw [List.map_map]
          have e : (us.map ((fun x : Key × V => x.1) ∘ fun t => ((Sum.inl t.1 : Key), V.ref t.2.1))) = (us.map (·.1)).map Sum.inl := by rw [List.map_map]; rfl
          rw [e]
          exact nodup_map_of (fun a b e => Sum.inl.inj e) unk
        refine g_kDGet (.inr ⟨od, g1⟩) hval ?_
        obtain ⟨vs, hvs, lvs⟩ := g2 t ht
        walk_at "go"
        refine g_append hvs (ltLine (by omega)) fun H10 s10 e10 => ?_
        refine ⟨_, rfl, s10.at1 g1 (uF t ht).symm, fun u hu => ?_, g3.and1 s10 (List.mem_cons_of_mem _ (List.mem_map.mpr ⟨t, ht, rfl⟩))⟩
        by_cases hut : u.2.1 = t.2.1
        · rw [hut]
          exact ⟨_, e10, by rw [List.length_append, List.length_singleton]; omega⟩
        · obtain ⟨ws, h1, h2⟩ := g2 u hu
          exact ⟨ws, s10.at1 h1 hut, by omega⟩
      · rintro σ H9 ⟨v8, rfl, g1, g2, g3⟩
        refine g_lk g1 fun H10 s10 e10 => ?_
        have St : Step [] H6 H10 := s7.viaM (g3.and1 s10 (List.mem_cons_self ..)) new6
        have S10 : rTb H10 (.ref S) xs := mTb _ _ _ _ St.le0 (mTb _ _ _ _ s6.le0 S5)
        have T10 : rTb H10 (.ref T) xs := mTb _ _ _ _ St.le0 T6r
        have N10 : rL rMv H10 (.ref N) ms := mL mMv _ _ _ _ St.le0 N6
        have Sf : Step [a] H H10 := ((s1.trans s2).trans s3).trans (((s4.trans s5).trans (s6.trans St)).up)
        walk_at "go"
        refine g_eqDD (cL cS) T10 S10 (fun z hz y hy => ((tok.nm z hz).2.1 y hy).ok) tok.nd ?_
        walk_at "go"
        refine iteT ?_
        walk_at "go"
        refine ⟨T, N, xs, ms, rfl, T10, tok, N10, by omega, fun F3 H11 hF3 s11 f11 => ?_⟩
        walk_at "go"
        have d11 := (d6.step0 St).step0 s11
        rw [hr] at f11 d11
        exact told_eq f11 d11 rok (q H11 (Sf.trans s11.up))
end

end My
namespace My
open PySem PySem.Spec PyProof.Rows L2
/-! the law -/
theorem sq_step0 {K : PySem.W.Frag} {H H' : Hp} {a : Addr} {xs : List V} (h : SqL K H a xs) (s : Step [] H H') : SqL K H' a xs := by
  rcases h with (h | ⟨o, h⟩) | h
  · exact .inl (.inl (s.at0 h))
  · exact .inl (.inr ⟨o, s.at0 h⟩)
  · exact .inr h
def sp_law (K : PySem.W.Frag) : Sp := fun vs H Q _ => ∃ (p : Addr) (ns : List Int), vs = [.ref p] ∧ SqL K H p (ns.map V.int) ∧ ∀ H', Q (.bl true) H'
section
variable {P : Program} {w : World} {K : PySem.W.Frag} {mg : Str → Option Value} {base : Heap}
theorem ok_law (C : Ctx K mg) {fd : FuncData} (F : FunD K "law" "law" (defArgs s_law) (defBody s_law) (defScope s_law) [] [] (He.fAd K ("law", none)) fd) : FnOk P w K mg base CX0 6 (He.fAd K ("law", none)) fd ["script"] (sp_law K) := by
  obtain ⟨f_w_right, fd_w_right, G_w_right, mg_w_right, kp_w_right, b_w_right⟩ := (ok_w_right (P := P) (w := w) (base := base) C).ex
  obtain ⟨f_w_pot, fd_w_pot, G_w_pot, mg_w_pot, kp_w_pot, b_w_pot⟩ := (ok_w_pot (P := P) (w := w) (base := base) C).ex
  obtain ⟨f_w_cell_at, fd_w_cell_at, G_w_cell_at, mg_w_cell_at, kp_w_cell_at, b_w_cell_at⟩ := (ok_w_cell_at (P := P) (w := w) (base := base) C).ex
  refine F.ok (CX := CX0) sc_law (fun vs H Q E h => ?_) (fun cdv A outer s H vs Q E hr h => ?_)
  · obtain ⟨_, _, rfl, _⟩ := h
    rfl
  have hu := hu_of hr
  refine ⟨_, PSs.nox (pss_cons (ps_for PassesOwn.never rfl (pi_range1 rfl (fr_range C) (pa_cons (pe_callB (cr_max2 rfl) (by rfl) (fr_max C) (by decide +kernel) (pa_cons pe_int (pa_cons (pe_callB (cr_min2 rfl) (by rfl) (fr_min C) (by decide +kernel) (pa_cons pe_int (pa_cons (pe_callB cr_lenL (by rfl) (fr_len C) PySem.boot_len (pa_cons (pv 0) pa_nil)) pa_nil))) pa_nil))) pa_nil)) (pg_name (i := 1) sc_law.nd rfl (Or.inl rfl))
    (pss_one (ps_if (pt_not (pt_val (pe_call G_w_right (hr.mono (by decide)) rfl mg_w_right kp_w_right b_w_right .nil pass0 (pa_cons (pe_call G_w_pot (hr.mono (by decide)) rfl mg_w_pot kp_w_pot b_w_pot .nil pass0 (pa_cons (pe_call G_w_cell_at (hr.mono (by decide)) rfl mg_w_cell_at kp_w_cell_at b_w_cell_at .nil pass0 (pa_cons (pv 0) (pa_cons (pv 1) pa_nil))) pa_nil)) pa_nil)))) (pss_one (ps_ret pe_bl)) pss_nil)))
    (pss_one (ps_ret pe_bl))), ?_⟩
  obtain ⟨p, ns, rfl, hS, q⟩ := h
  walk_at "go"
  refine g_kRng1 (by omega) (by omega) ?_
  refine wFor_rng (fun i σ H' => ∃ v1 : Option V, σ = [some (.ref p), v1] ∧ SqL K H' p (ns.map V.int)) ⟨_, rfl, hS⟩ ?_ ?_
  · rintro i σ H1 hi ⟨v1, rfl, h1⟩
    simp only [Int.zero_add]
    walk_at "go"
    refine ⟨p, ns, i, rfl, h1, fun z => ?_⟩
    walk_at "go"
    refine ⟨z, rfl, fun b H2 hb s2 p2 => ?_⟩
    walk_at "go"
    refine ⟨b, 0, rfl, p2, by decide, fun H3 s3 => ?_⟩
    walk_at "go"
    refine iteF ?_
    walk_at "go"
    exact ⟨_, rfl, sq_step0 h1 (s2.via s3 hb)⟩
  · rintro σ H1 ⟨v1, rfl, h1⟩
    walk_at "go"
    exact q H1
end

end My
namespace My
open PySem PySem.Spec PyProof.Rows L2
/-! the head -/
abbrev Rw : PySem.W.OpenRow := PySem.W.OpenLaw.row PySem.Challenge.rw_sherdhall_k77_moves_done
abbrev hk : PySem.W.Hook := hookX 4 ck fn
def ob (s : PySem.W.SharedT) : AlX := obsXG 4 ck fn (HandSHeadRun.getT s)
theorem ob_eq (s : PySem.W.SharedT) : ob s = hk.obs s.abs := obsXG_eq (HandSHeadRun.getT_eq s)
def loose : List Str := ["SherdError", "NoPlace", "Taken", "NoTicket", "moved", "_law_cell_at", "_law_pot", "_law_pick", "_law_name", "_law_names", "_law_houses", "_law_mixed", "_law_tickets", "_law_homes", "_law_table", "_law_copy", "_law_moves", "_law_due", "_law_asked", "_law_right"]
theorem run (w : World) : HandSHeadRun.RunEq Rw (PySem.W.view Rw.prog [23]) hk ob 2000 loose w := by
  intro os
  kernel_rfl

end My
namespace My
open PySem PySem.Spec PyProof.Rows L2
theorem facts {P : Program} {w : World} {K : PySem.W.Frag} {h : Heap} {mg : Str → Option Value} {f : Addr} (X : K.In h) (G : h.Ns mainGlobals mg) (hfa : mg ("law" : Str) = some (.ref f)) (c : SaysX ck fn K) :
    ∃ fd : FuncData, (∀ (s : Shared) (v : Value), BindsTo s fd ⟨[v], []⟩ [("script", v)]) ∧ ∀ base : Heap, K.In base → base.Ns mainGlobals mg → FnOk P w K mg base CX0 6 f fd ["script"] (sp_law K) := by
  have C : Ctx K mg := ⟨⟨_, X, G⟩, c⟩
  obtain ⟨fd, F⟩ := fn_law C
  have e := hfa.symm.trans (gl_law C)
  cases e
  have b := FunD.bindsA (ps := ["script"]) F fun _ _ _ _ _ _ us hl => match us, hl with | [_], _ => rfl
  exact ⟨fd, fun s v => b s [v] rfl, fun base _ _ => ok_law C F⟩
end My
open PySem PySem.W PySem.Calls PyProof.Rows
theorem PySem.Challenge.cw_sherdhall_k77_moves_done_holds : PySem.Challenge.rw_sherdhall_k77_moves_done.Holds := by
  w_on; o_law
  refine HandSHeadRun.head_any (r := OpenLaw.row PySem.Challenge.rw_sherdhall_k77_moves_done) (q := view (OpenLaw.row PySem.Challenge.rw_sherdhall_k77_moves_done).prog [23]) (H := My.hk) (ob := My.ob) (M := 2000) (loose := My.loose) (d := HandSHeadRun.topDef (OpenLaw.row PySem.Challenge.rw_sherdhall_k77_moves_done).prog 23) (kwd := []) My.ob_eq
    (by kernel_rfl) (fun s => by kernel_rfl) My.run (by kernel_rfl) (by kernel_rfl) (by kernel_rfl) (by rfl) (by first | assumption | decide +kernel) (by decide +kernel) ⟨rfl, rfl, rfl, rfl, rfl, by decide +kernel⟩ ?hw ?hc
  case hw => w_witness2
  case hc =>
    refine L2.walk_ofE (l := PySem.Challenge.rw_sherdhall_k77_moves_done) (n := 63) (k := 6) (x := "script") (CX := L2.CX0) rfl (by decide) (by kernel_rfl) ⟨rfl, by decide, by decide⟩ ?F (fun _ _ _ _ z => z)
    intro w mg fa h Y G hmg0
    obtain ⟨K, KX, c⟩ := Y
    have hmg : mg ("law" : PySem.Str) = some (.ref fa) := by
      have e : (HandSHeadRun.topDef (OpenLaw.row PySem.Challenge.rw_sherdhall_k77_moves_done).prog 23).name = ("law" : PySem.Str) := by kernel_rfl
      rw [← e]
      exact hmg0
    obtain ⟨fd, hb, hF⟩ := My.facts (P := (PySem.Challenge.rw_sherdhall_k77_moves_done).prog) (w := w) KX G hmg c
    exact ⟨K, fd, My.sp_law K, KX, hb, fun H a ns hl _ hS => ⟨a, ns, rfl, hS, fun _ => rfl⟩, hF⟩
namespace My

end My
